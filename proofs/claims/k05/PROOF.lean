import PyProof.Rows.All
import Wide.All
import OpenK.AllK
import Wide.FinOn
import HandS.ForMost
import HandS.ForExc
import HandS.TupAny
import HandS.Defaults
import HandS.MakeKw
import HandS.MakeKwOnly
import HandS.Property
import HandS.HeadWalk
import HandS.DictComp
import HandS.Zip
import HandS.Comp
import KE.KOpsOwn
import KE.KCallOwn
import HandS.Text
import HandS.OwnEq
import HandS.Style
import HandS.Flow
import HandS.IsInst
import HandS.Conv
import HandS.ListItems
import HandS.SortInts
import PyProof.EqAt
import PyProof.EqKinds
import PyProof.TupleCall
import HandS.Base
import HandS.Call
import HandS.List
import KE.DataEq
import HandS.DictEq
import HandS.Star
import PyProof.RulesMatch
import HandS.NoneIn
import HandS.TryOnly
import HandS.Small
import PyProof.FactsIdx
import HandS.TryMany
import HandS.ExcOwn
import HandS.HeadEnd
import HandS.HeadHook1
import HandS.HeadHook2
import HandS.Ends
import KE.KStateDown
import HandS.Head0
import HandS.Head1
import HandS.Head2
import PySem.Challenge.RW_steadyloop_k05_whole_numbers
set_option Elab.async false
set_option linter.all false
set_option maxRecDepth 100000
set_option maxHeartbeats 0
section
/-! Z1: the abstract values, objects, heaps, results; how they stand for the layer's. -/
namespace Z
open PySem PySem.Spec PyProof.Rows L2

/-! ## values, objects, heaps -/
inductive AV where
  | non | bl (b : Bool) | int (i : Int) | str (x : Str) | fn (k : Nat) | cl (k : Nat) | ref (i : Nat) | tn | tc (h t : AV) | fz (t : AV) | ft (t : AV)
  deriving DecidableEq
def AV.tup : List AV → AV
  | [] => .tn
  | v :: r => .tc v (AV.tup r)
/-- a tuple's items -/
def AV.items : AV → Option (List AV)
  | .tn => some []
  | .tc h t => match t.items with
    | some r => some (h :: r)
    | none => none
  | _ => none
inductive AO where
  | lst (xs : List AV)
  | dct (t : Bool) (lk : Nat) (kvs : List (AV × AV))
  | ins (c : Nat) (fs : List (Nat × AV))
/-- the stamp of a walk: l + 1, or 0 -/
def AO.lk : AO → Nat
  | .dct _ l _ => l
  | _ => 0

inductive Tr where
  | e | b (o : Option AO) (l r : Tr)
def Tr.get : Tr → Nat → Option AO
  | .e, _ => none
  | .b o l r, i => match i with
    | 0 => o
    | j + 1 => match j % 2 with
      | 0 => l.get (j / 2)
      | _ => r.get (j / 2)
def Tr.new : Nat → Nat → AO → Tr
  | 0, _, o => .b (some o) .e .e
  | f + 1, i, o => match i with
    | 0 => .b (some o) .e .e
    | j + 1 => match j % 2 with
      | 0 => .b none (Tr.new f (j / 2) o) .e
      | _ => .b none .e (Tr.new f (j / 2) o)
def Tr.put : Tr → Nat → AO → Tr
  | .e, i, o => Tr.new i i o
  | .b x l r, i, o => match i with
    | 0 => .b (some o) l r
    | j + 1 => match j % 2 with
      | 0 => .b x (l.put (j / 2) o) r
      | _ => .b x l (r.put (j / 2) o)
theorem get_e (j : Nat) : Tr.get .e j = none := by unfold Tr.get; rfl
theorem get_b0 (x : Option AO) (l r : Tr) : Tr.get (.b x l r) 0 = x := by unfold Tr.get; rfl
theorem get_bL (x : Option AO) (l r : Tr) (j : Nat) (h : j % 2 = 0) : Tr.get (.b x l r) (j + 1) = l.get (j / 2) := by
  conv => lhs; unfold Tr.get
  simp only [h]
theorem get_bR (x : Option AO) (l r : Tr) (j : Nat) (h : j % 2 ≠ 0) : Tr.get (.b x l r) (j + 1) = r.get (j / 2) := by
  conv => lhs; unfold Tr.get
  have : j % 2 = 1 := by omega
  simp only [this]
theorem get_new : ∀ (f i : Nat) (o : AO) (j : Nat), i ≤ f → (Tr.new f i o).get j = if j = i then some o else none := by
  intro f
  induction f with
  | zero =>
    intro i o j h
    have hi : i = 0 := by omega
    subst hi
    unfold Tr.new
    cases j with
    | zero => rw [get_b0, if_pos rfl]
    | succ j =>
      rw [if_neg (by omega)]
      by_cases q : j % 2 = 0
      · rw [get_bL _ _ _ _ q, get_e]
      · rw [get_bR _ _ _ _ q, get_e]
  | succ f ih =>
    intro i o j h
    unfold Tr.new
    cases i with
    | zero =>
      cases j with
      | zero => rw [get_b0, if_pos rfl]
      | succ j =>
        rw [if_neg (by omega)]
        by_cases q : j % 2 = 0
        · exact (get_bL _ _ _ _ q).trans (get_e _)
        · exact (get_bR _ _ _ _ q).trans (get_e _)
    | succ i =>
      by_cases q : i % 2 = 0
      · simp only [q]
        cases j with
        | zero => rw [get_b0, if_neg (by omega)]
        | succ j =>
          by_cases p : j % 2 = 0
          · rw [get_bL _ _ _ _ p, ih _ _ _ (by omega)]
            by_cases e : j / 2 = i / 2
            · rw [if_pos e, if_pos (by omega)]
            · rw [if_neg e, if_neg (by omega)]
          · rw [get_bR _ _ _ _ p, get_e, if_neg (by omega)]
      · have q1 : i % 2 = 1 := by omega
        simp only [q1]
        cases j with
        | zero => rw [get_b0, if_neg (by omega)]
        | succ j =>
          by_cases p : j % 2 = 0
          · rw [get_bL _ _ _ _ p, get_e, if_neg (by omega)]
          · rw [get_bR _ _ _ _ p, ih _ _ _ (by omega)]
            by_cases e : j / 2 = i / 2
            · rw [if_pos e, if_pos (by omega)]
            · rw [if_neg e, if_neg (by omega)]
theorem get_put : ∀ (t : Tr) (i : Nat) (o : AO) (j : Nat), (t.put i o).get j = if j = i then some o else t.get j := by
  intro t
  induction t with
  | e =>
    intro i o j
    unfold Tr.put
    rw [get_new _ _ _ _ (Nat.le_refl _), get_e]
  | b x l r il ir =>
    intro i o j
    unfold Tr.put
    cases i with
    | zero =>
      cases j with
      | zero => rw [if_pos rfl]; exact get_b0 _ _ _
      | succ j =>
        rw [if_neg (by omega)]
        by_cases q : j % 2 = 0
        · exact (get_bL _ _ _ _ q).trans (get_bL _ _ _ _ q).symm
        · exact (get_bR _ _ _ _ q).trans (get_bR _ _ _ _ q).symm
    | succ i =>
      by_cases q : i % 2 = 0
      · simp only [q]
        cases j with
        | zero => rw [get_b0, if_neg (by omega), get_b0]
        | succ j =>
          by_cases p : j % 2 = 0
          · rw [get_bL _ _ _ _ p, il, get_bL _ _ _ _ p]
            by_cases e : j / 2 = i / 2
            · rw [if_pos e, if_pos (by omega)]
            · rw [if_neg e, if_neg (by omega)]
          · rw [get_bR _ _ _ _ p, get_bR _ _ _ _ p, if_neg (by omega)]
      · have q1 : i % 2 = 1 := by omega
        simp only [q1]
        cases j with
        | zero => rw [get_b0, if_neg (by omega), get_b0]
        | succ j =>
          by_cases p : j % 2 = 0
          · rw [get_bL _ _ _ _ p, get_bL _ _ _ _ p, if_neg (by omega)]
          · rw [get_bR _ _ _ _ p, ir, get_bR _ _ _ _ p]
            by_cases e : j / 2 = i / 2
            · rw [if_pos e, if_pos (by omega)]
            · rw [if_neg e, if_neg (by omega)]

structure AH where
  n : Nat
  t : Tr
def AH.get (A : AH) (i : Nat) : Option AO := A.t.get i
def AH.push (A : AH) (o : AO) : AH := ⟨A.n + 1, A.t.put A.n o⟩
def AH.set (A : AH) (i : Nat) (o : AO) : AH := ⟨A.n, A.t.put i o⟩
theorem AH.get_push (A : AH) (o : AO) (j : Nat) : (A.push o).get j = if j = A.n then some o else A.get j := get_put _ _ _ _
theorem AH.get_set (A : AH) (i : Nat) (o : AO) (j : Nat) : (A.set i o).get j = if j = i then some o else A.get j := get_put _ _ _ _
def AH.lkAt (A : AH) (i : Nat) : Nat := match A.get i with
  | some o => o.lk
  | none => 0
/-- a dict is locked, with a new stamp -/
def AH.lockA (A : AH) (i : Nat) (t : Bool) (kvs : List (AV × AV)) : AH := ⟨A.n + 1, A.t.put i (.dct t (A.n + 1) kvs)⟩
theorem AH.get_lock (A : AH) (i : Nat) (t : Bool) (kvs : List (AV × AV)) (j : Nat) : (A.lockA i t kvs).get j = if j = i then some (.dct t (A.n + 1) kvs) else A.get j := get_put _ _ _ _
@[simp] theorem AH.n_push (A : AH) (o : AO) : (A.push o).n = A.n + 1 := rfl
@[simp] theorem AH.n_set (A : AH) (i : Nat) (o : AO) : (A.set i o).n = A.n := rfl

/-! ## results -/
abbrev Sl := List (Option AV)
inductive RE where
  | ok (v : AV) (A : AH) | ex (c : Nat) (fs : List (Nat × AV)) (A : AH) | bad
inductive RL where
  | ok (vs : List AV) (A : AH) | ex (c : Nat) (fs : List (Nat × AV)) (A : AH) | bad
inductive RS where
  | nx (s : Sl) (A : AH) | rt (v : AV) (A : AH) | bk (s : Sl) (A : AH) | ct (s : Sl) (A : AH) | ex (c : Nat) (fs : List (Nat × AV)) (s : Sl) (A : AH) | bad
abbrev EV := Sl → AH → RE
abbrev SV := Sl → AH → RS
def RE.bd (r : RE) (k : AV → AH → RE) : RE := match r with
  | .ok v A => k v A
  | .ex c fs A => .ex c fs A
  | .bad => .bad
def RE.bs (r : RE) (s : Sl) (k : AV → AH → RS) : RS := match r with
  | .ok v A => k v A
  | .ex c fs A => .ex c fs s A
  | .bad => .bad
def RL.bd (r : RL) (k : List AV → AH → RE) : RE := match r with
  | .ok v A => k v A
  | .ex c fs A => .ex c fs A
  | .bad => .bad
def RE.bl (r : RE) (k : AV → AH → RL) : RL := match r with
  | .ok v A => k v A
  | .ex c fs A => .ex c fs A
  | .bad => .bad
def RS.bd (r : RS) (k : Sl → AH → RS) : RS := match r with
  | .nx s A => k s A
  | r => r

/-! ## what they stand for -/
structure Tbl where
  fa : Nat → Addr
  ca : Nat → Addr
  at_ : Nat → Str
section
variable (T : Tbl) (K : PySem.W.Frag)
/-- a list that is read alone, and stays -/
def FzL (H : Hp) (a : Addr) (xs : List V) : Prop := (∃ o, H a = some (.frz o (.lst xs))) ∨ SqL K (fun _ => none) a xs
mutual
def RV (f : Nat → Addr) (n : Nat) (H : Hp) : AV → V → Prop
  | .non, u => u = .non
  | .bl b, u => u = .bl b
  | .int i, u => u = .int i
  | .str x, u => u = .str x
  | .fn k, u => u = .ref (T.fa k)
  | .cl k, u => u = .ref (T.ca k)
  | .ref i, u => i < n ∧ u = .ref (f i)
  | .tn, u => ∃ a, u = .ref a ∧ H a = some (.tup [])
  | .tc h t, u => ∃ a x xs, u = .ref a ∧ H a = some (.tup (x :: xs)) ∧ RV f n H h x ∧ RVt f n H t xs
  | .fz t, u => ∃ a xs, u = .ref a ∧ FzL K H a xs ∧ RVt f n H t xs
  | .ft t, u => ∃ a xs, u = .ref a ∧ SqT K (fun _ => none) a xs ∧ RVt f n H t xs
def RVt (f : Nat → Addr) (n : Nat) (H : Hp) : AV → List V → Prop
  | .tn, xs => xs = []
  | .tc h t, xs => ∃ x r, xs = x :: r ∧ RV f n H h x ∧ RVt f n H t r
  | .non, _ => False
  | .bl _, _ => False
  | .int _, _ => False
  | .str _, _ => False
  | .fn _, _ => False
  | .cl _, _ => False
  | .ref _, _ => False
  | .fz _, _ => False
  | .ft _, _ => False
end
abbrev RVs (f : Nat → Addr) (n : Nat) (H : Hp) : List AV → List V → Prop := Paired (RV T K f n H)
/-- tuples persist -/
structure HE (H H' : Hp) : Prop where
  tp : ∀ a xs, H a = some (.tup xs) → H' a = some (.tup xs)
  fz : ∀ a xs, FzL K H a xs → FzL K H' a xs
end
section
variable {T : Tbl} {K : PySem.W.Frag} {f f' : Nat → Addr} {n n' : Nat} {H H' H1 H2 : Hp}
theorem FzL.sq {a : Addr} {xs : List V} (h : FzL K H a xs) : SqL K H a xs := by
  rcases h with ⟨o, e⟩ | e
  · exact .inl (.inr ⟨o, e⟩)
  · rcases e with e | e
    · rcases e with e | ⟨o, e⟩ <;> cases e
    · exact .inr e
theorem HE.rf : HE K H H := ⟨fun _ _ h => h, fun _ _ h => h⟩
theorem HE.tr (a : HE K H H1) (b : HE K H1 H2) : HE K H H2 := ⟨fun p xs h => b.tp p xs (a.tp p xs h), fun p xs h => b.fz p xs (a.fz p xs h)⟩
theorem RV.mn (he : HE K H H') (hf : ∀ i, i < n → f' i = f i) (hn : n ≤ n') : ∀ (v : AV), (∀ u, RV T K f n H v u → RV T K f' n' H' v u) ∧ ∀ xs, RVt T K f n H v xs → RVt T K f' n' H' v xs := by
  intro v
  induction v with
  | non => exact ⟨fun u h => h, fun xs h => h.elim⟩
  | bl b => exact ⟨fun u h => h, fun xs h => h.elim⟩
  | int i => exact ⟨fun u h => h, fun xs h => h.elim⟩
  | str i => exact ⟨fun u h => h, fun xs h => h.elim⟩
  | fn i => exact ⟨fun u h => h, fun xs h => h.elim⟩
  | cl i => exact ⟨fun u h => h, fun xs h => h.elim⟩
  | ref i => exact ⟨fun u h => ⟨Nat.lt_of_lt_of_le h.1 hn, by rw [hf i h.1]; exact h.2⟩, fun xs h => h.elim⟩
  | tn => exact ⟨fun u ⟨a, e, q⟩ => ⟨a, e, he.tp _ _ q⟩, fun xs h => h⟩
  | tc h t ih it => exact ⟨fun u ⟨a, x, xs, e, q, r, rs⟩ => ⟨a, x, xs, e, he.tp _ _ q, ih.1 _ r, it.2 _ rs⟩, fun xs ⟨x, r, e, q, qs⟩ => ⟨x, r, e, ih.1 _ q, it.2 _ qs⟩⟩
  | fz t it => exact ⟨fun u ⟨a, xs, e, q, rs⟩ => ⟨a, xs, e, he.fz _ _ q, it.2 _ rs⟩, fun xs h => h.elim⟩
  | ft t it => exact ⟨fun u ⟨a, xs, e, q, rs⟩ => ⟨a, xs, e, q, it.2 _ rs⟩, fun xs h => h.elim⟩
theorem RV.mono {v : AV} {u : V} (h : RV T K f n H v u) (he : HE K H H') (hf : ∀ i, i < n → f' i = f i) (hn : n ≤ n') : RV T K f' n' H' v u := (RV.mn he hf hn v).1 u h
theorem RVs.mono {vs : List AV} {us : List V} (h : RVs T K f n H vs us) (he : HE K H H') (hf : ∀ i, i < n → f' i = f i) (hn : n ≤ n') : RVs T K f' n' H' vs us := Paired.mono (fun _ _ r => RV.mono r he hf hn) h
/-- a tuple's reading -/
theorem RV.tup_of : ∀ {t : AV} {vs : List AV} {u : V}, t.items = some vs → RV T K f n H t u → ∃ a xs, u = .ref a ∧ H a = some (.tup xs) ∧ RVt T K f n H t xs
  | .tn, vs, u, _, h => by obtain ⟨a, e, q⟩ := h; exact ⟨a, [], e, q, rfl⟩
  | .tc h t, vs, u, _, r => by obtain ⟨a, x, xs, e, q, r1, r2⟩ := r; exact ⟨a, _, e, q, ⟨x, xs, rfl, r1, r2⟩⟩
theorem RVt.vals : ∀ {t : AV} {vs : List AV} {xs : List V}, t.items = some vs → RVt T K f n H t xs → RVs T K f n H vs xs
  | .tn, vs, xs, e, h => by
    have e1 : vs = [] := by unfold AV.items at e; cases e; rfl
    have e2 : xs = [] := h
    rw [e1, e2]; exact .nil
  | .tc h t, vs, xs, e, r => by
    obtain ⟨x, ys, e2, r1, r2⟩ := r
    unfold AV.items at e
    cases q : t.items with
    | none => rw [q] at e; cases e
    | some r => rw [q] at e; cases e; rw [e2]; exact .cons r1 (RVt.vals q r2)
theorem items_tup : ∀ vs : List AV, (AV.tup vs).items = some vs
  | [] => rfl
  | v :: r => by show (match (AV.tup r).items with | some r => some (v :: r) | none => none) = _; rw [items_tup r]
theorem RVt.of : ∀ {vs : List AV} {xs : List V}, RVs T K f n H vs xs → RVt T K f n H (AV.tup vs) xs
  | [], _, .nil => rfl
  | v :: vs, _, .cons r rs => ⟨_, _, rfl, r, RVt.of rs⟩
theorem RV.of_tup {vs : List AV} {xs : List V} {a : Addr} (h : RVs T K f n H vs xs) (q : H a = some (.tup xs)) : RV T K f n H (AV.tup vs) (.ref a) := by
  cases h with
  | nil => exact ⟨a, rfl, q⟩
  | cons r rs => exact ⟨a, _, _, rfl, q, r, RVt.of rs⟩
theorem RV.tup_vals {t : AV} {vs : List AV} {u : V} (e : t.items = some vs) (r : RV T K f n H t u) : ∃ a xs, u = .ref a ∧ H a = some (.tup xs) ∧ RVs T K f n H vs xs := by
  obtain ⟨a, xs, e1, q, rs⟩ := RV.tup_of e r
  exact ⟨a, xs, e1, q, rs.vals e⟩
end

/-! ## keys -/
def kA : Key → AV
  | .inl i => .int i
  | .inr x => .str x
def kT (ks : List Key) : AV := AV.tup (ks.map kA)
def keyOf : AV → Option Key
  | .int i => some (.inl i)
  | .str x => some (.inr x)
  | _ => none
theorem keyOf_ok {v : AV} {k : Key} (h : keyOf v = some k) : kA k = v := by
  cases v <;> (try (cases h)) <;> rfl
def keysOf : AV → Option (List Key)
  | .tn => some []
  | .tc h t => match keyOf h, keysOf t with
    | some k, some r => some (k :: r)
    | _, _ => none
  | _ => none
theorem keysOf_ok : ∀ {v : AV} {ks : List Key}, keysOf v = some ks → kT ks = v
  | .tn, ks, h => by unfold keysOf at h; cases h; rfl
  | .tc a t, ks, h => by
    unfold keysOf at h
    cases e1 : keyOf a with
    | none => rw [e1] at h; cases h
    | some k =>
      cases e2 : keysOf t with
      | none => rw [e1, e2] at h; cases h
      | some r =>
        rw [e1, e2] at h
        cases h
        show AV.tc (kA k) (AV.tup (r.map kA)) = _
        rw [keyOf_ok e1]
        exact congrArg _ (keysOf_ok e2)
theorem kA_inj {a b : Key} (h : kA a = kA b) : a = b := by
  cases a <;> cases b <;> cases h <;> rfl
theorem kT_inj : ∀ {a b : List Key}, kT a = kT b → a = b
  | [], [], _ => rfl
  | [], _ :: _, h => by cases h
  | _ :: _, [], h => by cases h
  | x :: a, y :: b, h => by
    have h' : AV.tc (kA x) (kT a) = AV.tc (kA y) (kT b) := h
    injection h' with h1 h2
    rw [kA_inj h1, kT_inj h2]

/-! ## objects and heaps -/
section
variable (T : Tbl) (K : PySem.W.Frag)
/-- a dict's object, or the same while it is walked -/
def Lk (H : Hp) (lk : Nat) (a : Addr) (u : HO) : Prop := match lk with
  | 0 => H a = some u
  | _ + 1 => ∃ o, H a = some (.frz o u)
def OR (f : Nat → Addr) (n : Nat) (H : Hp) : AO → Addr → Prop
  | .lst xs, a => ∃ vs, H a = some (.lst vs) ∧ RVs T K f n H xs vs
  | .dct false lk kvs, a => ∃ ws : List (Key × V), Lk H lk a (.dK ws) ∧ Paired (fun (p : AV × AV) (q : Key × V) => p.1 = kA q.1 ∧ RV T K f n H p.2 q.2) kvs ws
  | .dct true lk kvs, a => ∃ ws : List (List Key × V), Lk H lk a (.dT ws) ∧ Paired (fun (p : AV × AV) (q : List Key × V) => p.1 = kT q.1 ∧ RV T K f n H p.2 q.2) kvs ws
  | .ins c fs, a => ∃ dx ws, H a = some (.ins (T.ca c) dx ws) ∧ Paired (fun (p : Nat × AV) (q : Str × V) => T.at_ p.1 = q.1 ∧ RV T K f n H p.2 q.2) fs ws
structure Rel (f : Nat → Addr) (A : AH) (H : Hp) : Prop where
  ob : ∀ i o, A.get i = some o → i < A.n ∧ OR T K f A.n H o (f i)
  inj : ∀ i j o o', A.get i = some o → A.get j = some o' → f i = f j → i = j
  lkb : ∀ i l, A.lkAt i = l + 1 → l < A.n
structure Stp (f : Nat → Addr) (A : AH) (H : Hp) (f' : Nat → Addr) (A' : AH) (H' : Hp) : Prop where
  rel : Rel T K f' A' H'
  le : A.n ≤ A'.n
  eq : ∀ i, i < A.n → f' i = f i
  he : HE K H H'
  src : ∀ i l, A.lkAt i = l + 1 → i < A.n ∧ l < A.n
  lk : ∀ i l, A.lkAt i = l + 1 → A'.lkAt i = l + 1 → H' (f i) = H (f i)
  st : ∀ i l, l < A.n → A'.lkAt i = l + 1 → A.lkAt i = l + 1
def SR (f : Nat → Addr) (n : Nat) (H : Hp) (s : Sl) (σ : L2.St) : Prop :=
  s.length = σ.length ∧ ∀ (i : Nat) v, s[i]? = some (some v) → ∃ u, σ[i]? = some (some u) ∧ RV T K f n H v u
end
section
variable {T : Tbl} {K : PySem.W.Frag} {f f' f'' : Nat → Addr} {A A' A'' : AH} {H H' H'' : Hp}
theorem Rel.src (r : Rel T K f A H) (i l : Nat) (h : A.lkAt i = l + 1) : i < A.n ∧ l < A.n := by
  refine ⟨?_, r.lkb i l h⟩
  unfold AH.lkAt at h
  cases e : A.get i with
  | none => rw [e] at h; cases h
  | some o => exact (r.ob i o e).1
theorem Stp.rfl' (r : Rel T K f A H) : Stp T K f A H f A H := ⟨r, Nat.le_refl _, fun _ _ => rfl, .rf, r.src, fun _ _ _ _ => rfl, fun _ _ _ h => h⟩
theorem Stp.trans (a : Stp T K f A H f' A' H') (b : Stp T K f' A' H' f'' A'' H'') : Stp T K f A H f'' A'' H'' :=
  ⟨b.rel, Nat.le_trans a.le b.le, fun i h => (b.eq i (Nat.lt_of_lt_of_le h a.le)).trans (a.eq i h), a.he.tr b.he, a.src, fun i l h h' => by
    obtain ⟨h1, h2⟩ := a.src i l h
    have m := b.st i l (Nat.lt_of_lt_of_le h2 a.le) h'
    have z := b.lk i l m h'
    rw [a.eq i h1] at z
    exact z.trans (a.lk i l h m), fun i l hl h => a.st i l hl (b.st i l (Nat.lt_of_lt_of_le hl a.le) h)⟩
theorem Stp.rv (a : Stp T K f A H f' A' H') {v : AV} {u : V} (h : RV T K f A.n H v u) : RV T K f' A'.n H' v u := h.mono a.he a.eq a.le
theorem Stp.rvs (a : Stp T K f A H f' A' H') {v : List AV} {u : List V} (h : RVs T K f A.n H v u) : RVs T K f' A'.n H' v u := RVs.mono h a.he a.eq a.le
theorem Stp.sr (a : Stp T K f A H f' A' H') {s : Sl} {σ : L2.St} (h : SR T K f A.n H s σ) : SR T K f' A'.n H' s σ :=
  ⟨h.1, fun i v e => let ⟨u, e1, r⟩ := h.2 i v e; ⟨u, e1, a.rv r⟩⟩
theorem Lk.mono {lk : Nat} {a : Addr} {u : HO} (h : Lk H lk a u) (ha : ∀ u, H a = some u → H' a = some u) : Lk H' lk a u := by
  cases lk with
  | zero => exact ha _ h
  | succ l => obtain ⟨o, e⟩ := h; exact ⟨o, ha _ e⟩
theorem Lk.rd {lk : Nat} {a : Addr} {u : HO} (h : Lk H lk a u) : Rd H a u := by
  cases lk with
  | zero => exact .inl h
  | succ l => exact .inr h
/-- an object's reading where its own address stands as it was -/
theorem OR.mono {n n' : Nat} {o : AO} {a : Addr} (h : OR T K f n H o a) (he : HE K H H') (hf : ∀ i, i < n → f' i = f i) (hn : n ≤ n') (ha : ∀ u, H a = some u → H' a = some u) : OR T K f' n' H' o a := by
  cases o with
  | lst xs => obtain ⟨vs, e, r⟩ := h; exact ⟨vs, ha _ e, RVs.mono r he hf hn⟩
  | dct t lk kvs =>
    cases t with
    | false => obtain ⟨ws, e, r⟩ := h; exact ⟨ws, e.mono ha, Paired.mono (fun _ _ q => ⟨q.1, RV.mono q.2 he hf hn⟩) r⟩
    | true => obtain ⟨ws, e, r⟩ := h; exact ⟨ws, e.mono ha, Paired.mono (fun _ _ q => ⟨q.1, RV.mono q.2 he hf hn⟩) r⟩
  | ins c fs => obtain ⟨dx, ws, e, r⟩ := h; exact ⟨dx, ws, ha _ e, Paired.mono (fun _ _ q => ⟨q.1, RV.mono q.2 he hf hn⟩) r⟩
/-- what is tracked of an object -/
theorem OR.at {n : Nat} {o : AO} {a : Addr} (h : OR T K f n H o a) : ∃ u, H a = some u := by
  cases o with
  | lst xs => obtain ⟨vs, e, r⟩ := h; exact ⟨_, e⟩
  | dct t lk kvs =>
    cases t <;> cases lk
    · obtain ⟨ws, e, r⟩ := h; exact ⟨_, e⟩
    · obtain ⟨ws, ⟨o, e⟩, r⟩ := h; exact ⟨_, e⟩
    · obtain ⟨ws, e, r⟩ := h; exact ⟨_, e⟩
    · obtain ⟨ws, ⟨o, e⟩, r⟩ := h; exact ⟨_, e⟩
  | ins c fs => obtain ⟨dx, ws, e, r⟩ := h; exact ⟨_, e⟩
/-- everything tracked stands -/
def HS (H H' : Hp) : Prop := ∀ a u, H a = some u → H' a = some u
theorem HS.upd {p : Addr} {o : HO} (h : H p = none) : HS H (upd H p o) := fun a u e => by
  have ne : a ≠ p := fun z => by rw [z, h] at e; cases e
  rw [upd_ne ne]; exact e
theorem HS.tr (a : HS H H') (b : HS H' H'') : HS H H'' := fun p u e => b p u (a p u e)
theorem HS.rd {a : Addr} {u : HO} (h : HS H H') (r : Rd H a u) : Rd H' a u := r.elim (fun e => .inl (h _ _ e)) fun ⟨o, e⟩ => .inr ⟨o, h _ _ e⟩
theorem HS.he (h : HS H H') : HE K H H' := ⟨fun a xs q => h _ _ q, fun a xs q => q.elim (fun ⟨o, e⟩ => .inl ⟨o, h _ _ e⟩) .inr⟩
/-- nothing new in the abstract heap -/
theorem Rel.same (r : Rel T K f A H) (h : HS H H') : Stp T K f A H f A H' :=
  ⟨⟨fun i o e => ⟨(r.ob i o e).1, (r.ob i o e).2.mono h.he (fun _ _ => rfl) (Nat.le_refl _) (h _)⟩, r.inj, r.lkb⟩, Nat.le_refl _, fun _ _ => rfl, h.he, r.src, fun i l e _ => by
    unfold AH.lkAt at e
    cases q : A.get i with
    | none => rw [q] at e; cases e
    | some o => obtain ⟨u, hu⟩ := (r.ob i o q).2.at; rw [hu, h _ _ hu], fun _ _ _ h => h⟩
def ext (f : Nat → Addr) (n : Nat) (p : Addr) : Nat → Addr := fun i => if i = n then p else f i
theorem ext_at {n : Nat} {p : Addr} : ext f n p n = p := if_pos rfl
theorem ext_lt {n : Nat} {p : Addr} {i : Nat} (h : i < n) : ext f n p i = f i := if_neg (Nat.ne_of_lt h)
/-- a new object -/
theorem Rel.add (r : Rel T K f A H) {p : Addr} {o : AO} (hs : HS H H') (hp : H p = none) (new : OR T K (ext f A.n p) (A.n + 1) H' o p) (h0 : o.lk = 0 := by rfl) : Stp T K f A H (ext f A.n p) (A.push o) H' := by
  have ne : ∀ i u, A.get i = some u → f i ≠ p := fun i u e z => by
    obtain ⟨w, q⟩ := (r.ob i u e).2.at
    rw [z, hp] at q; cases q
  have new_lk : ∀ i l, (A.push o).lkAt i = l + 1 → A.lkAt i = l + 1 := fun i l h => by
    unfold AH.lkAt at h ⊢
    rw [AH.get_push] at h
    by_cases e : i = A.n
    · rw [if_pos e] at h
      simp only [h0] at h
      cases h
    · rw [if_neg e] at h; exact h
  refine ⟨⟨fun i u e => ?_, fun i j u u' e e' q => ?_, fun i l h => Nat.lt_succ_of_lt (r.lkb i l (new_lk i l h))⟩, Nat.le_succ _, fun i h => ext_lt h, hs.he, r.src, fun i l e _ => by
    unfold AH.lkAt at e
    cases q : A.get i with
    | none => rw [q] at e; cases e
    | some o => obtain ⟨u, hu⟩ := (r.ob i o q).2.at; rw [hu, hs _ _ hu], fun i l _ h => new_lk i l h⟩
  · rw [AH.get_push] at e
    by_cases h : i = A.n
    · rw [if_pos h] at e
      cases e
      rw [h, ext_at]
      exact ⟨Nat.lt_succ_self _, new⟩
    · rw [if_neg h] at e
      obtain ⟨l, q⟩ := r.ob i u e
      rw [ext_lt l]
      exact ⟨Nat.lt_succ_of_lt l, q.mono hs.he (fun j hj => ext_lt hj) (Nat.le_succ _) (hs _)⟩
  · rw [AH.get_push] at e e'
    by_cases h : i = A.n
    · by_cases h' : j = A.n
      · rw [h, h']
      · rw [if_neg h'] at e'
        rw [h, ext_at, ext_lt (r.ob j u' e').1] at q
        exact absurd q.symm (ne j u' e')
    · rw [if_neg h] at e
      by_cases h' : j = A.n
      · rw [h', ext_at, ext_lt (r.ob i u e).1] at q
        exact absurd q (ne i u e)
      · rw [if_neg h'] at e'
        rw [ext_lt (r.ob j u' e').1, ext_lt (r.ob i u e).1] at q
        exact r.inj i j u u' e e' q
/-- an object changed -/
theorem Rel.chg (r : Rel T K f A H) {i : Nat} {o o' : AO} (hi : A.get i = some o) (ho : ∀ a, a ≠ f i → H' a = H a) (he : HE K H H') (new : OR T K f A.n H' o' (f i)) (h0 : o'.lk = 0 := by rfl) : Stp T K f A H f (A.set i o') H' := by
  have new_lk : ∀ j l, (A.set i o').lkAt j = l + 1 → j ≠ i ∧ A.lkAt j = l + 1 := fun j l h => by
    unfold AH.lkAt at h ⊢
    rw [AH.get_set] at h
    by_cases e : j = i
    · rw [if_pos e] at h
      simp only [h0] at h
      cases h
    · rw [if_neg e] at h; exact ⟨e, h⟩
  refine ⟨⟨fun j u e => ?_, fun j k u u' e e' q => ?_, fun j l h => r.lkb j l (new_lk j l h).2⟩, Nat.le_refl _, fun _ _ => rfl, he, r.src, fun j l e h => by
    obtain ⟨ne, h⟩ := new_lk j l h
    unfold AH.lkAt at h
    cases q : A.get j with
    | none => rw [q] at h; cases h
    | some w => exact ho _ fun z => ne (r.inj j i w o q hi z), fun j l _ h => (new_lk j l h).2⟩
  · rw [AH.get_set] at e
    by_cases h : j = i
    · rw [if_pos h] at e
      cases e
      rw [h]
      exact ⟨(r.ob i o hi).1, new⟩
    · rw [if_neg h] at e
      obtain ⟨l, q⟩ := r.ob j u e
      have ne : f j ≠ f i := fun z => h (r.inj j i u o e hi z)
      exact ⟨l, q.mono he (fun _ _ => rfl) (Nat.le_refl _) fun u e => (ho _ ne).trans e⟩
  · have hget : ∀ j u, (A.set i o').get j = some u → ∃ u0, A.get j = some u0 := fun j u e => by
      rw [AH.get_set] at e
      by_cases h : j = i
      · rw [h]; exact ⟨_, hi⟩
      · rw [if_neg h] at e; exact ⟨_, e⟩
    obtain ⟨_, e1⟩ := hget j u e
    obtain ⟨_, e2⟩ := hget k u' e'
    exact r.inj j k _ _ e1 e2 q
/-- a dict is locked -/
theorem Rel.lock (r : Rel T K f A H) {i : Nat} {t : Bool} {kvs : List (AV × AV)} (hi : A.get i = some (.dct t 0 kvs)) (ho : ∀ a, a ≠ f i → H' a = H a) (he : HE K H H') (new : OR T K f A.n H' (.dct t (A.n + 1) kvs) (f i)) : Stp T K f A H f (A.lockA i t kvs) H' := by
  have new_lk : ∀ j l, (A.lockA i t kvs).lkAt j = l + 1 → (j = i ∧ l = A.n) ∨ (j ≠ i ∧ A.lkAt j = l + 1) := fun j l h => by
    unfold AH.lkAt at h ⊢
    rw [AH.get_lock] at h
    by_cases e : j = i
    · rw [if_pos e] at h
      exact .inl ⟨e, (Nat.succ.inj h).symm⟩
    · rw [if_neg e] at h; exact .inr ⟨e, h⟩
  have hf : ∀ j, j < A.n → f j = f j := fun _ _ => rfl
  refine ⟨⟨fun j u e => ?_, fun j k u u' e e' q => ?_, fun j l h => ?_⟩, Nat.le_succ _, fun _ _ => rfl, he, r.src, fun j l e h => ?_, fun j l hl h => ?_⟩
  · rw [AH.get_lock] at e
    by_cases h : j = i
    · rw [if_pos h] at e
      cases e
      rw [h]
      exact ⟨Nat.lt_succ_of_lt (r.ob i _ hi).1, new.mono .rf hf (Nat.le_succ _) fun _ q => q⟩
    · rw [if_neg h] at e
      obtain ⟨l, q⟩ := r.ob j u e
      have ne : f j ≠ f i := fun z => h (r.inj j i u _ e hi z)
      exact ⟨Nat.lt_succ_of_lt l, q.mono he hf (Nat.le_succ _) fun u e => (ho _ ne).trans e⟩
  · have hget : ∀ j u, (A.lockA i t kvs).get j = some u → ∃ u0, A.get j = some u0 := fun j u e => by
      rw [AH.get_lock] at e
      by_cases h : j = i
      · rw [h]; exact ⟨_, hi⟩
      · rw [if_neg h] at e; exact ⟨_, e⟩
    obtain ⟨_, e1⟩ := hget j u e
    obtain ⟨_, e2⟩ := hget k u' e'
    exact r.inj j k _ _ e1 e2 q
  · rcases new_lk j l h with ⟨_, e⟩ | ⟨_, e⟩
    · rw [e]; exact Nat.lt_succ_self _
    · exact Nat.lt_succ_of_lt (r.lkb j l e)
  · rcases new_lk j l h with ⟨e1, e2⟩ | ⟨ne, h⟩
    · exact absurd (r.lkb j l e) (by rw [e2]; exact Nat.lt_irrefl _)
    · unfold AH.lkAt at h
      cases q : A.get j with
      | none => rw [q] at h; cases h
      | some w => exact ho _ fun z => ne (r.inj j i w _ q hi z)
  · rcases new_lk j l h with ⟨e1, e2⟩ | ⟨ne, h⟩
    · rw [e2] at hl; exact absurd hl (Nat.lt_irrefl _)
    · exact h
/-- a store at an object that is neither a tuple nor locked -/
theorem he_upd {a : Addr} {o u : HO} (h : H a = some u) (h1 : ∀ xs, u ≠ .tup xs) (h2 : ∀ ob z, u ≠ .frz ob z) : HE K H (upd H a o) := by
  refine ⟨fun b xs e => ?_, fun b xs q => ?_⟩
  · have ne : b ≠ a := fun z => by rw [z, h] at e; exact h1 xs (Option.some.inj e)
    rw [upd_ne ne]; exact e
  · rcases q with ⟨ob, e⟩ | r
    · have ne : b ≠ a := fun z => by rw [z, h] at e; exact h2 _ _ (Option.some.inj e)
      exact .inl ⟨ob, by rw [upd_ne ne]; exact e⟩
    · exact .inr r
end
end Z
end
section
/-! Z2: what a result asks; the readings of expressions, tests, lists, targets, statements; the plain forms. -/
namespace Z
open PySem PySem.Spec PyProof.Rows L2

section
variable (T : Tbl) (K : PySem.W.Frag) (W : WX)
/-- the own dict of an exception -/
def XR (f : Nat → Addr) (n : Nat) (H : Hp) (fs : List (Nat × AV)) (d : Option Addr) : Prop :=
  fs = [] ∨ ∃ x ws, d = some x ∧ H x = some (.xd ws) ∧ Paired (fun (p : Nat × AV) (q : Str × V) => T.at_ p.1 = q.1 ∧ RV T K f n H p.2 q.2) fs ws
def Post (f : Nat → Addr) (A : AH) (H : Hp) (σ : L2.St) (Q : VK) : RE → Prop
  | .ok v A' => ∀ f' H' u, Stp T K f A H f' A' H' → RV T K f' A'.n H' v u → Q u H'
  | .ex c fs A' => ∀ f' H' d, Stp T K f A H f' A' H' → XR T K f' A'.n H' fs d → W (.ref (T.ca c)) d σ H'
  | .bad => False
def PostL (f : Nat → Addr) (A : AH) (H : Hp) (σ : L2.St) (Q : List V → Hp → Prop) : RL → Prop
  | .ok vs A' => ∀ f' H' us, Stp T K f A H f' A' H' → RVs T K f' A'.n H' vs us → Q us H'
  | .ex c fs A' => ∀ f' H' d, Stp T K f A H f' A' H' → XR T K f' A'.n H' fs d → W (.ref (T.ca c)) d σ H'
  | .bad => False
def PostB (f : Nat → Addr) (A : AH) (H : Hp) (σ : L2.St) (Q : Bool → Hp → Prop) : RE → Prop
  | .ok (.bl b) A' => ∀ f' H', Stp T K f A H f' A' H' → Q b H'
  | .ok _ _ => False
  | .ex c fs A' => ∀ f' H' d, Stp T K f A H f' A' H' → XR T K f' A'.n H' fs d → W (.ref (T.ca c)) d σ H'
  | .bad => False
def PostS (f : Nat → Addr) (A : AH) (H : Hp) (D : Ends) : RS → Prop
  | .nx s A' => ∀ f' H' σ', Stp T K f A H f' A' H' → SR T K f' A'.n H' s σ' → D.nx σ' H'
  | .bk s A' => ∀ f' H' σ', Stp T K f A H f' A' H' → SR T K f' A'.n H' s σ' → D.bk σ' H'
  | .ct s A' => ∀ f' H' σ', Stp T K f A H f' A' H' → SR T K f' A'.n H' s σ' → D.ct σ' H'
  | .rt v A' => ∀ f' H' u, Stp T K f A H f' A' H' → RV T K f' A'.n H' v u → D.rt u H'
  | .ex c fs s A' => ∀ f' H' σ' d, Stp T K f A H f' A' H' → SR T K f' A'.n H' s σ' → XR T K f' A'.n H' fs d → W (.ref (T.ca c)) d σ' H'
  | .bad => False
/-- where a piece stands: the heap, the slots -/
structure At (f : Nat → Addr) (A : AH) (s : Sl) (σ : L2.St) (H : Hp) : Prop where
  rel : Rel T K f A H
  sr : SR T K f A.n H s σ
def ERd (t : EV) : TE := fun σ H Q => ∃ f A s, At T K f A s σ H ∧ Post T K W f A H σ Q (t s A)
def TRd (t : EV) : TT := fun σ H Q => ∃ f A s, At T K f A s σ H ∧ PostB T K W f A H σ Q (t s A)
def ARd (t : Sl → AH → RL) : TA := fun σ H Q => ∃ f A s, At T K f A s σ H ∧ PostL T K W f A H σ Q (t s A)
def SRd (t : SV) : TS := fun D σ H => ∃ f A s, At T K f A s σ H ∧ PostS T K W f A H D (t s A)
/-- some values are there; k goes on -/
def KRd (k : List AV → Sl → AH → RE) (us : List V) (σ : L2.St) (H : Hp) (Q : VK) : Prop := ∃ f A s vs, At T K f A s σ H ∧ RVs T K f A.n H vs us ∧ Post T K W f A H σ Q (k vs s A)
abbrev GV := AV → Sl → AH → RS
def PostG (f : Nat → Addr) (A : AH) (H : Hp) (Q : L2.St → Hp → Prop) : RS → Prop
  | .nx s A' => ∀ f' H' σ', Stp T K f A H f' A' H' → SR T K f' A'.n H' s σ' → Q σ' H'
  | _ => False
def GRd (g : GV) : TG := fun u σ H Q => ∃ f A s v, At T K f A s σ H ∧ RV T K f A.n H v u ∧ PostG T K f A H Q (g v s A)
end
section
variable {T : Tbl} {K : PySem.W.Frag} {W : WX} {f f' : Nat → Addr} {A A' : AH} {H H' : Hp} {σ : L2.St} {s : Sl}
theorem At.step (a : At T K f A s σ H) (st : Stp T K f A H f' A' H') : At T K f' A' s σ H' := ⟨st.rel, st.sr a.sr⟩
theorem Post.step {Q : VK} {r : RE} (p : Post T K W f A H σ Q r) (st : Stp T K f A H f' A' H') : Post T K W f' A' H' σ Q r := by
  cases r with
  | ok v A2 => exact fun f2 H2 u q r => p f2 H2 u (st.trans q) r
  | ex c fs A2 => exact fun f2 H2 d q x => p f2 H2 d (st.trans q) x
  | bad => exact p
theorem PostL.step {Q : List V → Hp → Prop} {r : RL} (p : PostL T K W f A H σ Q r) (st : Stp T K f A H f' A' H') : PostL T K W f' A' H' σ Q r := by
  cases r with
  | ok v A2 => exact fun f2 H2 u q r => p f2 H2 u (st.trans q) r
  | ex c fs A2 => exact fun f2 H2 d q x => p f2 H2 d (st.trans q) x
  | bad => exact p
theorem PostB.step {Q : Bool → Hp → Prop} {r : RE} (p : PostB T K W f A H σ Q r) (st : Stp T K f A H f' A' H') : PostB T K W f' A' H' σ Q r := by
  cases r with
  | ok v A2 =>
    cases v with
    | bl b => exact fun f2 H2 q => p f2 H2 (st.trans q)
    | _ => exact p.elim
  | ex c fs A2 => exact fun f2 H2 d q x => p f2 H2 d (st.trans q) x
  | bad => exact p
theorem PostS.step {D : Ends} {r : RS} (p : PostS T K W f A H D r) (st : Stp T K f A H f' A' H') : PostS T K W f' A' H' D r := by
  cases r with
  | nx s A2 => exact fun f2 H2 u q r => p f2 H2 u (st.trans q) r
  | bk s A2 => exact fun f2 H2 u q r => p f2 H2 u (st.trans q) r
  | ct s A2 => exact fun f2 H2 u q r => p f2 H2 u (st.trans q) r
  | rt v A2 => exact fun f2 H2 u q r => p f2 H2 u (st.trans q) r
  | ex c fs s A2 => exact fun f2 H2 σ2 d q r x => p f2 H2 σ2 d (st.trans q) r x
  | bad => exact p
theorem PostG.step {Q : L2.St → Hp → Prop} {r : RS} (p : PostG T K f A H Q r) (st : Stp T K f A H f' A' H') : PostG T K f' A' H' Q r := by
  cases r with
  | nx s A2 => exact fun f2 H2 u q r => p f2 H2 u (st.trans q) r
  | _ => exact p.elim
/-- it hands back v as things stand -/
theorem Post.now {Q : VK} {v : AV} {u : V} (p : Post T K W f A H σ Q (.ok v A)) (r : Rel T K f A H) (h : RV T K f A.n H v u) : Q u H := p f H u (.rfl' r) h

/-! ## how readings are strung -/
/-- t, then k -/
theorem kr_of {t : EV} {k : List AV → Sl → AH → RE} {vs : List AV} {us : List V} {Q : VK} (a : At T K f A s σ H) (r : RVs T K f A.n H vs us) (p : Post T K W f A H σ Q ((t s A).bd fun v A' => k (vs ++ [v]) s A')) :
    ERd T K W t σ H fun u H1 => KRd T K W k (us ++ [u]) σ H1 Q := by
  refine ⟨f, A, s, a, ?_⟩
  cases e : t s A with
  | ok v A1 => rw [e] at p; exact fun f1 H1 u st rv => ⟨f1, A1, s, vs ++ [v], a.step st, Paired.snoc (st.rvs r) rv, p.step st⟩
  | ex c fs A1 => rw [e] at p; exact p
  | bad => rw [e] at p; exact p
theorem kr_go {t : EV} {k : List AV → Sl → AH → RE} {us : List V} {Q : VK} (h : KRd T K W (fun vs s A => (t s A).bd fun v A' => k (vs ++ [v]) s A') us σ H Q) :
    ERd T K W t σ H fun u H1 => KRd T K W k (us ++ [u]) σ H1 Q := let ⟨_, _, _, _, a, r, p⟩ := h; kr_of a r p
/-- a list of expressions, then k -/
theorem kl_of {t : Sl → AH → RL} {k : List AV → Sl → AH → RE} {vs : List AV} {us : List V} {Q : VK} (a : At T K f A s σ H) (r : RVs T K f A.n H vs us) (p : Post T K W f A H σ Q ((t s A).bd fun ws A' => k (vs ++ ws) s A')) :
    ARd T K W t σ H fun xs H1 => KRd T K W k (us ++ xs) σ H1 Q := by
  refine ⟨f, A, s, a, ?_⟩
  cases e : t s A with
  | ok v A1 =>
    rw [e] at p
    refine fun f1 H1 u st rv => ⟨f1, A1, s, vs ++ v, a.step st, ?_, p.step st⟩
    have r1 := st.rvs r
    clear p e r
    induction r1 with
    | nil => exact rv
    | cons q _ ih => exact .cons q ih
  | ex c fs A1 => rw [e] at p; exact p
  | bad => rw [e] at p; exact p
end

section
variable {T : Tbl} {K : PySem.W.Frag} {W : WX} {f f' : Nat → Addr} {A A' : AH} {H H' : Hp} {σ : L2.St} {s : Sl}
theorem Post.mono {Q Q' : VK} {r : RE} (p : Post T K W f A H σ Q r) (i : ∀ u H, Q u H → Q' u H) : Post T K W f A H σ Q' r := by
  cases r with
  | ok v A2 => exact fun f2 H2 u q r => i _ _ (p f2 H2 u q r)
  | ex c fs A2 => exact p
  | bad => exact p
theorem ERd.mono {t : EV} {Q Q' : VK} (h : ERd T K W t σ H Q) (i : ∀ u H, Q u H → Q' u H) : ERd T K W t σ H Q' := let ⟨f, A, s, a, p⟩ := h; ⟨f, A, s, a, p.mono i⟩
theorem PostL.mono {Q Q' : List V → Hp → Prop} {r : RL} (p : PostL T K W f A H σ Q r) (i : ∀ u H, Q u H → Q' u H) : PostL T K W f A H σ Q' r := by
  cases r with
  | ok v A2 => exact fun f2 H2 u q r => i _ _ (p f2 H2 u q r)
  | ex c fs A2 => exact p
  | bad => exact p
theorem ARd.mono {t : Sl → AH → RL} {Q Q' : List V → Hp → Prop} (h : ARd T K W t σ H Q) (i : ∀ u H, Q u H → Q' u H) : ARd T K W t σ H Q' := let ⟨f, A, s, a, p⟩ := h; ⟨f, A, s, a, p.mono i⟩
theorem PostB.mono {Q Q' : Bool → Hp → Prop} {r : RE} (p : PostB T K W f A H σ Q r) (i : ∀ u H, Q u H → Q' u H) : PostB T K W f A H σ Q' r := by
  cases r with
  | ok v A2 =>
    cases v with
    | bl b => exact fun f2 H2 q => i _ _ (p f2 H2 q)
    | _ => exact p
  | ex c fs A2 => exact p
  | bad => exact p
theorem TRd.mono {t : EV} {Q Q' : Bool → Hp → Prop} (h : TRd T K W t σ H Q) (i : ∀ u H, Q u H → Q' u H) : TRd T K W t σ H Q' := let ⟨f, A, s, a, p⟩ := h; ⟨f, A, s, a, p.mono i⟩
abbrev g0 (vs : List AV) : AV := vs.getD 0 .non
abbrev g1 (vs : List AV) : AV := vs.getD 1 .non
abbrev g2 (vs : List AV) : AV := vs.getD 2 .non
/-- a way through a Bool -/
theorem tr_of {t : EV} {k : Bool → Sl → AH → RE} {Q : VK} (a : At T K f A s σ H) (p : Post T K W f A H σ Q ((t s A).bd fun v A' => match v with | .bl b => k b s A' | _ => .bad)) :
    TRd T K W t σ H fun b H1 => ERd T K W (k b) σ H1 Q := by
  refine ⟨f, A, s, a, ?_⟩
  cases e : t s A with
  | ok v A1 =>
    rw [e] at p
    cases v with
    | bl b => exact fun f1 H1 st => ⟨f1, A1, s, a.step st, p.step st⟩
    | _ => exact p
  | ex c fs A1 => rw [e] at p; exact p
  | bad => rw [e] at p; exact p
theorem trb_of {t : EV} {k : Bool → Sl → AH → RE} {Q : Bool → Hp → Prop} (a : At T K f A s σ H) (p : PostB T K W f A H σ Q ((t s A).bd fun v A' => match v with | .bl b => k b s A' | _ => .bad)) :
    TRd T K W t σ H fun b H1 => TRd T K W (k b) σ H1 Q := by
  refine ⟨f, A, s, a, ?_⟩
  cases e : t s A with
  | ok v A1 =>
    rw [e] at p
    cases v with
    | bl b => exact fun f1 H1 st => ⟨f1, A1, s, a.step st, p.step st⟩
    | _ => exact p
  | ex c fs A1 => rw [e] at p; exact p
  | bad => rw [e] at p; exact p
/-- a Bool value as a test -/
theorem TRd.of {t : EV} {Q : Bool → Hp → Prop} (h : TRd T K W t σ H Q) : ERd T K W t σ H fun u H1 => ∃ b, u = .bl b ∧ Q b H1 := by
  obtain ⟨f, A, s, a, p⟩ := h
  refine ⟨f, A, s, a, ?_⟩
  cases e : t s A with
  | ok v A1 =>
    rw [e] at p
    cases v with
    | bl b => exact fun f1 H1 u st r => ⟨b, r, p f1 H1 st⟩
    | _ => exact p.elim
  | ex c fs A1 => rw [e] at p; exact p
  | bad => rw [e] at p; exact p
theorem ERd.tr {t : EV} {Q : VK} (h : ERd T K W t σ H Q) (hb : ∀ f A s, At T K f A s σ H → ∀ v A', t s A = .ok v A' → ∃ b, v = .bl b) : TRd T K W t σ H fun b H1 => Q (.bl b) H1 := by
  obtain ⟨f, A, s, a, p⟩ := h
  refine ⟨f, A, s, a, ?_⟩
  cases e : t s A with
  | ok v A1 =>
    obtain ⟨b, rfl⟩ := hb f A s a v A1 e
    rw [e] at p
    exact fun f1 H1 st => p f1 H1 _ st rfl
  | ex c fs A1 => rw [e] at p; exact p
  | bad => rw [e] at p; exact p
end

/-! ## weaker readings -/
theorem _root_.L2.PE.im {X : Cx} {e : Expr} {t t' : TE} (h : PE X e t) (i : ∀ σ H Q, t' σ H Q → t σ H Q) : PE X e t' := ⟨fun pins s σ H Q I q => h.run pins s σ H Q I (i σ H Q q)⟩
theorem _root_.L2.PT.im {X : Cx} {e : Expr} {t t' : TT} (h : PT X e t) (i : ∀ σ H Q, t' σ H Q → t σ H Q) : PT X e t' := ⟨fun pins s σ H Q I q => h.run pins s σ H Q I (i σ H Q q)⟩
theorem _root_.L2.PW.im {X : Cx} {e : Expr} {t t' : TT} (h : PW X e t) (i : ∀ σ H Q, t' σ H Q → t σ H Q) : PW X e t' := ⟨fun wh pins s σ H Q I q => h.run wh pins s σ H Q I (i σ H Q q)⟩
theorem _root_.L2.PA.im {X : Cx} {e : List Expr} {t t' : TA} (h : PA X e t) (i : ∀ σ H Q, t' σ H Q → t σ H Q) : PA X e t' := ⟨fun ps pins s σ H Q I q => h.run ps pins s σ H Q I (i σ H Q q)⟩
theorem _root_.L2.PS.im {X : Cx} {e : Stmt} {t t' : TS} (h : PS X e t) (i : ∀ D σ H, t' D σ H → t D σ H) : PS X e t' := ⟨fun pins s σ H D I q => h.run pins s σ H D I (i D σ H q)⟩
theorem _root_.L2.PSs.im {X : Cx} {e : List Stmt} {t t' : TS} (h : PSs X e t) (i : ∀ D σ H, t' D σ H → t D σ H) : PSs X e t' := ⟨fun pins s σ H D I q => h.run pins s σ H D I (i D σ H q)⟩
theorem _root_.L2.PG.im {X : Cx} {e : Expr} {t t' : TG} (h : PG X e t) (i : ∀ v σ H Q, t' v σ H Q → t v σ H Q) : PG X e t' := ⟨fun pins s σ H v u Q I r q => h.run pins s σ H v u Q I r (i v σ H Q q)⟩
theorem _root_.L2.PI.im {X : Cx} {tg e : Expr} {t t' : TI} (h : PI X tg e t) (i : ∀ σ H Q, t' σ H Q → t σ H Q) : PI X tg e t' := ⟨fun pins s σ H Q I q => h.run pins s σ H Q I (i σ H Q q)⟩

/-! ## the combinators -/
def eVar (i : Nat) : EV := fun s A => match s[i]? with
  | some (some v) => .ok v A
  | _ => .bad
def eC (v : AV) : EV := fun _ A => .ok v A
def eBin (p : AV → AV → AH → RE) (a b : EV) : EV := fun s A => (a s A).bd fun x A1 => (b s A1).bd fun y A2 => p x y A2
def eUn (p : AV → AH → RE) (a : EV) : EV := fun s A => (a s A).bd fun x A1 => p x A1
def bnd (r : RE) (k : Bool → AH → RE) : RE := r.bd fun v A => match v with
  | .bl b => k b A
  | _ => .bad
def eAnd (a b : EV) : EV := fun s A => bnd (a s A) fun c A1 => match c with
  | true => b s A1
  | false => .ok (.bl false) A1
def eOr (a b : EV) : EV := fun s A => bnd (a s A) fun c A1 => match c with
  | true => .ok (.bl true) A1
  | false => b s A1
def eNot (a : EV) : EV := fun s A => bnd (a s A) fun c A1 => .ok (.bl (!c)) A1
def eIf (c a b : EV) : EV := fun s A => bnd (c s A) fun c A1 => match c with
  | true => a s A1
  | false => b s A1
def lNil : Sl → AH → RL := fun _ A => .ok [] A
def lCons (a : EV) (l : Sl → AH → RL) : Sl → AH → RL := fun s A => (a s A).bl fun v A1 => match l s A1 with
  | .ok vs A2 => .ok (v :: vs) A2
  | r => r
def short (n : Nat) : Bool := Nat.ble n 16777216
def mkTup (vs : List AV) (A : AH) : RE := match short vs.length with
  | true => .ok (AV.tup vs) A
  | false => .bad
def mkLst (vs : List AV) (A : AH) : RE := match short vs.length with
  | true => .ok (.ref A.n) (A.push (.lst vs))
  | false => .bad
def eTup (l : Sl → AH → RL) : EV := fun s A => (l s A).bd fun vs A1 => mkTup vs A1
def eLst (l : Sl → AH → RL) : EV := fun s A => (l s A).bd fun vs A1 => mkLst vs A1
def sSkip : SV := fun s A => .nx s A
def sSeq (a b : SV) : SV := fun s A => (a s A).bd b
def sExpr (e : EV) : SV := fun s A => (e s A).bs s fun _ A1 => .nx s A1
def sRet (e : EV) : SV := fun s A => (e s A).bs s fun v A1 => .rt v A1
def sIf (c : EV) (a b : SV) : SV := fun s A => (bnd (c s A) fun b A1 => .ok (.bl b) A1).bs s fun v A1 => match v with
  | .bl true => a s A1
  | _ => b s A1
def nxOnly (r : RS) : RS := match r with
  | .nx s A => .nx s A
  | _ => .bad
def sAsg (e : EV) (g : GV) : SV := fun s A => (e s A).bs s fun v A1 => nxOnly (g v s A1)
def gVar (i : Nat) : GV := fun v s A => .nx (s.set i (some v)) A
def sBreak : SV := fun s A => .bk s A
def sCont : SV := fun s A => .ct s A
def whileF (c : EV) (b : SV) : Nat → SV
  | 0 => fun _ _ => .bad
  | n + 1 => fun s A => (c s A).bs s fun v A1 => match v with
    | .bl true => (match b s A1 with
      | .nx s2 A2 => whileF c b n s2 A2
      | .ct s2 A2 => whileF c b n s2 A2
      | .bk s2 A2 => .nx s2 A2
      | r => r)
    | .bl false => .nx s A1
    | _ => .bad
def sWhile (c : EV) (b : SV) : SV := whileF c b 1000000

/-! ## the forms -/
section
variable {X : Cx} {W : WX} {T : Tbl} {a b c e : Expr} {ta tb tc te : EV} {pos : Pos}
theorem ze_var {i : Nat} {x : Str} (hN : X.N[i]? = some x) (hv : Vis X.env.scope x) (hd : (x == ("__debug__" : Str)) = false) (hcd : (x == ("__classdict__" : Str)) = false) : PE X (.Name x pos) (ERd T X.K W (eVar i)) := by
  refine (pe_var hN hv hd hcd).im fun σ H Q h => ?_
  obtain ⟨f, A, s, a, p⟩ := h
  unfold eVar at p
  cases q : s[i]? with
  | none => rw [q] at p; exact p.elim
  | some o =>
    cases o with
    | none => rw [q] at p; exact p.elim
    | some v =>
      rw [q] at p
      obtain ⟨u, e, r⟩ := a.sr.2 i v q
      exact ⟨u, e, p.now a.rel r⟩
theorem ze_c {u : V} {v : AV} (h : PE X e (tC u)) (hv : ∀ f n H, RV T X.K f n H v u) : PE X e (ERd T X.K W (eC v)) :=
  h.im fun σ H Q ⟨f, A, s, a, p⟩ => p.now a.rel (hv f A.n H)
/-- two values, then r -/
theorem op2 {r : R2} {p : AV → AV → AH → RE} (hr : ∀ f A H v w x y σ Q, Rel T X.K f A H → RV T X.K f A.n H v x → RV T X.K f A.n H w y → Post T X.K W f A H σ Q (p v w A) → r x y H Q)
    {σ : L2.St} {H : Hp} {Q : VK} (h : ERd T X.K W (eBin p ta tb) σ H Q) : tOp r (ERd T X.K W ta) (ERd T X.K W tb) σ H Q := by
  obtain ⟨f, A, s, a, q⟩ := h
  refine (kr_of (vs := []) (us := []) (k := fun vs s A => (tb s A).bd fun y A2 => (fun vs _ A => p (g0 vs) (g1 vs) A) (vs ++ [y]) s A2) a .nil q).mono fun x H1 h1 => ?_
  refine (kr_go (k := fun vs _ A => p (g0 vs) (g1 vs) A) (us := [x]) h1).mono fun y H2 h2 => ?_
  obtain ⟨f2, A2, s2, vs, a2, r2, p2⟩ := h2
  cases r2 with
  | cons r1 r2 =>
    cases r2 with
    | cons r2 r3 =>
      cases r3
      exact hr f2 A2 H2 _ _ x y σ Q a2.rel r1 r2 p2
theorem ze_bin {r : R2} {op : Operator} {p : AV → AV → AH → RE} (ho : OpR X (binaryOp op) r) (hr : ∀ f A H v w x y σ Q, Rel T X.K f A H → RV T X.K f A.n H v x → RV T X.K f A.n H w y → Post T X.K W f A H σ Q (p v w A) → r x y H Q)
    (ha : PE X a (ERd T X.K W ta)) (hb : PE X b (ERd T X.K W tb)) : PE X (.BinOp a op b pos) (ERd T X.K W (eBin p ta tb)) := (pe_op ho ha hb).im fun _ _ _ h => op2 hr h
theorem ze_cmp {r : R2} {op : CmpOp} {p : AV → AV → AH → RE} (ho : OpR X (compareOp op) r) (hr : ∀ f A H v w x y σ Q, Rel T X.K f A H → RV T X.K f A.n H v x → RV T X.K f A.n H w y → Post T X.K W f A H σ Q (p v w A) → r x y H Q)
    (ha : PE X a (ERd T X.K W ta)) (hb : PE X b (ERd T X.K W tb)) (hm : behindInMarks op b = false) : PE X (.Compare a [op] [b] pos) (ERd T X.K W (eBin p ta tb)) := (pe_cmpR ho ha hb hm).im fun _ _ _ h => op2 hr h
theorem ze_un {r : V → Hp → VK → Prop} {op : UnaryOp} {p : AV → AH → RE} (ho : UnR X (unaryOp op) r) (hr : ∀ f A H v x σ Q, Rel T X.K f A H → RV T X.K f A.n H v x → Post T X.K W f A H σ Q (p v A) → r x H Q)
    (ha : PE X a (ERd T X.K W ta)) : PE X (.UnaryOp op a pos) (ERd T X.K W (eUn p ta)) := by
  refine (pe_un ho ha).im fun σ H Q ⟨f, A, s, a, q⟩ => ?_
  refine (kr_of (vs := []) (us := []) (k := fun vs _ A => p (g0 vs) A) a .nil q).mono fun x H1 h1 => ?_
  obtain ⟨f2, A2, s2, vs, a2, r2, p2⟩ := h1
  cases r2 with
  | cons r1 r2 => cases r2; exact hr f2 A2 H1 _ x σ Q a2.rel r1 p2
/-! tests -/
theorem zt_val (h : PE X e (ERd T X.K W te)) (he : ∀ whole, isTrue e X.env whole = (do let v ← whole; standAt e.pos; holding [v] (truthy v))) : PT X e (TRd T X.K W te) :=
  (pt_val h he).im fun σ H Q h => h.of
theorem zt_cmp {op : CmpOp} {p : AV → AV → AH → RE} {r : R2} (ho : OpR X (compareOp op) r) (hr : ∀ f A H v w x y σ Q, Rel T X.K f A H → RV T X.K f A.n H v x → RV T X.K f A.n H w y → Post T X.K W f A H σ Q (p v w A) → r x y H Q)
    (ha : PE X a (ERd T X.K W ta)) (hb : PE X b (ERd T X.K W tb)) (hm : behindInMarks op b = false) : PT X (.Compare a [op] [b] pos) (TRd T X.K W (eBin p ta tb)) :=
  (pt_cmpR ho ha hb hm).im fun σ H Q h => op2 hr (Q := fun x H' => ∃ k, x = .bl k ∧ Q k H') h.of
theorem zt_not (h : PT X e (TRd T X.K W te)) : PT X (.UnaryOp .Not e pos) (TRd T X.K W (eNot te)) := by
  refine (pt_not h).im fun σ H Q ⟨f, A, s, a, q⟩ => ?_
  refine (trb_of (k := fun c _ A1 => .ok (.bl (!c)) A1) a q).mono fun c H1 ⟨f1, A1, s1, a1, q1⟩ => q1 f1 H1 (.rfl' a1.rel)
variable {rest : List Expr}
theorem zw_and1 (h : PT X e (TRd T X.K W te)) : PW X (.BoolOp .And [e] pos) (TRd T X.K W te) := pw_and1 h
theorem zw_or1 (h : PT X e (TRd T X.K W te)) : PW X (.BoolOp .Or [e] pos) (TRd T X.K W te) := pw_or1 h
theorem zw_and (ha : PT X a (TRd T X.K W ta)) (hb : PW X (.BoolOp .And (b :: rest) pos) (TRd T X.K W tb)) : PW X (.BoolOp .And (a :: b :: rest) pos) (TRd T X.K W (eAnd ta tb)) := by
  refine (pw_and ha hb).im fun σ H Q ⟨f, A, s, a, q⟩ => ?_
  refine (trb_of (k := fun c s A1 => match c with | true => tb s A1 | false => .ok (.bl false) A1) a q).mono fun c H1 h1 => ?_
  cases c with
  | true => exact h1
  | false => obtain ⟨f1, A1, s1, a1, q1⟩ := h1; exact q1 f1 H1 (.rfl' a1.rel)
theorem zw_or (ha : PT X a (TRd T X.K W ta)) (hb : PW X (.BoolOp .Or (b :: rest) pos) (TRd T X.K W tb)) : PW X (.BoolOp .Or (a :: b :: rest) pos) (TRd T X.K W (eOr ta tb)) := by
  refine (pw_or ha hb).im fun σ H Q ⟨f, A, s, a, q⟩ => ?_
  refine (trb_of (k := fun c s A1 => match c with | true => .ok (.bl true) A1 | false => tb s A1) a q).mono fun c H1 h1 => ?_
  cases c with
  | false => exact h1
  | true => obtain ⟨f1, A1, s1, a1, q1⟩ := h1; exact q1 f1 H1 (.rfl' a1.rel)
theorem ze_if (hc : PT X c (TRd T X.K W tc)) (ha : PE X a (ERd T X.K W ta)) (hb : PE X b (ERd T X.K W tb)) : PE X (.IfExp c a b pos) (ERd T X.K W (eIf tc ta tb)) := by
  refine (pe_ifExp hc ha hb).im fun σ H Q ⟨f, A, s, a, q⟩ => ?_
  refine (tr_of (k := fun c s A1 => match c with | true => ta s A1 | false => tb s A1) a q).mono fun c H1 h1 => ?_
  cases c with
  | true => exact h1
  | false => exact h1
/-! and, or, not of Bools as values -/
theorem bl_of {k : Bool → Sl → AH → RE} {σ : L2.St} {H : Hp} {Q : VK} {t : EV} (h : ERd T X.K W (fun s A => bnd (t s A) fun b A1 => k b s A1) σ H Q) : ERd T X.K W t σ H fun u H1 => ∃ b, u = .bl b ∧ ERd T X.K W (k b) σ H1 Q := by
  obtain ⟨f, A, s, a, q⟩ := h
  exact (tr_of (k := k) a q).of
theorem ze_one {op : BoolOp} (h : PE X e (ERd T X.K W te)) : PE X (.BoolOp op [e] pos) (ERd T X.K W te) := pe_one h
theorem ze_and (ha : PE X a (ERd T X.K W ta)) (hb : PE X (.BoolOp .And (b :: rest) pos) (ERd T X.K W tb)) : PE X (.BoolOp .And (a :: b :: rest) pos) (ERd T X.K W (eAnd ta tb)) := by
  refine (pe_and ha hb).im fun σ H Q h => ?_
  refine (bl_of (k := fun c s A1 => match c with | true => tb s A1 | false => .ok (.bl false) A1) h).mono fun u H1 ⟨c, e, h1⟩ => ⟨c, e, ?_⟩
  cases c with
  | true => exact h1
  | false => obtain ⟨f1, A1, s1, a1, q1⟩ := h1; exact q1.now a1.rel rfl
theorem ze_or (ha : PE X a (ERd T X.K W ta)) (hb : PE X (.BoolOp .Or (b :: rest) pos) (ERd T X.K W tb)) : PE X (.BoolOp .Or (a :: b :: rest) pos) (ERd T X.K W (eOr ta tb)) := by
  refine (pe_or ha hb).im fun σ H Q h => ?_
  refine (bl_of (k := fun c s A1 => match c with | true => .ok (.bl true) A1 | false => tb s A1) h).mono fun u H1 ⟨c, e, h1⟩ => ⟨c, e, ?_⟩
  cases c with
  | false => exact h1
  | true => obtain ⟨f1, A1, s1, a1, q1⟩ := h1; exact q1.now a1.rel rfl
theorem ze_not (ha : PE X a (ERd T X.K W ta)) : PE X (.UnaryOp .Not a pos) (ERd T X.K W (eNot ta)) := by
  refine (pe_not ha).im fun σ H Q h => ?_
  refine (bl_of (k := fun c _ A1 => .ok (.bl (!c)) A1) h).mono fun u H1 ⟨c, e, h1⟩ => ⟨c, e, ?_⟩
  obtain ⟨f1, A1, s1, a1, q1⟩ := h1
  exact q1.now a1.rel rfl
/-! lists of expressions; displays -/
variable {es : List Expr} {l : Sl → AH → RL}
theorem za_nil : PA X [] (ARd T X.K W lNil) := pa_nil.im fun σ H Q ⟨f, A, s, a, q⟩ => q f H [] (.rfl' a.rel) .nil
theorem za_cons (ha : PE X e (ERd T X.K W te)) (hr : PA X es (ARd T X.K W l)) (hs : starEach (e :: es) X.env = (false, eval e X.env) :: starEach es X.env) : PA X (e :: es) (ARd T X.K W (lCons te l)) := by
  refine (pa_cons ha hr hs).im fun σ H Q ⟨f, A, s, a, q⟩ => ?_
  refine ⟨f, A, s, a, ?_⟩
  unfold lCons at q
  cases e1 : te s A with
  | bad => rw [e1] at q; exact q
  | ex c fs A1 => rw [e1] at q; exact q
  | ok v A1 =>
    rw [e1] at q
    intro f1 H1 u st rv
    refine ⟨f1, A1, s, a.step st, ?_⟩
    have q1 : PostL T X.K W f A H σ Q (match l s A1 with | .ok vs A2 => .ok (v :: vs) A2 | r => r) := q
    cases e2 : l s A1 with
    | bad => rw [e2] at q1; exact q1
    | ex c fs A2 => rw [e2] at q1; exact fun f2 H2 d st2 x => q1 f2 H2 d (st.trans st2) x
    | ok vs A2 => rw [e2] at q1; exact fun f2 H2 us st2 rs => q1 f2 H2 (u :: us) (st.trans st2) (.cons (st2.rv rv) rs)
theorem line_eq : (sizeLine : Nat) = 16777216 := by rw [sizeLine_eq]
theorem short_ok {n : Nat} (h : short n = true) : n ≤ sizeLine := by rw [line_eq]; exact Nat.le_of_ble_eq_true h
/-- a new tuple -/
theorem Post.tup {f : Nat → Addr} {A : AH} {H : Hp} {σ : L2.St} {Q : VK} {vs : List AV} {us : List V} (q : Post T X.K W f A H σ Q (mkTup vs A)) (rl : Rel T X.K f A H) (r : RVs T X.K f A.n H vs us) :
    us.length ≤ sizeLine ∧ ∀ p, H p = none → Q (.ref p) (upd H p (.tup us)) := by
  unfold mkTup at q
  cases e : short vs.length with
  | false => rw [e] at q; exact q.elim
  | true =>
    rw [e] at q
    refine ⟨by rw [← r.length]; exact short_ok e, fun p hp => ?_⟩
    have st := rl.same (HS.upd (o := .tup us) hp)
    exact q f _ (.ref p) st (RV.of_tup (st.rvs r) upd_same)
/-- a new list -/
theorem Post.lst {f : Nat → Addr} {A : AH} {H : Hp} {σ : L2.St} {Q : VK} {vs : List AV} {us : List V} (q : Post T X.K W f A H σ Q (mkLst vs A)) (rl : Rel T X.K f A H) (r : RVs T X.K f A.n H vs us) :
    us.length ≤ sizeLine ∧ ∀ p, H p = none → Q (.ref p) (upd H p (.lst us)) := by
  unfold mkLst at q
  cases e : short vs.length with
  | false => rw [e] at q; exact q.elim
  | true =>
    rw [e] at q
    refine ⟨by rw [← r.length]; exact short_ok e, fun p hp => ?_⟩
    have hs := HS.upd (o := .lst us) hp
    have st : Stp T X.K f A H (ext f A.n p) (A.push (.lst vs)) (upd H p (.lst us)) := rl.add hs hp ⟨us, upd_same, RVs.mono r hs.he (fun i hi => ext_lt hi) (Nat.le_succ _)⟩
    exact q _ _ (.ref p) st ⟨Nat.lt_succ_self _, by rw [ext_at]⟩
/-- values in a row, then a step -/
theorem lst2 {σ : L2.St} {H : Hp} {Q : VK} {k : List AV → AH → RE} (h : ERd T X.K W (fun s A => (l s A).bd k) σ H Q) :
    ARd T X.K W l σ H fun us H1 => ∃ f A vs, Rel T X.K f A H1 ∧ RVs T X.K f A.n H1 vs us ∧ Post T X.K W f A H1 σ Q (k vs A) := by
  obtain ⟨f, A, s, a, q⟩ := h
  refine (kl_of (vs := []) (us := []) (k := fun vs _ A1 => k vs A1) a .nil q).mono fun us H1 h1 => ?_
  obtain ⟨f1, A1, s1, vs, a1, r1, p1⟩ := h1
  exact ⟨f1, A1, vs, a1.rel, r1, p1⟩
theorem ze_tup {k : Nat} (h : PA X es (ARd T X.K W l)) : PE X (.Tuple es k pos) (ERd T X.K W (eTup l)) :=
  (pe_tup h).im fun σ H Q q => (lst2 q).mono fun us H1 ⟨f1, A1, vs, rl, r1, p1⟩ => p1.tup rl r1
theorem ze_lst (h : PA X es (ARd T X.K W l)) : PE X (.List es pos) (ERd T X.K W (eLst l)) :=
  (pe_lst h).im fun σ H Q q => (lst2 q).mono fun us H1 ⟨f1, A1, vs, rl, r1, p1⟩ => p1.lst rl r1
end
/-! ## statements -/
section
variable {X : Cx} {W : WX} {T : Tbl} {e c : Expr} {te tc : EV} {pos : Pos} {st : Stmt} {rest a b : List Stmt} {t u ta tb : SV}
theorem SRd.mono {t : SV} {D D' : Ends} {σ : L2.St} {H : Hp} (h : SRd T X.K W t D σ H) (i : ∀ f A H', ∀ r, PostS T X.K W f A H' D r → PostS T X.K W f A H' D' r) : SRd T X.K W t D' σ H := let ⟨f, A, s, a, p⟩ := h; ⟨f, A, s, a, i _ _ _ _ p⟩
theorem zss_nil : PSs X [] (SRd T X.K W sSkip) := pss_nil.im fun D σ H ⟨f, A, s, a, q⟩ => q f H σ (.rfl' a.rel) a.sr
theorem seq_of {f : Nat → Addr} {A : AH} {s : Sl} {σ : L2.St} {H : Hp} {D : Ends} {r : RS} (q : PostS T X.K W f A H D (r.bd u)) : PostS T X.K W f A H { D with nx := SRd T X.K W u D } r := by
  cases r with
  | nx s1 A1 => exact fun f' H' σ' st sr => ⟨f', A1, s1, ⟨st.rel, sr⟩, PostS.step q st⟩
  | bk s1 A1 => exact q
  | ct s1 A1 => exact q
  | rt v A1 => exact q
  | ex c fs s1 A1 => exact q
  | bad => exact q
theorem zss_cons (h1 : PS X st (SRd T X.K W t)) (h2 : PSs X rest (SRd T X.K W u)) : PSs X (st :: rest) (SRd T X.K W (sSeq t u)) :=
  (pss_cons h1 h2).im fun D σ H ⟨f, A, s, a, q⟩ => ⟨f, A, s, a, seq_of (s := s) (σ := σ) q⟩
theorem zss_one (h1 : PS X st (SRd T X.K W t)) : PSs X [st] (SRd T X.K W t) := pss_one h1
theorem zs_pass : PS X (.Pass pos) (SRd T X.K W sSkip) := ps_pass.im fun D σ H ⟨f, A, s, a, q⟩ => q f H σ (.rfl' a.rel) a.sr
theorem zs_break : PS X (.Break pos) (SRd T X.K W sBreak) := ps_break.im fun D σ H ⟨f, A, s, a, q⟩ => q f H σ (.rfl' a.rel) a.sr
theorem zs_continue : PS X (.Continue pos) (SRd T X.K W sCont) := ps_continue.im fun D σ H ⟨f, A, s, a, q⟩ => q f H σ (.rfl' a.rel) a.sr
/-- an expression, then a statement's step -/
theorem es_of {f : Nat → Addr} {A : AH} {s : Sl} {σ : L2.St} {H : Hp} {D : Ends} {k : AV → AH → RS} (a : At T X.K f A s σ H) (q : PostS T X.K W f A H D ((te s A).bs s k)) :
    ERd T X.K W te σ H fun u H1 => ∃ f A v, At T X.K f A s σ H1 ∧ RV T X.K f A.n H1 v u ∧ PostS T X.K W f A H1 D (k v A) := by
  refine ⟨f, A, s, a, ?_⟩
  cases e : te s A with
  | ok v A1 => rw [e] at q; exact fun f1 H1 u st r => ⟨f1, A1, v, a.step st, r, PostS.step q st⟩
  | ex c fs A1 => rw [e] at q; exact fun f1 H1 d st x => q f1 H1 σ d st (st.sr a.sr) x
  | bad => rw [e] at q; exact q
theorem zs_expr (he : PE X e (ERd T X.K W te)) (hs : swapsWith e none pos.line X.env = pure false) : PS X (.Expr e pos) (SRd T X.K W (sExpr te)) :=
  (ps_expr he hs).im fun D σ H ⟨f, A, s, a, q⟩ => (es_of a q).mono fun u H1 ⟨f1, A1, v, a1, r1, q1⟩ => q1 f1 H1 σ (.rfl' a1.rel) a1.sr
theorem zs_ret (he : PE X e (ERd T X.K W te)) : PS X (.Return (some e) pos) (SRd T X.K W (sRet te)) :=
  (ps_ret he).im fun D σ H ⟨f, A, s, a, q⟩ => (es_of a q).mono fun u H1 ⟨f1, A1, v, a1, r1, q1⟩ => q1 f1 H1 u (.rfl' a1.rel) r1
theorem zs_retN : PS X (.Return none pos) (SRd T X.K W (sRet (eC .non))) := ps_retN.im fun D σ H ⟨f, A, s, a, q⟩ => q f H .non (.rfl' a.rel) rfl
theorem zs_if (hc : PT X c (TRd T X.K W tc)) (ha : PSs X a (SRd T X.K W ta)) (hb : PSs X b (SRd T X.K W tb)) : PS X (.If c a b pos) (SRd T X.K W (sIf tc ta tb)) := by
  refine (ps_if hc ha hb).im fun D σ H ⟨f, A, s, a, q⟩ => ?_
  refine ⟨f, A, s, a, ?_⟩
  unfold sIf at q
  cases e : tc s A with
  | ok v A1 =>
    rw [e] at q
    cases v with
    | bl k =>
      intro f1 H1 st
      cases k with
      | true => exact ⟨f1, A1, s, a.step st, PostS.step q st⟩
      | false => exact ⟨f1, A1, s, a.step st, PostS.step q st⟩
    | _ => exact q
  | ex c fs A1 => rw [e] at q; exact fun f1 H1 d st x => q f1 H1 σ d st (st.sr a.sr) x
  | bad => rw [e] at q; exact q
/-! targets -/
variable {tg : Expr} {g : GV}
theorem set_rel {f : Nat → Addr} {n : Nat} {s : Sl} {σ : L2.St} {H : Hp} {v : AV} {u : V} (h : SR T X.K f n H s σ) (r : RV T X.K f n H v u) (i : Nat) : SR T X.K f n H (s.set i (some v)) (σ.set i (some u)) := by
  refine ⟨by simpa using h.1, fun j w e => ?_⟩
  by_cases hj : i = j
  · subst hj
    have hl : i < s.length := by
      by_cases hl : i < s.length
      · exact hl
      · rw [List.getElem?_eq_none (by simpa using hl)] at e; cases e
    rw [List.getElem?_set_self hl] at e
    cases e
    exact ⟨u, List.getElem?_set_self (by rw [← h.1]; exact hl), r⟩
  · rw [List.getElem?_set_ne hj] at e ⊢
    exact h.2 j w e
theorem zg_name {i : Nat} {x : Str} (hN : X.N.Nodup) (hi : X.N[i]? = some x) (hx : Loc X.env.scope x) (hf : X.fn x = true ∨ X.env.scope.names.lookup x = some .local) : PG X (.Name x pos) (GRd T X.K (gVar i)) :=
  (pg_name hN hi hx hf).im fun u σ H Q ⟨f, A, s, v, a, r, q⟩ => q f H _ (.rfl' a.rel) (set_rel a.sr r i)
theorem g_of {f : Nat → Addr} {A : AH} {H : Hp} {D : Ends} {r : RS} (q : PostS T X.K W f A H D (nxOnly r)) : PostG T X.K f A H D.nx r := by
  cases r with
  | nx s A1 => exact q
  | _ => exact q.elim
theorem zs_asg (he : PE X e (ERd T X.K W te)) (hg : PG X tg (GRd T X.K g)) (hs : swapsWithSole [tg] e pos.line X.env = pure false) (hw : swappedStores [tg] e X.env = pure none)
    (h1 : (assignEach [tg] X.env).map (·.2) = [assign tg X.env]) : PS X (.Assign [tg] e pos) (SRd T X.K W (sAsg te g)) :=
  (ps_asg he hg hs hw h1).im fun D σ H ⟨f, A, s, a, q⟩ => (es_of a q).mono fun u H1 ⟨f1, A1, v, a1, r1, q1⟩ => ⟨f1, A1, s, v, a1, r1, g_of q1⟩
theorem zs_set {i : Nat} {x : Str} {pos' : Pos} (hN : X.N.Nodup) (hi : X.N[i]? = some x) (hx : Loc X.env.scope x) (hf : X.fn x = true ∨ X.env.scope.names.lookup x = some .local) (he : PE X e (ERd T X.K W te)) (hs : swapsWith e (some (.Name x pos')) pos.line X.env = pure false) :
    PS X (.Assign [.Name x pos'] e pos) (SRd T X.K W (sAsg te (gVar i))) :=
  (ps_set hN hi hx he hs hf).im fun D σ H ⟨f, A, s, a, q⟩ => (es_of a q).mono fun u H1 ⟨f1, A1, v, a1, r1, q1⟩ => q1 f1 H1 _ (.rfl' a1.rel) (set_rel a1.sr r1 i)
/-! while -/
theorem zs_while (hp : PassesOwn (model X.prog X.w) X.A X.env X.xe) (hc : PT X c (TRd T X.K W tc)) (hb : PSs X a (SRd T X.K W ta)) : PS X (.While c a [] pos) (SRd T X.K W (sWhile tc ta)) := by
  refine (ps_while hp hc hb).im fun D σ H ⟨f, A, s, a, q⟩ => ?_
  refine ⟨fun m σ H => ∃ f A s, At T X.K f A s σ H ∧ PostS T X.K W f A H D (whileF tc ta m s A), ⟨1000000, f, A, s, a, q⟩, ?_⟩
  intro m σ H ⟨f, A, s, a, q⟩
  cases m with
  | zero => exact q.elim
  | succ m =>
    unfold whileF at q
    refine ⟨f, A, s, a, ?_⟩
    cases e : tc s A with
    | ok v A1 =>
      rw [e] at q
      cases v with
      | bl k =>
        intro f1 H1 st
        cases k with
        | false => exact q f1 H1 σ st (st.sr a.sr)
        | true =>
          refine ⟨fun σ H => ∃ f A s, At T X.K f A s σ H ∧ PostS T X.K W f A H D (whileF tc ta m s A), fun σ' H' h => ⟨m, Nat.lt_succ_self _, h⟩, f1, A1, s, a.step st, ?_⟩
          have q1 := PostS.step q st
          have q2 : PostS T X.K W f1 A1 H1 D (match ta s A1 with | .nx s2 A2 => whileF tc ta m s2 A2 | .ct s2 A2 => whileF tc ta m s2 A2 | .bk s2 A2 => .nx s2 A2 | r => r) := q1
          cases e2 : ta s A1 with
          | nx s2 A2 => rw [e2] at q2; exact fun f2 H2 σ2 st2 sr => ⟨f2, A2, s2, ⟨st2.rel, sr⟩, PostS.step q2 st2⟩
          | ct s2 A2 => rw [e2] at q2; exact fun f2 H2 σ2 st2 sr => ⟨f2, A2, s2, ⟨st2.rel, sr⟩, PostS.step q2 st2⟩
          | bk s2 A2 => rw [e2] at q2; exact q2
          | rt v A2 => rw [e2] at q2; exact q2
          | ex c fs s2 A2 => rw [e2] at q2; exact q2
          | bad => rw [e2] at q2; exact q2
      | _ => exact q.elim
    | ex c fs A1 => rw [e] at q; exact fun f1 H1 d st x => q f1 H1 σ d st (st.sr a.sr) x
    | bad => rw [e] at q; exact q
end
end Z
end
section
/-! Z3: operations by values. -/
namespace Z
open PySem PySem.Spec PyProof.Rows L2

/-- a two-place operation by values -/
def OpZ (X : Cx) (T : Tbl) (W : WX) (f : Value → Value → Sem Value) (p : AV → AV → AH → RE) : Prop :=
  ∀ (pins : List (Addr × Obj)) (s : Shared) (σ : L2.St) (H : Hp) (x y : V) (xv yv : Value) (Q : VK) (g : Nat → Addr) (A : AH) (a b : AV), Inv X pins σ H s → RelV x xv → RelV y yv →
    Rel T X.K g A H → RV T X.K g A.n H a x → RV T X.K g A.n H b y → Post T X.K W g A H σ Q (p a b A) → wpAny (model X.prog X.w) X.A (f xv yv) (EP X pins σ Q) X.xe s
def UnZ (X : Cx) (T : Tbl) (W : WX) (f : Value → Sem Value) (p : AV → AH → RE) : Prop :=
  ∀ (pins : List (Addr × Obj)) (s : Shared) (σ : L2.St) (H : Hp) (x : V) (xv : Value) (Q : VK) (g : Nat → Addr) (A : AH) (a : AV), Inv X pins σ H s → RelV x xv →
    Rel T X.K g A H → RV T X.K g A.n H a x → Post T X.K W g A H σ Q (p a A) → wpAny (model X.prog X.w) X.A (f xv) (EP X pins σ Q) X.xe s
/-- a call of a value by values -/
def CallZ (X : Cx) (T : Tbl) (W : WX) (c : Value) (p : List AV → AH → RE) : Prop :=
  ∀ (pins : List (Addr × Obj)) (s : Shared) (σ : L2.St) (H : Hp) (xs : List V) (us : List Value) (Q : VK) (g : Nat → Addr) (A : AH) (as : List AV), Inv X pins σ H s → Vals xs us →
    Rel T X.K g A H → RVs T X.K g A.n H as xs → Post T X.K W g A H σ Q (p as A) → wpAny (model X.prog X.w) X.A (call c us) (EP X pins σ Q) X.xe s
section
variable {X : Cx} {T : Tbl} {W : WX} {a b c e : Expr} {ta tb tc te : EV} {pos : Pos}
theorem OpZ.of {f : Value → Value → Sem Value} {r : R2} {p : AV → AV → AH → RE} (ho : OpR X f r)
    (hr : ∀ g A H v w x y σ Q, Rel T X.K g A H → RV T X.K g A.n H v x → RV T X.K g A.n H w y → Post T X.K W g A H σ Q (p v w A) → r x y H Q) : OpZ X T W f p :=
  fun pins s σ H x y xv yv Q g A a b I rx ry rl ra rb q => ho pins s σ H x y xv yv Q I rx ry (hr g A H a b x y σ Q rl ra rb q)
theorem CallZ.of {f : Value} {r : List V → Hp → VK → Prop} {p : List AV → AH → RE} (ho : CallR X f r)
    (hr : ∀ g A H vs xs σ Q, Rel T X.K g A H → RVs T X.K g A.n H vs xs → Post T X.K W g A H σ Q (p vs A) → r xs H Q) : CallZ X T W f p :=
  fun pins s σ H xs us Q g A as I rx rl ra q => ho pins s σ H xs us Q I rx (hr g A H as xs σ Q rl ra q)
/-- two values there: the operation -/
theorem opz_go {f : Value → Value → Sem Value} {p : AV → AV → AH → RE} (ho : OpZ X T W f p) {σ : L2.St} {H : Hp} {Q : VK} (h : ERd T X.K W (eBin p ta tb) σ H Q) :
    ERd T X.K W ta σ H fun x H1 => ERd T X.K W tb σ H1 fun y H2 => ∀ (pins : List (Addr × Obj)) (s : Shared) (xv yv : Value), Inv X pins σ H2 s → RelV x xv → RelV y yv → wpAny (model X.prog X.w) X.A (f xv yv) (EP X pins σ Q) X.xe s := by
  obtain ⟨g, A, s, a, q⟩ := h
  refine (kr_of (vs := []) (us := []) (k := fun vs s A => (tb s A).bd fun y A2 => (fun vs _ A => p (g0 vs) (g1 vs) A) (vs ++ [y]) s A2) a .nil q).mono fun x H1 h1 => ?_
  refine (kr_go (k := fun vs _ A => p (g0 vs) (g1 vs) A) (us := [x]) h1).mono fun y H2 h2 => ?_
  obtain ⟨f2, A2, s2, vs, a2, r2, p2⟩ := h2
  cases r2 with
  | cons r1 r2 =>
    cases r2 with
    | cons r2 r3 =>
      cases r3
      exact fun pins s xv yv I rx ry => ho pins s σ H2 x y xv yv Q f2 A2 _ _ I rx ry a2.rel r1 r2 p2
theorem zz_bin {op : Operator} {p : AV → AV → AH → RE} (ho : OpZ X T W (binaryOp op) p) (ha : PE X a (ERd T X.K W ta)) (hb : PE X b (ERd T X.K W tb)) : PE X (.BinOp a op b pos) (ERd T X.K W (eBin p ta tb)) :=
  ⟨fun pins s σ H Q I h => wpAny_BinOp (binT ha hb I (opz_go ho h) fun v u s2 x y H2 I2 rx ry q => q pins s2 v u I2 rx ry)⟩
theorem zz_cmp {op : CmpOp} {p : AV → AV → AH → RE} (ho : OpZ X T W (compareOp op) p) (ha : PE X a (ERd T X.K W ta)) (hb : PE X b (ERd T X.K W tb)) (hm : behindInMarks op b = false) : PE X (.Compare a [op] [b] pos) (ERd T X.K W (eBin p ta tb)) :=
  ⟨fun pins s σ H Q I h => wpAny_Compare1 (binT ha hb I (opz_go ho h) fun v u s2 x y H2 I2 rx ry q => q pins s2 v u I2 rx ry) hm⟩
theorem zzt_cmp {op : CmpOp} {p : AV → AV → AH → RE} (ho : OpZ X T W (compareOp op) p) (ha : PE X a (ERd T X.K W ta)) (hb : PE X b (ERd T X.K W tb)) (hm : behindInMarks op b = false) : PT X (.Compare a [op] [b] pos) (TRd T X.K W (eBin p ta tb)) := by
  refine ⟨fun pins s σ H Q I h => ?_⟩
  refine wpAny_isTrue_Compare1 (binT ha hb I (opz_go ho h.of) fun v u s2 x y H2 I2 rx ry q => thn (q pins s2 v u I2 rx ry) fun c s3 ⟨z, H3, I3, r3, k, e, q3⟩ => ?_) hm
  subst e
  cases r3
  exact wpAny_truthy_bool ⟨H3, I3, q3⟩
theorem zz_un {op : UnaryOp} {p : AV → AH → RE} (ho : UnZ X T W (unaryOp op) p) (ha : PE X a (ERd T X.K W ta)) : PE X (.UnaryOp op a pos) (ERd T X.K W (eUn p ta)) := by
  refine ⟨fun pins s σ H Q I ⟨g, A, sl, a, q⟩ => ?_⟩
  refine UnaryOp_ (thn (ha.run pins s σ H _ I (kr_of (vs := []) (us := []) (k := fun vs _ A => p (g0 vs) A) a .nil q)) fun v s1 ⟨x, H1, I1, r1, q1⟩ => ?_)
  obtain ⟨f2, A2, s2, vs, a2, r2, p2⟩ := q1
  cases r2 with
  | cons r3 r4 => cases r4; exact ho pins s1 σ H1 x v Q f2 A2 _ I1 r1 a2.rel r3 p2
/-- a chain of two comparisons -/
def eChain (p p' : AV → AV → AH → RE) (a b c : EV) : EV := fun s A => (a s A).bd fun x A1 => (b s A1).bd fun y A2 => bnd (p x y A2) fun k A3 => match k with
  | true => (c s A3).bd fun z A4 => p' y z A4
  | false => .ok (.bl false) A3
theorem chain_go {op op' : CmpOp} {p p' : AV → AV → AH → RE} (ho : OpZ X T W (compareOp op) p) (ho' : OpZ X T W (compareOp op') p') {σ : L2.St} {H : Hp} {Q : VK} (h : ERd T X.K W (eChain p p' ta tb tc) σ H Q) :
    ERd T X.K W ta σ H fun x H1 => ERd T X.K W tb σ H1 fun y H2 => ∀ (pins : List (Addr × Obj)) (s : Shared) (xv yv : Value), Inv X pins σ H2 s → RelV x xv → RelV y yv → wpAny (model X.prog X.w) X.A (compareOp op xv yv) (EP X pins σ fun u H3 => ∃ k, u = .bl k ∧
      (if k = true then ERd T X.K W tc σ H3 (fun z H4 => ∀ (pins : List (Addr × Obj)) (s : Shared) (zv : Value), Inv X pins σ H4 s → RelV z zv → wpAny (model X.prog X.w) X.A (compareOp op' yv zv) (EP X pins σ Q) X.xe s) else Q (.bl false) H3)) X.xe s := by
  obtain ⟨g, A, s, a, q⟩ := h
  refine (kr_of (vs := []) (us := []) (k := fun vs s A => (tb s A).bd fun y A2 => (fun vs s A => bnd (p (g0 vs) (g1 vs) A) fun k A3 => match k with | true => (tc s A3).bd fun z A4 => p' (g1 vs) z A4 | false => .ok (.bl false) A3) (vs ++ [y]) s A2) a .nil q).mono fun x H1 h1 => ?_
  refine (kr_go (k := fun vs s A => bnd (p (g0 vs) (g1 vs) A) fun k A3 => match k with | true => (tc s A3).bd fun z A4 => p' (g1 vs) z A4 | false => .ok (.bl false) A3) (us := [x]) h1).mono fun y H2 h2 => ?_
  obtain ⟨f2, A2, s2, vs, a2, r2, p2⟩ := h2
  cases r2 with
  | @cons v1 _ _ _ r1 r2 =>
    cases r2 with
    | @cons v2 _ _ _ r2 r3 =>
      cases r3
      intro pins sh xv yv I rx ry
      refine ho pins sh σ H2 x y xv yv _ f2 A2 _ _ I rx ry a2.rel r1 r2 ?_
      have p3 : Post T X.K W f2 A2 H2 σ Q (bnd (p v1 v2 A2) fun k A3 => match k with | true => (tc s2 A3).bd fun z A4 => p' v2 z A4 | false => .ok (.bl false) A3) := p2
      cases e : p v1 v2 A2 with
      | bad => rw [e] at p3; exact p3
      | ex c fs A3 => rw [e] at p3; exact p3
      | ok w A3 =>
        rw [e] at p3
        cases w with
        | bl k =>
          intro f3 H3 u st ru
          refine ⟨k, ru, ?_⟩
          cases k with
          | false => rw [if_neg Bool.false_ne_true]; exact (Post.step p3 st) f3 H3 _ (.rfl' st.rel) rfl
          | true =>
            rw [if_pos rfl]
            refine (kr_of (vs := [v2]) (us := [y]) (k := fun vs _ A => p' (g0 vs) (g1 vs) A) (a2.step st) (.cons (st.rv r2) .nil) (Post.step p3 st)).mono fun z H4 h4 => ?_
            obtain ⟨f5, A5, s5, vs5, a5, r5, p5⟩ := h4
            cases r5 with
            | cons q1 q2 =>
              cases q2 with
              | cons q2 q3 =>
                cases q3
                exact fun pins s zv I' rz => ho' pins s σ H4 y z yv zv Q f5 A5 _ _ I' ry rz a5.rel q1 q2 p5
        | _ => exact p3.elim
theorem zz_chain {op op' : CmpOp} {p p' : AV → AV → AH → RE} (ho : OpZ X T W (compareOp op) p) (ho' : OpZ X T W (compareOp op') p') (ha : PE X a (ERd T X.K W ta)) (hb : PE X b (ERd T X.K W tb)) (hc : PE X c (ERd T X.K W tc)) (hm : lastMarks [op, op'] [b, c] = false) :
    PE X (.Compare a [op, op'] [b, c] pos) (ERd T X.K W (eChain p p' ta tb tc)) := by
  refine ⟨fun pins s σ H Q I h => ?_⟩
  refine Compare_chain (thn (ha.run pins s σ H _ I (chain_go ho ho' h)) fun v s1 ⟨x, H1, I1, r1, q1⟩ => chain_link (thn (hb.run pins s1 σ H1 _ I1 q1) fun u s2 ⟨y, H2, I2, r2, q2⟩ =>
    thn (q2 pins s2 v u I2 r1 r2) fun d s3 ⟨z, H3, I3, r3, k, e, q3⟩ => ?_)) hm
  subst e
  cases r3
  refine wpAny_truthy_bool ?_
  cases k with
  | false => exact ite_ff ⟨.bl false, H3, I3, rfl, q3⟩
  | true => exact ite_tt (chain_last (thn (hc.run pins s3 σ H3 _ I3 q3) fun w' s4 ⟨z', H4, I4, r4, q4⟩ => q4 pins s4 w' I4 r4))
theorem zzt_chain {op op' : CmpOp} {p p' : AV → AV → AH → RE} (ho : OpZ X T W (compareOp op) p) (ho' : OpZ X T W (compareOp op') p') (ha : PE X a (ERd T X.K W ta)) (hb : PE X b (ERd T X.K W tb)) (hc : PE X c (ERd T X.K W tc)) (hm : lastMarks [op, op'] [b, c] = false) :
    PT X (.Compare a [op, op'] [b, c] pos) (TRd T X.K W (eChain p p' ta tb tc)) := by
  refine ⟨fun pins s σ H Q I h => ?_⟩
  refine isTrue_chain (thn (ha.run pins s σ H _ I (chain_go ho ho' h.of)) fun v s1 ⟨x, H1, I1, r1, q1⟩ => test_link (thn (hb.run pins s1 σ H1 _ I1 q1) fun u s2 ⟨y, H2, I2, r2, q2⟩ =>
    thn (q2 pins s2 v u I2 r1 r2) fun d s3 ⟨z, H3, I3, r3, k, e, q3⟩ => ?_)) hm
  subst e
  cases r3
  refine wpAny_truthy_bool ?_
  cases k with
  | false =>
    obtain ⟨k', e', q'⟩ := q3
    cases e'
    exact ite_ff ⟨H3, I3, q'⟩
  | true =>
    refine ite_tt (test_last (thn (hc.run pins s3 σ H3 _ I3 q3) fun w' s4 ⟨z', H4, I4, r4, q4⟩ => thn (q4 pins s4 w' I4 r4) fun d' s5 ⟨z2, H5, I5, r5, k2, e2, q5⟩ => ?_))
    subst e2
    cases r5
    exact wpAny_truthy_bool ⟨H5, I5, q5⟩
end

/-! ## ints -/
def ii (p : Int → Int → AH → RE) (a b : AV) (A : AH) : RE := match a with
  | .int i => (match b with
    | .int j => p i j A
    | _ => .bad)
  | _ => .bad
def oki (i : Int) (A : AH) : RE := .ok (.int i) A
def okb (b : Bool) (A : AH) : RE := .ok (.bl b) A
def guard (b : Bool) (r : RE) : RE := match b with
  | true => r
  | false => .bad
section
variable {X : Cx} {T : Tbl} {W : WX}
theorem Post.guard {g : Nat → Addr} {A : AH} {H : Hp} {σ : L2.St} {Q : VK} {b : Bool} {r : RE} (h : Post T X.K W g A H σ Q (guard b r)) : b = true ∧ Post T X.K W g A H σ Q r := by
  cases b with
  | true => exact ⟨rfl, h⟩
  | false => exact h.elim
theorem ii_z {f : Value → Value → Sem Value} {p : Int → Int → AH → RE} {r : R2} (ho : OpR X f r)
    (hr : ∀ g A H i j σ Q, Rel T X.K g A H → Post T X.K W g A H σ Q (p i j A) → r (.int i) (.int j) H Q) : OpZ X T W f (ii p) := by
  refine .of ho fun g A H v w x y σ Q rl rv rw q => ?_
  cases v with
  | int i =>
    cases w with
    | int j => cases rv; cases rw; exact hr g A H i j σ Q rl q
    | _ => exact q.elim
  | _ => exact q.elim
theorem iiI {f : Value → Value → Sem Value} {C : Int → Int → Prop} {h : Int → Int → Int} {c : Int → Int → Bool} (ho : OpR X f (rI C fun i j => .int (h i j))) (hc : ∀ i j, c i j = true → C i j) :
    OpZ X T W f (ii fun i j A => guard (c i j) (oki (h i j) A)) := ii_z ho fun g A H i j σ Q rl q => by
  obtain ⟨q1, q2⟩ := q.guard
  exact ⟨i, j, rfl, rfl, hc i j q1, q2.now rl rfl⟩
theorem iiI0 {f : Value → Value → Sem Value} {h : Int → Int → Int} (ho : OpR X f (rI0 fun i j => .int (h i j))) : OpZ X T W f (ii fun i j A => oki (h i j) A) :=
  ii_z ho fun g A H i j σ Q rl q => ⟨i, j, rfl, rfl, q.now rl rfl⟩
theorem iiB0 {f : Value → Value → Sem Value} {h : Int → Int → Bool} (ho : OpR X f (rI0 fun i j => .bl (h i j))) : OpZ X T W f (ii fun i j A => okb (h i j) A) :=
  ii_z ho fun g A H i j σ Q rl q => ⟨i, j, rfl, rfl, q.now rl rfl⟩
/-- less, by the places -/
def iLt (a b : Int) : Bool := match a with
  | .ofNat m => (match b with
    | .ofNat n => Nat.blt m n
    | .negSucc _ => false)
  | .negSucc m => (match b with
    | .ofNat _ => true
    | .negSucc n => Nat.blt n m)
def iEq (a b : Int) : Bool := match a with
  | .ofNat m => (match b with
    | .ofNat n => Nat.beq m n
    | .negSucc _ => false)
  | .negSucc m => (match b with
    | .ofNat _ => false
    | .negSucc n => Nat.beq m n)
theorem iLt_eq (a b : Int) : iLt a b = decide (a < b) := by
  rw [Bool.eq_iff_iff, decide_eq_true_eq]
  cases a with
  | ofNat m =>
    cases b with
    | ofNat n => show Nat.blt m n = true ↔ _; rw [Nat.blt_eq]; simp
    | negSucc n => show false = true ↔ _; simp; omega
  | negSucc m =>
    cases b with
    | ofNat n => show true = true ↔ _; simp; omega
    | negSucc n => show Nat.blt n m = true ↔ _; rw [Nat.blt_eq]; omega
theorem iEq_eq (a b : Int) : iEq a b = decide (a = b) := by
  rw [Bool.eq_iff_iff, decide_eq_true_eq]
  cases a with
  | ofNat m =>
    cases b with
    | ofNat n =>
      show Nat.beq m n = true ↔ _
      rw [Nat.beq_eq]
      exact ⟨fun h => congrArg _ h, fun h => Int.ofNat.inj h⟩
    | negSucc n => exact ⟨fun h => (nomatch (show false = true from h)), fun h => nomatch h⟩
  | negSucc m =>
    cases b with
    | ofNat n => exact ⟨fun h => (nomatch (show false = true from h)), fun h => nomatch h⟩
    | negSucc n =>
      show Nat.beq m n = true ↔ _
      rw [Nat.beq_eq]
      exact ⟨fun h => congrArg _ h, fun h => Int.negSucc.inj h⟩
def iLe (a b : Int) : Bool := !iLt b a
theorem iLe_eq (a b : Int) : iLe a b = decide (a ≤ b) := by
  unfold iLe
  rw [iLt_eq, Bool.eq_iff_iff]
  simp
def fits (i : Int) : Bool := iLt (-18446744073709551616) i && iLt i 18446744073709551616
theorem fits_ok {i : Int} (h : fits i = true) : -(2 ^ 64) < i ∧ i < 2 ^ 64 := by
  unfold fits at h
  rw [iLt_eq, iLt_eq, Bool.and_eq_true, decide_eq_true_eq, decide_eq_true_eq] at h
  omega
def pSub := ii fun i j A => oki (i - j) A
def pMulI := ii fun i j A => guard (fits i || fits j) (oki (i * j) A)
def okDiv (_ j : Int) : Bool := !iEq j 0 && Nat.blt j.natAbs 1073741824
def pDiv := ii fun i j A => guard (okDiv i j) (oki (i.fdiv j) A)
def pMod := ii fun i j A => guard (!iEq j 0) (oki (i.fmod j) A)
def okPow (i j : Int) : Bool := iLe 0 j && iLe j 1000000 && Nat.blt i.natAbs 18446744073709551616
def pPow := ii fun i j A => guard (okPow i j) (oki (i ^ j.toNat) A)
def pShl := ii fun i j A => guard (okPow i j) (oki (i * 2 ^ j.toNat) A)
theorem z_subI : OpZ X T W (binaryOp .Sub) pSub := iiI0 op_sub
theorem z_mulI : OpZ X T W (binaryOp .Mult) pMulI := iiI op_mul fun i j h => by
  rcases Bool.or_eq_true_iff.mp h with h | h
  · exact .inl (fits_ok h)
  · exact .inr (fits_ok h)
theorem z_div : OpZ X T W (binaryOp .FloorDiv) pDiv := iiI op_fdivN fun i j h => by
  unfold okDiv at h
  rw [iEq_eq, Bool.and_eq_true, Nat.blt_eq] at h
  exact ⟨by simpa using h.1, h.2⟩
theorem z_mod : OpZ X T W (binaryOp .Mod) pMod := iiI op_modN fun i j h => by
  rw [iEq_eq] at h
  simpa using h
theorem pow_ok {i j : Int} (h : okPow i j = true) : CPow i j := by
  unfold okPow at h
  rw [iLe_eq, iLe_eq, Bool.and_eq_true, Bool.and_eq_true, Nat.blt_eq, decide_eq_true_eq, decide_eq_true_eq] at h
  exact ⟨h.1.1, h.1.2, by omega⟩
theorem z_pow : OpZ X T W (binaryOp .Pow) pPow := iiI op_pow fun i j h => pow_ok h
theorem z_shl : OpZ X T W (binaryOp .LShift) pShl := iiI op_shl fun i j h => pow_ok h
theorem cmpZ {f : Value → Value → Sem Value} {h h' : Int → Int → Bool} (ho : OpR X f (rI0 fun i j => .bl (h i j))) (e : ∀ i j, h' i j = h i j) : OpZ X T W f (ii fun i j A => okb (h' i j) A) := by
  have : h' = h := funext fun i => funext fun j => e i j
  rw [this]
  exact iiB0 ho
def pLt := ii fun i j A => okb (iLt i j) A
def pLe := ii fun i j A => okb (iLe i j) A
def pGt := ii fun i j A => okb (iLt j i) A
def pGe := ii fun i j A => okb (iLe j i) A
theorem z_lt : OpZ X T W (compareOp .Lt) pLt := cmpZ op_lt iLt_eq
theorem z_le : OpZ X T W (compareOp .LtE) pLe := cmpZ op_le iLe_eq
theorem z_gt : OpZ X T W (compareOp .Gt) pGt := cmpZ op_gt fun i j => iLt_eq j i
theorem z_ge : OpZ X T W (compareOp .GtE) pGe := cmpZ op_ge fun i j => iLe_eq j i
end
end Z
end
section
/-! Z4: defs and classes of the program: calls, instances. -/
namespace Z
open PySem PySem.Spec PyProof.Rows L2

abbrev Calls := Nat → List AV → AH → RE
/-- where a parameter's value comes from -/
inductive Src where
  | pos (i : Nat) | kw (i : Nat) | dv (v : AV)
structure DefZ where
  ps : List Str
  fills : List (Nat × List AV)
  kws : List (Nat × List Str × List Src)
inductive Attr where
  | fld | meth (k : Nat) | prop (k : Nat) | con (v : AV)
structure ClsZ where
  attrs : List (Nat × Attr)
  init : Option Nat
  sup : List Nat
inductive GZ where
  | fn (k : Nat) | cl (c : Nat) | val (v : AV)
structure Desc where
  defs : List DefZ
  clss : List ClsZ
  ats : List Str
  globs : List (Str × GZ)
  isi : List (Nat × List (Nat × Bool))
  nfs : List (Nat × Nat)
  exs : List Nat := []
  xms : List (Nat × List (Nat × Bool)) := []
  tk : List (Nat × Nat) := []
def nlook {α : Type} (i : Nat) : List (Nat × α) → Option α
  | [] => none
  | (j, a) :: r => match Nat.beq i j with
    | true => some a
    | false => nlook i r
theorem nlook_mem {α : Type} {i : Nat} {a : α} : ∀ {l : List (Nat × α)}, nlook i l = some a → (i, a) ∈ l
  | [], h => by cases h
  | (j, b) :: r, h => by
    unfold nlook at h
    cases e : Nat.beq i j with
    | true =>
      rw [e] at h
      cases h
      rw [Nat.eq_of_beq_eq_true e]
      exact List.mem_cons_self
    | false => rw [e] at h; exact List.mem_cons_of_mem _ (nlook_mem h)
def pickA (a z : List AV) : Src → AV
  | .pos i => a.getD i .non
  | .kw i => z.getD i .non
  | .dv v => v
/-- a call of the k-th def with so many values -/
def callK (D : Desc) (cl : Calls) (k : Nat) (vs : List AV) (A : AH) : RE := match D.defs[k]? with
  | some d => (match nlook vs.length d.fills with
    | some ds => cl k (vs ++ ds) A
    | none => .bad)
  | none => .bad
def klook (n : Nat) (ks : List Str) : List (Nat × List Str × List Src) → Option (List Src)
  | [] => none
  | (m, ls, r) :: t => match Nat.beq n m && decide (ks = ls) with
    | true => some r
    | false => klook n ks t
theorem klook_mem {n : Nat} {ks : List Str} {r : List Src} : ∀ {l}, klook n ks l = some r → (n, ks, r) ∈ l
  | [], h => by cases h
  | (m, ls, q) :: t, h => by
    unfold klook at h
    cases e : (Nat.beq n m && decide (ks = ls)) with
    | true =>
      rw [e] at h
      cases h
      obtain ⟨e1, e2⟩ := Bool.and_eq_true_iff.mp e
      rw [Nat.eq_of_beq_eq_true e1, of_decide_eq_true e2]
      exact List.mem_cons_self
    | false => rw [e] at h; exact List.mem_cons_of_mem _ (klook_mem h)
def callKw (D : Desc) (cl : Calls) (k : Nat) (ks : List Str) (vs zs : List AV) (A : AH) : RE := match D.defs[k]? with
  | some d => (match klook vs.length ks d.kws with
    | some r => guard (Nat.beq zs.length ks.length) (cl k (r.map (pickA vs zs)) A)
    | none => .bad)
  | none => .bad
def attrOf (D : Desc) (c a : Nat) : Option Attr := match D.clss[c]? with
  | some z => nlook a z.attrs
  | none => none
/-- an attribute read -/
def pAttr (D : Desc) (cl : Calls) (a : Nat) (v : AV) (A : AH) : RE := match v with
  | .ref i => (match A.get i with
    | some (.ins c fs) => (match attrOf D c a with
      | some .fld => (match nlook a fs with
        | some w => .ok w A
        | none => .bad)
      | some (.con w) => (match nlook a fs with
        | some _ => .bad
        | none => .ok w A)
      | some (.prop k) => (match callK D cl k [v] A with
        | .ok w A1 => .ok w A1
        | _ => .bad)
      | _ => .bad)
    | _ => .bad)
  | _ => .bad
/-- a method called -/
def pMeth (D : Desc) (cl : Calls) (a : Nat) (v : AV) (vs : List AV) (A : AH) : RE := match v with
  | .ref i => (match A.get i with
    | some (.ins c fs) => (match attrOf D c a with
      | some (.meth k) => (match nlook a fs with
        | some _ => .bad
        | none => callK D cl k (v :: vs) A)
      | _ => .bad)
    | _ => .bad)
  | _ => .bad
def putN (a : Nat) (v : AV) : List (Nat × AV) → List (Nat × AV)
  | [] => [(a, v)]
  | (b, x) :: r => match Nat.beq b a with
    | true => (b, v) :: r
    | false => (b, x) :: putN a v r
/-- an attribute stored -/
def pStore (D : Desc) (a : Nat) (o v : AV) (A : AH) : Option AH := match o with
  | .ref i => (match A.get i with
    | some (.ins c fs) => (match attrOf D c a with
      | some .fld => (match Nat.blt fs.length 1000 with
        | true => some (A.set i (.ins c (putN a v fs)))
        | false => none)
      | _ => none)
    | _ => none)
  | _ => none
def back (r : RE) (v : AV) : RE := match r with
  | .ok .non A => .ok v A
  | .ok _ _ => .bad
  | r => r
/-- a new instance -/
def pMake (D : Desc) (cl : Calls) (c : Nat) (vs : List AV) (A : AH) : RE := match D.clss[c]? with
  | some z => (match z.init with
    | some k => back (callK D cl k (.ref A.n :: vs) (A.push (.ins c []))) (.ref A.n)
    | none => .bad)
  | none => .bad
def pMakeKw (D : Desc) (cl : Calls) (c : Nat) (ks : List Str) (vs zs : List AV) (A : AH) : RE := match D.clss[c]? with
  | some z => (match z.init with
    | some k => back (callKw D cl k ks (.ref A.n :: vs) zs (A.push (.ins c []))) (.ref A.n)
    | none => .bad)
  | none => .bad

/-! ## what is known of the program -/
/-- a def's promise -/
def spI (T : Tbl) (K : PySem.W.Frag) (cl : Calls) (k n : Nat) : Sp := fun vs H Q E => ∃ f A as, Rel T K f A H ∧ RVs T K f A.n H as vs ∧ vs.length = n ∧ Post T K (fun c d _ H => E c d H) f A H [] Q (cl k as A)
/-- a value that stands everywhere -/
def CV (T : Tbl) (K : PySem.W.Frag) (v : AV) (u : V) : Prop := ∀ f n H, RV T K f n H v u
structure FnF (P : Program) (w : World) (K : PySem.W.Frag) (mg : Str → Option Value) (base : Heap) (T : Tbl) (cl : Calls) (lv : Nat) (k : Nat) (d : DefZ) : Prop where
  ex : ∃ fd, FnOk P w K mg base (L2.CX P w) lv (T.fa k) fd d.ps (spI T K cl k d.ps.length) ∧
    (∀ n ds, (n, ds) ∈ d.fills → n + ds.length = d.ps.length ∧ ∃ dvs dus, (∀ f n H, RVs T K f n H ds dvs) ∧ Vals dvs dus ∧ ∀ (s : Shared) (us : List Value), K.In s.heap → us.length = n → BindsTo s fd ⟨us, []⟩ (d.ps.zip (us ++ dus))) ∧
    (∀ n ks sr, (n, ks, sr) ∈ d.kws → sr.length = d.ps.length ∧ ∃ g gV, KBn K fd d.ps n ks g gV ∧ ∀ f m H as vs zs ws, RVs T K f m H as vs → RVs T K f m H zs ws → as.length = n → zs.length = ks.length → RVs T K f m H (sr.map (pickA as zs)) (gV vs ws))
  kp : PySem.W.keepIn K (.ref (T.fa k)) = true
  fi : PySem.W.fnIn K (T.fa k) = true
structure ClF (K : PySem.W.Frag) (T : Tbl) (c : Nat) (z : ClsZ) : Prop where
  cl : Cls K (T.ca c)
  kp : PySem.W.keepIn K (.ref (T.ca c)) = true
  fld : ∀ a, (a, Attr.fld) ∈ z.attrs → NoAttr K (T.ca c) (T.at_ a)
  meth : ∀ a k, (a, Attr.meth k) ∈ z.attrs → Meth K (T.ca c) (T.at_ a) (T.fa k)
  prop : ∀ a k, (a, Attr.prop k) ∈ z.attrs → ∃ p, PropOf K (T.ca c) (T.at_ a) p (T.fa k)
  con : ∀ a v, (a, Attr.con v) ∈ z.attrs → ∃ u w, Con K (T.ca c) (T.at_ a) u w ∧ CV T K v u
  init : ∀ k, z.init = some k → Mk K (T.ca c) (T.fa k)
  ty : ∀ (H : Hp) a dx fs, H a = some (.ins (T.ca c) dx fs) → TyOf K H (.ref a) (.ref (T.ca c))
  ne : PySem.W.findIn K (.ref (T.ca c)) "__ne__" = some (some (.builtin "object.__ne__"))
  ob : PySem.W.mroIn K (T.ca c) (.type "object") = some true
  sq : PySem.W.noSeq K (T.ca c) = true
  sf : PySem.W.selfFirst K (T.ca c) = true
/-- types by number: the built-in ones, then the classes -/
def tagV (T : Tbl) : Nat → Value
  | 0 => .type "NoneType"
  | 1 => .type "bool"
  | 2 => .type "int"
  | 3 => .type "str"
  | 4 => .type "list"
  | 5 => .type "tuple"
  | 6 => .type "dict"
  | c + 7 => .ref (T.ca c)
/-- the names of the methods that operations call -/
def dunN : List Str := ["__getitem__", "__contains__", "__len__", "__eq__", "__add__", "__sub__", "__neg__", "__call__", "__bool__", "__enter__", "__exit__", "__iter__"]
/-- an own exception class, without own __init__, over ValueError -/
structure ExF (K : PySem.W.Frag) (C : Addr) : Prop where
  ex : PySem.W.excIn K C [.type "ValueError", .type "Exception", .type "BaseException", .type "object"] "ValueError.__new__" = true
  kp : PySem.W.keepIn K (.ref C) = true
  sub : PySem.W.subIn K (.ref C) (.type "BaseException") = some true
  ty : PySem.W.typeIn K (.ref C) = some (.type "type")
structure Facts (P : Program) (w : World) (K : PySem.W.Frag) (mg : Str → Option Value) (base : Heap) (T : Tbl) (D : Desc) (cl : Calls) (lv : Nat) : Prop where
  fn : ∀ k d, D.defs[k]? = some d → FnF P w K mg base T cl lv k d
  cls : ∀ c z, D.clss[c]? = some z → ClF K T c z
  inj : ∀ a b, T.at_ a = T.at_ b → a = b
  nm : ∀ i x, dunN[i]? = some x → T.at_ i = x
  isi : ∀ u l, (u, l) ∈ D.isi → ∀ t b, (t, b) ∈ l → PySem.W.kitOne K (tagV T t) (tagV T u) = some b
  nf : ∀ c t, (c, t) ∈ D.nfs → PySem.W.notFirst K (T.ca c) (tagV T t) = true
  ex : ∀ c, c ∈ D.exs → ExF K (T.ca c)
  xm : ∀ k l, (k, l) ∈ D.xms → ∀ c b, (c, b) ∈ l → PySem.W.exmOne K (.ref (T.ca c)) (.ref (T.ca k)) = some b
abbrev Facts.X (X : Cx) (T : Tbl) (D : Desc) (cl : Calls) (lv : Nat) : Prop := Facts X.prog X.w X.K X.mg X.base T D cl lv

section
variable {X : Cx} {T : Tbl} {W : WX} {D : Desc} {cl : Calls} {lv : Nat}
theorem post_call {g : Nat → Addr} {A : AH} {H : Hp} {σ : L2.St} {Q : VK} {r : RE} (q : Post T X.K W g A H σ Q r) : Post T X.K (fun c d _ H => WE W σ c d H) g A H [] Q r := by
  cases r with
  | ok v A1 => exact q
  | ex c fs A1 => exact q
  | bad => exact q
/-- a def of the program called, by values -/
theorem z_callK (F : Facts.X X T D cl lv) (tk : Takes X W) (hr : Room lv X.A) (k : Nat) : CallZ X T W (.ref (T.fa k)) (callK D cl k) := by
  intro pins s σ H xs us Q g A as I rx rl ra q
  unfold callK at q
  cases e : D.defs[k]? with
  | none => rw [e] at q; exact q.elim
  | some d =>
    rw [e] at q
    have q1 : Post T X.K W g A H σ Q (match nlook as.length d.fills with | some ds => cl k (as ++ ds) A | none => .bad) := q
    cases e1 : nlook as.length d.fills with
    | none => rw [e1] at q1; exact q1.elim
    | some ds =>
      rw [e1] at q1
      obtain ⟨⟨fd, ok, fl, _⟩, kp, _⟩ := F.fn k d e
      obtain ⟨hl, dvs, dus, rd, rv, hb⟩ := fl _ ds (nlook_mem e1)
      have l1 : us.length = as.length := rx.length.symm.trans ra.length.symm
      have app : ∀ {p q : List AV} {x y : List V}, RVs T X.K g A.n H p x → RVs T X.K g A.n H q y → RVs T X.K g A.n H (p ++ q) (x ++ y) := fun r r' => by
        induction r with
        | nil => exact r'
        | cons a _ ih => exact .cons a ih
      have sp : spI T X.K cl k d.ps.length (xs ++ dvs) H Q (WE W σ) := ⟨g, A, as ++ ds, rl, app ra (rd g A.n H), by
        rw [List.length_append, ← ra.length, ← (rd g A.n H).length]; exact hl, post_call q1⟩
      refine wpAny_call (codeAny_mono (ok.run X.A X.stack s H ⟨us, []⟩ (us ++ dus) (xs ++ dvs) Q (WE W σ) hr I.env0 (hb s us I.kIn l1) (rx.append rv) sp) fun r s' hq => ?_)
      cases r with
      | error er => exact passAt tk σ pins H s er s' I hq
      | ok fl =>
        cases fl with
        | ret u => exact I.after hq
        | next => exact False.elim hq
        | brk => exact False.elim hq
        | cont => exact False.elim hq
theorem app_rvs {g : Nat → Addr} {n : Nat} {H : Hp} {p q : List AV} {x y : List V} (r : RVs T X.K g n H p x) (r' : RVs T X.K g n H q y) : RVs T X.K g n H (p ++ q) (x ++ y) := by
  induction r with
  | nil => exact r'
  | cons a _ ih => exact .cons a ih
/-- the callee's end -/
theorem fn_end {s : Shared} {pins : List (Addr × Obj)} {σ : L2.St} {H : Hp} {Q : VK} (tk : Takes X W) (I : Inv X pins σ H s) {r : Result} {s' : Shared} (hq : CR (L2.CX X.prog X.w) X.stack X.prog X.w H s Q (WE W σ) r s') :
    (match r with | .ok (.ret u) => EP X pins σ Q u s' | .ok _ => False | .error e => X.xe e s') := by
  cases r with
  | error er => exact passAt tk σ pins H s er s' I hq
  | ok fl =>
    cases fl with
    | ret u => exact I.after hq
    | next => exact False.elim hq
    | brk => exact False.elim hq
    | cont => exact False.elim hq
def CallKZ (X : Cx) (T : Tbl) (W : WX) (c : Value) (ks : List Str) (p : List AV → List AV → AH → RE) : Prop :=
  ∀ (pins : List (Addr × Obj)) (s : Shared) (σ : L2.St) (H : Hp) (xs zs : List V) (us ws : List Value) (Q : VK) (g : Nat → Addr) (A : AH) (as bs : List AV), Inv X pins σ H s → Vals xs us → Vals zs ws →
    Rel T X.K g A H → RVs T X.K g A.n H as xs → RVs T X.K g A.n H bs zs → Post T X.K W g A H σ Q (p as bs A) → wpAny (model X.prog X.w) X.A (call c us (ks.zip ws)) (EP X pins σ Q) X.xe s
theorem z_callKw (F : Facts.X X T D cl lv) (tk : Takes X W) (hr : Room lv X.A) (k : Nat) (ks : List Str) : CallKZ X T W (.ref (T.fa k)) ks (callKw D cl k ks) := by
  intro pins s σ H xs zs us ws Q g A as bs I rx rz rl ra rb q
  unfold callKw at q
  cases e : D.defs[k]? with
  | none => rw [e] at q; exact q.elim
  | some d =>
    rw [e] at q
    have q1 : Post T X.K W g A H σ Q (match klook as.length ks d.kws with | some r => guard (Nat.beq bs.length ks.length) (cl k (r.map (pickA as bs)) A) | none => .bad) := q
    cases e1 : klook as.length ks d.kws with
    | none => rw [e1] at q1; exact q1.elim
    | some sr =>
      rw [e1] at q1
      obtain ⟨hl, q1⟩ := q1.guard
      have hl := Nat.eq_of_beq_eq_true hl
      have hw : ws.length = ks.length := rz.length.symm.trans (rb.length.symm.trans hl)
      obtain ⟨⟨fd, ok, _, kw⟩, kp, _⟩ := F.fn k d e
      obtain ⟨hs, gg, gV, kb, rg⟩ := kw _ _ _ (klook_mem e1)
      have l1 : us.length = as.length := rx.length.symm.trans ra.length.symm
      have rp := rg g A.n H as xs bs zs ra rb rfl hl
      have sp : spI T X.K cl k d.ps.length (gV xs zs) H Q (WE W σ) := ⟨g, A, _, rl, rp, by rw [← rp.length, List.length_map]; exact hs, post_call q1⟩
      refine wpAny_call (codeAny_mono (ok.run X.A X.stack s H ⟨us, ks.zip ws⟩ (gg us ws) (gV xs zs) Q (WE W σ) hr I.env0 (kb.to s us ws I.kIn l1 hw) (kb.rel rx rz) sp) fun r s' hq => ?_)
      have z := fn_end tk I hq
      cases r with
      | error er => exact z
      | ok fl =>
        cases fl with
        | ret u => exact z
        | _ => exact False.elim z
/-! attributes -/
theorem look_pair {n : Nat} {g : Nat → Addr} {H : Hp} (F : Facts.X X T D cl lv) {a : Nat} : ∀ {fs : List (Nat × AV)} {ws : List (Str × V)}, Paired (fun (p : Nat × AV) (q : Str × V) => T.at_ p.1 = q.1 ∧ RV T X.K g n H p.2 q.2) fs ws →
    (match nlook a fs with | some v => ∃ u, ws.lookup (T.at_ a) = some u ∧ RV T X.K g n H v u | none => ws.lookup (T.at_ a) = none)
  | [], _, .nil => rfl
  | (b, v) :: fs, _, .cons (b := (y, u)) h t => by
    have ih := look_pair F (a := a) t
    obtain ⟨h1, h2⟩ := h
    have h1 : T.at_ b = y := h1
    unfold nlook
    cases e : Nat.beq a b with
    | true =>
      have ab := Nat.eq_of_beq_eq_true e
      show ∃ u', List.lookup (T.at_ a) ((y, u) :: _) = some u' ∧ _
      refine ⟨u, ?_, h2⟩
      rw [List.lookup_cons, show (T.at_ a == y) = true by rw [← h1, ab]; exact beq_self_eq_true _]
    | false =>
      have ne : a ≠ b := fun z => by rw [z] at e; rw [Nat.beq_refl] at e; cases e
      have hy : (T.at_ a == y) = false := by
        rw [← h1]
        exact beq_eq_false_iff_ne.mpr fun z => ne (F.inj _ _ z)
      have el : ∀ l : List (Str × V), List.lookup (T.at_ a) ((y, u) :: l) = List.lookup (T.at_ a) l := fun l => by rw [List.lookup_cons, hy]
      rw [el]
      exact ih
/-- what an instance is -/
theorem Rel.ins {g : Nat → Addr} {A : AH} {H : Hp} (r : Rel T X.K g A H) {i c : Nat} {fs : List (Nat × AV)} (e : A.get i = some (.ins c fs)) :
    ∃ dx ws, H (g i) = some (.ins (T.ca c) dx ws) ∧ Paired (fun (p : Nat × AV) (q : Str × V) => T.at_ p.1 = q.1 ∧ RV T X.K g A.n H p.2 q.2) fs ws := (r.ob i _ e).2
theorem attrOf_mem {c a : Nat} {t : Attr} (h : attrOf D c a = some t) : ∃ z, D.clss[c]? = some z ∧ (a, t) ∈ z.attrs := by
  unfold attrOf at h
  cases e : D.clss[c]? with
  | none => rw [e] at h; cases h
  | some z => rw [e] at h; exact ⟨z, rfl, nlook_mem h⟩
theorem z_attr (F : Facts.X X T D cl lv) (hr : Room (lv + 1) X.A) (a : Nat) (b : Bool) : UnZ X T W (fun v => getAttr v (T.at_ a) b) (pAttr D cl a) := by
  intro pins s σ H x xv Q g A v I rx rl rv q
  unfold pAttr at q
  cases v with
  | ref i =>
    obtain ⟨hi, ex⟩ := rv
    subst ex
    obtain rfl : xv = Value.ref (g i) := rx
    cases e : A.get i with
    | none => simp only [e] at q; exact q.elim
    | some o =>
      simp only [e] at q
      cases o with
      | ins c fs =>
        obtain ⟨dx, ws, eH, pr⟩ := rl.ins e
        have lk := look_pair F (a := a) pr
        simp only at q
        cases ea : attrOf D c a with
        | none => simp only [ea] at q; exact q.elim
        | some t =>
          obtain ⟨z, ez, hm⟩ := attrOf_mem ea
          have CF := F.cls c z ez
          simp only [ea] at q
          cases t with
          | fld =>
            simp only at q
            cases el : nlook a fs with
            | none => simp only [el] at q; exact q.elim
            | some w =>
              simp only [el] at q lk
              obtain ⟨u, hu, ru⟩ := lk
              exact getattr_ok I eH CF.cl (CF.fld a hm) hu fun uv s' I' r' => ⟨u, H, I', r', q.now rl ru⟩
          | con w =>
            simp only at q
            cases el : nlook a fs with
            | some _ => simp only [el] at q; exact q.elim
            | none =>
              simp only [el] at q lk
              obtain ⟨u, wv, hc, hv⟩ := CF.con a w hm
              exact getcon_ok I eH CF.cl hc lk fun s' I' => ⟨u, H, I', hc.rel, q.now rl (hv g A.n H)⟩
          | prop k =>
            simp only at q
            obtain ⟨p, hp⟩ := CF.prop a k hm
            unfold callK at q
            cases ed : D.defs[k]? with
            | none => simp only [ed] at q; exact q.elim
            | some d =>
              obtain ⟨⟨fd, ok, fl, _⟩, kp, _⟩ := F.fn k d ed
              simp only [ed] at q
              cases ef : nlook [AV.ref i].length d.fills with
              | none => simp only [ef] at q; exact q.elim
              | some ds =>
                simp only [ef] at q
                obtain ⟨hl, dvs, dus, rd, rv', hb⟩ := fl _ ds (nlook_mem ef)
                cases er : cl k ([AV.ref i] ++ ds) A with
                | bad => simp only [er] at q; exact q.elim
                | ex c' fs' A' => simp only [er] at q; exact q.elim
                | ok w A1 =>
                  simp only [er] at q
                  have ra : RVs T X.K g A.n H ([AV.ref i] ++ ds) ([V.ref (g i)] ++ dvs) := app_rvs (.cons ⟨hi, rfl⟩ .nil) (rd g A.n H)
                  have sp : spI T X.K cl k d.ps.length (V.ref (g i) :: dvs) H Q (E0) := ⟨g, A, _, rl, ra, by rw [List.length_cons, ← (rd g A.n H).length, Nat.add_comm]; exact hl, by rw [er]; exact q⟩
                  have hbb : Binds X.K fd d.ps dus := fun s us kin hle => hb s us kin (by
                    rw [List.length_append, ← rv'.length, ← (rd g A.n H).length] at hle
                    have : [AV.ref i].length = 1 := rfl
                    omega)
                  exact getprop_ok I eH CF.cl hp ok hr hbb rv' passL sp
          | meth k => exact q.elim
      | lst xs => exact q.elim
      | dct t lk kvs => exact q.elim
  | _ => exact q.elim
end
end Z
end
section
/-! Z5: calls, attributes, stores, new instances as expressions and statements. -/
namespace Z
open PySem PySem.Spec PyProof.Rows L2

/-! ## argument lists without a star -/
def noStar : Expr → Bool
  | .Starred _ _ => false
  | _ => true
theorem star_cons {e : Expr} {es : List Expr} {env : Env} (h : noStar e = true) : starEach (e :: es) env = (false, eval e env) :: starEach es env := by
  cases e <;> first | rfl | cases h
theorem stars_any {pos : Pos} {env : Env} : ∀ {es : List Expr}, es.all noStar = true → (backTo pos (starEach es env)).any (·.1) = false
  | [], _ => rfl
  | e :: es, h => by
    obtain ⟨h1, h2⟩ := Bool.and_eq_true_iff.mp (show (noStar e && es.all noStar) = true from h)
    rw [star_cons h1]
    exact stars_any (es := es) h2
theorem stars_all {pos : Pos} {env : Env} : ∀ {es : List Expr}, es.all noStar = true → (backTo pos (starEach es env)).all (fun x => !x.1) = true
  | [], _ => rfl
  | e :: es, h => by
    obtain ⟨h1, h2⟩ := Bool.and_eq_true_iff.mp (show (noStar e && es.all noStar) = true from h)
    rw [star_cons h1]
    exact stars_all (es := es) h2
/-- keywords with names -/
def kwNames : List Keyword → Option (List Str)
  | [] => some []
  | ⟨some n, _, _⟩ :: r => match kwNames r with
    | some ns => some (n :: ns)
    | none => none
  | _ => none
theorem kw_ok {pos : Pos} {env : Env} : ∀ {ks : List Keyword} {ns : List Str}, kwNames ks = some ns → (backToKw pos (keywordEach ks env)).all (·.1.isSome) = true ∧ (backToKw pos (keywordEach ks env)).filterMap (·.1) = ns ∧ (backToKw pos (keywordEach ks env)).any (·.1.isNone) = false
  | [], ns, h => by cases h; exact ⟨rfl, rfl, rfl⟩
  | ⟨some n, v, p⟩ :: r, ns, h => by
    unfold kwNames at h
    cases e : kwNames r with
    | none => rw [e] at h; cases h
    | some ms =>
      rw [e] at h
      cases h
      obtain ⟨h1, h2, h3⟩ := kw_ok (pos := pos) (env := env) e
      exact ⟨h1, congrArg (n :: ·) h2, h3⟩
  | ⟨none, v, p⟩ :: r, ns, h => by cases h

section
variable {X : Cx} {T : Tbl} {W : WX} {D : Desc} {cl : Calls} {lv : Nat} {e o : Expr} {es : List Expr} {te to : EV} {l lk : Sl → AH → RL} {pos p apos : Pos} {x : Str} {kws : List Keyword}
def eCallK (D : Desc) (cl : Calls) (k : Nat) (l : Sl → AH → RL) : EV := fun s A => (l s A).bd fun vs A1 => callK D cl k vs A1
/-- values there, then a call -/
theorem cz_go {c : Value} {q : List AV → AH → RE} (hc : CallZ X T W c q) {σ : L2.St} {H : Hp} {Q : VK} {vs : List V} {us : List Value} {s : Shared} {pins : List (Addr × Obj)} (I : Inv X pins σ H s) (r : Vals vs us)
    (h : ∃ f A as, Rel T X.K f A H ∧ RVs T X.K f A.n H as vs ∧ Post T X.K W f A H σ Q (q as A)) : wpAny (model X.prog X.w) X.A (call c us) (EP X pins σ Q) X.xe s :=
  let ⟨f, A, as, rl, ra, q⟩ := h; hc pins s σ H vs us Q f A as I r rl ra q
/-- a call of a value that stands in the written part: the name's value is c -/
theorem ze_callV {c : Value} {q : List AV → AH → RE} (hc : CallZ X T W c q) (ld : ∀ (pins : List (Addr × Obj)) (s : Shared) (σ : L2.St) (H : Hp) (Q : Value → Shared → Prop), Inv X pins σ H s → Q c s → wpAny (model X.prog X.w) X.A (eval (.Name x p) X.env) Q X.xe s) (kp : PySem.W.keepIn X.K c = true)
    (he : noStar e = true) (hs : es.all noStar = true) (ha : PA X (e :: es) (ARd T X.K W l)) : PE X (.Call (.Name x p) (e :: es) [] pos) (ERd T X.K W fun s A => (l s A).bd q) := by
  refine ⟨fun pins s σ H Q I h => ?_⟩
  refine wpAny_Call_Name_kw (ld pins s σ H _ I ?_)
  exact PySem.W.callWith_K (h₀ := X.base) I.ok.mod.kin kp (thn (ha.run pos pins s σ H _ I (lst2 (k := q) h)) fun us s1 ⟨vs, H1, I1, r, q⟩ => ⟨I1.kIn, cz_go hc I1 r q⟩) (star_cons he) (stars_any hs)
theorem ze_callV0 {c : Value} {q : List AV → AH → RE} (hc : CallZ X T W c q) (ld : ∀ (pins : List (Addr × Obj)) (s : Shared) (σ : L2.St) (H : Hp) (Q : Value → Shared → Prop), Inv X pins σ H s → Q c s → wpAny (model X.prog X.w) X.A (eval (.Name x p) X.env) Q X.xe s) (kp : PySem.W.keepIn X.K c = true) :
    PE X (.Call (.Name x p) [] [] pos) (ERd T X.K W fun s A => (lNil s A).bd q) := by
  refine ⟨fun pins s σ H Q I ⟨f, A, sl, a, h⟩ => ?_⟩
  refine wpAny_Call_Name_kw (ld pins s σ H _ I ?_)
  exact PySem.W.callWith_K0 I.kIn kp (cz_go hc I .nil ⟨f, A, [], a.rel, .nil, h⟩)
/-- the same with keywords -/
theorem pk_all : ∀ {ks : List Keyword} {tk : Sl → AH → RL}, PK X ks (ARd T X.K W tk) → PK X ks (ARd T X.K W tk) := fun h => h
theorem ckz_go {c : Value} {ks : List Str} {q : List AV → List AV → AH → RE} (hc : CallKZ X T W c ks q) {σ : L2.St} {H : Hp} {Q : VK} {vs zs : List V} {us ws : List Value} {s : Shared} {pins : List (Addr × Obj)} (I : Inv X pins σ H s) (r : Vals vs us) (rz : Vals zs ws)
    (h : ∃ f A as bs, Rel T X.K f A H ∧ RVs T X.K f A.n H as vs ∧ RVs T X.K f A.n H bs zs ∧ Post T X.K W f A H σ Q (q as bs A)) : wpAny (model X.prog X.w) X.A (call c us (ks.zip ws)) (EP X pins σ Q) X.xe s :=
  let ⟨f, A, as, bs, rl, ra, rb, q⟩ := h; hc pins s σ H vs zs us ws Q f A as bs I r rz rl ra rb q
def eKw (q : List AV → List AV → AH → RE) (l lk : Sl → AH → RL) : EV := fun s A => (l s A).bd fun vs A1 => (lk s A1).bd fun zs A2 => q vs zs A2
theorem kw2 {q : List AV → List AV → AH → RE} {σ : L2.St} {H : Hp} {Q : VK} (h : ERd T X.K W (eKw q l lk) σ H Q) :
    ARd T X.K W l σ H fun us H1 => ARd T X.K W lk σ H1 fun zs H2 => ∃ f A as bs, Rel T X.K f A H2 ∧ RVs T X.K f A.n H2 as us ∧ RVs T X.K f A.n H2 bs zs ∧ Post T X.K W f A H2 σ Q (q as bs A) := by
  obtain ⟨f, A, s, a, p⟩ := h
  refine ⟨f, A, s, a, ?_⟩
  unfold eKw at p
  cases e : l s A with
  | bad => rw [e] at p; exact p
  | ex c fs A1 => rw [e] at p; exact p
  | ok vs A1 =>
    rw [e] at p
    intro f1 H1 us st rv
    refine ⟨f1, A1, s, a.step st, ?_⟩
    have p1 : Post T X.K W f A H σ Q ((lk s A1).bd fun zs A2 => q vs zs A2) := p
    cases e2 : lk s A1 with
    | bad => rw [e2] at p1; exact p1
    | ex c fs A2 => rw [e2] at p1; exact fun f2 H2 d st2 x => p1 f2 H2 d (st.trans st2) x
    | ok zs A2 => rw [e2] at p1; exact fun f2 H2 ws st2 rz => ⟨f2, A2, vs, zs, st2.rel, st2.rvs rv, rz, Post.step p1 (st.trans st2)⟩
theorem ze_callKV {c : Value} {ks : List Str} {q : List AV → List AV → AH → RE} (hc : CallKZ X T W c ks q) (ld : ∀ (pins : List (Addr × Obj)) (s : Shared) (σ : L2.St) (H : Hp) (Q : Value → Shared → Prop), Inv X pins σ H s → Q c s → wpAny (model X.prog X.w) X.A (eval (.Name x p) X.env) Q X.xe s) (kp : PySem.W.keepIn X.K c = true)
    (he : noStar e = true) (hs : es.all noStar = true) (hk : kwNames kws = some ks) (ha : PA X (e :: es) (ARd T X.K W l)) (hkw : PK X kws (ARd T X.K W lk)) :
    PE X (.Call (.Name x p) (e :: es) kws pos) (ERd T X.K W (eKw q l lk)) := by
  refine ⟨fun pins s σ H Q I h => ?_⟩
  obtain ⟨k1, k2, k3⟩ := kw_ok (pos := pos) (env := X.env) hk
  refine wpAny_Call_Name_kw (ld pins s σ H _ I ?_)
  refine PySem.W.callWith_KW (h₀ := X.base) I.ok.mod.kin kp k1 (thn (ha.run pos pins s σ H _ I (kw2 h)) fun us s1 ⟨vs, H1, I1, r, q⟩ => ?_) (by
    rw [star_cons he, k3, Bool.or_false]
    exact stars_any hs) (star_cons he)
  exact thn (hkw.run pos pins s1 σ H1 _ I1 q) fun ws s2 ⟨zs, H2, I2, rz, q2⟩ => ⟨I2.kIn, by rw [k2]; exact ckz_go hc I2 r rz q2⟩
theorem ze_callKV0 {c : Value} {ks : List Str} {q : List AV → List AV → AH → RE} (hc : CallKZ X T W c ks q) (ld : ∀ (pins : List (Addr × Obj)) (s : Shared) (σ : L2.St) (H : Hp) (Q : Value → Shared → Prop), Inv X pins σ H s → Q c s → wpAny (model X.prog X.w) X.A (eval (.Name x p) X.env) Q X.xe s) (kp : PySem.W.keepIn X.K c = true)
    (hk : kwNames kws = some ks) (hkw : PK X kws (ARd T X.K W lk)) : PE X (.Call (.Name x p) [] kws pos) (ERd T X.K W (eKw q lNil lk)) := by
  refine ⟨fun pins s σ H Q I ⟨f, A, sl, a, h⟩ => ?_⟩
  obtain ⟨k1, k2, k3⟩ := kw_ok (pos := pos) (env := X.env) hk
  refine wpAny_Call_Name_kw (ld pins s σ H _ I ?_)
  refine PySem.W.callWith_KW0 (h₀ := X.base) I.ok.mod.kin kp k1 ?_ (by rw [k3, Bool.or_false]; rfl)
  have z : ARd T X.K W lk σ H fun zs H2 => ∃ f A as bs, Rel T X.K f A H2 ∧ RVs T X.K f A.n H2 as [] ∧ RVs T X.K f A.n H2 bs zs ∧ Post T X.K W f A H2 σ Q (q as bs A) := by
    refine (kl_of (vs := []) (us := []) (k := fun vs _ A => q [] vs A) a .nil h).mono fun zs H2 ⟨f2, A2, s2, vs, a2, r2, p2⟩ => ⟨f2, A2, [], vs, a2.rel, .nil, r2, p2⟩
  exact thn (hkw.run pos pins s σ H _ I z) fun ws s2 ⟨zs, H2, I2, rz, q2⟩ => ⟨I2.kIn, by rw [k2]; exact ckz_go (vs := []) (us := []) hc I2 .nil rz q2⟩
theorem zk_nil : PK X [] (ARd T X.K W lNil) := ⟨fun ps pins s σ H Q I ⟨f, A, sl, a, q⟩ => pk_nil.run ps pins s σ H Q I (q f H [] (.rfl' a.rel) .nil)⟩
/-- a list's reading, split at its head -/
theorem lcons_rd {σ : L2.St} {H : Hp} {Q : List V → Hp → Prop} (h : ARd T X.K W (lCons te l) σ H Q) : tCons (ERd T X.K W te) (ARd T X.K W l) σ H Q := by
  obtain ⟨f, A, s, a, q⟩ := h
  refine ⟨f, A, s, a, ?_⟩
  unfold lCons at q
  cases e1 : te s A with
  | bad => rw [e1] at q; exact q
  | ex c fs A1 => rw [e1] at q; exact q
  | ok v A1 =>
    rw [e1] at q
    intro f1 H1 u st rv
    refine ⟨f1, A1, s, a.step st, ?_⟩
    have q1 : PostL T X.K W f A H σ Q (match l s A1 with | .ok vs A2 => .ok (v :: vs) A2 | r => r) := q
    cases e2 : l s A1 with
    | bad => rw [e2] at q1; exact q1
    | ex c fs A2 => rw [e2] at q1; exact fun f2 H2 d st2 x => q1 f2 H2 d (st.trans st2) x
    | ok vs A2 => rw [e2] at q1; exact fun f2 H2 us st2 rs => q1 f2 H2 (u :: us) (st.trans st2) (.cons (st2.rv rv) rs)
theorem zk_cons {nm : Option Str} {kpos : Pos} (ha : PE X e (ERd T X.K W te)) (hr : PK X kws (ARd T X.K W lk)) : PK X (⟨nm, e, kpos⟩ :: kws) (ARd T X.K W (lCons te lk)) :=
  ⟨fun ps pins s σ H Q I q => (pk_cons ha hr).run ps pins s σ H Q I (lcons_rd q)⟩
/-! ## new instances -/
/-- two Stp for an instance made -/
theorem Rel.made {g : Nat → Addr} {A : AH} {H : Hp} (r : Rel T X.K g A H) {c : Nat} {x dx : Addr} (hx : H x = none) (hdx : H dx = none) (ne : dx ≠ x) :
    Stp T X.K g A H (ext g A.n x) (A.push (.ins c [])) (upd (upd H dx (.own x)) x (.ins (T.ca c) dx [])) := by
  have h1 : HS H (upd H dx (.own x)) := HS.upd hdx
  have h2 : upd H dx (.own x) x = none := by rw [upd_ne (Ne.symm ne)]; exact hx
  exact r.add (h1.tr (HS.upd h2)) hx ⟨dx, [], upd_same, .nil⟩
theorem post_back {g : Nat → Addr} {A : AH} {H : Hp} {σ : L2.St} {Q : VK} {r : RE} {v : AV} {u : V} (q : Post T X.K W g A H σ Q (back r v)) (rv : RV T X.K g A.n H v u) : Post T X.K W g A H σ (fun w H2 => w = .non ∧ Q u H2) r := by
  cases r with
  | ok w A1 =>
    cases w with
    | non => exact fun f' H' w st rw => ⟨rw, q f' H' u st (st.rv rv)⟩
    | _ => exact q.elim
  | ex c fs A1 => exact q
  | bad => exact q
theorem z_make (F : Facts.X X T D cl lv) (tk : Takes X W) (hr : Room (lv + 1) X.A) (c : Nat) : CallZ X T W (.ref (T.ca c)) (pMake D cl c) := by
  intro pins s σ H xs us Q g A as I rx rl ra q
  unfold pMake at q
  cases e : D.clss[c]? with
  | none => rw [e] at q; exact q.elim
  | some z =>
    rw [e] at q
    have CF := F.cls c z e
    have q1 : Post T X.K W g A H σ Q (match z.init with | some k => back (callK D cl k (.ref A.n :: as) (A.push (.ins c []))) (.ref A.n) | none => .bad) := q
    cases ei : z.init with
    | none => rw [ei] at q1; exact q1.elim
    | some k =>
      rw [ei] at q1
      have M := CF.init k ei
      have st := rl.made (c := c) (I.hok.fresh (Nat.le_succ _)) (I.hok.fresh (Nat.le_refl _)) (Nat.ne_of_lt (Nat.lt_succ_self _))
      have I2 := Inv.made (C := T.ca c) I
      have rn : RV T X.K (ext g A.n (s.heap.objs.size + 1)) (A.push (.ins c [])).n (upd (upd H s.heap.objs.size (.own (s.heap.objs.size + 1))) (s.heap.objs.size + 1) (.ins (T.ca c) s.heap.objs.size [])) (.ref A.n) (.ref (s.heap.objs.size + 1)) := ⟨Nat.lt_succ_self _, by rw [ext_at]⟩
      have q2 := post_back (Post.step q1 st) rn
      unfold callK at q2
      cases ed : D.defs[k]? with
      | none => rw [ed] at q2; exact q2.elim
      | some d =>
        rw [ed] at q2
        have q3 : Post T X.K W _ _ _ σ _ (match nlook (AV.ref A.n :: as).length d.fills with | some ds => cl k ((AV.ref A.n :: as) ++ ds) (A.push (.ins c [])) | none => .bad) := q2
        cases ef : nlook (AV.ref A.n :: as).length d.fills with
        | none => rw [ef] at q3; exact q3.elim
        | some ds =>
          rw [ef] at q3
          obtain ⟨⟨fd, ok, fl, _⟩, kp, _⟩ := F.fn k d ed
          obtain ⟨hl, dvs, dus, rd, rv', hb⟩ := fl _ ds (nlook_mem ef)
          have ra2 : RVs T X.K (ext g A.n (s.heap.objs.size + 1)) (A.push (.ins c [])).n (upd (upd H s.heap.objs.size (.own (s.heap.objs.size + 1))) (s.heap.objs.size + 1) (.ins (T.ca c) s.heap.objs.size [])) (AV.ref A.n :: as) (.ref (s.heap.objs.size + 1) :: xs) := .cons rn (st.rvs ra)
          have rx2 : Vals (V.ref (s.heap.objs.size + 1) :: xs) (Value.ref (s.heap.objs.size + 1) :: us) := .cons rfl rx
          have sp : spI T X.K cl k d.ps.length ((V.ref (s.heap.objs.size + 1) :: xs) ++ dvs) _ (fun v H2 => v = .non ∧ Q (.ref (s.heap.objs.size + 1)) H2) (WE W σ) := ⟨_, _, _, st.rel, app_rvs ra2 (rd _ _ _), by
            rw [List.length_append, ← ra2.length, ← (rd g A.n H).length]; exact hl, post_call q3⟩
          have l1 : (Value.ref (s.heap.objs.size + 1) :: us).length = (AV.ref A.n :: as).length := rx2.length.symm.trans ra2.length.symm
          refine wpAny_call (make_map (f := T.fa k) I.kIn M.makes M.init (beq_iff_eq.mp M.fn) (codeAny_mono (ok.run _ X.stack _ _ ⟨Value.ref (s.heap.objs.size + 1) :: us, []⟩ _ _ _ (WE W σ) (hr.make _ us [])
            (I2.env0.make _ us []) (hb _ (Value.ref (s.heap.objs.size + 1) :: us) I2.kIn l1) (rx2.append rv') sp) fun r s' hq => ?_))
          have zq := fn_end tk I2 hq
          cases r with
          | error er => exact zq
          | ok fl =>
            cases fl with
            | ret u =>
              obtain ⟨v, H', I3, rv3, ev, q5⟩ := zq
              subst ev
              exact ⟨rv3, ⟨V.ref (s.heap.objs.size + 1), H', I3, rfl, q5⟩⟩
            | _ => exact False.elim zq
theorem z_makeKw (F : Facts.X X T D cl lv) (tk : Takes X W) (hr : Room (lv + 1) X.A) (c : Nat) (ks : List Str) : CallKZ X T W (.ref (T.ca c)) ks (pMakeKw D cl c ks) := by
  intro pins s σ H xs zs us ws Q g A as bs I rx rz rl ra rb q
  unfold pMakeKw at q
  cases e : D.clss[c]? with
  | none => rw [e] at q; exact q.elim
  | some z =>
    rw [e] at q
    have CF := F.cls c z e
    have q1 : Post T X.K W g A H σ Q (match z.init with | some k => back (callKw D cl k ks (.ref A.n :: as) bs (A.push (.ins c []))) (.ref A.n) | none => .bad) := q
    cases ei : z.init with
    | none => rw [ei] at q1; exact q1.elim
    | some k =>
      rw [ei] at q1
      have M := CF.init k ei
      have st := rl.made (c := c) (I.hok.fresh (Nat.le_succ _)) (I.hok.fresh (Nat.le_refl _)) (Nat.ne_of_lt (Nat.lt_succ_self _))
      have I2 := Inv.made (C := T.ca c) I
      have rn : RV T X.K (ext g A.n (s.heap.objs.size + 1)) (A.push (.ins c [])).n (upd (upd H s.heap.objs.size (.own (s.heap.objs.size + 1))) (s.heap.objs.size + 1) (.ins (T.ca c) s.heap.objs.size [])) (.ref A.n) (.ref (s.heap.objs.size + 1)) := ⟨Nat.lt_succ_self _, by rw [ext_at]⟩
      have q2 := post_back (Post.step q1 st) rn
      unfold callKw at q2
      cases ed : D.defs[k]? with
      | none => rw [ed] at q2; exact q2.elim
      | some d =>
        rw [ed] at q2
        have q3 : Post T X.K W _ _ _ σ _ (match klook (AV.ref A.n :: as).length ks d.kws with | some r => guard (Nat.beq bs.length ks.length) (cl k (r.map (pickA (AV.ref A.n :: as) bs)) (A.push (.ins c []))) | none => .bad) := q2
        cases ef : klook (AV.ref A.n :: as).length ks d.kws with
        | none => rw [ef] at q3; exact q3.elim
        | some sr =>
          rw [ef] at q3
          obtain ⟨hl, q3⟩ := q3.guard
          have hl := Nat.eq_of_beq_eq_true hl
          have hw : ws.length = ks.length := rz.length.symm.trans (rb.length.symm.trans hl)
          obtain ⟨⟨fd, ok, _, kw⟩, kp, _⟩ := F.fn k d ed
          obtain ⟨hs, gg, gV, kb, rg⟩ := kw _ _ _ (klook_mem ef)
          have ra2 : RVs T X.K (ext g A.n (s.heap.objs.size + 1)) (A.push (.ins c [])).n (upd (upd H s.heap.objs.size (.own (s.heap.objs.size + 1))) (s.heap.objs.size + 1) (.ins (T.ca c) s.heap.objs.size [])) (AV.ref A.n :: as) (.ref (s.heap.objs.size + 1) :: xs) := .cons rn (st.rvs ra)
          have rx2 : Vals (V.ref (s.heap.objs.size + 1) :: xs) (Value.ref (s.heap.objs.size + 1) :: us) := .cons rfl rx
          have rp := rg _ _ _ _ _ _ _ ra2 (st.rvs rb) rfl hl
          have l1 : (Value.ref (s.heap.objs.size + 1) :: us).length = (AV.ref A.n :: as).length := rx2.length.symm.trans ra2.length.symm
          have sp : spI T X.K cl k d.ps.length _ _ (fun v H2 => v = .non ∧ Q (.ref (s.heap.objs.size + 1)) H2) (WE W σ) := ⟨_, _, _, st.rel, rp, by rw [← rp.length, List.length_map]; exact hs, post_call q3⟩
          refine wpAny_call (make_map (f := T.fa k) I.kIn M.makes M.init (beq_iff_eq.mp M.fn) (codeAny_mono (ok.run _ X.stack _ _ ⟨Value.ref (s.heap.objs.size + 1) :: us, ks.zip ws⟩ _ _ _ (WE W σ) (hr.make _ us (ks.zip ws))
            (I2.env0.make _ us (ks.zip ws)) (kb.to _ (Value.ref (s.heap.objs.size + 1) :: us) ws I2.kIn l1 hw) (kb.rel rx2 rz) sp) fun r s' hq => ?_))
          have zq := fn_end tk I2 hq
          cases r with
          | error er => exact zq
          | ok fl =>
            cases fl with
            | ret u =>
              obtain ⟨v, H', I3, rv3, ev, q5⟩ := zq
              subst ev
              exact ⟨rv3, ⟨V.ref (s.heap.objs.size + 1), H', I3, rfl, q5⟩⟩
            | _ => exact False.elim zq
/-! ## attributes -/
/-- super() alone is another thing -/
def noSuper : Expr → Bool
  | .Call _ _ _ _ => false
  | _ => true
theorem base_ok {o : Expr} {m : Str} {env : Env} (h : noSuper o = true) : attributeBase o m env (eval o env) = eval o env := by
  cases o <;> first | rfl | cases h
theorem base_ok2 {g : Expr} {a : List Expr} {k : List Keyword} {q : Pos} {m : Str} {env : Env} (h : (a.isEmpty && k.isEmpty) = false) : attributeBase (.Call g a k q) m env (eval (.Call g a k q) env) = eval (.Call g a k q) env := by
  cases a with
  | cons _ _ => cases g <;> rfl
  | nil =>
    cases k with
    | cons _ _ => cases g <;> rfl
    | nil => cases h
/-- what may stand before a dot -/
def dotOk : Expr → Bool
  | .Call (.Name _ _) a k _ => !(a.isEmpty && k.isEmpty)
  | _ => true
theorem dot_ok {o : Expr} {m : Str} {env : Env} (h : dotOk o = true) : attributeBase o m env (eval o env) = eval o env := by
  cases o with
  | Call g a k q =>
    cases g with
    | Name x p =>
      have h1 : (!(a.isEmpty && k.isEmpty)) = true := h
      exact base_ok2 (by
        cases q : (a.isEmpty && k.isEmpty) with
        | false => rfl
        | true => rw [q] at h1; cases h1)
    | _ => rfl
  | _ => rfl
/-- one value, then a step -/
theorem un_go {q : AV → AH → RE} {σ : L2.St} {H : Hp} {Q : VK} (h : ERd T X.K W (eUn q te) σ H Q) : ERd T X.K W te σ H fun u H1 => ∃ f A v, Rel T X.K f A H1 ∧ RV T X.K f A.n H1 v u ∧ Post T X.K W f A H1 σ Q (q v A) := by
  obtain ⟨f, A, s, a, p⟩ := h
  refine (kr_of (vs := []) (us := []) (k := fun vs _ A => q (g0 vs) A) a .nil p).mono fun x H1 ⟨f2, A2, s2, vs, a2, r2, p2⟩ => ?_
  cases r2 with
  | cons r3 r4 => cases r4; exact ⟨f2, A2, _, a2.rel, r3, p2⟩
theorem ze_attr (F : Facts.X X T D cl lv) (hr : Room (lv + 1) X.A) {a : Nat} {n : Str} (hn : T.at_ a = n) (ho : PE X o (ERd T X.K W to)) (hb : dotOk o = true) : PE X (.Attribute o n pos) (ERd T X.K W (eUn (pAttr D cl a) to)) := by
  subst hn
  refine ⟨fun pins s σ H Q I h => ?_⟩
  exact attr_of (dot_ok hb) (thn (ho.run pins s σ H _ I (un_go h)) fun u s1 ⟨x, H1, I1, rx, f, A, v, rl, rv, q⟩ => z_attr F hr a true pins s1 σ H1 x u Q f A v I1 rx rl rv q)
/-! ## methods -/
def methOf (D : Desc) (a : Nat) (v : AV) (A : AH) : Option Nat := match v with
  | .ref i => (match A.get i with
    | some (.ins c fs) => (match attrOf D c a with
      | some (.meth k) => (match nlook a fs with
        | some _ => none
        | none => some k)
      | _ => none)
    | _ => none)
  | _ => none
def eMeth (D : Desc) (cl : Calls) (a : Nat) (o : EV) (l : Sl → AH → RL) : EV := fun s A => (o s A).bd fun v A1 => match methOf D a v A1 with
  | some k => (l s A1).bd fun vs A2 => callK D cl k (v :: vs) A2
  | none => .bad
theorem methOf_ok (F : Facts.X X T D cl lv) {g : Nat → Addr} {A : AH} {H : Hp} (rl : Rel T X.K g A H) {a k : Nat} {v : AV} (h : methOf D a v A = some k) : ∃ i c dx ws, v = .ref i ∧ H (g i) = some (.ins (T.ca c) dx ws) ∧ Cls X.K (T.ca c) ∧ Meth X.K (T.ca c) (T.at_ a) (T.fa k) ∧ ws.lookup (T.at_ a) = none := by
  unfold methOf at h
  cases v with
  | ref i =>
    simp only at h
    cases e : A.get i with
    | none => rw [e] at h; cases h
    | some o =>
      rw [e] at h
      cases o with
      | ins c fs =>
        simp only at h
        cases ea : attrOf D c a with
        | none => rw [ea] at h; cases h
        | some t =>
          rw [ea] at h
          cases t with
          | meth k' =>
            simp only at h
            obtain ⟨z, ez, hm⟩ := attrOf_mem ea
            obtain ⟨dx, ws, eH, pr⟩ := rl.ins e
            have lk := look_pair F (a := a) pr
            cases el : nlook a fs with
            | some _ => rw [el] at h; cases h
            | none =>
              rw [el] at h lk
              cases h
              exact ⟨i, c, dx, ws, rfl, eH, (F.cls c z ez).cl, (F.cls c z ez).meth a _ hm, lk⟩
          | _ => cases h
      | _ => cases h
  | _ => cases h
theorem mc_eval {o : Expr} {m : Str} {apos pos : Pos} {es : List Expr} {env : Env} (hb : dotOk o = true) (hs : es.all noStar = true) (hl : (apos.endLine == pos.line) = true) (hn : Nat.blt es.length 30 = true) :
    eval (.Call (.Attribute o m apos) es [] pos) env = (do
      let ov ← eval o env
      standAt apos.atName
      let (f, first) ← holding [ov] (getMethod ov m (plainOf o env))
      callWith pos f first (backTo pos (starEach es env)) (backToKw pos (keywordEach [] env))) := by
  have form : methodCallForm (es.length + ([] : List Keyword).length) (backTo pos (starEach es env)) (backToKw pos (keywordEach [] env)) = true := by
    unfold methodCallForm
    rw [stars_all hs]
    show (true && true && decide (es.length + 0 + 0 < 30)) = true
    rw [Nat.blt_eq] at hn
    simp; omega
  rw [arm_eval_Call, dot_ok hb]
  have e : ∀ ov, methodCall o m apos pos env ov (es.length + ([] : List Keyword).length) (backTo pos (starEach es env)) (backToKw pos (keywordEach [] env)) = _ := fun ov => mcall_line form hl
  simp only [e]
theorem ze_meth (F : Facts.X X T D cl lv) (tk : Takes X W) (hr : Room lv X.A) {a : Nat} {m : Str} (hn : T.at_ a = m) (ho : PE X o (ERd T X.K W to)) (ha : PA X es (ARd T X.K W l)) (hz : es = [] → l = lNil) (hb : dotOk o = true) (hs : es.all noStar = true)
    (hl : (apos.endLine == pos.line) = true) (hlen : Nat.blt es.length 30 = true) : PE X (.Call (.Attribute o m apos) es [] pos) (ERd T X.K W (eMeth D cl a to l)) := by
  subst hn
  refine ⟨fun pins s σ H Q I ⟨f, A, sl, at_, p⟩ => ?_⟩
  have h1 := kr_of (vs := []) (us := []) (k := fun vs s A1 => match methOf D a (g0 vs) A1 with | some k => (l s A1).bd fun ws A2 => callK D cl k (g0 vs :: ws) A2 | none => .bad) at_ .nil p
  refine PySem.W.methodCall_KW (pl := plainOf o X.env) (thn (ho.run pins s σ H _ I h1) fun u s1 ⟨x, H1, I1, rx, f2, A2, s2, vs, a2, r2, p2⟩ => ?_) (mc_eval hb hs hl hlen)
  cases r2 with
  | @cons v _ _ _ r3 r4 =>
    cases r4
    have p3 : Post T X.K W f2 A2 H1 σ Q (match methOf D a v A2 with | some k => (l s2 A2).bd fun ws A2 => callK D cl k (v :: ws) A2 | none => .bad) := p2
    cases em : methOf D a v A2 with
    | none => rw [em] at p3; exact p3.elim
    | some k =>
      rw [em] at p3
      obtain ⟨i, c, dx, ws, ev, eH, hc, hm, hlk⟩ := methOf_ok F a2.rel em
      subst ev
      obtain ⟨hi, ex⟩ := r3
      subst ex
      obtain rfl : u = Value.ref (f2 i) := rx
      refine getmeth_ok I1 eH hc hm hlk ?_
      have fin : ∀ us s3 xs H3, Inv X pins σ H3 s3 → Vals xs us → (∃ f A as, Rel T X.K f A H3 ∧ RVs T X.K f A.n H3 as (V.ref (f2 i) :: xs) ∧ Post T X.K W f A H3 σ Q (callK D cl k as A)) → wpAny (model X.prog X.w) X.A (call (.ref (T.fa k)) (Value.ref (f2 i) :: us)) (EP X pins σ Q) X.xe s3 :=
        fun us s3 xs H3 I3 r q => cz_go (z_callK F tk hr k) I3 (.cons (show RelV (V.ref (f2 i)) (Value.ref (f2 i)) from rfl) r) q
      cases es with
      | nil =>
        rw [hz rfl] at p3
        exact PySem.W.callWith_K0 (first := [.ref (f2 i)]) I1.kIn hm.kp (fin [] s1 [] H1 I1 .nil ⟨f2, A2, [.ref i], a2.rel, .cons ⟨hi, rfl⟩ .nil, p3⟩)
      | cons e es =>
        obtain ⟨n1, n2⟩ := Bool.and_eq_true_iff.mp (show (noStar e && es.all noStar) = true from hs)
        have q1 := kl_of (vs := [AV.ref i]) (us := [V.ref (f2 i)]) (k := fun vs _ A => callK D cl k vs A) a2 (.cons ⟨hi, rfl⟩ .nil) p3
        exact PySem.W.callWith_K (first := [.ref (f2 i)]) (h₀ := X.base) I.ok.mod.kin hm.kp (thn (ha.run pos pins s1 σ H1 _ I1 q1) fun us s3 ⟨xs, H3, I3, r, f4, A4, s4, vs4, a4, r4, p4⟩ => ⟨I3.kIn, fin us s3 xs H3 I3 r ⟨f4, A4, vs4, a4.rel, r4, p4⟩⟩) (star_cons n1) (stars_any n2)
end
end Z
end
section
/-! Z6: what is walked; targets; for; comprehensions. -/
namespace Z
open PySem PySem.Spec PyProof.Rows L2

/-! ## targets -/
inductive Tgt where
  | nm (i : Nat) | nil | cons (h t : Tgt)
mutual
def tgS : Tgt → AV → Sl → Option Sl
  | .nm i, v, s => some (s.set i (some v))
  | .nil, v, s => match v with
    | .tn => some s
    | _ => none
  | .cons h t, v, s => match v with
    | .tc a b => (match tgS h a s with
      | some s1 => tgsS t b s1
      | none => none)
    | _ => none
def tgsS : Tgt → AV → Sl → Option Sl
  | .nm _, _, _ => none
  | .nil, v, s => match v with
    | .tn => some s
    | _ => none
  | .cons h t, v, s => match v with
    | .tc a b => (match tgS h a s with
      | some s1 => tgsS t b s1
      | none => none)
    | _ => none
end
def tgN : Tgt → Nat
  | .cons _ t => tgN t + 1
  | _ => 0
mutual
def tgR (K : PySem.W.Frag) : Tgt → TG
  | .nm i => gName i
  | .nil => gTup K 0 gNil
  | .cons h t => gTup K (tgN t + 1) (gCons (tgR K h) (tgsR K t))
def tgsR (K : PySem.W.Frag) : Tgt → TGs
  | .nm _ => fun _ _ _ _ => False
  | .nil => gNil
  | .cons h t => gCons (tgR K h) (tgsR K t)
end
/-- the slots that a target stores -/
def tgV : Tgt → List Nat
  | .nm i => [i]
  | .nil => []
  | .cons h t => tgV h ++ tgV t
def Agr (vs : List Nat) (σ σ' : L2.St) : Prop := σ'.length = σ.length ∧ ∀ j, j ∉ vs → σ'[j]? = σ[j]?
theorem Agr.rf {vs : List Nat} {σ : L2.St} : Agr vs σ σ := ⟨rfl, fun _ _ => rfl⟩
theorem Agr.tr {vs : List Nat} {σ σ' σ'' : L2.St} (a : Agr vs σ σ') (b : Agr vs σ' σ'') : Agr vs σ σ'' := ⟨b.1.trans a.1, fun j h => (b.2 j h).trans (a.2 j h)⟩
theorem Agr.sub {vs ws : List Nat} {σ σ' : L2.St} (a : Agr vs σ σ') (h : ∀ i ∈ vs, i ∈ ws) : Agr ws σ σ' := ⟨a.1, fun j hj => a.2 j fun z => hj (h j z)⟩
theorem wipe_at (σ : L2.St) (j : Nat) : ∀ vs : List Nat, (wipe σ vs)[j]? = if j ∈ vs then (σ[j]?).map (fun _ => none) else σ[j]?
  | [] => by simp [wipe]
  | v :: vs => by
    have ih := wipe_at σ j vs
    show ((wipe σ vs).set v none)[j]? = _
    by_cases h : v = j
    · subst h
      rw [if_pos List.mem_cons_self, List.getElem?_set]
      simp only [if_true]
      by_cases hl : v < (wipe σ vs).length
      · rw [if_pos hl]
        rw [wipe_length] at hl
        rw [List.getElem?_eq_getElem hl]
        rfl
      · rw [if_neg hl]
        rw [wipe_length] at hl
        rw [List.getElem?_eq_none (by omega)]
        rfl
    · rw [List.getElem?_set_ne h, ih]
      by_cases hm : j ∈ vs
      · rw [if_pos hm, if_pos (List.mem_cons_of_mem _ hm)]
      · rw [if_neg hm, if_neg (by
          intro z
          rcases List.mem_cons.mp z with z | z
          · exact h z.symm
          · exact hm z)]
theorem Agr.wipe {vs : List Nat} {σ σ' : L2.St} (a : Agr vs σ σ') : wipe σ' vs = wipe σ vs := by
  apply List.ext_getElem?
  intro j
  rw [wipe_at, wipe_at]
  by_cases h : j ∈ vs
  · rw [if_pos h, if_pos h]
    by_cases hl : j < σ.length
    · rw [List.getElem?_eq_getElem hl, List.getElem?_eq_getElem (by rw [a.1]; exact hl)]
      rfl
    · have e1 : σ[j]? = none := List.getElem?_eq_none (by omega)
      have e2 : σ'[j]? = none := List.getElem?_eq_none (by rw [a.1]; omega)
      rw [e1, e2]
  · rw [if_neg h, if_neg h]
    exact a.2 j h
theorem wipe_idem {vs : List Nat} {σ : L2.St} : wipe (wipe σ vs) vs = wipe σ vs := by
  apply List.ext_getElem?
  intro j
  rw [wipe_at, wipe_at]
  by_cases h : j ∈ vs
  · rw [if_pos h, if_pos h]
    cases σ[j]? <;> rfl
  · rw [if_neg h, if_neg h]
section
variable {T : Tbl} {K : PySem.W.Frag}
theorem tg_ok {g : Nat → Addr} {n : Nat} {H : Hp} : ∀ (t : Tgt), (∀ (v : AV) (u : V) (s s' : Sl) (σ : L2.St) (Q : L2.St → Hp → Prop), SR T K g n H s σ → RV T K g n H v u → tgS t v s = some s' → (∀ σ', SR T K g n H s' σ' → Agr (tgV t) σ σ' → Q σ' H) → tgR K t u σ H Q) ∧
    (∀ (v : AV) (us : List V) (s s' : Sl) (σ : L2.St) (Q : L2.St → Hp → Prop), SR T K g n H s σ → RVt T K g n H v us → tgsS t v s = some s' → (∀ σ', SR T K g n H s' σ' → Agr (tgV t) σ σ' → Q σ' H) → tgsR K t us σ H Q) := by
  intro t
  induction t with
  | nm i =>
    refine ⟨fun v u s s' σ Q hs rv e q => ?_, fun v us s s' σ Q hs rv e q => by cases e⟩
    have e' : s.set i (some v) = s' := Option.some.inj e
    subst e'
    refine q _ ⟨by simpa using hs.1, fun j w ew => ?_⟩ ⟨by simp, fun j hj => List.getElem?_set_ne (fun z => hj (by rw [z]; exact List.mem_cons_self))⟩
    by_cases hj : i = j
    · subst hj
      have hl : i < s.length := by
        by_cases hl : i < s.length
        · exact hl
        · rw [List.getElem?_eq_none (by simpa using hl)] at ew; cases ew
      rw [List.getElem?_set_self hl] at ew
      cases ew
      exact ⟨u, List.getElem?_set_self (by rw [← hs.1]; exact hl), rv⟩
    · rw [List.getElem?_set_ne hj] at ew ⊢
      exact hs.2 j w ew
  | nil =>
    refine ⟨fun v u s s' σ Q hs rv e q => ?_, fun v us s s' σ Q hs rv e q => ?_⟩
    · cases v with
      | tn =>
        have e' : s = s' := Option.some.inj e
        subst e'
        obtain ⟨a, eu, hq⟩ := rv
        exact ⟨a, [], eu, SqT.of hq, rfl, rfl, q σ hs .rf⟩
      | _ => cases e
    · cases v with
      | tn =>
        have e' : s = s' := Option.some.inj e
        subst e'
        exact ⟨rv, q σ hs .rf⟩
      | _ => cases e
  | cons h t ih it =>
    have core : ∀ (a b : AV) (us : List V) (s s' : Sl) (σ : L2.St) (Q : L2.St → Hp → Prop), SR T K g n H s σ → RVt T K g n H (.tc a b) us → (match tgS h a s with | some s1 => tgsS t b s1 | none => none) = some s' →
        (∀ σ', SR T K g n H s' σ' → Agr (tgV (.cons h t)) σ σ' → Q σ' H) → gCons (tgR K h) (tgsR K t) us σ H Q := fun a b us s s' σ Q hs rv e q => by
      obtain ⟨x, r, eu, r1, r2⟩ := rv
      cases e1 : tgS h a s with
      | none => rw [e1] at e; cases e
      | some s1 =>
        rw [e1] at e
        refine ⟨x, r, eu, ih.1 a x s s1 σ _ hs r1 e1 fun σ1 hs1 ag1 => ?_⟩
        exact it.2 b r s1 s' σ1 _ hs1 r2 e fun σ2 hs2 ag2 => q σ2 hs2 ((ag1.sub fun i hi => List.mem_append_left _ hi).tr (ag2.sub fun i hi => List.mem_append_right _ hi))
    have len : ∀ (t : Tgt) (b : AV) (us : List V) (s s' : Sl), RVt T K g n H b us → tgsS t b s = some s' → us.length = tgN t := by
      intro t
      induction t with
      | nm i => intro b us s s' rv e; cases e
      | nil =>
        intro b us s s' rv e
        cases b with
        | tn => rw [show us = [] from rv]; rfl
        | _ => cases e
      | cons h' t' _ it' =>
        intro b us s s' rv e
        cases b with
        | tc a' b' =>
          obtain ⟨x, r, eu, r1, r2⟩ := rv
          have e' : (match tgS h' a' s with | some s1 => tgsS t' b' s1 | none => none) = some s' := e
          cases e1 : tgS h' a' s with
          | none => rw [e1] at e'; cases e'
          | some s1 =>
            rw [e1] at e'
            rw [eu, List.length_cons, it' b' r s1 s' r2 e']
            rfl
        | _ => cases e
    refine ⟨fun v u s s' σ Q hs rv e q => ?_, fun v us s s' σ Q hs rv e q => ?_⟩
    · cases v with
      | tc a b =>
        obtain ⟨p, x, xs, eu, hq, r1, r2⟩ := rv
        have rt : RVt T K g n H (.tc a b) (x :: xs) := ⟨x, xs, rfl, r1, r2⟩
        refine ⟨p, x :: xs, eu, SqT.of hq, ?_, core a b _ s s' σ Q hs rt e q⟩
        exact len (.cons h t) (.tc a b) _ s s' rt e
      | _ => cases e
    · cases v with
      | tc a b => exact core a b us s s' σ Q hs rv e q
      | _ => cases e
end

end Z
end
section
/-! Z7: what is walked; dicts locked while walked. -/
namespace Z
open PySem PySem.Spec PyProof.Rows L2

/-! ## locking after a value is there, unlocking when a piece is done -/
def NF (X : Cx) (d : Addr) : Prop := ∀ o z, X.H_0 d ≠ some (.frz o z)
def LQ (X : Cx) (Q : VK) : VK := fun x H => Q x H ∨ ∃ d u, H d = some u ∧ Mut (some u) ∧ ∀ od, NF X d → Q x (upd H d (.frz od u))
def UQ (X : Cx) (Q : VK) : VK := fun x H => Q x H ∨ ∃ d od u, H d = some (.frz od u) ∧ NF X d ∧ Q x (upd H d u)
def UP (X : Cx) (Q : L2.St → Hp → Prop) : L2.St → Hp → Prop := fun σ H => Q σ H ∨ ∃ d od u, H d = some (.frz od u) ∧ NF X d ∧ Q σ (upd H d u)
def UE (X : Cx) (D : Ends) : Ends := ⟨UP X D.nx, UQ X D.rt, UP X D.bk, UP X D.ct⟩
section
variable {X : Cx} {e : Expr} {st : Stmt}
theorem pe_lockA {td : TE} (h : PE X e td) : PE X e fun σ H Q => td σ H (LQ X Q) := by
  refine ⟨fun pins s σ H Q I hw => thn (h.run pins s σ H _ I hw) fun v s1 ⟨x, H1, I1, r, q⟩ => ?_⟩
  rcases q with q | ⟨d, u, hd, mu, q⟩
  · exact ⟨x, H1, I1, r, q⟩
  · obtain ⟨od, I2⟩ := I1.lock hd mu
    exact ⟨x, _, I2, r, q od (I1.nofrz hd mu)⟩
theorem pe_unl {td : TE} (h : PE X e td) : PE X e fun σ H Q => td σ H (UQ X Q) := by
  refine ⟨fun pins s σ H Q I hw => thn (h.run pins s σ H _ I hw) fun v s1 ⟨x, H1, I1, r, q⟩ => ?_⟩
  rcases q with q | ⟨d, od, u, hd, nf, q⟩
  · exact ⟨x, H1, I1, r, q⟩
  · exact ⟨x, _, I1.unlock hd nf, r, q⟩
theorem ps_unl {t : TS} (h : PS X st t) : PS X st fun D σ H => t (UE X D) σ H := by
  refine ⟨fun pins s σ H D I hw => thn (h.run pins s σ H _ I hw) fun f s1 q => ?_⟩
  cases f with
  | next =>
    obtain ⟨σ', H', I2, q⟩ := q
    rcases q with q | ⟨d, od, u, hd, nf, q⟩
    · exact ⟨σ', H', I2, q⟩
    · exact ⟨σ', _, I2.unlock hd nf, q⟩
  | brk =>
    obtain ⟨σ', H', I2, q⟩ := q
    rcases q with q | ⟨d, od, u, hd, nf, q⟩
    · exact ⟨σ', H', I2, q⟩
    · exact ⟨σ', _, I2.unlock hd nf, q⟩
  | cont =>
    obtain ⟨σ', H', I2, q⟩ := q
    rcases q with q | ⟨d, od, u, hd, nf, q⟩
    · exact ⟨σ', H', I2, q⟩
    · exact ⟨σ', _, I2.unlock hd nf, q⟩
  | ret v =>
    obtain ⟨x, σ', H', I2, r, q⟩ := q
    rcases q with q | ⟨d, od, u, hd, nf, q⟩
    · exact ⟨x, σ', H', I2, r, q⟩
    · exact ⟨x, σ', _, I2.unlock hd nf, r, q⟩
end
/-! ## the same of the heaps -/
def unlA (i : Nat) (A : AH) : Option AH := match A.get i with
  | some (.dct t (_ + 1) kvs) => some (A.set i (.dct t 0 kvs))
  | _ => none
def unlE (lk : Option Nat) (r : RE) : RE := match lk with
  | none => r
  | some i => (match r with
    | .ok v A => (match unlA i A with
      | some A1 => .ok v A1
      | none => .bad)
    | r => r)
def unlS (lk : Option Nat) (r : RS) : RS := match lk with
  | none => r
  | some i => (match r with
    | .nx s A => (match unlA i A with
      | some A1 => .nx s A1
      | none => .bad)
    | .bk s A => (match unlA i A with
      | some A1 => .bk s A1
      | none => .bad)
    | .ct s A => (match unlA i A with
      | some A1 => .ct s A1
      | none => .bad)
    | .rt v A => (match unlA i A with
      | some A1 => .rt v A1
      | none => .bad)
    | r => r)
section
variable {X : Cx} {T : Tbl} {W : WX} {f : Nat → Addr} {A A1 : AH} {H : Hp}
theorem unl_step {i : Nat} (h : unlA i A = some A1) (rl : Rel T X.K f A H) : i < A.n ∧ ∃ od u, H (f i) = some (.frz od u) ∧ Stp T X.K f A H f A1 (upd H (f i) u) := by
  unfold unlA at h
  cases e : A.get i with
  | none => rw [e] at h; cases h
  | some o =>
    rw [e] at h
    obtain ⟨hi, ob⟩ := rl.ob i o e
    cases o with
    | dct t lk kvs =>
      cases lk with
      | zero => cases h
      | succ l =>
        cases h
        refine ⟨hi, ?_⟩
        have he : ∀ {od u ua}, H (f i) = some (.frz od u) → (∀ xs, u ≠ .lst xs) → HE X.K H (upd H (f i) ua) := fun {od u ua} hd hn => ⟨fun b xs q => by
            have ne : b ≠ f i := fun z => by rw [z, hd] at q; cases q
            rw [upd_ne ne]; exact q, fun b xs q => by
            rcases q with ⟨o, q⟩ | q
            · have ne : b ≠ f i := fun z => by rw [z, hd] at q; cases q; exact hn _ rfl
              exact .inl ⟨o, by rw [upd_ne ne]; exact q⟩
            · exact .inr q⟩
        cases t with
        | false =>
          obtain ⟨ws, ⟨od, hd⟩, pr⟩ := ob
          have he := he (ua := .dK ws) hd (fun _ z => nomatch z)
          exact ⟨od, _, hd, rl.chg e (fun b hb => upd_ne hb) he ⟨ws, upd_same, Paired.mono (fun _ _ q => ⟨q.1, RV.mono q.2 he (fun _ _ => rfl) (Nat.le_refl _)⟩) pr⟩⟩
        | true =>
          obtain ⟨ws, ⟨od, hd⟩, pr⟩ := ob
          have he := he (ua := .dT ws) hd (fun _ z => nomatch z)
          exact ⟨od, _, hd, rl.chg e (fun b hb => upd_ne hb) he ⟨ws, upd_same, Paired.mono (fun _ _ q => ⟨q.1, RV.mono q.2 he (fun _ _ => rfl) (Nat.le_refl _)⟩) pr⟩⟩
    | lst xs => cases h
    | ins c fs => cases h
def NFl (X : Cx) (f : Nat → Addr) (n : Nat) : Option Nat → Prop
  | none => True
  | some i => i < n ∧ NF X (f i)
theorem NFl.step {lk : Option Nat} {f' : Nat → Addr} {A' : AH} {H' : Hp} (h : NFl X f A.n lk) (st : Stp T X.K f A H f' A' H') : NFl X f' A'.n lk := by
  cases lk with
  | none => trivial
  | some i => exact ⟨Nat.lt_of_lt_of_le h.1 st.le, by rw [st.eq i h.1]; exact h.2⟩
theorem post_unl {lk : Option Nat} {σ : L2.St} {Q : VK} {r : RE} (nf : NFl X f A.n lk) (q : Post T X.K W f A H σ Q (unlE lk r)) : Post T X.K W f A H σ (UQ X Q) r := by
  cases lk with
  | none =>
    cases r with
    | ok v A1 => exact fun f1 H1 u st rv => .inl (q f1 H1 u st rv)
    | ex c fs A1 => exact q
    | bad => exact q
  | some i =>
    cases r with
    | ok v A1 =>
      have q1 : Post T X.K W f A H σ Q (match unlA i A1 with | some A2 => .ok v A2 | none => .bad) := q
      cases e : unlA i A1 with
      | none => rw [e] at q1; exact q1.elim
      | some A2 =>
        rw [e] at q1
        intro f1 H1 u st rv
        obtain ⟨hi, od, w, hd, st2⟩ := unl_step e st.rel
        exact .inr ⟨f1 i, od, w, hd, by rw [st.eq i nf.1]; exact nf.2, q1 f1 _ u (st.trans st2) (st2.rv rv)⟩
    | ex c fs A1 => exact q
    | bad => exact q
theorem posts_unl {lk : Option Nat} {D : Ends} {r : RS} (nf : NFl X f A.n lk) (q : PostS T X.K W f A H D (unlS lk r)) : PostS T X.K W f A H (UE X D) r := by
  cases lk with
  | none =>
    cases r with
    | nx s A1 => exact fun f1 H1 u st rv => .inl (q f1 H1 u st rv)
    | bk s A1 => exact fun f1 H1 u st rv => .inl (q f1 H1 u st rv)
    | ct s A1 => exact fun f1 H1 u st rv => .inl (q f1 H1 u st rv)
    | rt s A1 => exact fun f1 H1 u st rv => .inl (q f1 H1 u st rv)
    | ex c fs s A1 => exact q
    | bad => exact q
  | some i =>
    cases r with
    | nx s A1 =>
      have q1 : PostS T X.K W f A H D (match unlA i A1 with | some A2 => .nx s A2 | none => .bad) := q
      cases e : unlA i A1 with
      | none => rw [e] at q1; exact q1.elim
      | some A2 =>
        rw [e] at q1
        intro f1 H1 u st rv
        obtain ⟨hi, od, w, hd, st2⟩ := unl_step e st.rel
        exact .inr ⟨f1 i, od, w, hd, by rw [st.eq i nf.1]; exact nf.2, q1 f1 _ u (st.trans st2) (st2.sr rv)⟩
    | bk s A1 =>
      have q1 : PostS T X.K W f A H D (match unlA i A1 with | some A2 => .bk s A2 | none => .bad) := q
      cases e : unlA i A1 with
      | none => rw [e] at q1; exact q1.elim
      | some A2 =>
        rw [e] at q1
        intro f1 H1 u st rv
        obtain ⟨hi, od, w, hd, st2⟩ := unl_step e st.rel
        exact .inr ⟨f1 i, od, w, hd, by rw [st.eq i nf.1]; exact nf.2, q1 f1 _ u (st.trans st2) (st2.sr rv)⟩
    | ct s A1 =>
      have q1 : PostS T X.K W f A H D (match unlA i A1 with | some A2 => .ct s A2 | none => .bad) := q
      cases e : unlA i A1 with
      | none => rw [e] at q1; exact q1.elim
      | some A2 =>
        rw [e] at q1
        intro f1 H1 u st rv
        obtain ⟨hi, od, w, hd, st2⟩ := unl_step e st.rel
        exact .inr ⟨f1 i, od, w, hd, by rw [st.eq i nf.1]; exact nf.2, q1 f1 _ u (st.trans st2) (st2.sr rv)⟩
    | rt v A1 =>
      have q1 : PostS T X.K W f A H D (match unlA i A1 with | some A2 => .rt v A2 | none => .bad) := q
      cases e : unlA i A1 with
      | none => rw [e] at q1; exact q1.elim
      | some A2 =>
        rw [e] at q1
        intro f1 H1 u st rv
        obtain ⟨hi, od, w, hd, st2⟩ := unl_step e st.rel
        exact .inr ⟨f1 i, od, w, hd, by rw [st.eq i nf.1]; exact nf.2, q1 f1 _ u (st.trans st2) (st2.rv rv)⟩
    | ex c fs s A1 => exact q
    | bad => exact q
end
end Z
end
section
/-! Z8: walks: lists, tuples, strs, dicts, ranges, enumerate, zip; for; comprehensions. -/
namespace Z
open PySem PySem.Spec PyProof.Rows L2

inductive RI where
  | stop | item (v : AV) (A : AH) | bad
abbrev It0 := Nat → AH → RI
/-- lk: the dict to be freed when the walk is done -/
inductive RIt where
  | ok (it : It0) (lk : Option Nat) (A : AH) | ex (c : Nat) (fs : List (Nat × AV)) (A : AH) | bad
section
variable (X : Cx) (T : Tbl) (W : WX)
def IOk (J : It) (it : It0) (f0 : Nat → Addr) (A0 : AH) (H0 : Hp) : Prop := ∀ i f A H, Stp T X.K f0 A0 H0 f A H → (match it i A with
  | .stop => J.stop i H
  | .item v A1 => J.go i H ∧ ∀ x H', J.yld i H x H' → ∃ f1, Stp T X.K f A H f1 A1 H' ∧ RV T X.K f1 A1.n H' v x
  | .bad => True)
def PostI (f : Nat → Addr) (A : AH) (H : Hp) (σ : L2.St) (R : It → Hp → Prop) : RIt → Prop
  | .ok it lk A1 => ∀ f1 H1 J, Stp T X.K f A H f1 A1 H1 → IOk X T J it f1 A1 H1 → NFl X f1 A1.n lk → R J H1
  | .ex c fs A' => ∀ f' H' d, Stp T X.K f A H f' A' H' → XR T X.K f' A'.n H' fs d → W (.ref (T.ca c)) d σ H'
  | .bad => False
def IRd (t : Sl → AH → RIt) : TI := fun σ H R => ∃ f A s, At T X.K f A s σ H ∧ PostI X T W f A H σ R (t s A)
end
section
variable {X : Cx} {T : Tbl} {W : WX} {f f' : Nat → Addr} {A A' : AH} {H H' : Hp} {σ : L2.St}
theorem PostI.step {R : It → Hp → Prop} {r : RIt} (p : PostI X T W f A H σ R r) (st : Stp T X.K f A H f' A' H') : PostI X T W f' A' H' σ R r := by
  cases r with
  | ok it lk A2 => exact fun f2 H2 J q r => p f2 H2 J (st.trans q) r
  | ex c fs A2 => exact fun f2 H2 d q x => p f2 H2 d (st.trans q) x
  | bad => exact p
end

/-! ## kinds of iterators -/
def nth : List AV → Nat → Option AV
  | [], _ => none
  | v :: r, i => match i with
    | 0 => some v
    | j + 1 => nth r j
theorem nth_eq : ∀ (l : List AV) (i : Nat), nth l i = l[i]?
  | [], i => by unfold nth; rw [List.getElem?_nil]
  | v :: r, 0 => rfl
  | v :: r, j + 1 => by unfold nth; rw [List.getElem?_cons_succ]; exact nth_eq r j
def tnth : AV → Nat → RI
  | .tc h t, i => match i with
    | 0 => .item h ⟨0, .e⟩
    | j + 1 => tnth t j
  | .tn, _ => .stop
  | _, _ => .bad
def itT (t : AV) : It0 := fun i A => match tnth t i with
  | .item v _ => .item v A
  | r => r
def itL (j : Nat) : It0 := fun i A => match A.get j with
  | some (.lst xs) => (match nth xs i with
    | some v => .item v A
    | none => .stop)
  | _ => .bad
def pnth : List (AV × AV) → Nat → Option (AV × AV)
  | [], _ => none
  | v :: r, i => match i with
    | 0 => some v
    | j + 1 => pnth r j
theorem pnth_eq : ∀ (l : List (AV × AV)) (i : Nat), pnth l i = l[i]?
  | [], i => by unfold pnth; rw [List.getElem?_nil]
  | v :: r, 0 => rfl
  | v :: r, j + 1 => by unfold pnth; rw [List.getElem?_cons_succ]; exact pnth_eq r j
/-- how an entry is handed over -/
inductive KVI where | ks | vs | its
def entry (m : KVI) (p : AV × AV) : AV := match m with
  | .ks => p.1
  | .vs => p.2
  | .its => .tc p.1 (.tc p.2 .tn)
def itD (m : KVI) (i l : Nat) : It0 := fun j A => match A.get i with
  | some (.dct _ lk kvs) => (match Nat.beq lk l with
    | true => (match pnth kvs j with
      | some p => .item (entry m p) A
      | none => .stop)
    | false => .bad)
  | _ => .bad
def itS (x : Str) : It0 := fun i A => match x.cps[i]? with
  | some c => .item (.str ⟨#[c]⟩) A
  | none => .stop
def itR (lo : Int) (n : Nat) : It0 := fun i A => match Nat.blt i n with
  | true => .item (.int (lo + i)) A
  | false => .stop
/-- a dict, locked when it was not: its object, its stamp, who frees it -/
def lockV (v : AV) (A : AH) : Option (Bool × Nat × Nat × Option Nat × AH) := match v with
  | .ref i => (match A.get i with
    | some (.dct t lk kvs) => (match lk with
      | 0 => some (t, i, A.n + 1, some i, A.lockA i t kvs)
      | l + 1 => some (t, i, l + 1, none, A))
    | _ => none)
  | _ => none
section
variable {X : Cx} {T : Tbl} {W : WX} {f : Nat → Addr} {A A1 : AH} {H : Hp}
theorem RVt.nth {n : Nat} : ∀ {t : AV} {xs : List V} {i : Nat}, RVt T X.K f n H t xs → (match tnth t i with | .stop => xs.length ≤ i | .item v _ => ∃ x, xs[i]? = some x ∧ RV T X.K f n H v x | .bad => True)
  | .tn, xs, i, h => by
    have e : xs = [] := h
    rw [e]
    exact Nat.zero_le _
  | .tc a b, xs, 0, h => by
    obtain ⟨x, r, e, r1, _⟩ := h
    rw [e]
    exact ⟨x, rfl, r1⟩
  | .tc a b, xs, j + 1, h => by
    obtain ⟨x, r, e, _, r2⟩ := h
    rw [e]
    have ih := RVt.nth (i := j) r2
    show (match tnth b j with | .stop => (x :: r).length ≤ j + 1 | .item v _ => ∃ y, (x :: r)[j + 1]? = some y ∧ RV T X.K f n H v y | .bad => True)
    cases e2 : tnth b j with
    | stop => rw [e2] at ih; exact Nat.succ_le_succ ih
    | item v A => rw [e2] at ih; exact ih
    | bad => trivial
  | .non, _, _, h => h.elim
  | .bl _, _, _, h => h.elim
  | .int _, _, _, h => h.elim
  | .str _, _, _, h => h.elim
  | .fn _, _, _, h => h.elim
  | .cl _, _, _, h => h.elim
  | .ref _, _, _, h => h.elim
  | .fz _, _, _, h => h.elim
  | .ft _, _, _, h => h.elim
/-- a sequence that stays: its items -/
theorem iok_fix {J : It} {t : AV} {xs : List V} (r : RVt T X.K f A.n H t xs) (h : ∀ f1 A1 H1, Stp T X.K f A H f1 A1 H1 → (∀ i, xs.length ≤ i → J.stop i H1) ∧ ∀ i x, xs[i]? = some x → J.go i H1 ∧ ∀ y H2, J.yld i H1 y H2 → H2 = H1 ∧ y = x) : IOk X T J (itT t) f A H := by
  intro i f1 A1 H1 st
  have z := RVt.nth (i := i) r
  obtain ⟨h1, h2⟩ := h f1 A1 H1 st
  unfold itT
  cases e : tnth t i with
  | stop => rw [e] at z; exact h1 i z
  | item v A2 =>
    rw [e] at z
    obtain ⟨x, hx, rv⟩ := z
    obtain ⟨g, y⟩ := h2 i x hx
    refine ⟨g, fun y' H2 hy => ?_⟩
    obtain ⟨e1, e2⟩ := y y' H2 hy
    rw [e1, e2]
    exact ⟨f1, .rfl' st.rel, st.rv rv⟩
  | bad => trivial
theorem iok_list (rl : Rel T X.K f A H) {i : Nat} {xs : List AV} (e : A.get i = some (.lst xs)) : IOk X T (Itl X.K (f i)) (itL i) f A H := by
  intro j f1 A1 H1 st
  unfold itL
  cases e1 : A1.get i with
  | none => trivial
  | some o =>
    cases o with
    | lst ys =>
      obtain ⟨hi, ws, hw, rw'⟩ := st.rel.ob i _ e1
      simp only
      rw [nth_eq]
      have fe : f1 i = f i := st.eq i (rl.ob i _ e).1
      rw [fe] at hw
      cases e2 : ys[j]? with
      | none => exact ⟨ws, .inl (.inl hw), by rw [← rw'.length]; exact List.getElem?_eq_none_iff.mp e2⟩
      | some v =>
        obtain ⟨x, hx, rv⟩ := paired_get rw' e2
        exact ⟨⟨ws, x, .inl (.inl hw), hx⟩, fun y H2 ⟨h1, h2⟩ => by
          rw [h1]
          have q := h2 ws (.inl (.inl hw))
          rw [hx] at q
          cases q
          exact ⟨f1, .rfl' st.rel, rv⟩⟩
    | _ => trivial
theorem iok_str (x : Str) : IOk X T (Its x) (itS x) f A H := by
  intro j f1 A1 H1 st
  unfold itS
  cases e : x.cps[j]? with
  | none => exact Array.getElem?_eq_none_iff.mp e
  | some c => exact ⟨(Array.getElem?_eq_some_iff.mp e).1, fun y H2 ⟨h1, c', h2, h3⟩ => by
      rw [h1]
      rw [e] at h2
      cases h2
      exact ⟨f1, .rfl' st.rel, h3⟩⟩
theorem iok_rng (lo : Int) (n : Nat) : IOk X T (Itr lo n) (itR lo n) f A H := by
  intro j f1 A1 H1 st
  unfold itR
  cases e : Nat.blt j n with
  | false =>
    have : ¬ j < n := fun z => by rw [← Nat.blt_eq, e] at z; cases z
    exact Nat.le_of_not_lt this
  | true =>
    rw [Nat.blt_eq] at e
    exact ⟨e, fun y H2 ⟨h1, h2⟩ => by rw [h1]; exact ⟨f1, .rfl' st.rel, h2⟩⟩
theorem lkAt_of {i : Nat} {o : AO} (e : A.get i = some o) : A.lkAt i = o.lk := by unfold AH.lkAt; rw [e]
/-- a new tuple handed over -/
theorem two_rv {n : Nat} {v w : AV} {x y : V} {p : Addr} (hp : H p = none) (r1 : RV T X.K f n H v x) (r2 : RV T X.K f n H w y) : RV T X.K f n (upd H p (.tup [x, y])) (.tc v (.tc w .tn)) (.ref p) :=
  have m := (HS.upd (o := HO.tup [x, y]) hp).he (K := X.K)
  ⟨p, x, [y], rfl, upd_same, r1.mono m (fun _ _ => rfl) (Nat.le_refl _), y, [], rfl, r2.mono m (fun _ _ => rfl) (Nat.le_refl _), rfl⟩
theorem kA_rv {n : Nat} (k : Key) : RV T X.K f n H (kA k) (kV k) := by cases k <;> rfl
theorem kT_rv {n : Nat} : ∀ ks : List Key, RVt T X.K f n H (kT ks) (ks.map kV)
  | [] => rfl
  | k :: ks => ⟨kV k, ks.map kV, rfl, kA_rv k, kT_rv ks⟩
theorem kT_rv' {n : Nat} {ks : List Key} {q : Addr} (h : H q = some (.tup (ks.map kV))) : RV T X.K f n H (kT ks) (.ref q) := by
  cases ks with
  | nil => exact ⟨q, rfl, h⟩
  | cons k ks => exact ⟨q, kV k, ks.map kV, rfl, h, kA_rv k, kT_rv ks⟩
/-- a locked dict, later -/
theorem later_K (rl : Rel T X.K f A H) {i l : Nat} {o : Obj} {ws : List (Key × V)} (hl : A.lkAt i = l + 1) (hd : H (f i) = some (.frz o (.dK ws))) {f1 : Nat → Addr} {A1 : AH} {H1 : Hp} (st : Stp T X.K f A H f1 A1 H1) {t : Bool} {kvs : List (AV × AV)} (e : A1.get i = some (.dct t (l + 1) kvs)) :
    H1 (f i) = some (.frz o (.dK ws)) ∧ Paired (fun (p : AV × AV) (q : Key × V) => p.1 = kA q.1 ∧ RV T X.K f1 A1.n H1 p.2 q.2) kvs ws := by
  have h1 := st.lk i l hl (lkAt_of e)
  rw [hd] at h1
  have hi := (rl.src i l hl).1
  obtain ⟨_, ob⟩ := st.rel.ob i _ e
  rw [st.eq i hi] at ob
  refine ⟨h1, ?_⟩
  cases t with
  | false =>
    obtain ⟨ws', ⟨o', hw⟩, pr⟩ := ob
    rw [h1] at hw
    cases hw
    exact pr
  | true =>
    obtain ⟨ws', ⟨o', hw⟩, pr⟩ := ob
    rw [h1] at hw
    cases hw
theorem later_T (rl : Rel T X.K f A H) {i l : Nat} {o : Obj} {ws : List (List Key × V)} (hl : A.lkAt i = l + 1) (hd : H (f i) = some (.frz o (.dT ws))) {f1 : Nat → Addr} {A1 : AH} {H1 : Hp} (st : Stp T X.K f A H f1 A1 H1) {t : Bool} {kvs : List (AV × AV)} (e : A1.get i = some (.dct t (l + 1) kvs)) :
    H1 (f i) = some (.frz o (.dT ws)) ∧ Paired (fun (p : AV × AV) (q : List Key × V) => p.1 = kT q.1 ∧ RV T X.K f1 A1.n H1 p.2 q.2) kvs ws := by
  have h1 := st.lk i l hl (lkAt_of e)
  rw [hd] at h1
  have hi := (rl.src i l hl).1
  obtain ⟨_, ob⟩ := st.rel.ob i _ e
  rw [st.eq i hi] at ob
  refine ⟨h1, ?_⟩
  cases t with
  | true =>
    obtain ⟨ws', ⟨o', hw⟩, pr⟩ := ob
    rw [h1] at hw
    cases hw
    exact pr
  | false =>
    obtain ⟨ws', ⟨o', hw⟩, pr⟩ := ob
    rw [h1] at hw
    cases hw
/-- the frame of all walks of a dict -/
theorem iok_dct {J : It} {m : KVI} {i l : Nat} (h : ∀ j f1 A1 H1 t kvs, Stp T X.K f A H f1 A1 H1 → A1.get i = some (.dct t (l + 1) kvs) → (match kvs[j]? with
    | none => J.stop j H1
    | some p => J.go j H1 ∧ ∀ x H', J.yld j H1 x H' → ∃ f2, Stp T X.K f1 A1 H1 f2 A1 H' ∧ RV T X.K f2 A1.n H' (entry m p) x)) : IOk X T J (itD m i (l + 1)) f A H := by
  intro j f1 A1 H1 st
  unfold itD
  cases e1 : A1.get i with
  | none => trivial
  | some o =>
    cases o with
    | dct t lk kvs =>
      simp only
      cases eb : Nat.beq lk (l + 1) with
      | false => trivial
      | true =>
        have elk := Nat.eq_of_beq_eq_true eb
        subst elk
        have z := h j f1 A1 H1 t kvs st e1
        simp only
        rw [pnth_eq]
        cases e2 : kvs[j]? with
        | none => rw [e2] at z; exact z
        | some p => rw [e2] at z; exact z
    | _ => trivial
theorem iok_keys (rl : Rel T X.K f A H) {i l : Nat} {o : Obj} {ws : List (Key × V)} (hl : A.lkAt i = l + 1) (hd : H (f i) = some (.frz o (.dK ws))) : IOk X T (Itk (f i) o ws) (itD .ks i (l + 1)) f A H := by
  refine iok_dct fun j f1 A1 H1 t kvs st e => ?_
  obtain ⟨h1, pr⟩ := later_K rl hl hd st e
  cases e2 : kvs[j]? with
  | none => exact ⟨h1, by rw [← pr.length]; exact List.getElem?_eq_none_iff.mp e2⟩
  | some p =>
    obtain ⟨q, hq, k1, k2⟩ := paired_get pr e2
    refine ⟨⟨h1, (List.getElem?_eq_some_iff.mp hq).1⟩, fun x H' ⟨e1, k, v, hk, hx⟩ => ?_⟩
    rw [hq] at hk
    cases hk
    rw [e1, hx]
    exact ⟨f1, .rfl' st.rel, by show RV T X.K f1 A1.n H1 p.1 _; rw [k1]; exact kA_rv k⟩
theorem iok_keysT (rl : Rel T X.K f A H) {i l : Nat} {o : Obj} {ws : List (List Key × V)} (hl : A.lkAt i = l + 1) (hd : H (f i) = some (.frz o (.dT ws))) : IOk X T (Itkt (f i) o ws) (itD .ks i (l + 1)) f A H := by
  refine iok_dct fun j f1 A1 H1 t kvs st e => ?_
  obtain ⟨h1, pr⟩ := later_T rl hl hd st e
  cases e2 : kvs[j]? with
  | none => exact ⟨h1, by rw [← pr.length]; exact List.getElem?_eq_none_iff.mp e2⟩
  | some p =>
    obtain ⟨q, hq, k1, k2⟩ := paired_get pr e2
    refine ⟨⟨h1, (List.getElem?_eq_some_iff.mp hq).1⟩, fun x H' ⟨e1, k, v, a, hk, hx, ha⟩ => ?_⟩
    rw [hq] at hk
    cases hk
    rw [e1, hx]
    exact ⟨f1, .rfl' st.rel, by show RV T X.K f1 A1.n H1 p.1 _; rw [k1]; exact kT_rv' ha⟩
theorem iok_vals (rl : Rel T X.K f A H) {i l : Nat} {o : Obj} {ws : List (Key × V)} (hl : A.lkAt i = l + 1) (hd : H (f i) = some (.frz o (.dK ws))) : IOk X T (Itd (f i) o ws) (itD .vs i (l + 1)) f A H := by
  refine iok_dct fun j f1 A1 H1 t kvs st e => ?_
  obtain ⟨h1, pr⟩ := later_K rl hl hd st e
  cases e2 : kvs[j]? with
  | none => exact ⟨h1, by rw [← pr.length]; exact List.getElem?_eq_none_iff.mp e2⟩
  | some p =>
    obtain ⟨q, hq, k1, k2⟩ := paired_get pr e2
    refine ⟨⟨h1, (List.getElem?_eq_some_iff.mp hq).1⟩, fun x H' ⟨e1, k, hk⟩ => ?_⟩
    rw [hq] at hk
    cases hk
    rw [e1]
    exact ⟨f1, .rfl' st.rel, k2⟩
theorem iok_items (rl : Rel T X.K f A H) {i l : Nat} {o : Obj} {ws : List (Key × V)} (hl : A.lkAt i = l + 1) (hd : H (f i) = some (.frz o (.dK ws))) : IOk X T (Iti (f i) o ws) (itD .its i (l + 1)) f A H := by
  refine iok_dct fun j f1 A1 H1 t kvs st e => ?_
  obtain ⟨h1, pr⟩ := later_K rl hl hd st e
  cases e2 : kvs[j]? with
  | none => exact ⟨h1, by rw [← pr.length]; exact List.getElem?_eq_none_iff.mp e2⟩
  | some p =>
    obtain ⟨q, hq, k1, k2⟩ := paired_get pr e2
    refine ⟨⟨h1, (List.getElem?_eq_some_iff.mp hq).1⟩, fun x H' ⟨a, k, v, hk, hx, ha, eH⟩ => ?_⟩
    rw [hq] at hk
    cases hk
    rw [eH, hx]
    exact ⟨f1, st.rel.same (HS.upd ha), by show RV T X.K f1 A1.n _ (.tc p.1 (.tc p.2 .tn)) _; rw [k1]; exact two_rv ha (kA_rv k) k2⟩
/-! enumerate, zip -/
def itE (it : It0) : It0 := fun i A => match it i A with
  | .item v A1 => .item (.tc (.int i) (.tc v .tn)) A1
  | r => r
/-- two walks at once; the first that ends -/
def itZ (it it' : It0) : It0 := fun i A => match it i A with
  | .item v _ => (match it' i A with
    | .item w _ => .item (.tc v (.tc w .tn)) A
    | r => r)
  | .stop => (match it' i A with
    | .bad => .bad
    | _ => .stop)
  | .bad => .bad
/-- a walk of a list by its place: what it hands over and when it ends -/
def SeqI (X : Cx) (T : Tbl) (Sq : Hp → Addr → List V → Prop) (a : Addr) (it : It0) (f : Nat → Addr) (A : AH) (H : Hp) : Prop := ∀ i f1 A1 H1, Stp T X.K f A H f1 A1 H1 → (match it i A1 with
  | .stop => ∃ xs, Sq H1 a xs ∧ xs.length ≤ i
  | .item v A2 => A2 = A1 ∧ ∃ xs x, Sq H1 a xs ∧ xs[i]? = some x ∧ RV T X.K f1 A1.n H1 v x
  | .bad => True)
theorem seqi_list (rl : Rel T X.K f A H) {i : Nat} {xs : List AV} (e : A.get i = some (.lst xs)) : SeqI X T (SqL X.K) (f i) (itL i) f A H := by
  intro j f1 A1 H1 st
  unfold itL
  cases e1 : A1.get i with
  | none => trivial
  | some o =>
    cases o with
    | lst ys =>
      obtain ⟨hi, ws, hw, rw'⟩ := st.rel.ob i _ e1
      simp only
      rw [nth_eq]
      have fe : f1 i = f i := st.eq i (rl.ob i _ e).1
      rw [fe] at hw
      cases e2 : ys[j]? with
      | none => exact ⟨ws, .inl (.inl hw), by rw [← rw'.length]; exact List.getElem?_eq_none_iff.mp e2⟩
      | some v =>
        obtain ⟨x, hx, rv⟩ := paired_get rw' e2
        exact ⟨rfl, ws, x, .inl (.inl hw), hx, rv⟩
    | _ => trivial
theorem seqi_fix {Sq : Hp → Addr → List V → Prop} {a : Addr} {t : AV} {xs : List V} (r : RVt T X.K f A.n H t xs) (h : ∀ f1 A1 H1, Stp T X.K f A H f1 A1 H1 → Sq H1 a xs) : SeqI X T Sq a (itT t) f A H := by
  intro i f1 A1 H1 st
  have z := RVt.nth (i := i) r
  unfold itT
  cases e : tnth t i with
  | stop => rw [e] at z; exact ⟨xs, h f1 A1 H1 st, z⟩
  | item v A2 =>
    rw [e] at z
    obtain ⟨x, hx, rv⟩ := z
    exact ⟨rfl, xs, x, h f1 A1 H1 st, hx, st.rv rv⟩
  | bad => trivial
theorem iok_seqL {a : Addr} {it : It0} (h : SeqI X T (SqL X.K) a it f A H) : IOk X T (Itl X.K a) it f A H := by
  intro i f1 A1 H1 st
  have z := h i f1 A1 H1 st
  cases e : it i A1 with
  | stop => rw [e] at z; exact z
  | bad => trivial
  | item v A2 =>
    rw [e] at z
    obtain ⟨e1, xs, x, hq, hx, rv⟩ := z
    refine ⟨⟨xs, x, hq, hx⟩, fun y H2 ⟨h1, h2⟩ => ?_⟩
    have q := h2 xs hq
    rw [hx] at q
    cases q
    rw [h1, e1]
    exact ⟨f1, .rfl' st.rel, rv⟩
theorem iok_seqT {a : Addr} {it : It0} (h : SeqI X T (SqT X.K) a it f A H) : IOk X T (Itt X.K a) it f A H := by
  intro i f1 A1 H1 st
  have z := h i f1 A1 H1 st
  cases e : it i A1 with
  | stop => rw [e] at z; exact z
  | bad => trivial
  | item v A2 =>
    rw [e] at z
    obtain ⟨e1, xs, x, hq, hx, rv⟩ := z
    refine ⟨⟨xs, x, hq, hx⟩, fun y H2 ⟨h1, h2⟩ => ?_⟩
    have q := h2 xs hq
    rw [hx] at q
    cases q
    rw [h1, e1]
    exact ⟨f1, .rfl' st.rel, rv⟩
theorem iok_enum {a : Addr} {it : It0} (h : SeqI X T (SqL X.K) a it f A H) : IOk X T (Ite X.K a) (itE it) f A H := by
  intro i f1 A1 H1 st
  have z := h i f1 A1 H1 st
  unfold itE
  cases e : it i A1 with
  | stop => rw [e] at z; exact z
  | bad => trivial
  | item v A2 =>
    rw [e] at z
    obtain ⟨e1, xs, x, hq, hx, rv⟩ := z
    refine ⟨⟨xs, x, hq, hx⟩, fun y H2 ⟨p, x', hy, hp, eH, h2⟩ => ?_⟩
    have q := h2 xs hq
    rw [hx] at q
    cases q
    rw [eH, hy, e1]
    exact ⟨f1, st.rel.same (HS.upd hp), two_rv hp (v := .int i) (x := .int i) rfl rv⟩
theorem iok_zip {a b : Addr} {it it' : It0} (h : SeqI X T (SqL X.K) a it f A H) (h' : SeqI X T (SqL X.K) b it' f A H) : IOk X T (Itz X.K a b) (itZ it it') f A H := by
  intro i f1 A1 H1 st
  have z := h i f1 A1 H1 st
  have z' := h' i f1 A1 H1 st
  unfold itZ
  cases e : it i A1 with
  | bad => trivial
  | stop =>
    rw [e] at z
    obtain ⟨xs, hq, hl⟩ := z
    cases e' : it' i A1 with
    | bad => trivial
    | stop => rw [e'] at z'; obtain ⟨ys, hq', hl'⟩ := z'; exact ⟨xs, ys, hq, hq', .inl hl⟩
    | item w A3 => rw [e'] at z'; obtain ⟨e2, ys, y, hq', hy, rv'⟩ := z'; exact ⟨xs, ys, hq, hq', .inl hl⟩
  | item v A2 =>
    rw [e] at z
    obtain ⟨e1, xs, x, hq, hx, rv⟩ := z
    cases e' : it' i A1 with
    | bad => trivial
    | stop => rw [e'] at z'; obtain ⟨ys, hq', hl'⟩ := z'; exact ⟨xs, ys, hq, hq', .inr hl'⟩
    | item w A3 =>
      rw [e'] at z'
      obtain ⟨e2, ys, y, hq', hy, rv'⟩ := z'
      refine ⟨⟨xs, ys, x, y, hq, hq', hx, hy⟩, fun y0 H2 ⟨p, x1, y1, hp1, hp, eH, g1, g2⟩ => ?_⟩
      have q := g1 xs hq
      rw [hx] at q
      cases q
      have q := g2 ys hq'
      rw [hy] at q
      cases q
      rw [eH, hp1]
      exact ⟨f1, st.rel.same (HS.upd hp), two_rv hp rv rv'⟩
theorem iok_zipT {a b : Addr} {it it' : It0} (h : SeqI X T (SqT X.K) a it f A H) (h' : SeqI X T (SqT X.K) b it' f A H) : IOk X T (RZ.ItzT X.K a b) (itZ it it') f A H := by
  intro i f1 A1 H1 st
  have z := h i f1 A1 H1 st
  have z' := h' i f1 A1 H1 st
  unfold itZ
  cases e : it i A1 with
  | bad => trivial
  | stop =>
    rw [e] at z
    obtain ⟨xs, hq, hl⟩ := z
    cases e' : it' i A1 with
    | bad => trivial
    | stop => rw [e'] at z'; obtain ⟨ys, hq', hl'⟩ := z'; exact ⟨xs, ys, hq, hq', .inl hl⟩
    | item w A3 => rw [e'] at z'; obtain ⟨e2, ys, y, hq', hy, rv'⟩ := z'; exact ⟨xs, ys, hq, hq', .inl hl⟩
  | item v A2 =>
    rw [e] at z
    obtain ⟨e1, xs, x, hq, hx, rv⟩ := z
    cases e' : it' i A1 with
    | bad => trivial
    | stop => rw [e'] at z'; obtain ⟨ys, hq', hl'⟩ := z'; exact ⟨xs, ys, hq, hq', .inr hl'⟩
    | item w A3 =>
      rw [e'] at z'
      obtain ⟨e2, ys, y, hq', hy, rv'⟩ := z'
      refine ⟨⟨xs, ys, x, y, hq, hq', hx, hy⟩, fun y0 H2 ⟨p, x1, y1, hp1, hp, eH, g1, g2⟩ => ?_⟩
      have q := g1 xs hq
      rw [hx] at q
      cases q
      have q := g2 ys hq'
      rw [hy] at q
      cases q
      rw [eH, hp1]
      exact ⟨f1, st.rel.same (HS.upd hp), two_rv hp rv rv'⟩
/-- the sequence that a value is: a list (true) or a tuple -/
def seqOf (v : AV) (A : AH) : Option (Bool × It0) := match v with
  | .ref i => (match A.get i with
    | some (.lst _) => some (true, itL i)
    | _ => none)
  | .fz t => some (true, itT t)
  | .tn => some (false, itT .tn)
  | .tc h t => some (false, itT (.tc h t))
  | .ft t => some (false, itT t)
  | _ => none
theorem FzL.later {a : Addr} {xs : List V} (q : FzL X.K H a xs) {f1 : Nat → Addr} {A1 : AH} {H1 : Hp} (st : Stp T X.K f A H f1 A1 H1) : SqL X.K H1 a xs := (st.he.fz a xs q).sq
theorem seq_ok (rl : Rel T X.K f A H) {v : AV} {x : V} (rv : RV T X.K f A.n H v x) {b : Bool} {it : It0} (e : seqOf v A = some (b, it)) :
    ∃ a, x = .ref a ∧ (match b with | true => SeqI X T (SqL X.K) a it f A H ∧ ∃ xs, SqL X.K H a xs | false => SeqI X T (SqT X.K) a it f A H ∧ ∃ xs, SqT X.K H a xs) := by
  unfold seqOf at e
  cases v with
  | ref i =>
    obtain ⟨hi, ex⟩ := rv
    simp only at e
    cases e1 : A.get i with
    | none => rw [e1] at e; cases e
    | some o =>
      rw [e1] at e
      cases o with
      | lst xs =>
        cases e
        obtain ⟨_, ws, hw, _⟩ := rl.ob i _ e1
        exact ⟨f i, ex, seqi_list rl e1, ws, .inl (.inl hw)⟩
      | _ => cases e
  | fz t =>
    cases e
    obtain ⟨a, xs, ex, q, r⟩ := rv
    exact ⟨a, ex, seqi_fix r fun f1 A1 H1 st => q.later st, xs, q.sq⟩
  | ft t =>
    cases e
    obtain ⟨a, xs, ex, q, r⟩ := rv
    have q' : ∀ H, SqT X.K H a xs := fun H => by
      rcases q with q | q
      · rcases q with q | ⟨_, q⟩ <;> cases q
      · exact .inr q
    exact ⟨a, ex, seqi_fix r fun f1 A1 H1 st => q' H1, xs, q' H⟩
  | tn =>
    cases e
    obtain ⟨a, ex, q⟩ := rv
    exact ⟨a, ex, seqi_fix (xs := []) rfl fun f1 A1 H1 st => .of (st.he.tp _ _ q), [], .of q⟩
  | tc h t =>
    cases e
    obtain ⟨a, y, ys, ex, q, r1, r2⟩ := rv
    exact ⟨a, ex, seqi_fix (xs := y :: ys) ⟨y, ys, rfl, r1, r2⟩ fun f1 A1 H1 st => .of (st.he.tp _ _ q), _, .of q⟩
  | _ => cases e
/-- iter(v) -/
def pIter (v : AV) (A : AH) : RIt := match seqOf v A with
  | some (_, it) => .ok it none A
  | none => (match v with
    | .str x => .ok (itS x) none A
    | _ => (match lockV v A with
      | some (_, i, l, lk, A1) => .ok (itD .ks i l) lk A1
      | none => .bad))
def pView (m : KVI) (v : AV) (A : AH) : RIt := match lockV v A with
  | some (t, i, l, lk, A1) => (match t with
    | false => .ok (itD m i l) lk A1
    | true => .bad)
  | none => .bad
def RE.bi (r : RE) (k : AV → AH → RIt) : RIt := match r with
  | .ok v A => k v A
  | .ex c fs A => .ex c fs A
  | .bad => .bad
def RL.bi (r : RL) (k : List AV → AH → RIt) : RIt := match r with
  | .ok v A => k v A
  | .ex c fs A => .ex c fs A
  | .bad => .bad
def tVal (k : AV → AH → RIt) (te : EV) : Sl → AH → RIt := fun s A => (te s A).bi k
def tArg (k : List AV → AH → RIt) (l : Sl → AH → RL) : Sl → AH → RIt := fun s A => (l s A).bi k
theorem lock_lq (rl : Rel T X.K f A H) {v : AV} {x : V} (rv : RV T X.K f A.n H v x) {t : Bool} {i l : Nat} {lk : Option Nat} (e : lockV v A = some (t, i, l, lk, A1)) {Q : VK}
    (h : ∀ H1 o l', l = l' + 1 → x = .ref (f i) → Stp T X.K f A H f A1 H1 → A1.lkAt i = l' + 1 → NFl X f A1.n lk → (match t with | false => ∃ ws, H1 (f i) = some (.frz o (.dK ws)) | true => ∃ ws, H1 (f i) = some (.frz o (.dT ws))) → Q x H1) : LQ X Q x H := by
  unfold lockV at e
  cases v with
  | ref j =>
    obtain ⟨hj, ex⟩ := rv
    simp only at e
    cases e1 : A.get j with
    | none => rw [e1] at e; cases e
    | some o =>
      rw [e1] at e
      cases o with
      | dct t' lk' kvs =>
        obtain ⟨_, ob⟩ := rl.ob j _ e1
        cases lk' with
        | zero =>
          cases e
          have la : (A.lockA i t kvs).lkAt i = A.n + 1 := by
            unfold AH.lkAt
            rw [AH.get_lock, if_pos rfl]
            rfl
          have hf : ∀ k, k < A.n → f k = f k := fun _ _ => rfl
          cases t with
          | false =>
            obtain ⟨ws, hw, pr⟩ := ob
            have hw : H (f i) = some (.dK ws) := hw
            refine .inr ⟨f i, _, hw, trivial, fun od nf => ?_⟩
            have he : HE X.K H (upd H (f i) (.frz od (.dK ws))) := he_upd hw (fun _ z => nomatch z) (fun _ _ z => nomatch z)
            refine h _ od _ rfl ex (rl.lock e1 (fun b hb => upd_ne hb) he ⟨ws, ⟨od, upd_same⟩, Paired.mono (fun _ _ q => ⟨q.1, q.2.mono he hf (Nat.le_refl _)⟩) pr⟩) la ⟨Nat.lt_succ_of_lt hj, nf⟩ ⟨ws, upd_same⟩
          | true =>
            obtain ⟨ws, hw, pr⟩ := ob
            have hw : H (f i) = some (.dT ws) := hw
            refine .inr ⟨f i, _, hw, trivial, fun od nf => ?_⟩
            have he : HE X.K H (upd H (f i) (.frz od (.dT ws))) := he_upd hw (fun _ z => nomatch z) (fun _ _ z => nomatch z)
            refine h _ od _ rfl ex (rl.lock e1 (fun b hb => upd_ne hb) he ⟨ws, ⟨od, upd_same⟩, Paired.mono (fun _ _ q => ⟨q.1, q.2.mono he hf (Nat.le_refl _)⟩) pr⟩) la ⟨Nat.lt_succ_of_lt hj, nf⟩ ⟨ws, upd_same⟩
        | succ l0 =>
          cases e
          cases t with
          | false =>
            obtain ⟨ws, ⟨o, hw⟩, pr⟩ := ob
            exact .inl (h H o _ rfl ex (.rfl' rl) (lkAt_of e1) trivial ⟨ws, hw⟩)
          | true =>
            obtain ⟨ws, ⟨o, hw⟩, pr⟩ := ob
            exact .inl (h H o _ rfl ex (.rfl' rl) (lkAt_of e1) trivial ⟨ws, hw⟩)
      | _ => cases e
  | _ => cases e
theorem lq_run {pins : List (Addr × Obj)} {σ : L2.St} {s : Shared} {Q : VK} {x : V} (I : Inv X pins σ H s) (h : LQ X Q x H) : ∃ H1, Inv X pins σ H1 s ∧ Q x H1 := by
  rcases h with q | ⟨d, u, hd, mu, q⟩
  · exact ⟨H, I, q⟩
  · obtain ⟨od, I2⟩ := I.lock hd mu
    exact ⟨_, I2, q od (I.nofrz hd mu)⟩
/-- iter of a value there -/
theorem it_val {pins : List (Addr × Obj)} {σ : L2.St} {s : Shared} {R : It → Hp → Prop} {tg : Expr} {v : AV} {x : V} {u : Value} (I : Inv X pins σ H s) (r : RelV x u) (rl : Rel T X.K f A H) (rv : RV T X.K f A.n H v x) (q : PostI X T W f A H σ R (pIter v A)) :
    wpAny (model X.prog X.w) X.A (pyIter u) (PIE X pins σ tg R) X.xe s := by
  unfold pIter at q
  cases e : seqOf v A with
  | some p =>
    obtain ⟨b, it⟩ := p
    rw [e] at q
    obtain ⟨a, ex, z⟩ := seq_ok rl rv e
    subst ex
    obtain rfl : u = Value.ref a := r
    cases b with
    | true =>
      obtain ⟨sq, xs, hq⟩ := z
      obtain ⟨its, rs, p, _⟩ := I.list hq
      exact wpAny_pyIter_list p.isList (pi_one (tk := s.toks) I _ (turn_list a _) ⟨_, Heap.get?_push_size _ rfl, rfl, rfl⟩ (q f H _ (.rfl' rl) (iok_seqL sq) trivial))
    | false =>
      obtain ⟨sq, xs, hq⟩ := z
      obtain ⟨its, rs, p, _⟩ := I.tuple hq
      exact wpAny_pyIter_tuple (show s.heap.IsTuple a its.toArray from p) (pi_one (tk := s.toks) I _ (turn_tuple a _) ⟨_, Heap.get?_push_size _ rfl, rfl, rfl⟩ (q f H _ (.rfl' rl) (iok_seqT sq) trivial))
  | none =>
    rw [e] at q
    have dict : ∀ v, RV T X.K f A.n H v x → PostI X T W f A H σ R (match lockV v A with | some (_, i, l, lk, A1) => .ok (itD .ks i l) lk A1 | none => .bad) → wpAny (model X.prog X.w) X.A (pyIter u) (PIE X pins σ tg R) X.xe s := by
      intro v rv q
      cases e2 : lockV v A with
      | none => rw [e2] at q; exact q.elim
      | some p =>
        obtain ⟨t, i, l, lk, A1⟩ := p
        rw [e2] at q
        obtain ⟨H1, I1, o, l', ex, hR⟩ := lq_run (Q := fun x H1 => ∃ o l', x = .ref (f i) ∧ ((∃ ws, H1 (f i) = some (.frz o (.dK ws)) ∧ R (Itk (f i) o ws) H1) ∨ (∃ ws, H1 (f i) = some (.frz o (.dT ws)) ∧ R (Itkt (f i) o ws) H1)) ∧ l = l' + 1) I (lock_lq rl rv e2 fun H1 o l' el ex st la nf hd => by
          subst el
          refine ⟨o, l', ex, ?_, rfl⟩
          cases t with
          | false => obtain ⟨ws, hd⟩ := hd; exact .inl ⟨ws, hd, q f H1 _ st (iok_keys st.rel la hd) nf⟩
          | true => obtain ⟨ws, hd⟩ := hd; exact .inr ⟨ws, hd, q f H1 _ st (iok_keysT st.rel la hd) nf⟩)
        obtain ⟨hR, el⟩ := hR
        subst ex
        obtain rfl : u = Value.ref (f i) := r
        rcases hR with ⟨ws, hd, q⟩ | ⟨ws, hd, q⟩
        · obtain ⟨hs, hgd, hx, es, ep, vs, hdt, hsz, kv, hm⟩ := I1.frzK hd
          refine L2.iter_keys hs hgd hx hdt (pi_one (tk := s.toks) I1 _ (turn_keys _ hdt) ⟨_, Heap.get?_push_size _ rfl, rfl, ?_⟩ q)
          rw [hsz] <;> rfl
        · obtain ⟨hs, hgd, hx, es, ep, hdt, hsz, ent⟩ := I1.frzT hd
          refine L2.iter_keys hs hgd hx hdt (pi_one (tk := s.toks) I1 _ (turn_keysT _ hdt) ⟨_, Heap.get?_push_size _ rfl, rfl, ?_⟩ q)
          rw [hsz] <;> rfl
    cases v with
    | str y =>
      have ex : x = .str y := rv
      subst ex
      obtain ⟨t, rfl⟩ := r
      have q' := q f H _ (.rfl' rl) (iok_str y) trivial
      cases ha : y.cps.all (· < 128)
      · exact wpAny_pyIter_wide ha (pi_one (tk := s.toks) I _ (turn_str _ y t "str_iterator" (.inr rfl)) ⟨_, Heap.get?_push_size _ rfl, rfl, rfl⟩ q')
      · exact wpAny_pyIter_ascii ha (pi_one (tk := s.toks) I _ (turn_str _ y t "str_ascii_iterator" (.inl rfl)) ⟨_, Heap.get?_push_size _ rfl, rfl, rfl⟩ q')
    | ref j => exact dict _ rv q
    | _ => exact q.elim
end
section
variable {X : Cx} {T : Tbl} {W : WX} {tg e e2 : Expr} {te : EV} {l : Sl → AH → RL} {p pos tpos apos cpos : Pos} {elts : List Expr} {kk : Nat}
/-- a value, then a walk -/
theorem iv_of {k : AV → AH → RIt} {σ : L2.St} {H : Hp} {R : It → Hp → Prop} (h : IRd X T W (tVal k te) σ H R) : ERd T X.K W te σ H fun x H1 => ∃ f A v, Rel T X.K f A H1 ∧ RV T X.K f A.n H1 v x ∧ PostI X T W f A H1 σ R (k v A) := by
  obtain ⟨f, A, s, a, q⟩ := h
  refine ⟨f, A, s, a, ?_⟩
  unfold tVal at q
  cases e : te s A with
  | ok v A1 => rw [e] at q; exact fun f1 H1 u st r => ⟨f1, A1, v, st.rel, r, PostI.step q st⟩
  | ex c fs A1 => rw [e] at q; exact q
  | bad => rw [e] at q; exact q
theorem ia_of {k : List AV → AH → RIt} {σ : L2.St} {H : Hp} {R : It → Hp → Prop} (h : IRd X T W (tArg k l) σ H R) : ARd T X.K W l σ H fun xs H1 => ∃ f A vs, Rel T X.K f A H1 ∧ RVs T X.K f A.n H1 vs xs ∧ PostI X T W f A H1 σ R (k vs A) := by
  obtain ⟨f, A, s, a, q⟩ := h
  refine ⟨f, A, s, a, ?_⟩
  unfold tArg at q
  cases e : l s A with
  | ok v A1 => rw [e] at q; exact fun f1 H1 u st r => ⟨f1, A1, v, st.rel, r, PostI.step q st⟩
  | ex c fs A1 => rw [e] at q; exact q
  | bad => rw [e] at q; exact q
theorem zi_val (he : PE X e (ERd T X.K W te)) : PI X tg e (IRd X T W (tVal pIter te)) :=
  ⟨fun pins s σ H R I h => thn (he.run pins s σ H _ I (iv_of h)) fun _ _ ⟨_, _, I1, rx, _, _, _, rl, rv, q⟩ => it_val I1 rx rl rv q⟩
theorem zi_values (he : PE X e (ERd T X.K W te)) (hbase : attributeBase e "values" X.env (eval e X.env) = eval e X.env) (hline : (apos.endLine == cpos.line) = true) : PI X tg (.Call (.Attribute e "values" apos) [] [] cpos) (IRd X T W (tVal (pView .vs) te)) := by
  refine (pi_values (pe_lockA he) hbase hline).im fun σ H R h => (iv_of h).mono fun x H1 ⟨f, A, v, rl, rv, q⟩ => ?_
  unfold pView at q
  cases e2 : lockV v A with
  | none => rw [e2] at q; exact q.elim
  | some p =>
    obtain ⟨t, i, l, lk, A1⟩ := p
    rw [e2] at q
    refine lock_lq rl rv e2 fun H2 o l' el ex st la nf hd => ?_
    subst el
    cases t with
    | true => exact q.elim
    | false => obtain ⟨ws, hd⟩ := hd; exact ⟨f i, o, ws, ex, hd, q f H2 _ st (iok_vals st.rel la hd) nf⟩
theorem zi_items (he : PE X e (ERd T X.K W te)) (hbase : attributeBase e "items" X.env (eval e X.env) = eval e X.env) (hline : (apos.endLine == cpos.line) = true) : PI X (.Tuple elts kk tpos) (.Call (.Attribute e "items" apos) [] [] cpos) (IRd X T W (tVal (pView .its) te)) := by
  refine (pi_items (pe_lockA he) hbase hline).im fun σ H R h => (iv_of h).mono fun x H1 ⟨f, A, v, rl, rv, q⟩ => ?_
  unfold pView at q
  cases e2 : lockV v A with
  | none => rw [e2] at q; exact q.elim
  | some p =>
    obtain ⟨t, i, l, lk, A1⟩ := p
    rw [e2] at q
    refine lock_lq rl rv e2 fun H2 o l' el ex st la nf hd => ?_
    subst el
    cases t with
    | true => exact q.elim
    | false => obtain ⟨ws, hd⟩ := hd; exact ⟨f i, o, ws, ex, hd, q f H2 _ st (iok_items st.rel la hd) nf⟩
/-! range, enumerate, zip -/
def small62 (i : Int) : Bool := iLe (-4611686018427387904) i && iLt i 4611686018427387904
theorem small62_ok {i : Int} (h : small62 i = true) : -(2 ^ 62) ≤ i ∧ i < 2 ^ 62 := by
  unfold small62 at h
  rw [iLe_eq, iLt_eq, Bool.and_eq_true, decide_eq_true_eq, decide_eq_true_eq] at h
  omega
def pEnum (vs : List AV) (A : AH) : RIt := match vs with
  | [v] => (match seqOf v A with
    | some (true, it) => .ok (itE it) none A
    | _ => .bad)
  | _ => .bad
def pZip (vs : List AV) (A : AH) : RIt := match vs with
  | [v, w] => (match seqOf v A with
    | some (b, it) => (match seqOf w A with
      | some (b', it') => (match b == b' with
        | true => .ok (itZ it it') none A
        | false => .bad)
      | _ => .bad)
    | _ => .bad)
  | _ => .bad
theorem rvs1 {f : Nat → Addr} {n : Nat} {H : Hp} {v : AV} {xs : List V} (r : RVs T X.K f n H [v] xs) : ∃ x, xs = [x] ∧ RV T X.K f n H v x := by
  cases r with
  | cons r rr => cases rr; exact ⟨_, rfl, r⟩
theorem rvs2 {f : Nat → Addr} {n : Nat} {H : Hp} {v w : AV} {xs : List V} (r : RVs T X.K f n H [v, w] xs) : ∃ x y, xs = [x, y] ∧ RV T X.K f n H v x ∧ RV T X.K f n H w y := by
  cases r with
  | cons r rr =>
    obtain ⟨y, e, r2⟩ := rvs1 rr
    rw [e]
    exact ⟨_, y, rfl, r, r2⟩
def pRng1 (vs : List AV) (A : AH) : RIt := match vs with
  | [.int j] => (match small62 j with
    | true => .ok (itR 0 j.toNat) none A
    | false => .bad)
  | _ => .bad
def pRng2 (vs : List AV) (A : AH) : RIt := match vs with
  | [.int i, .int j] => (match small62 i && small62 j with
    | true => .ok (itR i (j - i).toNat) none A
    | false => .bad)
  | _ => .bad
theorem zi_range1 {a : Expr} (hg : Gl X "range") (hm : X.mg "range" = none) (ha : PA X [a] (ARd T X.K W l)) (hs : starEach [a] X.env = [(false, eval a X.env)]) : PI X tg (.Call (.Name "range" p) [a] [] pos) (IRd X T W (tArg pRng1 l)) := by
  refine (pi_range1 hg hm ha hs).im fun σ H R h => (ia_of h).mono fun xs H1 ⟨f, A, vs, rl, rs, q⟩ => ?_
  unfold pRng1 at q
  split at q
  · rename_i j
    obtain ⟨x, ex, r⟩ := rvs1 rs
    split at q
    · rename_i e
      obtain ⟨h1, h2⟩ := small62_ok e
      exact ⟨j, by rw [ex, show x = V.int j from r], h1, h2, q f H1 _ (.rfl' rl) (iok_rng _ _) trivial⟩
    · exact q.elim
  · exact q.elim
theorem zi_range2 {a b : Expr} (hg : Gl X "range") (hm : X.mg "range" = none) (ha : PA X [a, b] (ARd T X.K W l)) (hs : starEach [a, b] X.env = [(false, eval a X.env), (false, eval b X.env)]) (hs2 : starEach [b] X.env = [(false, eval b X.env)]) :
    PI X tg (.Call (.Name "range" p) [a, b] [] pos) (IRd X T W (tArg pRng2 l)) := by
  refine (pi_range2 hg hm ha hs hs2).im fun σ H R h => (ia_of h).mono fun xs H1 ⟨f, A, vs, rl, rs, q⟩ => ?_
  unfold pRng2 at q
  split at q
  · rename_i i j
    obtain ⟨x, y, ex, r, r2⟩ := rvs2 rs
    split at q
    · rename_i e
      obtain ⟨e1, e2⟩ := Bool.and_eq_true_iff.mp e
      obtain ⟨h1, h2⟩ := small62_ok e1
      obtain ⟨h3, h4⟩ := small62_ok e2
      exact ⟨i, j, by rw [ex, show x = V.int i from r, show y = V.int j from r2], ⟨h1, h2, h3, h4⟩, q f H1 _ (.rfl' rl) (iok_rng _ _) trivial⟩
    · exact q.elim
  · exact q.elim
theorem zi_enum (hg : Gl X "enumerate") (hm : X.mg "enumerate" = none) (ha : PA X [e] (ARd T X.K W l)) (hs : starEach [e] X.env = [(false, eval e X.env)]) :
    PI X (.Tuple elts kk tpos) (.Call (.Name "enumerate" p) [e] [] pos) (IRd X T W (tArg pEnum l)) := by
  refine (pi_enum hg hm ha hs).im fun σ H R h => (ia_of h).mono fun xs H1 ⟨f, A, vs, rl, rs, q⟩ => ?_
  unfold pEnum at q
  split at q
  · rename_i v
    obtain ⟨x, ex, r⟩ := rvs1 rs
    split at q
    · rename_i it e
      obtain ⟨a, ea, sq, ys, hq⟩ := seq_ok rl r e
      exact ⟨a, ys, by rw [ex, ea], hq, q f H1 _ (.rfl' rl) (iok_enum sq) trivial⟩
    · exact q.elim
  · exact q.elim
theorem zi_zip (hg : Gl X "zip") (hm : X.mg "zip" = none) (ha : PA X [e, e2] (ARd T X.K W l)) (hs : starEach [e, e2] X.env = (false, eval e X.env) :: starEach [e2] X.env) (hpl : (backTo pos (starEach [e2] X.env)).any (·.1) = false) :
    PI X (.Tuple elts kk tpos) (.Call (.Name "zip" p) [e, e2] [] pos) (IRd X T W (tArg pZip l)) := by
  refine (RZ.pi_zipA hg hm ha hs hpl).im fun σ H R h => (ia_of h).mono fun xs H1 ⟨f, A, vs, rl, rs, q⟩ => ?_
  unfold pZip at q
  split at q
  · rename_i v w
    obtain ⟨x, y, ex, r, r2⟩ := rvs2 rs
    split at q
    · rename_i b it e
      split at q
      · rename_i b' it' e'
        split at q
        · rename_i eb
          have eb : b = b' := beq_iff_eq.mp eb
          subst eb
          obtain ⟨a, ea, z⟩ := seq_ok rl r e
          obtain ⟨a', ea', z'⟩ := seq_ok rl r2 e'
          cases b with
          | true =>
            obtain ⟨sq, ys, hq⟩ := z
            obtain ⟨sq', ys', hq'⟩ := z'
            exact ⟨a, a', ys, ys', by rw [ex, ea, ea'], .inl ⟨hq, hq', q f H1 _ (.rfl' rl) (iok_zip sq sq') trivial⟩⟩
          | false =>
            obtain ⟨sq, ys, hq⟩ := z
            obtain ⟨sq', ys', hq'⟩ := z'
            exact ⟨a, a', ys, ys', by rw [ex, ea, ea'], .inr ⟨hq, hq', q f H1 _ (.rfl' rl) (iok_zipT sq sq') trivial⟩⟩
        · exact q.elim
      · exact q.elim
    · exact q.elim
  · exact q.elim
end
end Z
end
section
/-! Z9: for, comprehensions. -/
namespace Z
open PySem PySem.Spec PyProof.Rows L2
def forF (it : It0) (tg : Tgt) (b : SV) : Nat → Nat → SV
  | 0, _ => fun _ _ => .bad
  | m + 1, i => fun s A => match it i A with
    | .stop => .nx s A
    | .item v A1 => (match tgS tg v s with
      | some s1 => (match b s1 A1 with
        | .nx s2 A2 => forF it tg b m (i + 1) s2 A2
        | .ct s2 A2 => forF it tg b m (i + 1) s2 A2
        | .bk s2 A2 => .nx s2 A2
        | r => r)
      | none => .bad)
    | .bad => .bad
def RIt.bs (r : RIt) (s : Sl) (k : It0 → Option Nat → AH → RS) : RS := match r with
  | .ok it lk A => k it lk A
  | .ex c fs A => .ex c fs s A
  | .bad => .bad
def sFor (t : Sl → AH → RIt) (tg : Tgt) (b : SV) : SV := fun s A => (t s A).bs s fun it lk A1 => unlS lk (forF it tg b 1000000 0 s A1)
section
variable {X : Cx} {T : Tbl} {W : WX} {tg iter : Expr} {body : List Stmt} {t : Sl → AH → RIt} {lk : Option Nat} {gt : Tgt} {b : SV} {pos : Pos}
theorem zs_for (hp : PassesOwn (model X.prog X.w) X.A X.env X.xe) (hc : X.calm = true) (hi : PI X tg iter (IRd X T W t)) (hg : PG X tg (tgR X.K gt)) (hb : PSs X body (SRd T X.K W b)) (hs : ∀ x, foldedSetIterable iter X.env x = pure x) :
    PS X (.For tg iter body [] pos) (SRd T X.K W (sFor t gt b)) := by
  refine (ps_unl (ps_for hp hc hi hg hb hs)).im fun D σ H ⟨f, A, s, a, q⟩ => ?_
  refine ⟨f, A, s, a, ?_⟩
  unfold sFor at q
  cases e : t s A with
  | bad => rw [e] at q; exact q
  | ex c fs A1 => rw [e] at q; exact fun f1 H1 d st x => q f1 H1 σ d st (st.sr a.sr) x
  | ok it lk A1 =>
    rw [e] at q
    intro f1 H1 J st io nf
    have q1 : PostS T X.K W f1 A1 H1 (UE X D) (forF it gt b 1000000 0 s A1) := posts_unl nf (PostS.step q st)
    refine ⟨fun i m σ H => ∃ f A s, At T X.K f A s σ H ∧ Stp T X.K f1 A1 H1 f A H ∧ PostS T X.K W f A H (UE X D) (forF it gt b m i s A), ⟨1000000, f1, A1, s, a.step st, .rfl' st.rel, q1⟩, ?_⟩
    intro i m σ' H' ⟨f2, A2, s2, a2, st2, q2⟩
    cases m with
    | zero => exact q2.elim
    | succ m =>
      unfold forF at q2
      have io2 := io i f2 A2 H' st2
      cases e2 : it i A2 with
      | bad => rw [e2] at q2; exact q2.elim
      | stop =>
        rw [e2] at q2 io2
        exact .inl ⟨io2, q2 f2 H' σ' (.rfl' a2.rel) a2.sr⟩
      | item v A3 =>
        rw [e2] at q2 io2
        refine .inr ⟨io2.1, fun σ H => ∃ f A s, At T X.K f A s σ H ∧ Stp T X.K f1 A1 H1 f A H ∧ PostS T X.K W f A H (UE X D) (forF it gt b m (i + 1) s A), fun σ3 H3 h3 => ⟨m, Nat.lt_succ_self _, h3⟩, fun x H3 y => ?_⟩
        obtain ⟨f3, st3, rv⟩ := io2.2 x H3 y
        have q3 : PostS T X.K W f2 A2 H' (UE X D) (match tgS gt v s2 with | some s1 => (match b s1 A3 with | .nx s2 A2 => forF it gt b m (i + 1) s2 A2 | .ct s2 A2 => forF it gt b m (i + 1) s2 A2 | .bk s2 A2 => .nx s2 A2 | r => r) | none => .bad) := q2
        cases e3 : tgS gt v s2 with
        | none => rw [e3] at q3; exact q3.elim
        | some s4 =>
          rw [e3] at q3
          refine (tg_ok gt).1 v x s2 s4 σ' _ (st3.sr a2.sr) rv e3 fun σ4 hs4 _ => ⟨f3, A3, s4, ⟨st3.rel, hs4⟩, ?_⟩
          have q4 : PostS T X.K W f3 A3 H3 (UE X D) (match b s4 A3 with | .nx s2 A2 => forF it gt b m (i + 1) s2 A2 | .ct s2 A2 => forF it gt b m (i + 1) s2 A2 | .bk s2 A2 => .nx s2 A2 | r => r) := PostS.step q3 st3
          cases e4 : b s4 A3 with
          | nx s5 A5 => rw [e4] at q4; exact fun f5 H5 σ5 st5 sr5 => ⟨f5, A5, s5, ⟨st5.rel, sr5⟩, (st2.trans st3).trans st5, PostS.step q4 st5⟩
          | ct s5 A5 => rw [e4] at q4; exact fun f5 H5 σ5 st5 sr5 => ⟨f5, A5, s5, ⟨st5.rel, sr5⟩, (st2.trans st3).trans st5, PostS.step q4 st5⟩
          | bk s5 A5 => rw [e4] at q4; exact q4
          | rt v5 A5 => rw [e4] at q4; exact q4
          | ex c fs s5 A5 => rw [e4] at q4; exact q4
          | bad => rw [e4] at q4; exact q4
/-! ## comprehensions -/
def wipeA (s : Sl) : List Nat → Sl
  | [] => s
  | v :: vs => (wipeA s vs).set v none
theorem wipe_sr {g : Nat → Addr} {n : Nat} {H : Hp} {s : Sl} {σ : L2.St} (h : SR T X.K g n H s σ) : ∀ vs : List Nat, SR T X.K g n H (wipeA s vs) (wipe σ vs)
  | [] => h
  | v :: vs => by
    have ih := wipe_sr h vs
    refine ⟨by show ((wipeA s vs).set v none).length = ((wipe σ vs).set v none).length; rw [List.length_set, List.length_set]; exact ih.1, fun j w e => ?_⟩
    have e' : ((wipeA s vs).set v none)[j]? = some (some w) := e
    show ∃ u, ((wipe σ vs).set v none)[j]? = some (some u) ∧ _
    by_cases hj : v = j
    · subst hj
      rw [List.getElem?_set] at e'
      simp only [if_true] at e'
      split at e' <;> cases e'
    · rw [List.getElem?_set_ne hj] at e' ⊢
      exact ih.2 j w e'
def lcPut (r : Nat) (y : AV) (A : AH) : Option AH := match A.get r with
  | some (.lst acc) => (match Nat.blt acc.length 16777216 with
    | true => some (A.set r (.lst (acc ++ [y])))
    | false => none)
  | _ => none
def lcTurn (c e : EV) (r : Nat) (s : Sl) (A : AH) : Option AH := match c s A with
  | .ok (.bl true) A2 => (match e s A2 with
    | .ok y A3 => lcPut r y A3
    | _ => none)
  | .ok (.bl false) A2 => some A2
  | _ => none
def turnF (it : It0) (tg : Tgt) (tu : Sl → AH → Option AH) (s0 : Sl) (r : Nat) : Nat → Nat → AH → RE
  | 0, _ => fun _ => .bad
  | m + 1, i => fun A => match it i A with
    | .stop => .ok (.ref r) A
    | .item v A1 => (match tgS tg v s0 with
      | some s1 => (match tu s1 A1 with
        | some A4 => turnF it tg tu s0 r m (i + 1) A4
        | none => .bad)
      | none => .bad)
    | .bad => .bad
def RIt.bd (r : RIt) (k : It0 → Option Nat → AH → RE) : RE := match r with
  | .ok it lk A => k it lk A
  | .ex c fs A => .ex c fs A
  | .bad => .bad
def eLc (t : Sl → AH → RIt) (tg : Tgt) (c e : EV) (own : List Nat) : EV := fun s A => (t s A).bd fun it lk A1 => unlE lk (turnF it tg (lcTurn c e A1.n) (wipeA s own) A1.n 1000000 0 (A1.push (.lst [])))
abbrev W0 : WX := fun _ _ _ _ => False
theorem lcPut_ok {f : Nat → Addr} {A A' : AH} {H : Hp} (rl : Rel T X.K f A H) {r : Nat} {y : AV} {u : V} (rv : RV T X.K f A.n H y u) (h : lcPut r y A = some A') :
    ∃ ws, H (f r) = some (.lst ws) ∧ ws.length < sizeLine ∧ Stp T X.K f A H f A' (upd H (f r) (.lst (ws ++ [u]))) := by
  unfold lcPut at h
  cases e : A.get r with
  | none => rw [e] at h; cases h
  | some o =>
    rw [e] at h
    cases o with
    | lst acc =>
      have h1 : (match Nat.blt acc.length 16777216 with | true => some (A.set r (.lst (acc ++ [y]))) | false => none) = some A' := h
      cases e7 : Nat.blt acc.length 16777216 with
      | false => rw [e7] at h1; cases h1
      | true =>
        rw [e7] at h1
        cases h1
        obtain ⟨_, ws, eD, rws⟩ := rl.ob _ _ e
        refine ⟨ws, eD, by rw [← rws.length, line_eq]; exact (Nat.blt_eq ▸ e7 : acc.length < 16777216), ?_⟩
        have he := he_upd (K := X.K) (o := .lst (ws ++ [u])) eD (fun _ z => nomatch z) (fun _ _ z => nomatch z)
        exact rl.chg e (fun b hb => upd_ne hb) he ⟨ws ++ [u], upd_same, Paired.snoc (RVs.mono rws he (fun _ _ => rfl) (Nat.le_refl _)) (RV.mono rv he (fun _ _ => rfl) (Nat.le_refl _))⟩
    | _ => cases h
theorem lc_turn {c e : EV} {f : Nat → Addr} {A A' : AH} {H : Hp} {s : Sl} {σ : L2.St} {r : Nat} (at_ : At T X.K f A s σ H) (hr : r < A.n) (h : lcTurn c e r s A = some A') (Nx : Hp → Prop) (hN : ∀ f' H', Stp T X.K f A H f' A' H' → Nx H') :
    TRd T X.K W0 c σ H fun b H3 => if b = true then ERd T X.K W0 e σ H3 fun y H4 => ∃ acc, H4 (f r) = some (.lst acc) ∧ acc.length < sizeLine ∧ Nx (upd H4 (f r) (.lst (acc ++ [y]))) else Nx H3 := by
  refine ⟨f, A, s, at_, ?_⟩
  unfold lcTurn at h
  cases e4 : c s A with
  | bad => rw [e4] at h; cases h
  | ex cc fs A4 => rw [e4] at h; cases h
  | ok w A4 =>
    rw [e4] at h
    cases w with
    | bl b =>
      intro f5 H5 st5
      cases b with
      | false =>
        cases h
        rw [if_neg Bool.false_ne_true]
        exact hN f5 H5 st5
      | true =>
        rw [if_pos rfl]
        refine ⟨f5, A4, s, at_.step st5, ?_⟩
        have h1 : (match e s A4 with | .ok y A3 => lcPut r y A3 | _ => none) = some A' := h
        cases e5 : e s A4 with
        | bad => rw [e5] at h1; cases h1
        | ex cc fs A6 => rw [e5] at h1; cases h1
        | ok y6 A6 =>
          rw [e5] at h1
          intro f6 H6 u6 st6 rv6
          obtain ⟨ws, eD, hl, st7⟩ := lcPut_ok st6.rel rv6 h1
          have st56 := st5.trans st6
          rw [st56.eq r hr] at eD st7
          exact ⟨ws, eD, hl, hN f6 _ (st56.trans st7)⟩
    | _ => cases h
theorem lc_rd {c e : EV} {own : List Nat} (hsub : ∀ i ∈ tgV gt, i ∈ own) {σ : L2.St} {H : Hp} {Q : VK} (h : ERd T X.K W (eLc t gt c e own) σ H Q) : tLc (IRd X T W t) (tgR X.K gt) (TRd T X.K W0 c) (ERd T X.K W0 e) own σ H (UQ X Q) := by
  obtain ⟨f, A, s, a, q⟩ := h
  refine ⟨f, A, s, a, ?_⟩
  unfold eLc at q
  cases ei : t s A with
  | bad => rw [ei] at q; exact q
  | ex c fs A1 => rw [ei] at q; exact q
  | ok it lk A1 =>
    rw [ei] at q
    intro f1 H1 J st io nf D hD
    have hs1 := HS.upd (o := .lst []) hD
    have stD : Stp T X.K f1 A1 H1 (ext f1 A1.n D) (A1.push (.lst [])) (upd H1 D (.lst [])) := st.rel.add hs1 hD ⟨[], upd_same, .nil⟩
    have hw := wipe_sr ((st.trans stD).sr a.sr) own
    have q1 : Post T X.K W (ext f1 A1.n D) (A1.push (.lst [])) (upd H1 D (.lst [])) σ (UQ X Q) (turnF it gt (lcTurn c e A1.n) (wipeA s own) A1.n 1000000 0 (A1.push (.lst []))) := post_unl (nf.step stD) (Post.step q (st.trans stD))
    refine ⟨fun i m H => ∃ f A, Rel T X.K f A H ∧ Stp T X.K (ext f1 A1.n D) (A1.push (.lst [])) (upd H1 D (.lst [])) f A H ∧ Post T X.K W f A H σ (UQ X Q) (turnF it gt (lcTurn c e A1.n) (wipeA s own) A1.n m i A), ⟨1000000, _, _, stD.rel, .rfl' stD.rel, q1⟩, ?_⟩
    intro i m H' ⟨f2, A2, rl2, st2, q2⟩
    have hn : A1.n < (A1.push (.lst [])).n := Nat.lt_succ_self _
    have fD : f2 A1.n = D := (st2.eq _ hn).trans ext_at
    cases m with
    | zero => exact q2.elim
    | succ m =>
      unfold turnF at q2
      have io2 := io i f2 A2 H' (stD.trans st2)
      cases e2 : it i A2 with
      | bad => rw [e2] at q2; exact q2.elim
      | stop =>
        rw [e2] at q2 io2
        exact .inl ⟨io2, q2 f2 H' _ (.rfl' rl2) ⟨Nat.lt_of_lt_of_le hn st2.le, by rw [fD]⟩⟩
      | item v A3 =>
        rw [e2] at q2 io2
        refine .inr ⟨io2.1, fun H => ∃ f A, Rel T X.K f A H ∧ Stp T X.K (ext f1 A1.n D) (A1.push (.lst [])) (upd H1 D (.lst [])) f A H ∧ Post T X.K W f A H σ (UQ X Q) (turnF it gt (lcTurn c e A1.n) (wipeA s own) A1.n m (i + 1) A), fun H3 h3 => ⟨m, Nat.lt_succ_self _, h3⟩, fun x H3 y => ?_⟩
        obtain ⟨f3, st3, rv⟩ := io2.2 x H3 y
        have st23 := st2.trans st3
        have q3 : Post T X.K W f3 A3 H3 σ (UQ X Q) (match tgS gt v (wipeA s own) with | some s1 => (match lcTurn c e A1.n s1 A3 with | some A4 => turnF it gt (lcTurn c e A1.n) (wipeA s own) A1.n m (i + 1) A4 | none => .bad) | none => .bad) := Post.step q2 st3
        cases e3 : tgS gt v (wipeA s own) with
        | none => rw [e3] at q3; exact q3.elim
        | some s4 =>
          rw [e3] at q3
          refine (tg_ok gt).1 v x (wipeA s own) s4 (wipe σ own) _ (st23.sr hw) rv e3 fun σ4 hs4 ag => ⟨((ag.sub hsub).wipe).trans wipe_idem, ?_⟩
          have q4 : Post T X.K W f3 A3 H3 σ (UQ X Q) (match lcTurn c e A1.n s4 A3 with | some A4 => turnF it gt (lcTurn c e A1.n) (wipeA s own) A1.n m (i + 1) A4 | none => .bad) := q3
          cases e4 : lcTurn c e A1.n s4 A3 with
          | none => rw [e4] at q4; exact q4.elim
          | some A4 =>
            rw [e4] at q4
            have fD3 : f3 A1.n = D := (st23.eq _ hn).trans ext_at
            have z := lc_turn ⟨st3.rel, hs4⟩ (Nat.lt_of_lt_of_le hn st23.le) e4 (fun H => ∃ f A, Rel T X.K f A H ∧ Stp T X.K (ext f1 A1.n D) (A1.push (.lst [])) (upd H1 D (.lst [])) f A H ∧ Post T X.K W f A H σ (UQ X Q) (turnF it gt (lcTurn c e A1.n) (wipeA s own) A1.n m (i + 1) A)) fun f5 H5 st5 => ⟨f5, A4, st5.rel, st23.trans st5, Post.step q4 st5⟩
            rw [fD3] at z
            exact z
end
end Z
end
section
/-! Z10: keys, dicts by value; subscripts. -/
namespace Z
open PySem PySem.Spec PyProof.Rows L2

/-! ## == of keys -/
def nEq : List Nat → List Nat → Bool
  | [], l => (match l with
    | [] => true
    | _ => false)
  | a :: r, l => (match l with
    | [] => false
    | b :: q => (match Nat.beq a b with
      | true => nEq r q
      | false => false))
theorem nEq_eq : ∀ a b : List Nat, nEq a b = decide (a = b)
  | [], [] => rfl
  | [], _ :: _ => by symm; exact decide_eq_false (fun z => nomatch z)
  | _ :: _, [] => by symm; exact decide_eq_false (fun z => nomatch z)
  | a :: r, b :: q => by
    show (match Nat.beq a b with | true => nEq r q | false => false) = _
    cases e : Nat.beq a b with
    | true =>
      have := Nat.eq_of_beq_eq_true e
      subst this
      show nEq r q = _
      rw [nEq_eq r q, Bool.eq_iff_iff, decide_eq_true_eq, decide_eq_true_eq]
      exact ⟨fun h => by rw [h], fun h => by cases h; rfl⟩
    | false =>
      symm
      refine decide_eq_false fun z => ?_
      cases z
      rw [Nat.beq_refl] at e
      cases e
def sEq (a b : Str) : Bool := nEq a.cps.toList b.cps.toList
theorem sEq_eq (a b : Str) : sEq a b = decide (a = b) := by
  unfold sEq
  rw [nEq_eq, Bool.eq_iff_iff, decide_eq_true_eq, decide_eq_true_eq]
  exact ⟨fun h => by cases a; cases b; congr 1; exact Array.toList_inj.mp h, fun h => by rw [h]⟩
/-- keys: ints, strs, tuples of them -/
def aEq : AV → AV → Bool
  | .int i, w => (match w with
    | .int j => iEq i j
    | _ => false)
  | .str x, w => (match w with
    | .str y => sEq x y
    | _ => false)
  | .tn, w => (match w with
    | .tn => true
    | _ => false)
  | .tc a b, w => (match w with
    | .tc c d => (match aEq a c with
      | true => aEq b d
      | false => false)
    | _ => false)
  | _, _ => false
theorem aEq_k (a b : Key) : aEq (kA a) (kA b) = decide (a = b) := by
  cases a with
  | inl i =>
    cases b with
    | inl j =>
      show iEq i j = _
      rw [iEq_eq, Bool.eq_iff_iff, decide_eq_true_eq, decide_eq_true_eq]
      exact ⟨fun h => by rw [h], fun h => by cases h; rfl⟩
    | inr y => symm; exact decide_eq_false (fun z => nomatch z)
  | inr x =>
    cases b with
    | inl j => symm; exact decide_eq_false (fun z => nomatch z)
    | inr y =>
      show sEq x y = _
      rw [sEq_eq, Bool.eq_iff_iff, decide_eq_true_eq, decide_eq_true_eq]
      exact ⟨fun h => by rw [h], fun h => by cases h; rfl⟩
theorem aEq_kT : ∀ a b : List Key, aEq (kT a) (kT b) = decide (a = b)
  | [], [] => rfl
  | [], _ :: _ => by symm; exact decide_eq_false (fun z => nomatch z)
  | _ :: _, [] => by symm; exact decide_eq_false (fun z => nomatch z)
  | a :: r, b :: q => by
    show (match aEq (kA a) (kA b) with | true => aEq (kT r) (kT q) | false => false) = _
    rw [aEq_k]
    by_cases h : a = b
    · subst h
      rw [decide_eq_true rfl]
      show aEq (kT r) (kT q) = _
      rw [aEq_kT r q, Bool.eq_iff_iff, decide_eq_true_eq, decide_eq_true_eq]
      exact ⟨fun h => by rw [h], fun h => by cases h; rfl⟩
    · rw [decide_eq_false h]
      symm
      exact decide_eq_false fun z => h (by cases z; rfl)
/-! ## a dict's entries -/
def dget : List (AV × AV) → AV → Option AV
  | [], _ => none
  | p :: r, k => match aEq p.1 k with
    | true => some p.2
    | false => dget r k
def dmap : List (AV × AV) → AV → AV → List (AV × AV)
  | [], _, _ => []
  | p :: r, k, v => match aEq p.1 k with
    | true => (p.1, v) :: dmap r k v
    | false => p :: dmap r k v
def dput (kvs : List (AV × AV)) (k v : AV) : List (AV × AV) := match dget kvs k with
  | some _ => dmap kvs k v
  | none => kvs ++ [(k, v)]
def ddrop : List (AV × AV) → AV → List (AV × AV)
  | [], _ => []
  | p :: r, k => match aEq p.1 k with
    | true => ddrop r k
    | false => p :: ddrop r k
section
variable {T : Tbl} {K : PySem.W.Frag} {f : Nat → Addr} {n : Nat} {H : Hp} {κ : Type} [DecidableEq κ] {c : κ → AV}
abbrev DRl (T : Tbl) (K : PySem.W.Frag) (f : Nat → Addr) (n : Nat) (H : Hp) (c : κ → AV) : List (AV × AV) → List (κ × V) → Prop := Paired fun p q => p.1 = c q.1 ∧ RV T K f n H p.2 q.2
theorem dget_ok (hc : ∀ a b, aEq (c a) (c b) = decide (a = b)) {kvs : List (AV × AV)} {ws : List (κ × V)} (r : DRl T K f n H c kvs ws) (k : κ) :
    (match dget kvs (c k) with | some v => ∃ u, valV ws k = some u ∧ RV T K f n H v u | none => valV ws k = none) := by
  induction r with
  | nil => rfl
  | @cons p q kvs ws h t ih =>
    unfold dget
    rw [h.1, hc]
    by_cases e : q.1 = k
    · rw [decide_eq_true e]
      exact ⟨q.2, valV_pos e, h.2⟩
    · rw [decide_eq_false e]
      show (match dget kvs (c k) with | some v => ∃ u, valV (q :: ws) k = some u ∧ RV T K f n H v u | none => valV (q :: ws) k = none)
      rw [valV_neg e]
      exact ih
theorem any_val {ws : List (κ × V)} {k : κ} : (ws.any fun kv => decide (kv.1 = k)) = (valV ws k).isSome := by
  induction ws with
  | nil => rfl
  | cons q ws ih =>
    rw [List.any_cons]
    by_cases e : q.1 = k
    · rw [valV_pos e, decide_eq_true e]; rfl
    · rw [valV_neg e, decide_eq_false e, ih]; rfl
theorem dmap_ok (hc : ∀ a b, aEq (c a) (c b) = decide (a = b)) {kvs : List (AV × AV)} {ws : List (κ × V)} (r : DRl T K f n H c kvs ws) (k : κ) {v : AV} {u : V} (rv : RV T K f n H v u) :
    DRl T K f n H c (dmap kvs (c k) v) (ws.map fun kv => if kv.1 = k then (kv.1, u) else kv) := by
  induction r with
  | nil => exact .nil
  | @cons p q kvs ws h t ih =>
    unfold dmap
    rw [h.1, hc, List.map_cons]
    by_cases e : q.1 = k
    · rw [decide_eq_true e, if_pos e]; exact .cons ⟨rfl, rv⟩ ih
    · rw [decide_eq_false e, if_neg e]; exact .cons h ih
theorem snoc_rl {kvs : List (AV × AV)} {ws : List (κ × V)} (r : DRl T K f n H c kvs ws) {p : AV × AV} {q : κ × V} (h : p.1 = c q.1 ∧ RV T K f n H p.2 q.2) : DRl T K f n H c (kvs ++ [p]) (ws ++ [q]) := by
  induction r with
  | nil => exact .cons h .nil
  | cons a _ ih => exact .cons a ih
theorem dput_ok (hc : ∀ a b, aEq (c a) (c b) = decide (a = b)) {kvs : List (AV × AV)} {ws : List (κ × V)} (r : DRl T K f n H c kvs ws) (k : κ) {v : AV} {u : V} (rv : RV T K f n H v u) :
    DRl T K f n H c (dput kvs (c k) v) (putK ws k u) := by
  have z := dget_ok hc r k
  unfold dput putK
  rw [any_val]
  cases e : dget kvs (c k) with
  | some w =>
    rw [e] at z
    obtain ⟨u', h, _⟩ := z
    rw [h, if_pos (show (some u').isSome = true from rfl)]
    exact dmap_ok hc r k rv
  | none =>
    rw [e] at z
    have z : valV ws k = none := z
    rw [z, if_neg (by simp)]
    exact snoc_rl r ⟨rfl, rv⟩
theorem ddrop_ok (hc : ∀ a b, aEq (c a) (c b) = decide (a = b)) {kvs : List (AV × AV)} {ws : List (κ × V)} (r : DRl T K f n H c kvs ws) (k : κ) : DRl T K f n H c (ddrop kvs (c k)) (dropK ws k) := by
  induction r with
  | nil => exact .nil
  | @cons p q kvs ws h t ih =>
    unfold ddrop dropK
    rw [h.1, hc, List.filter_cons]
    by_cases e : q.1 = k
    · rw [decide_eq_true e, if_neg (by simp [e])]; exact ih
    · rw [decide_eq_false e, if_pos (by simp [e])]; exact .cons h ih
end

/-! ## by values -/
def isK : AV → Bool
  | .int _ => true
  | .str _ => true
  | _ => false
def isKT : AV → Bool
  | .tn => true
  | .tc a b => (match isK a with
    | true => isKT b
    | false => false)
  | _ => false
theorem isK_ok {v : AV} (h : isK v = true) : ∃ k, v = kA k := by
  cases v <;> first | exact ⟨.inl _, rfl⟩ | exact ⟨.inr _, rfl⟩ | (cases h)
theorem isKT_ok : ∀ {v : AV}, isKT v = true → ∃ ks, v = kT ks
  | .tn, _ => ⟨[], rfl⟩
  | .tc a b, h => by
    have h' : (match isK a with | true => isKT b | false => false) = true := h
    cases e : isK a with
    | false => rw [e] at h'; cases h'
    | true =>
      rw [e] at h'
      obtain ⟨k, rfl⟩ := isK_ok e
      obtain ⟨ks, rfl⟩ := isKT_ok (v := b) h'
      exact ⟨k :: ks, rfl⟩
def keyFor (t : Bool) (k : AV) : Bool := match t with
  | false => isK k
  | true => isKT k
/-- what a dict holds at a key -/
def pGet (v k : AV) (A : AH) : Option (Option AV) := match v with
  | .ref i => (match A.get i with
    | some (.dct t _ kvs) => (match keyFor t k with
      | true => some (dget kvs k)
      | false => none)
    | _ => none)
  | _ => none
def pPut (v k w : AV) (A : AH) : Option AH := match v with
  | .ref i => (match A.get i with
    | some (.dct t lk kvs) => (match lk with
      | 0 => (match keyFor t k with
        | true => (match Nat.blt kvs.length 16777216 with
          | true => some (A.set i (.dct t 0 (dput kvs k w)))
          | false => none)
        | false => none)
      | _ + 1 => none)
    | _ => none)
  | _ => none
section
variable {X : Cx} {T : Tbl} {W : WX} {f : Nat → Addr} {A A1 : AH} {H : Hp}
theorem kA_of {n : Nat} {k : Key} {y : V} (r : RV T X.K f n H (kA k) y) : y = kV k := by cases k <;> exact r
theorem kT_of {n : Nat} : ∀ {ks : List Key} {xs : List V}, RVt T X.K f n H (kT ks) xs → xs = ks.map kV
  | [], xs, r => r
  | k :: ks, xs, r => by
    obtain ⟨x, q, e, r1, r2⟩ := r
    rw [e, kA_of r1, kT_of r2]
    rfl
theorem kT_ref {n : Nat} {ks : List Key} {y : V} (r : RV T X.K f n H (kT ks) y) : ∃ b, y = .ref b ∧ H b = some (.tup (ks.map kV)) := by
  cases ks with
  | nil => exact r
  | cons k ks =>
    obtain ⟨a, x, xs, e, q, r1, r2⟩ := r
    refine ⟨a, e, ?_⟩
    rw [q, kA_of r1, kT_of r2]
    rfl
theorem pGet_ok (rl : Rel T X.K f A H) {v k : AV} {x y : V} (rv : RV T X.K f A.n H v x) (rk : RV T X.K f A.n H k y) {o : Option AV} (e : pGet v k A = some o) :
    ∃ a ov, x = .ref a ∧ DGet H a y ov ∧ (∀ w, o = some w → ∃ u, ov = some u ∧ RV T X.K f A.n H w u) ∧ (o = none → ov = none) := by
  unfold pGet at e
  cases v with
  | ref i =>
    obtain ⟨hi, ex⟩ := rv
    simp only at e
    cases e1 : A.get i with
    | none => rw [e1] at e; cases e
    | some ob =>
      rw [e1] at e
      cases ob with
      | dct t lk kvs =>
        simp only at e
        obtain ⟨_, ob⟩ := rl.ob i _ e1
        cases e2 : keyFor t k with
        | false => rw [e2] at e; cases e
        | true =>
          rw [e2] at e
          cases e
          cases t with
          | false =>
            obtain ⟨ws, hw, pr⟩ := ob
            obtain ⟨kk, rfl⟩ := isK_ok (v := k) e2
            have z := dget_ok aEq_k pr kk
            refine ⟨f i, valV ws kk, ex, .inl ⟨ws, kk, hw.rd, kA_of rk, rfl⟩, ?_⟩
            exact ⟨fun w e3 => by rw [e3] at z; exact z, fun e3 => by rw [e3] at z; exact z⟩
          | true =>
            obtain ⟨ws, hw, pr⟩ := ob
            obtain ⟨ks, rfl⟩ := isKT_ok (v := k) e2
            have z := dget_ok aEq_kT pr ks
            obtain ⟨b, ey, hb⟩ := kT_ref rk
            refine ⟨f i, valV ws ks, ex, .inr ⟨ws, ks, b, hw.rd, ey, hb, rfl⟩, ?_⟩
            exact ⟨fun w e3 => by rw [e3] at z; exact z, fun e3 => by rw [e3] at z; exact z⟩
      | _ => cases e
  | _ => cases e
theorem pPut_ok (rl : Rel T X.K f A H) {v k w : AV} {x y u : V} (rv : RV T X.K f A.n H v x) (rk : RV T X.K f A.n H k y) (rw' : RV T X.K f A.n H w u) (e : pPut v k w A = some A1) :
    ∃ a H1, x = .ref a ∧ DPut H a y u H1 ∧ Stp T X.K f A H f A1 H1 := by
  unfold pPut at e
  cases v with
  | ref i =>
    obtain ⟨hi, ex⟩ := rv
    simp only at e
    cases e1 : A.get i with
    | none => rw [e1] at e; cases e
    | some ob =>
      rw [e1] at e
      cases ob with
      | dct t lk kvs =>
        obtain ⟨_, ob⟩ := rl.ob i _ e1
        cases lk with
        | succ l => cases e
        | zero =>
          simp only at e
          cases e2 : keyFor t k with
          | false => rw [e2] at e; cases e
          | true =>
            rw [e2] at e
            simp only at e
            cases e3 : Nat.blt kvs.length 16777216 with
            | false => rw [e3] at e; cases e
            | true =>
              rw [e3] at e
              cases e
              have hf : ∀ j, j < A.n → f j = f j := fun _ _ => rfl
              have hlen : kvs.length < sizeLine := by rw [line_eq]; exact (Nat.blt_eq ▸ e3 : kvs.length < 16777216)
              cases t with
              | false =>
                obtain ⟨ws, hw, pr⟩ := ob
                have hw : H (f i) = some (.dK ws) := hw
                obtain ⟨kk, rfl⟩ := isK_ok (v := k) e2
                have ey := kA_of rk
                have he : HE X.K H (upd H (f i) (.dK (putK ws kk u))) := he_upd hw (fun _ z => nomatch z) (fun _ _ z => nomatch z)
                have pr' : DRl T X.K f A.n (upd H (f i) (.dK (putK ws kk u))) kA kvs ws := Paired.mono (fun _ _ q => ⟨q.1, q.2.mono he hf (Nat.le_refl _)⟩) pr
                have l2 : ws.length < sizeLine := by rw [← pr.length]; exact hlen
                exact ⟨f i, _, ex, .inl ⟨ws, kk, hw, ey, l2, rfl⟩, rl.chg e1 (fun b hb => upd_ne hb) he ⟨_, upd_same, dput_ok aEq_k pr' kk (rw'.mono he hf (Nat.le_refl _))⟩⟩
              | true =>
                obtain ⟨ws, hw, pr⟩ := ob
                have hw : H (f i) = some (.dT ws) := hw
                obtain ⟨ks, rfl⟩ := isKT_ok (v := k) e2
                obtain ⟨b, ey, hb⟩ := kT_ref rk
                have he : HE X.K H (upd H (f i) (.dT (putK ws ks u))) := he_upd hw (fun _ z => nomatch z) (fun _ _ z => nomatch z)
                have pr' : DRl T X.K f A.n (upd H (f i) (.dT (putK ws ks u))) kT kvs ws := Paired.mono (fun _ _ q => ⟨q.1, q.2.mono he hf (Nat.le_refl _)⟩) pr
                have l2 : ws.length < sizeLine := by rw [← pr.length]; exact hlen
                exact ⟨f i, _, ex, .inr ⟨ws, ks, b, hw, ey, hb, l2, rfl⟩, rl.chg e1 (fun b hb => upd_ne hb) he ⟨_, upd_same, dput_ok aEq_kT pr' ks (rw'.mono he hf (Nat.le_refl _))⟩⟩
      | _ => cases e
  | _ => cases e
end
end Z
end
section
/-! Z11: dict comprehensions; subscripts; slices. -/
namespace Z
open PySem PySem.Spec PyProof.Rows L2

def dcPut (r : Nat) (y z : AV) (A : AH) : Option AH := match A.get r with
  | some (.dct false lk kvs) => (match lk with
    | 0 => (match isK y with
      | true => (match Nat.blt kvs.length 16777216 with
        | true => some (A.set r (.dct false 0 (dput kvs y z)))
        | false => none)
      | false => none)
    | _ + 1 => none)
  | _ => none
def dcTurn (c k e : EV) (r : Nat) (s : Sl) (A : AH) : Option AH := match c s A with
  | .ok (.bl true) A2 => (match k s A2 with
    | .ok y A3 => (match e s A3 with
      | .ok z A4 => dcPut r y z A4
      | _ => none)
    | _ => none)
  | .ok (.bl false) A2 => some A2
  | _ => none
def eDc (t : Sl → AH → RIt) (tg : Tgt) (c k e : EV) (own : List Nat) : EV := fun s A => (t s A).bd fun it lk A1 => unlE lk (turnF it tg (dcTurn c k e A1.n) (wipeA s own) A1.n 1000000 0 (A1.push (.dct false 0 [])))
section
variable {X : Cx} {T : Tbl} {W : WX} {t : Sl → AH → RIt} {gt : Tgt} {lk : Option Nat}
theorem dcPut_ok {f : Nat → Addr} {A A' : AH} {H : Hp} (rl : Rel T X.K f A H) {r : Nat} {y z : AV} {ux u : V} (ry : RV T X.K f A.n H y ux) (rv : RV T X.K f A.n H z u) (h : dcPut r y z A = some A') :
    ∃ kvs k, ux = kV k ∧ H (f r) = some (.dK kvs) ∧ kvs.length < sizeLine ∧ Stp T X.K f A H f A' (upd H (f r) (.dK (putK kvs k u))) := by
  unfold dcPut at h
  split at h
  · rename_i lk kvs e
    obtain ⟨_, ws, hw, pr⟩ := rl.ob r _ e
    split at h
    · split at h
      · rename_i e2
        split at h
        · rename_i e3
          cases h
          have hw : H (f r) = some (.dK ws) := hw
          obtain ⟨kk, rfl⟩ := isK_ok e2
          have hf : ∀ j, j < A.n → f j = f j := fun _ _ => rfl
          have hlen : kvs.length < sizeLine := by rw [line_eq]; exact (Nat.blt_eq ▸ e3 : kvs.length < 16777216)
          have he : HE X.K H (upd H (f r) (.dK (putK ws kk u))) := he_upd hw (fun _ z => nomatch z) (fun _ _ z => nomatch z)
          have pr' : DRl T X.K f A.n (upd H (f r) (.dK (putK ws kk u))) kA kvs ws := Paired.mono (fun _ _ q => ⟨q.1, q.2.mono he hf (Nat.le_refl _)⟩) pr
          exact ⟨ws, kk, kA_of ry, hw, by rw [← pr.length]; exact hlen, rl.chg e (fun b hb => upd_ne hb) he ⟨_, upd_same, dput_ok aEq_k pr' kk (rv.mono he hf (Nat.le_refl _))⟩⟩
        · cases h
      · cases h
    · cases h
  · cases h
theorem dc_turn {c k e : EV} {f : Nat → Addr} {A A' : AH} {H : Hp} {s : Sl} {σ : L2.St} {r : Nat} (at_ : At T X.K f A s σ H) (hr : r < A.n) (h : dcTurn c k e r s A = some A') (Nx : Hp → Prop) (hN : ∀ f' H', Stp T X.K f A H f' A' H' → Nx H') :
    TRd T X.K W0 c σ H fun b H3 => if b = true then ERd T X.K W0 k σ H3 fun y H4 => ERd T X.K W0 e σ H4 fun z H5 => ∃ kvs kk, y = kV kk ∧ H5 (f r) = some (.dK kvs) ∧ kvs.length < sizeLine ∧ Nx (upd H5 (f r) (.dK (putK kvs kk z))) else Nx H3 := by
  refine ⟨f, A, s, at_, ?_⟩
  unfold dcTurn at h
  cases e4 : c s A with
  | bad => rw [e4] at h; cases h
  | ex cc fs A4 => rw [e4] at h; cases h
  | ok w A4 =>
    rw [e4] at h
    cases w with
    | bl b =>
      intro f5 H5 st5
      cases b with
      | false =>
        cases h
        rw [if_neg Bool.false_ne_true]
        exact hN f5 H5 st5
      | true =>
        rw [if_pos rfl]
        refine ⟨f5, A4, s, at_.step st5, ?_⟩
        have h1 : (match k s A4 with | .ok y A3 => (match e s A3 with | .ok z A4 => dcPut r y z A4 | _ => none) | _ => none) = some A' := h
        cases e5 : k s A4 with
        | bad => rw [e5] at h1; cases h1
        | ex cc fs A6 => rw [e5] at h1; cases h1
        | ok y6 A6 =>
          rw [e5] at h1
          intro f6 H6 u6 st6 rv6
          refine ⟨f6, A6, s, (at_.step st5).step st6, ?_⟩
          have h2 : (match e s A6 with | .ok z A4 => dcPut r y6 z A4 | _ => none) = some A' := h1
          cases e6 : e s A6 with
          | bad => rw [e6] at h2; cases h2
          | ex cc fs A7 => rw [e6] at h2; cases h2
          | ok y7 A7 =>
            rw [e6] at h2
            intro f7 H7 u7 st7 rv7
            obtain ⟨ws, kk, ey, eD, hl, st8⟩ := dcPut_ok st7.rel (st7.rv rv6) rv7 h2
            have st57 := (st5.trans st6).trans st7
            rw [st57.eq r hr] at eD st8
            exact ⟨ws, kk, ey, eD, hl, hN f7 _ (st57.trans st8)⟩
    | _ => cases h
theorem dc_rd {c k e : EV} {own : List Nat} (hsub : ∀ i ∈ tgV gt, i ∈ own) {σ : L2.St} {H : Hp} {Q : VK} (h : ERd T X.K W (eDc t gt c k e own) σ H Q) : tDc (IRd X T W t) (tgR X.K gt) (TRd T X.K W0 c) (ERd T X.K W0 k) (ERd T X.K W0 e) own σ H (UQ X Q) := by
  obtain ⟨f, A, s, a, q⟩ := h
  refine ⟨f, A, s, a, ?_⟩
  unfold eDc at q
  cases ei : t s A with
  | bad => rw [ei] at q; exact q
  | ex c fs A1 => rw [ei] at q; exact q
  | ok it lk A1 =>
    rw [ei] at q
    intro f1 H1 J st io nf D hD
    have hs1 := HS.upd (o := .dK []) hD
    have stD : Stp T X.K f1 A1 H1 (ext f1 A1.n D) (A1.push (.dct false 0 [])) (upd H1 D (.dK [])) := st.rel.add hs1 hD ⟨[], upd_same, .nil⟩
    have hw := wipe_sr ((st.trans stD).sr a.sr) own
    have q1 : Post T X.K W (ext f1 A1.n D) (A1.push (.dct false 0 [])) (upd H1 D (.dK [])) σ (UQ X Q) (turnF it gt (dcTurn c k e A1.n) (wipeA s own) A1.n 1000000 0 (A1.push (.dct false 0 []))) := post_unl (nf.step stD) (Post.step q (st.trans stD))
    refine ⟨fun i m H => ∃ f A, Rel T X.K f A H ∧ Stp T X.K (ext f1 A1.n D) (A1.push (.dct false 0 [])) (upd H1 D (.dK [])) f A H ∧ Post T X.K W f A H σ (UQ X Q) (turnF it gt (dcTurn c k e A1.n) (wipeA s own) A1.n m i A), ⟨1000000, _, _, stD.rel, .rfl' stD.rel, q1⟩, ?_⟩
    intro i m H' ⟨f2, A2, rl2, st2, q2⟩
    have hn : A1.n < (A1.push (.dct false 0 [])).n := Nat.lt_succ_self _
    have fD : f2 A1.n = D := (st2.eq _ hn).trans ext_at
    cases m with
    | zero => exact q2.elim
    | succ m =>
      unfold turnF at q2
      have io2 := io i f2 A2 H' (stD.trans st2)
      cases e2 : it i A2 with
      | bad => rw [e2] at q2; exact q2.elim
      | stop =>
        rw [e2] at q2 io2
        exact .inl ⟨io2, q2 f2 H' _ (.rfl' rl2) ⟨Nat.lt_of_lt_of_le hn st2.le, by rw [fD]⟩⟩
      | item v A3 =>
        rw [e2] at q2 io2
        refine .inr ⟨io2.1, fun H => ∃ f A, Rel T X.K f A H ∧ Stp T X.K (ext f1 A1.n D) (A1.push (.dct false 0 [])) (upd H1 D (.dK [])) f A H ∧ Post T X.K W f A H σ (UQ X Q) (turnF it gt (dcTurn c k e A1.n) (wipeA s own) A1.n m (i + 1) A), fun H3 h3 => ⟨m, Nat.lt_succ_self _, h3⟩, fun x H3 y => ?_⟩
        obtain ⟨f3, st3, rv⟩ := io2.2 x H3 y
        have st23 := st2.trans st3
        have q3 : Post T X.K W f3 A3 H3 σ (UQ X Q) (match tgS gt v (wipeA s own) with | some s1 => (match dcTurn c k e A1.n s1 A3 with | some A4 => turnF it gt (dcTurn c k e A1.n) (wipeA s own) A1.n m (i + 1) A4 | none => .bad) | none => .bad) := Post.step q2 st3
        cases e3 : tgS gt v (wipeA s own) with
        | none => rw [e3] at q3; exact q3.elim
        | some s4 =>
          rw [e3] at q3
          refine (tg_ok gt).1 v x (wipeA s own) s4 (wipe σ own) _ (st23.sr hw) rv e3 fun σ4 hs4 ag => ⟨((ag.sub hsub).wipe).trans wipe_idem, ?_⟩
          have q4 : Post T X.K W f3 A3 H3 σ (UQ X Q) (match dcTurn c k e A1.n s4 A3 with | some A4 => turnF it gt (dcTurn c k e A1.n) (wipeA s own) A1.n m (i + 1) A4 | none => .bad) := q3
          cases e4 : dcTurn c k e A1.n s4 A3 with
          | none => rw [e4] at q4; exact q4.elim
          | some A4 =>
            rw [e4] at q4
            have fD3 : f3 A1.n = D := (st23.eq _ hn).trans ext_at
            have z := dc_turn ⟨st3.rel, hs4⟩ (Nat.lt_of_lt_of_le hn st23.le) e4 (fun H => ∃ f A, Rel T X.K f A H ∧ Stp T X.K (ext f1 A1.n D) (A1.push (.dct false 0 [])) (upd H1 D (.dK [])) f A H ∧ Post T X.K W f A H σ (UQ X Q) (turnF it gt (dcTurn c k e A1.n) (wipeA s own) A1.n m (i + 1) A)) fun f5 H5 st5 => ⟨f5, A4, st5.rel, st23.trans st5, Post.step q4 st5⟩
            rw [fD3] at z
            exact z
end
end Z
end
section
/-! Z12: methods that operations call; subscripts; slices. -/
namespace Z
open PySem PySem.Spec PyProof.Rows L2

section
variable {X : Cx} {T : Tbl} {W : WX} {D : Desc} {cl : Calls} {lv : Nat}
/-- a def called anywhere below the body -/
theorem z_codeA (F : Facts.X X T D cl lv) (tk : Takes X W) (k : Nat) {A' : Around} (hr : Room lv A') (hfr : A'.frames = X.A.frames) {pins : List (Addr × Obj)} {s : Shared} {σ : L2.St} {H : Hp} {xs : List V} {us : List Value} {Q : VK} {g : Nat → Addr} {A : AH} {as : List AV}
    (I : Inv X pins σ H s) (rx : Vals xs us) (rl : Rel T X.K g A H) (ra : RVs T X.K g A.n H as xs) (q : Post T X.K W g A H σ Q (callK D cl k as A)) : codeAny (model X.prog X.w) A' (.call (.ref (T.fa k)) ⟨us, []⟩) (wants (EP X pins σ Q) X.xe) s := by
  unfold callK at q
  cases e : D.defs[k]? with
  | none => rw [e] at q; exact q.elim
  | some d =>
    rw [e] at q
    have q1 : Post T X.K W g A H σ Q (match nlook as.length d.fills with | some ds => cl k (as ++ ds) A | none => .bad) := q
    cases e1 : nlook as.length d.fills with
    | none => rw [e1] at q1; exact q1.elim
    | some ds =>
      rw [e1] at q1
      obtain ⟨⟨fd, ok, fl, _⟩, kp, _⟩ := F.fn k d e
      obtain ⟨hl, dvs, dus, rd, rv, hb⟩ := fl _ ds (nlook_mem e1)
      have l1 : us.length = as.length := rx.length.symm.trans ra.length.symm
      have sp : spI T X.K cl k d.ps.length (xs ++ dvs) H Q (WE W σ) := ⟨g, A, as ++ ds, rl, app_rvs ra (rd g A.n H), by
        rw [List.length_append, ← ra.length, ← (rd g A.n H).length]; exact hl, post_call q1⟩
      have e0 : Env0 X.prog X.w X.K X.mg X.base A' X.stack s H := by
        have e := I.env0
        exact ⟨by rw [hfr]; exact e.frames, e.mod, e.bs, e.bsz, e.funs, e.frf, e.hok, e.bare⟩
      refine codeAny_mono (ok.run A' X.stack s H ⟨us, []⟩ (us ++ dus) (xs ++ dvs) Q (WE W σ) hr e0 (hb s us I.kIn l1) (rx.append rv) sp) fun r s' hq => ?_
      have z := fn_end tk I hq
      cases r with
      | error er => exact z
      | ok fl =>
        cases fl with
        | ret u => exact z
        | _ => exact False.elim z
theorem z_callA (F : Facts.X X T D cl lv) (tk : Takes X W) (k : Nat) {A' : Around} (hr : Room lv A') (hfr : A'.frames = X.A.frames) {pins : List (Addr × Obj)} {s : Shared} {σ : L2.St} {H : Hp} {xs : List V} {us : List Value} {Q : VK} {g : Nat → Addr} {A : AH} {as : List AV}
    (I : Inv X pins σ H s) (rx : Vals xs us) (rl : Rel T X.K g A H) (ra : RVs T X.K g A.n H as xs) (q : Post T X.K W g A H σ Q (callK D cl k as A)) : wpAny (model X.prog X.w) A' (call (.ref (T.fa k)) us) (EP X pins σ Q) X.xe s := wpAny_call (z_codeA F tk k hr hfr I rx rl ra q)
/-- a method of that name, for an instance -/
def methAt (D : Desc) (a : Nat) (v : AV) (A : AH) : Option Nat := match v with
  | .ref i => (match A.get i with
    | some (.ins c _) => (match attrOf D c a with
      | some (.meth k) => some k
      | _ => none)
    | _ => none)
  | _ => none
structure OwnAt (X : Cx) (T : Tbl) (s : Shared) (a : Nat) (k : Nat) (x : Addr) where
  c : Nat
  cd : Addr
  od : Option Obj
  at_ : PySem.W.InstAt s.heap x (PySem.W.instObj (T.ca c) cd) (T.ca c) od
  find : PySem.W.findIn X.K (.ref (T.ca c)) (T.at_ a) = some (some (.ref (T.fa k)))
  fn : PySem.W.isFn X.K (.ref (T.fa k)) = true
  fi : PySem.W.fnIn X.K (T.fa k) = true
  sq : PySem.W.noSeq X.K (T.ca c) = true
  sf : PySem.W.selfFirst X.K (T.ca c) = true
theorem own_at (F : Facts.X X T D cl lv) {pins : List (Addr × Obj)} {s : Shared} {σ : L2.St} {H : Hp} {g : Nat → Addr} {A : AH} {a k : Nat} {v : AV} {x : V} (I : Inv X pins σ H s) (rl : Rel T X.K g A H) (rv : RV T X.K g A.n H v x) (e : methAt D a v A = some k) (hd : ∃ d, D.defs[k]? = some d) :
    ∃ p, x = .ref p ∧ Nonempty (OwnAt X T s a k p) := by
  unfold methAt at e
  cases v with
  | ref i =>
    obtain ⟨hi, ex⟩ := rv
    simp only at e
    cases e1 : A.get i with
    | none => rw [e1] at e; cases e
    | some ob =>
      rw [e1] at e
      cases ob with
      | ins c fs =>
        simp only at e
        obtain ⟨dx, ws, eH, pr⟩ := rl.ins e1
        cases ea : attrOf D c a with
        | none => rw [ea] at e; cases e
        | some t =>
          rw [ea] at e
          cases t with
          | meth k' =>
            cases e
            obtain ⟨z, ez, hm⟩ := attrOf_mem ea
            have CF := F.cls c z ez
            have M := CF.meth a k hm
            obtain ⟨d, hd⟩ := hd
            obtain ⟨mA, J, _⟩ := ins_get I.hok eH
            obtain ⟨od, J, _⟩ := J.look
            exact ⟨g i, ex, ⟨⟨c, dx, some od, J, M.at_, M.fn, (F.fn k d hd).fi, CF.sq, CF.sf⟩⟩⟩
          | _ => cases e
      | _ => cases e
  | _ => cases e
theorem callK_def {k : Nat} {vs : List AV} {A : AH} {g : Nat → Addr} {H : Hp} {σ : L2.St} {Q : VK} (q : Post T X.K W g A H σ Q (callK D cl k vs A)) : ∃ d, D.defs[k]? = some d := by
  unfold callK at q
  cases e : D.defs[k]? with
  | none => rw [e] at q; exact q.elim
  | some d => exact ⟨d, rfl⟩
/-- the result of a method is a value -/
theorem back_val {pins : List (Addr × Obj)} {σ : L2.St} {Q : VK} {v : Value} {s' : Shared} (h : EP X pins σ Q v s') : PySem.W.CmpBack (EP X pins σ Q) v s' := by
  obtain ⟨u, H, I, r, q⟩ := h
  cases v <;> first | exact ⟨u, H, I, r, q⟩ | (cases u <;> cases r <;> (try (rename_i z; cases z)))
/-! ## subscripts -/
def IxZ (X : Cx) (T : Tbl) (W : WX) (p : AV → AV → AH → RE) : Prop :=
  ∀ (value slice : Expr) (pins : List (Addr × Obj)) (s : Shared) (σ : L2.St) (H : Hp) (x y : V) (v u : Value) (Q : VK) (g : Nat → Addr) (A : AH) (a b : AV), Inv X pins σ H s → RelV x v → RelV y u → Rel T X.K g A H → RV T X.K g A.n H a x → RV T X.K g A.n H b y → Post T X.K W g A H σ Q (p a b A) →
    subscripted slice false v u = operate [v, u] (getItem v u) → subscripted slice true v u = runValue (.builtin "lifetime.subscript" ⟨[v, u], []⟩) → wpAny (model X.prog X.w) X.A (subscriptTail value slice v u) (EP X pins σ Q) X.xe s
/-- an item by its place, from either end -/
def place (n : Nat) (i : Int) : Option Nat := match i with
  | .ofNat j => (match Nat.blt j n with
    | true => some j
    | false => none)
  | .negSucc j => (match Nat.blt j n with
    | true => some (n - (j + 1))
    | false => none)
def seqL (v : AV) (A : AH) : Option (Bool × List AV) := match v with
  | .ref i => (match A.get i with
    | some (.lst xs) => some (true, xs)
    | _ => none)
  | .fz t => (match t.items with
    | some xs => some (true, xs)
    | none => none)
  | .tn => some (false, [])
  | .tc h t => (match t.items with
    | some xs => some (false, h :: xs)
    | none => none)
  | .ft t => (match t.items with
    | some xs => some (false, xs)
    | none => none)
  | _ => none
theorem seqL_ok {g : Nat → Addr} {A : AH} {H : Hp} (rl : Rel T X.K g A H) {v : AV} {x : V} (rv : RV T X.K g A.n H v x) {b : Bool} {vs : List AV} (e : seqL v A = some (b, vs)) :
    ∃ a xs, x = .ref a ∧ RVs T X.K g A.n H vs xs ∧ (match b with | true => SqL X.K H a xs | false => SqT X.K H a xs) := by
  unfold seqL at e
  cases v with
  | ref i =>
    obtain ⟨hi, ex⟩ := rv
    simp only at e
    cases e1 : A.get i with
    | none => rw [e1] at e; cases e
    | some o =>
      rw [e1] at e
      cases o with
      | lst xs =>
        cases e
        obtain ⟨_, ws, hw, r⟩ := rl.ob i _ e1
        exact ⟨g i, ws, ex, r, .inl (.inl hw)⟩
      | _ => cases e
  | fz t =>
    obtain ⟨a, xs, ex, q, r⟩ := rv
    simp only at e
    cases e1 : t.items with
    | none => rw [e1] at e; cases e
    | some ys => rw [e1] at e; cases e; exact ⟨a, xs, ex, r.vals e1, q.sq⟩
  | ft t =>
    obtain ⟨a, xs, ex, q, r⟩ := rv
    simp only at e
    cases e1 : t.items with
    | none => rw [e1] at e; cases e
    | some ys =>
      rw [e1] at e
      cases e
      refine ⟨a, xs, ex, r.vals e1, ?_⟩
      rcases q with q | q
      · rcases q with q | ⟨_, q⟩ <;> cases q
      · exact .inr q
  | tn =>
    cases e
    obtain ⟨a, ex, q⟩ := rv
    exact ⟨a, [], ex, .nil, .of q⟩
  | tc h t =>
    obtain ⟨a, y, ys, ex, q, r1, r2⟩ := rv
    simp only at e
    cases e1 : t.items with
    | none => rw [e1] at e; cases e
    | some zs => rw [e1] at e; cases e; exact ⟨a, _, ex, .cons r1 (r2.vals e1), .of q⟩
  | _ => cases e
theorem place_ok {n : Nat} {i : Int} {j : Nat} (h : place n i = some j) : j < n ∧ ixN n i = some j := by
  unfold place at h
  unfold ixN
  cases i with
  | ofNat k =>
    simp only at h
    cases e : Nat.blt k n with
    | false => rw [e] at h; cases h
    | true =>
      rw [e] at h
      cases h
      rw [Nat.blt_eq] at e
      refine ⟨e, ?_⟩
      have h0 : (0 : Int) ≤ Int.ofNat j := Int.natCast_nonneg j
      have h1 : Int.ofNat j < (n : Int) := Int.ofNat_lt.mpr e
      rw [if_pos h0, if_pos h1]
      rfl
  | negSucc k =>
    simp only at h
    cases e : Nat.blt k n with
    | false => rw [e] at h; cases h
    | true =>
      rw [e] at h
      cases h
      rw [Nat.blt_eq] at e
      refine ⟨by omega, ?_⟩
      rw [if_neg (by omega), if_pos (by omega)]
      congr 1
      omega
theorem atI_of {α : Type} {xs : List α} {i : Int} {j : Nat} {v : α} (h : place xs.length i = some j) (e : xs[j]? = some v) : atI xs i = some v := by
  unfold atI
  rw [(place_ok h).2]
  exact e
def pIxSeq (xs : List AV) (y : AV) (A : AH) : RE := match y with
  | .int i => (match place xs.length i with
    | some j => (match nth xs j with
      | some v => .ok v A
      | none => .bad)
    | none => .bad)
  | _ => .bad
def pIxStr (z : Str) (y : AV) (A : AH) : RE := match y with
  | .int i => (match Nat.ble z.cps.toList.length 16777216 with
    | true => (match place z.cps.toList.length i with
      | some j => (match z.cps.toList[j]? with
        | some c => .ok (.str ⟨#[c]⟩) A
        | none => .bad)
      | none => .bad)
    | false => .bad)
  | _ => .bad
/-- a[b] -/
def pItem (D : Desc) (cl : Calls) (x y : AV) (A : AH) : RE := match seqL x A with
  | some (_, xs) => pIxSeq xs y A
  | none => (match x with
    | .str z => pIxStr z y A
    | _ => (match methAt D 0 x A with
      | some k => callK D cl k [x, y] A
      | none => (match pGet x y A with
        | some (some v) => .ok v A
        | _ => .bad)))
theorem z_item (F : Facts.X X T D cl lv) (tk : Takes X W) (hr : Room (lv + 1) X.A) : IxZ X T W (pItem D cl) := by
  intro value slice pins s σ H x y v u Q g A a b I rx ry rl ra rb q hs hs2
  unfold pItem at q
  cases e : seqL a A with
  | some p =>
    obtain ⟨bb, xs⟩ := p
    rw [e] at q
    obtain ⟨ad, ws, ex, rs, sq⟩ := seqL_ok rl ra e
    replace q : Post T X.K W g A H σ Q (pIxSeq xs b A) := q
    unfold pIxSeq at q
    cases b with
    | int i =>
      have ey : y = .int i := rb
      simp only at q
      cases e1 : place xs.length i with
      | none => rw [e1] at q; exact q.elim
      | some j =>
        rw [e1] at q
        simp only [nth_eq] at q
        cases e2 : xs[j]? with
        | none => rw [e2] at q; exact q.elim
        | some w =>
          rw [e2] at q
          obtain ⟨z, hz, rz⟩ := paired_get rs e2
          have hi : atI ws i = some z := atI_of (by rw [← rs.length]; exact e1) hz
          cases bb with
          | true => exact ix_list value slice pins s σ H x y v u Q I rx ry ⟨ad, ws, i, z, ex, ey, sq, hi, q.now rl rz⟩ hs
          | false => exact ix_tup value slice pins s σ H x y v u Q I rx ry ⟨ad, ws, i, z, ex, ey, sq, hi, q.now rl rz⟩ hs
    | _ => exact q.elim
  | none =>
    rw [e] at q
    have rest : Post T X.K W g A H σ Q (match methAt D 0 a A with | some k => callK D cl k [a, b] A | none => (match pGet a b A with | some (some v) => .ok v A | _ => .bad)) → wpAny (model X.prog X.w) X.A (subscriptTail value slice v u) (EP X pins σ Q) X.xe s := by
      intro q
      cases e3 : methAt D 0 a A with
      | some k =>
        rw [e3] at q
        obtain ⟨p, ex, ⟨O⟩⟩ := own_at F I rl ra e3 (callK_def q)
        subst ex
        obtain rfl : v = Value.ref p := rx
        obtain ⟨m, hF⟩ := I.fr
        have hfind := O.find
        rw [F.nm 0 _ rfl] at hfind
        exact PySem.W.sub_K hF I.ok.mod.kin O.at_ hfind O.fi O.fn (z_callA F tk k hr.in1 rfl I (.cons (show RelV (V.ref p) (Value.ref p) from rfl) (.cons ry .nil)) rl (.cons ra (.cons rb .nil)) q) hs2
      | none =>
        rw [e3] at q
        cases e4 : pGet a b A with
        | none => rw [e4] at q; exact q.elim
        | some o =>
          rw [e4] at q
          cases o with
          | none => exact q.elim
          | some w =>
            obtain ⟨ad, ov, ex, dg, h1, _⟩ := pGet_ok rl ra rb e4
            obtain ⟨z, ez, rz⟩ := h1 w rfl
            subst ex ez
            obtain rfl : v = Value.ref ad := rx
            exact tail_any (dict_typeIs I dg) PySem.F.slot_dict_getitem.lookup (d_getItem (by have := hr.un; omega) I dg ry fun w' s3 I3 rw' => ⟨z, H, I3, rw', q.now rl rz⟩) hs
    cases a with
    | str z =>
      have ex : x = .str z := ra
      replace q : Post T X.K W g A H σ Q (pIxStr z b A) := q
      unfold pIxStr at q
      cases b with
      | int i =>
        have ey : y = .int i := rb
        simp only at q
        cases e0 : Nat.ble z.cps.toList.length 16777216 with
        | false => rw [e0] at q; exact q.elim
        | true =>
          rw [e0] at q
          simp only at q
          cases e1 : place z.cps.toList.length i with
          | none => rw [e1] at q; exact q.elim
          | some j =>
            rw [e1] at q
            simp only at q
            cases e2 : z.cps.toList[j]? with
            | none => rw [e2] at q; exact q.elim
            | some c =>
              rw [e2] at q
              have hz : z.length ≤ sizeLine := by
                rw [line_eq]
                have := Nat.le_of_ble_eq_true e0
                simpa [Str.length] using this
              exact ix_str value slice pins s σ H x y v u Q I rx ry ⟨z, i, c, ex, ey, hz, atI_of e1 e2, q.now rl rfl⟩ hs
      | _ => exact q.elim
    | _ => exact rest q
/-- two values there -/
theorem idx {p : AV → AV → AH → RE} {ta tb : EV} {σ : L2.St} {H : Hp} {Q : VK} (h : ERd T X.K W (eBin p ta tb) σ H Q) :
    ERd T X.K W ta σ H fun x H1 => ERd T X.K W tb σ H1 fun y H2 => ∃ g A a b, Rel T X.K g A H2 ∧ RV T X.K g A.n H2 a x ∧ RV T X.K g A.n H2 b y ∧ Post T X.K W g A H2 σ Q (p a b A) := by
  obtain ⟨g, A, s, a, q⟩ := h
  refine (kr_of (vs := []) (us := []) (k := fun vs s A => (tb s A).bd fun y A2 => (fun vs _ A => p (g0 vs) (g1 vs) A) (vs ++ [y]) s A2) a .nil q).mono fun x H1 h1 => ?_
  refine (kr_go (k := fun vs _ A => p (g0 vs) (g1 vs) A) (us := [x]) h1).mono fun y H2 h2 => ?_
  obtain ⟨f2, A2, s2, vs, a2, r2, p2⟩ := h2
  cases r2 with
  | cons r1 r2 =>
    cases r2 with
    | cons r2 r3 =>
      cases r3
      exact ⟨f2, A2, _, _, a2.rel, r1, r2, p2⟩
/-- a[b] as an expression -/
theorem z_ix {p : AV → AV → AH → RE} {a b : Expr} {ta tb : EV} {pos : Pos} (hp : IxZ X T W p) (ha : PE X a (ERd T X.K W ta)) (hb : PE X b (ERd T X.K W tb)) (hs : PlainIx b) (hs2 : ∀ o i, subscripted b true o i = runValue (.builtin "lifetime.subscript" ⟨[o, i], []⟩)) :
    PE X (.Subscript a b pos) (ERd T X.K W (eBin p ta tb)) := by
  refine ⟨fun pins s σ H Q I h => Subscript_ (thn (ha.run pins s σ H _ I (idx h)) fun v s1 ⟨x, H1, I1, rx, q1⟩ => thn (hb.run pins s1 σ H1 _ I1 q1) fun u s2 ⟨y, H2, I2, ry, q2⟩ => ?_)⟩
  obtain ⟨g, A, va, vb, rl, r1, r2, q⟩ := q2
  exact hp a b pins s2 σ H2 x y v u Q g A va vb I2 rx ry rl r1 r2 q (hs _ _) (hs2 _ _)
end
end Z
end
section
/-! Z13: slices. -/
namespace Z
open PySem PySem.Spec PyProof.Rows L2

section
variable {X : Cx} {T : Tbl} {W : WX} {D : Desc} {cl : Calls} {lv : Nat}
theorem rvs_drop {g : Nat → Addr} {n : Nat} {H : Hp} : ∀ (k : Nat) {vs : List AV} {xs : List V}, RVs T X.K g n H vs xs → RVs T X.K g n H (vs.drop k) (xs.drop k)
  | 0, _, _, r => r
  | k + 1, _, _, .nil => .nil
  | k + 1, _, _, .cons _ r => rvs_drop k r
theorem rvs_take {g : Nat → Addr} {n : Nat} {H : Hp} : ∀ (k : Nat) {vs : List AV} {xs : List V}, RVs T X.K g n H vs xs → RVs T X.K g n H (vs.take k) (xs.take k)
  | 0, _, _, r => by rw [List.take_zero, List.take_zero]; exact .nil
  | k + 1, _, _, .nil => .nil
  | k + 1, _, _, .cons q r => .cons q (rvs_take k r)
def cutA (xs : List AV) (lo hi : Option Int) : List AV := (xs.drop (HT.sIx xs.length 0 lo)).take (HT.sIx xs.length xs.length hi - HT.sIx xs.length 0 lo)
theorem cut_rvs {g : Nat → Addr} {n : Nat} {H : Hp} {vs : List AV} {xs : List V} (lo hi : Option Int) (r : RVs T X.K g n H vs xs) : RVs T X.K g n H (cutA vs lo hi) (cutV xs lo hi) := by
  unfold cutA cutV
  rw [r.length]
  exact rvs_take _ (rvs_drop _ r)
def whole (n : Nat) (lo hi : Option Int) : Bool := Nat.beq (HT.sIx n 0 lo) 0 && Nat.beq (HT.sIx n n hi) n
theorem whole_iff (n : Nat) (lo hi : Option Int) : (HT.sIx n 0 lo = 0 ∧ HT.sIx n n hi = n) ↔ whole n lo hi = true := by
  unfold whole
  rw [Bool.and_eq_true, Nat.beq_eq, Nat.beq_eq]
def pSlice (lo hi : Option Int) (v : AV) (A : AH) : RE := match v with
  | .str z => (match Nat.ble z.cps.toList.length 16777216 with
    | true => .ok (.str (cutS z lo hi)) A
    | false => .bad)
  | _ => (match seqL v A with
    | some (b, xs) => (match b with
      | true => mkLst (cutA xs lo hi) A
      | false => (match whole xs.length lo hi with
        | true => .ok v A
        | false => mkTup (cutA xs lo hi) A))
    | none => .bad)
def ePart (o : Option EV) (s : Sl) (A : AH) (k : Option Int → AH → RE) : RE := match o with
  | none => k none A
  | some t => (t s A).bd fun v A1 => match v with
    | .int i => k (some i) A1
    | _ => .bad
def eSlice (te : EV) (l h : Option EV) : EV := fun s A => (te s A).bd fun v A1 => ePart l s A1 fun lo A2 => ePart h s A2 fun hi A3 => pSlice lo hi v A3
def POk (X : Cx) (T : Tbl) (W : WX) : Option Expr → Option EV → Prop
  | none, none => True
  | some e, some t => PE X e (ERd T X.K W t)
  | _, _ => False
def PRd (X : Cx) (T : Tbl) (W : WX) : Option EV → TO
  | none => tNoPart
  | some t => tPart (ERd T X.K W t)
theorem po_rd : ∀ {o : Option Expr} {t : Option EV}, POk X T W o t → PO X o (PRd X T W t)
  | none, none, _ => po_none
  | some e, some t, h => po_some h
  | none, some _, h => h.elim
  | some _, none, h => h.elim
theorem part_go {t : Option EV} {f : Nat → Addr} {A : AH} {s : Sl} {σ : L2.St} {H : Hp} {Q : VK} {k : Option Int → AH → RE} {R : Option Int → Hp → Prop} (a : At T X.K f A s σ H) (q : Post T X.K W f A H σ Q (ePart t s A k))
    (hR : ∀ f' A' H' i, Stp T X.K f A H f' A' H' → Post T X.K W f' A' H' σ Q (k i A') → R i H') : PRd X T W t σ H R := by
  cases t with
  | none => exact hR f A H none (.rfl' a.rel) q
  | some t =>
    refine ⟨f, A, s, a, ?_⟩
    unfold ePart at q
    simp only at q
    cases e : t s A with
    | bad => rw [e] at q; exact q
    | ex c fs A1 => rw [e] at q; exact q
    | ok v A1 =>
      rw [e] at q
      intro f1 H1 y st ry
      cases v with
      | int i => exact ⟨i, ry, hR f1 A1 H1 (some i) st (Post.step q st)⟩
      | _ => exact q.elim
theorem sl_go {g : Nat → Addr} {A : AH} {H : Hp} {σ : L2.St} {Q : VK} (rl : Rel T X.K g A H) {v : AV} {x : V} (rv : RV T X.K g A.n H v x) {lo hi : Option Int} (q : Post T X.K W g A H σ Q (pSlice lo hi v A)) :
    rSlL X.K x lo hi H Q ∨ (rSlA X.K x lo hi H Q ∨ rSlS x lo hi H Q) := by
  have seq : ∀ v, RV T X.K g A.n H v x → Post T X.K W g A H σ Q (match seqL v A with | some (b, xs) => (match b with | true => mkLst (cutA xs lo hi) A | false => (match whole xs.length lo hi with | true => .ok v A | false => mkTup (cutA xs lo hi) A)) | none => .bad) → rSlL X.K x lo hi H Q ∨ (rSlA X.K x lo hi H Q ∨ rSlS x lo hi H Q) := by
    intro v rv q
    cases e : seqL v A with
    | none => rw [e] at q; exact q.elim
    | some p =>
      obtain ⟨b, xs⟩ := p
      rw [e] at q
      obtain ⟨a, ws, ex, rs, sq⟩ := seqL_ok rl rv e
      cases b with
      | true => exact .inl ⟨a, ws, ex, sq, (Post.lst q rl (cut_rvs lo hi rs)).2⟩
      | false =>
        refine .inr (.inl ⟨a, ws, ex, sq, fun h => ?_, fun h => ?_⟩)
        · rw [← rs.length, whole_iff] at h
          have q : Post T X.K W g A H σ Q (match whole xs.length lo hi with | true => .ok v A | false => mkTup (cutA xs lo hi) A) := q
          rw [h] at q
          have z := Post.now q rl rv
          rw [ex] at z
          exact z
        · rw [← rs.length, whole_iff] at h
          have q : Post T X.K W g A H σ Q (match whole xs.length lo hi with | true => .ok v A | false => mkTup (cutA xs lo hi) A) := q
          rw [Bool.not_eq_true] at h
          rw [h] at q
          exact (Post.tup q rl (cut_rvs lo hi rs)).2
  cases v with
  | str z =>
    have q1 : Post T X.K W g A H σ Q (match Nat.ble z.cps.toList.length 16777216 with | true => .ok (.str (cutS z lo hi)) A | false => .bad) := q
    cases e0 : Nat.ble z.cps.toList.length 16777216 with
    | false => rw [e0] at q1; exact q1.elim
    | true =>
      rw [e0] at q1
      refine .inr (.inr ⟨z, rv, ?_, q1.now rl rfl⟩)
      rw [line_eq]
      have := Nat.le_of_ble_eq_true e0
      simpa [Str.length] using this
  | _ => exact seq _ rv q
theorem ze_slice {e : Expr} {lo hi : Option Expr} {te : EV} {tl th : Option EV} {p2 pos : Pos} (he : PE X e (ERd T X.K W te)) (hl : POk X T W lo tl) (hh : POk X T W hi th) :
    PE X (.Subscript e (.Slice lo hi none p2) pos) (ERd T X.K W (eSlice te tl th)) := by
  refine (pe_slice (sl_list.or (sl_tupA.or sl_str)) he (po_rd hl) (po_rd hh)).im fun σ H Q ⟨f, A, s, a, q⟩ => ?_
  refine ⟨f, A, s, a, ?_⟩
  unfold eSlice at q
  cases e1 : te s A with
  | bad => rw [e1] at q; exact q
  | ex c fs A1 => rw [e1] at q; exact q
  | ok v A1 =>
    rw [e1] at q
    intro f1 H1 x st rv
    have q1 : Post T X.K W f A H σ Q (ePart tl s A1 fun lo A2 => ePart th s A2 fun hi A3 => pSlice lo hi v A3) := q
    refine part_go (a.step st) (Post.step q1 st) fun f2 A2 H2 i st2 q2 => ?_
    refine part_go ((a.step st).step st2) q2 fun f3 A3 H3 j st3 q3 => ?_
    exact sl_go st3.rel ((st2.trans st3).rv rv) q3
/-- xs[::-1] of a list -/
def eRev (te : EV) : EV := fun s A => (te s A).bd fun v A1 => match seqL v A1 with
  | some (true, xs) => mkLst xs.reverse A1
  | _ => .bad
theorem rvs_rev {g : Nat → Addr} {n : Nat} {H : Hp} {vs : List AV} {xs : List V} (r : RVs T X.K g n H vs xs) : RVs T X.K g n H vs.reverse xs.reverse := by
  induction r with
  | nil => exact .nil
  | cons a _ ih => rw [List.reverse_cons, List.reverse_cons]; exact Paired.snoc ih a
theorem ze_rev {e : Expr} {te : EV} {k : Nat} {p1 p2 p3 pos : Pos} (he : PE X e (ERd T X.K W te)) : PE X (.Subscript e (.Slice none none (some (.UnaryOp .USub (.Constant (.int 1) k p1) p2)) p3) pos) (ERd T X.K W (eRev te)) := by
  refine (pe_revL he).im fun σ H Q ⟨f, A, s, a, q⟩ => ?_
  refine ⟨f, A, s, a, ?_⟩
  unfold eRev at q
  cases e1 : te s A with
  | bad => rw [e1] at q; exact q
  | ex c fs A1 => rw [e1] at q; exact q
  | ok v A1 =>
    rw [e1] at q
    intro f1 H1 x st rv
    have q1 : Post T X.K W f1 A1 H1 σ Q (match seqL v A1 with | some (true, xs) => mkLst xs.reverse A1 | _ => .bad) := Post.step q st
    cases e2 : seqL v A1 with
    | none => rw [e2] at q1; exact q1.elim
    | some p =>
      obtain ⟨b, xs⟩ := p
      rw [e2] at q1
      cases b with
      | false => exact q1.elim
      | true =>
        obtain ⟨ad, ws, ex, rs, sq⟩ := seqL_ok st.rel rv e2
        exact ⟨ad, ws, ex, sq, (Post.lst q1 st.rel (rvs_rev rs)).2⟩
end
end Z
end
section
/-! Z14: built-in functions and types, called. -/
namespace Z
open PySem PySem.Spec PyProof.Rows L2

section
variable {X : Cx} {T : Tbl} {W : WX} {D : Desc} {cl : Calls} {lv : Nat}
/-! ## isinstance -/
def tagOf (v : AV) (A : AH) : Option Nat := match v with
  | .non => some 0
  | .bl _ => some 1
  | .int _ => some 2
  | .str _ => some 3
  | .tn => some 5
  | .tc _ _ => some 5
  | .fz _ => some 4
  | .ft _ => some 5
  | .ref i => (match A.get i with
    | some (.lst _) => some 4
    | some (.dct _ _ _) => some 6
    | some (.ins c _) => some (c + 7)
    | none => none)
  | _ => none
theorem tag_kit (F : Facts.X X T D cl lv) {pins : List (Addr × Obj)} {s : Shared} {σ : L2.St} {H : Hp} {g : Nat → Addr} {A : AH} {v : AV} {x : V} {u : Value} (I : Inv X pins σ H s) (rl : Rel T X.K g A H) (rv : RV T X.K g A.n H v x) (r : RelV x u) {t : Nat} (e : tagOf v A = some t) (hc : ∀ c, t = c + 7 → ∃ z, D.clss[c]? = some z) :
    ∃ P : Heap → Prop, PySem.W.KitX X.K u (tagV T t) P ∧ P s.heap ∧ u ≠ .builtin "__main__.__loader__#opaque" := by
  cases v with
  | non => cases e; exact kit_of I (by rw [show x = V.non from rv] at r; exact r) (.base .non)
  | bl b => cases e; exact kit_of I (by rw [show x = V.bl b from rv] at r; exact r) (.base (.bl b))
  | int b => cases e; exact kit_of I (by rw [show x = V.int b from rv] at r; exact r) (.base (.int b))
  | str b => cases e; exact kit_of I (by rw [show x = V.str b from rv] at r; exact r) (.base (.str b))
  | tn => cases e; obtain ⟨a, ex, q⟩ := rv; subst ex; exact kit_of I r (.base (.tup q))
  | tc h t => cases e; obtain ⟨a, y, ys, ex, q, _⟩ := rv; subst ex; exact kit_of I r (.base (.tup q))
  | fz t =>
    cases e
    obtain ⟨a, xs, ex, q, _⟩ := rv
    subst ex
    rcases q with ⟨o, q⟩ | q
    · exact kit_of I r (.base (.frz q))
    · rcases q with q | ⟨o, its, n, hk, hc, _⟩
      · rcases q with q | ⟨_, q⟩ <;> cases q
      · exact kit_of I r (.kList hk hc)
  | ft t =>
    cases e
    obtain ⟨a, xs, ex, q, _⟩ := rv
    subst ex
    rcases q with q | ⟨o, its, n, hk, hc, _⟩
    · rcases q with q | ⟨_, q⟩ <;> cases q
    · exact kit_of I r (.kTuple hk hc)
  | ref i =>
    obtain ⟨hi, ex⟩ := rv
    subst ex
    unfold tagOf at e
    simp only at e
    cases e1 : A.get i with
    | none => rw [e1] at e; cases e
    | some o =>
      rw [e1] at e
      obtain ⟨_, ob⟩ := rl.ob i _ e1
      cases o with
      | lst xs => cases e; obtain ⟨ws, hw, _⟩ := ob; exact kit_of I r (.base (.lst hw))
      | ins c fs =>
        cases e
        obtain ⟨z, hz⟩ := hc c rfl
        obtain ⟨dx, ws, hw, _⟩ := ob
        exact kit_of I r (.base ((F.cls c z hz).ty H _ dx ws hw))
      | dct t lk kvs =>
        cases e
        cases t with
        | false =>
          obtain ⟨ws, hw, _⟩ := ob
          cases lk with
          | zero => exact kit_of I r (.base (.dK hw))
          | succ l => obtain ⟨o, hw⟩ := hw; exact kit_of I r (.fDict hw)
        | true =>
          obtain ⟨ws, hw, _⟩ := ob
          cases lk with
          | zero => exact kit_of I r (.base (.dT hw))
          | succ l =>
            obtain ⟨o, hw⟩ := hw
            cases (show u = Value.ref (g i) from r)
            obtain ⟨_, _, _, xs, _, o, es, ep, h1, h2, _⟩ := (show ObjOk X.prog X.w H s.heap (g i) (.frz o (.dT ws)) from I.hok _ _ hw)
            exact ⟨_, PySem.W.kitx_dict, ⟨o, h1, h2.1⟩, fun z => nomatch z⟩
  | _ => cases e
/-- isinstance with the class of number u: the table's answer -/
def pIsi (D : Desc) (u : Nat) (v : AV) (A : AH) : RE := match tagOf v A with
  | some t => (match nlook u D.isi with
    | some l => (match nlook t l with
      | some b => (match Nat.ble 7 t with
        | true => (match D.clss[t - 7]? with
          | some _ => .ok (.bl b) A
          | none => .bad)
        | false => .ok (.bl b) A)
      | none => .bad)
    | none => .bad)
  | none => .bad
theorem pIsi_ok (F : Facts.X X T D cl lv) {u : Nat} {pins : List (Addr × Obj)} {s : Shared} {σ : L2.St} {H : Hp} {g : Nat → Addr} {A : AH} {v : AV} {x : V} {w : Value} {Q : VK} (I : Inv X pins σ H s) (rl : Rel T X.K g A H) (rv : RV T X.K g A.n H v x) (r : RelV x w) (q : Post T X.K W g A H σ Q (pIsi D u v A)) :
    wpAny (model X.prog X.w) X.A (call (.builtin "isinstance") [w, tagV T u]) (EP X pins σ Q) X.xe s := by
  unfold pIsi at q
  cases e : tagOf v A with
  | none => rw [e] at q; exact q.elim
  | some t =>
    rw [e] at q
    simp only at q
    cases e1 : nlook u D.isi with
    | none => rw [e1] at q; exact q.elim
    | some l =>
      rw [e1] at q
      simp only at q
      cases e2 : nlook t l with
      | none => rw [e2] at q; exact q.elim
      | some b =>
        rw [e2] at q
        simp only at q
        have kt := F.isi u l (nlook_mem e1) t b (nlook_mem e2)
        have fin : (∀ c, t = c + 7 → ∃ z, D.clss[c]? = some z) → Q (.bl b) H → wpAny (model X.prog X.w) X.A (call (.builtin "isinstance") [w, tagV T u]) (EP X pins σ Q) X.xe s := fun hc hq => by
          obtain ⟨P, Z, p, hx⟩ := tag_kit F I rl rv r e hc
          exact PySem.W.kia_one Z I.kIn p kt hx fun tk => ⟨.bl b, H, I.tok tk, rfl, hq⟩
        cases e3 : Nat.ble 7 t with
        | false =>
          rw [e3] at q
          exact fin (fun c hc => by rw [hc] at e3; exact absurd (Nat.ble_eq ▸ (by omega : 7 ≤ c + 7) : Nat.ble 7 (c + 7) = true) (by rw [e3]; exact Bool.false_ne_true)) (Post.now q rl rfl)
        | true =>
          rw [e3] at q
          simp only at q
          cases e4 : D.clss[t - 7]? with
          | none => rw [e4] at q; exact q.elim
          | some z =>
            rw [e4] at q
            exact fin (fun c hc => ⟨z, by rw [hc] at e4; exact e4⟩) (Post.now q rl rfl)
variable {e c : Expr} {es : List Expr} {te : EV} {l : Sl → AH → RL} {p pos : Pos} {x : Str}
/-- isinstance(e, c) -/
theorem ze_isi (F : Facts.X X T D cl lv) {u : Nat} {cv : V} (hg : Gl X "isinstance") (hm : X.mg "isinstance" = none) (he : PE X e (ERd T X.K W te)) (hc : PE X c (tC cv)) (hcv : ∀ w, RelV cv w → w = tagV T u) (n1 : noStar e = true) (n2 : noStar c = true) :
    PE X (.Call (.Name "isinstance" p) [e, c] [] pos) (ERd T X.K W (eUn (pIsi D u) te)) := by
  have ha : PA X [e, c] (tCons (ERd T X.K W te) (tCons (tC cv) tNil)) := pa_cons he (pa_cons hc pa_nil (star_cons n2)) (star_cons n1)
  refine ⟨fun pins s σ H Q I ⟨f, A, sl, a, q⟩ => ?_⟩
  refine wpAny_Call_Name_kw (ld_blt I hg hm boot_isinstance ?_)
  refine PyProof.Rows.callWith_builtin1 (thn (ha.run pos pins s σ H (fun vs H1 => ∃ x, vs = [x, cv] ∧ ∃ f A v, Rel T X.K f A H1 ∧ RV T X.K f A.n H1 v x ∧ Post T X.K W f A H1 σ Q (pIsi D u v A)) I ?_) fun us s1 ⟨vs, H1, I1, r1, x, ex, f, A, v, rl, rv, q⟩ => ?_) (star_cons n1) (by rw [star_cons n2]; rfl)
  · refine (kr_of (vs := []) (us := []) (k := fun vs _ A => pIsi D u (g0 vs) A) a .nil q).mono fun x H1 h1 => ?_
    obtain ⟨f2, A2, s2, vs, a2, r2, p2⟩ := h1
    cases r2 with
    | cons r3 r4 => cases r4; exact ⟨x, rfl, f2, A2, _, a2.rel, r3, p2⟩
  · subst ex
    obtain ⟨u1, u2, rfl, r2, r3⟩ := vals2 r1
    have e3 := hcv u2 r3
    subst e3
    exact pIsi_ok F I1 rl rv r2 q
/-! ## calls of built-ins by value -/
theorem z_bfun {id : String} {q : List AV → AH → RE} (hc : CallZ X T W (.builtin id) q) (hg : Gl X x) (hm : X.mg x = none) (hv : bootBuiltins x = some (.builtin id)) (hn : x ≠ "__name__") (hdb : (x == ("__debug__" : Str)) = false) (n1 : noStar e = true) (n2 : es.all noStar = true) (ha : PA X (e :: es) (ARd T X.K W l)) :
    PE X (.Call (.Name x p) (e :: es) [] pos) (ERd T X.K W fun s A => (l s A).bd q) := by
  refine ⟨fun pins s σ H Q I h => ?_⟩
  refine wpAny_Call_Name_kw (ld_blt I hg hm hv ?_ hn hdb)
  exact PyProof.Rows.callWith_builtin1 (thn (ha.run pos pins s σ H _ I (lst2 (k := q) h)) fun us s1 ⟨vs, H1, I1, r, q⟩ => cz_go hc I1 r q) (star_cons n1) (stars_any n2)
theorem z_bty {Ty : String} {q : List AV → AH → RE} (hc : CallZ X T W (.type Ty) q) (hg : Gl X x) (hm : X.mg x = none) (hv : bootBuiltins x = some (.type Ty)) (hn : x ≠ "__name__") (hdb : (x == ("__debug__" : Str)) = false) (n1 : noStar e = true) (n2 : es.all noStar = true) (ha : PA X (e :: es) (ARd T X.K W l)) :
    PE X (.Call (.Name x p) (e :: es) [] pos) (ERd T X.K W fun s A => (l s A).bd q) := by
  refine ⟨fun pins s σ H Q I h => ?_⟩
  refine wpAny_Call_Name_kw (ld_blt I hg hm hv ?_ hn hdb)
  exact PyProof.Rows.callWith_type1 (thn (ha.run pos pins s σ H _ I (lst2 (k := q) h)) fun us s1 ⟨vs, H1, I1, r, q⟩ => cz_go hc I1 r q) (star_cons n1) (stars_any n2)
/-! ## the built-ins -/
def pInts : List AV → Option (List Int)
  | [] => some []
  | v :: r => (match v with
    | .int i => (match pInts r with
      | some l => some (i :: l)
      | none => none)
    | _ => none)
def pBls : List AV → Option (List Bool)
  | [] => some []
  | v :: r => (match v with
    | .bl i => (match pBls r with
      | some l => some (i :: l)
      | none => none)
    | _ => none)
theorem pInts_ok {g : Nat → Addr} {n : Nat} {H : Hp} : ∀ {vs : List AV} {xs : List V} {is : List Int}, pInts vs = some is → RVs T X.K g n H vs xs → xs = is.map V.int
  | [], xs, is, e, r => by cases r; cases e; rfl
  | v :: vs, xs, is, e, r => by
    cases r with
    | cons r1 r2 =>
      unfold pInts at e
      cases v with
      | int i =>
        simp only at e
        cases e1 : pInts vs with
        | none => rw [e1] at e; cases e
        | some l =>
          rw [e1] at e
          cases e
          rw [pInts_ok e1 r2, List.map_cons, show _ = V.int i from r1]
      | _ => cases e
theorem pBls_ok {g : Nat → Addr} {n : Nat} {H : Hp} : ∀ {vs : List AV} {xs : List V} {is : List Bool}, pBls vs = some is → RVs T X.K g n H vs xs → xs = is.map V.bl
  | [], xs, is, e, r => by cases r; cases e; rfl
  | v :: vs, xs, is, e, r => by
    cases r with
    | cons r1 r2 =>
      unfold pBls at e
      cases v with
      | bl i =>
        simp only at e
        cases e1 : pBls vs with
        | none => rw [e1] at e; cases e
        | some l =>
          rw [e1] at e
          cases e
          rw [pBls_ok e1 r2, List.map_cons, show _ = V.bl i from r1]
      | _ => cases e
/-- a list's items (not a tuple's) -/
def lstOf (v : AV) (A : AH) : Option (List AV) := match seqL v A with
  | some (b, xs) => (match b with
    | true => some xs
    | false => none)
  | none => none
theorem lstOf_ok {g : Nat → Addr} {A : AH} {H : Hp} (rl : Rel T X.K g A H) {v : AV} {x : V} (rv : RV T X.K g A.n H v x) {vs : List AV} (e : lstOf v A = some vs) : ∃ a xs, x = .ref a ∧ RVs T X.K g A.n H vs xs ∧ SqL X.K H a xs := by
  unfold lstOf at e
  cases e1 : seqL v A with
  | none => rw [e1] at e; cases e
  | some p =>
    obtain ⟨b, xs⟩ := p
    rw [e1] at e
    cases b with
    | false => cases e
    | true => cases e; exact seqL_ok rl rv e1
def iSum : List Int → Int
  | [] => 0
  | i :: r => i + iSum r
theorem iSum_eq : ∀ l : List Int, iSum l = l.sum
  | [] => rfl
  | i :: r => by show i + iSum r = _; rw [iSum_eq r, List.sum_cons]
def bAll : List Bool → Bool
  | [] => true
  | b :: r => match b with
    | true => bAll r
    | false => false
def bAny : List Bool → Bool
  | [] => false
  | b :: r => match b with
    | true => true
    | false => bAny r
theorem bAll_eq : ∀ l : List Bool, bAll l = l.all id
  | [] => rfl
  | b :: r => by cases b <;> first | rfl | exact bAll_eq r
theorem bAny_eq : ∀ l : List Bool, bAny l = l.any id
  | [] => rfl
  | b :: r => by cases b <;> first | rfl | exact bAny_eq r
def pSum (vs : List AV) (A : AH) : RE := match vs with
  | [v] => (match lstOf v A with
    | some xs => (match pInts xs with
      | some is => .ok (.int (iSum is)) A
      | none => .bad)
    | none => .bad)
  | _ => .bad
def pAllAny (f : List Bool → Bool) (vs : List AV) (A : AH) : RE := match vs with
  | [v] => (match lstOf v A with
    | some xs => (match pBls xs with
      | some is => .ok (.bl (f is)) A
      | none => .bad)
    | none => .bad)
  | _ => .bad
theorem z_sum (hc : X.calm = true) : CallZ X T W (.builtin "sum") pSum := by
  refine .of (cr_sum hc) fun g A H vs xs σ Q rl rs q => ?_
  unfold pSum at q
  split at q
  · rename_i v
    obtain ⟨x, ex, r⟩ := rvs1 rs
    split at q
    · rename_i ys e1
      obtain ⟨a, zs, ea, rz, sq⟩ := lstOf_ok rl r e1
      split at q
      · rename_i is e2
        exact ⟨a, is, by rw [ex, ea], by rw [← pInts_ok e2 rz]; exact sq, by rw [← iSum_eq]; exact Post.now q rl rfl⟩
      · exact q.elim
    · exact q.elim
  · exact q.elim
theorem z_all (hc : X.calm = true) : CallZ X T W (.builtin "all") (pAllAny bAll) := by
  refine .of (cr_all hc) fun g A H vs xs σ Q rl rs q => ?_
  unfold pAllAny at q
  split at q
  · rename_i v
    obtain ⟨x, ex, r⟩ := rvs1 rs
    split at q
    · rename_i ys e1
      obtain ⟨a, zs, ea, rz, sq⟩ := lstOf_ok rl r e1
      split at q
      · rename_i is e2
        exact ⟨a, is, by rw [ex, ea], by rw [← pBls_ok e2 rz]; exact sq, by rw [← bAll_eq]; exact Post.now q rl rfl⟩
      · exact q.elim
    · exact q.elim
  · exact q.elim
theorem z_any (hc : X.calm = true) : CallZ X T W (.builtin "any") (pAllAny bAny) := by
  refine .of (cr_any hc) fun g A H vs xs σ Q rl rs q => ?_
  unfold pAllAny at q
  split at q
  · rename_i v
    obtain ⟨x, ex, r⟩ := rvs1 rs
    split at q
    · rename_i ys e1
      obtain ⟨a, zs, ea, rz, sq⟩ := lstOf_ok rl r e1
      split at q
      · rename_i is e2
        exact ⟨a, is, by rw [ex, ea], by rw [← pBls_ok e2 rz]; exact sq, by rw [← bAny_eq]; exact Post.now q rl rfl⟩
      · exact q.elim
    · exact q.elim
  · exact q.elim
def p1i (f : Int → Int) (vs : List AV) (A : AH) : RE := match vs with
  | [.int i] => .ok (.int (f i)) A
  | _ => .bad
def iNeg (i : Int) : Bool := match i with
  | .ofNat _ => false
  | .negSucc _ => true
theorem iNeg_eq (i : Int) : iNeg i = decide (i < 0) := by
  cases i with
  | ofNat n => symm; exact decide_eq_false (by simp)
  | negSucc n => symm; exact decide_eq_true (by omega)
def iAbs (i : Int) : Int := match i with
  | .ofNat n => .ofNat n
  | .negSucc n => .ofNat (n + 1)
theorem iAbs_eq (i : Int) : iAbs i = if i < 0 then -i else i := by
  cases i with
  | ofNat n => rw [if_neg (by simp)]; rfl
  | negSucc n => rw [if_pos (by omega)]; rfl
theorem z_abs : CallZ X T W (.builtin "abs") (p1i iAbs) := by
  refine .of call_abs fun g A H vs xs σ Q rl rs q => ?_
  unfold p1i at q
  split at q
  · rename_i i
    obtain ⟨x, ex, r⟩ := rvs1 rs
    exact ⟨i, by rw [ex, show x = V.int i from r], by rw [← iAbs_eq]; exact Post.now q rl rfl⟩
  · exact q.elim
/-! max, min -/
def iMax (i j : Int) : Int := match iLt i j with
  | true => j
  | false => i
def iMin (i j : Int) : Int := match iLt j i with
  | true => j
  | false => i
theorem iMax_eq (i j : Int) : iMax i j = if j > i then j else i := by
  unfold iMax
  rw [iLt_eq]
  by_cases h : i < j
  · rw [decide_eq_true h, if_pos h]
  · rw [decide_eq_false h, if_neg h]
theorem iMin_eq (i j : Int) : iMin i j = if j < i then j else i := by
  unfold iMin
  rw [iLt_eq]
  by_cases h : j < i
  · rw [decide_eq_true h, if_pos h]
  · rw [decide_eq_false h, if_neg h]
def iMaxL : Int → List Int → Int
  | m, [] => m
  | m, i :: r => iMaxL (iMax m i) r
def iMinL : Int → List Int → Int
  | m, [] => m
  | m, i :: r => iMinL (iMin m i) r
theorem iMaxL_ok : ∀ (l : List Int) (m : Int), (iMaxL m l = m ∨ iMaxL m l ∈ l) ∧ m ≤ iMaxL m l ∧ ∀ y ∈ l, y ≤ iMaxL m l
  | [], m => ⟨.inl rfl, Int.le_refl m, fun y h => nomatch h⟩
  | i :: r, m => by
    obtain ⟨h1, h2, h3⟩ := iMaxL_ok r (iMax m i)
    have e := iMax_eq m i
    have hm : m ≤ iMax m i ∧ i ≤ iMax m i ∧ (iMax m i = m ∨ iMax m i = i) := by rw [e]; split <;> omega
    refine ⟨?_, Int.le_trans hm.1 h2, fun y hy => ?_⟩
    · show iMaxL (iMax m i) r = m ∨ iMaxL (iMax m i) r ∈ i :: r
      rcases h1 with h1 | h1
      · rw [h1]
        rcases hm.2.2 with q | q
        · exact .inl q
        · exact .inr (by rw [q]; exact List.mem_cons_self)
      · exact .inr (List.mem_cons_of_mem _ h1)
    · rcases List.mem_cons.mp hy with q | q
      · rw [q]; exact Int.le_trans hm.2.1 h2
      · exact h3 y q
theorem iMinL_ok : ∀ (l : List Int) (m : Int), (iMinL m l = m ∨ iMinL m l ∈ l) ∧ iMinL m l ≤ m ∧ ∀ y ∈ l, iMinL m l ≤ y
  | [], m => ⟨.inl rfl, Int.le_refl m, fun y h => nomatch h⟩
  | i :: r, m => by
    obtain ⟨h1, h2, h3⟩ := iMinL_ok r (iMin m i)
    have e := iMin_eq m i
    have hm : iMin m i ≤ m ∧ iMin m i ≤ i ∧ (iMin m i = m ∨ iMin m i = i) := by rw [e]; split <;> omega
    refine ⟨?_, Int.le_trans h2 hm.1, fun y hy => ?_⟩
    · show iMinL (iMin m i) r = m ∨ iMinL (iMin m i) r ∈ i :: r
      rcases h1 with h1 | h1
      · rw [h1]
        rcases hm.2.2 with q | q
        · exact .inl q
        · exact .inr (by rw [q]; exact List.mem_cons_self)
      · exact .inr (List.mem_cons_of_mem _ h1)
    · rcases List.mem_cons.mp hy with q | q
      · rw [q]; exact Int.le_trans h2 hm.2.1
      · exact h3 y q
def pMM (f : Int → Int → Int) (fl : Int → List Int → Int) (vs : List AV) (A : AH) : RE := match vs with
  | [.int i, .int j] => .ok (.int (f i j)) A
  | [v] => (match lstOf v A with
    | some xs => (match pInts xs with
      | some (i :: r) => .ok (.int (fl i r)) A
      | _ => .bad)
    | none => .bad)
  | _ => .bad
theorem z_max (hc : X.calm = true) : CallZ X T W (.builtin "max") (pMM iMax iMaxL) := by
  refine .of ((call_max2 hc).or (cr_max hc)) fun g A H vs xs σ Q rl rs q => ?_
  unfold pMM at q
  split at q
  · rename_i i j
    obtain ⟨x, y, ex, r, r2⟩ := rvs2 rs
    exact .inl ⟨i, j, by rw [ex, show x = V.int i from r, show y = V.int j from r2], by rw [← iMax_eq]; exact Post.now q rl rfl⟩
  · rename_i v
    obtain ⟨x, ex, r⟩ := rvs1 rs
    split at q
    · rename_i ys e1
      obtain ⟨a, zs, ea, rz, sq⟩ := lstOf_ok rl r e1
      split at q
      · rename_i i rr e2
        refine .inr ⟨a, i :: rr, by rw [ex, ea], by rw [← pInts_ok e2 rz]; exact sq, Nat.succ_pos _, fun m hm hle => ?_⟩
        have z : m = iMaxL i rr := by
          obtain ⟨h1, h2, h3⟩ := iMaxL_ok rr i
          have u1 : iMaxL i rr ≤ m := by
            rcases h1 with h1 | h1
            · rw [h1]; exact hle i List.mem_cons_self
            · exact hle _ (List.mem_cons_of_mem _ h1)
          have u2 : m ≤ iMaxL i rr := by
            rcases List.mem_cons.mp hm with q | q
            · rw [q]; exact h2
            · exact h3 m q
          omega
        rw [z]
        exact Post.now q rl rfl
      · exact q.elim
    · exact q.elim
  · exact q.elim
theorem z_min (hc : X.calm = true) : CallZ X T W (.builtin "min") (pMM iMin iMinL) := by
  refine .of ((call_min2 hc).or (cr_min hc)) fun g A H vs xs σ Q rl rs q => ?_
  unfold pMM at q
  split at q
  · rename_i i j
    obtain ⟨x, y, ex, r, r2⟩ := rvs2 rs
    exact .inl ⟨i, j, by rw [ex, show x = V.int i from r, show y = V.int j from r2], by rw [← iMin_eq]; exact Post.now q rl rfl⟩
  · rename_i v
    obtain ⟨x, ex, r⟩ := rvs1 rs
    split at q
    · rename_i ys e1
      obtain ⟨a, zs, ea, rz, sq⟩ := lstOf_ok rl r e1
      split at q
      · rename_i i rr e2
        refine .inr ⟨a, i :: rr, by rw [ex, ea], by rw [← pInts_ok e2 rz]; exact sq, Nat.succ_pos _, fun m hm hle => ?_⟩
        have z : m = iMinL i rr := by
          obtain ⟨h1, h2, h3⟩ := iMinL_ok rr i
          have u1 : m ≤ iMinL i rr := by
            rcases h1 with h1 | h1
            · rw [h1]; exact hle i List.mem_cons_self
            · exact hle _ (List.mem_cons_of_mem _ h1)
          have u2 : iMinL i rr ≤ m := by
            rcases List.mem_cons.mp hm with q | q
            · rw [q]; exact h2
            · exact h3 m q
          omega
        rw [z]
        exact Post.now q rl rfl
      · exact q.elim
    · exact q.elim
  · exact q.elim
/-! len -/
def lenN (xs : List AV) : Nat := match xs with
  | [] => 0
  | _ :: r => lenN r + 1
def pLen (D : Desc) (cl : Calls) (vs : List AV) (A : AH) : RE := match vs with
  | [v] => (match seqL v A with
    | some (_, xs) => .ok (.int xs.length) A
    | none => (match v with
      | .str z => (match Nat.ble z.cps.toList.length 16777216 with
        | true => .ok (.int z.cps.toList.length) A
        | false => .bad)
      | .ref i => (match A.get i with
        | some (.dct false _ kvs) => .ok (.int kvs.length) A
        | some (.dct true _ kvs) => .bad
        | _ => (match methAt D 2 v A with
          | some k => (match callK D cl k [v] A with
            | .ok (.int n) A1 => (match small62 n && !iNeg n with
              | true => .ok (.int n) A1
              | false => .bad)
            | .ok _ _ => .bad
            | r => r)
          | none => .bad))
      | _ => .bad))
  | _ => .bad
theorem z_len (F : Facts.X X T D cl lv) (tk : Takes X W) (hr : Room (lv + 1) X.A) : CallZ X T W (.builtin "len") (pLen D cl) := by
  intro pins s σ H xs us Q g A vs I rx rl rs q
  unfold pLen at q
  split at q
  · rename_i v
    obtain ⟨x, ex, r⟩ := rvs1 rs
    subst ex
    split at q
    · rename_i b ys e1
      obtain ⟨a, ws, ea, rz, sq⟩ := seqL_ok rl r e1
      have q := Post.now q rl (u := .int (ys.length : Int)) rfl
      refine call_len pins s σ H _ us Q I rx ⟨x, ws.length, rfl, ?_, by rw [← rz.length]; exact q⟩
      subst ea
      cases b with
      | true => exact .inl ⟨ws, sq, rfl⟩
      | false => exact .inr ⟨ws, sq, rfl⟩
    · split at q
      · rename_i z _
        split at q
        · rename_i e0
          have q := Post.now q rl (u := .int (z.cps.toList.length : Int)) rfl
          have ez : z.length = z.cps.toList.length := by simp [Str.length]
          refine call_len pins s σ H _ us Q I rx ⟨x, z.length, rfl, ?_, by rw [ez]; exact q⟩
          rw [show x = V.str z from r]
          exact ⟨by rw [line_eq, ez]; exact Nat.le_of_ble_eq_true e0, rfl⟩
        · exact q.elim
      · rename_i i _
        obtain ⟨hi, ex⟩ := r
        subst ex
        obtain ⟨u, rfl, ru⟩ := vals1 rx
        obtain rfl : u = Value.ref (g i) := ru
        split at q
        · rename_i lk kvs e1
          obtain ⟨_, ws, hw, pr⟩ := rl.ob i _ e1
          exact d_len I hw.rd fun t s' I' => ⟨.int ws.length, H, I', ⟨t, rfl⟩, by rw [← pr.length]; exact Post.now q rl rfl⟩
        · exact q.elim
        · split at q
          · rename_i k e3
            have r : RV T X.K g A.n H (.ref i) (.ref (g i)) := ⟨hi, rfl⟩
            have hd : ∃ d, D.defs[k]? = some d := by
              cases e4 : D.defs[k]? with
              | some d => exact ⟨d, rfl⟩
              | none => unfold callK at q; rw [e4] at q; exact q.elim
            obtain ⟨p, ep, ⟨O⟩⟩ := own_at F I rl r e3 hd
            cases ep
            have hfind := O.find
            rw [F.nm 2 _ rfl] at hfind
            obtain ⟨m, hF⟩ := I.fr
            refine PySem.W.len_K hF I.ok.mod.kin O.at_ hfind O.fn ?_
            have q2 : Post T X.K W g A H σ (fun u H1 => ∃ n, u = .int n ∧ (0 ≤ n ∧ n < 2 ^ 63) ∧ Q (.int n) H1) (callK D cl k [.ref i] A) := by
              cases e5 : callK D cl k [.ref i] A with
              | bad => rw [e5] at q; exact q
              | ex c fs A1 => rw [e5] at q; exact q
              | ok v1 A1 =>
                rw [e5] at q
                cases v1 with
                | int n =>
                  intro f1 H1 u st ru
                  have q1 : Post T X.K W g A H σ Q (match small62 n && !iNeg n with | true => .ok (.int n) A1 | false => .bad) := q
                  cases e6 : small62 n && !iNeg n with
                  | false => rw [e6] at q1; exact q1.elim
                  | true =>
                    rw [e6] at q1
                    obtain ⟨k1, k2⟩ := Bool.and_eq_true_iff.mp e6
                    have k3 := small62_ok k1
                    rw [iNeg_eq] at k2
                    have k4 : ¬ n < 0 := by simpa using k2
                    exact ⟨n, ru, ⟨by omega, by omega⟩, q1 f1 H1 _ st rfl⟩
                | _ => exact q.elim
            refine wpAny_mono (z_callA F tk k hr.in1 rfl I (.cons (show RelV (V.ref (g i)) (Value.ref (g i)) from rfl) .nil) rl (.cons r .nil) q2) (fun w s1 ⟨z, H1, I1, rz, n, en, hn, qn⟩ => ?_) fun _ _ x => x
            subst en
            obtain ⟨t, rfl⟩ := rz
            exact ⟨hn, .int n, H1, I1.tok _, ⟨_, rfl⟩, qn⟩
          · exact q.elim
      · exact q.elim
  · exact q.elim
/-! list, tuple, dict -/
def keyL : List (AV × AV) → List AV
  | [] => []
  | p :: r => p.1 :: keyL r
def dmerge : List (AV × AV) → List (AV × AV) → List (AV × AV)
  | acc, [] => acc
  | acc, p :: r => dmerge (dput acc p.1 p.2) r
def pairL : List AV → Option (List (AV × AV))
  | [] => some []
  | v :: r => (match v with
    | .tc k t => (match t with
      | .tc w e => (match e with
        | .tn => (match isK k with
          | true => (match pairL r with
            | some l => some ((k, w) :: l)
            | none => none)
          | false => none)
        | _ => none)
      | _ => none)
    | _ => none)
def mkDct (kvs : List (AV × AV)) (A : AH) : RE := .ok (.ref A.n) (A.push (.dct false 0 kvs))
def pListC (vs : List AV) (A : AH) : RE := match vs with
  | [v] => (match seqL v A with
    | some (_, xs) => mkLst xs A
    | none => (match v with
      | .ref i => (match A.get i with
        | some (.dct t _ kvs) => mkLst (keyL kvs) A
        | _ => .bad)
      | _ => .bad))
  | _ => .bad
def pTupleC (vs : List AV) (A : AH) : RE := match vs with
  | [v] => (match seqL v A with
    | some (b, xs) => (match b with
      | true => mkTup xs A
      | false => .ok v A)
    | none => .bad)
  | _ => .bad
def pDictC (vs : List AV) (A : AH) : RE := match vs with
  | [v] => (match lstOf v A with
    | some xs => (match pairL xs with
      | some kvs => mkDct (dmerge [] kvs) A
      | none => .bad)
    | none => (match v with
      | .ref i => (match A.get i with
        | some (.dct t _ kvs) => (match t with
          | false => mkDct kvs A
          | true => .bad)
        | _ => .bad)
      | _ => .bad))
  | _ => .bad
theorem keyK_rvs {g : Nat → Addr} {n n' : Nat} {H H' : Hp} {kvs : List (AV × AV)} {ws : List (Key × V)} (r : DRl T X.K g n H kA kvs ws) : RVs T X.K g n' H' (keyL kvs) (ws.map fun kv => kV kv.1) := by
  induction r with
  | nil => exact .nil
  | cons a _ ih => exact .cons (by rw [a.1]; exact kA_rv _) ih
theorem keyT_rvs {g : Nat → Addr} {n n' : Nat} {H : Hp} {kvs : List (AV × AV)} {ws : List (List Key × V)} (r : DRl T X.K g n H kT kvs ws) : ∀ {bs : List Addr}, IsKeys H ws bs → RVs T X.K g n' H (keyL kvs) (bs.map V.ref) := by
  induction r with
  | nil => intro bs h; cases h; exact .nil
  | cons a _ ih =>
    intro bs h
    cases h with
    | cons h1 h2 => exact .cons (by rw [a.1]; exact kT_rv' h1) (ih h2)
theorem z_listC (hc : X.calm = true) : CallZ X T W (.type "list") pListC := by
  refine .of (call_list_of.or ((call_listD hc).or (call_list_dT hc))) fun g A H vs xs σ Q rl rs q => ?_
  unfold pListC at q
  split at q
  · rename_i v
    obtain ⟨x, ex, r⟩ := rvs1 rs
    split at q
    · rename_i b ys e1
      obtain ⟨a, ws, ea, rz, sq⟩ := seqL_ok rl r e1
      refine .inl ⟨a, ws, by rw [ex, ea], ?_, (Post.lst q rl rz).2⟩
      cases b with
      | true => exact .inl sq
      | false => exact .inr sq
    · split at q
      · rename_i i _
        split at q
        · rename_i t lk kvs e2
          obtain ⟨hi, ex2⟩ := r
          obtain ⟨_, ob⟩ := rl.ob i _ e2
          cases t with
          | false =>
            obtain ⟨ws, hw, pr⟩ := ob
            exact .inr (.inl ⟨g i, ws, by rw [ex, ex2], hw.rd, (Post.lst q rl (keyK_rvs pr)).2⟩)
          | true =>
            obtain ⟨ws, hw, pr⟩ := ob
            exact .inr (.inr ⟨g i, ws, by rw [ex, ex2], hw.rd, fun p bs hp hk => (Post.lst q rl (keyT_rvs pr hk)).2 p hp⟩)
        · exact q.elim
      · exact q.elim
  · exact q.elim
theorem z_tupleC : CallZ X T W (.type "tuple") pTupleC := by
  refine .of call_tuple_of fun g A H vs xs σ Q rl rs q => ?_
  unfold pTupleC at q
  split at q
  · rename_i v
    obtain ⟨x, ex, r⟩ := rvs1 rs
    split at q
    · rename_i b ys e1
      obtain ⟨a, ws, ea, rz, sq⟩ := seqL_ok rl r e1
      cases b with
      | true => exact ⟨a, ws, by rw [ex, ea], .inl ⟨sq, (Post.tup q rl rz).2⟩⟩
      | false => exact ⟨a, ws, by rw [ex, ea], .inr ⟨sq, Post.now q rl (by rw [← ea]; exact r)⟩⟩
    · exact q.elim
  · exact q.elim
/-- a new dict -/
theorem Post.dct {g : Nat → Addr} {A : AH} {H : Hp} {σ : L2.St} {Q : VK} {kvs : List (AV × AV)} {ws : List (Key × V)} (q : Post T X.K W g A H σ Q (mkDct kvs A)) (rl : Rel T X.K g A H) (r : DRl T X.K g A.n H kA kvs ws) :
    ∀ p, H p = none → Q (.ref p) (upd H p (.dK ws)) := fun p hp => by
  have hs := HS.upd (o := .dK ws) hp
  have st : Stp T X.K g A H (ext g A.n p) (A.push (.dct false 0 kvs)) (upd H p (.dK ws)) := rl.add hs hp ⟨ws, upd_same, Paired.mono (fun _ _ q => ⟨q.1, q.2.mono hs.he (fun i hi => ext_lt hi) (Nat.le_succ _)⟩) r⟩
  exact q _ _ (.ref p) st ⟨Nat.lt_succ_self _, by rw [ext_at]⟩
theorem pairL_ok {g : Nat → Addr} {n : Nat} {H : Hp} : ∀ {vs : List AV} {xs : List V} {kvs : List (AV × AV)}, pairL vs = some kvs → RVs T X.K g n H vs xs → ∃ (ps : List Addr) (ws : List (Key × V)), xs = ps.map V.ref ∧ DRl T X.K g n H kA kvs ws ∧ Paired (fun p kv => SqT X.K H p [kV kv.1, kv.2]) ps ws
  | [], xs, kvs, e, r => by cases r; cases e; exact ⟨[], [], rfl, .nil, .nil⟩
  | v :: vs, xs, kvs, e, r => by
    cases r with
    | cons r1 r2 =>
      unfold pairL at e
      split at e
      · rename_i k t
        split at e
        · rename_i w t2
          split at e
          · split at e
            · rename_i ek
              split at e
              · rename_i l el
                cases e
                obtain ⟨ps, ws, e1, e2, e3⟩ := pairL_ok el r2
                obtain ⟨kk, rfl⟩ := isK_ok ek
                obtain ⟨a, x, ys, ex, hq, ra, rb⟩ := r1
                obtain ⟨y, zs, ey, rc, rd⟩ := rb
                have rd : zs = [] := rd
                rw [ey, rd, kA_of ra] at hq
                exact ⟨a :: ps, (kk, y) :: ws, by rw [ex, e1, List.map_cons], .cons ⟨rfl, rc⟩ e2, .cons (.of hq) e3⟩
              · cases e
            · cases e
          · cases e
        · cases e
      · cases e
theorem dmerge_ok {g : Nat → Addr} {n : Nat} {H : Hp} {kvs : List (AV × AV)} {ws : List (Key × V)} (r : DRl T X.K g n H kA kvs ws) : ∀ {acc : List (AV × AV)} {us : List (Key × V)}, DRl T X.K g n H kA acc us → DRl T X.K g n H kA (dmerge acc kvs) (mergeK us ws) := by
  induction r with
  | nil => intro acc us ra; exact ra
  | @cons p q kvs ws h t ih =>
    intro acc us ra
    obtain ⟨p1, p2⟩ := p
    obtain ⟨e, rp⟩ := h
    have e : p1 = kA q.1 := e
    subst e
    exact ih (dput_ok aEq_k ra q.1 rp)
theorem z_dictC (hc : X.calm = true) : CallZ X T W (.type "dict") pDictC := by
  refine .of ((call_dictP hc).or call_dictD) fun g A H vs xs σ Q rl rs q => ?_
  unfold pDictC at q
  split at q
  · rename_i v
    obtain ⟨x, ex, r⟩ := rvs1 rs
    split at q
    · rename_i ys e1
      obtain ⟨a, zs, ea, rz, sq⟩ := lstOf_ok rl r e1
      split at q
      · rename_i kvs e2
        obtain ⟨ps, ws, h1, h2, h3⟩ := pairL_ok e2 rz
        exact .inl ⟨a, ps, ws, by rw [ex, ea], by rw [← h1]; exact sq, h3, Post.dct q rl (dmerge_ok h2 .nil)⟩
      · exact q.elim
    · split at q
      · rename_i i _
        split at q
        · rename_i t lk kvs e2
          obtain ⟨hi, ex2⟩ := r
          obtain ⟨_, ob⟩ := rl.ob i _ e2
          cases t with
          | true => exact q.elim
          | false =>
            obtain ⟨ws, hw, pr⟩ := ob
            exact .inr ⟨g i, ws, by rw [ex, ex2], hw.rd, Post.dct q rl pr⟩
        · exact q.elim
      · exact q.elim
  · exact q.elim
/-! list(range(..)) -/
def rgA : Int → Nat → List AV
  | _, 0 => []
  | a, n + 1 => .int a :: rgA (a + 1) n
theorem rg_shift (a : Int) (n : Nat) : (List.range (n + 1)).map (fun i => V.int (a + (i : Nat))) = V.int a :: (List.range n).map (fun i => V.int (a + 1 + (i : Nat))) := by
  rw [List.range_succ_eq_map, List.map_cons, List.map_map]
  congr 1
  · simp
  · refine List.map_congr_left fun i _ => ?_
    show V.int (a + ((i + 1 : Nat) : Int)) = V.int (a + 1 + (i : Int))
    congr 1
    omega
theorem rgA_ok {g : Nat → Addr} {n : Nat} {H : Hp} : ∀ (k : Nat) (a : Int), RVs T X.K g n H (rgA a k) ((List.range k).map fun i => V.int (a + (i : Nat)))
  | 0, a => .nil
  | k + 1, a => by rw [rg_shift]; exact .cons rfl (rgA_ok k (a + 1))
def pRgL (a b : AV) (A : AH) : RE := match a with
  | .int i => (match b with
    | .int j => (match small62 i && small62 j && Nat.ble (j - i).toNat 16777216 with
      | true => mkLst (rgA i (j - i).toNat) A
      | false => .bad)
    | _ => .bad)
  | _ => .bad
theorem rgL_ok {g : Nat → Addr} {A : AH} {H : Hp} {σ : L2.St} {Q : VK} (rl : Rel T X.K g A H) {i j : Int} (q : Post T X.K W g A H σ Q (pRgL (.int i) (.int j) A)) : RgOk i j ∧ ∀ p, H p = none → Q (.ref p) (upd H p (.lst (rgV i j))) := by
  have q : Post T X.K W g A H σ Q (match small62 i && small62 j && Nat.ble (j - i).toNat 16777216 with | true => mkLst (rgA i (j - i).toNat) A | false => .bad) := q
  cases e : small62 i && small62 j && Nat.ble (j - i).toNat 16777216 with
  | false => rw [e] at q; exact q.elim
  | true =>
    rw [e] at q
    obtain ⟨e12, e3⟩ := Bool.and_eq_true_iff.mp e
    obtain ⟨e1, e2⟩ := Bool.and_eq_true_iff.mp e12
    obtain ⟨h1, h2⟩ := small62_ok e1
    obtain ⟨h3, h4⟩ := small62_ok e2
    have h5 := Nat.le_of_ble_eq_true e3
    refine ⟨⟨h1, h2, h3, h4, by omega⟩, ?_⟩
    have r := rgA_ok (X := X) (T := T) (g := g) (n := A.n) (H := H) (j - i).toNat i
    exact (Post.lst q rl r).2
theorem ze_listRg1 {a : Expr} {ta : EV} {p1 ps1 : Pos} (hc : X.calm = true) (hg : Gl X "list") (hm : X.mg "list" = none) (hg2 : Gl X "range") (hm2 : X.mg "range" = none) (ha : PE X a (ERd T X.K W ta)) (n1 : noStar a = true) :
    PE X (.Call (.Name "list" p) [.Call (.Name "range" p1) [a] [] ps1] [] pos) (ERd T X.K W (eUn (fun v A => pRgL (.int 0) v A) ta)) := by
  refine (pe_listRg hc hg hm (prg_1 hg2 hm2 ha (star_cons n1)) (star_cons rfl)).im fun σ H Q ⟨f, A, sl, a, q⟩ => ?_
  refine (kr_of (vs := []) (us := []) (k := fun vs _ A => pRgL (.int 0) (g0 vs) A) a .nil q).mono fun x H1 h1 => ?_
  obtain ⟨f2, A2, s2, vs, a2, r2, p2⟩ := h1
  cases r2 with
  | @cons v _ _ _ r3 r4 =>
    cases r4
    cases v with
    | int j => exact ⟨j, r3, rgL_ok a2.rel p2⟩
    | _ => exact p2.elim
theorem ze_listRg2 {a b : Expr} {ta tb : EV} {p1 ps1 : Pos} (hc : X.calm = true) (hg : Gl X "list") (hm : X.mg "list" = none) (hg2 : Gl X "range") (hm2 : X.mg "range" = none) (ha : PE X a (ERd T X.K W ta)) (hb : PE X b (ERd T X.K W tb)) (n1 : noStar a = true) (n2 : noStar b = true) :
    PE X (.Call (.Name "list" p) [.Call (.Name "range" p1) [a, b] [] ps1] [] pos) (ERd T X.K W (eBin pRgL ta tb)) := by
  refine (pe_listRg hc hg hm (prg_2 hg2 hm2 ha hb (star_cons n1) (star_cons n2) (by rw [star_cons n2]; rfl)) (star_cons rfl)).im fun σ H Q h => ?_
  refine (idx h).mono fun x H1 h1 => h1.mono fun y H2 ⟨g, A, a, b, rl, r1, r2, q⟩ => ?_
  cases a with
  | int i =>
    cases b with
    | int j => exact ⟨i, j, r1, r2, rgL_ok rl q⟩
    | _ => exact q.elim
  | _ => exact q.elim
end
end Z
end
section
/-! EqA: == of lists and tuples, item by item, with either answer. -/
namespace ZQ
open PySem PySem.SeqAt
open AutoSeq1 (wpAny_loadPart')
open MeetsSeq MeetsSeq2 MeetsSeq3 SeqRoads2
open GQ (FinOf call_here)

section
variable {prog : Program} {w : World} {A : Around} {R : Result → Shared → Prop}
def ListJ (prog : Program) (w : World) (A : Around) (E : Value → Shared → Prop) (l b : Addr) (N : Nat) (I : Nat → Shared → Prop) (Fl : Shared → Prop) : Prop :=
  ∀ i s, I i s → ∃ (items items2 : Array Value) (n n2 : Nat), s.heap.get? l = some { cls := .type "list", data := .seq items n } ∧ s.heap.get? b = some { cls := .type "list", data := .seq items2 n2 } ∧ items.size = N ∧ items2.size = N ∧
    ∀ (h1 : i < items.size) (h2 : i < items2.size), wpAny (model prog w) A.in1 (eqBool items[i] items2[i]) (fun r s' => (r = true → I (i + 1) s') ∧ (r = false → I i s' ∧ Fl s')) E s
theorem loopJ (l b : Addr) (N : Nat) (I : Nat → Shared → Prop) (Fl : Shared → Prop) (hl : ListJ prog w A (fun e s' => R (.error e) s') l b N I Fl)
    (fin : ∀ s, I N s → R (.ok (.ret (.bool true))) s) (finF : ∀ s, Fl s → R (.ok (.ret (.bool false))) s) (k : Nat) :
    ∀ i : Nat, N - i = k → i ≤ N → ∀ s, I i s →
      wpAny (model prog w) A.in1 (Builtin.«list.__eq__.loop» ⟨[.ref l, .ref b, rawInt i, rawInt 2], []⟩) (FinOf prog w A R) (fun e s' => R (.error e) s') s := by
  induction k with
  | zero =>
    intro i hk hi s h
    obtain ⟨items, items2, n, n2, hl1, hb1, hs1, hs2, _⟩ := hl _ _ h
    have hi' : i = N := by omega
    have hR : R (.ok (.ret (.bool true))) s := fin s (hi' ▸ h)
    obtain ⟨hp, g, d, tk, os⟩ := s
    wp_walk using wpAny_loadPart' hl1, wpAny_loadPart' hb1
    have hi1 : items[((i : Nat) : Int).toNat]? = none := by simp; omega
    have hi2 : items2[((i : Nat) : Int).toNat]? = none := by simp; omega
    rw [hi1, hi2]
    wp_walk using wpAny_loadPart' hl1, wpAny_loadPart' hb1
    show R (.ok (.ret (.bool (items.size == items2.size)))) _
    rw [hs1, hs2]
    simpa using hR
  | succ k ih =>
    intro i hk hi s h
    obtain ⟨items, items2, n, n2, hl1, hb1, hs1, hs2, turn⟩ := hl _ _ h
    have hlt : i < items.size := by omega
    have hlt2 : i < items2.size := by omega
    have ht := turn hlt hlt2
    obtain ⟨hp, g, d, tk, os⟩ := s
    wp_walk using wpAny_loadPart' hl1, wpAny_loadPart' hb1
    have hi1 : items[((i : Nat) : Int).toNat]? = some items[i] := by simp [hlt]
    have hi2 : items2[((i : Nat) : Int).toNat]? = some items2[i] := by simp [hlt2]
    have hc : ((i : Int) + 1) = ((i + 1 : Nat) : Int) := by omega
    rw [hi1, hi2]
    refine wpAny_bind (wpAny_mono ht (fun r s2 h2 => ?_) fun _ _ x => x)
    obtain ⟨ha, hb⟩ := h2
    cases r with
    | true =>
      have hrec := ih (i + 1) (by omega) (by omega) s2 (ha rfl)
      obtain ⟨hp2, g2, d2, tk2, os2⟩ := s2
      wp_walk
      rw [hc]
      exact ⟨plainId_quiet plain_eq_loop _, codeAny_builtin entry_eq_loop (by
        rw [Around.under_plainId plain_eq_loop _]
        exact hrec)⟩
    | false =>
      have hF := finF s2 (hb rfl).2
      obtain ⟨jtems, jtems2, m, m2, hl2, hb2, js1, js2, _⟩ := hl _ _ (hb rfl).1
      have jlt : i < jtems.size := by omega
      have jlt2 : i < jtems2.size := by omega
      obtain ⟨hp2, g2, d2, tk2, os2⟩ := s2
      wp_walk using wpAny_loadPart' hl2, wpAny_loadPart' hb2
      have hj1 : jtems[((i : Nat) : Int).toNat]? = some jtems[i] := by simp [jlt]
      have hj2 : jtems2[((i : Nat) : Int).toNat]? = some jtems2[i] := by simp [jlt2]
      rw [hj1, hj2]
      wp_walk
      exact hF
theorem listJ (l b : Addr) (N : Nat) (I : Nat → Shared → Prop) (Fl : Shared → Prop) (hl : ListJ prog w A (fun e s' => R (.error e) s') l b N I Fl)
    (fin : ∀ s, I N s → R (.ok (.ret (.bool true))) s) (finF : ∀ s, Fl s → R (.ok (.ret (.bool false))) s) {s : Shared} (h : I 0 s) :
    wpAny (model prog w) A.in1 (Builtin.«list.__eq__» ⟨[.ref l, .ref b], []⟩) (FinOf prog w A R) (fun e s' => R (.error e) s') s := by
  obtain ⟨items, items2, n, n2, hl1, hb1, hs1, hs2, _⟩ := hl _ _ h
  have hrec := loopJ (A := A) (R := R) l b N I Fl hl fin finF _ 0 rfl (Nat.zero_le _) s h
  obtain ⟨hp, g, d, tk, os⟩ := s
  have f3 := AutoSeq1.sub_list_list
  have hne : ¬ (items.size != items2.size) = true := by simp [hs1, hs2]
  wp_walk using wpAny_loadPart' hl1, wpAny_loadPart' hb1
  exact ⟨plainId_quiet plain_eq_loop _, codeAny_builtin entry_eq_loop (by
    rw [Around.under_plainId plain_eq_loop _]
    exact hrec)⟩
/-- lists of two lengths -/
theorem listN (l b : Addr) {items items2 : Array Value} {n n2 : Nat} {s : Shared} (hl1 : s.heap.get? l = some { cls := .type "list", data := .seq items n }) (hb1 : s.heap.get? b = some { cls := .type "list", data := .seq items2 n2 }) (hne : items.size ≠ items2.size)
    (finF : R (.ok (.ret (.bool false))) s) : wpAny (model prog w) A.in1 (Builtin.«list.__eq__» ⟨[.ref l, .ref b], []⟩) (FinOf prog w A R) (fun e s' => R (.error e) s') s := by
  obtain ⟨hp, g, d, tk, os⟩ := s
  have f3 := AutoSeq1.sub_list_list
  have hne : (items.size != items2.size) = true := by simp [hne]
  wp_walk using wpAny_loadPart' hl1, wpAny_loadPart' hb1
  exact finF
theorem tupleJ (l b : Addr) (items items2 : Array Value) (n n2 : Nat) (dd dd2 : Option Addr) (sl sl2 : Array (Option Value)) (I : Nat → Shared → Prop) (Fl : Shared → Prop)
    (turn : ∀ i (h1 : i < items.size) (h2 : i < items2.size) s, I i s → wpAny (model prog w) A.in1 (eqBool items[i] items2[i]) (fun r s' => (r = true → I (i + 1) s') ∧ (r = false → Fl s')) (fun e s' => R (.error e) s') s)
    (fin : ∀ s i, i = min items.size items2.size → I i s → R (.ok (.ret (.bool (items.size == items2.size)))) s) (finF : ∀ s, Fl s → R (.ok (.ret (.bool false))) s) {s : Shared} (hl1 : s.heap.get? l = some { cls := .type "tuple", dict := dd, data := .seq items n, slots := sl }) (hb1 : s.heap.get? b = some { cls := .type "tuple", dict := dd2, data := .seq items2 n2, slots := sl2 }) (h : I 0 s) :
    wpAny (model prog w) A.in1 (Builtin.«tuple.__eq__» ⟨[.ref l, .ref b], []⟩) (FinOf prog w A R) (fun e s' => R (.error e) s') s := by
  have f2 := AutoSeq1.sub_tuple_tuple
  have hZ : (items.toList.zip items2.toList).length = min items.size items2.size := by simp
  have h0 := h
  obtain ⟨hp, g, d, tk, os⟩ := s
  wp_walk using wpAny_loadPart' hl1, wpAny_loadPart' hb1, wpAny_forIn_list _ (fun rest b s' => b.1 = none ∧ ∃ i, rest = (items.toList.zip items2.toList).drop i ∧ i ≤ min items.size items2.size ∧ I i s') _
  case turn =>
    rintro ⟨y, x⟩ rest b s' ⟨hb', i, hz, hi, hI⟩
    have hlt : i < (items.toList.zip items2.toList).length := by
      rcases Nat.lt_or_ge i (items.toList.zip items2.toList).length with h' | h'
      · exact h'
      · rw [List.drop_of_length_le h'] at hz; cases hz
    have hm : i < min items.size items2.size := hZ ▸ hlt
    have h1 : i < items.size := by omega
    have h2 : i < items2.size := by omega
    rw [List.drop_eq_getElem_cons hlt] at hz
    injection hz with hyx hrest
    have hy : y = items[i] := by have := congrArg Prod.fst hyx; simpa using this
    have hx : x = items2[i] := by have := congrArg Prod.snd hyx; simpa using this
    subst hy hx
    refine wpAny_bind (wpAny_mono (turn i h1 h2 s' hI) (fun r s2 q2 => ?_) fun _ _ x => x)
    obtain ⟨qa, qb⟩ := q2
    cases r with
    | true =>
      wp_walk
      exact ⟨rfl, i + 1, hrest, hm, qa rfl⟩
    | false =>
      have hF := finF s2 (qb rfl)
      wp_walk
      exact hF
  case fin =>
    rintro ⟨b1, b2⟩ s' ⟨hb', i, hz, hi, hI⟩
    simp only at hb'
    subst hb'
    have hge : min items.size items2.size ≤ i := by
      rcases Nat.lt_or_ge i (items.toList.zip items2.toList).length with h' | h'
      · rw [List.drop_eq_getElem_cons h'] at hz; cases hz
      · exact hZ ▸ h'
    have hR := fin s' i (by omega) hI
    wp_walk
    simpa [Builtin.Tuple.tupleCompareSizes] using hR
  case h =>
    exact ⟨rfl, 0, rfl, Nat.zero_le _, h0⟩
end
end ZQ
end
section
/-! Z15: == and != of data. -/
namespace Z
open PySem PySem.Spec PyProof.Rows L2

/-! ## PyData.eqv, for the kernel -/
def bEq (a b : Bool) : Bool := match a with
  | true => b
  | false => !b
mutual
def dEqv : PyData → PyData → Bool
  | .none, d => (match d with
    | .none => true
    | _ => false)
  | .bool a, d => (match d with
    | .bool b => bEq a b
    | .int j => iEq (match a with | true => 1 | false => 0) j
    | _ => false)
  | .int i, d => (match d with
    | .int j => iEq i j
    | .bool b => iEq i (match b with | true => 1 | false => 0)
    | _ => false)
  | .str x, d => (match d with
    | .str y => sEq x y
    | _ => false)
  | .list xs, d => (match d with
    | .list ys => dEqvL xs ys
    | _ => false)
  | .tuple xs, d => (match d with
    | .tuple ys => dEqvL xs ys
    | _ => false)
  | .dict _, _ => false
def dEqvL : List PyData → List PyData → Bool
  | [], l => (match l with
    | [] => true
    | _ => false)
  | x :: xs, l => (match l with
    | [] => false
    | y :: ys => (match dEqv x y with
      | true => dEqvL xs ys
      | false => false))
end
theorem bEq_eq (a b : Bool) : bEq a b = (a == b) := by cases a <;> cases b <;> rfl
theorem iEq_beq (i j : Int) : iEq i j = (i == j) := by rw [iEq_eq]; rfl
theorem sEq_beq (x y : Str) : sEq x y = (x == y) := by rw [sEq_eq]; rfl
mutual
theorem dEqv_eq : ∀ d e : PyData, dEqv d e = PyData.eqv d e
  | .none, e => by cases e <;> rfl
  | .bool a, e => by cases e <;> first | rfl | exact bEq_eq _ _ | (cases a <;> simp [dEqv, PyData.eqv, iEq_beq])
  | .int i, e => by cases e with
    | bool b => cases b <;> simp [dEqv, PyData.eqv, iEq_beq]
    | int j => exact iEq_beq i j
    | _ => rfl
  | .str x, e => by cases e <;> first | rfl | exact sEq_beq _ _
  | .list xs, e => by cases e <;> first | rfl | exact dEqvL_eq xs _
  | .tuple xs, e => by cases e <;> first | rfl | exact dEqvL_eq xs _
  | .dict _, e => by cases e <;> rfl
theorem dEqvL_eq : ∀ l m : List PyData, dEqvL l m = PyData.eqvAll l m
  | [], m => by cases m <;> rfl
  | x :: xs, m => by
    cases m with
    | nil => rfl
    | cons y ys =>
      show (match dEqv x y with | true => dEqvL xs ys | false => false) = (PyData.eqv x y && PyData.eqvAll xs ys)
      rw [dEqv_eq x y, dEqvL_eq xs ys]
      cases PyData.eqv x y <;> rfl
end
/-! ## values read as data -/
def mapO (f : AV → Option PyData) : List AV → Option (List PyData)
  | [] => some []
  | v :: r => (match f v with
    | some d => (match mapO f r with
      | some ds => some (d :: ds)
      | none => none)
    | none => none)
def datV : Nat → AH → AV → Option PyData
  | 0, _, _ => none
  | n + 1, A, v => match v with
    | .non => some .none
    | .bl b => some (.bool b)
    | .int i => some (.int i)
    | .str x => some (.str x)
    | .fn _ => none
    | .cl _ => none
    | _ => (match seqL v A with
      | some (b, xs) => (match mapO (datV n A) xs with
        | some ds => (match b with
          | true => some (.list ds)
          | false => some (.tuple ds))
        | none => none)
      | none => none)
section
variable {X : Cx} {T : Tbl} {W : WX} {D : Desc} {cl : Calls} {lv : Nat}
theorem depthAll_le {n : Nat} : ∀ {ds : List PyData}, (∀ d ∈ ds, d.depth ≤ n) → PyData.depthAll ds ≤ n
  | [], _ => Nat.zero_le _
  | d :: ds, h => by
    show max d.depth (PyData.depthAll ds) ≤ n
    exact Nat.max_le.mpr ⟨h d List.mem_cons_self, depthAll_le fun e he => h e (List.mem_cons_of_mem _ he)⟩
theorem plainAll_of : ∀ {ds : List PyData}, (∀ d ∈ ds, d.plain = true) → PyData.plainAll ds = true
  | [], _ => rfl
  | d :: ds, h => by
    show (d.plain && PyData.plainAll ds) = true
    rw [h d List.mem_cons_self, plainAll_of fun e he => h e (List.mem_cons_of_mem _ he)]
    rfl
theorem mapO_ok {f : AV → Option PyData} {g : Nat → Addr} {n : Nat} {H : Hp} {G : PyData → Prop} (hf : ∀ v d x, f v = some d → RV T X.K g n H v x → Dp X.K H x d ∧ G d) : ∀ {vs : List AV} {ds : List PyData} {xs : List V}, mapO f vs = some ds → RVs T X.K g n H vs xs → DpAll X.K H xs ds ∧ ∀ d ∈ ds, G d
  | [], ds, xs, e, r => by cases r; cases e; exact ⟨.nil, fun d h => nomatch h⟩
  | v :: vs, ds, xs, e, r => by
    cases r with
    | cons r1 r2 =>
      unfold mapO at e
      split at e
      · rename_i d ed
        split at e
        · rename_i ds' eds
          cases e
          obtain ⟨h1, h2⟩ := hf v d _ ed r1
          obtain ⟨h3, h4⟩ := mapO_ok hf eds r2
          refine ⟨.cons h1 h3, fun e he => ?_⟩
          rcases List.mem_cons.mp he with q | q
          · rw [q]; exact h2
          · exact h4 e q
        · cases e
      · cases e
theorem datV_ok {g : Nat → Addr} {A : AH} {H : Hp} (rl : Rel T X.K g A H) : ∀ (n : Nat) (v : AV) (d : PyData) (x : V), datV n A v = some d → RV T X.K g A.n H v x → Dp X.K H x d ∧ d.depth ≤ n ∧ d.plain = true
  | 0, v, d, x, e, r => by cases e
  | n + 1, v, d, x, e, r => by
    have seq : ∀ v, RV T X.K g A.n H v x → (match seqL v A with | some (b, xs) => (match mapO (datV n A) xs with | some ds => (match b with | true => some (PyData.list ds) | false => some (.tuple ds)) | none => none) | none => none) = some d → Dp X.K H x d ∧ d.depth ≤ n + 1 ∧ d.plain = true := by
      intro v r e
      split at e
      · rename_i b xs e1
        obtain ⟨a, ws, ex, rs, sq⟩ := seqL_ok rl r e1
        split at e
        · rename_i ds e2
          obtain ⟨h1, h2⟩ := mapO_ok (G := fun d => d.depth ≤ n ∧ d.plain = true) (fun v d x e r => datV_ok rl n v d x e r) e2 rs
          have hd : PyData.depthAll ds ≤ n := depthAll_le fun d hd => (h2 d hd).1
          have hp : PyData.plainAll ds = true := plainAll_of fun d hd => (h2 d hd).2
          rw [ex]
          cases b with
          | true => cases e; exact ⟨.lst sq h1, by show PyData.depthAll ds + 1 ≤ n + 1; omega, hp⟩
          | false => cases e; exact ⟨.tup sq h1, by show PyData.depthAll ds + 1 ≤ n + 1; omega, hp⟩
        · cases e
      · cases e
    cases v with
    | non => cases e; rw [show x = V.non from r]; exact ⟨.non, Nat.zero_le _, rfl⟩
    | bl b => cases e; rw [show x = V.bl b from r]; exact ⟨.bl b, Nat.zero_le _, rfl⟩
    | int b => cases e; rw [show x = V.int b from r]; exact ⟨.int b, Nat.zero_le _, rfl⟩
    | str b => cases e; rw [show x = V.str b from r]; exact ⟨.str b, Nat.zero_le _, rfl⟩
    | fn b => cases e
    | cl b => cases e
    | ref i => exact seq _ r e
    | tn => exact seq _ r e
    | tc h t => exact seq _ r e
    | fz t => exact seq _ r e
    | ft t => exact seq _ r e
def datF (A : AH) (v : AV) : Option PyData := datV 40 A v
/-- == and != of data -/
def pEqD (neg : Bool) (v w : AV) (A : AH) : RE := match datF A v with
  | some d => (match datF A w with
    | some e => .ok (.bl (match neg with | true => !dEqv d e | false => dEqv d e)) A
    | none => .bad)
  | none => .bad
theorem z_eqD (hu : X.A.units + 64 < cLine) : OpZ X T W (compareOp .Eq) (pEqD false) := by
  intro pins s σ H x y xv yv Q g A a b I rx ry rl ra rb q
  unfold pEqD at q
  split at q
  · rename_i d ed
    split at q
    · rename_i e ee
      obtain ⟨d1, d2, d3⟩ := datV_ok rl 40 a d x ed ra
      obtain ⟨e1, e2, e3⟩ := datV_ok rl 40 b e y ee rb
      obtain ⟨as, r1⟩ := Dp.reads I d x xv d1 rx
      obtain ⟨bs, r2⟩ := Dp.reads I e y yv e1 ry
      refine PySem.SeqAt.eq_plain r1 r2 d3 e3 (by omega) ⟨.bl _, H, I, rfl, ?_⟩
      rw [← dEqv_eq]
      exact Post.now q rl rfl
    · exact q.elim
  · exact q.elim
theorem z_neD (hu : X.A.units + 64 < cLine) : OpZ X T W (compareOp .NotEq) (pEqD true) := by
  intro pins s σ H x y xv yv Q g A a b I rx ry rl ra rb q
  unfold pEqD at q
  split at q
  · rename_i d ed
    split at q
    · rename_i e ee
      obtain ⟨d1, d2, d3⟩ := datV_ok rl 40 a d x ed ra
      obtain ⟨e1, e2, e3⟩ := datV_ok rl 40 b e y ee rb
      obtain ⟨as, r1⟩ := Dp.reads I d x xv d1 rx
      obtain ⟨bs, r2⟩ := Dp.reads I e y yv e1 ry
      refine PySem.SeqAt.ne_plain r1 r2 d3 e3 (by omega) ⟨.bl _, H, I, rfl, ?_⟩
      rw [← dEqv_eq]
      exact Post.now q rl rfl
    · exact q.elim
  · exact q.elim
end
end Z
end
section
/-! Z16: in, not in; operations by own methods. -/
namespace Z
open PySem PySem.Spec PyProof.Rows L2

def orE (r : RE) (k : Unit → RE) : RE := match r with
  | .bad => k ()
  | r => r
section
variable {X : Cx} {T : Tbl} {W : WX} {D : Desc} {cl : Calls} {lv : Nat}
theorem Post.alt {g : Nat → Addr} {A : AH} {H : Hp} {σ : L2.St} {Q : VK} {r : RE} {k : Unit → RE} (q : Post T X.K W g A H σ Q (orE r k)) : Post T X.K W g A H σ Q r ∨ Post T X.K W g A H σ Q (k ()) := by
  cases r with
  | bad => exact .inr q
  | ok v A1 => exact .inl q
  | ex c fs A1 => exact .inl q
theorem OpZ.alt {f : Value → Value → Sem Value} {p p' : AV → AV → AH → RE} (h : OpZ X T W f p) (h' : OpZ X T W f p') : OpZ X T W f fun v w A => orE (p v w A) fun _ => p' v w A := by
  intro pins s σ H x y xv yv Q g A a b I rx ry rl ra rb q
  rcases q.alt with q | q
  · exact h pins s σ H x y xv yv Q g A a b I rx ry rl ra rb q
  · exact h' pins s σ H x y xv yv Q g A a b I rx ry rl ra rb q
theorem UnZ.alt {f : Value → Sem Value} {p p' : AV → AH → RE} (h : UnZ X T W f p) (h' : UnZ X T W f p') : UnZ X T W f fun v A => orE (p v A) fun _ => p' v A := by
  intro pins s σ H x xv Q g A a I rx rl ra q
  rcases q.alt with q | q
  · exact h pins s σ H x xv Q g A a I rx rl ra q
  · exact h' pins s σ H x xv Q g A a I rx rl ra q
theorem CallZ.alt {c : Value} {p p' : List AV → AH → RE} (h : CallZ X T W c p) (h' : CallZ X T W c p') : CallZ X T W c fun vs A => orE (p vs A) fun _ => p' vs A := by
  intro pins s σ H xs us Q g A as I rx rl ra q
  rcases q.alt with q | q
  · exact h pins s σ H xs us Q g A as I rx rl ra q
  · exact h' pins s σ H xs us Q g A as I rx rl ra q
/-! ## in -/
def neB (neg b : Bool) : Bool := match neg with
  | true => !b
  | false => b
def anyE (d : PyData) : List PyData → Bool
  | [] => false
  | e :: r => match dEqv e d with
    | true => true
    | false => anyE d r
theorem anyE_eq (d : PyData) : ∀ l, anyE d l = l.any fun y => PyData.eqv y d
  | [] => rfl
  | e :: r => by
    unfold anyE
    rw [List.any_cons, ← anyE_eq d r, dEqv_eq]
    cases PyData.eqv e d <;> rfl
/-- v in a list or a tuple of data -/
def pInD (neg : Bool) (v w : AV) (A : AH) : RE := match datF A v with
  | some d => (match datF A w with
    | some (.list es) => .ok (.bl (neB neg (anyE d es))) A
    | some (.tuple es) => .ok (.bl (neB neg (anyE d es))) A
    | _ => .bad)
  | none => .bad
theorem z_inD (hu : X.A.units + 64 < cLine) (neg : Bool) : OpZ X T W (compareOp (match neg with | true => .NotIn | false => .In)) (pInD neg) := by
  intro pins s σ H x y xv yv Q g A a b I rx ry rl ra rb q
  unfold pInD at q
  split at q
  · rename_i d ed
    obtain ⟨d1, d2, d3⟩ := datV_ok rl 40 a d x ed ra
    obtain ⟨as, r1⟩ := Dp.reads I d x xv d1 rx
    split at q
    · rename_i es ee
      obtain ⟨e1, e2, e3⟩ := datV_ok rl 40 b _ y ee rb
      obtain ⟨bs, r2⟩ := Dp.reads I _ y yv e1 ry
      have e2 : PyData.depthAll es + 1 ≤ 40 := e2
      rw [anyE_eq] at q
      cases neg with
      | false => exact PySem.SeqAt.in_list_data r2 r1 e3 d3 (by omega) ⟨.bl _, H, I, rfl, Post.now q rl rfl⟩
      | true => exact PySem.SeqAt.notIn_list_data r2 r1 e3 d3 (by omega) ⟨.bl _, H, I, rfl, Post.now q rl rfl⟩
    · rename_i es ee
      obtain ⟨e1, e2, e3⟩ := datV_ok rl 40 b _ y ee rb
      obtain ⟨bs, r2⟩ := Dp.reads I _ y yv e1 ry
      have e2 : PyData.depthAll es + 1 ≤ 40 := e2
      rw [anyE_eq] at q
      cases neg with
      | false => exact PySem.SeqAt.in_tuple_data r2 r1 e3 d3 (by omega) ⟨.bl _, H, I, rfl, Post.now q rl rfl⟩
      | true => exact PySem.SeqAt.notIn_tuple_data r2 r1 e3 d3 (by omega) ⟨.bl _, H, I, rfl, Post.now q rl rfl⟩
    · exact q.elim
  · exact q.elim
def nMem (c : Nat) : List Nat → Bool
  | [] => false
  | d :: r => match Nat.beq c d with
    | true => true
    | false => nMem c r
theorem nMem_eq (c : Nat) : ∀ l, nMem c l = decide (c ∈ l)
  | [] => rfl
  | d :: r => by
    unfold nMem
    rw [nMem_eq c r, Bool.eq_iff_iff]
    cases e : Nat.beq c d with
    | true => simp [Nat.eq_of_beq_eq_true e]
    | false =>
      have : c ≠ d := fun z => by rw [z, Nat.beq_refl] at e; cases e
      simp [this]
/-- a sign in a str -/
def pInS (neg : Bool) (v w : AV) (A : AH) : RE := match v with
  | .str x => (match w with
    | .str y => (match x.cps.toList with
      | [c] => .ok (.bl (neB neg (nMem c y.cps.toList))) A
      | _ => .bad)
    | _ => .bad)
  | _ => .bad
theorem z_inS (neg : Bool) : OpZ X T W (compareOp (match neg with | true => .NotIn | false => .In)) (pInS neg) := by
  intro pins s σ H x y xv yv Q g A a b I rx ry rl ra rb q
  unfold pInS at q
  split at q
  · rename_i z
    split at q
    · rename_i z2
      split at q
      · rename_i c ec
        have ez : z = ⟨#[c]⟩ := by cases z; congr 1; exact Array.toList_inj.mp ec
        have e := StrLaws.found_one z2 c
        rw [← nMem_eq] at e
        rw [← e] at q
        have ex : x = .str ⟨#[c]⟩ := by rw [← ez]; exact ra
        have ey : y = .str z2 := rb
        cases neg with
        | false => exact op_in_str pins s σ H x y xv yv Q I rx ry ⟨_, _, ex, ey, Post.now q rl rfl⟩
        | true => exact op_notIn_str pins s σ H x y xv yv Q I rx ry ⟨_, _, ex, ey, Post.now q rl rfl⟩
      · exact q.elim
    · exact q.elim
  · exact q.elim
/-- a key in a dict -/
def pInK (neg : Bool) (v w : AV) (A : AH) : RE := match pGet w v A with
  | some o => (match o with
    | some _ => .ok (.bl (neB neg true)) A
    | none => .ok (.bl (neB neg false)) A)
  | none => .bad
theorem z_inK (hu : X.A.units + 64 < cLine) (neg : Bool) : OpZ X T W (compareOp (match neg with | true => .NotIn | false => .In)) (pInK neg) := by
  intro pins s σ H x y xv yv Q g A a b I rx ry rl ra rb q
  unfold pInK at q
  split at q
  · rename_i o eo
    obtain ⟨ad, ov, ex, dg, h1, h2⟩ := pGet_ok rl rb ra eo
    subst ex
    obtain rfl : yv = Value.ref ad := ry
    have z : Q (.bl (neB neg ov.isSome)) H := by
      cases o with
      | some w => obtain ⟨u, eu, _⟩ := h1 w rfl; rw [eu]; exact Post.now q rl rfl
      | none => rw [h2 rfl]; exact Post.now q rl rfl
    cases neg with
    | false => exact d_in (by omega) I dg rx fun s3 I3 => ⟨.bl _, H, I3, rfl, z⟩
    | true => exact d_notIn (by omega) I dg rx fun s3 I3 => ⟨.bl _, H, I3, rfl, z⟩
  · exact q.elim
/-- by an own __contains__ -/
def pInO (D : Desc) (cl : Calls) (neg : Bool) (v w : AV) (A : AH) : RE := match methAt D 1 w A with
  | some k => bnd (callK D cl k [w, v] A) fun b A1 => .ok (.bl (neB neg b)) A1
  | none => .bad
theorem bnd_def {k : Nat} {vs : List AV} {A : AH} {g : Nat → Addr} {H : Hp} {σ : L2.St} {Q : VK} {f : Bool → AH → RE} (q : Post T X.K W g A H σ Q (bnd (callK D cl k vs A) f)) : ∃ d, D.defs[k]? = some d := by
  unfold callK at q
  cases e : D.defs[k]? with
  | none => rw [e] at q; exact q.elim
  | some d => exact ⟨d, rfl⟩
theorem bnd_post {r : RE} {A : AH} {g : Nat → Addr} {H : Hp} {σ : L2.St} {Q : VK} {f : Bool → Bool} (q : Post T X.K W g A H σ Q (bnd r fun b A1 => .ok (.bl (f b)) A1)) : Post T X.K W g A H σ (fun u H1 => ∃ b, u = .bl b ∧ Q (.bl (f b)) H1) r := by
  cases r with
  | bad => exact q
  | ex c fs A1 => exact q
  | ok v A1 =>
    cases v with
    | bl b => exact fun f1 H1 u st ru => ⟨b, ru, q f1 H1 _ st rfl⟩
    | _ => exact q.elim
theorem z_inO (F : Facts.X X T D cl lv) (tk : Takes X W) (hr : Room (lv + 1) X.A) (neg : Bool) : OpZ X T W (compareOp (match neg with | true => .NotIn | false => .In)) (pInO D cl neg) := by
  intro pins s σ H x y xv yv Q g A a b I rx ry rl ra rb q
  unfold pInO at q
  split at q
  · rename_i k e3
    obtain ⟨p, ep, ⟨O⟩⟩ := own_at F I rl rb e3 (bnd_def q)
    subst ep
    obtain rfl : yv = Value.ref p := ry
    have hfind := O.find
    rw [F.nm 1 _ rfl] at hfind
    obtain ⟨m, hF⟩ := I.fr
    have run := z_callA F tk k (hr.mono (Nat.le_succ _)) rfl I (.cons (show RelV (V.ref p) (Value.ref p) from rfl) (.cons rx .nil)) rl (.cons rb (.cons ra .nil)) (bnd_post q)
    cases neg with
    | false => exact PySem.W.in_K hF I.ok.mod.kin O.at_ hfind O.fn (wpAny_mono run (fun w s1 ⟨z, H1, I1, rz, bb, eb, qb⟩ => by subst eb; cases rz; exact wpAny_truthy_bool ⟨.bl bb, H1, I1, rfl, qb⟩) fun _ _ x => x)
    | true => exact PySem.W.notIn_K hF I.ok.mod.kin O.at_ hfind O.fn (wpAny_mono run (fun w s1 ⟨z, H1, I1, rz, bb, eb, qb⟩ => by subst eb; cases rz; exact wpAny_truthy_bool ⟨.bl (!bb), H1, I1, rfl, qb⟩) fun _ _ x => x)
  · exact q.elim
/-! ## neg, add, sub by own methods -/
def pNegO (D : Desc) (cl : Calls) (v : AV) (A : AH) : RE := match methAt D 6 v A with
  | some k => callK D cl k [v] A
  | none => .bad
theorem z_negO (F : Facts.X X T D cl lv) (tk : Takes X W) (hr : Room (lv + 1) X.A) : UnZ X T W (unaryOp .USub) (pNegO D cl) := by
  intro pins s σ H x xv Q g A a I rx rl ra q
  unfold pNegO at q
  split at q
  · rename_i k e3
    obtain ⟨p, ep, ⟨O⟩⟩ := own_at F I rl ra e3 (callK_def q)
    subst ep
    obtain rfl : xv = Value.ref p := rx
    have hfind := O.find
    rw [F.nm 6 _ rfl] at hfind
    obtain ⟨m, hF⟩ := I.fr
    exact PySem.W.ksp_neg hF I.ok.mod.kin O.at_ hfind O.fn (z_callA F tk k (hr.mono (Nat.le_succ _)) rfl I (.cons (show RelV (V.ref p) (Value.ref p) from rfl) .nil) rl (.cons ra .nil) q)
  · exact q.elim
def clsAt (v : AV) (A : AH) : Option Nat := match v with
  | .ref i => (match A.get i with
    | some (.ins c _) => some c
    | _ => none)
  | _ => none
theorem cls_at {pins : List (Addr × Obj)} {s : Shared} {σ : L2.St} {H : Hp} {g : Nat → Addr} {A : AH} {c : Nat} {v : AV} {x : V} (I : Inv X pins σ H s) (rl : Rel T X.K g A H) (rv : RV T X.K g A.n H v x) (e : clsAt v A = some c) :
    ∃ p cd od, x = .ref p ∧ PySem.W.InstAt s.heap p (PySem.W.instObj (T.ca c) cd) (T.ca c) (some od) := by
  unfold clsAt at e
  cases v with
  | ref i =>
    obtain ⟨hi, ex⟩ := rv
    simp only at e
    cases e1 : A.get i with
    | none => rw [e1] at e; cases e
    | some ob =>
      rw [e1] at e
      cases ob with
      | ins c' fs =>
        cases e
        obtain ⟨dx, ws, eH, pr⟩ := rl.ins e1
        obtain ⟨mA, J, _⟩ := ins_get I.hok eH
        obtain ⟨od, J, _⟩ := J.look
        exact ⟨g i, dx, od, ex, J⟩
      | _ => cases e
  | _ => cases e
/-- two instances of one class -/
def pBinO (D : Desc) (cl : Calls) (a : Nat) (v w : AV) (A : AH) : RE := match methAt D a v A with
  | some k => (match clsAt v A with
    | some c => (match clsAt w A with
      | some c' => (match Nat.beq c c' with
        | true => callK D cl k [v, w] A
        | false => .bad)
      | none => .bad)
    | none => .bad)
  | none => .bad
theorem z_binO (F : Facts.X X T D cl lv) (tk : Takes X W) (hr : Room (lv + 1) X.A) {op : Operator} {a : Nat} (ha : dunN[a]? = some (PySem.dunder op.info.2)) : OpZ X T W (binaryOp op) (pBinO D cl a) := by
  intro pins s σ H x y xv yv Q g A v w I rx ry rl ra rb q
  unfold pBinO at q
  split at q
  · rename_i k e3
    split at q
    · rename_i c ec
      split at q
      · rename_i c' ec'
        split at q
        · rename_i eb
          have ecc := Nat.eq_of_beq_eq_true eb
          subst ecc
          obtain ⟨p, ep, ⟨O⟩⟩ := own_at F I rl ra e3 (callK_def q)
          obtain ⟨p1, cd1, od1, ep1, J1⟩ := cls_at I rl ra ec
          obtain ⟨p2, cd2, od2, ep2, J2⟩ := cls_at I rl rb ec'
          subst ep ep2
          cases ep1
          obtain rfl : xv = Value.ref p := rx
          obtain rfl : yv = Value.ref p2 := ry
          have hfind := O.find
          rw [F.nm a _ ha] at hfind
          obtain ⟨m, hF⟩ := I.fr
          have hcc : T.ca O.c = T.ca c := by
            have h1 := O.at_.at_
            have h2 := J1.at_
            rw [h1] at h2
            injection h2 with h2
            have h3 := congrArg Obj.cls h2
            injection h3
          have hb : PySem.W.Looks (model X.prog X.w) s.heap (typeOf (.ref p2)) (.ref (T.ca O.c)) := by rw [hcc]; exact J2.type
          refine PySem.W.binop_K hF I.ok.mod.kin O.at_ hb O.sf hfind O.fn ?_
          exact wpAny_mono (z_callA F tk k (hr.mono (Nat.le_succ _)) rfl I (.cons (show RelV (V.ref p) (Value.ref p) from rfl) (.cons (show RelV (V.ref p2) (Value.ref p2) from rfl) .nil)) rl (.cons ra (.cons rb .nil)) q) (fun _ _ h => back_val h) fun _ _ x => x
        · exact q.elim
      · exact q.elim
    · exact q.elim
  · exact q.elim
end
end Z
end
section
/-! Z17: == and != by own methods; of dicts; is None. -/
namespace ZQ
open PySem PySem.Spec PyProof.Rows PySem.SeqAt PySem.W
section
variable {prog : Program} {w : World} {A : Around} {E : Value → Shared → Prop} {s : Shared} {K : Frag} {x C L f : Addr} {h₀ : Heap} {m : Str → Option Value} {ox : Obj} {od : Option Obj} {b tb : Value}
theorem bound_objNe {M : Model} {args : List Value} {Q : Option Value → Shared → Prop} (X : K.In s.heap) (I : InstAt s.heap x ox C od) (hs : findIn K (.ref C) "__ne__" = some (some (.builtin "object.__ne__")))
    (h : wpAny M A (call (.builtin "object.__ne__") (.ref x :: args)) (fun v => Q (some v)) E s) : wpAny M A (callSpecialIfBound? (.ref x) "__ne__" args) Q E s := by
  simp only [callSpecialIfBound?, bindSpecialIfBound?]
  refine wpAny_holding (wpAny_bind (wpAny_bind (wpAny_bind (I.type.here ((looks_findIn X hs).here ?_)))))
  refine wpAny_bind (wpAny_askSetting (wpAny_ite ?_))
  have fin : wpAny M A (call (.builtin "object.__ne__") ([.ref x] ++ args) >>= fun v => pure (some v)) Q E s := wpAny_bind (wpAny_mono h (fun v s' h' => wpAny_pure h') fun _ _ h' => h')
  split
  · exact wpAny_bind (wpAny_of_eq (F.cmp_object.ne.bind _) (wpAny_pure (by exact fin)))
  · exact wpAny_tryCatch (wpAny_bind (wpAny_of_eq (F.cmp_object.ne.bind _) (wpAny_pure (by exact fin))))
/-- != where the class has an own == alone -/
theorem ne_own {Q : Value → Shared → Prop} (hu : A.units + 1 < cLine) (X : K.In s.heap) (I : InstAt s.heap x ox C od) (hb : Looks (model prog w) s.heap (typeOf b) tb) (hn : notFirst K C tb = true) (hm : mroIn K C (.type "object") = some true)
    (hne : findIn K (.ref C) "__ne__" = some (some (.builtin "object.__ne__"))) (hs : findIn K (.ref C) "__eq__" = some (some (.ref f))) (hf : isFn K (.ref f) = true)
    (h : wpAny (model prog w) A.in1 (call (.ref f) [.ref x, b]) (fun v s' => ∃ r, v = .bool r ∧ Q (.bool (!r)) s') E s) : wpAny (model prog w) A (richCompare .NotEq (.ref x) b) Q E s := by
  have ent : wpAny (model prog w) A.in1 (Builtin.«object.__ne__» ⟨[.ref x, b], []⟩) (GQ.FinOf prog w A (wants (fun v s' => v ≠ .notImplemented ∧ Q v s') E)) (fun e s' => wants (fun v s' => v ≠ .notImplemented ∧ Q v s') E (.error e) s') s := by
    unfold Builtin.«object.__ne__»
    refine wpAny_bind (wpAny_pure (a := (Value.ref x, [b])) ?_)
    refine wpAny_bind (wpAny_cRoomFor (show A.in1.units < cLine from hu) ?_)
    refine wpAny_bind (ifBound_K X I hs hf (wpAny_mono h (fun v s' hv => ?_) fun _ _ e => e))
    obtain ⟨r, rfl, hq⟩ := hv
    refine wpAny_bind (wpAny_truthy_bool ?_)
    exact wpAny_pure ⟨(fun z => nomatch z), hq⟩
  have one : wpAny (model prog w) A (tryCompare (.ref x) (cmpInfo .NotEq).2.1 b) (fun r s' => ∃ v, r = some v ∧ Q v s') E s := by
    unfold tryCompare
    refine wpAny_bind (bound_objNe X I hne (wpAny_mono (wpAny_call (Q := fun v s' => v ≠ .notImplemented ∧ Q v s') (codeAny_call_builtin F.cmp_object.ne.plain F.cmpEntry_ne (PySem.W.check_slot F.cmpKind_ne F.cmpSplit_ne (I.type.andThen (looks_mroIn X hm)) (F.cmpArgs_ne _ _) ent))) (fun v s' hv => ?_) fun _ _ e => e))
    obtain ⟨h1, h2⟩ := hv
    cases v <;> first | exact absurd rfl h1 | exact wpAny_pure ⟨_, rfl, h2⟩
  unfold richCompare
  simp only [oneThing_ref]
  refine wpAny_holding (wpAny_bind (wpAny_cRoomFor (by omega) ?_))
  refine wpAny_bind (I.type.here (wpAny_bind (hb.here ?_)))
  split
  · rename_i q
    have e : subIn K tb (.ref C) = some false := by
      rcases Bool.or_eq_true_iff.mp hn with e | e
      · rw [beq_iff_eq.mp e] at q; simp at q
      · exact beq_iff_eq.mp e
    refine wpAny_bind ((looks_subIn X e).here ?_)
    simp only [Bool.false_eq_true, if_false]
    refine wpAny_bind (wpAny_mono one (fun r s' z => ?_) fun _ _ e => e)
    obtain ⟨v, rfl, hq⟩ := z
    exact wpAny_pure hq
  · refine wpAny_bind (wpAny_pure ?_)
    simp only [Bool.false_eq_true, if_false]
    refine wpAny_bind (wpAny_mono one (fun r s' z => ?_) fun _ _ e => e)
    obtain ⟨v, rfl, hq⟩ := z
    exact wpAny_pure hq
end
end ZQ
namespace Z
open PySem PySem.Spec PyProof.Rows L2
section
variable {X : Cx} {T : Tbl} {W : WX} {D : Desc} {cl : Calls} {lv : Nat}
/-! ## is None -/
def isNon : AV → Bool
  | .non => true
  | _ => false
def pIsN (neg : Bool) (v w : AV) (A : AH) : RE := match w with
  | .non => .ok (.bl (neB neg (isNon v))) A
  | _ => .bad
theorem rv_non {g : Nat → Addr} {n : Nat} {H : Hp} {v : AV} {x : V} (r : RV T X.K g n H v x) : decide (x = .non) = isNon v := by
  cases v with
  | non => rw [show x = V.non from r]; rfl
  | bl b => rw [show x = V.bl b from r]; rfl
  | int b => rw [show x = V.int b from r]; rfl
  | str b => rw [show x = V.str b from r]; rfl
  | fn b => rw [show x = V.ref _ from r]; rfl
  | cl b => rw [show x = V.ref _ from r]; rfl
  | ref i => rw [r.2]; rfl
  | tn => obtain ⟨a, e, _⟩ := r; rw [e]; rfl
  | tc h t => obtain ⟨a, _, _, e, _⟩ := r; rw [e]; rfl
  | fz t => obtain ⟨a, _, e, _⟩ := r; rw [e]; rfl
  | ft t => obtain ⟨a, _, e, _⟩ := r; rw [e]; rfl
theorem z_isN (neg : Bool) : OpZ X T W (compareOp (match neg with | true => .IsNot | false => .Is)) (pIsN neg) := by
  intro pins s σ H x y xv yv Q g A a b I rx ry rl ra rb q
  unfold pIsN at q
  split at q
  · have q := Post.now q rl (u := .bl _) rfl
    rw [← rv_non ra] at q
    cases neg with
    | false => exact op_isN pins s σ H x y xv yv Q I rx ry ⟨rb, q⟩
    | true => exact op_notN pins s σ H x y xv yv Q I rx ry ⟨rb, q⟩
  · exact q.elim
def eqOp (neg : Bool) : CmpOp := match neg with
  | true => .NotEq
  | false => .Eq
/-! ## own == -/
def nfOk (D : Desc) (c t : Nat) : Bool := go D.nfs
where go : List (Nat × Nat) → Bool
  | [] => false
  | p :: r => match Nat.beq p.1 c && Nat.beq p.2 t with
    | true => true
    | false => go r
theorem nfOk_ok {c t : Nat} (h : nfOk D c t = true) : (c, t) ∈ D.nfs := by
  unfold nfOk at h
  generalize D.nfs = l at h
  induction l with
  | nil => cases h
  | cons p r ih =>
    unfold nfOk.go at h
    cases e : (Nat.beq p.1 c && Nat.beq p.2 t) with
    | true =>
      obtain ⟨e1, e2⟩ := Bool.and_eq_true_iff.mp e
      have : p = (c, t) := by rw [← Nat.eq_of_beq_eq_true e1, ← Nat.eq_of_beq_eq_true e2]
      rw [this]
      exact List.mem_cons_self
    | false => rw [e] at h; exact List.mem_cons_of_mem _ (ih h)
def pEqO (D : Desc) (cl : Calls) (neg : Bool) (v w : AV) (A : AH) : RE := match methAt D 3 v A with
  | some k => (match clsAt v A with
    | some c => (match tagOf w A with
      | some t => (match nfOk D c t with
        | true => (match Nat.ble 7 t with
          | true => (match D.clss[t - 7]? with
            | some _ => bnd (callK D cl k [v, w] A) fun b A1 => .ok (.bl (neB neg b)) A1
            | none => .bad)
          | false => bnd (callK D cl k [v, w] A) fun b A1 => .ok (.bl (neB neg b)) A1)
        | false => .bad)
      | none => .bad)
    | none => .bad)
  | none => .bad
theorem z_eqO (F : Facts.X X T D cl lv) (tk : Takes X W) (hr : Room (lv + 1) X.A) (neg : Bool) : OpZ X T W (compareOp (eqOp neg)) (pEqO D cl neg) := by
  intro pins s σ H x y xv yv Q g A v w I rx ry rl ra rb q
  unfold pEqO at q
  split at q
  · rename_i k e3
    split at q
    · rename_i c ec
      split at q
      · rename_i t et
        split at q
        · rename_i en
          have nf := F.nf c t (nfOk_ok en)
          have fin : (∀ c, t = c + 7 → ∃ z, D.clss[c]? = some z) → Post T X.K W g A H σ Q (bnd (callK D cl k [v, w] A) fun b A1 => .ok (.bl (neB neg b)) A1) → wpAny (model X.prog X.w) X.A (compareOp (eqOp neg) xv yv) (EP X pins σ Q) X.xe s := by
            intro hc q
            obtain ⟨p, ep, ⟨O⟩⟩ := own_at F I rl ra e3 (bnd_def q)
            obtain ⟨p1, cd1, od1, ep1, J1⟩ := cls_at I rl ra ec
            subst ep
            cases ep1
            obtain rfl : xv = Value.ref p := rx
            have hcc : T.ca O.c = T.ca c := by
              have h1 := O.at_.at_
              have h2 := J1.at_
              rw [h1] at h2
              injection h2 with h2
              have h3 := congrArg Obj.cls h2
              injection h3
            obtain ⟨P, Z, hp, _⟩ := tag_kit F I rl rb ry et hc
            have hb := Z.ty (model X.prog X.w) s.heap I.kIn hp
            have hfind := O.find
            rw [F.nm 3 _ rfl] at hfind
            obtain ⟨m, hF⟩ := I.fr
            have hz : ∃ z, D.clss[c]? = some z := by
              unfold methAt at e3
              unfold clsAt at ec
              cases v with
              | ref i =>
                simp only at e3 ec
                cases e4 : A.get i with
                | none => rw [e4] at ec; cases ec
                | some ob =>
                  rw [e4] at ec e3
                  cases ob with
                  | ins c' fs =>
                    cases ec
                    simp only at e3
                    cases ea : attrOf D c 3 with
                    | none => rw [ea] at e3; cases e3
                    | some tt => obtain ⟨z, ez, _⟩ := attrOf_mem ea; exact ⟨z, ez⟩
                  | _ => cases ec
              | _ => cases ec
            obtain ⟨z, ez⟩ := hz
            have CF := F.cls c z ez
            have nf' : PySem.W.notFirst X.K (T.ca O.c) (tagV T t) = true := by rw [hcc]; exact nf
            cases neg with
            | false =>
              refine PySem.W.cmp_K (op := .Eq) (by have := hr.un; omega) hF I.ok.mod.kin O.at_ hb nf' hfind O.fn ?_
              exact wpAny_mono (z_callA F tk k (hr.mono (Nat.le_succ _)) rfl I (.cons (show RelV (V.ref p) (Value.ref p) from rfl) (.cons ry .nil)) rl (.cons ra (.cons rb .nil)) (bnd_post q)) (fun u s1 ⟨z, H1, I1, rz, bb, eb, qb⟩ => by subst eb; cases rz; exact ⟨.bl bb, H1, I1, rfl, qb⟩) fun _ _ x => x
            | true =>
              refine ZQ.ne_own (by have := hr.un; omega) I.kIn O.at_ hb nf' (by rw [hcc]; exact CF.ob) (by rw [hcc]; exact CF.ne) hfind O.fn ?_
              exact wpAny_mono (z_callA F tk k hr.in1 rfl I (.cons (show RelV (V.ref p) (Value.ref p) from rfl) (.cons ry .nil)) rl (.cons ra (.cons rb .nil)) (bnd_post q)) (fun u s1 ⟨z, H1, I1, rz, bb, eb, qb⟩ => by subst eb; cases rz; exact ⟨bb, rfl, .bl (!bb), H1, I1, rfl, qb⟩) fun _ _ x => x
          split at q
          · rename_i e7
            split at q
            · rename_i z ez
              exact fin (fun c' hc => ⟨z, by rw [hc] at ez; exact ez⟩) q
            · exact q.elim
          · rename_i e7
            exact fin (fun c' hc => by rw [hc] at e7; exact absurd (Nat.ble_eq ▸ (by omega : 7 ≤ c' + 7) : Nat.ble 7 (c' + 7) = true) (by rw [e7]; exact Bool.false_ne_true)) q
        · exact q.elim
      · exact q.elim
    · exact q.elim
  · exact q.elim
/-! ## dicts -/
def hitsF (A : AH) (kb : List (AV × AV)) : List (AV × AV) → Option Bool
  | [] => some true
  | p :: r => match dget kb p.1 with
    | none => some false
    | some y => (match datF A p.2 with
      | some d => (match datF A y with
        | some e => (match hitsF A kb r with
          | some b => some (dEqv d e && b)
          | none => none)
        | none => none)
      | none => none)
def pEqDct (neg : Bool) (v w : AV) (A : AH) : RE := match v with
  | .ref i => (match w with
    | .ref j => (match A.get i with
      | some (.dct false _ ka) => (match A.get j with
        | some (.dct false _ kb) => (match hitsF A kb ka with
          | some b => .ok (.bl (neB neg (Nat.beq ka.length kb.length && b))) A
          | none => .bad)
        | _ => .bad)
      | _ => .bad)
    | _ => .bad)
  | _ => .bad
theorem hitsF_ok {pins : List (Addr × Obj)} {s : Shared} {σ : L2.St} {H : Hp} {g : Nat → Addr} {A : AH} (I : Inv X pins σ H s) (rl : Rel T X.K g A H) (hu : X.A.units + 64 < cLine) {kb : List (AV × AV)} {wb : List (Key × V)} {vb : List (Key × Value)} (rb : DRl T X.K g A.n H kA kb wb) (rvb : KV wb vb) {ka : List (AV × AV)} {wa : List (Key × V)} (ra : DRl T X.K g A.n H kA ka wa) :
    ∀ {va : List (Key × Value)} {b : Bool}, KV wa va → hitsF A kb ka = some b → PySem.W.KeqHits X.A.in1 s vb va b := by
  induction ra with
  | nil => intro va b r e; cases r; cases e; exact .nil
  | @cons p q ka wa h t ih =>
    intro va b r e
    cases r with
    | @cons _ q' _ va' hq tq =>
      obtain ⟨k, vv⟩ := q'
      obtain ⟨hk, hv⟩ := hq
      have hk : q.1 = k := hk
      subst hk
      unfold hitsF at e
      have z := dget_ok aEq_k rb q.1
      rw [h.1] at e
      have zz := rvb.val q.1
      cases e1 : dget kb (kA q.1) with
      | none =>
        rw [e1] at e z
        cases e
        rw [show valV wb q.1 = none from z] at zz
        exact .miss (by cases hva : valueAt vb q.1 with
          | none => rfl
          | some u => rw [hva] at zz; cases zz)
      | some y =>
        rw [e1] at e z
        obtain ⟨u, hu', ru⟩ := z
        rw [hu'] at zz
        obtain ⟨y', hy, ry⟩ := zz.some_of
        simp only at e
        cases e2 : datF A p.2 with
        | none => rw [e2] at e; cases e
        | some d =>
          rw [e2] at e
          simp only at e
          cases e3 : datF A y with
          | none => rw [e3] at e; cases e
          | some d' =>
            rw [e3] at e
            simp only at e
            cases e4 : hitsF A kb ka with
            | none => rw [e4] at e; cases e
            | some b' =>
              rw [e4] at e
              cases e
              obtain ⟨d1, d2, d3⟩ := datV_ok rl 40 p.2 d q.2 e2 h.2
              obtain ⟨f1, f2, f3⟩ := datV_ok rl 40 y d' u e3 ru
              obtain ⟨as, r1⟩ := Dp.reads I d q.2 vv d1 hv
              obtain ⟨bs, r2⟩ := Dp.reads I d' u y' f1 ry
              rw [dEqv_eq]
              exact .hit hy (PySem.SeqAt.eqAt_plain d d' X.A.in1 s vv y' as bs r1 r2 d3 f3 (by show X.A.units + 1 + _ < _; omega)) (ih tq e4)
theorem z_eqDct (hu : X.A.units + 64 < cLine) (neg : Bool) : OpZ X T W (compareOp (eqOp neg)) (pEqDct neg) := by
  intro pins s σ H x y xv yv Q g A v w I rx ry rl ra rb q
  unfold pEqDct at q
  split at q
  · rename_i i
    split at q
    · rename_i j
      split at q
      · rename_i lk ka e1
        split at q
        · rename_i lk2 kb e2
          split at q
          · rename_i b eb
            obtain ⟨_, ws, hw, pr⟩ := rl.ob i _ e1
            obtain ⟨_, ws2, hw2, pr2⟩ := rl.ob j _ e2
            obtain ⟨hi, ex⟩ := ra
            obtain ⟨hj, ey⟩ := rb
            subst ex ey
            obtain rfl : xv = Value.ref (g i) := rx
            obtain rfl : yv = Value.ref (g j) := ry
            obtain ⟨_, ya, va, rva, da⟩ := dk_rd I.hok hw.rd
            obtain ⟨_, yb, vb, rvb, db⟩ := dk_rd I.hok hw2.rd
            have hits := hitsF_ok I rl hu pr2 rvb pr rva eb
            have hla : va.length = ka.length := by rw [← rva.length, ← pr.length]
            have hlb : vb.length = kb.length := by rw [← rvb.length, ← pr2.length]
            have eb2 : Nat.beq ka.length kb.length = (va.length == vb.length) := by rw [hla, hlb, Bool.eq_iff_iff, Nat.beq_eq, beq_iff_eq]
            rw [eb2] at q
            cases neg with
            | false => exact PySem.W.keq_eq (knd := mixKind X.prog X.w) ya yb da db (by omega) (fun _ => hits) ⟨.bl _, H, I, rfl, Post.now q rl rfl⟩
            | true => exact PySem.W.keq_ne (knd := mixKind X.prog X.w) ya yb da db (by omega) (fun _ => hits) ⟨.bl _, H, I, rfl, Post.now q rl rfl⟩
          · exact q.elim
        · exact q.elim
      · exact q.elim
    · exact q.elim
  · exact q.elim
end
end Z
end
section
/-! Z18: +, stores, targets. -/
namespace Z
open PySem PySem.Spec PyProof.Rows L2
section
variable {X : Cx} {T : Tbl} {W : WX} {D : Desc} {cl : Calls} {lv : Nat}
def pAddI := ii fun i j A => oki (i + j) A
theorem z_addI : OpZ X T W (binaryOp .Add) pAddI := iiI0 op_add
def strCat (a b : Str) : Str := ⟨(a.cps.toList ++ b.cps.toList).toArray⟩
theorem strCat_eq (a b : Str) : strCat a b = a ++ b := by
  cases a with
  | mk a =>
    cases b with
    | mk b =>
      show (⟨(a.toList ++ b.toList).toArray⟩ : Str) = ⟨a ++ b⟩
      congr 1
      simp
def pAddS (v w : AV) (A : AH) : RE := match v with
  | .str a => (match w with
    | .str b => (match Nat.ble (a.cps.toList.length + b.cps.toList.length) 16777216 with
      | true => .ok (.str (strCat a b)) A
      | false => .bad)
    | _ => .bad)
  | _ => .bad
theorem z_addS : OpZ X T W (binaryOp .Add) pAddS := by
  intro pins s σ H x y xv yv Q g A v w I rx ry rl ra rb q
  unfold pAddS at q
  split at q
  · rename_i a
    split at q
    · rename_i b
      split at q
      · rename_i e
        rw [strCat_eq] at q
        refine op_add_str pins s σ H x y xv yv Q I rx ry ⟨a, b, ra, rb, ?_, Post.now q rl rfl⟩
        rw [line_eq]
        have := Nat.le_of_ble_eq_true e
        simpa [Str.length] using this
      · exact q.elim
    · exact q.elim
  · exact q.elim
theorem rvs_app {g : Nat → Addr} {n : Nat} {H : Hp} {vs ws : List AV} {xs ys : List V} (r : RVs T X.K g n H vs xs) (r' : RVs T X.K g n H ws ys) : RVs T X.K g n H (vs ++ ws) (xs ++ ys) := app_rvs r r'
/-- list + list, tuple + tuple -/
def pAddL (v w : AV) (A : AH) : RE := match v with
  | .ref i => (match w with
    | .ref j => (match A.get i with
      | some (.lst xs) => (match A.get j with
        | some (.lst ys) => mkLst (xs ++ ys) A
        | _ => .bad)
      | _ => .bad)
    | _ => .bad)
  | _ => .bad
theorem z_addL : OpZ X T W (binaryOp .Add) pAddL := by
  intro pins s σ H x y xv yv Q g A v w I rx ry rl ra rb q
  unfold pAddL at q
  split at q
  · rename_i i
    split at q
    · rename_i j
      split at q
      · rename_i xs e1
        split at q
        · rename_i ys e2
          obtain ⟨_, ws, hw, r1⟩ := rl.ob i _ e1
          obtain ⟨_, zs, hz, r2⟩ := rl.ob j _ e2
          obtain ⟨hl, hp⟩ := Post.lst q rl (rvs_app r1 r2)
          exact op_cat pins s σ H x y xv yv Q I rx ry ⟨g i, g j, ws, zs, ra.2, rb.2, hw, hz, by rw [← List.length_append]; exact hl, hp⟩
        · exact q.elim
      · exact q.elim
    · exact q.elim
  · exact q.elim
def pAddT (v w : AV) (A : AH) : RE := match seqL v A with
  | some (b, xs) => (match b with
    | true => .bad
    | false => (match seqL w A with
      | some (b', ys) => (match b' with
        | true => .bad
        | false => (match xs with
          | [] => .ok w A
          | _ :: _ => (match ys with
            | [] => .ok v A
            | _ :: _ => mkTup (xs ++ ys) A)))
      | none => .bad))
  | none => .bad
theorem z_addT : OpZ X T W (binaryOp .Add) pAddT := by
  intro pins s σ H x y xv yv Q g A v w I rx ry rl ra rb q
  unfold pAddT at q
  cases e1 : seqL v A with
  | none => rw [e1] at q; exact q.elim
  | some p =>
    obtain ⟨b, xs⟩ := p
    rw [e1] at q
    cases b with
    | true => exact q.elim
    | false =>
      simp only at q
      cases e2 : seqL w A with
      | none => rw [e2] at q; exact q.elim
      | some p2 =>
        obtain ⟨b', ys⟩ := p2
        rw [e2] at q
        cases b' with
        | true => exact q.elim
        | false =>
          simp only at q
          obtain ⟨a, ws, ex, r1, sq1⟩ := seqL_ok rl ra e1
          obtain ⟨a2, zs, ey, r2, sq2⟩ := seqL_ok rl rb e2
          have hl1 := (I.tuple sq1)
          obtain ⟨_, _, _, z1⟩ := hl1
          obtain ⟨_, _, _, z2⟩ := I.tuple sq2
          cases xs with
          | nil =>
            cases r1
            refine op_catA pins s σ H x y xv yv Q I rx ry ⟨a, a2, [], zs, ex, ey, sq1, sq2, by simpa using z2, fun _ => ?_, fun h => absurd rfl h, fun h => absurd rfl h⟩
            rw [← ey]; exact Post.now q rl rb
          | cons v0 vs =>
            cases ys with
            | nil =>
              cases r2
              refine op_catA pins s σ H x y xv yv Q I rx ry ⟨a, a2, ws, [], ex, ey, sq1, sq2, by simpa using z1, fun h => ?_, fun _ _ => ?_, fun _ h => absurd rfl h⟩
              · rw [h] at r1; cases r1
              · rw [← ex]; exact Post.now q rl ra
            | cons w0 us =>
              obtain ⟨hl, hp⟩ := Post.tup q rl (rvs_app r1 r2)
              refine op_catA pins s σ H x y xv yv Q I rx ry ⟨a, a2, ws, zs, ex, ey, sq1, sq2, by rw [← List.length_append]; exact hl, fun h => ?_, fun _ h => ?_, fun _ _ => hp⟩
              · rw [h] at r1; cases r1
              · rw [h] at r2; cases r2
/-! ## targets of names -/
def gTgt (gt : Tgt) : GV := fun v s A => match tgS gt v s with
  | some s1 => .nx s1 A
  | none => .bad
theorem zg_tgt {tg : Expr} {gt : Tgt} (h : PG X tg (tgR X.K gt)) : PG X tg (GRd T X.K (gTgt gt)) :=
  h.im fun u σ H Q ⟨f, A, s, v, a, r, q⟩ => by
    unfold gTgt at q
    cases e : tgS gt v s with
    | none => rw [e] at q; exact q.elim
    | some s1 =>
      rw [e] at q
      exact (tg_ok gt).1 v u s s1 σ _ a.sr r e fun σ1 hs1 _ => q f H σ1 (.rfl' a.rel) hs1
/-! ## stores -/
theorem putN_pair (F : Facts.X X T D cl lv) {n : Nat} {g : Nat → Addr} {H : Hp} {a : Nat} {v : AV} {u : V} (rv : RV T X.K g n H v u) : ∀ {fs : List (Nat × AV)} {ws : List (Str × V)}, Paired (fun (p : Nat × AV) (q : Str × V) => T.at_ p.1 = q.1 ∧ RV T X.K g n H p.2 q.2) fs ws →
    Paired (fun (p : Nat × AV) (q : Str × V) => T.at_ p.1 = q.1 ∧ RV T X.K g n H p.2 q.2) (putN a v fs) (putF (T.at_ a) u ws)
  | [], _, .nil => .cons ⟨rfl, rv⟩ .nil
  | (b, x) :: fs, _, .cons (b := (y, z)) h t => by
    obtain ⟨h1, h2⟩ := h
    have h1 : T.at_ b = y := h1
    unfold putN
    cases e : Nat.beq b a with
    | true =>
      have ab := Nat.eq_of_beq_eq_true e
      subst ab
      have : ∀ l, putF (T.at_ b) u ((y, z) :: l) = (y, u) :: l := fun l => by
        show (if y = T.at_ b then (y, u) :: l else _) = _
        rw [if_pos h1.symm]
      rw [this]
      exact .cons ⟨h1, rv⟩ t
    | false =>
      have ne : b ≠ a := fun z => by rw [z, Nat.beq_refl] at e; cases e
      have ny : ¬ y = T.at_ a := fun z => ne (F.inj _ _ (h1.trans z))
      have : ∀ l, putF (T.at_ a) u ((y, z) :: l) = (y, z) :: putF (T.at_ a) u l := fun l => by
        show (if y = T.at_ a then _ else _) = _
        rw [if_neg ny]
      rw [this]
      exact .cons ⟨h1, h2⟩ (putN_pair F rv t)
theorem store_ok (F : Facts.X X T D cl lv) {a : Nat} {g : Nat → Addr} {A A1 : AH} {H : Hp} (rl : Rel T X.K g A H) {o v : AV} {x u : V} (ro : RV T X.K g A.n H o x) (rv : RV T X.K g A.n H v u) (e : pStore D a o v A = some A1) :
    ∃ p C dx fs, x = .ref p ∧ H p = some (.ins C dx fs) ∧ Cls X.K C ∧ NoAttr X.K C (T.at_ a) ∧ fs.length < 1000 ∧ Stp T X.K g A H g A1 (upd H p (.ins C dx (putF (T.at_ a) u fs))) := by
  unfold pStore at e
  split at e
  · rename_i i
    split at e
    · rename_i c fs e1
      split at e
      · rename_i ea
        split at e
        · rename_i el
          cases e
          obtain ⟨z, ez, hm⟩ := attrOf_mem ea
          have CF := F.cls c z ez
          obtain ⟨dx, ws, hw, pr⟩ := rl.ins e1
          have he : HE X.K H (upd H (g i) (.ins (T.ca c) dx (putF (T.at_ a) u ws))) := he_upd hw (fun _ z => nomatch z) (fun _ _ z => nomatch z)
          have hf : ∀ j, j < A.n → g j = g j := fun _ _ => rfl
          refine ⟨g i, T.ca c, dx, ws, ro.2, hw, CF.cl, CF.fld a hm, ?_, ?_⟩
          · rw [← pr.length]; exact (Nat.blt_eq ▸ el : fs.length < 1000)
          · exact rl.chg e1 (fun b hb => upd_ne hb) he ⟨dx, _, upd_same, putN_pair F (rv.mono he hf (Nat.le_refl _)) (Paired.mono (fun _ _ q => ⟨q.1, q.2.mono he hf (Nat.le_refl _)⟩) pr)⟩
        · cases e
      · cases e
    · cases e
  · cases e
def sFldZ (D : Desc) (a : Nat) (to tv : EV) : SV := fun s A => (tv s A).bs s fun v A1 => (to s A1).bs s fun o A2 => match pStore D a o v A2 with
  | some A3 => .nx s A3
  | none => .bad
variable {o value i : Expr} {to tv ti : EV} {pos pos' : Pos}
/-- an expression behind values that are kept, then a statement's step -/
theorem esK {f : Nat → Addr} {A : AH} {s : Sl} {σ : L2.St} {H : Hp} {D' : Ends} {te : EV} {k : AV → AH → RS} {vs : List AV} {us : List V} (a : At T X.K f A s σ H) (rs : RVs T X.K f A.n H vs us) (q : PostS T X.K W f A H D' ((te s A).bs s k)) :
    ERd T X.K W te σ H fun u H1 => ∃ f A v, At T X.K f A s σ H1 ∧ RVs T X.K f A.n H1 (v :: vs) (u :: us) ∧ PostS T X.K W f A H1 D' (k v A) := by
  refine ⟨f, A, s, a, ?_⟩
  cases e : te s A with
  | ok v A1 => rw [e] at q; exact fun f1 H1 u st r => ⟨f1, A1, v, a.step st, .cons r (st.rvs rs), PostS.step q st⟩
  | ex c fs A1 => rw [e] at q; exact fun f1 H1 d st x => q f1 H1 σ d st (st.sr a.sr) x
  | bad => rw [e] at q; exact q
theorem zs_fld (F : Facts.X X T D cl lv) {a : Nat} {f : Str} (hf : T.at_ a = f) (ho : PE X o (ERd T X.K W to)) (hv : PE X value (ERd T X.K W tv)) (hs : swapsWith value (some (.Attribute o f pos')) pos.line X.env = pure false) :
    PS X (.Assign [.Attribute o f pos'] value pos) (SRd T X.K W (sFldZ D a to tv)) := by
  subst hf
  refine (ps_fld ho hv hs).im fun D' σ H ⟨f, A, s, at_, q⟩ => ?_
  unfold sFldZ at q
  refine (esK at_ .nil q).mono fun y H1 ⟨f1, A1, v, a1, r1, q1⟩ => (esK a1 r1 q1).mono fun x H2 ⟨f2, A2, w, a2, r2, q2⟩ => ?_
  cases r2 with | cons rw' r2 => ?_
  cases r2 with | cons rv r2 => ?_
  cases e : pStore D a w v A2 with
  | none => rw [e] at q2; exact q2.elim
  | some A3 =>
    rw [e] at q2
    obtain ⟨p, C, dx, fs, ex, hH, c, n, l, st⟩ := store_ok F a2.rel rw' rv e
    exact ⟨p, C, dx, fs, ex, hH, c, n, l, q2 f2 _ σ st (st.sr a2.sr)⟩
def sPutZ (to ti tv : EV) : SV := fun s A => (tv s A).bs s fun v A1 => (to s A1).bs s fun o A2 => (ti s A2).bs s fun k A3 => match pPut o k v A3 with
  | some A4 => .nx s A4
  | none => .bad
theorem zs_dput (hu : X.A.units + 64 < cLine) (ho : PE X o (ERd T X.K W to)) (hi : PE X i (ERd T X.K W ti)) (hv : PE X value (ERd T X.K W tv)) (hs : swapsWith value (some (.Subscript o i pos')) pos.line X.env = pure false) :
    PS X (.Assign [.Subscript o i pos'] value pos) (SRd T X.K W (sPutZ to ti tv)) := by
  refine (ps_dput (by omega) ho hi hv hs).im fun D' σ H ⟨f, A, s, at_, q⟩ => ?_
  unfold sPutZ at q
  refine (esK at_ .nil q).mono fun y H1 ⟨f1, A1, v, a1, r1, q1⟩ => (esK a1 r1 q1).mono fun x H2 ⟨f2, A2, w, a2, r2, q2⟩ => (esK a2 r2 q2).mono fun z H3 ⟨f3, A3, k, a3, r3, q3⟩ => ?_
  cases r3 with | cons rk r3 => ?_
  cases r3 with | cons rw' r3 => ?_
  cases r3 with | cons rv r3 => ?_
  cases e : pPut w k v A3 with
  | none => rw [e] at q3; exact q3.elim
  | some A4 =>
    rw [e] at q3
    obtain ⟨p, H4, ex, dp, st⟩ := pPut_ok a3.rel rw' rk rv e
    exact ⟨p, H4, ex, dp, q3 f3 _ σ st (st.sr a3.sr)⟩
end
end Z
end
section
/-! Z19: starred arguments, calls of instances, methods of built-ins, dicts written down. -/
namespace Z
open PySem PySem.Spec PyProof.Rows L2
section
variable {X : Cx} {T : Tbl} {W : WX} {D : Desc} {cl : Calls} {lv : Nat}
variable {e o fe : Expr} {es : List Expr} {te to tf : EV} {l : Sl → AH → RL} {p sp pos apos : Pos} {x : Str}
/-! ## starred arguments -/
def lStar (te : EV) (l : Sl → AH → RL) : Sl → AH → RL := fun s A => (te s A).bl fun v A1 => match seqL v A1 with
  | some (_, xs) => (match l s A1 with
    | .ok vs A2 => .ok (xs ++ vs) A2
    | r => r)
  | none => .bad
theorem za_star (he : PE X e (ERd T X.K W te)) (hr : PA X es (ARd T X.K W l)) : PA X (.Starred e p :: es) (ARd T X.K W (lStar te l)) := by
  refine (StX.pa_star he hr rfl).im fun σ H Q ⟨f, A, s, a, q⟩ => ?_
  refine ⟨f, A, s, a, ?_⟩
  unfold lStar at q
  cases e1 : te s A with
  | bad => rw [e1] at q; exact q
  | ex c fs A1 => rw [e1] at q; exact q
  | ok v A1 =>
    rw [e1] at q
    intro f1 H1 u st rv
    have q1 : PostL T X.K W f A H σ Q (match seqL v A1 with | some (_, xs) => (match l s A1 with | .ok vs A2 => .ok (xs ++ vs) A2 | r => r) | none => .bad) := q
    cases e2 : seqL v A1 with
    | none => rw [e2] at q1; exact q1.elim
    | some pr =>
      obtain ⟨b, xs⟩ := pr
      rw [e2] at q1
      obtain ⟨ad, ws, ex, rs, sq⟩ := seqL_ok st.rel rv e2
      refine ⟨ad, ws, ex, ?_, f1, A1, s, a.step st, ?_⟩
      · cases b with
        | true => exact .inr sq
        | false => exact .inl sq
      · have q2 : PostL T X.K W f A H σ Q (match l s A1 with | .ok vs A2 => .ok (xs ++ vs) A2 | r => r) := q1
        cases e3 : l s A1 with
        | bad => rw [e3] at q2; exact q2
        | ex c fs A2 => rw [e3] at q2; exact fun f2 H2 d st2 x => q2 f2 H2 d (st.trans st2) x
        | ok vs A2 => rw [e3] at q2; exact fun f2 H2 us st2 rs2 => q2 f2 H2 (ws ++ us) (st.trans st2) (app_rvs (st2.rvs rs) rs2)
/-- a plain argument ahead of starred ones -/
theorem ze_callVS {c : Value} {q : List AV → AH → RE} (hc : CallZ X T W c q) (ld : ∀ (pins : List (Addr × Obj)) (s : Shared) (σ : L2.St) (H : Hp) (Q : Value → Shared → Prop), Inv X pins σ H s → Q c s → wpAny (model X.prog X.w) X.A (eval (.Name x p) X.env) Q X.xe s) (kp : PySem.W.keepIn X.K c = true)
    (he : noStar e = true) (hst : (backTo pos (starEach es X.env)).any (·.1) = true) (ha : PA X (e :: es) (ARd T X.K W l)) : PE X (.Call (.Name x p) (e :: es) [] pos) (ERd T X.K W fun s A => (l s A).bd q) := by
  refine ⟨fun pins s σ H Q I h => ?_⟩
  refine wpAny_Call_Name_kw (ld pins s σ H _ I ?_)
  exact PySem.W.callWith_S2 (h₀ := X.base) I.ok.mod.kin kp (thn (ha.run pos pins s σ H _ I (lst2 (k := q) h)) fun us s1 ⟨vs, H1, I1, r, q⟩ => ⟨I1.kIn, cz_go hc I1 r q⟩) (star_cons he) hst
/-- x(*y) -/
theorem ze_callV1 {c : Value} {q : List AV → AH → RE} (hc : CallZ X T W c q) (ld : ∀ (pins : List (Addr × Obj)) (s : Shared) (σ : L2.St) (H : Hp) (Q : Value → Shared → Prop), Inv X pins σ H s → Q c s → wpAny (model X.prog X.w) X.A (eval (.Name x p) X.env) Q X.xe s) (kp : PySem.W.keepIn X.K c = true)
    (he : PE X e (ERd T X.K W te)) : PE X (.Call (.Name x p) [.Starred e sp] [] pos) (ERd T X.K W fun s A => (lStar te lNil s A).bd q) := by
  refine ⟨fun pins s σ H Q I ⟨f, A, sl, a, h⟩ => ?_⟩
  refine wpAny_Call_Name_kw (ld pins s σ H _ I ?_)
  refine PySem.W.callWith_S (h₀ := X.base) I.ok.mod.kin kp (thn (he.run pins s σ H (fun u H1 => ∃ f A v xs, Rel T X.K f A H1 ∧ RV T X.K f A.n H1 v u ∧ (∃ b, seqL v A = some (b, xs)) ∧ Post T X.K W f A H1 σ Q (q xs A)) I ?_) fun v s1 ⟨y, H1, I1, ry, f1, A1, v1, xs, rl, rv, ⟨b, e2⟩, q2⟩ => ?_) rfl
  · refine ⟨f, A, sl, a, ?_⟩
    have h : Post T X.K W f A H σ Q (RL.bd (RE.bl (te sl A) fun v A1 => match seqL v A1 with | some (_, xs) => .ok (xs ++ []) A1 | none => .bad) q) := h
    cases e1 : te sl A with
    | bad => rw [e1] at h; exact h
    | ex c fs A1 => rw [e1] at h; exact h
    | ok v A1 =>
      rw [e1] at h
      intro f1 H1 u st rv
      have q1 : Post T X.K W f A H σ Q (RL.bd (match seqL v A1 with | some (_, xs) => .ok (xs ++ []) A1 | none => .bad) q) := h
      cases e2 : seqL v A1 with
      | none => rw [e2] at q1; exact q1.elim
      | some pr =>
        obtain ⟨b, xs⟩ := pr
        rw [e2] at q1
        have q1 : Post T X.K W f A H σ Q (q (xs ++ []) A1) := q1
        rw [List.append_nil] at q1
        exact ⟨f1, A1, v, xs, st.rel, rv, ⟨b, e2⟩, Post.step q1 st⟩
  · obtain ⟨ad, ws, ex, rs, sq⟩ := seqL_ok rl rv e2
    subst ex
    obtain rfl : v = Value.ref ad := ry
    refine StX.star_any I1 (xs := ws) ?_ fun us s2 I2 rv2 => ⟨I2.kIn, hc pins s2 σ H1 ws us Q f1 A1 xs I2 rv2 rl rs q2⟩
    cases b with
    | true => exact .inr sq
    | false => exact .inl sq
/-! ## calls of instances -/
def pCallO (D : Desc) (cl : Calls) (v : AV) (vs : List AV) (A : AH) : RE := match methAt D 7 v A with
  | some k => callK D cl k (v :: vs) A
  | none => .bad
def isRef : AV → Bool
  | .ref _ => true
  | _ => false
def eCallO (D : Desc) (cl : Calls) (tf : EV) (l : Sl → AH → RL) : EV := fun s A => (tf s A).bd fun v A1 => guard (isRef v) ((l s A1).bd fun vs A2 => pCallO D cl v vs A2)
/-- a value of a kind, then a list of values -/
theorem vlg_of {ty : AV → AH → Bool} {k : AV → List AV → AH → RE} {σ : L2.St} {H : Hp} {Q : VK} (h : ERd T X.K W (fun s A => (te s A).bd fun v A1 => guard (ty v A1) ((l s A1).bd fun vs A2 => k v vs A2)) σ H Q) :
    ERd T X.K W te σ H fun x H1 => (∃ f A v, Rel T X.K f A H1 ∧ RV T X.K f A.n H1 v x ∧ ty v A = true) ∧ ARd T X.K W l σ H1 fun xs H2 => ∃ f A v vs, Rel T X.K f A H2 ∧ RV T X.K f A.n H2 v x ∧ RVs T X.K f A.n H2 vs xs ∧ Post T X.K W f A H2 σ Q (k v vs A) := by
  obtain ⟨f, A, s, a, q⟩ := h
  refine ⟨f, A, s, a, ?_⟩
  cases e : te s A with
  | bad => simp only [e] at q; exact q
  | ex c fs A1 => simp only [e] at q; exact q
  | ok v A1 =>
    simp only [e] at q
    intro f1 H1 x st rv
    have q1 : Post T X.K W f A H σ Q (guard (ty v A1) ((l s A1).bd fun vs A2 => k v vs A2)) := q
    obtain ⟨et, q1⟩ := q1.guard
    refine ⟨⟨f1, A1, v, st.rel, rv, et⟩, f1, A1, s, a.step st, ?_⟩
    cases e2 : l s A1 with
    | bad => rw [e2] at q1; exact q1
    | ex c fs A2 => rw [e2] at q1; exact fun f2 H2 d st2 x => q1 f2 H2 d (st.trans st2) x
    | ok vs A2 => rw [e2] at q1; exact fun f2 H2 us st2 rs => ⟨f2, A2, v, vs, st2.rel, st2.rv rv, rs, Post.step q1 (st.trans st2)⟩
theorem isRef_ok {g : Nat → Addr} {n : Nat} {H : Hp} {v : AV} {x : V} (r : RV T X.K g n H v x) (h : isRef v = true) : ∃ a, x = .ref a := by
  cases v with
  | ref i => exact ⟨_, r.2⟩
  | _ => cases h
theorem ze_callO (F : Facts.X X T D cl lv) (tk : Takes X W) (hr : Room (lv + 1) X.A) (hf : PE X fe (ERd T X.K W tf)) (ha : PA X (e :: es) (ARd T X.K W l)) (n1 : noStar e = true) (n2 : es.all noStar = true)
    (ht : eval (.Call fe (e :: es) [] pos) X.env = (do callWith pos (← eval fe X.env) [] (backTo pos (starEach (e :: es) X.env)) (backToKw pos (keywordEach [] X.env)))) :
    PE X (.Call fe (e :: es) [] pos) (ERd T X.K W (eCallO D cl tf l)) := by
  refine ⟨fun pins s σ H Q I h => ?_⟩
  refine Call_ (thn (hf.run pins s σ H _ I (vlg_of (ty := fun v _ => isRef v) h)) fun u s1 ⟨y, H1, I1, ry, ⟨f0, A0, v0, rl0, rv0, e0⟩, q⟩ => ?_) ht
  obtain ⟨ad, ey⟩ := isRef_ok rv0 e0
  subst ey
  obtain rfl : u = Value.ref ad := ry
  refine StX.callO_with (thn (ha.run pos pins s1 σ H1 _ I1 q) fun us s2 ⟨xs, H2, I2, rx, f, A, v, vs, rl, rv, rs, q2⟩ => ?_) (star_cons n1) (stars_any n2)
  unfold pCallO at q2
  cases e3 : methAt D 7 v A with
  | none => rw [e3] at q2; exact q2.elim
  | some k =>
    rw [e3] at q2
    obtain ⟨pp, ep, ⟨O⟩⟩ := own_at F I2 rl rv e3 (callK_def q2)
    cases ep
    have hfind := O.find
    rw [F.nm 7 _ rfl] at hfind
    refine ⟨⟨_, _, _, O.at_, rfl⟩, ?_⟩
    exact wpAny_call (PySem.W.kco_code I2.kIn O.at_ rfl hfind O.fn O.fi (z_codeA F tk k (A' := X.A) (us := .ref ad :: us) (hr.mono (Nat.le_succ _)) rfl I2 (.cons (show RelV (V.ref ad) (Value.ref ad) from rfl) rx) rl (.cons rv rs) q2))
end
end Z
end
section
/-! Z20: methods of built-ins; dicts written down; assignments in place. -/
namespace Z
open PySem PySem.Spec PyProof.Rows L2
section
variable {X : Cx} {T : Tbl} {W : WX} {D : Desc} {cl : Calls} {lv : Nat}
variable {e o e2 : Expr} {es : List Expr} {te to tf : EV} {l : Sl → AH → RL} {p sp pos apos cpos : Pos} {x name : Str}
def eBM (ty : AV → AH → Bool) (p : AV → List AV → AH → RE) (to : EV) (l : Sl → AH → RL) : EV := fun s A => (to s A).bd fun v A1 => guard (ty v A1) ((l s A1).bd fun vs A2 => p v vs A2)
theorem few_ok {env : Env} (hs : es.all noStar = true) (hl : Nat.blt es.length 30 = true) : ((backTo cpos (starEach es env)).all (fun x => !x.1) && (backToKw cpos (keywordEach [] env)).all (fun x => x.1.isSome)
      && decide (es.length + ([] : List Keyword).length + (if ([] : List Keyword).isEmpty then 0 else 1) < 30)) = true := by
  rw [stars_all hs]
  have : es.length < 30 := by rw [Nat.blt_eq] at hl; exact hl
  rw [show (backToKw cpos (keywordEach [] env)).all (fun x => x.1.isSome) = true from rfl]
  simp [this]
theorem ze_bm {ty : AV → AH → Bool} {q : AV → List AV → AH → RE} {Ty id : String} {r : V → List V → Hp → VK → Prop} (pa : PlainAttrs Ty) (slot : Slot Ty name id) (hty : typeOf (.builtin id) = pure (.type "method_descriptor")) (hm : MtR X id r)
    (h1 : ∀ g A H v x, Rel T X.K g A H → RV T X.K g A.n H v x → ty v A = true → tyV X.K Ty x H) (h2 : ∀ g A H v x vs xs σ Q, Rel T X.K g A H → RV T X.K g A.n H v x → RVs T X.K g A.n H vs xs → Post T X.K W g A H σ Q (q v vs A) → r x xs H Q)
    (ho : PE X o (ERd T X.K W to)) (ha : PA X (e :: es) (ARd T X.K W l)) (hb : dotOk o = true) (n1 : noStar e = true) (n2 : es.all noStar = true) (hl : (apos.endLine == cpos.line) = true) (hlen : Nat.blt (e :: es).length 30 = true) :
    PE X (.Call (.Attribute o name apos) (e :: es) [] cpos) (ERd T X.K W (eBM ty q to l)) := by
  refine (pe_bm pa slot hty hm ho ha (dot_ok hb) (few_ok (by rw [List.all_cons, n1, n2]; rfl) hlen) hl (star_cons n1) (stars_any n2)).im fun σ H Q h => ?_
  exact (vlg_of h).mono fun y H1 ⟨⟨f, A, v, rl, rv, et⟩, h3⟩ => ⟨h1 f A H1 v y rl rv et, h3.mono fun xs H2 ⟨f2, A2, v2, vs, rl2, rv2, rs, q2⟩ => h2 f2 A2 H2 v2 y vs xs σ Q rl2 rv2 rs q2⟩
/-! lists -/
def isL (v : AV) (A : AH) : Bool := match v with
  | .ref i => (match A.get i with
    | some (.lst _) => true
    | _ => false)
  | _ => false
theorem isL_ok (g : Nat → Addr) (A : AH) (H : Hp) (v : AV) (x : V) (rl : Rel T X.K g A H) (rv : RV T X.K g A.n H v x) (h : isL v A = true) : tyV X.K "list" x H := by
  unfold isL at h
  split at h
  · rename_i i
    split at h
    · rename_i xs e
      obtain ⟨_, ws, hw, _⟩ := rl.ob i _ e
      rw [rv.2]
      exact .inl ⟨rfl, ws, .inl (.inl hw)⟩
    · cases h
  · cases h
def pAppend (v : AV) (vs : List AV) (A : AH) : RE := match v with
  | .ref i => (match vs with
    | [y] => (match A.get i with
      | some (.lst xs) => (match Nat.blt xs.length 16777216 with
        | true => .ok .non (A.set i (.lst (xs ++ [y])))
        | false => .bad)
      | _ => .bad)
    | _ => .bad)
  | _ => .bad
theorem append_h (g : Nat → Addr) (A : AH) (H : Hp) (v : AV) (x : V) (vs : List AV) (xs : List V) (σ : L2.St) (Q : VK) (rl : Rel T X.K g A H) (rv : RV T X.K g A.n H v x) (rs : RVs T X.K g A.n H vs xs) (q : Post T X.K W g A H σ Q (pAppend v vs A)) : rAppend x xs H Q := by
  unfold pAppend at q
  split at q
  · rename_i i
    split at q
    · rename_i y
      obtain ⟨u, ex, r⟩ := rvs1 rs
      split at q
      · rename_i ys e
        split at q
        · rename_i el
          obtain ⟨_, ws, hw, rws⟩ := rl.ob i _ e
          have he := he_upd (K := X.K) (o := .lst (ws ++ [u])) hw (fun _ z => nomatch z) (fun _ _ z => nomatch z)
          have hf : ∀ j, j < A.n → g j = g j := fun _ _ => rfl
          have st : Stp T X.K g A H g (A.set i (.lst (ys ++ [y]))) (upd H (g i) (.lst (ws ++ [u]))) := rl.chg e (fun b hb => upd_ne hb) he ⟨ws ++ [u], upd_same, Paired.snoc (RVs.mono rws he hf (Nat.le_refl _)) (RV.mono r he hf (Nat.le_refl _))⟩
          exact ⟨g i, ws, u, rv.2, ex, hw, by rw [← rws.length, line_eq]; exact (Nat.blt_eq ▸ el : ys.length < 16777216), q g _ .non st rfl⟩
        · exact q.elim
      · exact q.elim
    · exact q.elim
  · exact q.elim
def pExtend (v : AV) (vs : List AV) (A : AH) : RE := match v with
  | .ref i => (match vs with
    | [.ref j] => (match A.get i with
      | some (.lst xs) => (match A.get j with
        | some (.lst ys) => (match Nat.ble (xs ++ ys).length 16777216 with
          | true => .ok .non (A.set i (.lst (xs ++ ys)))
          | false => .bad)
        | _ => .bad)
      | _ => .bad)
    | _ => .bad)
  | _ => .bad
theorem extend_h (g : Nat → Addr) (A : AH) (H : Hp) (v : AV) (x : V) (vs : List AV) (xs : List V) (σ : L2.St) (Q : VK) (rl : Rel T X.K g A H) (rv : RV T X.K g A.n H v x) (rs : RVs T X.K g A.n H vs xs) (q : Post T X.K W g A H σ Q (pExtend v vs A)) : rExtend x xs H Q := by
  unfold pExtend at q
  split at q
  · rename_i i
    split at q
    · rename_i j
      obtain ⟨u, ex, r⟩ := rvs1 rs
      split at q
      · rename_i ys e
        split at q
        · rename_i zs e2
          split at q
          · rename_i el
            obtain ⟨_, ws, hw, rws⟩ := rl.ob i _ e
            obtain ⟨_, us, hu, rus⟩ := rl.ob j _ e2
            have he := he_upd (K := X.K) (o := .lst (ws ++ us)) hw (fun _ z => nomatch z) (fun _ _ z => nomatch z)
            have hf : ∀ j, j < A.n → g j = g j := fun _ _ => rfl
            have st : Stp T X.K g A H g (A.set i (.lst (ys ++ zs))) (upd H (g i) (.lst (ws ++ us))) := rl.chg e (fun b hb => upd_ne hb) he ⟨ws ++ us, upd_same, app_rvs (RVs.mono rws he hf (Nat.le_refl _)) (RVs.mono rus he hf (Nat.le_refl _))⟩
            refine ⟨g i, g j, ws, us, rv.2, by rw [ex, r.2], hw, hu, ?_, q g _ .non st rfl⟩
            have := Nat.le_of_ble_eq_true el
            rw [List.length_append] at this
            rw [line_eq, ← rws.length, ← rus.length]
            exact this
          · exact q.elim
        · exact q.elim
      · exact q.elim
    · exact q.elim
  · exact q.elim
/-! d.get(k), d.get(k, x) -/
def isDV (v : AV) (A : AH) : Bool := match v with
  | .ref i => (match A.get i with
    | some (.dct _ _ _) => true
    | _ => false)
  | _ => false
theorem isDV_ok {g : Nat → Addr} {A : AH} {H : Hp} {v : AV} {x : V} (rl : Rel T X.K g A H) (rv : RV T X.K g A.n H v x) (h : isDV v A = true) : ∃ a, x = .ref a ∧ IsD H a := by
  unfold isDV at h
  split at h
  · rename_i i
    split at h
    · rename_i t lk kvs e
      obtain ⟨_, ob⟩ := rl.ob i _ e
      refine ⟨g i, rv.2, ?_⟩
      cases t with
      | false => obtain ⟨ws, hw, _⟩ := ob; exact .inl ⟨ws, hw.rd⟩
      | true => obtain ⟨ws, hw, _⟩ := ob; exact .inr ⟨ws, hw.rd⟩
    · cases h
  · cases h
def pDGet (v : AV) (vs : List AV) (A : AH) : RE := match vs with
  | [k] => (match pGet v k A with
    | some o => (match o with
      | some w => .ok w A
      | none => .ok .non A)
    | none => .bad)
  | [k, d] => (match pGet v k A with
    | some o => (match o with
      | some w => .ok w A
      | none => .ok d A)
    | none => .bad)
  | _ => .bad
theorem ze_dget1 (hu : X.A.units + 64 < cLine) (ho : PE X o (ERd T X.K W to)) (he : PE X e (ERd T X.K W te)) (hb : dotOk o = true) (n1 : noStar e = true) (hl : (apos.endLine == cpos.line) = true) :
    PE X (.Call (.Attribute o "get" apos) [e] [] cpos) (ERd T X.K W (eBM isDV pDGet to (lCons te lNil))) := by
  have m : M1 X o "get" apos e cpos := ⟨dot_ok hb, few_ok (es := [e]) (by rw [List.all_cons, n1]; rfl) rfl, hl, by rw [star_cons n1]; rfl⟩
  refine (pe_dget1 (by omega) ho he m).im fun σ H Q h => ?_
  refine (vlg_of h).mono fun y H1 ⟨⟨f, A, v, rl, rv, et⟩, h3⟩ => ?_
  obtain ⟨a, ey, hd⟩ := isDV_ok rl rv et
  refine ⟨a, ey, hd, ?_⟩
  refine (lcons_rd h3).mono fun u H2 h4 => ?_
  obtain ⟨f4, A4, s4, a4, q4⟩ := h4
  obtain ⟨f2, A2, v2, vs, rl2, rv2, rs, q2⟩ := q4 f4 H2 [] (.rfl' a4.rel) .nil
  obtain ⟨k, rfl⟩ : ∃ k, vs = [k] := by
    cases rs with | cons r1 r2 => cases r2; exact ⟨_, rfl⟩
  obtain ⟨u', eu, rk⟩ := rvs1 rs
  cases eu
  unfold pDGet at q2
  simp only at q2
  cases e5 : pGet v2 k A2 with
  | none => rw [e5] at q2; exact q2.elim
  | some oo =>
    rw [e5] at q2
    obtain ⟨ad, ov, ex, dg, g1, g2⟩ := pGet_ok rl2 rv2 rk e5
    rw [ey] at ex
    cases ex
    refine ⟨ov, dg, ?_⟩
    cases oo with
    | some w => obtain ⟨z, ez, rz⟩ := g1 w rfl; rw [ez]; exact Post.now q2 rl2 rz
    | none => rw [g2 rfl]; exact Post.now q2 rl2 rfl
theorem nil_rd {σ : L2.St} {H : Hp} {Q : List V → Hp → Prop} (h : ARd T X.K W lNil σ H Q) : Q [] H := by
  obtain ⟨f, A, s, a, q⟩ := h
  exact q f H [] (.rfl' a.rel) .nil
theorem ze_dget2 (hu : X.A.units + 64 < cLine) (ho : PE X o (ERd T X.K W to)) (he : PE X e (ERd T X.K W te)) (he2 : PE X e2 (ERd T X.K W tf)) (hb : dotOk o = true) (n1 : noStar e = true) (n2 : noStar e2 = true) (hl : (apos.endLine == cpos.line) = true) :
    PE X (.Call (.Attribute o "get" apos) [e, e2] [] cpos) (ERd T X.K W (eBM isDV pDGet to (lCons te (lCons tf lNil)))) := by
  have m : M2 X o "get" apos e e2 cpos := ⟨dot_ok hb, few_ok (es := [e, e2]) (by rw [List.all_cons, n1, List.all_cons, n2]; rfl) rfl, hl, by rw [star_cons n1, star_cons n2]; rfl⟩
  refine (pe_dget2 (by omega) ho he he2 m).im fun σ H Q h => ?_
  refine (vlg_of h).mono fun y H1 ⟨⟨f, A, v, rl, rv, et⟩, h3⟩ => ?_
  obtain ⟨a, ey, hd⟩ := isDV_ok rl rv et
  refine ⟨a, ey, hd, ?_⟩
  refine (lcons_rd h3).mono fun u H2 h4 => (lcons_rd h4).mono fun u2 H3 h5 => ?_
  obtain ⟨f2, A2, v2, vs, rl2, rv2, rs, q2⟩ := nil_rd h5
  obtain ⟨k, d, rfl⟩ : ∃ k d, vs = [k, d] := by
    cases rs with | cons r1 r2 => cases r2 with | cons r3 r4 => cases r4; exact ⟨_, _, rfl⟩
  obtain ⟨u', d', eu, rk, rd⟩ := rvs2 rs
  cases eu
  unfold pDGet at q2
  simp only at q2
  cases e5 : pGet v2 k A2 with
  | none => rw [e5] at q2; exact q2.elim
  | some oo =>
    rw [e5] at q2
    obtain ⟨ad, ov, ex, dg, g1, g2⟩ := pGet_ok rl2 rv2 rk e5
    rw [ey] at ex
    cases ex
    refine ⟨ov, dg, ?_⟩
    cases oo with
    | some w => obtain ⟨z, ez, rz⟩ := g1 w rfl; rw [ez]; exact Post.now q2 rl2 rz
    | none => rw [g2 rfl]; exact Post.now q2 rl2 rd
/-! ## dicts written down -/
/-- the pairs, one after the other -/
def lPairs : List (EV × EV) → Sl → AH → RL
  | [] => lNil
  | p :: r => lCons p.1 (lCons p.2 (lPairs r))
def unPair : List AV → Option (List (AV × AV))
  | [] => some []
  | k :: r => (match r with
    | [] => none
    | v :: q => (match isK k with
      | true => (match unPair q with
        | some l => some ((k, v) :: l)
        | none => none)
      | false => none))
theorem pairs_rd : ∀ {ps : List (EV × EV)} {σ : L2.St} {H : Hp} {Q : List V → Hp → Prop}, ARd T X.K W (lPairs ps) σ H Q → tPairs (ps.map fun p => (ERd T X.K W p.1, ERd T X.K W p.2)) σ H fun qs H2 => Q (qs.flatMap fun p => [p.1, p.2]) H2
  | [], σ, H, Q, h => nil_rd h
  | p :: r, σ, H, Q, h => (lcons_rd h).mono fun x H1 h1 => (lcons_rd h1).mono fun y H2 h2 => pairs_rd h2
theorem unPair_ok {g : Nat → Addr} {n : Nat} {H : Hp} : ∀ (qs : List (V × V)) {vs : List AV} {kvs : List (AV × AV)}, unPair vs = some kvs → RVs T X.K g n H vs (qs.flatMap fun p => [p.1, p.2]) → ∃ ws : List (Key × V), qs = ws.map (fun kv => (kV kv.1, kv.2)) ∧ DRl T X.K g n H kA kvs ws
  | [], vs, kvs, e, r => by cases r; cases e; exact ⟨[], rfl, .nil⟩
  | p :: qs, vs, kvs, e, r => by
    have r : RVs T X.K g n H vs (p.1 :: p.2 :: (qs.flatMap fun p => [p.1, p.2])) := r
    cases r with
    | cons r1 r2 =>
      cases r2 with
      | cons r2 r3 =>
        unfold unPair at e
        simp only at e
        split at e
        · rename_i ek
          split at e
          · rename_i l el
            cases e
            obtain ⟨kk, rfl⟩ := isK_ok ek
            obtain ⟨ws, ew, rw'⟩ := unPair_ok qs el r3
            obtain ⟨p1, p2⟩ := p
            exact ⟨(kk, p2) :: ws, by rw [ew, List.map_cons, ← show p1 = kV kk from kA_of r1], .cons ⟨rfl, r2⟩ rw'⟩
          · cases e
        · cases e
def eDisp (ps : List (EV × EV)) : EV := fun s A => (lPairs ps s (A.push (.dct false 0 []))).bd fun vs A1 => match unPair vs with
  | some kvs => (match Nat.ble kvs.length 15 with
    | true => (match A1.get A.n with
      | some (.dct false lk old) => (match lk with
        | 0 => (match old with
          | [] => .ok (.ref A.n) (A1.set A.n (.dct false 0 (dmerge [] kvs)))
          | _ :: _ => .bad)
        | _ + 1 => .bad)
      | _ => .bad)
    | false => .bad)
  | none => .bad
theorem ze_disp {keys : List (Option Expr)} {values : List Expr} {ps : List (EV × EV)} (h : PPs X pos keys values (ps.map fun p => (ERd T X.K W p.1, ERd T X.K W p.2))) (hall : keys.all (·.isSome) = true) (hl : keys.length = values.length) (h0 : keys ≠ []) (h15 : keys.length ≤ 15) :
    PE X (.Dict keys values pos) (ERd T X.K W (eDisp ps)) := by
  refine (pe_disp h hall hl h0 h15).im fun σ H Q ⟨f, A, s, a, q⟩ p hp => ?_
  have hs := HS.upd (o := .dK []) hp
  have st0 : Stp T X.K f A H (ext f A.n p) (A.push (.dct false 0 [])) (upd H p (.dK [])) := a.rel.add hs hp ⟨[], upd_same, .nil⟩
  have z : ARd T X.K W (lPairs ps) σ (upd H p (.dK [])) fun xs H2 => ∃ f2 A2 vs, Stp T X.K (ext f A.n p) (A.push (.dct false 0 [])) (upd H p (.dK [])) f2 A2 H2 ∧ RVs T X.K f2 A2.n H2 vs xs ∧ Post T X.K W f2 A2 H2 σ Q (match unPair vs with
      | some kvs => (match Nat.ble kvs.length 15 with
        | true => (match A2.get A.n with
          | some (.dct false lk old) => (match lk with
            | 0 => (match old with
              | [] => .ok (.ref A.n) (A2.set A.n (.dct false 0 (dmerge [] kvs)))
              | _ :: _ => .bad)
            | _ + 1 => .bad)
          | _ => .bad)
        | false => .bad)
      | none => .bad) := by
    refine ⟨_, _, s, a.step st0, ?_⟩
    have q1 := Post.step q st0
    unfold eDisp at q1
    cases e : lPairs ps s (A.push (.dct false 0 [])) with
    | bad => rw [e] at q1; exact q1
    | ex c fs A2 => rw [e] at q1; exact q1
    | ok vs A2 => rw [e] at q1; exact fun f2 H2 us st rs => ⟨f2, A2, vs, st, rs, Post.step q1 st⟩
  have mono : ∀ (l : List (TE × TE)) (hm : ∀ t ∈ l, (∀ σ H Q Q', t.1 σ H Q → (∀ u H, Q u H → Q' u H) → t.1 σ H Q') ∧ (∀ σ H Q Q', t.2 σ H Q → (∀ u H, Q u H → Q' u H) → t.2 σ H Q')) (σ : L2.St) (H : Hp) (Q Q' : List (V × V) → Hp → Prop), tPairs l σ H Q → (∀ u H, Q u H → Q' u H) → tPairs l σ H Q' := by
    intro l
    induction l with
    | nil => intro _ σ H Q Q' h i; exact i _ _ h
    | cons t l ih =>
      intro hm σ H Q Q' h i
      obtain ⟨m1, m2⟩ := hm t List.mem_cons_self
      exact m1 σ H _ _ h fun x H1 h1 => m2 σ H1 _ _ h1 fun y H2 h2 => ih (fun t ht => hm t (List.mem_cons_of_mem _ ht)) σ H2 _ _ h2 fun u H3 h3 => i _ _ h3
  refine mono _ (fun t ht => ?_) σ _ _ _ (pairs_rd z) fun qs H2 ⟨f2, A2, vs, st, rs, q2⟩ => ?_
  · obtain ⟨p, _, ep⟩ := List.mem_map.mp ht
    subst ep
    exact ⟨fun σ H Q Q' h i => ERd.mono h i, fun σ H Q Q' h i => ERd.mono h i⟩
  · split at q2
    · rename_i kvs e
      split at q2
      · rename_i e15
        split at q2
        · rename_i lk old eg
          split at q2
          · split at q2
            · obtain ⟨ws, ew, rw'⟩ := unPair_ok qs e rs
              obtain ⟨hi, ws0, hw0, pr0⟩ := st.rel.ob A.n _ eg
              have fe : f2 A.n = p := (st.eq _ (Nat.lt_succ_self _)).trans ext_at
              cases pr0
              have hw0 : H2 (f2 A.n) = some (.dK []) := hw0
              rw [fe] at hw0
              have l15 := Nat.le_of_ble_eq_true e15
              have he : HE X.K H2 (upd H2 p (.dK (mergeK [] ws))) := he_upd hw0 (fun _ z => nomatch z) (fun _ _ z => nomatch z)
              have hf : ∀ j, j < A2.n → f2 j = f2 j := fun _ _ => rfl
              have pr2 : DRl T X.K f2 A2.n (upd H2 p (.dK (mergeK [] ws))) kA kvs ws := Paired.mono (fun _ _ q => ⟨q.1, q.2.mono he hf (Nat.le_refl _)⟩) rw'
              have st2 : Stp T X.K f2 A2 H2 f2 (A2.set A.n (.dct false 0 (dmerge [] kvs))) (upd H2 p (.dK (mergeK [] ws))) := st.rel.chg eg (fun b hb => upd_ne (by rw [← fe]; exact hb)) he ⟨mergeK [] ws, by rw [fe]; exact upd_same, dmerge_ok pr2 .nil⟩
              exact ⟨hw0, ws, ew, by rw [← rw'.length]; exact l15, q2 f2 _ (.ref p) st2 ⟨hi, by rw [fe]⟩⟩
            · exact q2.elim
          · exact q2.elim
        · exact q2.elim
      · exact q2.elim
    · exact q2.elim
end
end Z
end
section
/-! Z21: assignments in place, stores in another order. -/
namespace Z
open PySem PySem.Spec PyProof.Rows L2
section
variable {X : Cx} {T : Tbl} {W : WX} {D : Desc} {cl : Calls} {lv : Nat}
variable {e a b c : Expr} {te : EV} {l : Sl → AH → RL} {pos px py pz pt : Pos} {x y z : Str}
def sAugI (i : Nat) (fo : Int → Int → Int) (te : EV) : SV := fun s A => match s[i]? with
  | some (some v) => (te s A).bs s fun w A1 => (match v with
    | .int a => (match w with
      | .int b => .nx (s.set i (some (.int (fo a b)))) A1
      | _ => .bad)
    | _ => .bad)
  | _ => .bad
theorem zs_aug {i : Nat} {op : Operator} {fo : Int → Int → Int} (ho : PIp X op (ipI fo)) (hN : X.N.Nodup) (hi : X.N[i]? = some x) (hx : Loc X.env.scope x) (hf : X.fn x = true ∨ X.env.scope.names.lookup x = some .local) (he : PE X e (ERd T X.K W te)) :
    PS X (.AugAssign (.Name x px) op e pos) (SRd T X.K W (sAugI i fo te)) := by
  refine (ps_aug hN hi hx he ho hf).im fun D' σ H ⟨f, A, s, at_, q⟩ => ?_
  unfold sAugI at q
  split at q
  · rename_i v es
    obtain ⟨u, eu, ru⟩ := at_.sr.2 i v es
    refine ⟨u, eu, (esK at_ (.cons ru .nil) q).mono fun y H1 ⟨f1, A1, w, a1, r1, q1⟩ => ?_⟩
    cases r1 with | cons rw' r1 => ?_
    cases r1 with | cons rv r1 => ?_
    cases v with
    | int ia =>
      cases w with
      | int ib => exact ⟨ia, ib, rv, rw', q1 f1 H1 _ (.rfl' a1.rel) (set_rel a1.sr (v := .int (fo ia ib)) rfl i)⟩
      | _ => exact q1.elim
    | _ => exact q1.elim
  · exact q.elim
/-! two or three names at once -/
def RL.bs (r : RL) (s : Sl) (k : List AV → AH → RS) : RS := match r with
  | .ok v A => k v A
  | .ex c fs A => .ex c fs s A
  | .bad => .bad
def sPar (is : List Nat) (l : Sl → AH → RL) : SV := fun s A => (l s A).bs s fun vs A1 => go is vs s A1
where go : List Nat → List AV → Sl → AH → RS
  | [], vs, s, A => (match vs with
    | [] => .nx s A
    | _ => .bad)
  | i :: r, vs, s, A => (match vs with
    | [] => .bad
    | v :: q => go r q (s.set i (some v)) A)
/-- a list of expressions, then a statement's step -/
theorem als {f : Nat → Addr} {A : AH} {s : Sl} {σ : L2.St} {H : Hp} {D' : Ends} {k : List AV → AH → RS} (a : At T X.K f A s σ H) (q : PostS T X.K W f A H D' ((l s A).bs s k)) :
    ARd T X.K W l σ H fun us H1 => ∃ f A vs, At T X.K f A s σ H1 ∧ RVs T X.K f A.n H1 vs us ∧ PostS T X.K W f A H1 D' (k vs A) := by
  refine ⟨f, A, s, a, ?_⟩
  cases e : l s A with
  | ok v A1 => rw [e] at q; exact fun f1 H1 u st r => ⟨f1, A1, v, a.step st, r, PostS.step q st⟩
  | ex c fs A1 => rw [e] at q; exact fun f1 H1 d st x => q f1 H1 σ d st (st.sr a.sr) x
  | bad => rw [e] at q; exact q
theorem zs_par {i j : Nat} {kt k2 : Nat} {pt2 : Pos} (hc : X.calm = true) (hN : X.N.Nodup) (hi : X.N[i]? = some x) (hj : X.N[j]? = some y) (hij : i ≠ j) (hx : X.env.scope.names.lookup x = some .local) (hy : X.env.scope.names.lookup y = some .local) (ha : PA X [a, b] (ARd T X.K W l))
    (hw : swappedStores [.Tuple [.Name x px, .Name y py] kt pt] (.Tuple [a, b] k2 pt2) X.env = pure (some [x, y]))
    (hs : swapsWithSole [.Tuple [.Name x px, .Name y py] kt pt] (.Tuple [a, b] k2 pt2) pos.line X.env = pure false) :
    PS X (.Assign [.Tuple [.Name x px, .Name y py] kt pt] (.Tuple [a, b] k2 pt2) pos) (SRd T X.K W (sPar [i, j] l)) := by
  refine (ps_par hc hN hi hj hij hx hy ha hw hs).im fun D' σ H ⟨f, A, s, at_, q⟩ => ?_
  unfold sPar at q
  refine (als at_ q).mono fun us H1 ⟨f1, A1, vs, a1, rs, q1⟩ => ?_
  obtain ⟨v, w, rfl⟩ : ∃ v w, vs = [v, w] := by
    match vs, q1 with
    | [], q1 => exact q1.elim
    | [_], q1 => exact q1.elim
    | [v, w], _ => exact ⟨v, w, rfl⟩
    | _ :: _ :: _ :: _, q1 => exact q1.elim
  obtain ⟨u1, u2, eu, r1, r2⟩ := rvs2 rs
  exact ⟨u1, u2, eu, q1 f1 H1 _ (.rfl' a1.rel) (set_rel (set_rel a1.sr r1 i) r2 j)⟩
theorem rvs3 {g : Nat → Addr} {n : Nat} {H : Hp} {v w o : AV} {xs : List V} (r : RVs T X.K g n H [v, w, o] xs) : ∃ x y z, xs = [x, y, z] ∧ RV T X.K g n H v x ∧ RV T X.K g n H w y ∧ RV T X.K g n H o z := by
  cases r with
  | cons r rr =>
    obtain ⟨y, z, e, r2, r3⟩ := rvs2 rr
    rw [e]
    exact ⟨_, y, z, rfl, r, r2, r3⟩
theorem zs_par3 {i j k : Nat} {kt k2 : Nat} {pt2 : Pos} (hc : X.calm = true) (hN : X.N.Nodup) (hi : X.N[i]? = some x) (hj : X.N[j]? = some y) (hk : X.N[k]? = some z) (hij : i ≠ j) (hik : i ≠ k) (hjk : j ≠ k) (hx : X.env.scope.names.lookup x = some .local) (hy : X.env.scope.names.lookup y = some .local) (hz : X.env.scope.names.lookup z = some .local) (ha : PA X [a, b, c] (ARd T X.K W l))
    (hw : swappedStores [.Tuple [.Name x px, .Name y py, .Name z pz] kt pt] (.Tuple [a, b, c] k2 pt2) X.env = pure (some [x, y, z]))
    (hs : swapsWithSole [.Tuple [.Name x px, .Name y py, .Name z pz] kt pt] (.Tuple [a, b, c] k2 pt2) pos.line X.env = pure false) :
    PS X (.Assign [.Tuple [.Name x px, .Name y py, .Name z pz] kt pt] (.Tuple [a, b, c] k2 pt2) pos) (SRd T X.K W (sPar [i, j, k] l)) := by
  refine (ps_par3 hc hN hi hj hk hij hik hjk hx hy hz ha hw hs).im fun D' σ H ⟨f, A, s, at_, q⟩ => ?_
  unfold sPar at q
  refine (als at_ q).mono fun us H1 ⟨f1, A1, vs, a1, rs, q1⟩ => ?_
  obtain ⟨v, w, o, rfl⟩ : ∃ v w o, vs = [v, w, o] := by
    match vs, q1 with
    | [], q1 => exact q1.elim
    | [_], q1 => exact q1.elim
    | [_, _], q1 => exact q1.elim
    | [v, w, o], _ => exact ⟨v, w, o, rfl⟩
    | _ :: _ :: _ :: _ :: _, q1 => exact q1.elim
  obtain ⟨u1, u2, u3, eu, r1, r2, r3⟩ := rvs3 rs
  exact ⟨u1, u2, u3, eu, q1 f1 H1 _ (.rfl' a1.rel) (set_rel (set_rel (set_rel a1.sr r1 i) r2 j) r3 k)⟩
end
end Z
end
section
/-! Z22: match. -/
namespace Z
open PySem PySem.Spec PyProof.Rows L2
/-- a pattern without names: whether it fits -/
structure PPat (X : Cx) (pt : Pattern) (t : V → TT) : Prop where
  run : ∀ (pins : List (Addr × Obj)) (s : Shared) (σ : L2.St) (H : Hp) (x : V) (v : Value) (Q : Bool → Hp → Prop), Inv X pins σ H s → RelV x v → t x σ H Q →
    wpAny (model X.prog X.w) X.A (matchPattern pt X.env v) (fun r s' => ∃ b H', Inv X pins σ H' s' ∧ Q b H' ∧ r = (match b with | true => some [] | false => none)) X.xe s
structure PMc (X : Cx) (cs : List MatchCase) (t : V → TS) : Prop where
  run : ∀ (pins : List (Addr × Obj)) (s : Shared) (σ : L2.St) (H : Hp) (x : V) (v : Value) (first : Bool) (D : Ends), Inv X pins σ H s → RelV x v → t x D σ H →
    wpAny (model X.prog X.w) X.A (matchCases cs X.env v first) (SP X pins D) X.xe s
abbrev MT := AV → Sl → AH → RE
abbrev MV := AV → SV
section
variable (T : Tbl) (K : PySem.W.Frag) (W : WX)
def MTRd (m : MT) : V → TT := fun x σ H Q => ∃ f A s v, At T K f A s σ H ∧ RV T K f A.n H v x ∧ PostB T K W f A H σ Q (m v s A)
def MRd (m : MV) : V → TS := fun x D σ H => ∃ f A s v, At T K f A s σ H ∧ RV T K f A.n H v x ∧ PostS T K W f A H D (m v s A)
end
def pvVal (p : AV → AV → AH → RE) (tv : EV) : MT := fun v s A => (tv s A).bd fun w A1 => p v w A1
def pvOr (a b : MT) : MT := fun v s A => bnd (a v s A) fun c A1 => match c with
  | true => .ok (.bl true) A1
  | false => b v s A1
def mNil : MV := fun _ s A => .nx s A
def mAny (b : SV) : MV := fun _ s A => b s A
def mCap (i : Nat) (b : SV) : MV := fun v s A => b (s.set i (some v)) A
def mArm (m : MT) (b : SV) (r : MV) : MV := fun v s A => (m v s A).bs s fun c A1 => match c with
  | .bl c => (match c with
    | true => b s A1
    | false => r v s A1)
  | _ => .bad
def mArmG (m : MT) (g : EV) (b : SV) (r : MV) : MV := fun v s A => (m v s A).bs s fun c A1 => match c with
  | .bl c => (match c with
    | true => (g s A1).bs s fun d A2 => (match d with
      | .bl d => (match d with
        | true => b s A2
        | false => r v s A2)
      | _ => .bad)
    | false => r v s A1)
  | _ => .bad
def sMatch (te : EV) (m : MV) : SV := fun s A => (te s A).bs s fun v A1 => m v s A1
section
variable {X : Cx} {T : Tbl} {W : WX} {e g : Expr} {te tv tg : EV} {pos ppos : Pos} {pt pt2 : Pattern} {pts : List Pattern} {body : List Stmt} {rest : List MatchCase} {b : SV} {m m2 : MT} {r : MV}
theorem zp_val {p : AV → AV → AH → RE} (hp : OpZ X T W (compareOp .Eq) p) (he : PE X e (ERd T X.K W tv)) : PPat X (.MatchValue e ppos) (MTRd T X.K W (pvVal p tv)) := by
  refine ⟨fun pins s σ H x v Q I rx ⟨f, A, sl, va, a, rv, q⟩ => ?_⟩
  refine wpAny_matchPattern_Value (thn (he.run pins s σ H (fun y H1 => ∃ f A va w, Rel T X.K f A H1 ∧ RV T X.K f A.n H1 va x ∧ RV T X.K f A.n H1 w y ∧ PostB T X.K W f A H1 σ Q (p va w A)) I ?_) fun u s1 ⟨y, H1, I1, ry, f1, A1, v1, w1, rl, r1, r2, q1⟩ => ?_)
  · refine ⟨f, A, sl, a, ?_⟩
    unfold pvVal at q
    cases e1 : tv sl A with
    | bad => rw [e1] at q; exact q
    | ex c fs A1 => rw [e1] at q; exact q
    | ok w A1 => rw [e1] at q; exact fun f1 H1 u st ru => ⟨f1, A1, va, w, st.rel, st.rv rv, ru, PostB.step q st⟩
  · have q2 : Post T X.K W f1 A1 H1 σ (fun z H2 => ∃ k, z = .bl k ∧ Q k H2) (p v1 w1 A1) := by
      cases e1 : p v1 w1 A1 with
      | bad => rw [e1] at q1; exact q1
      | ex c fs A2 => rw [e1] at q1; exact q1
      | ok z A2 =>
        rw [e1] at q1
        cases z with
        | bl k => exact fun f2 H2 u st ru => ⟨k, ru, q1 f2 H2 st⟩
        | _ => exact q1.elim
    refine thn (hp pins s1 σ H1 x y v u _ f1 A1 v1 w1 I1 rx ry rl r1 r2 q2) fun c s2 ⟨z, H2, I2, rz, k, ez, qk⟩ => ?_
    subst ez
    cases rz
    refine wpAny_truthy_bool ?_
    cases k with
    | true => exact ⟨true, H2, I2, qk, rfl⟩
    | false => exact ⟨false, H2, I2, qk, rfl⟩
/-- a match's arm behind the pattern -/
theorem arm_of {D : Ends} {σ : L2.St} {H : Hp} {x : V} {k : Bool → MV} (h : ∃ f A s v, At T X.K f A s σ H ∧ RV T X.K f A.n H v x ∧ PostS T X.K W f A H D ((m v s A).bs s fun c A1 => match c with | .bl c => k c v s A1 | _ => .bad)) :
    MTRd T X.K W m x σ H fun c H1 => MRd T X.K W (k c) x D σ H1 := by
  obtain ⟨f, A, s, v, a, rv, q⟩ := h
  refine ⟨f, A, s, v, a, rv, ?_⟩
  cases e : m v s A with
  | bad => rw [e] at q; exact q
  | ex c fs A1 => rw [e] at q; exact fun f1 H1 d st x => q f1 H1 σ d st (st.sr a.sr) x
  | ok w A1 =>
    rw [e] at q
    cases w with
    | bl c => exact fun f1 H1 st => ⟨f1, A1, s, v, a.step st, st.rv rv, PostS.step q st⟩
    | _ => exact q.elim
theorem zm_nil : PMc X [] (MRd T X.K W mNil) := ⟨fun pins s σ H x v first D I rx ⟨f, A, sl, va, a, rv, q⟩ => wpAny_matchCases_nil ⟨σ, H, I, q f H σ (.rfl' a.rel) a.sr⟩⟩
theorem zm_any (hb : PSs X body (SRd T X.K W b)) : PMc X (⟨.MatchAs none none ppos, none, body⟩ :: rest) (MRd T X.K W (mAny b)) :=
  ⟨fun pins s σ H x v first D I rx ⟨f, A, sl, va, a, rv, q⟩ => wpAny_matchCases_cons (wpAny_matchPattern_Capture (wpAny_assignInOrder_none (hb.run pins s σ H D I ⟨f, A, sl, a, q⟩)))⟩
theorem zm_arm (hp : PPat X pt (MTRd T X.K W m)) (hb : PSs X body (SRd T X.K W b)) (hr : PMc X rest (MRd T X.K W r)) : PMc X (⟨pt, none, body⟩ :: rest) (MRd T X.K W (mArm m b r)) := by
  refine ⟨fun pins s σ H x v first D I rx h => ?_⟩
  have h2 : MTRd T X.K W m x σ H fun c H1 => MRd T X.K W (match c with | true => mAny b | false => r) x D σ H1 := arm_of (k := fun c => match c with | true => mAny b | false => r) (by
    obtain ⟨f, A, sl, va, a, rv, q⟩ := h
    refine ⟨f, A, sl, va, a, rv, ?_⟩
    unfold mArm at q
    cases e : m va sl A with
    | bad => rw [e] at q; exact q
    | ex c fs A1 => rw [e] at q; exact q
    | ok w A1 =>
      rw [e] at q
      cases w with
      | bl c => cases c <;> exact q
      | _ => exact q.elim)
  refine wpAny_matchCases_cons (thn (hp.run pins s σ H x v _ I rx h2) fun o s1 ⟨c, H1, I1, q1, eo⟩ => ?_)
  cases c with
  | true =>
    subst eo
    obtain ⟨f, A, sl, va, a, rv, q⟩ := q1
    exact wpAny_assignInOrder_none (hb.run pins s1 σ H1 D I1 ⟨f, A, sl, a, q⟩)
  | false =>
    subst eo
    exact hr.run pins s1 σ H1 x v false D I1 rx q1
theorem zs_match (he : PE X e (ERd T X.K W te)) (hm : PMc X rest (MRd T X.K W r)) : PS X (.Match e rest pos) (SRd T X.K W (sMatch te r)) :=
  ⟨fun pins s σ H D I ⟨f, A, sl, a, q⟩ => wpAny_Match (thn (he.run pins s σ H _ I (es_of a q)) fun v s1 ⟨x, H1, I1, rx, f1, A1, va, a1, rv, q1⟩ => hm.run pins s1 σ H1 x v true D I1 rx ⟨f1, A1, sl, va, a1, rv, q1⟩)⟩
end
end Z
end
section
/-! Z23: a method called with keywords alone. -/
namespace Z
open PySem PySem.Spec PyProof.Rows L2
section
variable {X : Cx} {T : Tbl} {W : WX} {D : Desc} {cl : Calls} {lv : Nat} {o : Expr} {to : EV} {lk : Sl → AH → RL} {pos apos : Pos} {kws : List Keyword}
theorem mck_eval {m : Str} {env : Env} {ns : List Str} (hb : dotOk o = true) (hk : kwNames kws = some ns) (hl : (apos.endLine == pos.line) = true) (hn : Nat.blt kws.length 20 = true) :
    eval (.Call (.Attribute o m apos) [] kws pos) env = (do
      let ov ← eval o env
      standAt apos.atName
      let (f, first) ← holding [ov] (getMethod ov m (plainOf o env))
      callWith pos f first (backTo pos (starEach [] env)) (backToKw pos (keywordEach kws env))) := by
  obtain ⟨k1, k2, k3⟩ := kw_ok (pos := pos) (env := env) hk
  have form : methodCallForm (([] : List Expr).length + kws.length) (backTo pos (starEach [] env)) (backToKw pos (keywordEach kws env)) = true := by
    unfold methodCallForm
    rw [k1, show (backTo pos (starEach [] env)).all (fun x => !x.1) = true from rfl]
    rw [Nat.blt_eq] at hn
    have : ([] : List Expr).length = 0 := rfl
    rw [this]
    simp only [Bool.true_and, decide_eq_true_eq]
    split <;> omega
  rw [arm_eval_Call, dot_ok hb]
  have e : ∀ ov, methodCall o m apos pos env ov (([] : List Expr).length + kws.length) (backTo pos (starEach [] env)) (backToKw pos (keywordEach kws env)) = _ := fun ov => mcall_line form hl
  simp only [e]
def eMethKw (D : Desc) (cl : Calls) (a : Nat) (ks : List Str) (o : EV) (lk : Sl → AH → RL) : EV := fun s A => (o s A).bd fun v A1 => match methOf D a v A1 with
  | some k => (lk s A1).bd fun zs A2 => callKw D cl k ks [v] zs A2
  | none => .bad
theorem ze_methKw (F : Facts.X X T D cl lv) (tk : Takes X W) (hr : Room lv X.A) {a : Nat} {m : Str} (hn : T.at_ a = m) (ho : PE X o (ERd T X.K W to)) (hkw : PK X kws (ARd T X.K W lk)) {ns : List Str} (hk : kwNames kws = some ns) (hb : dotOk o = true)
    (hl : (apos.endLine == pos.line) = true) (hlen : Nat.blt kws.length 20 = true) : PE X (.Call (.Attribute o m apos) [] kws pos) (ERd T X.K W (eMethKw D cl a ns to lk)) := by
  subst hn
  refine ⟨fun pins s σ H Q I ⟨f, A, sl, at_, p⟩ => ?_⟩
  have h1 := kr_of (vs := []) (us := []) (k := fun vs s A1 => match methOf D a (g0 vs) A1 with | some k => (lk s A1).bd fun zs A2 => callKw D cl k ns [g0 vs] zs A2 | none => .bad) at_ .nil p
  refine PySem.W.methodCall_KW (pl := plainOf o X.env) (thn (ho.run pins s σ H _ I h1) fun u s1 ⟨x, H1, I1, rx, f2, A2, s2, vs, a2, r2, p2⟩ => ?_) (mck_eval hb hk hl hlen)
  cases r2 with
  | @cons v _ _ _ r3 r4 =>
    cases r4
    have p3 : Post T X.K W f2 A2 H1 σ Q (match methOf D a v A2 with | some k => (lk s2 A2).bd fun zs A2 => callKw D cl k ns [v] zs A2 | none => .bad) := p2
    cases em : methOf D a v A2 with
    | none => rw [em] at p3; exact p3.elim
    | some k =>
      rw [em] at p3
      obtain ⟨i, c, dx, ws, ev, eH, hc, hm, hlk⟩ := methOf_ok F a2.rel em
      subst ev
      obtain ⟨hi, ex⟩ := r3
      subst ex
      obtain rfl : u = Value.ref (f2 i) := rx
      refine getmeth_ok I1 eH hc hm hlk ?_
      obtain ⟨k1, k2, k3⟩ := kw_ok (pos := pos) (env := X.env) hk
      have q1 := kl_of (vs := [AV.ref i]) (us := [V.ref (f2 i)]) (k := fun vs _ A => callKw D cl k ns [g0 vs] (vs.drop 1) A) a2 (.cons ⟨hi, rfl⟩ .nil) p3
      refine PySem.W.callWith_KW0 (first := [.ref (f2 i)]) (h₀ := X.base) I.ok.mod.kin hm.kp k1 (thn (hkw.run pos pins s1 σ H1 _ I1 q1) fun ws' s3 ⟨zs, H3, I3, rz, f4, A4, s4, vs4, a4, r4, p4⟩ => ⟨I3.kIn, ?_⟩) (by rw [k3, Bool.or_false]; rfl)
      rw [k2]
      cases r4 with
      | @cons v1 _ vs5 _ r5 r6 =>
        exact z_callKw F tk hr k ns pins s3 σ H3 [V.ref (f2 i)] zs [Value.ref (f2 i)] ws' Q f4 A4 [v1] vs5 I3 (.cons rfl .nil) rz a4.rel (.cons r5 .nil) r6 p4
end
end Z
end
section
/-! Z24: an attribute as a target among others. -/
namespace Z
open PySem PySem.Spec PyProof.Rows L2
section
variable {X : Cx} {T : Tbl} {W : WX} {D : Desc} {cl : Calls} {lv : Nat} {o : Expr} {to : EV} {pos : Pos}
def gFld (D : Desc) (a : Nat) (to : EV) : GV := fun v s A => match to s A with
  | .ok ov A2 => (match pStore D a ov v A2 with
    | some A3 => .nx s A3
    | none => .bad)
  | _ => .bad
theorem zg_fld (F : Facts.X X T D cl lv) {a : Nat} {f : Str} (hf : T.at_ a = f) (ho : PE X o (ERd T X.K W to)) : PG X (.Attribute o f pos) (GRd T X.K (gFld D a to)) := by
  subst hf
  refine ⟨fun pins s σ H v u Q I rv ⟨g, A, sl, va, a0, r0, q⟩ => ?_⟩
  rw [arm_assign_Attribute]
  have z : ERd T X.K W to σ H fun x H1 => ∃ f1 A1 ov, At T X.K f1 A1 sl σ H1 ∧ RV T X.K f1 A1.n H1 ov x ∧ RV T X.K f1 A1.n H1 va v ∧ PostG T X.K f1 A1 H1 Q (match pStore D a ov va A1 with | some A3 => .nx sl A3 | none => .bad) := by
    refine ⟨g, A, sl, a0, ?_⟩
    unfold gFld at q
    cases e : to sl A with
    | bad => rw [e] at q; exact q
    | ex c fs A1 => rw [e] at q; exact q.elim
    | ok ov A1 => rw [e] at q; exact fun f1 H1 x st r => ⟨f1, A1, ov, a0.step st, r, st.rv r0, PostG.step q st⟩
  refine wpAny_bind (wpAny_holding (thn (ho.run pins s σ H _ I z) fun ov s1 ⟨x, H1, I1, rx, f1, A1, oa, a1, r1, r2, q1⟩ => ?_))
  cases e : pStore D a oa va A1 with
  | none => rw [e] at q1; exact q1.elim
  | some A3 =>
    rw [e] at q1
    obtain ⟨p, C, dx, fs, ex, hH, c, n, l, st⟩ := store_ok F a1.rel r1 r2 e
    subst ex
    obtain rfl : ov = Value.ref p := rx
    refine wpAny_bind (wpAny_standAt (wpAny_bind (wpAny_holding (setattr_ok I1 hH c n l rv fun s3 I3 => ?_))))
    exact wpAny_release ⟨σ, _, I3, q1 f1 _ σ st (st.sr a1.sr)⟩
/-! several targets, of any kinds -/
def appG : List GV → List AV → Sl → AH → RS
  | [], vs => fun s A => (match vs with
    | [] => .nx s A
    | _ :: _ => .bad)
  | g :: gs, vs => fun s A => (match vs with
    | [] => .bad
    | v :: r => (match g v s A with
      | .nx s1 A1 => appG gs r s1 A1
      | _ => .bad))
def GsRd (T : Tbl) (K : PySem.W.Frag) (gs : List GV) : TGs := fun us σ H Q => ∃ f A s vs, At T K f A s σ H ∧ RVs T K f A.n H vs us ∧ PostG T K f A H Q (appG gs vs s A)
theorem gs_nil {σ : L2.St} {H : Hp} {us : List V} {Q : L2.St → Hp → Prop} (h : GsRd T X.K [] us σ H Q) : gNil us σ H Q := by
  obtain ⟨f, A, s, vs, a, r, q⟩ := h
  cases vs with
  | nil => cases r; exact ⟨rfl, q f H σ (.rfl' a.rel) a.sr⟩
  | cons _ _ => exact q.elim
theorem gs_cons {g : GV} {gs : List GV} {σ : L2.St} {H : Hp} {us : List V} {Q : L2.St → Hp → Prop} (h : GsRd T X.K (g :: gs) us σ H Q) : gCons (GRd T X.K g) (GsRd T X.K gs) us σ H Q := by
  obtain ⟨f, A, s, vs, a, r, q⟩ := h
  cases vs with
  | nil => exact q.elim
  | cons v vs =>
    cases r with
    | @cons _ x _ xs r1 r2 =>
      refine ⟨x, xs, rfl, f, A, s, v, a, r1, ?_⟩
      have q : PostG T X.K f A H Q (match g v s A with | .nx s1 A1 => appG gs vs s1 A1 | _ => .bad) := q
      cases e : g v s A with
      | nx s1 A1 => rw [e] at q; exact fun f1 H1 σ1 st sr => ⟨f1, A1, s1, vs, ⟨st.rel, sr⟩, st.rvs r2, PostG.step q st⟩
      | _ => rw [e] at q; exact q.elim
end
end Z
end
section
/-! Z25: several targets of any kinds, stored off a tuple or a list; subscripts as targets; a Bool as an index. -/
namespace Z
open PySem PySem.Spec PyProof.Rows L2
theorem bool_index : typeLookup (.type "bool") "__index__" = pure (some (.builtin "int.__index__")) := by rw [typeLookup_type, builtinLookup_eq_fast]; kernel_rfl
section
variable {prog : Program} {w : World} {A : Around} {E : Value → Shared → Prop} {s : Shared}
theorem getItem_tupleB {t : Addr} {items : Array Value} {k : Bool} {j : Nat} {x : Value} {Q : Value → Shared → Prop} (ht : IsTup s.heap t items)
    (hj : seqIndex? (if k then 1 else 0) items.size = some j) (hx : items[j]? = some x) (h : Q x s) : wpAny (model prog w) A (getItem (.ref t) (.bool k)) Q E s := by
  unfold getItem
  try with_reducible refine wpAny_holding ?_
  first | refine wpAny_bind (wpAny_pure ?_) | skip
  refine wpAny_bind (wpAny_sequenceKey ht.typeIs (by decide) ?_)
  refine wpAny_bind (wpAny_callSpecial?_slot (name := Str.ofString "__getitem__") ht.typeIs slot_tuple_getitem
    (wpAny_call_entry slot_tuple_getitem ht.typeIs entry_tuple_getitem ?_ (args_tuple_getitem _ _)))
  show wpAny _ _ (Builtin.Tuple.tupleItemsOf (.ref t) >>= _) _ _ s
  refine wpAny_bind (tupleItemsOf_ ht ?_)
  refine wpAny_bind (wpAny_typeOf (PySem.typeIs_bool s k) ?_)
  rw [if_neg (by decide)]
  refine wpAny_bind (wpAny_specialOf (T := "bool") (PySem.typeIs_bool s k) bool_index ?_)
  rw [if_neg (by simp)]
  refine wpAny_bind (wpAny_of_eq (a := if k then 1 else 0) rfl ?_)
  rw [if_neg (by cases k <;> simp)]
  simp only [hj, Option.bind_some, hx]
  exact wpAny_pure ⟨_, rfl, wpAny_pure h⟩
end
def bI (b : Bool) : Int := match b with
  | true => 1
  | false => 0
/-- a tuple at a Bool -/
def pIxB (x y : AV) (A : AH) : RE := match y with
  | .bl b => (match seqL x A with
    | some (t, xs) => (match t with
      | true => .bad
      | false => pIxSeq xs (.int (bI b)) A)
    | none => .bad)
  | _ => .bad
section
variable {X : Cx} {T : Tbl} {W : WX} {D : Desc} {cl : Calls} {lv : Nat} {o i : Expr} {to ti : EV} {pos : Pos}
theorem IxZ.alt {p q : AV → AV → AH → RE} (hp : IxZ X T W p) (hq : IxZ X T W q) : IxZ X T W (fun v w A => orE (p v w A) fun _ => q v w A) := by
  intro value slice pins s σ H x y v u Q g A a b I rx ry rl ra rb h hs hs2
  rcases Post.alt h with h | h
  · exact hp value slice pins s σ H x y v u Q g A a b I rx ry rl ra rb h hs hs2
  · exact hq value slice pins s σ H x y v u Q g A a b I rx ry rl ra rb h hs hs2
theorem z_ixB : IxZ X T W pIxB := by
  intro value slice pins s σ H x y v u Q g A a b I rx ry rl ra rb q hs hs2
  unfold pIxB at q
  cases b with
  | bl k =>
    simp only at q
    cases e : seqL a A with
    | none => rw [e] at q; exact q.elim
    | some r =>
      obtain ⟨t, xs⟩ := r
      rw [e] at q
      cases t with
      | true => exact q.elim
      | false =>
        obtain ⟨p, ws, ex, rs, hq⟩ := seqL_ok rl ra e
        subst ex
        have ey : y = .bl k := rb
        subst ey
        cases rx
        obtain rfl : u = Value.bool k := ry
        have q : Post T X.K W g A H σ Q (match place xs.length (bI k) with | some j => (match nth xs j with | some v => .ok v A | none => .bad) | none => .bad) := q
        cases e1 : place xs.length (bI k) with
        | none => rw [e1] at q; exact q.elim
        | some j =>
          rw [e1] at q
          simp only at q
          cases e2 : nth xs j with
          | none => rw [e2] at q; exact q.elim
          | some z =>
            rw [e2] at q
            obtain ⟨its, r, pl, hz⟩ := I.tuple hq
            obtain ⟨h1, h2⟩ := place_ok e1
            have hn : xs[j]? = some z := by rw [← nth_eq]; exact e2
            obtain ⟨zu, hzu, rz⟩ := paired_get rs hn
            obtain ⟨wv, ew, rw'⟩ := r.get hzu
            have hlr := rs.length
            have hl := r.length
            have fin : EP X pins σ Q wv s := ⟨zu, H, I, rw', Post.now q rl rz⟩
            have hj : seqIndex? (if k then 1 else 0) its.toArray.size = some j := by
              rw [List.size_toArray, ← hl, ← hlr]
              have : (if k = true then (1 : Int) else 0) = bI k := by cases k <;> rfl
              rw [this]
              exact (ixN_seq h2).1
            exact subscriptTail_builtinR (x := wv) pl.typeIs slot_tuple_getitem.lookup
              (getItem_tupleB (j := j) (Q := fun r s' => r = wv ∧ EP X pins σ Q r s') pl hj (by simpa using ew) ⟨rfl, fin⟩) (hs)
  | _ => exact q.elim
/-! ## o[i] = v -/
def pSetI (o k v : AV) (A : AH) : Option AH := match o with
  | .ref i => (match A.get i with
    | some (.lst xs) => (match k with
      | .int n => (match place xs.length n with
        | some j => some (A.set i (.lst (xs.set j v)))
        | none => none)
      | _ => none)
    | _ => pPut o k v A)
  | _ => none
theorem set_pair {g : Nat → Addr} {n : Nat} {H : Hp} {v : AV} {u : V} (r : RV T X.K g n H v u) : ∀ {xs : List AV} {ws : List V} (j : Nat), RVs T X.K g n H xs ws → RVs T X.K g n H (xs.set j v) (ws.set j u)
  | [], _, j, .nil => .nil
  | _ :: _, _, 0, .cons _ q => .cons r q
  | _ :: _, _, j + 1, .cons p q => .cons p (set_pair r j q)
/-- what an item's store asks -/
def rSetZ : TSet := fun o i v H Q => rSetD o i v H Q ∨ rSetL o i v H Q
theorem setZ (hu : X.A.units + 1 < cLine) : PSet X rSetZ := by
  intro pins s σ H o i v ov iv u Q I ro ri rv h
  rcases h with h | h
  · exact set_dict hu pins s σ H o i v ov iv u Q I ro ri rv h
  · exact set_list pins s σ H o i v ov iv u Q I ro ri rv h
theorem pSetI_ok {f : Nat → Addr} {A A1 : AH} {H : Hp} (rl : Rel T X.K f A H) {o k v : AV} {x y u : V} (ro : RV T X.K f A.n H o x) (rk : RV T X.K f A.n H k y) (rv : RV T X.K f A.n H v u) (e : pSetI o k v A = some A1) {Q : Hp → Prop}
    (h : ∀ H1, Stp T X.K f A H f A1 H1 → Q H1) : rSetZ x y u H Q := by
  unfold pSetI at e
  cases o with
  | ref i =>
    simp only at e
    have dict : pPut (.ref i) k v A = some A1 → rSetZ x y u H Q := fun e => by
      obtain ⟨a, H1, ex, dp, st⟩ := pPut_ok rl ro rk rv e
      exact .inl ⟨a, H1, ex, dp, h H1 st⟩
    cases eg : A.get i with
    | none => rw [eg] at e; exact dict e
    | some ob =>
      rw [eg] at e
      cases ob with
      | lst xs =>
        simp only at e
        cases k with
        | int n =>
          simp only at e
          cases ep : place xs.length n with
          | none => rw [ep] at e; cases e
          | some j =>
            rw [ep] at e
            cases e
            obtain ⟨hi, ex⟩ := ro
            subst ex
            obtain rfl : y = .int n := rk
            obtain ⟨ws, hH, rs⟩ := (rl.ob i _ eg).2
            obtain ⟨h1, h2⟩ := place_ok ep
            rw [rs.length] at h2
            refine .inr ⟨f i, ws, n, j, rfl, rfl, hH, h2, h _ ?_⟩
            have he : HE X.K H (upd H (f i) (.lst (ws.set j u))) := he_upd hH (fun _ z => by cases z) (fun _ _ z => by cases z)
            exact rl.chg eg (fun a ha => upd_ne ha) he ⟨_, upd_same, RVs.mono (set_pair rv j rs) he (fun _ _ => rfl) (Nat.le_refl _)⟩
        | _ => cases e
      | _ => exact dict e
  | _ => cases e
def gPutZ (to ti : EV) : GV := fun v s A => match to s A with
  | .ok ov A2 => (match ti s A2 with
    | .ok kv A3 => (match pSetI ov kv v A3 with
      | some A4 => .nx s A4
      | none => .bad)
    | _ => .bad)
  | _ => .bad
theorem put_rd {f : Nat → Addr} {A : AH} {H : Hp} {σ : L2.St} {sl : Sl} {va : AV} {u : V} {Q : L2.St → Hp → Prop} (a0 : At T X.K f A sl σ H) (r0 : RV T X.K f A.n H va u) (q : PostG T X.K f A H Q (gPutZ to ti va sl A)) : ERd T X.K W to σ H fun x H1 => ERd T X.K W ti σ H1 fun y H2 => rSetZ x y u H2 fun H3 => Q σ H3 := by
  refine ⟨f, A, sl, a0, ?_⟩
  unfold gPutZ at q
  cases e : to sl A with
  | bad => rw [e] at q; exact q.elim
  | ex c fs A1 => rw [e] at q; exact q.elim
  | ok ov A1 =>
    rw [e] at q
    intro f1 H1 x st rx
    refine ⟨f1, A1, sl, a0.step st, ?_⟩
    cases e2 : ti sl A1 with
    | bad => simp only [e2] at q; exact q.elim
    | ex c fs A1 => simp only [e2] at q; exact q.elim
    | ok kv A2 =>
      simp only [e2] at q
      intro f2 H2 y st2 ry
      cases e3 : pSetI ov kv va A2 with
      | none => simp only [e3] at q; exact q.elim
      | some A4 =>
        simp only [e3] at q
        refine pSetI_ok st2.rel (st2.rv rx) ry (st2.rv (st.rv r0)) e3 fun H4 st4 => ?_
        have st5 := (st.trans st2).trans st4
        exact q f2 H4 σ st5 (st5.sr a0.sr)
theorem zg_put (W : WX) (hu : X.A.units + 64 < cLine) (ho : PE X o (ERd T X.K W to)) (hi : PE X i (ERd T X.K W ti))
    (ha : ∀ v, assign (.Subscript o i pos) X.env v = (do
      let ov ← holding [v] (eval o X.env)
      let iv ← holding [v, ov] (eval i X.env)
      standAt pos
      holding [v, ov, iv] (setItem ov iv v)
      release [v, ov, iv] [])) : PG X (.Subscript o i pos) (GRd T X.K (gPutZ to ti)) :=
  (pg_sub ho hi (setZ (by omega)) ha).im fun u σ H Q ⟨g, A, sl, va, a0, r0, q⟩ => put_rd a0 r0 q
/-- o[i] = v, a statement -/
def sSetZ (to ti tv : EV) : SV := fun s A => (tv s A).bs s fun v A1 => (to s A1).bs s fun o A2 => (ti s A2).bs s fun k A3 => match pSetI o k v A3 with
  | some A4 => .nx s A4
  | none => .bad
theorem zs_setI (hu : X.A.units + 64 < cLine) {value : Expr} {tv : EV} {pos' : Pos} (ho : PE X o (ERd T X.K W to)) (hi : PE X i (ERd T X.K W ti)) (hv : PE X value (ERd T X.K W tv)) (hs : swapsWith value (some (.Subscript o i pos')) pos.line X.env = pure false) :
    PS X (.Assign [.Subscript o i pos'] value pos) (SRd T X.K W (sSetZ to ti tv)) := by
  refine ⟨fun pins s σ H D I ⟨f, A, sl, at_, q⟩ => ?_⟩
  unfold sSetZ at q
  refine wpAny_Assign_Subscript (thn (hv.run pins s σ H _ I (esK at_ .nil q)) fun r s1 ⟨v, H1, I1, rv, f1, A1, av, a1, r1, q1⟩ => thn (ho.run pins s1 σ H1 _ I1 (esK a1 r1 q1)) fun u s2 ⟨x, H2, I2, rx, f2, A2, ax, a2, r2, q2⟩ => thn (hi.run pins s2 σ H2 _ I2 (esK a2 r2 q2)) fun iv s3 ⟨y, H3, I3, ry, f3, A3, ay, a3, r3, q3⟩ => ?_) hs
  cases r3 with | cons rk r3 => ?_
  cases r3 with | cons rw' r3 => ?_
  cases r3 with | cons rv' r3 => ?_
  cases e : pSetI ax ay av A3 with
  | none => rw [e] at q3; exact q3.elim
  | some A4 =>
    rw [e] at q3
    have z := pSetI_ok a3.rel rw' rk rv' e (Q := fun H4 => D.nx σ H4) fun H4 st => q3 f3 _ σ st (st.sr a3.sr)
    exact wpAny_mono (setZ (by omega) pins s3 σ H3 x y v u iv r _ I3 rx ry rv z) (fun _ s4 ⟨H4, I4, q4⟩ => ⟨σ, H4, I4, q4⟩) fun _ _ h => h
/-! ## several targets -/
def gMix (gs : List GV) : GV := fun v s A => match seqL v A with
  | some (_, xs) => appG gs xs s A
  | none => .bad
theorem gs_len {g : Nat → Addr} {H : Hp} {Q : L2.St → Hp → Prop} : ∀ {gs : List GV} {vs : List AV} {s : Sl} {A A0 : AH}, PostG T X.K g A0 H Q (appG gs vs s A) → vs.length = gs.length
  | [], [], _, _, _, _ => rfl
  | [], _ :: _, _, _, _, q => q.elim
  | _ :: _, [], _, _, _, q => q.elim
  | h :: gs, v :: vs, s, A, A0, q => by
    have q : PostG T X.K g A0 H Q (match h v s A with | .nx s1 A1 => appG gs vs s1 A1 | _ => .bad) := q
    cases e : h v s A with
    | nx s1 A1 => rw [e] at q; exact congrArg Nat.succ (gs_len q)
    | _ => rw [e] at q; exact q.elim
theorem zg_mix {es : List Expr} {k : Nat} {gs : List GV} (hc : X.calm = true) (h : PGs X es (GsRd T X.K gs)) (hn : (assignEach es X.env).length = gs.length) (hst : (assignEach es X.env).findIdx? (·.1) = none) : PG X (.Tuple es k pos) (GRd T X.K (gMix gs)) := by
  refine ⟨fun pins s σ H v u Q I r ⟨g, A, sl, va, a0, r0, q⟩ => ?_⟩
  unfold gMix at q
  cases e : seqL va A with
  | none => rw [e] at q; exact q.elim
  | some p =>
    obtain ⟨b, xs⟩ := p
    rw [e] at q
    obtain ⟨a, ws, ex, rs, hq⟩ := seqL_ok a0.rel r0 e
    have hl : ws.length = gs.length := rs.length.symm.trans (gs_len q)
    cases b with
    | true => exact (pg_lst hc h hn hst).run pins s σ H v u Q I r ⟨a, ws, ex, hq, hl, g, A, sl, xs, a0, rs, q⟩
    | false => exact (pg_tup hc h hn hst).run pins s σ H v u Q I r ⟨a, ws, ex, hq, hl, g, A, sl, xs, a0, rs, q⟩
theorem pgs_nilZ : PGs X [] (GsRd T X.K []) := ⟨fun pins s σ H vs us Q I r h => pgs_nil.run pins s σ H vs us Q I r (gs_nil h)⟩
theorem pgs_consZ {e : Expr} {es : List Expr} {g : GV} {gs : List GV} (h1 : PG X e (GRd T X.K g)) (h2 : PGs X es (GsRd T X.K gs)) (hs : (assignEach (e :: es) X.env).map (·.2) = assign e X.env :: (assignEach es X.env).map (·.2)) : PGs X (e :: es) (GsRd T X.K (g :: gs)) :=
  ⟨fun pins s σ H vs us Q I r h => (pgs_cons h1 h2 hs).run pins s σ H vs us Q I r (gs_cons h)⟩
end
end Z
end
section
/-! Z26: raise X('..'), try .. except X. -/
namespace Z
open PySem PySem.Spec PyProof.Rows L2
def sRaise (c : Nat) : SV := fun s A => .ex c [] s A
section
variable {X : Cx} {T : Tbl} {W : WX} {pos p p2 : Pos} {x m : Str} {j : Nat} {c : Nat}
theorem zs_raise (hc : X.calm = true) (tk : Takes X W) (F : ExF X.K (T.ca c)) (hm : X.mg x = some (.ref (T.ca c))) (hg : Gl X x) (hd : (x == ("__debug__" : Str)) = false) :
    PS X (.Raise (some (.Call (.Name x p) [.Constant (.str m) j p2] [] pos)) none pos') (SRd T X.K W (sRaise c)) :=
  (ps_raise hc tk (pmk_own PySem.F.excBase_ValueError F.ex hm F.kp (raises_own F.sub F.ty) hg hd)).im fun D σ H ⟨f, A, s, a, q⟩ => q f H σ none (.rfl' a.rel) a.sr (.inl rfl)
/-! ## try -/
def noEx (r : RS) : RS := match r with
  | .ex _ _ _ _ => .bad
  | r => r
/-- the clauses: the exception class of each, its suite -/
def hands (xm : Nat → Nat → Option Bool) : List (Nat × SV) → Nat → List (Nat × AV) → Sl → AH → RS
  | [], c, fs, s, A => .ex c fs s A
  | p :: r, c, fs, s, A => match xm c p.1 with
    | some t => (match t with
      | true => noEx (p.2 s A)
      | false => hands xm r c fs s A)
    | none => .bad
def sTry (xm : Nat → Nat → Option Bool) (body : SV) (hs : List (Nat × SV)) : SV := fun s A => match body s A with
  | .ex c fs s1 A1 => hands xm hs c fs s1 A1
  | r => r
inductive HdZ (X : Cx) (T : Tbl) : List ExceptHandler → List (Nat × SV) → Prop
  | nil : HdZ X T [] []
  | cons {x : Str} {k : Nat} {b : SV} {b₀ : Stmt} {suite : List Stmt} {np pos' : Pos} {hds : List ExceptHandler} {l : List (Nat × SV)} (hc : Names X x (.ref (T.ca k)))
      (hsu : ∀ (a : Addr) (pn : List (Addr × Obj)), PSs (X.suite a pn) (b₀ :: suite) (SRd T X.K W0 b)) (r : HdZ X T hds l) :
      HdZ X T (.ExceptHandler (some (.Name x np)) none (b₀ :: suite) pos' :: hds) ((k, b) :: l)
theorem HdZ.ok {hds : List ExceptHandler} {l : List (Nat × SV)} (h : HdZ X T hds l) : HdsOk X hds (l.map fun p => ((.ref (T.ca p.1) : Value), fun _ _ _ => SRd T X.K W0 p.2)) := by
  induction h with
  | nil => exact .nil
  | cons hc hsu r ih => exact .cons hc (fun a oe cls d pn _ _ => hsu a _) ih
theorem noEx_post {K : PySem.W.Frag} {f : Nat → Addr} {A : AH} {H : Hp} {D : Ends} {r : RS} (q : PostS T K W f A H D (noEx r)) : PostS T K W0 f A H D r := by
  cases r with
  | ex c fs s A1 => exact q.elim
  | _ => exact q
theorem hands_w {xm : Nat → Nat → Option Bool} (hx : ∀ c k b, xm c k = some b → PySem.W.exmOne X.K (.ref (T.ca c)) (.ref (T.ca k)) = some b) {D : Ends} {c : Nat} {fs : List (Nat × AV)} {f : Nat → Addr} {A : AH} {H : Hp} {σ : L2.St} {s : Sl} {d : Option Addr} (a : At T X.K f A s σ H) (x : XR T X.K f A.n H fs d) :
    ∀ {l : List (Nat × SV)}, PostS T X.K W f A H D (hands xm l c fs s A) → wMany X.K W D (l.map fun p => ((.ref (T.ca p.1) : Value), fun _ _ _ => SRd T X.K W0 p.2)) (.ref (T.ca c)) d σ H
  | [], q => q f H σ d (.rfl' a.rel) a.sr x
  | (k, b) :: r, q => by
    have q : PostS T X.K W f A H D (match xm c k with | some t => (match t with | true => noEx (b s A) | false => hands xm r c fs s A) | none => .bad) := q
    cases e : xm c k with
    | none => rw [e] at q; exact q.elim
    | some t =>
      rw [e] at q
      refine ⟨t, hx c k t e, fun et a' _ => ?_, fun et => ?_⟩
      · subst et
        exact ⟨f, A, s, a, noEx_post q⟩
      · subst et
        exact hands_w hx a x q
theorem zs_try {xm : Nat → Nat → Option Bool} (hx : ∀ c k b, xm c k = some b → PySem.W.exmOne X.K (.ref (T.ca c)) (.ref (T.ca k)) = some b) (hs : X.stack = X.env :: X.outer) (hf : X.env.frame = some X.env.locals) (tk : Takes X W)
    {body : List Stmt} {h₀ : ExceptHandler} {hds : List ExceptHandler} {tb : SV} {l : List (Nat × SV)}
    (hb : ∀ (W' : WX) (pn : List (Addr × Obj)) (xe : Value → Shared → Prop), Takes (X.tr pn xe) W' → PassesOwn (model X.prog X.w) X.A X.env xe → PSs (X.tr pn xe) body (SRd T X.K W' tb))
    (hh : HdZ X T (h₀ :: hds) l) : PS X (.Try body (h₀ :: hds) [] [] pos) (SRd T X.K W (sTry xm tb l)) := by
  refine (ps_try_many (tb := fun W' => SRd T X.K W' tb) hs hf tk hb hh.ok).im fun D σ H ⟨f, A, s, a, q⟩ => ⟨f, A, s, a, ?_⟩
  unfold sTry at q
  cases e : tb s A with
  | ex c fs s1 A1 =>
    rw [e] at q
    exact fun f1 H1 σ1 d st sr x => hands_w hx ⟨st.rel, sr⟩ x (PostS.step q st)
  | _ => rw [e] at q; exact q
end
end Z
end
section
/-! Z30: the text of a def as combinators: expressions. -/
namespace Z
open PySem PySem.Spec PyProof.Rows L2

structure Ctx where
  N : List Str
  sc : Scope
  fk : List Str
  top : Bool
/-- what stands behind a global name -/
structure Globs where
  fns : List (Str × Nat)
  cls : List (Str × Nat)
  vals : List (Str × AV)
  none_ : List Str
  exs : List (Str × Nat) := []
structure Good (T : Tbl) (D : Desc) (G : Globs) (cl : Calls) (lv : Nat) (c : Ctx) (X : Cx) (W : WX) : Prop where
  nN : X.N = c.N
  nd : c.N.Nodup
  calm : X.calm = true
  tk : Takes X W
  rm : Room (lv + 1) X.A
  hp : PassesOwn (model X.prog X.w) X.A X.env X.xe
  F : Facts.X X T D cl lv
  sc : X.env.scope = c.sc
  kd : c.sc.kind = .function
  fk : ∀ x ∈ c.fk, X.fn x = true ∨ X.env.scope.names.lookup x = some .local
  gf : ∀ x k, G.fns.lookup x = some k → X.mg x = some (.ref (T.fa k))
  gc : ∀ x k, G.cls.lookup x = some k → X.mg x = some (.ref (T.ca k))
  gv : ∀ x v, G.vals.lookup x = some v → ∃ u w, X.mg x = some w ∧ RelV u w ∧ CV T X.K v u
  gn : ∀ x ∈ G.none_, X.mg x = none
  ga : ∀ a n, D.ats[a]? = some n → T.at_ a = n
  gx : ∀ x k, G.exs.lookup x = some k → X.mg x = some (.ref (T.ca k))
  st : c.top = true → X.stack = X.env :: X.outer ∧ X.env.frame = some X.env.locals
def eBad : EV := fun _ _ => .bad
def lBad : Sl → AH → RL := fun _ _ => .bad
def sBad : SV := fun _ _ => .bad
def whenE (b : Bool) (t : EV) : EV := match b with
  | true => t
  | false => eBad
section
variable {T : Tbl} {D : Desc} {G : Globs} {cl : Calls} {lv : Nat} {c : Ctx} {X : Cx} {W : WX} {e : Expr} {t : EV}
theorem ze_bad : PE X e (ERd T X.K W eBad) := ⟨fun _ _ _ _ _ _ ⟨_, _, _, _, q⟩ => q.elim⟩
theorem zt_bad : PT X e (TRd T X.K W eBad) := ⟨fun _ _ _ _ _ _ ⟨_, _, _, _, q⟩ => q.elim⟩
theorem ze_when {b : Bool} (h : b = true → PE X e (ERd T X.K W t)) : PE X e (ERd T X.K W (whenE b t)) := by
  cases b with
  | true => exact h rfl
  | false => exact ze_bad
/-- a name's place -/
def ix (x : Str) : List Str → Nat → Option Nat
  | [], _ => none
  | y :: r, n => match x == y with
    | true => some n
    | false => ix x r (n + 1)
theorem ix_ok {x : Str} : ∀ {l : List Str} {n i : Nat}, ix x l n = some i → n ≤ i ∧ l[i - n]? = some x
  | [], n, i, h => by cases h
  | y :: r, n, i, h => by
    unfold ix at h
    cases e : x == y with
    | true =>
      rw [e] at h
      cases h
      have := beq_iff_eq.mp e
      subst this
      exact ⟨Nat.le_refl _, by simp⟩
    | false =>
      rw [e] at h
      obtain ⟨h1, h2⟩ := ix_ok (l := r) h
      refine ⟨by omega, ?_⟩
      have : i - n = (i - (n + 1)) + 1 := by omega
      rw [this, List.getElem?_cons_succ]
      exact h2
def visB (sc : Scope) (x : Str) : Bool := match sc.names.lookup x with
  | some .local => true
  | some .cell => true
  | some .free => true
  | _ => false
theorem vis_ok {sc : Scope} {x : Str} (h : visB sc x = true) : Vis sc x := by
  unfold visB at h
  unfold Vis
  cases e : sc.names.lookup x with
  | none => rw [e] at h; cases h
  | some k =>
    rw [e] at h
    cases k with
    | «local» => exact .inl rfl
    | cell => exact .inr (.inl rfl)
    | free => exact .inr (.inr rfl)
    | _ => cases h
def glB (sc : Scope) (x : Str) : Bool := match sc.names.lookup x with
  | some .globalImplicit => true
  | _ => false
theorem gl_ok {sc : Scope} {x : Str} (hs : X.env.scope = sc) (h : glB sc x = true) : Gl X x := by
  unfold glB at h
  unfold Gl Env.kindOf
  rw [hs]
  cases e : sc.names.lookup x with
  | none => rw [e] at h; cases h
  | some k => rw [e] at h; cases k <;> first | rfl | (cases h)
def compName (G : Globs) (c : Ctx) (x : Str) : EV := match visB c.sc x with
  | true => (match ix x c.N 0 with
    | some i => whenE (!(x == ("__debug__" : Str)) && !(x == ("__classdict__" : Str))) (eVar i)
    | none => eBad)
  | false => (match glB c.sc x with
    | true => (match G.vals.lookup x with
      | some v => whenE (!(x == ("__debug__" : Str))) (eC v)
      | none => eBad)
    | false => eBad)
theorem comp_name (g : Good T D G cl lv c X W) {x : Str} {pos : Pos} : PE X (.Name x pos) (ERd T X.K W (compName G c x)) := by
  unfold compName
  cases e : visB c.sc x with
  | true =>
    simp only
    cases e2 : ix x c.N 0 with
    | none => exact ze_bad
    | some i =>
      refine ze_when fun h => ?_
      obtain ⟨h1, h2⟩ := Bool.and_eq_true_iff.mp h
      have hi := (ix_ok e2).2
      rw [Nat.sub_zero] at hi
      exact ze_var (by rw [g.nN]; exact hi) (by rw [g.sc]; exact vis_ok e) (by simpa using h1) (by simpa using h2)
  | false =>
    simp only
    cases e2 : glB c.sc x with
    | false => exact ze_bad
    | true =>
      simp only
      cases e3 : G.vals.lookup x with
      | none => exact ze_bad
      | some v =>
        refine ze_when fun h => ?_
        obtain ⟨u, w, hm, rw', cv⟩ := g.gv x v e3
        exact ze_c (pe_glob (gl_ok g.sc e2) hm rw' (by simpa using h)) fun f n H => cv f n H
def compConst : Const → EV
  | .none => eC .non
  | .bool b => eC (.bl b)
  | .int i => eC (.int i)
  | .str x => eC (.str x)
  | _ => eBad
theorem comp_const {k : Const} {j : Nat} {pos : Pos} : PE X (.Constant k j pos) (ERd T X.K W (compConst k)) := by
  cases k with
  | none => exact ze_c pe_non fun _ _ _ => rfl
  | bool b => exact ze_c pe_bl fun _ _ _ => rfl
  | int i => exact ze_c pe_int fun _ _ _ => rfl
  | str x => exact ze_c pe_str fun _ _ _ => rfl
  | _ => exact ze_bad
/-! operators -/
def alt2 (p q : AV → AV → AH → RE) : AV → AV → AH → RE := fun v w A => orE (p v w A) fun _ => q v w A
def pBad2 : AV → AV → AH → RE := fun _ _ _ => .bad
theorem z_bad2 {f : Value → Value → Sem Value} : OpZ X T W f pBad2 := fun _ _ _ _ _ _ _ _ _ _ _ _ _ _ _ _ _ _ _ q => q.elim
def opPrim (D : Desc) (cl : Calls) : Operator → AV → AV → AH → RE
  | .Add => alt2 pAddI (alt2 pAddS (alt2 pAddL (alt2 pAddT (pBinO D cl 4))))
  | .Sub => alt2 pSub (pBinO D cl 5)
  | .Mult => pMulI
  | .FloorDiv => pDiv
  | .Mod => pMod
  | .Pow => pPow
  | .LShift => pShl
  | _ => pBad2
theorem opPrim_ok (g : Good T D G cl lv c X W) (op : Operator) : OpZ X T W (binaryOp op) (opPrim D cl op) := by
  cases op with
  | Add => exact z_addI.alt (z_addS.alt (z_addL.alt (z_addT.alt (z_binO g.F g.tk g.rm rfl))))
  | Sub => exact z_subI.alt (z_binO g.F g.tk g.rm rfl)
  | Mult => exact z_mulI
  | FloorDiv => exact z_div
  | Mod => exact z_mod
  | Pow => exact z_pow
  | LShift => exact z_shl
  | _ => exact z_bad2
theorem Good.hu (g : Good T D G cl lv c X W) : X.A.units + 64 < cLine := by have := g.rm.un; omega
def cmpPrim (D : Desc) (cl : Calls) : CmpOp → AV → AV → AH → RE
  | .Eq => alt2 (pEqD false) (alt2 (pEqO D cl false) (pEqDct false))
  | .NotEq => alt2 (pEqD true) (alt2 (pEqO D cl true) (pEqDct true))
  | .Lt => pLt
  | .LtE => pLe
  | .Gt => pGt
  | .GtE => pGe
  | .Is => pIsN false
  | .IsNot => pIsN true
  | .In => alt2 (pInD false) (alt2 (pInS false) (alt2 (pInK false) (pInO D cl false)))
  | .NotIn => alt2 (pInD true) (alt2 (pInS true) (alt2 (pInK true) (pInO D cl true)))
theorem cmpPrim_ok (g : Good T D G cl lv c X W) (op : CmpOp) : OpZ X T W (compareOp op) (cmpPrim D cl op) := by
  cases op with
  | Eq => exact (z_eqD g.hu).alt ((z_eqO g.F g.tk g.rm false).alt (z_eqDct g.hu false))
  | NotEq => exact (z_neD g.hu).alt ((z_eqO g.F g.tk g.rm true).alt (z_eqDct g.hu true))
  | Lt => exact z_lt
  | LtE => exact z_le
  | Gt => exact z_gt
  | GtE => exact z_ge
  | Is => exact z_isN false
  | IsNot => exact z_isN true
  | In => exact (z_inD g.hu false).alt ((z_inS false).alt ((z_inK g.hu false).alt (z_inO g.F g.tk g.rm false)))
  | NotIn => exact (z_inD g.hu true).alt ((z_inS true).alt ((z_inK g.hu true).alt (z_inO g.F g.tk g.rm true)))
def pNegI (v : AV) (A : AH) : RE := match v with
  | .int i => .ok (.int (-i)) A
  | _ => .bad
theorem z_negI : UnZ X T W (unaryOp .USub) pNegI := by
  intro pins s σ H x xv Q f A a I rx rl ra q
  unfold pNegI at q
  split at q
  · rename_i i
    exact un_neg pins s σ H x xv Q I rx ⟨i, ra, Post.now q rl rfl⟩
  · exact q.elim
/-! ## one step of the compilation -/
abbrev CE := Ctx → Expr → EV
def SndE (T : Tbl) (D : Desc) (G : Globs) (cl : Calls) (lv : Nat) (r : CE) : Prop := ∀ c X W, Good T D G cl lv c X W → ∀ e, PE X e (ERd T X.K W (r c e))
def SndT (T : Tbl) (D : Desc) (G : Globs) (cl : Calls) (lv : Nat) (r : CE) : Prop := ∀ c X W, Good T D G cl lv c X W → ∀ e, PT X e (TRd T X.K W (r c e))
/-- the lists of expressions -/
def lst (r : Expr → EV) : List Expr → Sl → AH → RL
  | [] => lNil
  | e :: es => match e with
    | .Starred e' _ => lStar (r e') (lst r es)
    | _ => lCons (r e) (lst r es)
theorem lst_ok {r : Expr → EV} (h : ∀ e, PE X e (ERd T X.K W (r e))) : ∀ es, PA X es (ARd T X.K W (lst r es))
  | [] => za_nil
  | e :: es => by
    have ih := lst_ok h es
    cases e with
    | Starred e' p => exact za_star (h e') ih
    | _ => exact za_cons (h _) ih (star_cons rfl)
def compAnd (r : Expr → EV) : List Expr → EV
  | [] => eBad
  | a :: es => match es with
    | [] => r a
    | _ :: _ => eAnd (r a) (compAnd r es)
def compOr (r : Expr → EV) : List Expr → EV
  | [] => eBad
  | a :: es => match es with
    | [] => r a
    | _ :: _ => eOr (r a) (compOr r es)
theorem compAnd_ok {r : Expr → EV} {pos : Pos} (h : ∀ e, PE X e (ERd T X.K W (r e))) : ∀ es, PE X (.BoolOp .And es pos) (ERd T X.K W (compAnd r es))
  | [] => ze_bad
  | [a] => ze_one (h a)
  | a :: b :: es => ze_and (h a) (compAnd_ok h (b :: es))
theorem compOr_ok {r : Expr → EV} {pos : Pos} (h : ∀ e, PE X e (ERd T X.K W (r e))) : ∀ es, PE X (.BoolOp .Or es pos) (ERd T X.K W (compOr r es))
  | [] => ze_bad
  | [a] => ze_one (h a)
  | a :: b :: es => ze_or (h a) (compOr_ok h (b :: es))
theorem compAndW_ok {r : Expr → EV} {pos : Pos} (h : ∀ e, PT X e (TRd T X.K W (r e))) : ∀ es, PW X (.BoolOp .And es pos) (TRd T X.K W (compAnd r es))
  | [] => ⟨fun _ _ _ _ _ _ _ ⟨_, _, _, _, q⟩ => q.elim⟩
  | [a] => zw_and1 (h a)
  | a :: b :: es => zw_and (h a) (compAndW_ok h (b :: es))
theorem compOrW_ok {r : Expr → EV} {pos : Pos} (h : ∀ e, PT X e (TRd T X.K W (r e))) : ∀ es, PW X (.BoolOp .Or es pos) (TRd T X.K W (compOr r es))
  | [] => ⟨fun _ _ _ _ _ _ _ ⟨_, _, _, _, q⟩ => q.elim⟩
  | [a] => zw_or1 (h a)
  | a :: b :: es => zw_or (h a) (compOrW_ok h (b :: es))
/-! subscripts -/
def isSl : Expr → Bool
  | .Slice _ _ _ _ => true
  | _ => false
theorem plain_ix {b : Expr} (h : isSl b = false) : PlainIx b := fun o i => by cases b <;> first | rfl | (cases h)
theorem plain_ix2 {b : Expr} (h : isSl b = false) (o i : Value) : subscripted b true o i = runValue (.builtin "lifetime.subscript" ⟨[o, i], []⟩) := by cases b <;> first | rfl | (cases h)
def optE (r : Expr → EV) : Option Expr → Option EV
  | none => none
  | some e => some (r e)
theorem opt_ok {r : Expr → EV} (h : ∀ e, PE X e (ERd T X.K W (r e))) : ∀ o, POk X T W o (optE r o)
  | none => trivial
  | some e => h e
def compSub (D : Desc) (cl : Calls) (r : Expr → EV) (o b : Expr) : EV := match b with
  | .Slice lo hi st _ => (match st with
    | none => eSlice (r o) (optE r lo) (optE r hi)
    | some s => (match lo with
      | some _ => eBad
      | none => (match hi with
        | some _ => eBad
        | none => (match s with
          | .UnaryOp .USub (.Constant (.int j) _ _) _ => whenE (iEq j 1) (eRev (r o))
          | _ => eBad))))
  | _ => eBin (alt2 (pItem D cl) pIxB) (r o) (r b)
theorem compSub_ok (g : Good T D G cl lv c X W) {r : Expr → EV} (h : ∀ e, PE X e (ERd T X.K W (r e))) (o b : Expr) (pos : Pos) : PE X (.Subscript o b pos) (ERd T X.K W (compSub D cl r o b)) := by
  have plain : ∀ b, isSl b = false → PE X (.Subscript o b pos) (ERd T X.K W (eBin (alt2 (pItem D cl) pIxB) (r o) (r b))) := fun b hb => z_ix (IxZ.alt (z_item g.F g.tk g.rm) z_ixB) (h o) (h b) (plain_ix hb) (plain_ix2 hb)
  cases b with
  | Slice lo hi st p2 =>
    cases st with
    | none => exact ze_slice (h o) (opt_ok h lo) (opt_ok h hi)
    | some s =>
      cases lo with
      | some _ => exact ze_bad
      | none =>
        cases hi with
        | some _ => exact ze_bad
        | none =>
          show PE X _ (ERd T X.K W (match s with | .UnaryOp .USub (.Constant (.int j) _ _) _ => whenE (iEq j 1) (eRev (r o)) | _ => eBad))
          split
          · rename_i j k p1 p3
            refine ze_when fun hj => ?_
            rw [iEq_eq, decide_eq_true_eq] at hj
            subst hj
            exact ze_rev (h o)
          · exact ze_bad
  | _ => exact plain _ rfl
def stepE (D : Desc) (G : Globs) (cl : Calls) (call : CE) (r rt : CE) : CE := fun c e => match e with
  | .Name x _ => compName G c x
  | .Constant k _ _ => compConst k
  | .BinOp a op b _ => eBin (opPrim D cl op) (r c a) (r c b)
  | .UnaryOp op a _ => (match op with
    | .USub => eUn (fun v A => orE (pNegI v A) fun _ => pNegO D cl v A) (r c a)
    | .Not => eNot (r c a)
    | _ => eBad)
  | .Compare a ops bs _ => (match ops with
    | [op] => (match bs with
      | [b] => whenE (!behindInMarks op b) (eBin (cmpPrim D cl op) (r c a) (r c b))
      | _ => eBad)
    | [op, op'] => (match bs with
      | [b, b'] => whenE (!lastMarks [op, op'] [b, b']) (eChain (cmpPrim D cl op) (cmpPrim D cl op') (r c a) (r c b) (r c b'))
      | _ => eBad)
    | _ => eBad)
  | .BoolOp op es _ => (match op with
    | .And => compAnd (r c) es
    | .Or => compOr (r c) es)
  | .IfExp t a b _ => eIf (rt c t) (r c a) (r c b)
  | .Tuple es _ _ => eTup (lst (r c) es)
  | .List es _ => eLst (lst (r c) es)
  | .Attribute o n _ => (match ix n D.ats 0 with
    | some a => whenE (dotOk o) (eUn (pAttr D cl a) (r c o))
    | none => eBad)
  | .Subscript o b _ => compSub D cl (r c) o b
  | _ => call c e
theorem stepE_ok {call r rt : CE} (hc : SndE T D G cl lv call) (hr : SndE T D G cl lv r) (ht : SndT T D G cl lv rt) : SndE T D G cl lv (stepE D G cl call r rt) := by
  intro c X W g e
  have h := hr c X W g
  cases e with
  | Name x p => exact comp_name g
  | Constant k j p => exact comp_const
  | BinOp a op b p => exact zz_bin (opPrim_ok g op) (h a) (h b)
  | UnaryOp op a p =>
    cases op with
    | USub => exact zz_un (z_negI.alt (z_negO g.F g.tk g.rm)) (h a)
    | Not => exact ze_not (h a)
    | _ => exact ze_bad
  | Compare a ops bs p =>
    show PE X _ (ERd T X.K W (match ops with | [op] => (match bs with | [b] => whenE (!behindInMarks op b) (eBin (cmpPrim D cl op) (r c a) (r c b)) | _ => eBad) | [op, op'] => (match bs with | [b, b'] => whenE (!lastMarks [op, op'] [b, b']) (eChain (cmpPrim D cl op) (cmpPrim D cl op') (r c a) (r c b) (r c b')) | _ => eBad) | _ => eBad))
    split
    · split
      · exact ze_when fun hm => zz_cmp (cmpPrim_ok g _) (h a) (h _) (by simpa using hm)
      · exact ze_bad
    · split
      · exact ze_when fun hm => zz_chain (cmpPrim_ok g _) (cmpPrim_ok g _) (h a) (h _) (h _) (by simpa using hm)
      · exact ze_bad
    · exact ze_bad
  | BoolOp op es p =>
    cases op with
    | And => exact compAnd_ok h es
    | Or => exact compOr_ok h es
  | IfExp t a b p => exact ze_if (ht c X W g t) (h a) (h b)
  | Tuple es k p => exact ze_tup (lst_ok h es)
  | List es p => exact ze_lst (lst_ok h es)
  | Attribute o n p =>
    show PE X _ (ERd T X.K W (match ix n D.ats 0 with | some a => whenE (dotOk o) (eUn (pAttr D cl a) (r c o)) | none => eBad))
    split
    · rename_i a e
      refine ze_when fun hd => ?_
      have hi := (ix_ok e).2
      rw [Nat.sub_zero] at hi
      exact ze_attr g.F g.rm (g.ga a n hi) (h o) hd
    · exact ze_bad
  | Subscript o b p => exact compSub_ok g h o b p
  | _ => exact hc c X W g _
/-! tests -/
def stepT (D : Desc) (cl : Calls) (r rt : CE) : CE := fun c e => match e with
  | .UnaryOp op a _ => (match op with
    | .Not => eNot (rt c a)
    | _ => eBad)
  | .Compare a ops bs _ => (match ops with
    | [op] => (match bs with
      | [b] => whenE (!behindInMarks op b) (eBin (cmpPrim D cl op) (r c a) (r c b))
      | _ => eBad)
    | [op, op'] => (match bs with
      | [b, b'] => whenE (!lastMarks [op, op'] [b, b']) (eChain (cmpPrim D cl op) (cmpPrim D cl op') (r c a) (r c b) (r c b'))
      | _ => eBad)
    | _ => eBad)
  | .BoolOp op es _ => (match op with
    | .And => compAnd (rt c) es
    | .Or => compOr (rt c) es)
  | .Name x p => r c (.Name x p)
  | .Call f as ks p => r c (.Call f as ks p)
  | .Attribute o n p => r c (.Attribute o n p)
  | .Subscript o b p => r c (.Subscript o b p)
  | _ => eBad
theorem zt_when {b : Bool} (h : b = true → PT X e (TRd T X.K W t)) : PT X e (TRd T X.K W (whenE b t)) := by
  cases b with
  | true => exact h rfl
  | false => exact zt_bad
theorem stepT_ok {r rt : CE} (hr : SndE T D G cl lv r) (ht : SndT T D G cl lv rt) : SndT T D G cl lv (stepT D cl r rt) := by
  intro c X W g e
  have h := hr c X W g
  have h2 := ht c X W g
  cases e with
  | UnaryOp op a p =>
    cases op with
    | Not => exact zt_not (h2 a)
    | _ => exact zt_bad
  | Compare a ops bs p =>
    show PT X _ (TRd T X.K W (match ops with | [op] => (match bs with | [b] => whenE (!behindInMarks op b) (eBin (cmpPrim D cl op) (r c a) (r c b)) | _ => eBad) | [op, op'] => (match bs with | [b, b'] => whenE (!lastMarks [op, op'] [b, b']) (eChain (cmpPrim D cl op) (cmpPrim D cl op') (r c a) (r c b) (r c b')) | _ => eBad) | _ => eBad))
    split
    · split
      · exact zt_when fun hm => zzt_cmp (cmpPrim_ok g _) (h a) (h _) (by simpa using hm)
      · exact zt_bad
    · split
      · exact zt_when fun hm => zzt_chain (cmpPrim_ok g _) (cmpPrim_ok g _) (h a) (h _) (h _) (by simpa using hm)
      · exact zt_bad
    · exact zt_bad
  | BoolOp op es p =>
    cases op with
    | And => exact (compAndW_ok h2 es).pt
    | Or => exact (compOrW_ok h2 es).pt
  | Name x p => exact zt_val (h _) fun _ => rfl
  | Call f as ks p => exact zt_val (h _) fun _ => rfl
  | Attribute o n p => exact zt_val (h _) fun _ => rfl
  | Subscript o b p => exact zt_val (h _) fun _ => rfl
  | _ => exact zt_bad
end
end Z
end
section
/-! Z31: the text of a def as combinators: calls. -/
namespace Z
open PySem PySem.Spec PyProof.Rows L2
section
variable {T : Tbl} {D : Desc} {G : Globs} {cl : Calls} {lv : Nat} {c : Ctx} {X : Cx} {W : WX} {e : Expr} {t : EV}
/-! ## the callee -/
def goodName (x : Str) : Bool := !(x == ("__name__" : Str)) && !(x == ("__debug__" : Str))
theorem goodName_ok {x : Str} (h : goodName x = true) : x ≠ "__name__" ∧ (x == ("__debug__" : Str)) = false := by
  obtain ⟨h1, h2⟩ := Bool.and_eq_true_iff.mp h
  exact ⟨by simpa using h1, by simpa using h2⟩
def isNone_ (G : Globs) (x : Str) : Bool := G.none_.contains x
theorem isNone_ok (g : Good T D G cl lv c X W) {x : Str} (h : isNone_ G x = true) : X.mg x = none := g.gn x (by simpa [isNone_] using h)
/-- the built-in functions by value -/
def bfun (D : Desc) (cl : Calls) (x : Str) : Option (List AV → AH → RE) :=
  if x = "len" then some (pLen D cl) else if x = "sum" then some pSum else if x = "all" then some (pAllAny bAll) else if x = "any" then some (pAllAny bAny) else if x = "abs" then some (p1i iAbs)
  else if x = "max" then some (pMM iMax iMaxL) else if x = "min" then some (pMM iMin iMinL) else none
theorem bfun_ok (g : Good T D G cl lv c X W) {x : Str} {p : List AV → AH → RE} (h : bfun D cl x = some p) : ∃ id, bootBuiltins x = some (.builtin id) ∧ CallZ X T W (.builtin id) p ∧ x ≠ "__name__" ∧ (x == ("__debug__" : Str)) = false := by
  unfold bfun at h
  split at h
  · rename_i e; cases h; subst e; exact ⟨"len", (by decide +kernel : bootBuiltins "len" = some (.builtin "len")), z_len g.F g.tk g.rm, by decide, by decide⟩
  split at h
  · rename_i e; cases h; subst e; exact ⟨_, PyProof.Rows.boot_sum, z_sum g.calm, by decide, by decide⟩
  split at h
  · rename_i e; cases h; subst e; exact ⟨_, PyProof.Rows.boot_all, z_all g.calm, by decide, by decide⟩
  split at h
  · rename_i e; cases h; subst e; exact ⟨_, PyProof.Rows.boot_any, z_any g.calm, by decide, by decide⟩
  split at h
  · rename_i e; cases h; subst e; exact ⟨_, PyProof.Rows.boot_abs, z_abs, by decide, by decide⟩
  split at h
  · rename_i e; cases h; subst e; exact ⟨_, PyProof.Rows.boot_max, z_max g.calm, by decide, by decide⟩
  split at h
  · rename_i e; cases h; subst e; exact ⟨_, PyProof.Rows.boot_min, z_min g.calm, by decide, by decide⟩
  · cases h
def bty (x : Str) : Option (List AV → AH → RE) :=
  if x = "list" then some pListC else if x = "tuple" then some pTupleC else if x = "dict" then some pDictC else none
theorem bty_ok (g : Good T D G cl lv c X W) {x : Str} {p : List AV → AH → RE} (h : bty x = some p) : ∃ id, bootBuiltins x = some (.type id) ∧ CallZ X T W (.type id) p ∧ x ≠ "__name__" ∧ (x == ("__debug__" : Str)) = false := by
  unfold bty at h
  split at h
  · rename_i e; cases h; subst e; exact ⟨_, PyProof.Rows.boot_list, z_listC g.calm, by decide, by decide⟩
  split at h
  · rename_i e; cases h; subst e; exact ⟨_, PyProof.Rows.boot_tuple, z_tupleC, by decide, by decide⟩
  split at h
  · rename_i e; cases h; subst e; exact ⟨_, PyProof.Rows.boot_dict, z_dictC g.calm, by decide, by decide⟩
  · cases h
/-- a built-in type behind a name, as isinstance's second argument -/
def tyTag (x : Str) : Option Nat :=
  if x = "bool" then some 1 else if x = "int" then some 2 else if x = "str" then some 3 else if x = "list" then some 4 else if x = "tuple" then some 5 else if x = "dict" then some 6 else none
theorem tyTag_ok {x : Str} {u : Nat} (h : tyTag x = some u) : ∃ n, bootBuiltins x = some (.type n) ∧ tagV T u = .type n ∧ x ≠ "__name__" ∧ (x == ("__debug__" : Str)) = false := by
  unfold tyTag at h
  split at h
  · rename_i e; cases h; subst e; exact ⟨_, PyProof.Rows.boot_bool, rfl, by decide, by decide⟩
  split at h
  · rename_i e; cases h; subst e; exact ⟨_, PyProof.Rows.boot_int, rfl, by decide, by decide⟩
  split at h
  · rename_i e; cases h; subst e; exact ⟨_, PyProof.Rows.boot_str, rfl, by decide, by decide⟩
  split at h
  · rename_i e; cases h; subst e; exact ⟨_, PyProof.Rows.boot_list, rfl, by decide, by decide⟩
  split at h
  · rename_i e; cases h; subst e; exact ⟨_, PyProof.Rows.boot_tuple, rfl, by decide, by decide⟩
  split at h
  · rename_i e; cases h; subst e; exact ⟨_, PyProof.Rows.boot_dict, rfl, by decide, by decide⟩
  · cases h
theorem pe_tyname {x : Str} {n : String} {p : Pos} (hg : Gl X x) (hm : X.mg x = none) (hv : bootBuiltins x = some (.type n)) (hn : x ≠ "__name__") (hd : (x == ("__debug__" : Str)) = false) : PE X (.Name x p) (tC (.ty n)) :=
  ⟨fun pins s σ H Q I h => ld_blt I hg hm hv ⟨.ty n, H, I, rfl, h⟩ hn hd⟩
def clsTag (G : Globs) (c : Ctx) (x : Str) : Option Nat := match glB c.sc x with
  | true => (match G.cls.lookup x with
    | some k => (match goodName x with
      | true => some (k + 7)
      | false => none)
    | none => (match isNone_ G x with
      | true => tyTag x
      | false => none))
  | false => none
theorem clsTag_ok (g : Good T D G cl lv c X W) {x : Str} {u : Nat} {p : Pos} (h : clsTag G c x = some u) : ∃ cv, PE X (.Name x p) (tC cv) ∧ ∀ w, RelV cv w → w = tagV T u := by
  unfold clsTag at h
  cases e1 : glB c.sc x with
  | false => rw [e1] at h; cases h
  | true =>
    rw [e1] at h
    simp only at h
    have hg := gl_ok g.sc e1
    cases e2 : G.cls.lookup x with
    | some k =>
      rw [e2] at h
      simp only at h
      cases e3 : goodName x with
      | false => rw [e3] at h; cases h
      | true =>
        rw [e3] at h
        cases h
        exact ⟨.ref (T.ca k), pe_glob hg (g.gc x k e2) rfl (goodName_ok e3).2, fun w r => r⟩
    | none =>
      rw [e2] at h
      simp only at h
      cases e3 : isNone_ G x with
      | false => rw [e3] at h; cases h
      | true =>
        rw [e3] at h
        obtain ⟨n, hb, ht, h1, h2⟩ := tyTag_ok (T := T) h
        exact ⟨.ty n, pe_tyname hg (isNone_ok g e3) hb h1 h2, fun w r => by rw [ht]; exact r⟩
/-! ## calls of names -/
def starsB (es : List Expr) : Bool := !(es.all noStar)
theorem any_star {pos : Pos} {env : Env} : ∀ {es : List Expr}, es.all noStar = false → (backTo pos (starEach es env)).any (·.1) = true
  | [], h => by cases h
  | e :: es, h => by
    cases e1 : noStar e with
    | true =>
      rw [star_cons e1]
      rw [List.all_cons, e1, Bool.true_and] at h
      exact any_star (es := es) h
    | false =>
      cases e with
      | Starred e' p => rfl
      | _ => cases e1
/-- f(args): f a value that takes positional arguments -/
def callNm (q : List AV → AH → RE) (r : Expr → EV) (as : List Expr) : EV := match as with
  | [] => fun s A => (lNil s A).bd q
  | a :: es => (match noStar a with
    | true => fun s A => (lst r (a :: es) s A).bd q
    | false => (match a with
      | .Starred e' _ => (match es with
        | [] => fun s A => (lStar (r e') lNil s A).bd q
        | _ :: _ => eBad)
      | _ => eBad))
theorem callNm_ok {cv : Value} {q : List AV → AH → RE} {x : Str} {p pos : Pos} {r : Expr → EV} (hc : CallZ X T W cv q) (ld : ∀ (pins : List (Addr × Obj)) (s : Shared) (σ : L2.St) (H : Hp) (Q : Value → Shared → Prop), Inv X pins σ H s → Q cv s → wpAny (model X.prog X.w) X.A (eval (.Name x p) X.env) Q X.xe s) (kp : PySem.W.keepIn X.K cv = true)
    (h : ∀ e, PE X e (ERd T X.K W (r e))) : ∀ as, PE X (.Call (.Name x p) as [] pos) (ERd T X.K W (callNm q r as))
  | [] => ze_callV0 hc ld kp
  | a :: es => by
    show PE X _ (ERd T X.K W (match noStar a with | true => fun s A => (lst r (a :: es) s A).bd q | false => (match a with | .Starred e' _ => (match es with | [] => fun s A => (lStar (r e') lNil s A).bd q | _ :: _ => eBad) | _ => eBad)))
    cases e1 : noStar a with
    | true =>
      cases e2 : es.all noStar with
      | true => exact ze_callV hc ld kp e1 e2 (lst_ok h (a :: es))
      | false => exact ze_callVS hc ld kp e1 (any_star e2) (lst_ok h (a :: es))
    | false =>
      cases a with
      | Starred e' p' =>
        cases es with
        | nil => exact ze_callV1 hc ld kp (h e')
        | cons _ _ => exact ze_bad
      | _ => cases e1
/-- with keywords -/
def kwl (r : Expr → EV) : List Keyword → Sl → AH → RL
  | [] => lNil
  | ⟨_, v, _⟩ :: ks => lCons (r v) (kwl r ks)
theorem kwl_ok {r : Expr → EV} (h : ∀ e, PE X e (ERd T X.K W (r e))) : ∀ ks, PK X ks (ARd T X.K W (kwl r ks))
  | [] => zk_nil
  | ⟨_, v, _⟩ :: ks => zk_cons (h v) (kwl_ok h ks)
def callKwNm (q : List Str → List AV → List AV → AH → RE) (r : Expr → EV) (as : List Expr) (ks : List Keyword) : EV := match kwNames ks with
  | some ns => (match as with
    | [] => eKw (q ns) lNil (kwl r ks)
    | a :: es => whenE (noStar a && es.all noStar) (eKw (q ns) (lst r (a :: es)) (kwl r ks)))
  | none => eBad
theorem callKwNm_ok {cv : Value} {q : List Str → List AV → List AV → AH → RE} {x : Str} {p pos : Pos} {r : Expr → EV} (hc : ∀ ns, CallKZ X T W cv ns (q ns)) (ld : ∀ (pins : List (Addr × Obj)) (s : Shared) (σ : L2.St) (H : Hp) (Q : Value → Shared → Prop), Inv X pins σ H s → Q cv s → wpAny (model X.prog X.w) X.A (eval (.Name x p) X.env) Q X.xe s) (kp : PySem.W.keepIn X.K cv = true)
    (h : ∀ e, PE X e (ERd T X.K W (r e))) (as : List Expr) (ks : List Keyword) : PE X (.Call (.Name x p) as ks pos) (ERd T X.K W (callKwNm q r as ks)) := by
  unfold callKwNm
  cases e1 : kwNames ks with
  | none => exact ze_bad
  | some ns =>
    cases as with
    | nil => exact ze_callKV0 (hc ns) ld kp e1 (kwl_ok h ks)
    | cons a es =>
      refine ze_when fun hs => ?_
      obtain ⟨h1, h2⟩ := Bool.and_eq_true_iff.mp hs
      exact ze_callKV (hc ns) ld kp h1 h2 e1 (lst_ok h (a :: es)) (kwl_ok h ks)
def callPos (q : List AV → AH → RE) (qk : List Str → List AV → List AV → AH → RE) (r : Expr → EV) (as : List Expr) (ks : List Keyword) : EV := match ks with
  | [] => callNm q r as
  | k :: ks => callKwNm qk r as (k :: ks)
/-! ## instances called -/
def calleeB : Expr → Bool
  | .Name _ _ => true
  | .Call _ _ _ _ => true
  | .UnaryOp _ _ _ => true
  | .Subscript _ _ _ => true
  | _ => false
theorem callee_ok {fe : Expr} {as : List Expr} {pos : Pos} {env : Env} (h : calleeB fe = true) : eval (.Call fe as [] pos) env = (do callWith pos (← eval fe env) [] (backTo pos (starEach as env)) (backToKw pos (keywordEach [] env))) := by
  cases fe <;> first | rfl | (cases h)
def compInst (D : Desc) (cl : Calls) (r : Expr → EV) (fe : Expr) (as : List Expr) : EV := match as with
  | [] => eBad
  | a :: es => whenE (calleeB fe && noStar a && es.all noStar) (eCallO D cl (r fe) (lst r (a :: es)))
theorem compInst_ok (g : Good T D G cl lv c X W) {r : Expr → EV} (h : ∀ e, PE X e (ERd T X.K W (r e))) (fe : Expr) (as : List Expr) (pos : Pos) : PE X (.Call fe as [] pos) (ERd T X.K W (compInst D cl r fe as)) := by
  cases as with
  | nil => exact ze_bad
  | cons a es =>
    refine ze_when fun hs => ?_
    obtain ⟨h12, h3⟩ := Bool.and_eq_true_iff.mp hs
    obtain ⟨h1, h2⟩ := Bool.and_eq_true_iff.mp h12
    exact ze_callO g.F g.tk g.rm (h fe) (lst_ok h (a :: es)) h2 h3 (callee_ok h1)
/-! ## names called -/
def compBlt (D : Desc) (G : Globs) (cl : Calls) (c : Ctx) (r : Expr → EV) (x : Str) (as : List Expr) : EV := match as with
  | [] => eBad
  | a :: es => whenE (noStar a && es.all noStar) (match bfun D cl x with
    | some p => fun s A => (lst r (a :: es) s A).bd p
    | none => (match bty x with
      | some p => fun s A => (lst r (a :: es) s A).bd p
      | none => eBad))
theorem compBlt_ok (g : Good T D G cl lv c X W) {r : Expr → EV} (h : ∀ e, PE X e (ERd T X.K W (r e))) {x : Str} (hg : Gl X x) (hm : X.mg x = none) (as : List Expr) (p pos : Pos) : PE X (.Call (.Name x p) as [] pos) (ERd T X.K W (compBlt D G cl c r x as)) := by
  cases as with
  | nil => exact ze_bad
  | cons a es =>
    refine ze_when fun hs => ?_
    obtain ⟨h1, h2⟩ := Bool.and_eq_true_iff.mp hs
    cases e1 : bfun D cl x with
    | some q =>
      obtain ⟨id, hb, hc, n1, n2⟩ := bfun_ok g e1
      exact z_bfun hc hg hm hb n1 n2 h1 h2 (lst_ok h (a :: es))
    | none =>
      cases e2 : bty x with
      | some q =>
        obtain ⟨id, hb, hc, n1, n2⟩ := bty_ok g e2
        exact z_bty hc hg hm hb n1 n2 h1 h2 (lst_ok h (a :: es))
      | none => exact ze_bad
def compIsi (D : Desc) (G : Globs) (c : Ctx) (r : Expr → EV) (as : List Expr) : EV := match as with
  | [a, .Name y _] => (match clsTag G c y with
    | some u => whenE (noStar a) (eUn (pIsi D u) (r a))
    | none => eBad)
  | _ => eBad
theorem compIsi_ok (g : Good T D G cl lv c X W) {r : Expr → EV} (h : ∀ e, PE X e (ERd T X.K W (r e))) (hg : Gl X "isinstance") (hm : X.mg "isinstance" = none) (as : List Expr) (p pos : Pos) : PE X (.Call (.Name "isinstance" p) as [] pos) (ERd T X.K W (compIsi D G c r as)) := by
  unfold compIsi
  split
  · rename_i a y p2
    cases e1 : clsTag G c y with
    | none => exact ze_bad
    | some u =>
      refine ze_when fun hs => ?_
      obtain ⟨cv, hcv, hw⟩ := clsTag_ok (X := X) (p := p2) g e1
      exact ze_isi g.F hg hm (h a) hcv hw hs rfl
  · exact ze_bad
/-- list(range(..)) -/
def compLR (G : Globs) (c : Ctx) (r : Expr → EV) (as : List Expr) : Option EV := match as with
  | [.Call (.Name y _) bs ks _] => (match decide (y = "range") && glB c.sc y && isNone_ G y with
    | true => (match ks with
      | [] => (match bs with
        | [a] => some (whenE (noStar a) (eUn (fun v A => pRgL (.int 0) v A) (r a)))
        | [a, b] => some (whenE (noStar a && noStar b) (eBin pRgL (r a) (r b)))
        | _ => none)
      | _ => none)
    | false => none)
  | _ => none
theorem compLR_ok (g : Good T D G cl lv c X W) {r : Expr → EV} (h : ∀ e, PE X e (ERd T X.K W (r e))) (hg : Gl X "list") (hm : X.mg "list" = none) {as : List Expr} {t : EV} (e : compLR G c r as = some t) (p pos : Pos) : PE X (.Call (.Name "list" p) as [] pos) (ERd T X.K W t) := by
  unfold compLR at e
  split at e
  · rename_i y p1 bs ks ps1
    split at e
    · rename_i hy
      obtain ⟨h12, h3⟩ := Bool.and_eq_true_iff.mp hy
      obtain ⟨h1, h2⟩ := Bool.and_eq_true_iff.mp h12
      have h1 := of_decide_eq_true h1
      subst h1
      have hg2 := gl_ok g.sc h2
      have hm2 := isNone_ok g h3
      split at e
      · split at e
        · cases e
          exact ze_when fun hn => ze_listRg1 g.calm hg hm hg2 hm2 (h _) hn
        · cases e
          refine ze_when fun hn => ?_
          obtain ⟨n1, n2⟩ := Bool.and_eq_true_iff.mp hn
          exact ze_listRg2 g.calm hg hm hg2 hm2 (h _) (h _) n1 n2
        · cases e
      · cases e
    · cases e
  · cases e
def compName2 (D : Desc) (G : Globs) (cl : Calls) (c : Ctx) (r : Expr → EV) (x : Str) (as : List Expr) (ks : List Keyword) : EV := match glB c.sc x && goodName x with
  | true => (match G.fns.lookup x with
    | some k => (match D.defs[k]? with
      | some _ => callPos (callK D cl k) (callKw D cl k) r as ks
      | none => eBad)
    | none => (match G.cls.lookup x with
      | some k => (match D.clss[k]? with
        | some _ => callPos (pMake D cl k) (pMakeKw D cl k) r as ks
        | none => eBad)
      | none => (match isNone_ G x with
        | true => (match ks with
          | [] => (match decide (x = "isinstance") with
            | true => compIsi D G c r as
            | false => (match decide (x = "list") with
              | true => (match compLR G c r as with
                | some t => t
                | none => compBlt D G cl c r x as)
              | false => compBlt D G cl c r x as))
          | _ :: _ => eBad)
        | false => eBad)))
  | false => eBad
theorem callPos_ok {cv : Value} {q : List AV → AH → RE} {qk : List Str → List AV → List AV → AH → RE} {x : Str} {p pos : Pos} {r : Expr → EV} (hc : CallZ X T W cv q) (hk : ∀ ns, CallKZ X T W cv ns (qk ns)) (hg : Gl X x) (hm : X.mg x = some cv) (hd : (x == ("__debug__" : Str)) = false) (kp : PySem.W.keepIn X.K cv = true)
    (h : ∀ e, PE X e (ERd T X.K W (r e))) (as : List Expr) (ks : List Keyword) : PE X (.Call (.Name x p) as ks pos) (ERd T X.K W (callPos q qk r as ks)) := by
  have ld : ∀ (pins : List (Addr × Obj)) (s : Shared) (σ : L2.St) (H : Hp) (Q : Value → Shared → Prop), Inv X pins σ H s → Q cv s → wpAny (model X.prog X.w) X.A (eval (.Name x p) X.env) Q X.xe s := fun pins s σ H Q I hq => ld_glob I hg hm hq hd
  cases ks with
  | nil => exact callNm_ok hc ld kp h as
  | cons k ks => exact callKwNm_ok hk ld kp h as (k :: ks)
theorem compName2_ok (g : Good T D G cl lv c X W) {r : Expr → EV} (h : ∀ e, PE X e (ERd T X.K W (r e))) (x : Str) (as : List Expr) (ks : List Keyword) (p pos : Pos) : PE X (.Call (.Name x p) as ks pos) (ERd T X.K W (compName2 D G cl c r x as ks)) := by
  unfold compName2
  cases e0 : glB c.sc x && goodName x with
  | false => exact ze_bad
  | true =>
    obtain ⟨e1, e2⟩ := Bool.and_eq_true_iff.mp e0
    have hg := gl_ok g.sc e1
    have hd := (goodName_ok e2).2
    simp only
    cases e3 : G.fns.lookup x with
    | some k =>
      simp only
      cases e4 : D.defs[k]? with
      | none => exact ze_bad
      | some d => exact callPos_ok (z_callK g.F g.tk (g.rm.mono (Nat.le_succ _)) k) (z_callKw g.F g.tk (g.rm.mono (Nat.le_succ _)) k) hg (g.gf x k e3) hd (g.F.fn k d e4).kp h as ks
    | none =>
      simp only
      cases e4 : G.cls.lookup x with
      | some k =>
        simp only
        cases e5 : D.clss[k]? with
        | none => exact ze_bad
        | some z => exact callPos_ok (z_make g.F g.tk g.rm k) (z_makeKw g.F g.tk g.rm k) hg (g.gc x k e4) hd (g.F.cls k z e5).kp h as ks
      | none =>
        simp only
        cases e5 : isNone_ G x with
        | false => exact ze_bad
        | true =>
          have hm := isNone_ok g e5
          cases ks with
          | cons _ _ => exact ze_bad
          | nil =>
            simp only
            cases e6 : decide (x = "isinstance") with
            | true =>
              have ex := of_decide_eq_true e6
              subst ex
              exact compIsi_ok g h hg hm as p pos
            | false =>
              simp only
              cases e7 : decide (x = "list") with
              | false => exact compBlt_ok g h hg hm as p pos
              | true =>
                have ex := of_decide_eq_true e7
                subst ex
                simp only
                cases e8 : compLR G c r as with
                | some t => exact compLR_ok g h hg hm e8 p pos
                | none => exact compBlt_ok g h hg hm as p pos
/-! ## methods called -/
def compBM (r : Expr → EV) (o : Expr) (m : Str) (as : List Expr) : EV := match as with
  | [a] => (match decide (m = "append") with
    | true => whenE (noStar a) (eBM isL pAppend (r o) (lst r [a]))
    | false => (match decide (m = "extend") with
      | true => whenE (noStar a) (eBM isL pExtend (r o) (lst r [a]))
      | false => (match decide (m = "get") with
        | true => whenE (noStar a) (eBM isDV pDGet (r o) (lCons (r a) lNil))
        | false => eBad)))
  | [a, b] => (match decide (m = "get") with
    | true => whenE (noStar a && noStar b) (eBM isDV pDGet (r o) (lCons (r a) (lCons (r b) lNil)))
    | false => eBad)
  | _ => eBad
theorem compBM_ok (g : Good T D G cl lv c X W) {r : Expr → EV} (h : ∀ e, PE X e (ERd T X.K W (r e))) {o : Expr} {m : Str} {apos pos : Pos} (hb : dotOk o = true) (hl : (apos.endLine == pos.line) = true) (as : List Expr) : PE X (.Call (.Attribute o m apos) as [] pos) (ERd T X.K W (compBM r o m as)) := by
  unfold compBM
  split
  · rename_i a
    split
    · rename_i e; have e := of_decide_eq_true e; subst e
      exact ze_when fun hn => ze_bm PySem.F.plainAttrs_list PySem.F.slot_list_append PySem.F.type_list_append mt_append isL_ok append_h (h o) (lst_ok h [a]) hb hn rfl hl rfl
    · split
      · rename_i e; have e := of_decide_eq_true e; subst e
        exact ze_when fun hn => ze_bm PySem.F.plainAttrs_list PySem.F.slot_list_extend PySem.F.type_list_extend mt_extend isL_ok extend_h (h o) (lst_ok h [a]) hb hn rfl hl rfl
      · split
        · rename_i e; have e := of_decide_eq_true e; subst e
          exact ze_when fun hn => ze_dget1 g.hu (h o) (h a) hb hn hl
        · exact ze_bad
  · rename_i a b
    split
    · rename_i e; have e := of_decide_eq_true e; subst e
      refine ze_when fun hn => ?_
      obtain ⟨n1, n2⟩ := Bool.and_eq_true_iff.mp hn
      exact ze_dget2 g.hu (h o) (h a) (h b) hb n1 n2 hl
    · exact ze_bad
  · exact ze_bad
def compMeth (D : Desc) (cl : Calls) (r : Expr → EV) (o : Expr) (m : Str) (apos pos : Pos) (as : List Expr) : EV := whenE (dotOk o && (apos.endLine == pos.line)) (match ix m D.ats 0 with
  | some a => whenE (as.all noStar && Nat.blt as.length 30) (eMeth D cl a (r o) (lst r as))
  | none => compBM r o m as)
theorem compMeth_ok (g : Good T D G cl lv c X W) {r : Expr → EV} (h : ∀ e, PE X e (ERd T X.K W (r e))) (o : Expr) (m : Str) (apos pos : Pos) (as : List Expr) : PE X (.Call (.Attribute o m apos) as [] pos) (ERd T X.K W (compMeth D cl r o m apos pos as)) := by
  refine ze_when fun hh => ?_
  obtain ⟨h1, h2⟩ := Bool.and_eq_true_iff.mp hh
  cases e : ix m D.ats 0 with
  | none => exact compBM_ok g h h1 h2 as
  | some a =>
    refine ze_when fun hn => ?_
    obtain ⟨n1, n2⟩ := Bool.and_eq_true_iff.mp hn
    have hi := (ix_ok e).2
    rw [Nat.sub_zero] at hi
    exact ze_meth g.F g.tk (g.rm.mono (Nat.le_succ _)) (g.ga a m hi) (h o) (lst_ok h as) (fun e => by rw [e]; rfl) h1 n1 h2 n2
/-! ## dicts written down -/
def pairsE (r : Expr → EV) : List (Option Expr) → List Expr → Option (List (EV × EV))
  | [], vs => (match vs with
    | [] => some []
    | _ => none)
  | k :: ks, vs => (match k with
    | none => none
    | some k => (match vs with
      | [] => none
      | v :: vs => (match pairsE r ks vs with
        | some l => some ((r k, r v) :: l)
        | none => none)))
theorem pairsE_ok {r : Expr → EV} (h : ∀ e, PE X e (ERd T X.K W (r e))) {pos : Pos} : ∀ {ks : List (Option Expr)} {vs : List Expr} {l : List (EV × EV)}, pairsE r ks vs = some l → PPs X pos ks vs (l.map fun p => (ERd T X.K W p.1, ERd T X.K W p.2)) ∧ ks.all (·.isSome) = true ∧ ks.length = vs.length
  | [], [], l, e => by cases e; exact ⟨pps_nil, rfl, rfl⟩
  | [], _ :: _, l, e => by cases e
  | none :: ks, vs, l, e => by cases e
  | some k :: ks, [], l, e => by cases e
  | some k :: ks, v :: vs, l, e => by
    have e : (match pairsE r ks vs with | some l => some ((r k, r v) :: l) | none => none) = some l := e
    cases e1 : pairsE r ks vs with
    | none => rw [e1] at e; cases e
    | some l' =>
      rw [e1] at e
      cases e
      obtain ⟨h1, h2, h3⟩ := pairsE_ok h e1
      exact ⟨pps_cons (h k) (h v) h1, h2, by rw [List.length_cons, List.length_cons, h3]⟩
/-- {}: a dict of str and int keys -/
def compDict (r : Expr → EV) (ks : List (Option Expr)) (vs : List Expr) : EV := match ks with
  | [] => (match vs with
    | [] => fun _ A => mkDct [] A
    | _ => eBad)
  | k :: ks => (match pairsE r (k :: ks) vs with
    | some l => whenE (Nat.ble (k :: ks).length 15) (eDisp l)
    | none => eBad)
theorem compDict_ok {r : Expr → EV} (h : ∀ e, PE X e (ERd T X.K W (r e))) (ks : List (Option Expr)) (vs : List Expr) (pos : Pos) : PE X (.Dict ks vs pos) (ERd T X.K W (compDict r ks vs)) := by
  cases ks with
  | nil =>
    cases vs with
    | nil => exact pe_dnewK.im fun σ H Q ⟨f, A, s, a, q⟩ => Post.dct q a.rel .nil
    | cons _ _ => exact ze_bad
  | cons k ks =>
    show PE X _ (ERd T X.K W (match pairsE r (k :: ks) vs with | some l => whenE (Nat.ble (k :: ks).length 15) (eDisp l) | none => eBad))
    cases e : pairsE r (k :: ks) vs with
    | none => exact ze_bad
    | some l =>
      refine ze_when fun hl => ?_
      obtain ⟨h1, h2, h3⟩ := pairsE_ok h e
      exact ze_disp h1 h2 h3 (fun z => nomatch z) (Nat.le_of_ble_eq_true hl)
end
end Z
end
section
/-! Z32: the text of a def as combinators: targets, walks, comprehensions. -/
namespace Z
open PySem PySem.Spec PyProof.Rows L2
section
variable {T : Tbl} {D : Desc} {G : Globs} {cl : Calls} {lv : Nat} {c : Ctx} {X : Cx} {W : WX} {e : Expr} {t : EV}
/-! ## targets -/
def locB (sc : Scope) (x : Str) : Bool := match sc.names.lookup x with
  | some .local => true
  | some .cell => true
  | _ => false
theorem loc_ok {sc : Scope} {x : Str} (h : locB sc x = true) : L2.Loc sc x := by
  unfold locB at h
  unfold L2.Loc
  cases e : sc.names.lookup x with
  | none => rw [e] at h; cases h
  | some k =>
    rw [e] at h
    cases k with
    | «local» => exact .inl rfl
    | cell => exact .inr rfl
    | _ => cases h
def stB (c : Ctx) (x : Str) : Bool := locB c.sc x && c.fk.contains x
def tgL (f : Expr → Option Tgt) : List Expr → Option Tgt
  | [] => some .nil
  | e :: es => match f e with
    | some a => (match tgL f es with
      | some b => some (.cons a b)
      | none => none)
    | none => none
def tgOf (c : Ctx) : Nat → Expr → Option Tgt
  | 0, _ => none
  | n + 1, e => match e with
    | .Name x _ => (match stB c x with
      | true => (match ix x c.N 0 with
        | some i => some (.nm i)
        | none => none)
      | false => none)
    | .Tuple es _ _ => tgL (tgOf c n) es
    | _ => none
theorem assignEach_cons {e : Expr} {es : List Expr} {env : Env} (h : noStar e = true) : assignEach (e :: es) env = (false, assign e env) :: assignEach es env := by cases e <;> first | rfl | cases h
theorem tgOf_star {n : Nat} {gt : Tgt} (h : tgOf c n e = some gt) : noStar e = true := by
  cases n with
  | zero => cases h
  | succ n => cases e <;> first | rfl | (cases h)
theorem tgL_ok {f : Expr → Option Tgt} (hf : ∀ e g, f e = some g → PG X e (tgR X.K g) ∧ noStar e = true) : ∀ {es : List Expr} {gt : Tgt}, tgL f es = some gt → PGs X es (tgsR X.K gt) ∧ (assignEach es X.env).length = tgN gt ∧ (assignEach es X.env).findIdx? (·.1) = none ∧ (∀ i, gt ≠ .nm i)
  | [], gt, h => by cases h; exact ⟨pgs_nil, rfl, rfl, fun i z => nomatch z⟩
  | e :: es, gt, h => by
    unfold tgL at h
    split at h
    · rename_i a ea
      split at h
      · rename_i b eb
        cases h
        obtain ⟨h1, h2⟩ := hf e a ea
        obtain ⟨h3, h4, h5, _⟩ := tgL_ok hf eb
        refine ⟨pgs_cons h1 h3 (by rw [assignEach_cons h2]; rfl), by rw [assignEach_cons h2, List.length_cons, h4]; rfl, ?_, fun i z => nomatch z⟩
        rw [assignEach_cons h2, List.findIdx?_cons, h5]
        rfl
      · cases h
    · cases h
theorem tgOf_ok (g : Good T D G cl lv c X W) : ∀ (n : Nat) {e : Expr} {gt : Tgt}, tgOf c n e = some gt → PG X e (tgR X.K gt)
  | 0, _, _, h => by cases h
  | n + 1, e, gt, h => by
    unfold tgOf at h
    split at h
    · rename_i x p
      split at h
      · rename_i hs
        split at h
        · rename_i i hi
          cases h
          obtain ⟨h1, h2⟩ := Bool.and_eq_true_iff.mp hs
          have hi := (ix_ok hi).2
          rw [Nat.sub_zero] at hi
          exact pg_name (by rw [g.nN]; exact g.nd) (by rw [g.nN]; exact hi) (by rw [g.sc]; exact loc_ok h1) (g.fk x (by simpa using h2))
        · cases h
      · cases h
    · rename_i es k p
      obtain ⟨h1, h2, h3, h4⟩ := tgL_ok (X := X) (fun e g' he => ⟨tgOf_ok g n he, tgOf_star he⟩) h
      have z := pg_tup (k := k) (pos := p) g.calm h1 h2 h3
      cases gt with
      | nm i => exact absurd rfl (h4 i)
      | nil => exact z
      | cons a b => exact z
    · cases h
/-! ## walks -/
def RItBad : Sl → AH → RIt := fun _ _ => .bad
def isTupE : Expr → Bool
  | .Tuple _ _ _ => true
  | _ => false
def lineB (apos cpos : Pos) : Bool := apos.endLine == cpos.line
def compIter (G : Globs) (c : Ctx) (r : Expr → EV) (tg iter : Expr) : Sl → AH → RIt := match iter with
  | .Call (.Attribute o m apos) as ks cpos => (match decide (m = "items") && isTupE tg && dotOk o && lineB apos cpos && as.isEmpty && ks.isEmpty with
    | true => tVal (pView .its) (r o)
    | false => (match decide (m = "values") && dotOk o && lineB apos cpos && as.isEmpty && ks.isEmpty with
      | true => tVal (pView .vs) (r o)
      | false => tVal pIter (r (.Call (.Attribute o m apos) as ks cpos))))
  | .Call (.Name x p) as ks pos => (match glB c.sc x && isNone_ G x && ks.isEmpty && as.all noStar with
    | true => (match as with
      | [a] => (match decide (x = "range") with
        | true => tArg pRng1 (lst r [a])
        | false => (match decide (x = "enumerate") && isTupE tg with
          | true => tArg pEnum (lst r [a])
          | false => tVal pIter (r (.Call (.Name x p) as ks pos))))
      | [a, b] => (match decide (x = "range") with
        | true => tArg pRng2 (lst r [a, b])
        | false => (match decide (x = "zip") && isTupE tg with
          | true => tArg pZip (lst r [a, b])
          | false => tVal pIter (r (.Call (.Name x p) as ks pos))))
      | _ => tVal pIter (r (.Call (.Name x p) as ks pos)))
    | false => tVal pIter (r (.Call (.Name x p) as ks pos)))
  | e => tVal pIter (r e)
theorem compIter_ok (g : Good T D G cl lv c X W) {r : Expr → EV} (h : ∀ e, PE X e (ERd T X.K W (r e))) (tg iter : Expr) : PI X tg iter (IRd X T W (compIter G c r tg iter)) := by
  unfold compIter
  split
  · rename_i o m apos as ks cpos
    split
    · rename_i hh
      obtain ⟨hh, k6⟩ := Bool.and_eq_true_iff.mp hh
      obtain ⟨hh, k5⟩ := Bool.and_eq_true_iff.mp hh
      obtain ⟨hh, k4⟩ := Bool.and_eq_true_iff.mp hh
      obtain ⟨hh, k3⟩ := Bool.and_eq_true_iff.mp hh
      obtain ⟨k1, k2⟩ := Bool.and_eq_true_iff.mp hh
      have k1 := of_decide_eq_true k1
      subst k1
      cases as with
      | cons _ _ => cases k5
      | nil =>
        cases ks with
        | cons _ _ => cases k6
        | nil =>
          cases tg with
          | Tuple elts kk tp => exact zi_items (h o) (dot_ok k3) k4
          | _ => cases k2
    · split
      · rename_i hh
        obtain ⟨hh, k6⟩ := Bool.and_eq_true_iff.mp hh
        obtain ⟨hh, k5⟩ := Bool.and_eq_true_iff.mp hh
        obtain ⟨hh, k4⟩ := Bool.and_eq_true_iff.mp hh
        obtain ⟨k1, k3⟩ := Bool.and_eq_true_iff.mp hh
        have k1 := of_decide_eq_true k1
        subst k1
        cases as with
        | cons _ _ => cases k5
        | nil =>
          cases ks with
          | cons _ _ => cases k6
          | nil => exact zi_values (h o) (dot_ok k3) k4
      · exact zi_val (h _)
  · rename_i x p as ks pos
    split
    · rename_i hh
      obtain ⟨hh, k4⟩ := Bool.and_eq_true_iff.mp hh
      obtain ⟨hh, k3⟩ := Bool.and_eq_true_iff.mp hh
      obtain ⟨k1, k2⟩ := Bool.and_eq_true_iff.mp hh
      have hg := gl_ok g.sc k1
      have hm := isNone_ok g k2
      cases ks with
      | cons _ _ => cases k3
      | nil =>
        split
        · rename_i a
          have na : noStar a = true := by simpa using k4
          split
          · rename_i hx; have hx := of_decide_eq_true hx; subst hx
            exact zi_range1 hg hm (lst_ok h [a]) (star_cons na)
          · split
            · rename_i hx
              obtain ⟨hx, ht⟩ := Bool.and_eq_true_iff.mp hx
              have hx := of_decide_eq_true hx; subst hx
              cases tg with
              | Tuple elts kk tp => exact zi_enum hg hm (lst_ok h [a]) (star_cons na)
              | _ => cases ht
            · exact zi_val (h _)
        · rename_i a b
          obtain ⟨na, nb⟩ : noStar a = true ∧ noStar b = true := by simpa using k4
          split
          · rename_i hx; have hx := of_decide_eq_true hx; subst hx
            exact zi_range2 hg hm (lst_ok h [a, b]) (by rw [star_cons na, star_cons nb]; rfl) (star_cons nb)
          · split
            · rename_i hx
              obtain ⟨hx, ht⟩ := Bool.and_eq_true_iff.mp hx
              have hx := of_decide_eq_true hx; subst hx
              cases tg with
              | Tuple elts kk tp => exact zi_zip hg hm (lst_ok h [a, b]) (star_cons na) (by rw [star_cons nb]; rfl)
              | _ => cases ht
            · exact zi_val (h _)
        · exact zi_val (h _)
    · exact zi_val (h _)
  · exact zi_val (h _)
/-! ## blocks -/
def ownOf (c : Ctx) : List (Str × NameKind) → List (Str × Nat)
  | [] => []
  | p :: r => match p.2 with
    | .local => (match ix p.1 c.N 0 with
      | some i => (p.1, i) :: ownOf c r
      | none => ownOf c r)
    | .cell => (match ix p.1 c.N 0 with
      | some i => (p.1, i) :: ownOf c r
      | none => ownOf c r)
    | _ => ownOf c r
/-- what a comprehension's block must be -/
def blkB (c : Ctx) (scope : Scope) (own : List (Str × Nat)) : Bool :=
  (scope.kind == .function) && scope.names.all (fun y => scope.names.lookup y.1 == some y.2) && own.all (fun p => c.N[p.2]? == some p.1) &&
  scope.names.all (fun y => !(y.2 == .free) || (c.sc.names.lookup y.1 == some .cell || c.sc.names.lookup y.1 == some .free)) &&
  scope.names.all (fun y => !(y.2 == .local || y.2 == .cell) || ((own.map (·.1)).contains y.1 || !(c.N.contains y.1)))
theorem blk_ok {scope : Scope} {own : List (Str × Nat)} (h : blkB c scope own = true) : BlkOk c.N c.sc scope own := by
  unfold blkB at h
  simp only [Bool.and_eq_true, List.all_eq_true, beq_iff_eq, Bool.or_eq_true, Bool.not_eq_true', beq_eq_false_iff_ne, List.contains_eq_mem, decide_eq_true_eq, decide_eq_false_iff_not] at h
  obtain ⟨⟨⟨⟨h1, h2⟩, h3⟩, h4⟩, h5⟩ := h
  refine ⟨h1, h2, h3, fun y hy e => ?_, fun y hy e => ?_⟩
  · rcases h4 y hy with q | q
    · exact absurd e (by simpa using q)
    · exact q
  · rcases h5 y hy with q | q
    · exact absurd e (by simpa using q)
    · exact q
/-- the names that a block's code may store -/
def fkOf (c : Ctx) (scope : Scope) : List Str := (scope.names.map (·.1)).filter fun x => (scope.names.lookup x == some .cell) || ((relS scope c.sc).names.lookup x == some .local)
def Ctx.blk (c : Ctx) (scope : Scope) : Ctx := ⟨c.N, relS scope c.sc, fkOf c scope, false⟩
theorem Good.blk (g : Good T D G cl lv c X W) {scope : Scope} (hk : scope.kind = .function) (s : Shared) (H : Hp) (C : Addr) (cls : List (Str × Addr)) (fp : List Addr) : Good T D G cl lv (c.blk scope) (X.blk s H scope (compEnvC scope cls C X.env) fp) W0 := by
  have hsc : (compEnvC scope cls C X.env).scope = relS scope c.sc := by
    show relabel scope X.env = _
    rw [← g.sc]
    rfl
  refine ⟨g.nN, g.nd, g.calm, fun u s' ⟨_, _, _, _, _, _, _, _, _, _, _, _, _, _, _, _, w⟩ => w.elim, g.rm, PassesOwn.never, g.F, hsc, hk, fun x hx => ?_, g.gf, g.gc, g.gv, g.gn, g.ga, g.gx, fun z => by cases z⟩
  have hx : x ∈ fkOf c scope := hx
  unfold fkOf at hx
  obtain ⟨_, h2⟩ := List.mem_filter.mp hx
  rcases Bool.or_eq_true_iff.mp h2 with q | q
  · exact .inl q
  · refine .inr ?_
    show (compEnvC scope cls C X.env).scope.names.lookup x = _
    rw [hsc]
    exact beq_iff_eq.mp q
/-- if .. if .. -/
def compIfs (rt : Expr → EV) : List Expr → EV
  | [] => eC (.bl true)
  | e :: es => match es with
    | [] => rt e
    | _ :: _ => eBad
theorem compIfs_ok {rt : Expr → EV} (h : ∀ e, PT X e (TRd T X.K W (rt e))) : ∀ es, PTs X es (TRd T X.K W (compIfs rt es))
  | [] => ⟨fun pins s σ H Q I ⟨f, A, sl, a, q⟩ => pts_nil.run pins s σ H Q I (q f H (.rfl' a.rel))⟩
  | [e] => pts_one (h e)
  | _ :: _ :: _ => ⟨fun _ _ _ _ _ _ ⟨_, _, _, _, q⟩ => q.elim⟩
def notSet (e : Expr) : Bool := match e with
  | .Set _ _ _ => false
  | _ => true
theorem notSet_ok {iter : Expr} {env : Env} (h : notSet iter = true) : ∀ x, foldedSetIterable iter env x = pure x := by
  intro x
  cases iter <;> first | rfl | (cases h)
def subB (a b : List Nat) : Bool := a.all fun i => b.contains i
theorem sub_ok {a b : List Nat} (h : subB a b = true) : ∀ i ∈ a, i ∈ b := fun i hi => by
  have := List.all_eq_true.mp h i hi
  simpa using this
/-- [elt for tg in iter if ..] -/
def compLc (G : Globs) (c : Ctx) (r rt : CE) (elt : Expr) (gens : List Comprehension) (scope : Scope) : EV := match gens with
  | [⟨tg, iter, ifs, asy⟩] => (match tgOf (c.blk scope) 4 tg with
    | some gt => (match iEq asy 0 && notSet iter && blkB c scope (ownOf c scope.names) && subB (tgV gt) ((ownOf c scope.names).map (·.2)) with
      | true => eLc (compIter G c (r c) tg iter) gt (compIfs (rt (c.blk scope)) ifs) (r (c.blk scope) elt) ((ownOf c scope.names).map (·.2))
      | false => eBad)
    | none => eBad)
  | _ => eBad
theorem compLc_ok (g : Good T D G cl lv c X W) {r rt : CE} (hr : SndE T D G cl lv r) (ht : SndT T D G cl lv rt) (elt : Expr) (gens : List Comprehension) (scope : Scope) (pos : Pos) : PE X (.ListComp elt gens scope pos) (ERd T X.K W (compLc G c r rt elt gens scope)) := by
  unfold compLc
  split
  · rename_i tg iter ifs asy
    split
    · rename_i gt et
      split
      · rename_i hh
        obtain ⟨hh, k4⟩ := Bool.and_eq_true_iff.mp hh
        obtain ⟨hh, k3⟩ := Bool.and_eq_true_iff.mp hh
        obtain ⟨k1, k2⟩ := Bool.and_eq_true_iff.mp hh
        rw [iEq_eq, decide_eq_true_eq] at k1
        subst k1
        have ok := blk_ok k3
        have ok' : BlkOk X.N X.env.scope scope (ownOf c scope.names) := by rw [g.nN, g.sc]; exact ok
        refine (pe_unl (pe_lc g.calm (by rw [g.nN]; exact g.nd) (compIter_ok g (hr c X W g) tg iter) ok' (fun s H C cls fp => tgOf_ok (g.blk ok.kind s H C cls fp) 4 et) (fun s H C cls fp => compIfs_ok (ht _ _ _ (g.blk ok.kind s H C cls fp)) ifs) (fun s H C cls fp => hr _ _ _ (g.blk ok.kind s H C cls fp) elt) (notSet_ok k2))).im fun σ H Q q => lc_rd (sub_ok k4) q
      · exact ze_bad
    · exact ze_bad
  · exact ze_bad
def compDc (G : Globs) (c : Ctx) (r rt : CE) (k e : Expr) (gens : List Comprehension) (scope : Scope) : EV := match gens with
  | [⟨tg, iter, ifs, asy⟩] => (match tgOf (c.blk scope) 4 tg with
    | some gt => (match iEq asy 0 && notSet iter && blkB c scope (ownOf c scope.names) && subB (tgV gt) ((ownOf c scope.names).map (·.2)) with
      | true => eDc (compIter G c (r c) tg iter) gt (compIfs (rt (c.blk scope)) ifs) (r (c.blk scope) k) (r (c.blk scope) e) ((ownOf c scope.names).map (·.2))
      | false => eBad)
    | none => eBad)
  | _ => eBad
theorem compDc_ok (g : Good T D G cl lv c X W) {r rt : CE} (hr : SndE T D G cl lv r) (ht : SndT T D G cl lv rt) (k e : Expr) (gens : List Comprehension) (scope : Scope) (pos : Pos) : PE X (.DictComp k e gens scope pos) (ERd T X.K W (compDc G c r rt k e gens scope)) := by
  unfold compDc
  split
  · rename_i tg iter ifs asy
    split
    · rename_i gt et
      split
      · rename_i hh
        obtain ⟨hh, k4⟩ := Bool.and_eq_true_iff.mp hh
        obtain ⟨hh, k3⟩ := Bool.and_eq_true_iff.mp hh
        obtain ⟨k1, k2⟩ := Bool.and_eq_true_iff.mp hh
        rw [iEq_eq, decide_eq_true_eq] at k1
        subst k1
        have ok := blk_ok k3
        have ok' : BlkOk X.N X.env.scope scope (ownOf c scope.names) := by rw [g.nN, g.sc]; exact ok
        refine (pe_unl (pe_dc g.calm (by rw [g.nN]; exact g.nd) (compIter_ok g (hr c X W g) tg iter) ok' (fun s H C cls fp => tgOf_ok (g.blk ok.kind s H C cls fp) 4 et) (fun s H C cls fp => compIfs_ok (ht _ _ _ (g.blk ok.kind s H C cls fp)) ifs) (fun s H C cls fp => hr _ _ _ (g.blk ok.kind s H C cls fp) k) (fun s H C cls fp => hr _ _ _ (g.blk ok.kind s H C cls fp) e) (notSet_ok k2))).im fun σ H Q q => dc_rd (sub_ok k4) q
      · exact ze_bad
    · exact ze_bad
  · exact ze_bad
/-! ## the rest of the expressions, and all of them -/
def compMethK (D : Desc) (cl : Calls) (r : Expr → EV) (o : Expr) (m : Str) (apos pos : Pos) (ks : List Keyword) : EV := match ix m D.ats 0 with
  | some a => (match kwNames ks with
    | some ns => whenE (dotOk o && (apos.endLine == pos.line) && Nat.blt ks.length 20) (eMethKw D cl a ns (r o) (kwl r ks))
    | none => eBad)
  | none => eBad
theorem compMethK_ok (g : Good T D G cl lv c X W) {r : Expr → EV} (h : ∀ e, PE X e (ERd T X.K W (r e))) (o : Expr) (m : Str) (apos pos : Pos) (ks : List Keyword) : PE X (.Call (.Attribute o m apos) [] ks pos) (ERd T X.K W (compMethK D cl r o m apos pos ks)) := by
  unfold compMethK
  cases e : ix m D.ats 0 with
  | none => exact ze_bad
  | some a =>
    cases e2 : kwNames ks with
    | none => exact ze_bad
    | some ns =>
      refine ze_when fun hh => ?_
      obtain ⟨hh, k3⟩ := Bool.and_eq_true_iff.mp hh
      obtain ⟨k1, k2⟩ := Bool.and_eq_true_iff.mp hh
      have hi := (ix_ok e).2
      rw [Nat.sub_zero] at hi
      exact ze_methKw g.F g.tk (g.rm.mono (Nat.le_succ _)) (g.ga a m hi) (h o) (kwl_ok h ks) e2 k1 k2 k3
def stepC (D : Desc) (G : Globs) (cl : Calls) (r rt : CE) : CE := fun c e => match e with
  | .Call f as ks pos => (match f with
    | .Name x p => (match visB c.sc x with
      | true => (match ks with
        | [] => compInst D cl (r c) (.Name x p) as
        | _ :: _ => eBad)
      | false => compName2 D G cl c (r c) x as ks)
    | .Attribute o m apos => (match ks with
      | [] => compMeth D cl (r c) o m apos pos as
      | k :: ks => (match as with
        | [] => compMethK D cl (r c) o m apos pos (k :: ks)
        | _ :: _ => eBad))
    | f => (match ks with
      | [] => compInst D cl (r c) f as
      | _ :: _ => eBad))
  | .ListComp elt gens scope _ => compLc G c r rt elt gens scope
  | .DictComp k e gens scope _ => compDc G c r rt k e gens scope
  | .Dict ks vs _ => compDict (r c) ks vs
  | _ => eBad
theorem stepC_ok {r rt : CE} (hr : SndE T D G cl lv r) (ht : SndT T D G cl lv rt) : SndE T D G cl lv (stepC D G cl r rt) := by
  intro c X W g e
  have h := hr c X W g
  cases e with
  | Call f as ks pos =>
    cases f with
    | Name x p =>
      show PE X _ (ERd T X.K W (match visB c.sc x with | true => (match ks with | [] => compInst D cl (r c) (.Name x p) as | _ :: _ => eBad) | false => compName2 D G cl c (r c) x as ks))
      split
      · split
        · exact compInst_ok g h _ as pos
        · exact ze_bad
      · exact compName2_ok g h x as ks p pos
    | Attribute o m apos =>
      cases ks with
      | nil => exact compMeth_ok g h o m apos pos as
      | cons k ks =>
        cases as with
        | nil => exact compMethK_ok g h o m apos pos (k :: ks)
        | cons _ _ => exact ze_bad
    | _ =>
      cases ks with
      | nil => exact compInst_ok g h _ as pos
      | cons _ _ => exact ze_bad
  | ListComp elt gens scope p => exact compLc_ok g hr ht elt gens scope p
  | DictComp k e gens scope p => exact compDc_ok g hr ht k e gens scope p
  | Dict ks vs p => exact compDict_ok h ks vs p
  | _ => exact ze_bad
def compE (D : Desc) (G : Globs) (cl : Calls) : Nat → CE × CE
  | 0 => (fun _ _ => eBad, fun _ _ => eBad)
  | n + 1 => (stepE D G cl (stepC D G cl (compE D G cl n).1 (compE D G cl n).2) (compE D G cl n).1 (compE D G cl n).2, stepT D cl (stepE D G cl (stepC D G cl (compE D G cl n).1 (compE D G cl n).2) (compE D G cl n).1 (compE D G cl n).2) (compE D G cl n).2)
theorem compE_ok : ∀ n, SndE T D G cl lv (compE D G cl n).1 ∧ SndT T D G cl lv (compE D G cl n).2
  | 0 => ⟨fun _ _ _ _ _ => ze_bad, fun _ _ _ _ _ => zt_bad⟩
  | n + 1 => by
    obtain ⟨h1, h2⟩ := compE_ok n
    have h3 := stepE_ok (stepC_ok h1 h2) h1 h2
    exact ⟨h3, stepT_ok h3 h2⟩
end
end Z
end
section
/-! Z33: the text of a def as combinators: statements. -/
namespace Z
open PySem PySem.Spec PyProof.Rows L2
section
variable {T : Tbl} {D : Desc} {G : Globs} {cl : Calls} {lv : Nat} {c : Ctx} {X : Cx} {W : WX} {e : Expr} {t : EV}
theorem zs_bad {st : Stmt} : PS X st (SRd T X.K W sBad) := ⟨fun _ _ _ _ _ _ ⟨_, _, _, _, q⟩ => q.elim⟩
def whenS (b : Bool) (t : SV) : SV := match b with
  | true => t
  | false => sBad
theorem zs_when {st : Stmt} {t : SV} {b : Bool} (h : b = true → PS X st (SRd T X.K W t)) : PS X st (SRd T X.K W (whenS b t)) := by
  cases b with
  | true => exact h rfl
  | false => exact zs_bad
abbrev CS := Ctx → Stmt → SV
def SndS (T : Tbl) (D : Desc) (G : Globs) (cl : Calls) (lv : Nat) (r : CS) : Prop := ∀ c X W, Good T D G cl lv c X W → ∀ st, PS X st (SRd T X.K W (r c st))
def blk (r : Stmt → SV) : List Stmt → SV
  | [] => sSkip
  | st :: ss => match ss with
    | [] => r st
    | _ :: _ => sSeq (r st) (blk r ss)
theorem blks_ok {r : Stmt → SV} (h : ∀ st, PS X st (SRd T X.K W (r st))) : ∀ ss, PSs X ss (SRd T X.K W (blk r ss))
  | [] => zss_nil
  | [st] => zss_one (h st)
  | st :: b :: ss => zss_cons (h st) (blks_ok h (b :: ss))
def notComp (e : Expr) : Bool := match e with
  | .ListComp _ _ _ _ => false
  | .SetComp _ _ _ _ => false
  | .DictComp _ _ _ _ _ => false
  | _ => true
theorem notComp_ok {tg : Option Expr} {n : Nat} {env : Env} (h : notComp e = true) : swapsWith e tg n env = pure false := by
  cases e <;> first | rfl | (cases h)
/-- the block's scope of a comprehension, its line -/
def compSc : Expr → Option (Scope × Pos)
  | .ListComp _ _ s p => some (s, p)
  | .SetComp _ _ s p => some (s, p)
  | .DictComp _ _ _ s p => some (s, p)
  | _ => none
def swB (c : Ctx) (x : Str) (px : Pos) (e : Expr) : Bool := match compSc e with
  | some (s, p) => (c.sc.names.lookup x == some .local && px.line == p.line) && !(s.names.any fun (n, k) => n == x && (k == .local || k == .cell))
  | none => false
theorem sw_ok (g : Good T D G cl lv c X W) {x : Str} {px : Pos} {n : Nat} : swapsWith e (some (.Name x px)) n X.env = pure (swB c x px e) := by
  have hb : X.env.blockKind = .function := by unfold Env.blockKind; rw [g.sc, g.kd]; rfl
  have hk : X.env.kindOf x = c.sc.names.lookup x := by unfold Env.kindOf; rw [g.sc]
  cases e <;> first
    | rfl
    | (rename_i s p
       show pure (X.env.blockKind == .function && X.env.kindOf x == some .local && px.line == p.line && !(s.names.any fun (n, k) => n == x && (k == .local || k == .cell))) = _
       rw [hb, hk]
       rfl)
/-- name = [..], the name stored by the block's end -/
theorem zs_setLc (g : Good T D G cl lv c X W) {r rt : CE} (hr : SndE T D G cl lv r) (ht : SndT T D G cl lv rt) {i : Nat} {x : Str} {px p pos : Pos} {elt : Expr} {gens : List Comprehension} {scope : Scope} (hi : X.N[i]? = some x) (hl : X.env.scope.names.lookup x = some .local)
    (hsw : swapsWith (.ListComp elt gens scope p) (some (.Name x px)) pos.line X.env = pure true) : PS X (.Assign [.Name x px] (.ListComp elt gens scope p) pos) (SRd T X.K W (sAsg (compLc G c r rt elt gens scope) (gVar i))) := by
  have bad : PS X (.Assign [.Name x px] (.ListComp elt gens scope p) pos) (SRd T X.K W (sAsg eBad (gVar i))) := ⟨fun _ _ _ _ _ _ ⟨_, _, _, _, q⟩ => q.elim⟩
  unfold compLc
  split
  · rename_i tg iter ifs asy
    split
    · rename_i gt et
      split
      · rename_i hh
        obtain ⟨hh, k4⟩ := Bool.and_eq_true_iff.mp hh
        obtain ⟨hh, k3⟩ := Bool.and_eq_true_iff.mp hh
        obtain ⟨k1, k2⟩ := Bool.and_eq_true_iff.mp hh
        rw [iEq_eq, decide_eq_true_eq] at k1
        subst k1
        have ok := blk_ok k3
        have ok' : BlkOk X.N X.env.scope scope (ownOf c scope.names) := by rw [g.nN, g.sc]; exact ok
        refine (ps_unl (ps_setLc (te := ERd T X.K W0 (r (c.blk scope) elt)) (tt := TRd T X.K W0 (compIfs (rt (c.blk scope)) ifs)) (g := tgR X.K gt) g.calm (by rw [g.nN]; exact g.nd) hi hl hsw (compIter_ok g (hr c X W g) tg iter) ok' (fun s H C cls fp => tgOf_ok (g.blk ok.kind s H C cls fp) 4 et) (fun s H C cls fp => compIfs_ok (ht _ _ _ (g.blk ok.kind s H C cls fp)) ifs) (fun s H C cls fp => hr _ _ _ (g.blk ok.kind s H C cls fp) elt) (notSet_ok k2))).im fun D' σ H ⟨f, A, s, a, q⟩ => ?_
        have z : ERd T X.K W (eLc (compIter G c (r c) tg iter) gt (compIfs (rt (c.blk scope)) ifs) (r (c.blk scope) elt) ((ownOf c scope.names).map (·.2))) σ H fun u H1 => D'.nx (σ.set i (some u)) H1 :=
          (es_of a q).mono fun u H1 ⟨f1, A1, v, a1, r1, q1⟩ => q1 f1 H1 _ (.rfl' a1.rel) (set_rel a1.sr r1 i)
        exact lc_rd (sub_ok k4) z
      · exact bad
    · exact bad
  · exact bad
/-! ## assignments -/
def compAsgN (G : Globs) (c : Ctx) (r rt : CE) (x : Str) (px : Pos) (e : Expr) : SV := match stB c x with
  | true => (match ix x c.N 0 with
    | some i => (match swB c x px e with
      | false => sAsg (r c e) (gVar i)
      | true => (match e with
        | .ListComp elt gens scope _ => whenS (c.sc.names.lookup x == some .local) (sAsg (compLc G c r rt elt gens scope) (gVar i))
        | _ => sBad))
    | none => sBad)
  | false => sBad
theorem compAsgN_ok (g : Good T D G cl lv c X W) {r rt : CE} (hr : SndE T D G cl lv r) (ht : SndT T D G cl lv rt) (x : Str) (px : Pos) (e : Expr) (pos : Pos) : PS X (.Assign [.Name x px] e pos) (SRd T X.K W (compAsgN G c r rt x px e)) := by
  unfold compAsgN
  cases e1 : stB c x with
  | false => exact zs_bad
  | true =>
    simp only
    cases e2 : ix x c.N 0 with
    | none => exact zs_bad
    | some i =>
      obtain ⟨h1, h2⟩ := Bool.and_eq_true_iff.mp e1
      have hi := (ix_ok e2).2
      rw [Nat.sub_zero] at hi
      have hi : X.N[i]? = some x := by rw [g.nN]; exact hi
      have sw := sw_ok (e := e) (px := px) (n := pos.line) g (x := x)
      simp only
      cases e3 : swB c x px e with
      | false =>
        rw [e3] at sw
        exact zs_set (by rw [g.nN]; exact g.nd) hi (by rw [g.sc]; exact loc_ok h1) (g.fk x (by simpa using h2)) (hr c X W g e) sw
      | true =>
        rw [e3] at sw
        cases e with
        | ListComp elt gens scope p => exact zs_when fun hl => zs_setLc g hr ht hi (by rw [g.sc]; exact beq_iff_eq.mp hl) sw
        | _ => exact zs_bad
/-- stores in another order: what the compiler makes of it (outer none: not covered) -/
def swapSt (c : Ctx) (ts vs : List Expr) : Option (Option (List Str)) := 
  if (!(ts.length == 2 || ts.length == 3) || vs.length != ts.length) = true then some none else
  if (vs.any fun | .Starred .. => true | _ => false) = true then some none else
  let line := (ts.head?.map (·.pos.line)).getD 0
  let names := ts.filterMap fun
    | .Name id pos => if (c.sc.names.lookup id == some .local && pos.line == line) = true then some id else none
    | _ => none
  if (names.length != ts.length || names.eraseDups.length != names.length) = true then some none else
  if vs.all (foldedForSure 8) = true then some none else
  if vs.all (constantsAlone 8) = true then none else some (some names)
theorem swapSt_ok (g : Good T D G cl lv c X W) {ts vs : List Expr} {k k2 : Nat} {pt p2 : Pos} {o : Option (List Str)} (h : swapSt c ts vs = some o) : swappedStores [.Tuple ts k pt] (.Tuple vs k2 p2) X.env = pure o := by
  have hb : X.env.blockKind = .function := by unfold Env.blockKind; rw [g.sc, g.kd]; rfl
  have hk : ∀ x, X.env.kindOf x = c.sc.names.lookup x := fun x => by unfold Env.kindOf; rw [g.sc]
  unfold swapSt at h
  unfold swappedStores
  simp only [hb, hk]
  simp only [bne_self_eq_false, Bool.or_false]
  split at h
  · rename_i h1; cases h; exact if_pos h1
  · rename_i h1
    refine (if_neg h1).trans ?_
    split at h
    · rename_i h2; cases h; exact if_pos h2
    · rename_i h2
      refine (if_neg h2).trans ?_
      dsimp only at h ⊢
      split at h
      · rename_i h3; cases h; exact if_pos h3
      · rename_i h3
        refine (if_neg h3).trans ?_
        split at h
        · rename_i h4; cases h; exact if_pos h4
        · rename_i h4
          refine (if_neg h4).trans ?_
          split at h
          · cases h
          · rename_i h5; cases h; exact (if_neg h5).trans rfl
def locN (c : Ctx) (x : Str) : Bool := c.sc.names.lookup x == some .local
def compPar (c : Ctx) (r : Expr → EV) (ts vs : List Expr) (nms : List Str) : SV := match ts with
  | [.Name x _, .Name y _] => (match vs with
    | [a, b] => (match ix x c.N 0 with
      | some i => (match ix y c.N 0 with
        | some j => whenS (decide (nms = [x, y]) && decide (i ≠ j) && locN c x && locN c y) (sPar [i, j] (lst r [a, b]))
        | none => sBad)
      | none => sBad)
    | _ => sBad)
  | [.Name x _, .Name y _, .Name z _] => (match vs with
    | [a, b, d] => (match ix x c.N 0 with
      | some i => (match ix y c.N 0 with
        | some j => (match ix z c.N 0 with
          | some k => whenS (decide (nms = [x, y, z]) && decide (i ≠ j) && decide (i ≠ k) && decide (j ≠ k) && locN c x && locN c y && locN c z) (sPar [i, j, k] (lst r [a, b, d]))
          | none => sBad)
        | none => sBad)
      | none => sBad)
    | _ => sBad)
  | _ => sBad
theorem ixN_ok (g : Good T D G cl lv c X W) {x : Str} {i : Nat} (h : ix x c.N 0 = some i) : X.N[i]? = some x := by
  have hi := (ix_ok h).2
  rw [Nat.sub_zero] at hi
  rw [g.nN]; exact hi
theorem locN_ok (g : Good T D G cl lv c X W) {x : Str} (h : locN c x = true) : X.env.scope.names.lookup x = some .local := by rw [g.sc]; exact beq_iff_eq.mp h
theorem compPar_ok (g : Good T D G cl lv c X W) {r : Expr → EV} (h : ∀ e, PE X e (ERd T X.K W (r e))) {ts vs : List Expr} {nms : List Str} {k k2 : Nat} {pt p2 pos : Pos} (hw : swappedStores [.Tuple ts k pt] (.Tuple vs k2 p2) X.env = pure (some nms)) :
    PS X (.Assign [.Tuple ts k pt] (.Tuple vs k2 p2) pos) (SRd T X.K W (compPar c r ts vs nms)) := by
  have sole : ∀ (ts vs : List Expr), swapsWithSole [.Tuple ts k pt] (.Tuple vs k2 p2) pos.line X.env = pure false := fun ts vs => by unfold swapsWithSole; rfl
  unfold compPar
  split
  · rename_i x px y py
    split
    · rename_i a b
      cases e1 : ix x c.N 0 with
      | none => exact zs_bad
      | some i =>
        cases e2 : ix y c.N 0 with
        | none => exact zs_bad
        | some j =>
          refine zs_when fun hh => ?_
          obtain ⟨hh, k4⟩ := Bool.and_eq_true_iff.mp hh
          obtain ⟨hh, k3⟩ := Bool.and_eq_true_iff.mp hh
          obtain ⟨k1, k2'⟩ := Bool.and_eq_true_iff.mp hh
          have k1 := of_decide_eq_true k1
          subst k1
          exact zs_par g.calm (by rw [g.nN]; exact g.nd) (ixN_ok g e1) (ixN_ok g e2) (of_decide_eq_true k2') (locN_ok g k3) (locN_ok g k4) (lst_ok h [a, b]) hw (sole _ _)
    · exact zs_bad
  · rename_i x px y py z pz
    split
    · rename_i a b d
      cases e1 : ix x c.N 0 with
      | none => exact zs_bad
      | some i =>
        cases e2 : ix y c.N 0 with
        | none => exact zs_bad
        | some j =>
          cases e3 : ix z c.N 0 with
          | none => exact zs_bad
          | some k =>
            refine zs_when fun hh => ?_
            obtain ⟨hh, k7⟩ := Bool.and_eq_true_iff.mp hh
            obtain ⟨hh, k6⟩ := Bool.and_eq_true_iff.mp hh
            obtain ⟨hh, k5⟩ := Bool.and_eq_true_iff.mp hh
            obtain ⟨hh, k4⟩ := Bool.and_eq_true_iff.mp hh
            obtain ⟨hh, k3⟩ := Bool.and_eq_true_iff.mp hh
            obtain ⟨k1, k2'⟩ := Bool.and_eq_true_iff.mp hh
            have k1 := of_decide_eq_true k1
            subst k1
            exact zs_par3 g.calm (by rw [g.nN]; exact g.nd) (ixN_ok g e1) (ixN_ok g e2) (ixN_ok g e3) (of_decide_eq_true k2') (of_decide_eq_true k3) (of_decide_eq_true k4) (locN_ok g k5) (locN_ok g k6) (locN_ok g k7) (lst_ok h [a, b, d]) hw (sole _ _)
    · exact zs_bad
  · exact zs_bad
/-! ## targets of any kind -/
def tgGL (f : Expr → Option GV) : List Expr → Option (List GV)
  | [] => some []
  | e :: es => match f e with
    | some a => (match tgGL f es with
      | some b => some (a :: b)
      | none => none)
    | none => none
def tgG (D : Desc) (c : Ctx) (r : Expr → EV) : Nat → Expr → Option GV
  | 0, _ => none
  | n + 1, e => match e with
    | .Name x _ => (match stB c x with
      | true => (match ix x c.N 0 with
        | some i => some (gVar i)
        | none => none)
      | false => none)
    | .Attribute o nm _ => (match ix nm D.ats 0 with
      | some a => some (gFld D a (r o))
      | none => none)
    | .Subscript o i _ => (match isSl i with
      | true => none
      | false => some (gPutZ (r o) (r i)))
    | .Tuple es _ _ => (match tgGL (tgG D c r n) es with
      | some gs => some (gMix gs)
      | none => none)
    | _ => none
theorem tgG_star {r : Expr → EV} {n : Nat} {gt : GV} (h : tgG D c r n e = some gt) : noStar e = true := by
  cases n with
  | zero => cases h
  | succ n => cases e <;> first | rfl | (cases h)
theorem tgGL_ok {f : Expr → Option GV} (hf : ∀ e g, f e = some g → PG X e (GRd T X.K g) ∧ noStar e = true) : ∀ {es : List Expr} {gs : List GV}, tgGL f es = some gs → PGs X es (GsRd T X.K gs) ∧ (assignEach es X.env).length = gs.length ∧ (assignEach es X.env).findIdx? (·.1) = none
  | [], gs, h => by cases h; exact ⟨pgs_nilZ, rfl, rfl⟩
  | e :: es, gs, h => by
    unfold tgGL at h
    split at h
    · rename_i a ea
      split at h
      · rename_i b eb
        cases h
        obtain ⟨h1, h2⟩ := hf e a ea
        obtain ⟨h3, h4, h5⟩ := tgGL_ok hf eb
        refine ⟨pgs_consZ h1 h3 (by rw [assignEach_cons h2]; rfl), by rw [assignEach_cons h2, List.length_cons, h4]; rfl, ?_⟩
        rw [assignEach_cons h2, List.findIdx?_cons, h5]
        rfl
      · cases h
    · cases h
theorem tgG_ok (g : Good T D G cl lv c X W) {r : Expr → EV} (h : ∀ e, PE X e (ERd T X.K W (r e))) : ∀ (n : Nat) {e : Expr} {gt : GV}, tgG D c r n e = some gt → PG X e (GRd T X.K gt)
  | 0, _, _, q => by cases q
  | n + 1, e, gt, q => by
    unfold tgG at q
    split at q
    · rename_i x p
      split at q
      · rename_i hs
        split at q
        · rename_i i hi
          cases q
          obtain ⟨h1, h2⟩ := Bool.and_eq_true_iff.mp hs
          have hi := (ix_ok hi).2
          rw [Nat.sub_zero] at hi
          exact zg_name (by rw [g.nN]; exact g.nd) (by rw [g.nN]; exact hi) (by rw [g.sc]; exact loc_ok h1) (g.fk x (by simpa using h2))
        · cases q
      · cases q
    · rename_i o nm p
      split at q
      · rename_i a ea
        cases q
        have hi := (ix_ok ea).2
        rw [Nat.sub_zero] at hi
        exact zg_fld g.F (g.ga a nm hi) (h o)
      · cases q
    · rename_i o i p
      split at q
      · cases q
      · rename_i hi
        cases q
        refine zg_put W g.hu (h o) (h i) fun v => ?_
        cases i <;> first | rfl | (cases hi)
    · rename_i es k p
      split at q
      · rename_i gs eg
        cases q
        obtain ⟨h1, h2, h3⟩ := tgGL_ok (X := X) (fun e g' he => ⟨tgG_ok g h n he, tgG_star he⟩) eg
        exact zg_mix g.calm h1 h2 h3
      · cases q
    · cases q
def isTup : Expr → Bool
  | .Tuple _ _ _ => true
  | _ => false
def compAsg (D : Desc) (G : Globs) (c : Ctx) (r rt : CE) (tg e : Expr) : SV := match tg with
  | .Name x px => compAsgN G c r rt x px e
  | .Attribute o n _ => (match ix n D.ats 0 with
    | some a => sFldZ D a (r c o) (r c e)
    | none => sBad)
  | .Subscript o i _ => whenS (notComp e) (sSetZ (r c o) (r c i) (r c e))
  | .Tuple ts k pt => (match e with
    | .Tuple vs k2 p2 => (match swapSt c ts vs with
      | some o => (match o with
        | some nms => compPar c (r c) ts vs nms
        | none => (match tgG D c (r c) 4 (.Tuple ts k pt) with
          | some gt => sAsg (r c (.Tuple vs k2 p2)) gt
          | none => sBad))
      | none => sBad)
    | e => (match tgG D c (r c) 4 (.Tuple ts k pt) with
      | some gt => whenS (notComp e && !(isTup e)) (sAsg (r c e) gt)
      | none => sBad))
  | _ => sBad
theorem swapped_none {ts : List Expr} {k : Nat} {pt : Pos} {env : Env} (h : isTup e = false) : swappedStores [.Tuple ts k pt] e env = pure none := by
  cases e <;> first | rfl | (cases h)
theorem compAsg_ok (g : Good T D G cl lv c X W) {r rt : CE} (hr : SndE T D G cl lv r) (ht : SndT T D G cl lv rt) (tg e : Expr) (pos : Pos) : PS X (.Assign [tg] e pos) (SRd T X.K W (compAsg D G c r rt tg e)) := by
  have h := hr c X W g
  cases tg with
  | Name x px => exact compAsgN_ok g hr ht x px e pos
  | Attribute o n p =>
    show PS X _ (SRd T X.K W (match ix n D.ats 0 with | some a => sFldZ D a (r c o) (r c e) | none => sBad))
    cases e1 : ix n D.ats 0 with
    | none => exact zs_bad
    | some a =>
      have hi := (ix_ok e1).2
      rw [Nat.sub_zero] at hi
      exact zs_fld g.F (g.ga a n hi) (h o) (h e) (by cases e <;> rfl)
  | Subscript o i p => exact zs_when fun hn => zs_setI g.hu (h o) (h i) (h e) (notComp_ok hn)
  | Tuple ts k pt =>
    have plain : ∀ e, isTup e = false → PS X (.Assign [.Tuple ts k pt] e pos) (SRd T X.K W (match tgG D c (r c) 4 (.Tuple ts k pt) with | some gt => whenS (notComp e && !(isTup e)) (sAsg (r c e) gt) | none => sBad)) := by
      intro e _
      cases e1 : tgG D c (r c) 4 (.Tuple ts k pt) with
      | none => exact zs_bad
      | some gt =>
        refine zs_when fun hn => ?_
        obtain ⟨n1, n2⟩ := Bool.and_eq_true_iff.mp hn
        exact zs_asg (h e) (tgG_ok g h 4 e1) (by unfold swapsWithSole; exact notComp_ok n1) (swapped_none (by simpa using n2)) rfl
    cases e with
    | Tuple vs k2 p2 =>
      show PS X _ (SRd T X.K W (match swapSt c ts vs with | some o => (match o with | some nms => compPar c (r c) ts vs nms | none => (match tgG D c (r c) 4 (.Tuple ts k pt) with | some gt => sAsg (r c (.Tuple vs k2 p2)) gt | none => sBad)) | none => sBad))
      cases e1 : swapSt c ts vs with
      | none => exact zs_bad
      | some o =>
        have hw := swapSt_ok (k := k) (k2 := k2) (pt := pt) (p2 := p2) g e1
        cases o with
        | some nms => exact compPar_ok g h hw
        | none =>
          simp only
          cases e2 : tgG D c (r c) 4 (.Tuple ts k pt) with
          | none => exact zs_bad
          | some gt => exact zs_asg (h _) (tgG_ok g h 4 e2) (by unfold swapsWithSole; rfl) hw rfl
    | _ => exact plain _ rfl
  | _ => exact zs_bad
/-! ## match -/
def mBad : MV := fun _ _ _ => .bad
theorem zm_bad {cs : List MatchCase} : PMc X cs (MRd T X.K W mBad) := ⟨fun _ _ _ _ _ _ _ _ _ _ ⟨_, _, _, _, _, _, q⟩ => q.elim⟩
def compCases (D : Desc) (cl : Calls) (r : Expr → EV) (rs : Stmt → SV) : List MatchCase → MV
  | [] => mNil
  | ⟨pt, gd, body⟩ :: rest => match gd with
    | some _ => mBad
    | none => (match pt with
      | .MatchAs p n _ => (match p with
        | none => (match n with
          | none => mAny (blk rs body)
          | some _ => mBad)
        | some _ => mBad)
      | .MatchValue v _ => mArm (pvVal (cmpPrim D cl .Eq) (r v)) (blk rs body) (compCases D cl r rs rest)
      | _ => mBad)
theorem compCases_ok (g : Good T D G cl lv c X W) {r : Expr → EV} {rs : Stmt → SV} (h : ∀ e, PE X e (ERd T X.K W (r e))) (hs : ∀ st, PS X st (SRd T X.K W (rs st))) : ∀ cs, PMc X cs (MRd T X.K W (compCases D cl r rs cs))
  | [] => zm_nil
  | ⟨pt, gd, body⟩ :: rest => by
    have ih := compCases_ok g h hs rest
    cases gd with
    | some _ => exact zm_bad
    | none =>
      cases pt with
      | MatchAs p n q =>
        cases p with
        | some _ => exact zm_bad
        | none =>
          cases n with
          | some _ => exact zm_bad
          | none => exact zm_any (blks_ok hs body)
      | MatchValue v q => exact zm_arm (zp_val (cmpPrim_ok g .Eq) (h v)) (blks_ok hs body) ih
      | _ => exact zm_bad
/-! ## raise, try -/
theorem Good.tr (g : Good T D G cl lv c X W) {pn : List (Addr × Obj)} {xe : Value → Shared → Prop} {W' : WX} (tk : Takes (X.tr pn xe) W') (hp : PassesOwn (model X.prog X.w) X.A X.env xe) : Good T D G cl lv c (X.tr pn xe) W' :=
  ⟨g.nN, g.nd, g.calm, tk, g.rm, hp, g.F, g.sc, g.kd, g.fk, g.gf, g.gc, g.gv, g.gn, g.ga, g.gx, g.st⟩
def compRaise (D : Desc) (G : Globs) (c : Ctx) (e : Option Expr) (cause : Option Expr) : SV := match cause with
  | some _ => sBad
  | none => (match e with
    | some (.Call (.Name x _) [.Constant (.str _) _ _] [] _) => (match G.exs.lookup x with
      | some k => whenS (glB c.sc x && D.exs.contains k && !(x == ("__debug__" : Str))) (sRaise k)
      | none => sBad)
    | _ => sBad)
theorem compRaise_ok (g : Good T D G cl lv c X W) (e cause : Option Expr) (pos : Pos) : PS X (.Raise e cause pos) (SRd T X.K W (compRaise D G c e cause)) := by
  unfold compRaise
  split
  · exact zs_bad
  · split
    · rename_i x p m j p2 p3
      split
      · rename_i k ek
        refine zs_when fun h => ?_
        obtain ⟨h1, h3⟩ := Bool.and_eq_true_iff.mp h
        obtain ⟨h1, h2⟩ := Bool.and_eq_true_iff.mp h1
        exact zs_raise g.calm g.tk (g.F.ex k (by simpa using h2)) (g.gx x k ek) (gl_ok g.sc h1) (by simpa using h3)
      · exact zs_bad
    · exact zs_bad
/-- what an except suite may be -/
def compSuite : List Stmt → Option SV
  | [.Return (some (.Constant k _ _)) _] => some (sRet (compConst k))
  | [.Pass _] => some sSkip
  | [.Continue _] => some sCont
  | _ => none
theorem compSuite_ok {ss : List Stmt} {b : SV} (h : compSuite ss = some b) : PSs X ss (SRd T X.K W b) := by
  unfold compSuite at h
  split at h
  · cases h; exact zss_one (zs_ret comp_const)
  · cases h; exact zss_one zs_pass
  · cases h; exact zss_one zs_continue
  · cases h
def compHands (G : Globs) (c : Ctx) : List ExceptHandler → Option (List (Nat × SV))
  | [] => some []
  | .ExceptHandler t n suite _ :: r => match n with
    | some _ => none
    | none => (match t with
      | some (.Name x _) => (match G.exs.lookup x with
        | some k => (match compSuite suite with
          | some b => (match glB c.sc x && !(x == ("__debug__" : Str)) with
            | true => (match compHands G c r with
              | some l => some ((k, b) :: l)
              | none => none)
            | false => none)
          | none => none)
        | none => none)
      | _ => none)
theorem compSuite_cons {ss : List Stmt} {b : SV} (h : compSuite ss = some b) : ∃ s r, ss = s :: r := by
  unfold compSuite at h
  split at h <;> first | exact ⟨_, _, rfl⟩ | cases h
theorem compHands_ok (g : Good T D G cl lv c X W) : ∀ {hds : List ExceptHandler} {l : List (Nat × SV)}, compHands G c hds = some l → HdZ X T hds l
  | [], l, h => by cases h; exact .nil
  | .ExceptHandler t n suite p :: r, l, h => by
    unfold compHands at h
    split at h
    · cases h
    · split at h
      · rename_i x np
        split at h
        · rename_i k ek
          split at h
          · rename_i b eb
            split at h
            · rename_i hc
              split at h
              · rename_i l2 el
                cases h
                obtain ⟨h1, h2⟩ := Bool.and_eq_true_iff.mp hc
                obtain ⟨s0, r0, es⟩ := compSuite_cons eb
                subst es
                exact .cons ⟨gl_ok g.sc h1, by simpa using h2, .inl (g.gx x k ek)⟩ (fun a pn => compSuite_ok eb) (compHands_ok g el)
              · cases h
            · cases h
          · cases h
        · cases h
      · cases h
def xmOf (D : Desc) (c k : Nat) : Option Bool := match nlook k D.xms with
  | some l => nlook c l
  | none => none
def compTry (D : Desc) (G : Globs) (c : Ctx) (rs : Stmt → SV) (body : List Stmt) (hds : List ExceptHandler) (els fin : List Stmt) : SV := match els with
  | _ :: _ => sBad
  | [] => (match fin with
    | _ :: _ => sBad
    | [] => (match hds with
      | [] => sBad
      | h :: r => (match compHands G c (h :: r) with
        | some l => whenS c.top (sTry (xmOf D) (blk rs body) l)
        | none => sBad)))
theorem compTry_ok (g : Good T D G cl lv c X W) {rs : CS} (hs : SndS T D G cl lv rs) (body : List Stmt) (hds : List ExceptHandler) (els fin : List Stmt) (pos : Pos) : PS X (.Try body hds els fin pos) (SRd T X.K W (compTry D G c (rs c) body hds els fin)) := by
  unfold compTry
  split
  · exact zs_bad
  · split
    · exact zs_bad
    · split
      · exact zs_bad
      · split
        · rename_i h r _ l el
          refine zs_when fun ht => ?_
          obtain ⟨s1, s2⟩ := g.st ht
          refine zs_try (fun c k b e => ?_) s1 s2 g.tk (fun W' pn xe tk hp => blks_ok (fun st => hs c _ W' (g.tr tk hp) st) body) (compHands_ok g el)
          unfold xmOf at e
          split at e
          · rename_i l2 e2
            exact g.F.xm k l2 (nlook_mem e2) c b (nlook_mem e)
          · cases e
        · exact zs_bad
/-! ## one step of the statements -/
def compAug (c : Ctx) (r : Expr → EV) (tg : Expr) (op : Operator) (e : Expr) : SV := match tg with
  | .Name x _ => (match stB c x with
    | true => (match ix x c.N 0 with
      | some i => (match op with
        | .Add => sAugI i (fun i j => i + j) (r e)
        | .Sub => sAugI i (fun i j => i - j) (r e)
        | _ => sBad)
      | none => sBad)
    | false => sBad)
  | _ => sBad
theorem compAug_ok (g : Good T D G cl lv c X W) {r : Expr → EV} (h : ∀ e, PE X e (ERd T X.K W (r e))) (tg : Expr) (op : Operator) (e : Expr) (pos : Pos) : PS X (.AugAssign tg op e pos) (SRd T X.K W (compAug c r tg op e)) := by
  cases tg with
  | Name x px =>
    show PS X _ (SRd T X.K W (match stB c x with | true => (match ix x c.N 0 with | some i => (match op with | .Add => sAugI i (fun i j => i + j) (r e) | .Sub => sAugI i (fun i j => i - j) (r e) | _ => sBad) | none => sBad) | false => sBad))
    cases e1 : stB c x with
    | false => exact zs_bad
    | true =>
      simp only
      cases e2 : ix x c.N 0 with
      | none => exact zs_bad
      | some i =>
        obtain ⟨h1, h2⟩ := Bool.and_eq_true_iff.mp e1
        have hi := (ix_ok e2).2
        rw [Nat.sub_zero] at hi
        have hi : X.N[i]? = some x := by rw [g.nN]; exact hi
        cases op with
        | Add => exact zs_aug ip_add (by rw [g.nN]; exact g.nd) hi (by rw [g.sc]; exact loc_ok h1) (g.fk x (by simpa using h2)) (h e)
        | Sub => exact zs_aug ip_sub (by rw [g.nN]; exact g.nd) hi (by rw [g.sc]; exact loc_ok h1) (g.fk x (by simpa using h2)) (h e)
        | _ => exact zs_bad
  | _ => exact zs_bad
def stepS (D : Desc) (G : Globs) (cl : Calls) (r rt : CE) (rs : CS) : CS := fun c st => match st with
  | .Return v _ => (match v with
    | some e => sRet (r c e)
    | none => sRet (eC .non))
  | .Expr e _ => whenS (notComp e) (sExpr (r c e))
  | .Pass _ => sSkip
  | .Break _ => sBreak
  | .Continue _ => sCont
  | .If t a b _ => sIf (rt c t) (blk (rs c) a) (blk (rs c) b)
  | .While t b els _ => (match els with
    | [] => sWhile (rt c t) (blk (rs c) b)
    | _ :: _ => sBad)
  | .For tg iter b els _ => (match els with
    | [] => (match tgOf c 4 tg with
      | some gt => whenS (notSet iter) (sFor (compIter G c (r c) tg iter) gt (blk (rs c) b))
      | none => sBad)
    | _ :: _ => sBad)
  | .Assign tgs e _ => (match tgs with
    | [tg] => compAsg D G c r rt tg e
    | _ => sBad)
  | .AugAssign tg op e _ => compAug c (r c) tg op e
  | .Match e cs _ => sMatch (r c e) (compCases D cl (r c) (rs c) cs)
  | .Raise e cause _ => compRaise D G c e cause
  | .Try body hds els fin _ => compTry D G c (rs c) body hds els fin
  | _ => sBad
theorem stepS_ok {r rt : CE} {rs : CS} (hr : SndE T D G cl lv r) (ht : SndT T D G cl lv rt) (hs : SndS T D G cl lv rs) : SndS T D G cl lv (stepS D G cl r rt rs) := by
  intro c X W g st
  have h := hr c X W g
  have h2 := ht c X W g
  have h3 := hs c X W g
  cases st with
  | Return v p =>
    cases v with
    | some e => exact zs_ret (h e)
    | none => exact zs_retN
  | Expr e p => exact zs_when fun hn => zs_expr (h e) (notComp_ok hn)
  | Pass p => exact zs_pass
  | Break p => exact zs_break
  | Continue p => exact zs_continue
  | If t a b p => exact zs_if (h2 t) (blks_ok h3 a) (blks_ok h3 b)
  | While t b els p =>
    cases els with
    | nil => exact zs_while g.hp (h2 t) (blks_ok h3 b)
    | cons _ _ => exact zs_bad
  | For tg iter b els p =>
    cases els with
    | cons _ _ => exact zs_bad
    | nil =>
      show PS X _ (SRd T X.K W (match tgOf c 4 tg with | some gt => whenS (notSet iter) (sFor (compIter G c (r c) tg iter) gt (blk (rs c) b)) | none => sBad))
      cases e1 : tgOf c 4 tg with
      | none => exact zs_bad
      | some gt => exact zs_when fun hn => zs_for g.hp g.calm (compIter_ok g h tg iter) (tgOf_ok g 4 e1) (blks_ok h3 b) (notSet_ok hn)
  | Assign tgs e p =>
    show PS X _ (SRd T X.K W (match tgs with | [tg] => compAsg D G c r rt tg e | _ => sBad))
    split
    · exact compAsg_ok g hr ht _ e p
    · exact zs_bad
  | AugAssign tg op e p => exact compAug_ok g h tg op e p
  | Match e cs p => exact zs_match (h e) (compCases_ok g h h3 cs)
  | Raise e cause p => exact compRaise_ok g e cause p
  | Try body hds els fin p => exact compTry_ok g hs body hds els fin p
  | _ => exact zs_bad
def compS (D : Desc) (G : Globs) (cl : Calls) (r rt : CE) : Nat → CS
  | 0 => fun _ _ => sBad
  | n + 1 => stepS D G cl r rt (compS D G cl r rt n)
theorem compS_ok {r rt : CE} (hr : SndE T D G cl lv r) (ht : SndT T D G cl lv rt) : ∀ n, SndS T D G cl lv (compS D G cl r rt n)
  | 0 => fun _ _ _ _ _ => zs_bad
  | n + 1 => stepS_ok hr ht (compS_ok hr ht n)
end
end Z
end
section
/-! Z34: defs by their bodies, by depth. -/
namespace Z
open PySem PySem.Spec PyProof.Rows L2
def startA (N : List Str) (as : List AV) : Sl := as.map some ++ List.replicate (N.length - as.length) none
def endE (r : RS) : RE := match r with
  | .nx _ A => .ok .non A
  | .rt v A => .ok v A
  | .ex c fs _ A => .ex c fs A
  | _ => .bad
/-- a def's text as a function -/
def bodyZ (D : Desc) (G : Globs) (cl : Calls) (n : Nat) (N : List Str) (sc : Scope) (body : List Stmt) : SV := blk (compS D G cl (compE D G cl n).1 (compE D G cl n).2 n ⟨N, sc, N, true⟩) body
def runB (N : List Str) (b : SV) (as : List AV) (A : AH) : RE := endE (b (startA N as) A)
section
variable {P : Program} {w : World} {K : PySem.W.Frag} {mg : Str → Option Value} {base : Heap} {T : Tbl} {D : Desc} {G : Globs} {cl : Calls} {lv : Nat}
/-- the module's names -/
structure GlobsOk (K : PySem.W.Frag) (mg : Str → Option Value) (T : Tbl) (D : Desc) (G : Globs) : Prop where
  gf : ∀ x k, G.fns.lookup x = some k → mg x = some (.ref (T.fa k))
  gc : ∀ x k, G.cls.lookup x = some k → mg x = some (.ref (T.ca k))
  gv : ∀ x v, G.vals.lookup x = some v → ∃ u w, mg x = some w ∧ RelV u w ∧ CV T K v u
  gn : ∀ x ∈ G.none_, mg x = none
  ga : ∀ a n, D.ats[a]? = some n → T.at_ a = n
  gx : ∀ x k, G.exs.lookup x = some k → mg x = some (.ref (T.ca k))
theorem start_sr {f : Nat → Addr} {A : AH} {H : Hp} {N : List Str} {as : List AV} {vs : List V} (r : RVs T K f A.n H as vs) : SR T K f A.n H (startA N as) (L2.start N vs) := by
  have hl := r.length
  refine ⟨by unfold startA L2.start; simp [hl], fun i v e => ?_⟩
  unfold startA at e
  unfold L2.start
  by_cases h : i < as.length
  · rw [List.getElem?_append_left (by simpa using h)] at e
    rw [List.getElem?_map] at e
    cases e1 : as[i]? with
    | none => rw [e1] at e; cases e
    | some w =>
      rw [e1] at e
      cases e
      obtain ⟨u, hu, ru⟩ := paired_get r e1
      refine ⟨u, ?_, ru⟩
      rw [List.getElem?_append_left (by rw [List.length_map, ← hl]; exact h), List.getElem?_map, hu]
      rfl
  · rw [List.getElem?_append_right (by simpa using Nat.le_of_not_lt h)] at e
    rw [List.getElem?_replicate] at e
    split at e <;> cases e
theorem post_end {f : Nat → Addr} {A : AH} {H : Hp} {W : WX} {Q : VK} {E : XK} {r : RS} (q : Post T K (fun c d _ H => E c d H) f A H [] Q (endE r)) : PostS T K (fun c d _ H => E c d H) f A H { nx := fun _ H' => Q .non H', rt := Q } r := by
  cases r with
  | nx s A1 => exact fun f1 H1 σ1 st sr => q f1 H1 .non st rfl
  | rt v A1 => exact fun f1 H1 u st rv => q f1 H1 u st rv
  | ex c fs s A1 => exact fun f1 H1 σ1 d st sr x => q f1 H1 d st x
  | bk s A1 => exact q.elim
  | ct s A1 => exact q.elim
  | bad => exact q.elim
theorem def_ok (F : Facts P w K mg base T D cl lv) (GO : GlobsOk K mg T D G) (n : Nat) {f : Addr} {name qual : Str} {params : Arguments} {body : List Stmt} {scope : Scope} {dV kV doc pm cdv ct oc : Value} {an od : Option Addr}
    {osl : Array (Option Value)} {N ps : List Str} (lk : K.lookup f = some ⟨oc, od, .func (PySem.W.fnOf name qual params body scope dV kV doc pm an cdv ct), osl⟩) (hcd : PySem.W.codeIn K cdv qual = true) (S : FnScope N ps scope) {k : Nat} {cl' : Calls} (hcl : ∀ as A, cl' k as A = runB N (bodyZ D G cl n N scope body) as A) :
    FnOk P w K mg base (L2.CX P w) (lv + 2) f (PySem.W.fnOf name qual params body scope dV kV doc pm an cdv ct) ps (spI T K cl' k ps.length) := by
  refine fn_of (k := lv + 1) lk hcd S (fun vs H Q E ⟨_, _, _, _, _, hl, _⟩ => hl) fun A outer s H vs Q E hr ⟨g, A0, as, rl, rs, hl, q⟩ => ?_
  have tk : Takes (cxOf (L2.CX P w) P w K mg base N qual scope f cdv A outer s H E) (fun c d _ H => E c d H) := takes_of rfl rfl rfl rfl
  have hp : PassesOwn (model P w) (cxOf (L2.CX P w) P w K mg base N qual scope f cdv A outer s H E).A (cxOf (L2.CX P w) P w K mg base N qual scope f cdv A outer s H E).env (cxOf (L2.CX P w) P w K mg base N qual scope f cdv A outer s H E).xe := PassesOwn.leaving
  have good : Good T D G cl lv ⟨N, scope, N, true⟩ (cxOf (L2.CX P w) P w K mg base N qual scope f cdv A outer s H E) (fun c d _ H => E c d H) :=
    ⟨rfl, S.nd, rfl, tk, hr, hp, F, rfl, S.kind, fun x _ => .inl rfl, GO.gf, GO.gc, GO.gv, GO.gn, GO.ga, GO.gx, fun _ => ⟨rfl, rfl⟩⟩
  obtain ⟨h1, h2⟩ := compE_ok (T := T) (D := D) (G := G) (cl := cl) (lv := lv) n
  refine ⟨_, blks_ok (compS_ok h1 h2 n _ _ _ good) body, g, A0, startA N as, ⟨rl, start_sr rs⟩, ?_⟩
  rw [hcl as A0] at q
  exact post_end (W := fun c d _ H => E c d H) q
/-! ## by depth -/
structure CodeZ where
  N : List Str
  sc : Scope
  body : List Stmt
def callsAt (D : Desc) (G : Globs) (n : Nat) (codes : List CodeZ) : Nat → Calls
  | 0 => fun _ _ _ => .bad
  | d + 1 => fun k as A => match codes[k]? with
    | some c => runB c.N (bodyZ D G (callsAt D G n codes d) n c.N c.sc c.body) as A
    | none => .bad
/-- what is known of a def's object, without its promise -/
structure DefS (K : PySem.W.Frag) (T : Tbl) (k : Nat) (d : DefZ) (c : CodeZ) : Prop where
  ex : ∃ (name qual : Str) (params : Arguments) (dV kV doc pm cdv ct oc : Value) (an od : Option Addr) (osl : Array (Option Value)), K.lookup (T.fa k) = some ⟨oc, od, .func (PySem.W.fnOf name qual params c.body c.sc dV kV doc pm an cdv ct), osl⟩ ∧ PySem.W.codeIn K cdv qual = true ∧
    (∀ n ds, (n, ds) ∈ d.fills → n + ds.length = d.ps.length ∧ ∃ dvs dus, (∀ f n H, RVs T K f n H ds dvs) ∧ Vals dvs dus ∧ ∀ (s : Shared) (us : List Value), K.In s.heap → us.length = n → BindsTo s (PySem.W.fnOf name qual params c.body c.sc dV kV doc pm an cdv ct) ⟨us, []⟩ (d.ps.zip (us ++ dus))) ∧
    (∀ n ks sr, (n, ks, sr) ∈ d.kws → sr.length = d.ps.length ∧ ∃ g gV, KBn K (PySem.W.fnOf name qual params c.body c.sc dV kV doc pm an cdv ct) d.ps n ks g gV ∧ ∀ f m H as vs zs ws, RVs T K f m H as vs → RVs T K f m H zs ws → as.length = n → zs.length = ks.length → RVs T K f m H (sr.map (pickA as zs)) (gV vs ws))
  S : FnScope c.N d.ps c.sc
  kp : PySem.W.keepIn K (.ref (T.fa k)) = true
  fi : PySem.W.fnIn K (T.fa k) = true
structure Stat (K : PySem.W.Frag) (mg : Str → Option Value) (T : Tbl) (D : Desc) (G : Globs) (codes : List CodeZ) : Prop where
  df : ∀ k d, D.defs[k]? = some d → ∃ c, codes[k]? = some c ∧ DefS K T k d c
  cls : ∀ c z, D.clss[c]? = some z → ClF K T c z
  inj : ∀ a b, T.at_ a = T.at_ b → a = b
  nm : ∀ i x, dunN[i]? = some x → T.at_ i = x
  isi : ∀ u l, (u, l) ∈ D.isi → ∀ t b, (t, b) ∈ l → PySem.W.kitOne K (tagV T t) (tagV T u) = some b
  nf : ∀ c t, (c, t) ∈ D.nfs → PySem.W.notFirst K (T.ca c) (tagV T t) = true
  ex : ∀ c, c ∈ D.exs → ExF K (T.ca c)
  xm : ∀ k l, (k, l) ∈ D.xms → ∀ c b, (c, b) ∈ l → PySem.W.exmOne K (.ref (T.ca c)) (.ref (T.ca k)) = some b
  go : GlobsOk K mg T D G
theorem facts_at {codes : List CodeZ} (St : Stat K mg T D G codes) (n : Nat) : ∀ d, Facts P w K mg base T D (callsAt D G n codes d) (2 * d)
  | 0 => by
    refine ⟨fun k d e => ?_, St.cls, St.inj, St.nm, St.isi, St.nf, St.ex, St.xm⟩
    obtain ⟨c, ec, s⟩ := St.df k d e
    obtain ⟨name, qual, params, dV, kV, doc, pm, cdv, ct, oc, an, od, osl, lk, hcd, fl, kw⟩ := s.ex
    exact ⟨⟨_, ⟨fun vs H Q E ⟨_, _, _, _, _, hl, _⟩ => hl, fun A outer s H args us vs Q E _ _ _ _ ⟨_, _, _, _, _, _, q⟩ => q.elim⟩, fl, kw⟩, s.kp, s.fi⟩
  | d + 1 => by
    have ih := facts_at St n d
    refine ⟨fun k dz e => ?_, St.cls, St.inj, St.nm, St.isi, St.nf, St.ex, St.xm⟩
    obtain ⟨c, ec, s⟩ := St.df k dz e
    obtain ⟨name, qual, params, dV, kV, doc, pm, cdv, ct, oc, an, od, osl, lk, hcd, fl, kw⟩ := s.ex
    have h : FnOk P w K mg base (L2.CX P w) (2 * d + 2) (T.fa k) (PySem.W.fnOf name qual params c.body c.sc dV kV doc pm an cdv ct) dz.ps (spI T K (callsAt D G n codes (d + 1)) k dz.ps.length) :=
      def_ok (lv := 2 * d) ih St.go n lk hcd s.S fun as A => by
        show (match codes[k]? with | some c => runB c.N (bodyZ D G (callsAt D G n codes d) n c.N c.sc c.body) as A | none => .bad) = _
        rw [ec]
    exact ⟨⟨_, h, fl, kw⟩, s.kp, s.fi⟩
end
end Z
end
section
/-! Z35: what the head must say, as one Bool; the end of a law. -/
namespace Z
open PySem PySem.Spec PyProof.Rows L2
/-! ## the names of attributes -/
def atN (l : List Str) (a : Nat) : Str := match l[a]? with
  | some x => x
  | none => ⟨(List.replicate (a + 1) 126).toArray⟩
def plainN (x : Str) : Bool := match x.cps.toList with
  | c :: _ => !(Nat.beq c 126)
  | [] => true
theorem atN_inj {l : List Str} (hn : l.Nodup) (hp : l.all plainN = true) : ∀ a b, atN l a = atN l b → a = b := by
  intro a b h
  unfold atN at h
  have key : ∀ (x : Str) (k : Nat), x ∈ l → x ≠ ⟨(List.replicate (k + 1) 126).toArray⟩ := fun x k hx e => by
    have := List.all_eq_true.mp hp x hx
    rw [e] at this
    unfold plainN at this
    simp [List.replicate_succ] at this
  cases ea : l[a]? with
  | some x =>
    rw [ea] at h
    cases eb : l[b]? with
    | some y =>
      rw [eb] at h
      have h' : x = y := h
      subst h'
      obtain ⟨ha, e1⟩ := List.getElem?_eq_some_iff.mp ea
      obtain ⟨hb, e2⟩ := List.getElem?_eq_some_iff.mp eb
      have p := List.pairwise_iff_getElem.mp hn
      rcases Nat.lt_trichotomy a b with q | q | q
      · exact absurd (e1.trans e2.symm) (p a b ha hb q)
      · exact q
      · exact absurd (e2.trans e1.symm) (p b a hb ha q)
    | none =>
      rw [eb] at h
      exact absurd h (key x b (List.mem_of_getElem? ea))
  | none =>
    rw [ea] at h
    cases eb : l[b]? with
    | some y =>
      rw [eb] at h
      exact absurd h.symm (key y a (List.mem_of_getElem? eb))
    | none =>
      rw [eb] at h
      have h' : (List.replicate (a + 1) 126).toArray = (List.replicate (b + 1) 126).toArray := congrArg Str.cps h
      have h2 := congrArg Array.size h'
      simp at h2
      omega
/-! ## constants -/
def svV : AV → Option V
  | .non => some .non
  | .bl b => some (.bl b)
  | .int i => some (.int i)
  | .str x => some (.str x)
  | _ => none
def flatV : AV → Option (List V)
  | .tn => some []
  | .tc h t => (match svV h with
    | some x => (match flatV t with
      | some r => some (x :: r)
      | none => none)
    | none => none)
  | _ => none
def tupIn (K : PySem.W.Frag) (a : Addr) (xs : List V) : Bool := match K.lookup a with
  | some ⟨.type c, _, .seq its _, _⟩ => decide (c = "tuple") && (decide (its.size ≤ sizeLine) && He.relAll xs its.toList)
  | _ => false
def cvB (K : PySem.W.Frag) (v : AV) (u : Value) : Bool := match v with
  | .ft t => (match u with
    | .ref a => (match flatV t with
      | some xs => tupIn K a xs
      | none => false)
    | _ => false)
  | v => (match svV v with
    | some x => He.relB x u
    | none => false)
section
variable {K : PySem.W.Frag} {T : Tbl}
theorem svV_ok {v : AV} {x : V} (h : svV v = some x) : CV T K v x := by
  intro f n H
  cases v <;> (try (cases h)) <;> rfl
theorem flatV_ok : ∀ {t : AV} {xs : List V}, flatV t = some xs → ∀ f n H, RVt T K f n H t xs
  | .tn, xs, h, f, n, H => by unfold flatV at h; cases h; rfl
  | .tc a t, xs, h, f, n, H => by
    unfold flatV at h
    cases e : svV a with
    | none => rw [e] at h; cases h
    | some x =>
      cases e2 : flatV t with
      | none => rw [e, e2] at h; cases h
      | some r => rw [e, e2] at h; cases h; exact ⟨x, r, rfl, svV_ok e f n H, flatV_ok e2 f n H⟩
theorem tupIn_ok {a : Addr} {xs : List V} (h : tupIn K a xs = true) (H : Hp) : SqT K H a xs := by
  unfold tupIn at h
  cases q : K.lookup a with
  | none => rw [q] at h; cases h
  | some o =>
    obtain ⟨oc, od, dt, osl⟩ := o
    rw [q] at h
    cases oc with
    | type c =>
      cases dt with
      | seq its n =>
        obtain ⟨h1, h2⟩ := He.ba (show (decide (c = "tuple") && (decide (its.size ≤ sizeLine) && He.relAll xs its.toList)) = true from h)
        obtain ⟨h3, h4⟩ := He.ba h2
        exact .inr ⟨_, its, n, q, congrArg Value.type (of_decide_eq_true h1), rfl, of_decide_eq_true h3, He.relAll_ok h4⟩
      | _ => cases h
    | _ => cases dt <;> cases h
theorem cvB_ok {v : AV} {u : Value} (h : cvB K v u = true) : ∃ x, RelV x u ∧ CV T K v x := by
  have simple : (match svV v with | some x => He.relB x u | none => false) = true → ∃ x, RelV x u ∧ CV T K v x := fun h => by
    cases e : svV v with
    | none => rw [e] at h; cases h
    | some x => rw [e] at h; exact ⟨x, He.relB_ok h, svV_ok e⟩
  cases v with
  | ft t =>
    unfold cvB at h
    cases u with
    | ref a =>
      simp only at h
      cases e : flatV t with
      | none => rw [e] at h; cases h
      | some xs =>
        rw [e] at h
        refine ⟨.ref a, rfl, fun f n H => ⟨a, xs, rfl, tupIn_ok h _, flatV_ok e f n H⟩⟩
    | _ => cases h
  | _ => exact simple h
end
/-! ## classes -/
def eqv (a b : Option (Option Value)) : Bool := He.eqO a b
def chkAttr (K : PySem.W.Frag) (T : Tbl) (C : Addr) (x : Str) : Attr → Bool
  | .fld => eqv (PySem.W.findIn K (.ref C) x) (some none)
  | .meth k => eqv (PySem.W.findIn K (.ref C) x) (some (some (.ref (T.fa k)))) && (PySem.W.isFn K (.ref (T.fa k)) && PySem.W.keepIn K (.ref (T.fa k)))
  | .prop k => (match PySem.W.findIn K (.ref C) x with
    | some (some (.ref p)) => eqv (PySem.W.specialIn K (.ref p) "__get__") (some (some (.builtin "property.__get__"))) && (decide (PySem.W.takesIn K (.ref p) = some true) && (match PySem.W.recIn K p "property" with
      | some (.ref g :: _) => decide (g = T.fa k)
      | _ => false))
    | _ => false)
  | .con v => (match PySem.W.findIn K (.ref C) x with
    | some (some u) => cvB K v u && (eqv (PySem.W.specialIn K u "__get__") (some none) && !(PySem.W.copiedNames.contains x))
    | _ => false)
def chkInit (K : PySem.W.Frag) (T : Tbl) (C : Addr) : Option Nat → Bool
  | none => true
  | some k => PySem.W.makesIn K C && (eqv (PySem.W.findIn K (.ref C) "__init__") (some (some (.ref (T.fa k)))) && PySem.W.isFn K (.ref (T.fa k)))
def chkCls (K : PySem.W.Frag) (T : Tbl) (c : Nat) (z : ClsZ) : Bool :=
  (PySem.W.plainGet K (T.ca c) Str.empty && (PySem.W.hasDictIn K (T.ca c) && (PySem.W.plainOver K (T.ca c) && eqv (PySem.W.findIn K (.ref (T.ca c)) "__setattr__") (some (some (.builtin "object.__setattr__")))))) &&
  (PySem.W.keepIn K (.ref (T.ca c)) && (z.attrs.all (fun p => chkAttr K T (T.ca c) (T.at_ p.1) p.2) && (chkInit K T (T.ca c) z.init &&
  ((eqv (PySem.W.findIn K (.ref (T.ca c)) "__class__") (some (some (.builtin "object.__class__"))) && (eqv (PySem.W.specialIn K (.builtin "object.__class__") "__get__") (some (some (.builtin "getset_descriptor.__get__"))) && decide (PySem.W.takesIn K (.builtin "object.__class__") = some true))) &&
  (eqv (PySem.W.findIn K (.ref (T.ca c)) "__ne__") (some (some (.builtin "object.__ne__"))) && (decide (PySem.W.mroIn K (T.ca c) (.type "object") = some true) && (PySem.W.noSeq K (T.ca c) && PySem.W.selfFirst K (T.ca c))))))))
section
variable {K : PySem.W.Frag} {T : Tbl}
theorem chkCls_ok {c : Nat} {z : ClsZ} (h : chkCls K T c z = true) : ClF K T c z := by
  obtain ⟨h1, h⟩ := He.ba h
  obtain ⟨a1, h1⟩ := He.ba h1
  obtain ⟨a2, h1⟩ := He.ba h1
  obtain ⟨a3, a4⟩ := He.ba h1
  obtain ⟨kp, h⟩ := He.ba h
  obtain ⟨at_, h⟩ := He.ba h
  obtain ⟨ini, h⟩ := He.ba h
  obtain ⟨ty, h⟩ := He.ba h
  obtain ⟨t1, ty⟩ := He.ba ty
  obtain ⟨t2, t3⟩ := He.ba ty
  obtain ⟨ne, h⟩ := He.ba h
  obtain ⟨ob, h⟩ := He.ba h
  obtain ⟨sq, sf⟩ := He.ba h
  have hc : Cls K (T.ca c) := ⟨a1, a2, a3, He.eqO_ok a4⟩
  have att : ∀ a t, (a, t) ∈ z.attrs → chkAttr K T (T.ca c) (T.at_ a) t = true := fun a t m => List.all_eq_true.mp at_ (a, t) m
  refine ⟨hc, kp, fun a m => He.eqO_ok (att a _ m), fun a k m => ?_, fun a k m => ?_, fun a v m => ?_, fun k e => ?_, fun H a dx fs e => .ins e hc (He.eqO_ok t1) (He.eqO_ok t2) (of_decide_eq_true t3) (of_decide_eq_true ob), He.eqO_ok ne, of_decide_eq_true ob, sq, sf⟩
  · obtain ⟨b1, b⟩ := He.ba (show (_ && (_ && _)) = true from att a _ m)
    obtain ⟨b2, b3⟩ := He.ba b
    exact ⟨He.eqO_ok b1, b2, b3⟩
  · have q : (match PySem.W.findIn K (.ref (T.ca c)) (T.at_ a) with
      | some (some (.ref p)) => eqv (PySem.W.specialIn K (.ref p) "__get__") (some (some (.builtin "property.__get__"))) && (decide (PySem.W.takesIn K (.ref p) = some true) && (match PySem.W.recIn K p "property" with
        | some (.ref g :: _) => decide (g = T.fa k)
        | _ => false))
      | _ => false) = true := att a _ m
    split at q
    · rename_i p e
      obtain ⟨b1, b⟩ := He.ba q
      obtain ⟨b2, b3⟩ := He.ba b
      split at b3
      · rename_i g rest e3
        have eg : g = T.fa k := of_decide_eq_true b3
        subst eg
        exact ⟨p, ⟨e, He.eqO_ok b1, of_decide_eq_true b2, rest, e3⟩⟩
      · cases b3
    · cases q
  · have q : (match PySem.W.findIn K (.ref (T.ca c)) (T.at_ a) with
      | some (some u) => cvB K v u && (eqv (PySem.W.specialIn K u "__get__") (some none) && !(PySem.W.copiedNames.contains (T.at_ a)))
      | _ => false) = true := att a _ m
    split at q
    · rename_i u e
      obtain ⟨b1, b⟩ := He.ba q
      obtain ⟨b2, b3⟩ := He.ba b
      obtain ⟨x, r, cv⟩ := cvB_ok (T := T) b1
      exact ⟨x, u, ⟨e, r, He.eqO_ok b2, by simpa using b3⟩, cv⟩
    · cases q
  · rw [e] at ini
    obtain ⟨b1, b⟩ := He.ba (show (_ && (_ && _)) = true from ini)
    obtain ⟨b2, b3⟩ := He.ba b
    exact ⟨b1, He.eqO_ok b2, b3, kp⟩
end
/-! ## defs, where they stand -/
inductive Wh where
  | g (x : Str) | m (C x : Str) | p (C x : Str)
def wAd (K : PySem.W.Frag) : Wh → Addr
  | .g x => He.ga K x
  | .m C x => He.ma K (He.ga K C) x
  | .p C x => (match PySem.W.findIn K (.ref (He.ga K C)) x with
    | some (some (.ref p)) => (match PySem.W.recIn K p "property" with
      | some (.ref g :: _) => g
      | _ => 0)
    | _ => 0)
structure DefY where
  at_ : Wh
  name : Str
  qual : Str
  params : Arguments
  body : List Stmt
  scope : Scope
  dfl : List He.Dv := []
  kwd : List (Str × He.Dv) := []
def fnY (K : PySem.W.Frag) (a : Addr) : He.FnW := match K.lookup a with
  | some ⟨_, _, .func fd, _⟩ => some (fd.name, fd.qualname, fd.params, fd.body, fd.scope, fd.globals, fd.closure, fd.builtins)
  | _ => none
def DefY.val (d : DefY) : He.FnW := some (d.name, d.qual, d.params, .stmts d.body, d.scope, mainGlobals, [], builtinsNs)
def DefY.dvs (K : PySem.W.Frag) (d : DefY) : List V := d.dfl.map (He.Dv.v K)
def DefY.kws (K : PySem.W.Frag) (d : DefY) : List (Str × V) := d.kwd.map fun q => (q.1, q.2.v K)
def DefY.ok (K : PySem.W.Frag) (d : DefY) : Bool := PySem.W.keepIn K (.ref (wAd K d.at_)) && (match K.lookup (wAd K d.at_) with
  | some ⟨_, _, .func fd, _⟩ => PySem.W.codeIn K fd.code d.qual && (He.dflB K fd.defaults (d.dvs K) && He.kwdB K fd.kwdefaults (d.kws K))
  | _ => false)
theorem DefY.funD {K : PySem.W.Frag} {d : DefY} (e : fnY K (wAd K d.at_) = d.val) (c : d.ok K = true) : ∃ fd, FunD K d.name d.qual d.params d.body d.scope (d.dvs K) (d.kws K) (wAd K d.at_) fd := by
  obtain ⟨kp, c2⟩ := He.ba c
  unfold fnY at e
  cases q : K.lookup (wAd K d.at_) with
  | none => rw [q] at c2; cases c2
  | some o =>
    obtain ⟨oc, od, dt, osl⟩ := o
    rw [q] at c2 e
    cases dt with
    | func fd =>
      obtain ⟨n1, n2, n3, n4, n5, n6, n7, n8, n9, n10, n11, n12, n13, n14, n15⟩ := fd
      have e2 : (some (n1, n2, n3, n4, n5, n6, n7, n15) : He.FnW) = some (d.name, d.qual, d.params, .stmts d.body, d.scope, mainGlobals, [], builtinsNs) := e
      simp only [Option.some.injEq, Prod.mk.injEq] at e2
      obtain ⟨h1, h2, h3, h4, h5, h6, h7, h8⟩ := e2
      subst h1 h2 h3 h4 h5 h6 h7 h8
      have c3 : (PySem.W.codeIn K n13 d.qual && (He.dflB K n8 (d.dvs K) && He.kwdB K n9 (d.kws K))) = true := c2
      obtain ⟨k1, k2⟩ := He.ba c3
      obtain ⟨k3, k4⟩ := He.ba k2
      exact ⟨_, ⟨oc, od, n8, n9, n10, n11, n12, n13, n14, osl, rfl, q, k1, He.dflB_ok k3, He.kwdB_ok k4⟩, kp⟩
    | _ => cases c2
/-! ## all of it -/
structure Lay where
  fns : List DefY
  cls : List Str
  D : Desc
  G : Globs
  Ns : List (List Str)
def Lay.T (L : Lay) (K : PySem.W.Frag) : Tbl := ⟨fun k => match L.fns[k]? with
  | some d => wAd K d.at_
  | none => 0, fun c => match L.cls[c]? with
  | some x => He.ga K x
  | none => 0, atN L.D.ats⟩
def Lay.codes (L : Lay) : List CodeZ := (L.Ns.zip L.fns).map fun p => ⟨p.1, p.2.scope, p.2.body⟩
def chkEx (K : PySem.W.Frag) (C : Addr) : Bool := PySem.W.excIn K C [.type "ValueError", .type "Exception", .type "BaseException", .type "object"] "ValueError.__new__" && (PySem.W.keepIn K (.ref C) && (decide (PySem.W.subIn K (.ref C) (.type "BaseException") = some true) && decide (PySem.W.typeIn K (.ref C) = some (.type "type"))))
theorem chkEx_ok {K : PySem.W.Frag} {C : Addr} (h : chkEx K C = true) : ExF K C := by
  obtain ⟨c1, h⟩ := He.ba h
  obtain ⟨c2, h⟩ := He.ba h
  obtain ⟨c3, c4⟩ := He.ba h
  exact ⟨c1, c2, of_decide_eq_true c3, of_decide_eq_true c4⟩
def chkClss (K : PySem.W.Frag) (T : Tbl) : Nat → List ClsZ → Bool
  | _, [] => true
  | c, z :: zs => chkCls K T c z && chkClss K T (c + 1) zs
theorem chkClss_ok {K : PySem.W.Frag} {T : Tbl} : ∀ {zs : List ClsZ} {i : Nat}, chkClss K T i zs = true → ∀ (c : Nat) (z : ClsZ), zs[c]? = some z → ClF K T (i + c) z
  | [], _, _, c, z, e => by cases e
  | y :: ys, i, h, c, z, e => by
    obtain ⟨h1, h2⟩ := He.ba (show (chkCls K T i y && chkClss K T (i + 1) ys) = true from h)
    cases c with
    | zero => cases e; exact chkCls_ok h1
    | succ c =>
      have := chkClss_ok h2 c z e
      rw [show i + (c + 1) = i + 1 + c by omega]
      exact this
/-- what is looked at in the frozen heap -/
def chkLay (L : Lay) (K : PySem.W.Frag) : Bool :=
  chkClss K (L.T K) 0 L.D.clss &&
  (L.D.isi.all (fun p => p.2.all fun q => decide (PySem.W.kitOne K (tagV (L.T K) q.1) (tagV (L.T K) p.1) = some q.2)) &&
  (L.D.nfs.all (fun p => PySem.W.notFirst K ((L.T K).ca p.1) (tagV (L.T K) p.2)) &&
  (L.G.fns.all (fun p => eqv (PySem.W.nsIn K mainGlobals p.1) (some (some (.ref ((L.T K).fa p.2))))) &&
  (L.G.cls.all (fun p => eqv (PySem.W.nsIn K mainGlobals p.1) (some (some (.ref ((L.T K).ca p.2))))) &&
  (L.G.vals.all (fun p => match PySem.W.nsIn K mainGlobals p.1 with
    | some (some u) => cvB K p.2 u
    | _ => false) &&
  (L.G.none_.all (fun x => eqv (PySem.W.nsIn K mainGlobals x) (some none)) &&
  (L.G.exs.all (fun p => eqv (PySem.W.nsIn K mainGlobals p.1) (some (some (.ref ((L.T K).ca p.2))))) &&
  (L.D.exs.all (fun c => chkEx K ((L.T K).ca c)) &&
  L.D.xms.all (fun p => p.2.all fun q => decide (PySem.W.exmOne K (.ref ((L.T K).ca q.1)) (.ref ((L.T K).ca p.1)) = some q.2))))))))))
/-- what is known of the text alone -/
structure Txt (L : Lay) : Prop where
  nd : L.D.ats.Nodup
  pl : L.D.ats.all plainN = true
  nm : ∀ (i : Nat) (x : Str), dunN[i]? = some x → L.D.ats[i]? = some x
  lf : L.D.defs.length = L.fns.length
  ln : L.Ns.length = L.fns.length
def RVK (K : PySem.W.Frag) (ds : List AV) (dvs : List V) : Prop := ∀ (T : Tbl) f n H, RVs T K f n H ds dvs
structure DefT (d : DefY) (dz : DefZ) (N : List Str) : Prop where
  S : FnScope N dz.ps d.scope
  fl : ∀ (K : PySem.W.Frag) (f : Addr) (fd : FuncData), FunD K d.name d.qual d.params d.body d.scope (d.dvs K) (d.kws K) f fd → ∀ n ds, (n, ds) ∈ dz.fills → n + ds.length = dz.ps.length ∧ ∃ dvs dus, RVK K ds dvs ∧ Vals dvs dus ∧
    ∀ (s : Shared) (us : List Value), K.In s.heap → us.length = n → BindsTo s fd ⟨us, []⟩ (dz.ps.zip (us ++ dus))
  kw : ∀ (K : PySem.W.Frag) (f : Addr) (fd : FuncData), FunD K d.name d.qual d.params d.body d.scope (d.dvs K) (d.kws K) f fd → ∀ n ks sr, (n, ks, sr) ∈ dz.kws → sr.length = dz.ps.length ∧ ∃ g gV, KBn K fd dz.ps n ks g gV ∧
    ∀ (T : Tbl) f m H as vs zs ws, RVs T K f m H as vs → RVs T K f m H zs ws → as.length = n → zs.length = ks.length → RVs T K f m H (sr.map (pickA as zs)) (gV vs ws)
section
variable {K : PySem.W.Frag} {L : Lay}
theorem look_mem {α : Type} {x : Str} {k : α} : ∀ {l : List (Str × α)}, l.lookup x = some k → (x, k) ∈ l
  | [], h => by cases h
  | (y, a) :: r, h => by
    have h2 : (match x == y with | true => some a | false => r.lookup x) = some k := h
    cases q : (x == y) with
    | true => rw [q] at h2; cases h2; rw [beq_iff_eq.mp q]; exact List.mem_cons_self
    | false => rw [q] at h2; exact List.mem_cons_of_mem _ (look_mem h2)
theorem stat_of {h : Heap} {mg : Str → Option Value} (X : K.In h) (G : h.Ns mainGlobals mg) (c : chkLay L K = true) (hf : ∀ (k : Nat) (d : DefY), L.fns[k]? = some d → ∃ fd, FunD K d.name d.qual d.params d.body d.scope (d.dvs K) (d.kws K) (wAd K d.at_) fd)
    (t : Txt L) (td : ∀ (k : Nat) (d : DefY) (dz : DefZ) (N : List Str), L.fns[k]? = some d → L.D.defs[k]? = some dz → L.Ns[k]? = some N → DefT d dz N) : Stat K mg (L.T K) L.D L.G L.codes := by
  obtain ⟨c1, c⟩ := He.ba c
  obtain ⟨c2, c⟩ := He.ba c
  obtain ⟨c3, c⟩ := He.ba c
  obtain ⟨c4, c⟩ := He.ba c
  obtain ⟨c5, c⟩ := He.ba c
  obtain ⟨c6, c⟩ := He.ba c
  obtain ⟨c7, c⟩ := He.ba c
  obtain ⟨c8, c⟩ := He.ba c
  obtain ⟨c9, c10⟩ := He.ba c
  refine ⟨fun k dz e => ?_, fun c z e => ?_, atN_inj t.nd t.pl, fun i x e => ?_, fun u l m t b m2 => ?_, fun c t m => ?_, fun c m => ?_, fun k l m c b m2 => ?_, ⟨fun x k e => ?_, fun x k e => ?_, fun x v e => ?_, fun x m => ?_, fun a n e => ?_, fun x k e => ?_⟩⟩
  · have hk : k < L.D.defs.length := (List.getElem?_eq_some_iff.mp e).1
    obtain ⟨d, ed⟩ : ∃ d, L.fns[k]? = some d := ⟨_, List.getElem?_eq_getElem (by rw [← t.lf]; exact hk)⟩
    obtain ⟨N, eN⟩ : ∃ N, L.Ns[k]? = some N := ⟨_, List.getElem?_eq_getElem (by rw [t.ln, ← t.lf]; exact hk)⟩
    obtain ⟨fd, F⟩ := hf k d ed
    have q := td k d dz N ed e eN
    have hfa : (L.T K).fa k = wAd K d.at_ := by show (match L.fns[k]? with | some d => wAd K d.at_ | none => 0) = _; rw [ed]
    refine ⟨⟨N, d.scope, d.body⟩, ?_, ?_⟩
    · unfold Lay.codes
      rw [List.getElem?_map, (show (L.Ns.zip L.fns)[k]? = some (N, d) from List.getElem?_zip_eq_some.mpr ⟨eN, ed⟩)]
      rfl
    · obtain ⟨oc, od, dV, kV, doc, pm, an, cdv, ct, osl, efd, lk, hcd, _, _⟩ := F.ex
      subst efd
      refine ⟨⟨d.name, d.qual, d.params, dV, kV, doc, pm, cdv, ct, oc, an, od, osl, by rw [hfa]; exact lk, hcd, fun n ds m => ?_, fun n ks sr m => ?_⟩, q.S, by rw [hfa]; exact F.kp, ?_⟩
      · obtain ⟨h1, dvs, dus, h2, h3, h4⟩ := q.fl K _ _ F n ds m
        exact ⟨h1, dvs, dus, fun f n H => h2 _ f n H, h3, h4⟩
      · obtain ⟨h1, g, gV, h2, h3⟩ := q.kw K _ _ F n ks sr m
        exact ⟨h1, g, gV, h2, fun f m H as vs zs ws => h3 _ f m H as vs zs ws⟩
      · rw [hfa]
        unfold PySem.W.fnIn
        rw [lk]
  · have := chkClss_ok c1 c z e
    rw [Nat.zero_add] at this
    exact this
  · show atN L.D.ats i = x
    unfold atN
    rw [t.nm i x e]
  · exact of_decide_eq_true (List.all_eq_true.mp (List.all_eq_true.mp c2 (u, l) m) (t, b) m2)
  · exact List.all_eq_true.mp c3 (c, t) m
  · exact chkEx_ok (List.all_eq_true.mp c9 c m)
  · exact of_decide_eq_true (List.all_eq_true.mp (List.all_eq_true.mp c10 (k, l) m) (c, b) m2)
  · exact PySem.W.mg_of X G (He.eqO_ok (List.all_eq_true.mp c4 (x, k) (look_mem e)))
  · exact PySem.W.mg_of X G (He.eqO_ok (List.all_eq_true.mp c5 (x, k) (look_mem e)))
  · have q := List.all_eq_true.mp c6 (x, v) (look_mem e)
    simp only at q
    split at q
    · rename_i w ew
      obtain ⟨u, r, cv⟩ := cvB_ok (T := L.T K) q
      exact ⟨u, w, PySem.W.mg_of X G ew, r, cv⟩
    · cases q
  · exact PySem.W.mg_none_of X G (He.eqO_ok (List.all_eq_true.mp c7 x m))
  · show atN L.D.ats a = n
    unfold atN
    rw [e]
  · exact PySem.W.mg_of X G (He.eqO_ok (List.all_eq_true.mp c8 (x, k) (look_mem e)))
end
abbrev eNeg (D : Desc) (cl : Calls) : AV → AH → RE := fun v A => orE (pNegI v A) fun _ => pNegO D cl v A
/-! ## how arguments are bound -/
inductive Sr where
  | p (i : Nat) | m (i : Nat) | k (i : Nat)
def consO {α : Type} (o : Option α) (l : List α) : List α := match o with
  | some x => x :: l
  | none => l
def srL {α : Type} : List Sr → List α → List α → List α → List α
  | [], _, _, _ => []
  | s :: r, us, mv, ws => match s with
    | .p i => consO us[i]? (srL r us mv ws)
    | .m i => consO mv[i]? (srL r us mv ws)
    | .k i => consO ws[i]? (srL r us mv ws)
theorem vals_at : ∀ {vs : List V} {us : List Value} (i : Nat), Vals vs us → (vs[i]? = none ∧ us[i]? = none) ∨ ∃ v u, vs[i]? = some v ∧ us[i]? = some u ∧ RelV v u
  | [], [], i, _ => .inl ⟨rfl, rfl⟩
  | v :: vs, u :: us, 0, .cons h _ => .inr ⟨v, u, rfl, rfl, h⟩
  | v :: vs, u :: us, i + 1, .cons _ t => vals_at (vs := vs) (us := us) i t
theorem srL_rel {vs mz zs : List V} {us mv ws : List Value} (r1 : Vals vs us) (r2 : Vals mz mv) (r3 : Vals zs ws) : ∀ sr : List Sr, Vals (srL sr vs mz zs) (srL sr us mv ws)
  | [] => .nil
  | s :: r => by
    have ih := srL_rel r1 r2 r3 r
    have key : ∀ (a : Option V) (b : Option Value), ((a = none ∧ b = none) ∨ ∃ v u, a = some v ∧ b = some u ∧ RelV v u) → Vals (consO a (srL r vs mz zs)) (consO b (srL r us mv ws)) := by
      rintro a b (⟨rfl, rfl⟩ | ⟨v, u, rfl, rfl, h⟩)
      · exact ih
      · exact .cons h ih
    cases s with
    | p i => exact key _ _ (vals_at i r1)
    | m i => exact key _ _ (vals_at i r2)
    | k i => exact key _ _ (vals_at i r3)
section
variable {K : PySem.W.Frag} {x qual : Str} {params : Arguments} {body : List Stmt} {scope : Scope} {kws : List (Str × V)} {f : Addr} {fd : FuncData} {ps : List Str}
theorem fl_of {n : Nat} {ds : List AV} {dvs : List V} (hn : n + ds.length = ps.length) (r : RVK K ds dvs) (b : ∃ dus, Vals dvs dus ∧ Binds K fd ps dus) : n + ds.length = ps.length ∧ ∃ dvs dus, RVK K ds dvs ∧ Vals dvs dus ∧
    ∀ (s : Shared) (us : List Value), K.In s.heap → us.length = n → BindsTo s fd ⟨us, []⟩ (ps.zip (us ++ dus)) := by
  obtain ⟨dus, v, b⟩ := b
  refine ⟨hn, dvs, dus, r, v, fun s us X hl => b s us X ?_⟩
  have h1 : ds.length = dvs.length := (r ⟨fun _ => 0, fun _ => 0, fun _ => ""⟩ (fun _ => 0) 0 (fun _ => none)).length
  rw [List.length_append, hl, ← v.length, ← h1, hn]
theorem kw_of {n : Nat} {ks : List Str} {sr : List Src} {g : List Value → List Value → List Value} {gV : List V → List V → List V} (k : KBn K fd ps n ks g gV) (hl : sr.length = ps.length)
    (r : ∀ (T : Tbl) f m H as vs zs ws, RVs T K f m H as vs → RVs T K f m H zs ws → as.length = n → zs.length = ks.length → RVs T K f m H (sr.map (pickA as zs)) (gV vs ws)) : sr.length = ps.length ∧ ∃ g gV, KBn K fd ps n ks g gV ∧
    ∀ (T : Tbl) f m H as vs zs ws, RVs T K f m H as vs → RVs T K f m H zs ws → as.length = n → zs.length = ks.length → RVs T K f m H (sr.map (pickA as zs)) (gV vs ws) := ⟨hl, g, gV, k, r⟩
/-- keyword-only parameters with defaults, no positional defaults -/
theorem kbn0 (F : FunD K x qual params body scope [] kws f fd) (n : Nat) (ks : List Str) (ms : List (Str × V)) (sr : List Sr) (hk : kws ≠ []) (hms : ∀ q ∈ ms, q ∈ kws)
    (h : ∀ (D : Addr) (doc pm : Value) (an : Option Addr) (cdv ct : Value) (us mv ws : List Value), us.length = n → mv.length = ms.length → ws.length = ks.length →
      KwChain D ((ms.map (·.1)).zip mv) (bindArgs (PySem.W.fnOf x qual params body scope .none (.ref D) doc pm an cdv ct) ⟨us, ks.zip ws⟩) (ps.zip (srL sr us mv ws))) :
    ∃ g, KBn K fd ps n ks g (fun vs zs => srL sr vs (ms.map (·.2)) zs) := by
  obtain ⟨mv, k⟩ := F.kbinds0 n ks ms (srL sr) hk hms (fun r1 r2 r3 => srL_rel r1 r2 r3 sr) h
  exact ⟨_, k⟩
/-- positional and keyword-only defaults or none: the keywords alone matter -/
theorem kbnN (F : FunD K x qual params body scope [] kws f fd) (n : Nat) (ks : List Str) (sr : List Sr)
    (h : ∀ (kV doc pm : Value) (an : Option Addr) (cdv ct : Value) (us ws : List Value), us.length = n → ws.length = ks.length → bindArgs (PySem.W.fnOf x qual params body scope .none kV doc pm an cdv ct) ⟨us, ks.zip ws⟩ = pure (ps.zip (srL sr us [] ws))) :
    ∃ g, KBn K fd ps n ks g (fun vs zs => srL sr vs [] zs) := by
  obtain ⟨oc, od, dV, kV, doc, pm, an, cdv, ct, osl, rfl, lk, hcd, hD, hK⟩ := F.ex
  rcases hD with ⟨_, rfl⟩ | ⟨e, _⟩
  · exact ⟨_, ⟨fun s us ws X l1 l2 => .of_eq (h kV doc pm an cdv ct us ws l1 l2), fun r1 r2 => srL_rel r1 .nil r2 sr⟩⟩
  · exact absurd rfl e
end
theorem DefT.plain {d : DefY} {dz : DefZ} {N : List Str} (S : FnScope N dz.ps d.scope) (hd : d.dfl = []) (hf : dz.fills = [(dz.ps.length, [])]) (hk : dz.kws = [])
    (hb : ∀ (kV doc pm : Value) (an : Option Addr) (cdv ct : Value) (us : List Value), us.length = dz.ps.length → bindArgs (PySem.W.fnOf d.name d.qual d.params d.body d.scope .none kV doc pm an cdv ct) ⟨us, []⟩ = pure (dz.ps.zip us)) : DefT d dz N := by
  refine ⟨S, fun K f fd F n ds hm => ?_, fun K f fd F n ks sr hm => ?_⟩
  · rw [hf] at hm
    simp only [List.mem_cons, List.not_mem_nil, or_false, Prod.mk.injEq] at hm
    obtain ⟨rfl, rfl⟩ := hm
    have e : d.dvs K = [] := by unfold DefY.dvs; rw [hd]; rfl
    rw [e] at F
    exact fl_of (dvs := []) rfl (fun _ _ _ _ => .nil) ⟨[], .nil, F.bindsN hb⟩
  · rw [hk] at hm
    cases hm
/-! ## what the module's names reach -/
inductive NT where
  | e | b (o : Bool) (l r : NT)
def NT.has : NT → Nat → Bool
  | .e, _ => false
  | .b o l r, i => match i with
    | 0 => o
    | j + 1 => match j % 2 with
      | 0 => l.has (j / 2)
      | _ => r.has (j / 2)
def NT.ins : Nat → NT → Nat → NT
  | 0, t, _ => t
  | f + 1, t, i => match t with
    | .e => (match i with
      | 0 => .b true .e .e
      | j + 1 => (match j % 2 with
        | 0 => .b false (NT.ins f .e (j / 2)) .e
        | _ => .b false .e (NT.ins f .e (j / 2))))
    | .b o l r => (match i with
      | 0 => .b true l r
      | j + 1 => (match j % 2 with
        | 0 => .b o (NT.ins f l (j / 2)) r
        | _ => .b o l (NT.ins f r (j / 2))))
/-- the new ones of some addresses -/
def newA : List Addr → NT → List Addr → NT × List Addr
  | [], t, acc => (t, acc)
  | a :: r, t, acc => match t.has a with
    | true => newA r t acc
    | false => newA r (NT.ins 64 t a) (a :: acc)
def layA (g : Addr → Option Obj) : List Addr → NT → List Addr → NT × List Addr
  | [], t, acc => (t, acc)
  | a :: r, t, acc => match g a with
    | some o => (match newA (He.refsD o) t acc with
      | (t1, acc1) => layA g r t1 acc1)
    | none => layA g r t acc
def asZ (g : Addr → Option Obj) : Nat → List Addr → NT → List Addr → List Addr
  | 0, l, _, acc => acc ++ l
  | n + 1, l, t, acc => match layA g l t [] with
    | (t1, l1) => asZ g n l1 t1 (acc ++ l)
def asZ0 (g : Addr → Option Obj) (n : Nat) : List Addr := asZ g n [mainGlobals] (NT.ins 64 .e mainGlobals) []
/-! ## the Hook -/
abbrev AlZ : Type := Bool × List He.FnW
def obsZ (L : Lay) (K : PySem.W.Frag) : AlZ := (chkLay L K && L.fns.all fun d => d.ok K, L.fns.map fun d => fnY K (wAd K d.at_))
def valZ (L : Lay) : AlZ := (true, L.fns.map DefY.val)
def obsZG (n : Nat) (L : Lay) (g : Addr → Option Obj) : AlZ := obsZ L (He.frG g (asZ0 g n))
def hookZ (n : Nat) (L : Lay) : PySem.W.Hook where
  α := AlZ
  obs := fun s => obsZG n L s.heap.get?
  val := fun _ => valZ L
  says := fun _ h => ∃ K : PySem.W.Frag, K.In h ∧ obsZ L K = valZ L
  of := fun _ _ e => ⟨_, He.frG_in, e⟩
  keeps := fun _ _ _ ⟨K, hK, c⟩ k => ⟨K, PySem.W.Frag.In.keeps hK k, c⟩
theorem obsZG_eq {n : Nat} {L : Lay} {g : Addr → Option Obj} {s : Shared} (h : ∀ a, g a = s.heap.get? a) : obsZG n L g = (hookZ n L).obs s := by
  have e : g = s.heap.get? := funext h
  rw [e] <;> rfl
section
variable {K : PySem.W.Frag} {L : Lay}
theorem saysZ_chk (c : obsZ L K = valZ L) : chkLay L K = true := (He.ba (show (chkLay L K && L.fns.all fun d => d.ok K) = true from congrArg (fun z : AlZ => z.1) c)).1
theorem saysZ_def (c : obsZ L K = valZ L) (k : Nat) (d : DefY) (h : L.fns[k]? = some d) : ∃ fd, FunD K d.name d.qual d.params d.body d.scope (d.dvs K) (d.kws K) (wAd K d.at_) fd := by
  have c2 := (He.ba (show (chkLay L K && L.fns.all fun d => d.ok K) = true from congrArg (fun z : AlZ => z.1) c)).2
  have e : L.fns.map (fun d => fnY K (wAd K d.at_)) = L.fns.map DefY.val := congrArg (fun z : AlZ => z.2) c
  have e2 : (L.fns.map fun d => fnY K (wAd K d.at_))[k]? = (L.fns.map DefY.val)[k]? := by rw [e]
  rw [List.getElem?_map, List.getElem?_map, h] at e2
  exact DefY.funD (Option.some.inj e2) (List.all_eq_true.mp c2 d (List.mem_of_getElem? h))
end
end Z
end
section
/-! Z36: the defs' combinators, written out, by number. -/
namespace Z
open PySem PySem.Spec PyProof.Rows L2
inductive TB (α : Type) where
  | e | b (o : Option α) (l r : TB α)
section
variable {α : Type}
def TB.get : TB α → Nat → Option α
  | .e, _ => none
  | .b o l r, i => match i with
    | 0 => o
    | j + 1 => match j % 2 with
      | 0 => l.get (j / 2)
      | _ => r.get (j / 2)
/-- every other item -/
def evens : List α → List α
  | [] => []
  | a :: r => match r with
    | [] => [a]
    | _ :: t => a :: evens t
def odds : List α → List α
  | [] => []
  | _ :: r => match r with
    | [] => []
    | b :: t => b :: odds t
def TB.ofL : Nat → List α → TB α
  | 0, _ => .e
  | n + 1, l => match l with
    | [] => .e
    | a :: r => .b (some a) (TB.ofL n (evens r)) (TB.ofL n (odds r))
theorem evens_at : ∀ (l : List α) (j : Nat), (evens l)[j]? = l[2 * j]?
  | [], j => by simp [evens]
  | [a], 0 => by simp [evens]
  | [a], j + 1 => by simp [evens]
  | a :: b :: t, 0 => by simp [evens]
  | a :: b :: t, j + 1 => by
    have e : evens (a :: b :: t) = a :: evens t := by rw [evens]
    rw [e, List.getElem?_cons_succ, evens_at t j, show 2 * (j + 1) = 2 * j + 1 + 1 by omega, List.getElem?_cons_succ, List.getElem?_cons_succ]
theorem odds_at : ∀ (l : List α) (j : Nat), (odds l)[j]? = l[2 * j + 1]?
  | [], j => by simp [odds]
  | [a], j => by simp [odds]
  | a :: b :: t, 0 => by simp [odds]
  | a :: b :: t, j + 1 => by
    have e : odds (a :: b :: t) = b :: odds t := by rw [odds]
    rw [e, List.getElem?_cons_succ, odds_at t j, show 2 * (j + 1) + 1 = 2 * j + 1 + 1 + 1 by omega, List.getElem?_cons_succ, List.getElem?_cons_succ]
theorem evens_len : ∀ l : List α, (evens l).length ≤ l.length
  | [] => by simp [evens]
  | [a] => by simp [evens]
  | a :: b :: t => by
    have e : evens (a :: b :: t) = a :: evens t := by rw [evens]
    have := evens_len t
    rw [e]; simp; omega
theorem odds_len : ∀ l : List α, (odds l).length ≤ l.length
  | [] => by simp [odds]
  | [a] => by simp [odds]
  | a :: b :: t => by
    have e : odds (a :: b :: t) = b :: odds t := by rw [odds]
    have := odds_len t
    rw [e]; simp; omega
theorem TB.get_e (i : Nat) : TB.get (.e : TB α) i = none := by unfold TB.get; rfl
theorem ofL_get : ∀ (n : Nat) (l : List α) (i : Nat), l.length ≤ n → (TB.ofL n l).get i = l[i]?
  | 0, l, i, h => by
    have : l = [] := List.length_eq_zero_iff.mp (by omega)
    subst this
    exact (TB.get_e i).trans (by simp)
  | n + 1, [], i, h => (TB.get_e i).trans (by simp)
  | n + 1, a :: r, i, h => by
    have hr : r.length ≤ n := by simpa using h
    show TB.get (.b (some a) (TB.ofL n (evens r)) (TB.ofL n (odds r))) i = _
    cases i with
    | zero => unfold TB.get; rfl
    | succ j =>
      unfold TB.get
      by_cases q : j % 2 = 0
      · simp only [q]
        rw [ofL_get n (evens r) (j / 2) (by have := evens_len r; omega), evens_at, List.getElem?_cons_succ, show 2 * (j / 2) = j by omega]
      · have q1 : j % 2 = 1 := by omega
        simp only [q1]
        rw [ofL_get n (odds r) (j / 2) (by have := odds_len r; omega), odds_at, List.getElem?_cons_succ, show 2 * (j / 2) + 1 = j by omega]
end
/-- a def's slots and combinators -/
abbrev BodZ := List Str × SV
def stepP (t : Calls → TB BodZ) (cl : Calls) : Calls := fun k as A => match (t cl).get k with
  | some p => runB p.1 p.2 as A
  | none => .bad
def callsP (t : Calls → TB BodZ) : Nat → Calls
  | 0 => fun _ _ _ => .bad
  | d + 1 => stepP t (callsP t d)
theorem callsP_eq {D : Desc} {G : Globs} {n m : Nat} {codes : List CodeZ} {t : Calls → TB BodZ} {l : Calls → List BodZ} (ht : ∀ cl, t cl = TB.ofL m (l cl)) (hm : ∀ cl, (l cl).length ≤ m)
    (hl : ∀ cl, (codes.map fun c => (c.N, bodyZ D G cl n c.N c.sc c.body)) = l cl) : ∀ d, callsAt D G n codes d = callsP t d
  | 0 => rfl
  | d + 1 => by
    funext k as A
    show (match codes[k]? with | some c => runB c.N (bodyZ D G (callsAt D G n codes d) n c.N c.sc c.body) as A | none => .bad) = (match (t (callsP t d)).get k with | some p => runB p.1 p.2 as A | none => .bad)
    rw [callsP_eq ht hm hl d, ht, ofL_get _ _ _ (hm _), ← hl, List.getElem?_map]
    cases codes[k]? <;> rfl
end Z
end
section
/-! Z37: the end of a law. -/
namespace Z
open PySem PySem.Spec PyProof.Rows L2
/-- the script as it comes -/
def scr (ns : List Int) : AV := .fz (AV.tup (ns.map AV.int))
def isTrue (r : RE) : Bool := match r with
  | .ok (.bl true) _ => true
  | _ => false
theorem tup_ints {T : Tbl} {K : PySem.W.Frag} {f : Nat → Addr} {n : Nat} {H : Hp} : ∀ ns : List Int, RVt T K f n H (AV.tup (ns.map AV.int)) (ns.map V.int)
  | [] => rfl
  | i :: r => ⟨.int i, r.map V.int, rfl, rfl, tup_ints r⟩
theorem spec_of {T : Tbl} {K : PySem.W.Frag} {cl : Calls} {k n : Nat} (h : ∀ ns : List Int, ns.length ≤ n → isTrue (cl k [scr ns] ⟨0, .e⟩) = true) (H : Hp) (a : Addr) (ns : List Int) (hl : ns.length ≤ n) (hO : Only H) (hS : SqL K H a (ns.map V.int)) :
    spI T K cl k 1 [.ref a] H (fun v _ => v = .bl true) fun _ _ _ => False := by
  have fz : FzL K H a (ns.map V.int) := by
    rcases hS with e | e
    · rcases e with e | ⟨o, e⟩
      · rcases hO a with q | ⟨o, xs, q⟩
        · rw [q] at e; cases e
        · rw [q] at e; cases e
      · exact .inl ⟨o, e⟩
    · exact .inr (.inr e)
  refine ⟨fun _ => 0, ⟨0, .e⟩, [scr ns], ⟨fun i o e => ?_, fun i j o o' e => ?_, fun i l e => ?_⟩, .cons ⟨a, _, rfl, fz, tup_ints ns⟩ .nil, rfl, ?_⟩
  · rw [show AH.get ⟨0, .e⟩ i = none from get_e i] at e; cases e
  · rw [show AH.get ⟨0, .e⟩ i = none from get_e i] at e; cases e
  · unfold AH.lkAt at e
    rw [show AH.get ⟨0, .e⟩ i = none from get_e i] at e; cases e
  · have q := h ns hl
    unfold isTrue at q
    split at q
    · rename_i A e
      rw [e]
      exact fun f' H' u st r => r
    · cases q
theorem nm_of {l : List Str} (h : l.take 12 = dunN) (i : Nat) (x : Str) (e : dunN[i]? = some x) : l[i]? = some x := by
  rw [← h, List.getElem?_take] at e
  split at e
  · exact e
  · cases e
/-- all defs' texts are as told -/
def AllT : List DefY → List DefZ → List (List Str) → Prop
  | [], [], [] => True
  | d :: ds, z :: zs, N :: Ns => DefT d z N ∧ AllT ds zs Ns
  | _, _, _ => False
theorem AllT.at : ∀ {ds : List DefY} {zs : List DefZ} {Ns : List (List Str)}, AllT ds zs Ns → ∀ (k : Nat) (d : DefY) (dz : DefZ) (N : List Str), ds[k]? = some d → zs[k]? = some dz → Ns[k]? = some N → DefT d dz N
  | [], [], [], _, k, d, dz, N, h, _, _ => by cases h
  | _ :: ds, _ :: zs, _ :: Ns, ⟨h, t⟩, 0, d, dz, N, e1, e2, e3 => by cases e1; cases e2; cases e3; exact h
  | _ :: ds, _ :: zs, _ :: Ns, ⟨h, t⟩, k + 1, d, dz, N, e1, e2, e3 => AllT.at t k d dz N e1 e2 e3
theorem law_facts {P : Program} {w : World} {K : PySem.W.Frag} {h : Heap} {mg : Str → Option Value} {f : Addr} {L : Lay} {n d k : Nat} {dl : DefY} {dz : DefZ} {N : List Str} {x : Str} (X : K.In h) (G : h.Ns mainGlobals mg) (hfa : mg ("law" : Str) = some (.ref f)) (c : obsZ L K = valZ L)
    (t : Txt L) (td : AllT L.fns L.D.defs L.Ns) (e1 : L.fns[k]? = some dl) (e2 : L.D.defs[k]? = some dz) (e3 : L.Ns[k]? = some N) (hg : L.G.fns.lookup ("law" : Str) = some k) (hp : dz.ps = [x]) (h0 : dl.dfl = []) (h1 : dl.kwd = [])
    (hb : ∀ (kV doc pm : Value) (an : Option Addr) (cdv ct : Value) (us : List Value), us.length = 1 → bindArgs (PySem.W.fnOf dl.name dl.qual dl.params dl.body dl.scope .none kV doc pm an cdv ct) ⟨us, []⟩ = pure ([x].zip us)) :
    ∃ fd : FuncData, (∀ (s : Shared) (v : Value), BindsTo s fd ⟨[v], []⟩ [(x, v)]) ∧ ∀ base : Heap, K.In base → base.Ns mainGlobals mg → FnOk P w K mg base (L2.CX P w) (2 * d + 2) f fd [x] (spI (L.T K) K (callsAt L.D L.G n L.codes (d + 1)) k 1) := by
  have St := stat_of X G (saysZ_chk c) (saysZ_def c) t td.at
  obtain ⟨fd, F⟩ := saysZ_def c k dl e1
  have ef : f = (L.T K).fa k := by
    have := St.go.gf "law" k hg
    rw [hfa] at this
    cases this
    rfl
  have efa : (L.T K).fa k = wAd K dl.at_ := by show (match L.fns[k]? with | some d => wAd K d.at_ | none => 0) = _; rw [e1]
  have ed : dl.dvs K = [] := by unfold DefY.dvs; rw [h0]; rfl
  rw [ed] at F
  have b := FunD.bindsA (ps := [x]) F hb
  refine ⟨fd, fun s v => b s [v] rfl, fun base _ _ => ?_⟩
  obtain ⟨oc, od, dV, kV, doc, pm, an, cdv, ct, osl, efd, lk, hcd, _, _⟩ := F.ex
  subst efd
  have S := (td.at k dl dz N e1 e2 e3).S
  rw [hp] at S
  rw [ef]
  refine def_ok (lv := 2 * d) (facts_at St n d) St.go n (by rw [efa]; exact lk) hcd S fun as A => ?_
  show (match L.codes[k]? with | some c => runB c.N (bodyZ L.D L.G (callsAt L.D L.G n L.codes d) n c.N c.sc c.body) as A | none => .bad) = _
  have : L.codes[k]? = some ⟨N, dl.scope, dl.body⟩ := by
    unfold Lay.codes
    rw [List.getElem?_map, (show (L.Ns.zip L.fns)[k]? = some (N, dl) from List.getElem?_zip_eq_some.mpr ⟨e3, e1⟩)]
    rfl
  rw [this]
theorem walk_ofZ {l : PySem.W.OpenLaw} {n k : Nat} {q : Program} {loose : List Str} {XP : (Str → Option Value) → Heap → Prop} {YP : World → Heap → Prop} {d : DefRec} {x : Str}
    (hn : l.most = some n) (hn2 : n ≤ sizeLine) (hdf : d.params.defaults = []) (hr : Room k callerA)
    (F : ∀ (w : World) (mg : Str → Option Value) (fa : Addr) (h : Heap), YP w h → h.Ns mainGlobals mg → mg d.name = some (.ref fa) →
      ∃ (K : PySem.W.Frag) (fd : FuncData) (sp : Sp), K.In h ∧ (∀ (s : Shared) (u : Value), BindsTo s fd ⟨[u], []⟩ [(x, u)]) ∧
        (∀ (H : Hp) (a : Addr) (ns : List Int), ns.length ≤ n → Only H → SqL K H a (ns.map V.int) → sp [.ref a] H (fun v _ => v = .bl true) fun _ _ _ => False) ∧
        ∀ base : Heap, K.In base → base.Ns mainGlobals mg → FnOk l.prog w K mg base (L2.CX l.prog w) k fa fd [x] sp) :
    PySem.W.WalkO q loose XP YP l.row.toRowW d [] (fun f vs => PySem.call f vs) := by
  refine Att.attach_call hn hdf fun w s₀ s₁ mg mb fa o pm cd doc a vs ns G Y ho hd hcd hmg hobj hints hlen hg => ?_
  obtain ⟨K, fd, sp, KX, hb, hsp, hF⟩ := F w mg fa _ Y G.T.g hmg
  refine law_call KX G.T.g G.T.b G.T.builtins G.T.nolimit hg hobj hints (Nat.le_trans hlen hn2) hr hF hb (fun H hO hS => hsp H a ns hlen hO hS) fun H e s' h => ?_
  obtain ⟨_, _, _, _, _, _, _, _, _, _, _, _, z⟩ := h
  exact z
end Z
end
section
/-! Z40: evaluation by equations: every step's frame has a name, no step stands under a binder. -/
namespace ZV
open PySem PySem.Spec PyProof.Rows L2 Z
/-! ## names for the printed forms -/
def eCallF (q : List AV → AH → RE) (l : Sl → AH → RL) : EV := fun s A => (l s A).bd q
def eDct0 : EV := fun _ A => mkDct [] A
def pNeg (D : Desc) (cl : Calls) : AV → AH → RE := fun v A => orE (pNegI v A) fun _ => pNegO D cl v A
def pRg1 : AV → AH → RE := fun v A => pRgL (.int 0) v A
def pIx (D : Desc) (cl : Calls) : AV → AV → AH → RE := alt2 (pItem D cl) pIxB
def opF (f : Int → Int → Int) (i : Nat) (te : EV) : SV := sAugI i f te
/-! ## frames of expressions -/
def fBin1 (r : RE) (p : AV → AV → AH → RE) (b : EV) (s : Sl) : RE := r.bd fun x A1 => (b s A1).bd fun y A2 => p x y A2
def fBin2 (r : RE) (p : AV → AV → AH → RE) (x : AV) : RE := r.bd fun y A2 => p x y A2
def fUn (r : RE) (p : AV → AH → RE) : RE := r.bd fun x A1 => p x A1
def fAnd (r : RE) (b : EV) (s : Sl) : RE := bnd r fun c A1 => match c with
  | true => b s A1
  | false => .ok (.bl false) A1
def fOr (r : RE) (b : EV) (s : Sl) : RE := bnd r fun c A1 => match c with
  | true => .ok (.bl true) A1
  | false => b s A1
def fNot (r : RE) : RE := bnd r fun c A1 => .ok (.bl (!c)) A1
def fIfE (r : RE) (a b : EV) (s : Sl) : RE := bnd r fun c A1 => match c with
  | true => a s A1
  | false => b s A1
def fCons1 (r : RE) (l : Sl → AH → RL) (s : Sl) : RL := r.bl fun v A1 => match l s A1 with
  | .ok vs A2 => .ok (v :: vs) A2
  | r => r
def fCons2 (r : RL) (v : AV) : RL := match r with
  | .ok vs A2 => .ok (v :: vs) A2
  | r => r
def fStar1 (r : RE) (l : Sl → AH → RL) (s : Sl) : RL := r.bl fun v A1 => match seqL v A1 with
  | some (_, xs) => (match l s A1 with
    | .ok vs A2 => .ok (xs ++ vs) A2
    | r => r)
  | none => .bad
def fStar2 (o : Option (Bool × List AV)) (l : Sl → AH → RL) (s : Sl) (A1 : AH) : RL := match o with
  | some (_, xs) => (match l s A1 with
    | .ok vs A2 => .ok (xs ++ vs) A2
    | r => r)
  | none => .bad
def fStar3 (r : RL) (xs : List AV) : RL := match r with
  | .ok vs A2 => .ok (xs ++ vs) A2
  | r => r
def fTup (r : RL) : RE := r.bd fun vs A1 => mkTup vs A1
def fLst (r : RL) : RE := r.bd fun vs A1 => mkLst vs A1
def fCall (r : RL) (q : List AV → AH → RE) : RE := r.bd q
def fKw1 (r : RL) (q : List AV → List AV → AH → RE) (lk : Sl → AH → RL) (s : Sl) : RE := r.bd fun vs A1 => (lk s A1).bd fun zs A2 => q vs zs A2
def fKw2 (r : RL) (q : List AV → List AV → AH → RE) (vs : List AV) : RE := r.bd fun zs A2 => q vs zs A2
def fMeth1 (D : Desc) (cl : Calls) (r : RE) (a : Nat) (l : Sl → AH → RL) (s : Sl) : RE := r.bd fun v A1 => match methOf D a v A1 with
  | some k => (l s A1).bd fun vs A2 => callK D cl k (v :: vs) A2
  | none => .bad
def fMeth2 (D : Desc) (cl : Calls) (o : Option Nat) (v : AV) (l : Sl → AH → RL) (s : Sl) (A1 : AH) : RE := match o with
  | some k => (l s A1).bd fun vs A2 => callK D cl k (v :: vs) A2
  | none => .bad
def fMeth3 (D : Desc) (cl : Calls) (r : RL) (k : Nat) (v : AV) : RE := r.bd fun vs A2 => callK D cl k (v :: vs) A2
def fMethK1 (D : Desc) (cl : Calls) (r : RE) (a : Nat) (ks : List Str) (l : Sl → AH → RL) (s : Sl) : RE := r.bd fun v A1 => match methOf D a v A1 with
  | some k => (l s A1).bd fun zs A2 => callKw D cl k ks [v] zs A2
  | none => .bad
def fMethK2 (D : Desc) (cl : Calls) (o : Option Nat) (ks : List Str) (v : AV) (l : Sl → AH → RL) (s : Sl) (A1 : AH) : RE := match o with
  | some k => (l s A1).bd fun zs A2 => callKw D cl k ks [v] zs A2
  | none => .bad
def fMethK3 (D : Desc) (cl : Calls) (r : RL) (k : Nat) (ks : List Str) (v : AV) : RE := r.bd fun zs A2 => callKw D cl k ks [v] zs A2
def fBM1 (r : RE) (ty : AV → AH → Bool) (p : AV → List AV → AH → RE) (l : Sl → AH → RL) (s : Sl) : RE := r.bd fun v A1 => guard (ty v A1) ((l s A1).bd fun vs A2 => p v vs A2)
def fBM2 (g : Bool) (p : AV → List AV → AH → RE) (v : AV) (l : Sl → AH → RL) (s : Sl) (A1 : AH) : RE := guard g ((l s A1).bd fun vs A2 => p v vs A2)
def fBM3 (r : RL) (p : AV → List AV → AH → RE) (v : AV) : RE := r.bd fun vs A2 => p v vs A2
def fCallO1 (D : Desc) (cl : Calls) (r : RE) (l : Sl → AH → RL) (s : Sl) : RE := r.bd fun v A1 => guard (isRef v) ((l s A1).bd fun vs A2 => pCallO D cl v vs A2)
def fCallO2 (D : Desc) (cl : Calls) (r : RL) (v : AV) : RE := r.bd fun vs A2 => pCallO D cl v vs A2
def fSl1 (r : RE) (l h : Option EV) (s : Sl) : RE := r.bd fun v A1 => ePart l s A1 fun lo A2 => ePart h s A2 fun hi A3 => pSlice lo hi v A3
def fSl2 (l h : Option EV) (s : Sl) (v : AV) (A1 : AH) : RE := ePart l s A1 fun lo A2 => ePart h s A2 fun hi A3 => pSlice lo hi v A3
def fSl3 (r : RE) (h : Option EV) (s : Sl) (v : AV) : RE := r.bd fun w A1 => match w with
  | .int i => ePart h s A1 fun hi A3 => pSlice (some i) hi v A3
  | _ => .bad
def fSl4 (lo : Option Int) (h : Option EV) (s : Sl) (v : AV) (A1 : AH) : RE := ePart h s A1 fun hi A3 => pSlice lo hi v A3
def fSl5 (r : RE) (lo : Option Int) (v : AV) : RE := r.bd fun w A1 => match w with
  | .int i => pSlice lo (some i) v A1
  | _ => .bad
def fChain1 (r : RE) (p p' : AV → AV → AH → RE) (b c : EV) (s : Sl) : RE := r.bd fun x A1 => (b s A1).bd fun y A2 => bnd (p x y A2) fun k A3 => match k with
  | true => (c s A3).bd fun z A4 => p' y z A4
  | false => .ok (.bl false) A3
def fChain2 (r : RE) (p p' : AV → AV → AH → RE) (c : EV) (s : Sl) (x : AV) : RE := r.bd fun y A2 => bnd (p x y A2) fun k A3 => match k with
  | true => (c s A3).bd fun z A4 => p' y z A4
  | false => .ok (.bl false) A3
def fChain3 (r : RE) (p' : AV → AV → AH → RE) (c : EV) (s : Sl) (y : AV) : RE := bnd r fun k A3 => match k with
  | true => (c s A3).bd fun z A4 => p' y z A4
  | false => .ok (.bl false) A3
def vget (o : Option (Option AV)) (A : AH) : RE := match o with
  | some (some v) => .ok v A
  | _ => .bad
/-! ## frames of statements -/
def fSeq (r : RS) (b : SV) : RS := r.bd b
def fExpr (r : RE) (s : Sl) : RS := r.bs s fun _ A1 => .nx s A1
def fRet (r : RE) (s : Sl) : RS := r.bs s fun v A1 => .rt v A1
def fIf (r : RE) (a b : SV) (s : Sl) : RS := (bnd r fun b A1 => .ok (.bl b) A1).bs s fun v A1 => match v with
  | .bl true => a s A1
  | _ => b s A1
def fAsg (r : RE) (g : GV) (s : Sl) : RS := r.bs s fun v A1 => nxOnly (g v s A1)
def fFld1 (D : Desc) (r : RE) (a : Nat) (to : EV) (s : Sl) : RS := r.bs s fun v A1 => (to s A1).bs s fun o A2 => match pStore D a o v A2 with
  | some A3 => .nx s A3
  | none => .bad
def fFld2 (D : Desc) (r : RE) (a : Nat) (v : AV) (s : Sl) : RS := r.bs s fun o A2 => match pStore D a o v A2 with
  | some A3 => .nx s A3
  | none => .bad
def fStored (o : Option AH) (s : Sl) : RS := match o with
  | some A3 => .nx s A3
  | none => .bad
def fSet1 (r : RE) (to ti : EV) (s : Sl) : RS := r.bs s fun v A1 => (to s A1).bs s fun o A2 => (ti s A2).bs s fun k A3 => match pSetI o k v A3 with
  | some A4 => .nx s A4
  | none => .bad
def fSet2 (r : RE) (v : AV) (ti : EV) (s : Sl) : RS := r.bs s fun o A2 => (ti s A2).bs s fun k A3 => match pSetI o k v A3 with
  | some A4 => .nx s A4
  | none => .bad
def fSet3 (r : RE) (v o : AV) (s : Sl) : RS := r.bs s fun k A3 => match pSetI o k v A3 with
  | some A4 => .nx s A4
  | none => .bad
def fPar (r : RL) (is : List Nat) (s : Sl) : RS := r.bs s fun vs A1 => sPar.go is vs s A1
def fAug1 (o : Option (Option AV)) (i : Nat) (fo : Int → Int → Int) (te : EV) (s : Sl) (A : AH) : RS := match o with
  | some (some v) => (te s A).bs s fun w A1 => (match v with
    | .int a => (match w with
      | .int b => .nx (s.set i (some (.int (fo a b)))) A1
      | _ => .bad)
    | _ => .bad)
  | _ => .bad
def fAug2 (r : RE) (i : Nat) (fo : Int → Int → Int) (a : Int) (s : Sl) : RS := r.bs s fun w A1 => match w with
  | .int b => .nx (s.set i (some (.int (fo a b)))) A1
  | _ => .bad
def fMatch (r : RE) (m : MV) (s : Sl) : RS := r.bs s fun v A1 => m v s A1
def fArm (r : RE) (b : SV) (m : MV) (v : AV) (s : Sl) : RS := r.bs s fun c A1 => match c with
  | .bl c => (match c with
    | true => b s A1
    | false => m v s A1)
  | _ => .bad
def fPv (r : RE) (p : AV → AV → AH → RE) (v : AV) : RE := r.bd fun w A1 => p v w A1
def fTry (r : RS) (xm : Nat → Nat → Option Bool) (hs : List (Nat × SV)) : RS := match r with
  | .ex c fs s1 A1 => hands xm hs c fs s1 A1
  | r => r
def fMk (r : RE) (v : AV) : RE := back r v
def fMix (o : Option (Bool × List AV)) (gs : List GV) (s : Sl) (A : AH) : RS := match o with
  | some (_, xs) => appG gs xs s A
  | none => .bad
def fApp (r : RS) (gs : List GV) (vs : List AV) : RS := match r with
  | .nx s1 A1 => appG gs vs s1 A1
  | _ => .bad
def fGFld (D : Desc) (r : RE) (a : Nat) (v : AV) (s : Sl) : RS := match r with
  | .ok ov A2 => (match pStore D a ov v A2 with
    | some A3 => .nx s A3
    | none => .bad)
  | _ => .bad
def fGPut1 (r : RE) (ti : EV) (v : AV) (s : Sl) : RS := match r with
  | .ok ov A2 => (match ti s A2 with
    | .ok kv A3 => (match pSetI ov kv v A3 with
      | some A4 => .nx s A4
      | none => .bad)
    | _ => .bad)
  | _ => .bad
def fGPut2 (r : RE) (ov v : AV) (s : Sl) : RS := match r with
  | .ok kv A3 => (match pSetI ov kv v A3 with
    | some A4 => .nx s A4
    | none => .bad)
  | _ => .bad
/-! ## attributes, methods, dicts by the object's entry -/
def fAttr1 (D : Desc) (cl : Calls) (a i : Nat) (o : Option AO) (A : AH) : RE := match o with
  | some (.ins c fs) => (match attrOf D c a with
      | some .fld => (match nlook a fs with
        | some w => .ok w A
        | none => .bad)
      | some (.con w) => (match nlook a fs with
        | some _ => .bad
        | none => .ok w A)
      | some (.prop k) => (match callK D cl k [.ref i] A with
        | .ok w A1 => .ok w A1
        | _ => .bad)
      | _ => .bad)
  | _ => .bad
def fAttr2 (D : Desc) (cl : Calls) (a i : Nat) (fs : List (Nat × AV)) (t : Option Attr) (A : AH) : RE := match t with
      | some .fld => (match nlook a fs with
        | some w => .ok w A
        | none => .bad)
      | some (.con w) => (match nlook a fs with
        | some _ => .bad
        | none => .ok w A)
      | some (.prop k) => (match callK D cl k [.ref i] A with
        | .ok w A1 => .ok w A1
        | _ => .bad)
      | _ => .bad
def fAttrF (o : Option AV) (A : AH) : RE := match o with
  | some w => .ok w A
  | none => .bad
def fAttrC (o : Option AV) (w : AV) (A : AH) : RE := match o with
  | some _ => .bad
  | none => .ok w A
def fAttrP (r : RE) : RE := match r with
  | .ok w A1 => .ok w A1
  | _ => .bad
def mOf1 (D : Desc) (a : Nat) (o : Option AO) : Option Nat := match o with
  | some (.ins c fs) => (match attrOf D c a with
    | some (.meth k) => (match nlook a fs with
      | some _ => none
      | none => some k)
    | _ => none)
  | _ => none
def mOf2 (a : Nat) (t : Option Attr) (fs : List (Nat × AV)) : Option Nat := match t with
  | some (.meth k) => (match nlook a fs with
    | some _ => none
    | none => some k)
  | _ => none
def mOf3 (k : Nat) (o : Option AV) : Option Nat := match o with
  | some _ => none
  | none => some k
def mAt1 (D : Desc) (a : Nat) (o : Option AO) : Option Nat := match o with
  | some (.ins c _) => (match attrOf D c a with
    | some (.meth k) => some k
    | _ => none)
  | _ => none
def mAt2 (t : Option Attr) : Option Nat := match t with
  | some (.meth k) => some k
  | _ => none
def sto1 (D : Desc) (a i : Nat) (v : AV) (o : Option AO) (A : AH) : Option AH := match o with
  | some (.ins c fs) => (match attrOf D c a with
      | some .fld => (match Nat.blt fs.length 1000 with
        | true => some (A.set i (.ins c (putN a v fs)))
        | false => none)
      | _ => none)
  | _ => none
def sto2 (c a i : Nat) (v : AV) (fs : List (Nat × AV)) (t : Option Attr) (A : AH) : Option AH := match t with
      | some .fld => (match Nat.blt fs.length 1000 with
        | true => some (A.set i (.ins c (putN a v fs)))
        | false => none)
      | _ => none
def sto3 (b : Bool) (A : AH) : Option AH := match b with
  | true => some A
  | false => none
def seqR (o : Option AO) : Option (Bool × List AV) := match o with
  | some (.lst xs) => some (true, xs)
  | _ => none
def clsR (o : Option AO) : Option Nat := match o with
  | some (.ins c _) => some c
  | _ => none
def tagR (o : Option AO) : Option Nat := match o with
  | some (.lst _) => some 4
  | some (.dct _ _ _) => some 6
  | some (.ins c _) => some (c + 7)
  | none => none
def dctR (o : Option AO) (k : AV) : Option (Option AV) := match o with
  | some (.dct t _ kvs) => (match keyFor t k with
    | true => some (dget kvs k)
    | false => none)
  | _ => none
def isiR (D : Desc) (u : Nat) (o : Option Nat) (A : AH) : RE := match o with
  | some t => (match nlook u D.isi with
    | some l => (match nlook t l with
      | some b => (match Nat.ble 7 t with
        | true => (match D.clss[t - 7]? with
          | some _ => .ok (.bl b) A
          | none => .bad)
        | false => .ok (.bl b) A)
      | none => .bad)
    | none => .bad)
  | none => .bad
def isLR (o : Option AO) : Bool := match o with
  | some (.lst _) => true
  | _ => false
def isDR (o : Option AO) : Bool := match o with
  | some (.dct _ _ _) => true
  | _ => false
section
variable {D : Desc} {cl : Calls} {p p' : AV → AV → AH → RE} {q : AV → AH → RE} {a b c : EV} {s : Sl} {A A1 : AH} {x y v w : AV} {l lk : Sl → AH → RL} {vs zs xs : List AV} {st st' : SV} {i j k : Int} {n : Nat} {g : GV}
/-! ## the steps -/
theorem z_bin : eBin p a b s A = fBin1 (a s A) p b s := rfl
theorem z_bin1 : fBin1 (.ok x A) p b s = fBin2 (b s A) p x := rfl
theorem z_bin2 : fBin2 (.ok y A) p x = p x y A := rfl
theorem z_un : eUn q a s A = fUn (a s A) q := rfl
theorem z_un1 : fUn (.ok x A) q = q x A := rfl
theorem z_c : eC v s A = .ok v A := rfl
theorem z_and : eAnd a b s A = fAnd (a s A) b s := rfl
theorem z_and1 : fAnd (.ok (.bl true) A) b s = b s A := rfl
theorem z_and0 : fAnd (.ok (.bl false) A) b s = .ok (.bl false) A := rfl
theorem z_or : eOr a b s A = fOr (a s A) b s := rfl
theorem z_or1 : fOr (.ok (.bl true) A) b s = .ok (.bl true) A := rfl
theorem z_or0 : fOr (.ok (.bl false) A) b s = b s A := rfl
theorem z_not : eNot a s A = fNot (a s A) := rfl
theorem z_not1 {t : Bool} : fNot (.ok (.bl t) A) = .ok (.bl (!t)) A := rfl
theorem z_ife : eIf c a b s A = fIfE (c s A) a b s := rfl
theorem z_ife1 : fIfE (.ok (.bl true) A) a b s = a s A := rfl
theorem z_ife0 : fIfE (.ok (.bl false) A) a b s = b s A := rfl
theorem z_lnil : lNil s A = .ok [] A := rfl
theorem z_lcons : lCons a l s A = fCons1 (a s A) l s := rfl
theorem z_lcons1 : fCons1 (.ok v A) l s = fCons2 (l s A) v := rfl
theorem z_lcons2 : fCons2 (.ok vs A) v = .ok (v :: vs) A := rfl
theorem z_lstar : lStar a l s A = fStar1 (a s A) l s := rfl
theorem z_lstar1 : fStar1 (.ok v A) l s = fStar2 (seqL v A) l s A := rfl
theorem z_lstar2 {t : Bool} : fStar2 (some (t, xs)) l s A = fStar3 (l s A) xs := rfl
theorem z_lstar3 : fStar3 (.ok vs A) xs = .ok (xs ++ vs) A := rfl
theorem z_tup : eTup l s A = fTup (l s A) := rfl
theorem z_tup1 : fTup (.ok vs A) = mkTup vs A := rfl
theorem z_lst : eLst l s A = fLst (l s A) := rfl
theorem z_lst1 : fLst (.ok vs A) = mkLst vs A := rfl
theorem z_callf {q : List AV → AH → RE} : eCallF q l s A = fCall (l s A) q := rfl
theorem z_callf1 {q : List AV → AH → RE} : fCall (.ok vs A) q = q vs A := rfl
theorem z_kw {q : List AV → List AV → AH → RE} : eKw q l lk s A = fKw1 (l s A) q lk s := rfl
theorem z_kw1 {q : List AV → List AV → AH → RE} : fKw1 (.ok vs A) q lk s = fKw2 (lk s A) q vs := rfl
theorem z_kw2 {q : List AV → List AV → AH → RE} : fKw2 (.ok zs A) q vs = q vs zs A := rfl
theorem z_meth {m : Nat} : eMeth D cl m a l s A = fMeth1 D cl (a s A) m l s := rfl
theorem z_meth1 {m : Nat} : fMeth1 D cl (.ok v A) m l s = fMeth2 D cl (methOf D m v A) v l s A := rfl
theorem z_meth2 {k : Nat} : fMeth2 D cl (some k) v l s A = fMeth3 D cl (l s A) k v := rfl
theorem z_meth3 {k : Nat} : fMeth3 D cl (.ok vs A) k v = callK D cl k (v :: vs) A := rfl
theorem z_methk {m : Nat} {ks : List Str} : eMethKw D cl m ks a l s A = fMethK1 D cl (a s A) m ks l s := rfl
theorem z_methk1 {m : Nat} {ks : List Str} : fMethK1 D cl (.ok v A) m ks l s = fMethK2 D cl (methOf D m v A) ks v l s A := rfl
theorem z_methk2 {k : Nat} {ks : List Str} : fMethK2 D cl (some k) ks v l s A = fMethK3 D cl (l s A) k ks v := rfl
theorem z_methk3 {k : Nat} {ks : List Str} : fMethK3 D cl (.ok zs A) k ks v = callKw D cl k ks [v] zs A := rfl
theorem z_bm {ty : AV → AH → Bool} {m : AV → List AV → AH → RE} : eBM ty m a l s A = fBM1 (a s A) ty m l s := rfl
theorem z_bm1 {ty : AV → AH → Bool} {m : AV → List AV → AH → RE} : fBM1 (.ok v A) ty m l s = fBM2 (ty v A) m v l s A := rfl
theorem z_bm2 {m : AV → List AV → AH → RE} : fBM2 true m v l s A = fBM3 (l s A) m v := rfl
theorem z_bm3 {m : AV → List AV → AH → RE} : fBM3 (.ok vs A) m v = m v vs A := rfl
theorem z_callo : eCallO D cl a l s A = fCallO1 D cl (a s A) l s := rfl
theorem z_callo1 {i : Nat} : fCallO1 D cl (.ok (.ref i) A) l s = fCallO2 D cl (l s A) (.ref i) := rfl
theorem z_callo2 : fCallO2 D cl (.ok vs A) v = pCallO D cl v vs A := rfl
theorem z_slice {lo hi : Option EV} : eSlice a lo hi s A = fSl1 (a s A) lo hi s := rfl
theorem z_slice1 {lo hi : Option EV} : fSl1 (.ok v A) lo hi s = fSl2 lo hi s v A := rfl
theorem z_slice2 {hi : Option EV} : fSl2 none hi s v A = fSl4 none hi s v A := rfl
theorem z_slice3 {hi : Option EV} : fSl2 (some b) hi s v A = fSl3 (b s A) hi s v := rfl
theorem z_slice4 {hi : Option EV} : fSl3 (.ok (.int i) A) hi s v = fSl4 (some i) hi s v A := rfl
theorem z_slice5 {lo : Option Int} : fSl4 lo none s v A = pSlice lo none v A := rfl
theorem z_slice6 {lo : Option Int} : fSl4 lo (some b) s v A = fSl5 (b s A) lo v := rfl
theorem z_slice7 {lo : Option Int} : fSl5 (.ok (.int i) A) lo v = pSlice lo (some i) v A := rfl
theorem z_chain : eChain p p' a b c s A = fChain1 (a s A) p p' b c s := rfl
theorem z_chain1 : fChain1 (.ok x A) p p' b c s = fChain2 (b s A) p p' c s x := rfl
theorem z_chain2 : fChain2 (.ok y A) p p' c s x = fChain3 (p x y A) p' c s y := rfl
theorem z_chain31 : fChain3 (.ok (.bl true) A) p' c s y = fBin2 (c s A) p' y := rfl
theorem z_chain30 : fChain3 (.ok (.bl false) A) p' c s y = .ok (.bl false) A := rfl
/-! statements -/
theorem z_seq : sSeq st st' s A = fSeq (st s A) st' := rfl
theorem z_seqn : fSeq (.nx s A) st = st s A := rfl
theorem z_seqr : fSeq (.rt v A) st = .rt v A := rfl
theorem z_seqb : fSeq (.bk s A) st = .bk s A := rfl
theorem z_seqc : fSeq (.ct s A) st = .ct s A := rfl
theorem z_skip : sSkip s A = .nx s A := rfl
theorem z_break : sBreak s A = .bk s A := rfl
theorem z_cont : sCont s A = .ct s A := rfl
theorem z_expr : sExpr a s A = fExpr (a s A) s := rfl
theorem z_expr1 : fExpr (.ok v A) s = .nx s A := rfl
theorem z_ret : sRet a s A = fRet (a s A) s := rfl
theorem z_ret1 : fRet (.ok v A) s = .rt v A := rfl
theorem z_if : sIf c st st' s A = fIf (c s A) st st' s := rfl
theorem z_if1 : fIf (.ok (.bl true) A) st st' s = st s A := rfl
theorem z_if0 : fIf (.ok (.bl false) A) st st' s = st' s A := rfl
theorem z_asg : sAsg a g s A = fAsg (a s A) g s := rfl
theorem z_asg1 : fAsg (.ok v A) g s = nxOnly (g v s A) := rfl
theorem z_nx : nxOnly (.nx s A) = .nx s A := rfl
theorem z_gvar {i : Nat} : gVar i v s A = .nx (s.set i (some v)) A := rfl
theorem z_gmix {gs : List GV} : gMix gs v s A = fMix (seqL v A) gs s A := rfl
theorem z_gmix1 {t : Bool} {gs : List GV} : fMix (some (t, xs)) gs s A = appG gs xs s A := rfl
theorem z_app0 : appG [] [] s A = .nx s A := rfl
theorem z_app {gs : List GV} : appG (g :: gs) (v :: vs) s A = fApp (g v s A) gs vs := by
  show (match g v s A with | .nx s1 A1 => appG gs vs s1 A1 | _ => .bad) = _
  unfold fApp
  cases g v s A <;> rfl
theorem z_app1 {gs : List GV} : fApp (.nx s A) gs vs = appG gs vs s A := rfl
theorem z_gfld {m : Nat} : gFld D m a v s A = fGFld D (a s A) m v s := rfl
theorem z_gfld1 {m : Nat} : fGFld D (.ok w A) m v s = fStored (pStore D m w v A) s := rfl
theorem z_gput : gPutZ a b v s A = fGPut1 (a s A) b v s := rfl
theorem z_gput1 : fGPut1 (.ok w A) b v s = fGPut2 (b s A) w v s := rfl
theorem z_gput2 : fGPut2 (.ok x A) w v s = fStored (pSetI w x v A) s := rfl
theorem z_fld {m : Nat} : sFldZ D m a b s A = fFld1 D (b s A) m a s := rfl
theorem z_fld1 {m : Nat} : fFld1 D (.ok v A) m a s = fFld2 D (a s A) m v s := rfl
theorem z_fld2 {m : Nat} : fFld2 D (.ok w A) m v s = fStored (pStore D m w v A) s := rfl
theorem z_stored : fStored (some A) s = .nx s A := rfl
theorem z_set : sSetZ a b c s A = fSet1 (c s A) a b s := rfl
theorem z_set1 : fSet1 (.ok v A) a b s = fSet2 (a s A) v b s := rfl
theorem z_set2 : fSet2 (.ok w A) v b s = fSet3 (b s A) v w s := rfl
theorem z_set3 : fSet3 (.ok x A) v w s = fStored (pSetI w x v A) s := rfl
theorem z_par {is : List Nat} : sPar is l s A = fPar (l s A) is s := rfl
theorem z_par1 {is : List Nat} : fPar (.ok vs A) is s = sPar.go is vs s A := rfl
theorem z_par0 : sPar.go [] [] s A = .nx s A := rfl
theorem z_parn {i : Nat} {is : List Nat} : sPar.go (i :: is) (v :: vs) s A = sPar.go is vs (s.set i (some v)) A := rfl
theorem z_aug {i : Nat} {f : Int → Int → Int} : sAugI i f a s A = fAug1 (s[i]?) i f a s A := rfl
theorem z_aug1 {m : Nat} {f : Int → Int → Int} : fAug1 (some (some (.int i))) m f a s A = fAug2 (a s A) m f i s := rfl
theorem z_aug2 {m : Nat} {f : Int → Int → Int} : fAug2 (.ok (.int j) A) m f i s = .nx (s.set m (some (.int (f i j)))) A := rfl
theorem z_match {m : MV} : sMatch a m s A = fMatch (a s A) m s := rfl
theorem z_match1 {m : MV} : fMatch (.ok v A) m s = m v s A := rfl
theorem z_mnil : mNil v s A = .nx s A := rfl
theorem z_many : mAny st v s A = st s A := rfl
theorem z_arm {m : MT} {r : MV} : mArm m st r v s A = fArm (m v s A) st r v s := rfl
theorem z_arm1 {r : MV} : fArm (.ok (.bl true) A) st r v s = st s A := rfl
theorem z_arm0 {r : MV} : fArm (.ok (.bl false) A) st r v s = r v s A := rfl
theorem z_pv : pvVal p a v s A = fPv (a s A) p v := rfl
theorem z_pv1 : fPv (.ok w A) p v = p v w A := rfl
theorem z_try {xm : Nat → Nat → Option Bool} {hs : List (Nat × SV)} : sTry xm st hs s A = fTry (st s A) xm hs := rfl
theorem z_tryr {xm : Nat → Nat → Option Bool} {hs : List (Nat × SV)} : fTry (.rt v A) xm hs = .rt v A := rfl
theorem z_tryn {xm : Nat → Nat → Option Bool} {hs : List (Nat × SV)} : fTry (.nx s A) xm hs = .nx s A := rfl
/-! defs -/
theorem z_run {N : List Str} {b : SV} {as : List AV} : runB N b as A = endE (b (startA N as) A) := rfl
theorem z_endr : endE (.rt v A) = .ok v A := rfl
theorem z_endn : endE (.nx s A) = .ok .non A := rfl
theorem z_start {N : List Str} {as : List AV} : startA N as = as.map some ++ List.replicate (N.length - as.length) none := rfl
/-! attributes -/
theorem z_attr {m n : Nat} : pAttr D cl m (.ref n) A = fAttr1 D cl m n (A.get n) A := rfl
theorem z_attr1 {m n c : Nat} {fs : List (Nat × AV)} : fAttr1 D cl m n (some (.ins c fs)) A = fAttr2 D cl m n fs (attrOf D c m) A := rfl
theorem z_attrf {m n : Nat} {fs : List (Nat × AV)} : fAttr2 D cl m n fs (some .fld) A = fAttrF (nlook m fs) A := rfl
theorem z_attrf1 : fAttrF (some v) A = .ok v A := rfl
theorem z_attrc {m n : Nat} {fs : List (Nat × AV)} : fAttr2 D cl m n fs (some (.con w)) A = fAttrC (nlook m fs) w A := rfl
theorem z_attrc1 : fAttrC none w A = .ok w A := rfl
theorem z_attrp {m n k : Nat} {fs : List (Nat × AV)} : fAttr2 D cl m n fs (some (.prop k)) A = fAttrP (callK D cl k [.ref n] A) := rfl
theorem z_attrp1 : fAttrP (.ok v A) = .ok v A := rfl
theorem z_mof {m n : Nat} : methOf D m (.ref n) A = mOf1 D m (A.get n) := rfl
theorem z_mof1 {m c : Nat} {fs : List (Nat × AV)} : mOf1 D m (some (.ins c fs)) = mOf2 m (attrOf D c m) fs := rfl
theorem z_mof2 {m k : Nat} {fs : List (Nat × AV)} : mOf2 m (some (.meth k)) fs = mOf3 k (nlook m fs) := rfl
theorem z_mof3 {k : Nat} : mOf3 k none = some k := rfl
theorem z_mat {m n : Nat} : methAt D m (.ref n) A = mAt1 D m (A.get n) := rfl
theorem z_mat1 {m c : Nat} {fs : List (Nat × AV)} : mAt1 D m (some (.ins c fs)) = mAt2 (attrOf D c m) := rfl
theorem z_mat2 {k : Nat} : mAt2 (some (.meth k)) = some k := rfl
theorem z_mat2n : mAt2 none = none := rfl
theorem z_matl {m : Nat} : mAt1 D m (some (.lst xs)) = none := rfl
theorem z_matd {m : Nat} {t : Bool} {k : Nat} {kvs : List (AV × AV)} : mAt1 D m (some (.dct t k kvs)) = none := rfl
theorem z_sto {m n : Nat} : pStore D m (.ref n) v A = sto1 D m n v (A.get n) A := rfl
theorem z_sto1 {m n c : Nat} {fs : List (Nat × AV)} : sto1 D m n v (some (.ins c fs)) A = sto2 c m n v fs (attrOf D c m) A := rfl
theorem z_sto2 {m n c : Nat} {fs : List (Nat × AV)} : sto2 c m n v fs (some .fld) A = sto3 (Nat.blt fs.length 1000) (A.set n (.ins c (putN m v fs))) := rfl
theorem z_sto3 : sto3 true A = some A := rfl
theorem z_nl {i j : Nat} {fs : List (Nat × AV)} : nlook i ((j, v) :: fs) = if i = j then some v else nlook i fs := by
  show (match Nat.beq i j with | true => some v | false => nlook i fs) = _
  cases e : Nat.beq i j with
  | true => rw [if_pos (Nat.eq_of_beq_eq_true e)]
  | false => rw [if_neg (Nat.ne_of_beq_eq_false e)]
theorem z_nl0 {i : Nat} : nlook i ([] : List (Nat × AV)) = none := rfl
theorem z_pn {i j : Nat} {fs : List (Nat × AV)} : putN i v ((j, w) :: fs) = if j = i then (j, v) :: fs else (j, w) :: putN i v fs := by
  show (match Nat.beq j i with | true => (j, v) :: fs | false => (j, w) :: putN i v fs) = _
  cases e : Nat.beq j i with
  | true => rw [if_pos (Nat.eq_of_beq_eq_true e)]
  | false => rw [if_neg (Nat.ne_of_beq_eq_false e)]
theorem z_pn0 {i : Nat} : putN i v [] = [(i, v)] := rfl
/-! sequences -/
theorem z_seqref {n : Nat} : seqL (.ref n) A = seqR (A.get n) := rfl
theorem z_seqref1 : seqR (some (.lst xs)) = some (true, xs) := rfl
theorem z_seqrefd {t : Bool} {k : Nat} {kvs : List (AV × AV)} : seqR (some (.dct t k kvs)) = none := rfl
theorem z_seqrefi {c : Nat} {fs : List (Nat × AV)} : seqR (some (.ins c fs)) = none := rfl
theorem z_seqtn : seqL .tn A = some (false, []) := rfl
theorem seq_tup : ∀ vs : List AV, seqL (AV.tup vs) A = some (false, vs)
  | [] => rfl
  | v :: r => by
    show (match (AV.tup r).items with | some xs => some (false, v :: xs) | none => none) = _
    rw [items_tup]
theorem z_seq1 : seqL (.tc v .tn) A = some (false, [v]) := rfl
theorem z_seq2 : seqL (.tc v (.tc w .tn)) A = some (false, [v, w]) := rfl
theorem z_seq3 : seqL (.tc v (.tc w (.tc x .tn))) A = some (false, [v, w, x]) := rfl
theorem z_seq4 : seqL (.tc v (.tc w (.tc x (.tc y .tn)))) A = some (false, [v, w, x, y]) := rfl
theorem z_seq5 {z : AV} : seqL (.tc v (.tc w (.tc x (.tc y (.tc z .tn))))) A = some (false, [v, w, x, y, z]) := rfl
theorem z_seqint : seqL (.int i) A = none := rfl
theorem z_seqstr {x : Str} : seqL (.str x) A = none := rfl
theorem z_clsat {n : Nat} : clsAt (.ref n) A = clsR (A.get n) := rfl
theorem z_clsat1 {c : Nat} {fs : List (Nat × AV)} : clsR (some (.ins c fs)) = some c := rfl
theorem z_tag {n : Nat} : tagOf (.ref n) A = tagR (A.get n) := rfl
theorem z_tagl : tagR (some (.lst xs)) = some 4 := rfl
theorem z_tagd {t : Bool} {k : Nat} {kvs : List (AV × AV)} : tagR (some (.dct t k kvs)) = some 6 := rfl
theorem z_tagi {c : Nat} {fs : List (Nat × AV)} : tagR (some (.ins c fs)) = some (c + 7) := rfl
theorem z_isi {u n : Nat} : pIsi D u (.ref n) A = isiR D u (tagR (A.get n)) A := rfl
theorem z_isl {n : Nat} : isL (.ref n) A = isLR (A.get n) := rfl
theorem z_isl1 : isLR (some (.lst xs)) = true := rfl
theorem z_isd {n : Nat} : isDV (.ref n) A = isDR (A.get n) := rfl
theorem z_isd1 {t : Bool} {k : Nat} {kvs : List (AV × AV)} : isDR (some (.dct t k kvs)) = true := rfl
theorem z_pget {n : Nat} : pGet (.ref n) v A = dctR (A.get n) v := rfl
theorem z_pget1 {k : Nat} {x : Str} {kvs : List (AV × AV)} : dctR (some (.dct false k kvs)) (.str x) = some (dget kvs (.str x)) := rfl
theorem z_pget2 {k : Nat} {kvs : List (AV × AV)} : dctR (some (.dct false k kvs)) (.int i) = some (dget kvs (.int i)) := rfl
/-! new objects -/
theorem z_mklst (h : vs.length ≤ 16777216) : mkLst vs A = .ok (.ref A.n) (A.push (.lst vs)) := by
  unfold mkLst short
  rw [Nat.ble_eq_true_of_le h]
theorem z_mktup (h : vs.length ≤ 16777216) : mkTup vs A = .ok (AV.tup vs) A := by
  unfold mkTup short
  rw [Nat.ble_eq_true_of_le h]
theorem z_mkdct {kvs : List (AV × AV)} : mkDct kvs A = .ok (.ref A.n) (A.push (.dct false 0 kvs)) := rfl
theorem z_dct0 : eDct0 s A = .ok (.ref A.n) (A.push (.dct false 0 [])) := rfl
theorem z_mkt0 : mkTup [] A = .ok .tn A := rfl
theorem z_mkt1 : mkTup [v] A = .ok (.tc v .tn) A := rfl
theorem z_mkt2 : mkTup [v, w] A = .ok (.tc v (.tc w .tn)) A := rfl
theorem z_mkt3 : mkTup [v, w, x] A = .ok (.tc v (.tc w (.tc x .tn))) A := rfl
theorem z_mkt4 : mkTup [v, w, x, y] A = .ok (.tc v (.tc w (.tc x (.tc y .tn)))) A := rfl
theorem z_mkt5 {z : AV} : mkTup [v, w, x, y, z] A = .ok (.tc v (.tc w (.tc x (.tc y (.tc z .tn))))) A := rfl
theorem z_mkl0 : mkLst [] A = .ok (.ref A.n) (A.push (.lst [])) := rfl
theorem z_mkl1 : mkLst [v] A = .ok (.ref A.n) (A.push (.lst [v])) := rfl
theorem z_mkl2 : mkLst [v, w] A = .ok (.ref A.n) (A.push (.lst [v, w])) := rfl
theorem z_mkl3 : mkLst [v, w, x] A = .ok (.ref A.n) (A.push (.lst [v, w, x])) := rfl
theorem z_mkl4 : mkLst [v, w, x, y] A = .ok (.ref A.n) (A.push (.lst [v, w, x, y])) := rfl
theorem z_mkl5 {z : AV} : mkLst [v, w, x, y, z] A = .ok (.ref A.n) (A.push (.lst [v, w, x, y, z])) := rfl
theorem z_mk {c k : Nat} {z : ClsZ} (h : D.clss[c]? = some z) (hi : z.init = some k) : pMake D cl c vs A = back (callK D cl k (.ref A.n :: vs) (A.push (.ins c []))) (.ref A.n) := by
  unfold pMake
  rw [h]
  simp only [hi]
theorem z_mkKw {c k : Nat} {z : ClsZ} {ks : List Str} (h : D.clss[c]? = some z) (hi : z.init = some k) : pMakeKw D cl c ks vs zs A = back (callKw D cl k ks (.ref A.n :: vs) zs (A.push (.ins c []))) (.ref A.n) := by
  unfold pMakeKw
  rw [h]
  simp only [hi]
theorem z_back : back (.ok .non A) v = .ok v A := rfl
/-! items -/
theorem z_vr {i : Nat} : eVar i s A = vget (s[i]?) A := rfl
theorem z_vr1 : vget (some (some v)) A = .ok v A := rfl
theorem z_var {i : Nat} (h : s[i]? = some (some v)) : eVar i s A = .ok v A := by
  unfold eVar
  rw [h]
/-! primitives -/
theorem ok_alt2 {p q : AV → AV → AH → RE} {r : RE} (h : p v w A = .ok x A1) : alt2 p q v w A = .ok x A1 := by
  unfold alt2 orE
  rw [h]
theorem z_add : opPrim D cl .Add (.int i) (.int j) A = .ok (.int (i + j)) A := rfl
theorem z_sub : opPrim D cl .Sub (.int i) (.int j) A = .ok (.int (i - j)) A := rfl
theorem z_mul (h : (fits i || fits j) = true) : opPrim D cl .Mult (.int i) (.int j) A = .ok (.int (i * j)) A := by
  show guard (fits i || fits j) (oki (i * j) A) = _
  rw [h]
  rfl
theorem z_fdiv (h : okDiv i j = true) : opPrim D cl .FloorDiv (.int i) (.int j) A = .ok (.int (i.fdiv j)) A := by
  show guard (okDiv i j) (oki (i.fdiv j) A) = _
  rw [h]
  rfl
theorem z_modi (h : j ≠ 0) : opPrim D cl .Mod (.int i) (.int j) A = .ok (.int (i.fmod j)) A := by
  show guard (!iEq j 0) (oki (i.fmod j) A) = _
  rw [iEq_eq, decide_eq_false h]
  rfl
theorem z_shli (h : okPow i j = true) : opPrim D cl .LShift (.int i) (.int j) A = .ok (.int (i * 2 ^ j.toNat)) A := by
  show guard (okPow i j) (oki (i * 2 ^ j.toNat) A) = _
  rw [h]
  rfl
theorem z_neg : pNeg D cl (.int i) A = .ok (.int (-i)) A := rfl
theorem z_lti : cmpPrim D cl .Lt (.int i) (.int j) A = .ok (.bl (decide (i < j))) A := by
  show RE.ok (.bl (iLt i j)) A = _
  rw [iLt_eq]
theorem z_lei : cmpPrim D cl .LtE (.int i) (.int j) A = .ok (.bl (decide (i ≤ j))) A := by
  show RE.ok (.bl (iLe i j)) A = _
  rw [iLe_eq]
theorem z_gti : cmpPrim D cl .Gt (.int i) (.int j) A = .ok (.bl (decide (j < i))) A := by
  show RE.ok (.bl (iLt j i)) A = _
  rw [iLt_eq]
theorem z_gei : cmpPrim D cl .GtE (.int i) (.int j) A = .ok (.bl (decide (j ≤ i))) A := by
  show RE.ok (.bl (iLe j i)) A = _
  rw [iLe_eq]
theorem z_eqi : cmpPrim D cl .Eq (.int i) (.int j) A = .ok (.bl (decide (i = j))) A := by
  show RE.ok (.bl (iEq i j)) A = _
  rw [iEq_eq]
theorem z_nei : cmpPrim D cl .NotEq (.int i) (.int j) A = .ok (.bl (!decide (i = j))) A := by
  show RE.ok (.bl (!iEq i j)) A = _
  rw [iEq_eq]
theorem z_isn : cmpPrim D cl .Is v .non A = .ok (.bl (isNon v)) A := rfl
theorem z_isnn : cmpPrim D cl .IsNot v .non A = .ok (.bl (!isNon v)) A := rfl
/-! built-ins -/
theorem z_max2 : pMM iMax iMaxL [.int i, .int j] A = .ok (.int (iMax i j)) A := rfl
theorem z_min2 : pMM iMin iMinL [.int i, .int j] A = .ok (.int (iMin i j)) A := rfl
theorem z_abs : p1i iAbs [.int i] A = .ok (.int (iAbs i)) A := rfl
def lenR (D : Desc) (cl : Calls) (n : Nat) (o : Option AO) (A : AH) : RE := match o with
  | some (.lst xs) => .ok (.int xs.length) A
  | some (.dct false _ kvs) => .ok (.int kvs.length) A
  | some (.ins c fs) => (match mAt2 (attrOf D c 2) with
    | some k => (match callK D cl k [.ref n] A with
      | .ok (.int n) A1 => (match small62 n && !iNeg n with
        | true => .ok (.int n) A1
        | false => .bad)
      | .ok _ _ => .bad
      | r => r)
    | none => .bad)
  | _ => .bad
theorem z_lenref {n : Nat} : pLen D cl [.ref n] A = lenR D cl n (A.get n) A := by
  unfold pLen
  simp only [z_seqref]
  cases e : A.get n with
  | none =>
    simp only [seqR, z_mat, e, mAt1]
    rfl
  | some o =>
    cases o with
    | lst xs => rfl
    | dct t lk kvs => cases t <;> (simp only [seqR]; rfl)
    | ins c fs =>
      simp only [seqR, z_mat, e, z_mat1]
      rfl
theorem z_lenl {n : Nat} : lenR D cl n (some (.lst xs)) A = .ok (.int xs.length) A := rfl
theorem z_lend {n k : Nat} {kvs : List (AV × AV)} : lenR D cl n (some (.dct false k kvs)) A = .ok (.int kvs.length) A := rfl
def fLenI (r : RE) : RE := match r with
  | .ok (.int n) A1 => (match small62 n && !iNeg n with
    | true => .ok (.int n) A1
    | false => .bad)
  | .ok _ _ => .bad
  | r => r
def fLenO (D : Desc) (cl : Calls) (o : Option Nat) (n : Nat) (A : AH) : RE := match o with
  | some k => fLenI (callK D cl k [.ref n] A)
  | none => .bad
theorem z_leni {n c : Nat} {fs : List (Nat × AV)} : lenR D cl n (some (.ins c fs)) A = fLenO D cl (mAt2 (attrOf D c 2)) n A := rfl
theorem z_leni1 {n k : Nat} : fLenO D cl (some k) n A = fLenI (callK D cl k [.ref n] A) := rfl
theorem z_lenic (h : (small62 i && !iNeg i) = true) : fLenI (.ok (.int i) A) = .ok (.int i) A := by
  show (match small62 i && !iNeg i with | true => RE.ok (.int i) A | false => .bad) = _
  rw [h]
theorem z_len_tup {vs : List AV} : pLen D cl [AV.tup vs] A = .ok (.int vs.length) A := by
  unfold pLen
  simp only [seq_tup]
theorem z_len_tn : pLen D cl [.tn] A = .ok (.int 0) A := rfl
theorem z_len_t1 : pLen D cl [.tc v .tn] A = .ok (.int 1) A := rfl
theorem z_len_t2 : pLen D cl [.tc v (.tc w .tn)] A = .ok (.int 2) A := rfl
theorem z_len_t3 : pLen D cl [.tc v (.tc w (.tc x .tn))] A = .ok (.int 3) A := rfl
theorem z_len_t4 : pLen D cl [.tc v (.tc w (.tc x (.tc y .tn)))] A = .ok (.int 4) A := rfl
/-! own operations -/
def fBnd (r : RE) (f : Bool → Bool) : RE := bnd r fun b A1 => .ok (.bl (f b)) A1
theorem z_bnd {t : Bool} {f : Bool → Bool} : fBnd (.ok (.bl t) A) f = .ok (.bl (f t)) A := rfl
def inoR (D : Desc) (cl : Calls) (neg : Bool) (v : AV) (n : Nat) (o : Option Nat) (A : AH) : RE := match o with
  | some k => fBnd (callK D cl k [.ref n, v] A) (neB neg)
  | none => .bad
theorem z_ino {neg : Bool} {n : Nat} : pInO D cl neg v (.ref n) A = inoR D cl neg v n (mAt1 D 1 (A.get n)) A := rfl
theorem z_ino1 {neg : Bool} {n k : Nat} : inoR D cl neg v n (some k) A = fBnd (callK D cl k [.ref n, v] A) (neB neg) := rfl
def callR (D : Desc) (cl : Calls) (v : AV) (vs : List AV) (o : Option Nat) (A : AH) : RE := match o with
  | some k => callK D cl k (v :: vs) A
  | none => .bad
theorem z_callr {n : Nat} : pCallO D cl (.ref n) vs A = callR D cl (.ref n) vs (mAt1 D 7 (A.get n)) A := rfl
theorem z_callr1 {k : Nat} : callR D cl v vs (some k) A = callK D cl k (v :: vs) A := rfl
def eqoR (D : Desc) (cl : Calls) (neg : Bool) (n : Nat) (w : AV) (m c t : Option Nat) (A : AH) : RE := match m with
  | some k => (match c with
    | some c => (match t with
      | some t => (match nfOk D c t with
        | true => (match Nat.ble 7 t with
          | true => (match D.clss[t - 7]? with
            | some _ => bnd (callK D cl k [.ref n, w] A) fun b A1 => .ok (.bl (neB neg b)) A1
            | none => .bad)
          | false => bnd (callK D cl k [.ref n, w] A) fun b A1 => .ok (.bl (neB neg b)) A1)
        | false => .bad)
      | none => .bad)
    | none => .bad)
  | none => .bad
theorem z_eqo {neg : Bool} {n : Nat} : pEqO D cl neg (.ref n) w A = eqoR D cl neg n w (mAt1 D 3 (A.get n)) (clsR (A.get n)) (tagOf w A) A := rfl
/-- an instance on the left -/
theorem z_eqs {neg : Bool} {n m : Nat} {c c' k : Nat} {fs fs' : List (Nat × AV)} {z : ClsZ} (h : A.get n = some (.ins c fs)) (h' : A.get m = some (.ins c' fs')) (ha : attrOf D c 3 = some (.meth k)) (hn : nfOk D c (c' + 7) = true) (hz : D.clss[c']? = some z) :
    pEqO D cl neg (.ref n) (.ref m) A = fBnd (callK D cl k [.ref n, .ref m] A) (neB neg) := by
  rw [z_eqo, h, z_mat1, ha, z_mat2, z_clsat1, z_tag, h', z_tagi]
  unfold eqoR
  simp only [hn]
  rw [Nat.ble_eq_true_of_le (by omega)]
  simp only [show c' + 7 - 7 = c' by omega, hz]
  rfl
def datRef (n : Nat) (A : AH) (o : Option AO) : Option PyData := match o with
  | some (.lst xs) => (match mapO (datV 39 A) xs with
    | some ds => some (.list ds)
    | none => none)
  | _ => none
theorem z_datref {n : Nat} : datF A (.ref n) = datRef n A (A.get n) := by
  unfold datF datV
  show (match seqL (.ref n) A with | some (b, xs) => _ | none => none) = _
  rw [z_seqref]
  cases A.get n with
  | none => rfl
  | some o => cases o <;> rfl
theorem z_datins {n c : Nat} {fs : List (Nat × AV)} : datRef n A (some (.ins c fs)) = none := rfl
theorem z_datdct {n k : Nat} {t : Bool} {kvs : List (AV × AV)} : datRef n A (some (.dct t k kvs)) = none := rfl
/-- == where an instance stands on the left -/
theorem eq_ins {neg : Bool} {n m : Nat} {c c' k : Nat} {fs fs' : List (Nat × AV)} {z : ClsZ} (h : A.get n = some (.ins c fs)) (h' : A.get m = some (.ins c' fs')) (ha : attrOf D c 3 = some (.meth k)) (hn : nfOk D c (c' + 7) = true) (hz : D.clss[c']? = some z)
    {b : Bool} (e : callK D cl k [.ref n, .ref m] A = .ok (.bl b) A1) : cmpPrim D cl (eqOp neg) (.ref n) (.ref m) A = .ok (.bl (neB neg b)) A1 := by
  have e1 : pEqD neg (.ref n) (.ref m) A = .bad := by
    unfold pEqD
    rw [z_datref, h]
    rfl
  have e2 : pEqO D cl neg (.ref n) (.ref m) A = .ok (.bl (neB neg b)) A1 := by
    rw [z_eqs h h' ha hn hz, e]
    rfl
  cases neg with
  | false =>
    show alt2 (pEqD false) (alt2 (pEqO D cl false) (pEqDct false)) _ _ A = _
    unfold alt2 orE
    rw [e1]
    simp only [e2]
  | true =>
    show alt2 (pEqD true) (alt2 (pEqO D cl true) (pEqDct true)) _ _ A = _
    unfold alt2 orE
    rw [e1]
    simp only [e2]
end
section
variable {D : Desc} {cl : Calls} {A : AH} {x y : Str} {i : Int} {b : Bool}
theorem sEq_eq : ∀ a b : Str, Z.sEq a b = decide (a = b) := by
  have key : ∀ l m : List Nat, nEq l m = decide (l = m) := fun l => by
    induction l with
    | nil => intro m; cases m <;> simp [nEq]
    | cons a r ih =>
      intro m
      cases m with
      | nil => simp [nEq]
      | cons c q =>
        unfold nEq
        cases e : Nat.beq a c with
        | true =>
          have := Nat.eq_of_beq_eq_true e
          subst this
          simp [ih]
        | false =>
          have := Nat.ne_of_beq_eq_false e
          simp only [e]
          simp [this]
  intro a b
  unfold Z.sEq
  rw [key]
  obtain ⟨⟨l⟩⟩ := a
  obtain ⟨⟨m⟩⟩ := b
  simp
theorem z_eqss : cmpPrim D cl .Eq (.str x) (.str y) A = .ok (.bl (decide (x = y))) A := by
  show RE.ok (.bl (Z.sEq x y)) A = _
  rw [sEq_eq]
theorem z_ness : cmpPrim D cl .NotEq (.str x) (.str y) A = .ok (.bl (!decide (x = y))) A := by
  show RE.ok (.bl (!Z.sEq x y)) A = _
  rw [sEq_eq]
theorem z_eqsi : cmpPrim D cl .Eq (.str x) (.int i) A = .ok (.bl false) A := rfl
theorem z_eqis : cmpPrim D cl .Eq (.int i) (.str x) A = .ok (.bl false) A := rfl
end
theorem z_blt0 : Nat.blt 0 1000 = true := rfl
theorem z_blt1 : Nat.blt 1 1000 = true := rfl
theorem z_blt2 : Nat.blt 2 1000 = true := rfl
theorem z_blt3 : Nat.blt 3 1000 = true := rfl
theorem z_blt4 : Nat.blt 4 1000 = true := rfl
theorem z_blt5 : Nat.blt 5 1000 = true := rfl
theorem z_blt6 : Nat.blt 6 1000 = true := rfl
theorem z_blt7 : Nat.blt 7 1000 = true := rfl
theorem z_blt8 : Nat.blt 8 1000 = true := rfl
theorem z_blt9 : Nat.blt 9 1000 = true := rfl
theorem z_blt10 : Nat.blt 10 1000 = true := rfl
theorem z_blt11 : Nat.blt 11 1000 = true := rfl
/-! ## == of plain data -/
/-- no references, no Bools -/
def plainV : AV → Bool
  | .non => true
  | .int _ => true
  | .str _ => true
  | .tn => true
  | .tc h t => plainV h && plainT t
  | _ => false
where plainT : AV → Bool
  | .tn => true
  | .tc h t => plainV h && plainT t
  | _ => false
end ZV
end
section
/-! Z41: heaps that grow; walks by invariants. -/
namespace ZV
open PySem PySem.Spec PyProof.Rows L2 Z
def WF (A : AH) : Prop := ∀ i, A.n ≤ i → A.get i = none
/-- what stood stands -/
structure Ext (A A' : AH) : Prop where
  le : A.n ≤ A'.n
  get : ∀ i o, A.get i = some o → A'.get i = some o
  wf : WF A'
theorem WF.zero : WF ⟨0, .e⟩ := fun i _ => get_e i
section
variable {A A' A1 A2 : AH} {i j : Nat} {o o' : AO}
theorem Ext.rfl' (w : WF A) : Ext A A := ⟨Nat.le_refl _, fun _ _ h => h, w⟩
theorem Ext.trans (a : Ext A A1) (b : Ext A1 A2) : Ext A A2 := ⟨Nat.le_trans a.le b.le, fun i o h => b.get i o (a.get i o h), b.wf⟩
theorem WF.lt (w : WF A) (h : A.get i = some o) : i < A.n := by
  rcases Nat.lt_or_ge i A.n with q | q
  · exact q
  · rw [w i q] at h; cases h
theorem WF.push (w : WF A) : WF (A.push o) := fun i h => by
  rw [AH.get_push, if_neg (by have : A.n + 1 ≤ i := h; omega)]
  exact w i (by have : A.n + 1 ≤ i := h; omega)
theorem WF.set (w : WF A) (hi : i < A.n) : WF (A.set i o) := fun j h => by
  rw [AH.get_set, if_neg (by have : A.n ≤ j := h; omega)]
  exact w j h
theorem get_new : (A.push o).get A.n = some o := by rw [AH.get_push, if_pos rfl]
theorem get_old (w : WF A) (h : A.get i = some o') : (A.push o).get i = some o' := by
  rw [AH.get_push, if_neg (Nat.ne_of_lt (w.lt h))]
  exact h
theorem Ext.push (w : WF A) : Ext A (A.push o) := ⟨Nat.le_succ _, fun i o h => get_old w h, w.push⟩
theorem get_at : (A.set i o).get i = some o := by rw [AH.get_set, if_pos rfl]
theorem get_off (h : j ≠ i) : (A.set i o).get j = A.get j := by rw [AH.get_set, if_neg h]
/-- a store at an object that is newer than A -/
theorem Ext.set (e : Ext A A1) (w : WF A) (h : A.n ≤ i) (hi : i < A1.n) : Ext A (A1.set i o) :=
  ⟨e.le, fun j u q => by rw [get_off (Nat.ne_of_lt (Nat.lt_of_lt_of_le (w.lt q) h))]; exact e.get j u q, e.wf.set hi⟩
end
/-! ## what a walk hands over -/
/-- while V holds the iterator hands over these items -/
def Walks (it : It0) (items : List AV) (V : AH → Prop) : Prop := ∀ i A, V A → it i A = match items[i]? with
  | some v => .item v A
  | none => .stop
theorem tnth_items : ∀ {t : AV} {vs : List AV} (i : Nat), t.items = some vs → (match tnth t i with | .item v _ => vs[i]? = some v | .stop => vs[i]? = none | .bad => False)
  | .tn, vs, i, h => by
    have : vs = [] := by unfold AV.items at h; cases h; rfl
    subst this
    simp [tnth]
  | .tc a t, vs, i, h => by
    unfold AV.items at h
    cases e : t.items with
    | none => rw [e] at h; cases h
    | some r =>
      rw [e] at h
      cases h
      cases i with
      | zero => simp [tnth]
      | succ i =>
        have := tnth_items i e
        simpa [tnth] using this
theorem walks_tup {t : AV} {vs : List AV} (h : t.items = some vs) (V : AH → Prop) : Walks (itT t) vs V := fun i A _ => by
  have := tnth_items i h
  unfold itT
  cases e : tnth t i with
  | stop => rw [e] at this; simp only [this]
  | item v A1 => rw [e] at this; simp only [this]
  | bad => rw [e] at this; exact this.elim
theorem walks_lst (j : Nat) (xs : List AV) : Walks (itL j) xs (fun A => A.get j = some (.lst xs)) := fun i A h => by
  unfold itL
  rw [h]
  simp only [nth_eq]
  first | done | (cases xs[i]? <;> rfl)
theorem walks_rng (lo : Int) (n : Nat) (V : AH → Prop) : Walks (itR lo n) ((List.range n).map fun i => .int (lo + (i : Nat))) V := fun i A _ => by
  unfold itR
  rw [List.getElem?_map]
  by_cases h : i < n
  · rw [List.getElem?_range h, show Nat.blt i n = true from Nat.ble_eq_true_of_le h]
    rfl
  · rw [List.getElem?_eq_none (by simpa using Nat.le_of_not_lt h)]
    cases e : Nat.blt i n with
    | true => exact absurd (Nat.le_of_ble_eq_true e) h
    | false => rfl
theorem walks_str (x : Str) (V : AH → Prop) : Walks (itS x) (x.cps.toList.map fun c => .str ⟨#[c]⟩) V := fun i A _ => by
  unfold itS
  rw [List.getElem?_map, ← Array.getElem?_toList]
  cases x.cps.toList[i]? <;> rfl
theorem walks_dct (m : KVI) (j l : Nat) (t : Bool) (kvs : List (AV × AV)) : Walks (itD m j l) (kvs.map (entry m)) (fun A => A.get j = some (.dct t l kvs)) := fun i A h => by
  unfold itD
  rw [h]
  have e : Nat.beq l l = true := Nat.beq_refl l
  simp only [e, pnth_eq, List.getElem?_map]
  cases kvs[i]? <;> rfl
theorem walks_enum {it : It0} {vs : List AV} {V : AH → Prop} (h : Walks it vs V) : Walks (itE it) (vs.mapIdx fun i v => .tc (.int (i : Nat)) (.tc v .tn)) V := fun i A hv => by
  unfold itE
  rw [h i A hv, List.getElem?_mapIdx]
  cases vs[i]? <;> rfl
theorem walks_zip {it it' : It0} {vs ws : List AV} {V : AH → Prop} (h : Walks it vs V) (h' : Walks it' ws V) : Walks (itZ it it') ((vs.zip ws).map fun p => .tc p.1 (.tc p.2 .tn)) V := fun i A hv => by
  unfold itZ
  rw [h i A hv, h' i A hv, List.getElem?_map]
  cases e : vs[i]? with
  | none =>
    rw [show (vs.zip ws)[i]? = none by rw [List.getElem?_eq_none_iff] at e ⊢; simp [List.length_zip]; omega]
    cases ws[i]? <;> rfl
  | some v =>
    cases e' : ws[i]? with
    | none =>
      rw [show (vs.zip ws)[i]? = none by rw [List.getElem?_eq_none_iff] at e' ⊢; simp [List.length_zip]; omega]
      rfl
    | some w =>
      rw [show (vs.zip ws)[i]? = some (v, w) from List.getElem?_zip_eq_some.mpr ⟨e, e'⟩]
      rfl
/-! ## for, by an invariant -/
theorem for_inv {it : It0} {tg : Tgt} {b : SV} {items : List AV} {V : AH → Prop} (hw : Walks it items V) (I : List AV → Sl → AH → Prop)
    (hv : ∀ d s A, I d s A → V A)
    (step : ∀ d v r s A, items = d ++ v :: r → I d s A → ∃ s1 s2 A2, tgS tg v s = some s1 ∧ (b s1 A = .nx s2 A2 ∨ b s1 A = .ct s2 A2) ∧ I (d ++ [v]) s2 A2) :
    ∀ (m : Nat) (d r : List AV) (s : Sl) (A : AH), items = d ++ r → r.length < m → I d s A → ∃ s' A', forF it tg b m d.length s A = .nx s' A' ∧ I items s' A'
  | 0, d, r, s, A, _, hl, _ => absurd hl (Nat.not_lt_zero _)
  | m + 1, d, [], s, A, e, hl, hi => by
    refine ⟨s, A, ?_, by rw [e, List.append_nil]; exact hi⟩
    unfold forF
    rw [hw d.length A (hv _ _ _ hi), e, List.append_nil, List.getElem?_eq_none (Nat.le_refl _)]
  | m + 1, d, v :: r, s, A, e, hl, hi => by
    obtain ⟨s1, s2, A2, h1, h2, h3⟩ := step d v r s A e hi
    obtain ⟨s', A', h4, h5⟩ := for_inv hw I hv step m (d ++ [v]) r s2 A2 (by rw [e, List.append_assoc]; rfl) (by simp at hl; omega) h3
    refine ⟨s', A', ?_, h5⟩
    rw [List.length_append, List.length_singleton] at h4
    unfold forF
    rw [hw d.length A (hv _ _ _ hi), e, List.getElem?_append_right (Nat.le_refl _), Nat.sub_self]
    simp only [List.getElem?_cons_zero, h1]
    rcases h2 with h2 | h2
    · simp only [h2]; exact h4
    · simp only [h2]; exact h4
/-- comprehensions, by an invariant -/
theorem turn_inv {it : It0} {tg : Tgt} {tu : Sl → AH → Option AH} {s0 : Sl} {q : Nat} {items : List AV} {V : AH → Prop} (hw : Walks it items V) (I : List AV → AH → Prop)
    (hv : ∀ d A, I d A → V A)
    (step : ∀ d v r A, items = d ++ v :: r → I d A → ∃ s1 A2, tgS tg v s0 = some s1 ∧ tu s1 A = some A2 ∧ I (d ++ [v]) A2) :
    ∀ (m : Nat) (d r : List AV) (A : AH), items = d ++ r → r.length < m → I d A → ∃ A', turnF it tg tu s0 q m d.length A = .ok (.ref q) A' ∧ I items A'
  | 0, d, r, A, _, hl, _ => absurd hl (Nat.not_lt_zero _)
  | m + 1, d, [], A, e, hl, hi => by
    refine ⟨A, ?_, by rw [e, List.append_nil]; exact hi⟩
    unfold turnF
    rw [hw d.length A (hv _ _ hi), e, List.append_nil, List.getElem?_eq_none (Nat.le_refl _)]
  | m + 1, d, v :: r, A, e, hl, hi => by
    obtain ⟨s1, A2, h1, h2, h3⟩ := step d v r A e hi
    obtain ⟨A', h4, h5⟩ := turn_inv hw I hv step m (d ++ [v]) r A2 (by rw [e, List.append_assoc]; rfl) (by simp at hl; omega) h3
    refine ⟨A', ?_, h5⟩
    rw [List.length_append, List.length_singleton] at h4
    unfold turnF
    rw [hw d.length A (hv _ _ hi), e, List.getElem?_append_right (Nat.le_refl _), Nat.sub_self]
    simp only [List.getElem?_cons_zero, h1, h2]
    exact h4
/-! ## while, by a measure -/
theorem while_inv {c : EV} {b : SV} (I : Nat → Sl → AH → Prop) (P : Sl → AH → Prop)
    (step : ∀ n s A, I n s A → (∃ A1, c s A = .ok (.bl false) A1 ∧ P s A1) ∨ ∃ A1 s2 A2 m, c s A = .ok (.bl true) A1 ∧ (b s A1 = .nx s2 A2 ∨ b s A1 = .ct s2 A2) ∧ I m s2 A2 ∧ m < n) :
    ∀ (k n : Nat) (s : Sl) (A : AH), n < k → I n s A → ∃ s' A', whileF c b k s A = .nx s' A' ∧ P s' A'
  | 0, n, s, A, h, _ => absurd h (Nat.not_lt_zero _)
  | k + 1, n, s, A, h, hi => by
    rcases step n s A hi with ⟨A1, h1, h2⟩ | ⟨A1, s2, A2, m, h1, h2, h3, h4⟩
    · refine ⟨s, A1, ?_, h2⟩
      unfold whileF
      rw [h1]
      rfl
    · obtain ⟨s', A', h5, h6⟩ := while_inv I P step k m s2 A2 (by omega) h3
      refine ⟨s', A', ?_, h6⟩
      unfold whileF
      rw [h1]
      rcases h2 with h2 | h2
      · show (match b s A1 with | .nx s2 A2 => whileF c b k s2 A2 | .ct s2 A2 => whileF c b k s2 A2 | .bk s2 A2 => .nx s2 A2 | r => r) = _
        rw [h2]
        exact h5
      · show (match b s A1 with | .nx s2 A2 => whileF c b k s2 A2 | .ct s2 A2 => whileF c b k s2 A2 | .bk s2 A2 => .nx s2 A2 | r => r) = _
        rw [h2]
        exact h5
/-! ## locks -/
theorem Walks.mono {it : It0} {vs : List AV} {V V' : AH → Prop} (h : Walks it vs V) (i : ∀ A, V' A → V A) : Walks it vs V' := fun k A v => h k A (i A v)
/-- A1 is A, or A with a dict locked -/
def Lck (A : AH) (lk : Option Nat) (A1 : AH) : Prop := (lk = none ∧ A1 = A) ∨ ∃ j t kvs, lk = some j ∧ A.get j = some (.dct t 0 kvs) ∧ A1 = A.lockA j t kvs
/-- what the walk leaves to be restored -/
def Unl (A : AH) (lk : Option Nat) (A1 A' A2 : AH) : Prop := (lk = none ∧ A2 = A') ∨ ∃ j t kvs, lk = some j ∧ A.get j = some (.dct t 0 kvs) ∧ A2 = A'.set j (.dct t 0 kvs)
section
variable {A A1 A' : AH} {lk : Option Nat}
theorem get_lockAt {j : Nat} {t : Bool} {kvs : List (AV × AV)} : (A.lockA j t kvs).get j = some (.dct t (A.n + 1) kvs) := by rw [AH.get_lock, if_pos rfl]
theorem get_lockOff {i j : Nat} {t : Bool} {kvs : List (AV × AV)} (h : i ≠ j) : (A.lockA j t kvs).get i = A.get i := by rw [AH.get_lock, if_neg h]
theorem Lck.n (h : Lck A lk A1) : A.n ≤ A1.n := by
  rcases h with ⟨_, rfl⟩ | ⟨j, t, kvs, _, _, rfl⟩
  · exact Nat.le_refl _
  · exact Nat.le_succ _
theorem Lck.wf (h : Lck A lk A1) (w : WF A) : WF A1 := by
  rcases h with ⟨_, rfl⟩ | ⟨j, t, kvs, _, e, rfl⟩
  · exact w
  · intro i hi
    have h1 : A.n + 1 ≤ i := hi
    rw [get_lockOff (by have := w.lt e; omega)]
    exact w i (by omega)
/-- an object that is no dict to be locked stands in A1 -/
theorem Lck.off (h : Lck A lk A1) {i : Nat} (hi : lk ≠ some i) : A1.get i = A.get i := by
  rcases h with ⟨_, rfl⟩ | ⟨j, t, kvs, e, _, rfl⟩
  · rfl
  · exact get_lockOff fun z => hi (by rw [e, z])
/-- an object stands in A1, but for a dict's stamp -/
theorem Lck.get (h : Lck A lk A1) {i : Nat} {o : AO} (e : A.get i = some o) : (∃ t k kvs, o = .dct t k kvs ∧ ∃ k', A1.get i = some (.dct t k' kvs)) ∨ A1.get i = some o := by
  rcases h with ⟨_, rfl⟩ | ⟨j, t, kvs, _, e1, rfl⟩
  · exact .inr e
  · by_cases q : i = j
    · subst q
      rw [e1] at e
      cases e
      exact .inl ⟨t, 0, kvs, rfl, _, get_lockAt⟩
    · rw [get_lockOff q]; exact .inr e
theorem Lck.unE (h : Lck A lk A1) (w : WF A) (e : Ext A1 A') (v : AV) : ∃ A2, unlE lk (.ok v A') = .ok v A2 ∧ Ext A A2 ∧ (∀ i, A.n ≤ i → A2.get i = A'.get i) ∧ A2.n = A'.n := by
  rcases h with ⟨rfl, rfl⟩ | ⟨j, t, kvs, rfl, e1, rfl⟩
  · exact ⟨A', rfl, e, fun _ _ => rfl, rfl⟩
  · have hj := w.lt e1
    have h1 := e.get j _ get_lockAt
    have hu : unlA j A' = some (A'.set j (.dct t 0 kvs)) := by unfold unlA; rw [h1]
    refine ⟨A'.set j (.dct t 0 kvs), ?_, ⟨Nat.le_trans (Nat.le_succ _) e.le, fun i o q => ?_, e.wf.set (e.wf.lt h1)⟩, fun i hi => get_off (by omega), rfl⟩
    · show (match unlA j A' with | some A1 => RE.ok v A1 | none => RE.bad) = _
      rw [hu]
    · by_cases z : i = j
      · subst z
        rw [e1] at q
        cases q
        exact get_at
      · rw [get_off z]
        exact e.get i o (by rw [get_lockOff z]; exact q)
theorem Lck.unS (h : Lck A lk A1) (s : Sl) (hk : ∀ j, lk = some j → A'.get j = A1.get j) : ∃ A2, unlS lk (.nx s A') = .nx s A2 ∧ Unl A lk A1 A' A2 := by
  rcases h with ⟨rfl, rfl⟩ | ⟨j, t, kvs, rfl, e1, rfl⟩
  · exact ⟨A', rfl, .inl ⟨rfl, rfl⟩⟩
  · have h1 : A'.get j = some (.dct t (A.n + 1) kvs) := (hk j rfl).trans get_lockAt
    have hu : unlA j A' = some (A'.set j (.dct t 0 kvs)) := by unfold unlA; rw [h1]
    refine ⟨A'.set j (.dct t 0 kvs), ?_, .inr ⟨j, t, kvs, rfl, e1, rfl⟩⟩
    show (match unlA j A' with | some A1 => RS.nx s A1 | none => RS.bad) = _
    rw [hu]
end
/-! ## what is walked -/
/-- a walk: its items, while the object at j (if any) stays as in A1 -/
structure Wk (r : RIt) (A : AH) (items : List AV) (j : Option Nat) : Prop where
  ex : ∃ it lk A1, r = .ok it lk A1 ∧ Lck A lk A1 ∧ (∀ i, lk = some i → j = some i) ∧ Walks it items (fun A' => ∀ i, j = some i → A'.get i = A1.get i) ∧ (∀ i, j = some i → ∃ o, A.get i = some o)
section
variable {A A0 : AH} {s : Sl} {te : EV} {l : Sl → AH → RL}
theorem wk_tup {v : AV} {vs : List AV} (h : te s A = .ok v A0) (e : v.items = some vs) : Wk (tVal pIter te s A) A0 vs none := by
  refine ⟨itT v, none, A0, ?_, .inl ⟨rfl, rfl⟩, (fun i z => nomatch z), walks_tup e _, (fun i z => nomatch z)⟩
  show (te s A).bi pIter = _
  rw [h]
  cases v with
  | tn => rfl
  | tc a b => rfl
  | _ => cases e
theorem wk_ft {t : AV} {vs : List AV} (h : te s A = .ok (.ft t) A0) (e : t.items = some vs) : Wk (tVal pIter te s A) A0 vs none := by
  refine ⟨itT t, none, A0, ?_, .inl ⟨rfl, rfl⟩, (fun i z => nomatch z), walks_tup e _, (fun i z => nomatch z)⟩
  show (te s A).bi pIter = _
  rw [h]
  rfl
theorem wk_lst {j : Nat} {xs : List AV} (h : te s A = .ok (.ref j) A0) (e : A0.get j = some (.lst xs)) : Wk (tVal pIter te s A) A0 xs (some j) := by
  refine ⟨itL j, none, A0, ?_, .inl ⟨rfl, rfl⟩, (fun i z => nomatch z), (walks_lst j xs).mono fun A' h => (h j rfl).trans e, fun i z => by cases z; exact ⟨_, e⟩⟩
  show (te s A).bi pIter = _
  rw [h]
  show pIter (.ref j) A0 = _
  unfold pIter seqOf
  simp only [e]
theorem wk_str {x : Str} (h : te s A = .ok (.str x) A0) : Wk (tVal pIter te s A) A0 (x.cps.toList.map fun c => .str ⟨#[c]⟩) none := by
  refine ⟨itS x, none, A0, ?_, .inl ⟨rfl, rfl⟩, (fun i z => nomatch z), walks_str x _, (fun i z => nomatch z)⟩
  show (te s A).bi pIter = _
  rw [h]
  rfl
theorem lock_wk {j k : Nat} {t : Bool} {kvs : List (AV × AV)} (e : A0.get j = some (.dct t k kvs)) (m : KVI) : ∃ l lk A1, lockV (.ref j) A0 = some (t, j, l, lk, A1) ∧ Lck A0 lk A1 ∧ (∀ i, lk = some i → some j = some i) ∧
    Walks (itD m j l) (kvs.map (entry m)) (fun A' => ∀ i, some j = some i → A'.get i = A1.get i) := by
  cases k with
  | zero =>
    refine ⟨A0.n + 1, some j, A0.lockA j t kvs, ?_, .inr ⟨j, t, kvs, rfl, e, rfl⟩, fun i z => z, (walks_dct m j _ t kvs).mono fun A' h => (h j rfl).trans get_lockAt⟩
    unfold lockV
    simp only [e]
  | succ k =>
    refine ⟨k + 1, none, A0, ?_, .inl ⟨rfl, rfl⟩, (fun i z => nomatch z), (walks_dct m j _ t kvs).mono fun A' h => (h j rfl).trans e⟩
    unfold lockV
    simp only [e]
theorem wk_keys {j k : Nat} {t : Bool} {kvs : List (AV × AV)} (h : te s A = .ok (.ref j) A0) (e : A0.get j = some (.dct t k kvs)) : Wk (tVal pIter te s A) A0 (kvs.map (·.1)) (some j) := by
  obtain ⟨l, lk, A1, h1, h2, h3, h4⟩ := lock_wk e .ks
  refine ⟨itD .ks j l, lk, A1, ?_, h2, h3, h4, fun i z => by cases z; exact ⟨_, e⟩⟩
  show (te s A).bi pIter = _
  rw [h]
  show pIter (.ref j) A0 = _
  unfold pIter
  rw [show seqOf (.ref j) A0 = none by unfold seqOf; simp only [e]]
  simp only [h1]
theorem wk_view {m : KVI} {j k : Nat} {kvs : List (AV × AV)} (h : te s A = .ok (.ref j) A0) (e : A0.get j = some (.dct false k kvs)) : Wk (tVal (pView m) te s A) A0 (kvs.map (entry m)) (some j) := by
  obtain ⟨l, lk, A1, h1, h2, h3, h4⟩ := lock_wk e m
  refine ⟨itD m j l, lk, A1, ?_, h2, h3, h4, fun i z => by cases z; exact ⟨_, e⟩⟩
  show (te s A).bi (pView m) = _
  rw [h]
  show pView m (.ref j) A0 = _
  unfold pView
  rw [h1]
theorem wk_rng1 {n : Int} (h : l s A = .ok [.int n] A0) (hn : small62 n = true) : Wk (tArg pRng1 l s A) A0 ((List.range n.toNat).map fun i => .int (0 + (i : Nat))) none := by
  refine ⟨itR 0 n.toNat, none, A0, ?_, .inl ⟨rfl, rfl⟩, (fun i z => nomatch z), walks_rng _ _ _, (fun i z => nomatch z)⟩
  show (l s A).bi pRng1 = _
  rw [h]
  show pRng1 [.int n] A0 = _
  unfold pRng1
  simp only [hn]
theorem wk_rng2 {m n : Int} (h : l s A = .ok [.int m, .int n] A0) (hn : (small62 m && small62 n) = true) : Wk (tArg pRng2 l s A) A0 ((List.range (n - m).toNat).map fun i => .int (m + (i : Nat))) none := by
  refine ⟨itR m (n - m).toNat, none, A0, ?_, .inl ⟨rfl, rfl⟩, (fun i z => nomatch z), walks_rng _ _ _, (fun i z => nomatch z)⟩
  show (l s A).bi pRng2 = _
  rw [h]
  show pRng2 [.int m, .int n] A0 = _
  unfold pRng2
  simp only [hn]
theorem wk_enum {j : Nat} {xs : List AV} (h : l s A = .ok [.ref j] A0) (e : A0.get j = some (.lst xs)) : Wk (tArg pEnum l s A) A0 (xs.mapIdx fun i v => .tc (.int (i : Nat)) (.tc v .tn)) (some j) := by
  refine ⟨itE (itL j), none, A0, ?_, .inl ⟨rfl, rfl⟩, (fun i z => nomatch z), walks_enum ((walks_lst j xs).mono fun A' h => (h j rfl).trans e), fun i z => by cases z; exact ⟨_, e⟩⟩
  show (l s A).bi pEnum = _
  rw [h]
  show pEnum [.ref j] A0 = _
  unfold pEnum seqOf
  simp only [e]
end
/-! ## comprehensions -/
theorem lcPut_eq {r : Nat} {xs : List AV} {y : AV} {A : AH} (h : A.get r = some (.lst xs)) (hl : xs.length < 16777216) : lcPut r y A = some (A.set r (.lst (xs ++ [y]))) := by
  unfold lcPut
  rw [h]
  simp only [show Nat.blt xs.length 16777216 = true from Nat.ble_eq_true_of_le hl]
theorem dcPut_eq {r : Nat} {kvs : List (AV × AV)} {y z : AV} {A : AH} (h : A.get r = some (.dct false 0 kvs)) (hk : isK y = true) (hl : kvs.length < 16777216) : dcPut r y z A = some (A.set r (.dct false 0 (dput kvs y z))) := by
  unfold dcPut
  rw [h]
  simp only [hk, show Nat.blt kvs.length 16777216 = true from Nat.ble_eq_true_of_le hl]
theorem Ext.keep {A A' : AH} {lk : Option Nat} {B : AH} (h : Lck B lk A) {j : Option Nat} (e : Ext A A') (hj : ∀ i, j = some i → ∃ o, B.get i = some o) : ∀ i, j = some i → A'.get i = A.get i := fun i z => by
  obtain ⟨o, q⟩ := hj i z
  rcases h.get q with ⟨t, k, kvs, _, k', e1⟩ | e1
  · rw [e1]; exact e.get i _ e1
  · rw [e1]; exact e.get i _ e1
/-- [f v for v in .. if p v], the parts leave what stood -/
theorem lc_map {t : Sl → AH → RIt} {tg : Tgt} {c e : EV} {own : List Nat} {s : Sl} {A A0 : AH} {items : List AV} {j : Option Nat} (wk : Wk (t s A) A0 items j) (w : WF A0) (p : AV → Bool) (f : AV → AV) (hl : items.length < 1000000)
    (hb : ∀ v, v ∈ items → ∀ A1 A', (∃ lk, Lck A0 lk A1) → Ext A1 A' → ∃ s1, tgS tg v (wipeA s own) = some s1 ∧ ∃ A2, c s1 A' = .ok (.bl (p v)) A2 ∧ Ext A' A2 ∧ (p v = true → ∃ A3, e s1 A2 = .ok (f v) A3 ∧ Ext A2 A3)) :
    ∃ A' r, eLc t tg c e own s A = .ok (.ref r) A' ∧ Ext A0 A' ∧ A0.n ≤ r ∧ A'.get r = some (.lst ((items.filter p).map f)) := by
  obtain ⟨it, lk, A1, h1, h2, h3, h4, h5⟩ := wk.ex
  have w1 := h2.wf w
  have hw : Walks it items (fun A' => Ext A1 A') := h4.mono fun A' e' => e'.keep h2 h5
  obtain ⟨A', h6, h7⟩ := turn_inv (tg := tg) (tu := lcTurn c e A1.n) (s0 := wipeA s own) (q := A1.n) hw (fun d A' => Ext A1 A' ∧ A'.get A1.n = some (.lst ((d.filter p).map f)) ∧ d.length ≤ items.length) (fun d A h => h.1)
    (fun d v r A' e1 ⟨i1, i2, i3⟩ => by
      obtain ⟨s1, h8, A2, h9, h10, h11⟩ := hb v (by rw [e1]; simp) A1 A' ⟨lk, h2⟩ i1
      have hd : d.length + 1 ≤ items.length := by rw [e1]; simp
      have h12 : ((d.filter p).map f).length < 16777216 := by
        have := List.length_filter_le p d
        simp only [List.length_map]; omega
      cases hp : p v with
      | false =>
        refine ⟨s1, A2, h8, ?_, i1.trans h10, ?_, by simpa using hd⟩
        · unfold lcTurn
          rw [h9, hp]
        · rw [List.filter_append, List.filter_cons_of_neg (by simp [hp]), List.filter_nil, List.append_nil]
          exact h10.get _ _ i2
      | true =>
        obtain ⟨A3, h13, h14⟩ := h11 hp
        have h15 := h14.get _ _ (h10.get _ _ i2)
        refine ⟨s1, A3.set A1.n (.lst ((d.filter p).map f ++ [f v])), h8, ?_, ((i1.trans h10).trans h14).set w1 (Nat.le_refl _) (h14.wf.lt h15), ?_, by simpa using hd⟩
        · unfold lcTurn
          rw [h9, hp]
          simp only [h13]
          exact lcPut_eq h15 h12
        · rw [get_at, List.filter_append, List.filter_cons_of_pos (by simp [hp]), List.filter_nil, List.map_append, List.map_cons, List.map_nil])
    1000000 [] items (A1.push (.lst [])) rfl hl ⟨Ext.push w1, get_new, Nat.zero_le _⟩
  obtain ⟨A2, h8, h9, h10, h11⟩ := h2.unE w h7.1 (.ref A1.n)
  refine ⟨A2, A1.n, ?_, h9, h2.n, by rw [h10 _ h2.n]; exact h7.2.1⟩
  show (t s A).bd _ = _
  rw [h1]
  show unlE lk (turnF it tg (lcTurn c e A1.n) (wipeA s own) A1.n 1000000 0 (A1.push (.lst []))) = _
  have h6 : turnF it tg (lcTurn c e A1.n) (wipeA s own) A1.n 1000000 0 (A1.push (.lst [])) = .ok (.ref A1.n) A' := h6
  rw [h6, h8]
/-- {k v: f v for v in .. if p v} -/
theorem dc_map {t : Sl → AH → RIt} {tg : Tgt} {c k e : EV} {own : List Nat} {s : Sl} {A A0 : AH} {items : List AV} {j : Option Nat} (wk : Wk (t s A) A0 items j) (w : WF A0) (p : AV → Bool) (g f : AV → AV) (hl : items.length < 1000000)
    (hk : ∀ v, v ∈ items → p v = true → isK (g v) = true)
    (hb : ∀ v, v ∈ items → ∀ A1 A', (∃ lk, Lck A0 lk A1) → Ext A1 A' → ∃ s1, tgS tg v (wipeA s own) = some s1 ∧ ∃ A2, c s1 A' = .ok (.bl (p v)) A2 ∧ Ext A' A2 ∧ (p v = true → ∃ A3, k s1 A2 = .ok (g v) A3 ∧ Ext A2 A3 ∧ ∃ A4, e s1 A3 = .ok (f v) A4 ∧ Ext A3 A4)) :
    ∃ A' r, eDc t tg c k e own s A = .ok (.ref r) A' ∧ Ext A0 A' ∧ A0.n ≤ r ∧ A'.get r = some (.dct false 0 ((items.filter p).foldl (fun kvs v => dput kvs (g v) (f v)) [])) := by
  obtain ⟨it, lk, A1, h1, h2, h3, h4, h5⟩ := wk.ex
  have w1 := h2.wf w
  have hw : Walks it items (fun A' => Ext A1 A') := h4.mono fun A' e' => e'.keep h2 h5
  have dlen : ∀ (kvs : List (AV × AV)) (y z : AV), (dput kvs y z).length ≤ kvs.length + 1 := fun kvs y z => by
    unfold dput
    cases dget kvs y with
    | none => simp
    | some _ =>
      have : ∀ l : List (AV × AV), (dmap l y z).length = l.length := fun l => by
        induction l with
        | nil => rfl
        | cons q r ih =>
          show (match aEq q.1 y with | true => (q.1, z) :: dmap r y z | false => q :: dmap r y z).length = _
          cases aEq q.1 y <;> simp [ih]
      rw [this]; omega
  obtain ⟨A', h6, h7⟩ := turn_inv (tg := tg) (tu := dcTurn c k e A1.n) (s0 := wipeA s own) (q := A1.n) hw (fun d A' => Ext A1 A' ∧ A'.get A1.n = some (.dct false 0 ((d.filter p).foldl (fun kvs v => dput kvs (g v) (f v)) [])) ∧ d.length ≤ items.length ∧ ((d.filter p).foldl (fun kvs v => dput kvs (g v) (f v)) []).length ≤ d.length) (fun d A h => h.1)
    (fun d v r A' e1 ⟨i1, i2, i3, i4⟩ => by
      obtain ⟨s1, h8, A2, h9, h10, h11⟩ := hb v (by rw [e1]; simp) A1 A' ⟨lk, h2⟩ i1
      have hd : d.length + 1 ≤ items.length := by rw [e1]; simp
      cases hp : p v with
      | false =>
        have ef : (d ++ [v]).filter p = d.filter p := by rw [List.filter_append, List.filter_cons_of_neg (by simp [hp]), List.filter_nil, List.append_nil]
        refine ⟨s1, A2, h8, ?_, i1.trans h10, ?_, by simpa using hd, ?_⟩
        · unfold dcTurn
          rw [h9, hp]
        · rw [ef]
          exact h10.get _ _ i2
        · rw [ef, List.length_append]; omega
      | true =>
        have ef : (d ++ [v]).filter p = d.filter p ++ [v] := by rw [List.filter_append, List.filter_cons_of_pos (by simp [hp]), List.filter_nil]
        obtain ⟨A3, h13, h14, A4, h15, h16⟩ := h11 hp
        have h17 := h16.get _ _ (h14.get _ _ (h10.get _ _ i2))
        refine ⟨s1, A4.set A1.n (.dct false 0 (dput ((d.filter p).foldl (fun kvs v => dput kvs (g v) (f v)) []) (g v) (f v))), h8, ?_, (((i1.trans h10).trans h14).trans h16).set w1 (Nat.le_refl _) (h16.wf.lt h17), ?_, by simpa using hd, ?_⟩
        · unfold dcTurn
          rw [h9, hp]
          simp only [h13, h15]
          exact dcPut_eq h17 (hk v (by rw [e1]; simp) hp) (by omega)
        · rw [get_at, ef, List.foldl_append]
          rfl
        · rw [ef, List.foldl_append, List.length_append]
          have := dlen ((d.filter p).foldl (fun kvs v => dput kvs (g v) (f v)) []) (g v) (f v)
          simp only [List.foldl_cons, List.foldl_nil, List.length_singleton]
          omega)
    1000000 [] items (A1.push (.dct false 0 [])) rfl hl ⟨Ext.push w1, get_new, Nat.zero_le _, Nat.le_refl _⟩
  obtain ⟨A2, h8, h9, h10, h11⟩ := h2.unE w h7.1 (.ref A1.n)
  refine ⟨A2, A1.n, ?_, h9, h2.n, by rw [h10 _ h2.n]; exact h7.2.1⟩
  show (t s A).bd _ = _
  rw [h1]
  show unlE lk (turnF it tg (dcTurn c k e A1.n) (wipeA s own) A1.n 1000000 0 (A1.push (.dct false 0 []))) = _
  have h6 : turnF it tg (dcTurn c k e A1.n) (wipeA s own) A1.n 1000000 0 (A1.push (.dct false 0 [])) = .ok (.ref A1.n) A' := h6
  rw [h6, h8]
/-! ## for -/
/-- for v in ..: the walked object stays; A1 the heap while it is walked, A2 behind the loop -/
theorem for_walk {t : Sl → AH → RIt} {tg : Tgt} {b : SV} {s : Sl} {A A0 : AH} {items : List AV} {j : Option Nat} (wk : Wk (t s A) A0 items j) (hl : items.length < 1000000) (I : List AV → Sl → AH → Prop)
    (h0 : ∀ lk A1, Lck A0 lk A1 → (∀ i, lk = some i → j = some i) → I [] s A1) (hv : ∀ lk A1, Lck A0 lk A1 → ∀ d s A', I d s A' → ∀ i, j = some i → A'.get i = A1.get i)
    (step : ∀ d v r s A', items = d ++ v :: r → I d s A' → ∃ s1 s2 A2, tgS tg v s = some s1 ∧ (b s1 A' = .nx s2 A2 ∨ b s1 A' = .ct s2 A2) ∧ I (d ++ [v]) s2 A2) :
    ∃ lk A1 s' A' A2, sFor t tg b s A = .nx s' A2 ∧ I items s' A' ∧ Lck A0 lk A1 ∧ Unl A0 lk A1 A' A2 ∧ (∀ i, lk = some i → j = some i) := by
  obtain ⟨it, lk, A1, h1, h2, h3, h4, h5⟩ := wk.ex
  obtain ⟨s', A', h6, h7⟩ := for_inv h4 I (fun d s A' hi => hv lk A1 h2 d s A' hi) step 1000000 [] items s A1 rfl hl (h0 lk A1 h2 h3)
  obtain ⟨A2, h8, h9⟩ := h2.unS s' fun i e => hv lk A1 h2 _ _ _ h7 i (h3 i e)
  refine ⟨lk, A1, s', A', A2, ?_, h7, h2, h9, h3⟩
  show (t s A).bs s _ = _
  rw [h1]
  show unlS lk (forF it tg b 1000000 0 s A1) = _
  have h6 : forF it tg b 1000000 0 s A1 = .nx s' A' := h6
  rw [h6, h8]
end ZV
end
section
/-! Z42: == and in of plain data: no references, no Bools. -/
namespace ZV
open PySem PySem.Spec PyProof.Rows L2 Z
/-- plain, of at most so many levels -/
def plain : Nat → AV → Bool
  | 0, _ => false
  | n + 1, v => match v with
    | .non => true
    | .int _ => true
    | .str _ => true
    | .tn => true
    | .tc h t => plain n h && plain (n + 1) t && isT t
    | _ => false
where isT : AV → Bool
  | .tn => true
  | .tc _ _ => true
  | _ => false
def datP : AV → PyData
  | .non => .none
  | .int i => .int i
  | .str x => .str x
  | .tn => .tuple []
  | .tc h t => match datP t with
    | .tuple ds => .tuple (datP h :: ds)
    | _ => .none
  | _ => .none
theorem datP_tup : ∀ {n : Nat} {v : AV}, plain (n + 1) v = true → plain.isT v = true → ∃ vs, v.items = some vs ∧ datP v = .tuple (vs.map datP) ∧ ∀ x ∈ vs, plain n x = true
  | n, .tn, _, _ => ⟨[], rfl, rfl, fun x h => by cases h⟩
  | n, .tc h t, p, _ => by
    have p' : (plain n h && plain (n + 1) t && plain.isT t) = true := p
    simp only [Bool.and_eq_true] at p'
    obtain ⟨vs, e1, e2, e3⟩ := datP_tup p'.1.2 p'.2
    refine ⟨h :: vs, ?_, ?_, fun x hx => ?_⟩
    · unfold AV.items
      rw [e1]
    · show (match datP t with | .tuple ds => PyData.tuple (datP h :: ds) | _ => .none) = _
      rw [e2]
      rfl
    · rcases List.mem_cons.mp hx with rfl | hx
      · exact p'.1.1
      · exact e3 x hx
theorem mapO_all {f : AV → Option PyData} {g : AV → PyData} : ∀ {vs : List AV}, (∀ v ∈ vs, f v = some (g v)) → mapO f vs = some (vs.map g)
  | [], _ => rfl
  | v :: r, h => by
    show (match f v with | some d => (match mapO f r with | some ds => some (d :: ds) | none => none) | none => none) = _
    rw [h v List.mem_cons_self, mapO_all fun x hx => h x (List.mem_cons_of_mem _ hx)]
    rfl
theorem datV_plain (A : AH) : ∀ {n : Nat} {v : AV}, plain n v = true → datV n A v = some (datP v)
  | 0, _, h => by unfold plain at h; cases h
  | n + 1, .non, _ => rfl
  | n + 1, .int _, _ => rfl
  | n + 1, .str _, _ => rfl
  | n + 1, .tn, _ => by
    unfold datV
    rfl
  | n + 1, .tc h t, p => by
    obtain ⟨vs, e1, e2, e3⟩ := datP_tup p rfl
    unfold datV
    have es : seqL (.tc h t) A = some (false, vs) := by
      show (match t.items with | some xs => some (false, h :: xs) | none => none) = _
      unfold AV.items at e1
      cases q : t.items with
      | none => rw [q] at e1; cases e1
      | some r => rw [q] at e1; cases e1; rfl
    simp only [es]
    rw [mapO_all fun v hv => datV_plain A (e3 v hv), e2]
  | n + 1, .bl _, h => by cases h
  | n + 1, .fn _, h => by cases h
  | n + 1, .cl _, h => by cases h
  | n + 1, .ref _, h => by cases h
  | n + 1, .fz _, h => by cases h
  | n + 1, .ft _, h => by cases h
theorem datF_plain {A : AH} {v : AV} (h : plain 40 v = true) : datF A v = some (datP v) := datV_plain A h
theorem items_inj : ∀ {v w : AV} {vs : List AV}, v.items = some vs → w.items = some vs → v = w
  | .tn, w, vs, h1, h2 => by
    have : vs = [] := by unfold AV.items at h1; cases h1; rfl
    subst this
    cases w with
    | tn => rfl
    | tc a b =>
      unfold AV.items at h2
      cases q : b.items with
      | none => rw [q] at h2; cases h2
      | some r => rw [q] at h2; cases h2
    | _ => cases h2
  | .tc a b, w, vs, h1, h2 => by
    unfold AV.items at h1
    cases q : b.items with
    | none => rw [q] at h1; cases h1
    | some r =>
      rw [q] at h1
      cases h1
      cases w with
      | tn => cases h2
      | tc c d =>
        unfold AV.items at h2
        cases q2 : d.items with
        | none => rw [q2] at h2; cases h2
        | some r2 =>
          rw [q2] at h2
          cases h2
          rw [items_inj q q2]
      | _ => cases h2
theorem dEqvL_all : ∀ {vs ws : List AV}, (∀ v ∈ vs, ∀ w ∈ ws, dEqv (datP v) (datP w) = decide (v = w)) → dEqvL (vs.map datP) (ws.map datP) = decide (vs = ws)
  | [], [], _ => by simp [dEqvL]
  | [], w :: ws, _ => by simp [dEqvL]
  | v :: vs, [], _ => by simp [dEqvL]
  | v :: vs, w :: ws, h => by
    have h1 := h v List.mem_cons_self w List.mem_cons_self
    have h2 := dEqvL_all (vs := vs) (ws := ws) fun a ha b hb => h a (List.mem_cons_of_mem _ ha) b (List.mem_cons_of_mem _ hb)
    show (match dEqv (datP v) (datP w) with | true => dEqvL (vs.map datP) (ws.map datP) | false => false) = _
    rw [h1, h2]
    by_cases q : v = w
    · subst q
      simp
    · simp [q]
theorem dEqv_plain : ∀ {n m : Nat} {v w : AV}, plain n v = true → plain m w = true → dEqv (datP v) (datP w) = decide (v = w)
  | 0, _, _, _, h, _ => by unfold plain at h; cases h
  | _, 0, _, _, _, h => by unfold plain at h; cases h
  | n + 1, m + 1, v, w, h1, h2 => by
    have tt : plain.isT v = true → plain.isT w = true → dEqv (datP v) (datP w) = decide (v = w) := fun t1 t2 => by
      obtain ⟨vs, e1, e2, e3⟩ := datP_tup h1 t1
      obtain ⟨ws, f1, f2, f3⟩ := datP_tup h2 t2
      rw [e2, f2]
      show dEqvL (vs.map datP) (ws.map datP) = _
      rw [dEqvL_all fun v hv w hw => dEqv_plain (e3 v hv) (f3 w hw)]
      by_cases q : vs = ws
      · subst q
        rw [items_inj e1 f1]
        simp
      · have : v ≠ w := fun z => by
          subst z
          rw [e1] at f1
          exact q (Option.some.inj f1)
        simp [q, this]
    have mix : plain.isT v = true → plain.isT w = false → dEqv (datP v) (datP w) = decide (v = w) := fun t1 t2 => by
      obtain ⟨vs, e1, e2, e3⟩ := datP_tup h1 t1
      rw [e2]
      have : v ≠ w := fun z => by rw [z, t2] at t1; cases t1
      rw [decide_eq_false this]
      cases w <;> first | rfl | (simp [plain.isT] at t2; done) | cases h2
    have mix2 : plain.isT v = false → plain.isT w = true → dEqv (datP v) (datP w) = decide (v = w) := fun t1 t2 => by
      obtain ⟨vs, e1, e2, e3⟩ := datP_tup h2 t2
      rw [e2]
      have : v ≠ w := fun z => by rw [z, t2] at t1; cases t1
      rw [decide_eq_false this]
      cases v <;> first | rfl | (simp [plain.isT] at t1; done) | cases h1
    cases tv : plain.isT v with
    | true =>
      cases tw : plain.isT w with
      | true => exact tt tv tw
      | false => exact mix tv tw
    | false =>
      cases tw : plain.isT w with
      | true => exact mix2 tv tw
      | false =>
        cases v with
        | non => cases w <;> first | rfl | cases h2 | cases tw
        | int i =>
          cases w with
          | int j =>
            show iEq i j = _
            rw [iEq_eq]
            simp
          | non => rfl
          | str x => rfl
          | tn => cases tw
          | tc a b => cases tw
          | _ => cases h2
        | str x =>
          cases w with
          | str y =>
            show sEq x y = _
            rw [sEq_eq]
            simp
          | non => rfl
          | int x => rfl
          | tn => cases tw
          | tc a b => cases tw
          | _ => cases h2
        | tn => cases tv
        | tc a b => cases tv
        | _ => cases h1
section
variable {D : Desc} {cl : Calls} {A : AH} {v w : AV}
theorem ok_alt {p q : AV → AV → AH → RE} {x : AV} {A1 : AH} (h : p v w A = .ok x A1) : alt2 p q v w A = .ok x A1 := by
  unfold alt2 orE
  rw [h]
theorem eq_plain (h1 : plain 40 v = true) (h2 : plain 40 w = true) : cmpPrim D cl .Eq v w A = .ok (.bl (decide (v = w))) A := by
  refine ok_alt ?_
  unfold pEqD
  rw [datF_plain h1, datF_plain h2]
  simp only [dEqv_plain h1 h2]
theorem ne_plain (h1 : plain 40 v = true) (h2 : plain 40 w = true) : cmpPrim D cl .NotEq v w A = .ok (.bl (!decide (v = w))) A := by
  refine ok_alt ?_
  unfold pEqD
  rw [datF_plain h1, datF_plain h2]
  simp only [dEqv_plain h1 h2]
theorem datF_lst {n : Nat} {xs : List AV} (h : A.get n = some (.lst xs)) (hp : ∀ x ∈ xs, plain 39 x = true) : datF A (.ref n) = some (.list (xs.map datP)) := by
  rw [z_datref, h]
  unfold datRef
  simp only
  rw [mapO_all fun v hv => datV_plain A (hp v hv)]
theorem eq_lst {n m : Nat} {xs ys : List AV} (h : A.get n = some (.lst xs)) (h' : A.get m = some (.lst ys)) (hp : ∀ x ∈ xs, plain 39 x = true) (hq : ∀ x ∈ ys, plain 39 x = true) : cmpPrim D cl .Eq (.ref n) (.ref m) A = .ok (.bl (decide (xs = ys))) A := by
  refine ok_alt ?_
  unfold pEqD
  rw [datF_lst h hp, datF_lst h' hq]
  show RE.ok (.bl (dEqvL (xs.map datP) (ys.map datP))) A = _
  rw [dEqvL_all fun v hv w hw => dEqv_plain (hp v hv) (hq w hw)]
theorem ne_lst {n m : Nat} {xs ys : List AV} (h : A.get n = some (.lst xs)) (h' : A.get m = some (.lst ys)) (hp : ∀ x ∈ xs, plain 39 x = true) (hq : ∀ x ∈ ys, plain 39 x = true) : cmpPrim D cl .NotEq (.ref n) (.ref m) A = .ok (.bl (!decide (xs = ys))) A := by
  refine ok_alt ?_
  unfold pEqD
  rw [datF_lst h hp, datF_lst h' hq]
  show RE.ok (.bl (!dEqvL (xs.map datP) (ys.map datP))) A = _
  rw [dEqvL_all fun v hv w hw => dEqv_plain (hp v hv) (hq w hw)]
end
/-! ## subscripts -/
section
variable {D : Desc} {cl : Calls} {A A1 : AH} {a b c e v k : AV} {n m : Nat} {i : Int}
theorem z_ix20 : pIx D cl (.tc a (.tc b .tn)) (.int 0) A = .ok a A := rfl
theorem z_ix21 : pIx D cl (.tc a (.tc b .tn)) (.int 1) A = .ok b A := rfl
theorem z_ix30 : pIx D cl (.tc a (.tc b (.tc c .tn))) (.int 0) A = .ok a A := rfl
theorem z_ix31 : pIx D cl (.tc a (.tc b (.tc c .tn))) (.int 1) A = .ok b A := rfl
theorem z_ix32 : pIx D cl (.tc a (.tc b (.tc c .tn))) (.int 2) A = .ok c A := rfl
theorem z_ix40 : pIx D cl (.tc a (.tc b (.tc c (.tc e .tn)))) (.int 0) A = .ok a A := rfl
theorem z_ix41 : pIx D cl (.tc a (.tc b (.tc c (.tc e .tn)))) (.int 1) A = .ok b A := rfl
theorem z_ix42 : pIx D cl (.tc a (.tc b (.tc c (.tc e .tn)))) (.int 2) A = .ok c A := rfl
theorem z_ix43 : pIx D cl (.tc a (.tc b (.tc c (.tc e .tn)))) (.int 3) A = .ok e A := rfl
theorem z_ixb {t : Bool} : pIx D cl (.tc a (.tc b .tn)) (.bl t) A = .ok (cond t b a) A := by cases t <;> rfl
theorem pixseq {xs : List AV} {j : Nat} (hj : place xs.length i = some j) (hv : xs[j]? = some v) : pIxSeq xs (.int i) A = .ok v A := by
  unfold pIxSeq
  simp only [hj, nth_eq, hv]
theorem ix_lst {xs : List AV} {j : Nat} (h : A.get n = some (.lst xs)) (hj : place xs.length i = some j) (hv : xs[j]? = some v) : pIx D cl (.ref n) (.int i) A = .ok v A := by
  refine ok_alt ?_
  unfold pItem
  simp only [z_seqref, h, z_seqref1]
  exact pixseq hj hv
theorem ix_tup {vs : List AV} {j : Nat} (hj : place vs.length i = some j) (hv : vs[j]? = some v) : pIx D cl (AV.tup vs) (.int i) A = .ok v A := by
  refine ok_alt ?_
  unfold pItem
  simp only [seq_tup]
  exact pixseq hj hv
theorem ix_dct {t : Bool} {lk : Nat} {kvs : List (AV × AV)} (h : A.get n = some (.dct t lk kvs)) (hk : keyFor t k = true) (hv : dget kvs k = some v) : pIx D cl (.ref n) k A = .ok v A := by
  refine ok_alt ?_
  unfold pItem
  simp only [z_seqref, h, z_seqrefd, z_mat, z_matd, z_pget]
  unfold dctR
  simp only [hk, hv]
theorem ix_ins {c : Nat} {fs : List (Nat × AV)} (h : A.get n = some (.ins c fs)) (ha : attrOf D c 0 = some (.meth m)) (e : callK D cl m [.ref n, k] A = .ok v A1) : pIx D cl (.ref n) k A = .ok v A1 := by
  refine ok_alt ?_
  unfold pItem
  simp only [z_seqref, h, z_seqrefi, z_mat, z_mat1, ha, z_mat2]
  exact e
theorem place_nat {n j : Nat} (h : j < n) : place n (.ofNat j) = some j := by
  unfold place
  simp only [show Nat.blt j n = true from Nat.ble_eq_true_of_le h]
theorem place_int {n : Nat} {i : Int} (h0 : 0 ≤ i) (h1 : i < n) : place n i = some i.toNat := by
  obtain ⟨j, rfl⟩ := Int.eq_ofNat_of_zero_le h0
  exact place_nat (by omega)
/-! dicts written down -/
def fDisp (r : RL) (n : Nat) : RE := r.bd fun vs A1 => match unPair vs with
  | some kvs => (match Nat.ble kvs.length 15 with
    | true => (match A1.get n with
      | some (.dct false lk old) => (match lk with
        | 0 => (match old with
          | [] => .ok (.ref n) (A1.set n (.dct false 0 (dmerge [] kvs)))
          | _ :: _ => .bad)
        | _ + 1 => .bad)
      | _ => .bad)
    | false => .bad)
  | none => .bad
theorem z_disp {ps : List (EV × EV)} {s : Sl} : eDisp ps s A = fDisp (lPairs ps s (A.push (.dct false 0 []))) A.n := rfl
theorem z_pairs {p : EV × EV} {r : List (EV × EV)} {s : Sl} : lPairs (p :: r) s A = lCons p.1 (lCons p.2 (lPairs r)) s A := rfl
theorem z_pairs0 {s : Sl} : lPairs [] s A = .ok [] A := rfl
theorem disp_ok {vs : List AV} {kvs : List (AV × AV)} (h : unPair vs = some kvs) (hl : kvs.length ≤ 15) (hn : A.get n = some (.dct false 0 [])) : fDisp (.ok vs A) n = .ok (.ref n) (A.set n (.dct false 0 (dmerge [] kvs))) := by
  unfold fDisp RL.bd
  simp only [h, Nat.ble_eq_true_of_le hl, hn]
end
/-! ## locked heaps -/
theorem Lck.insK {A A1 : AH} {lk : Option Nat} (h : Lck A lk A1) {i c : Nat} {fs : List (Nat × AV)} (e : A.get i = some (.ins c fs)) : A1.get i = some (.ins c fs) := by
  rcases h.get e with ⟨t, k, kvs, z, _⟩ | q
  · cases z
  · exact q
theorem Lck.lstK {A A1 : AH} {lk : Option Nat} (h : Lck A lk A1) {i : Nat} {xs : List AV} (e : A.get i = some (.lst xs)) : A1.get i = some (.lst xs) := by
  rcases h.get e with ⟨t, k, kvs, z, _⟩ | q
  · cases z
  · exact q
theorem Lck.dctK {A A1 : AH} {lk : Option Nat} (h : Lck A lk A1) {i k : Nat} {t : Bool} {kvs : List (AV × AV)} (e : A.get i = some (.dct t k kvs)) : ∃ k', A1.get i = some (.dct t k' kvs) := by
  rcases h.get e with ⟨t, k, kvs, z, q⟩ | q
  · cases z; exact q
  · exact ⟨_, q⟩
/-! ## built-ins over lists -/
section
variable {A : AH} {n : Nat} {xs : List AV}
theorem lstOf_ref (h : A.get n = some (.lst xs)) : lstOf (.ref n) A = some xs := by
  unfold lstOf
  simp only [z_seqref, h, z_seqref1]
theorem allany_lst {f : List Bool → Bool} {bs : List Bool} (h : A.get n = some (.lst xs)) (e : pBls xs = some bs) : pAllAny f [.ref n] A = .ok (.bl (f bs)) A := by
  unfold pAllAny
  simp only [lstOf_ref h, e]
theorem sum_lst {is : List Int} (h : A.get n = some (.lst xs)) (e : pInts xs = some is) : pSum [.ref n] A = .ok (.int (iSum is)) A := by
  unfold pSum
  simp only [lstOf_ref h, e]
theorem pInts_map : ∀ is : List Int, pInts (is.map AV.int) = some is
  | [] => rfl
  | i :: r => by
    show (match pInts (r.map AV.int) with | some l => some (i :: l) | none => none) = _
    rw [pInts_map r]
theorem pBls_map {α : Type} (f : α → Bool) : ∀ l : List α, pBls (l.map fun x => AV.bl (f x)) = some (l.map f)
  | [] => rfl
  | i :: r => by
    show (match pBls (r.map fun x => AV.bl (f x)) with | some l => some (f i :: l) | none => none) = _
    rw [pBls_map f r]
    rfl
theorem bAll_true : ∀ {l : List Bool}, (∀ b ∈ l, b = true) → bAll l = true
  | [], _ => rfl
  | b :: r, h => by
    have e : b = true := h b List.mem_cons_self
    subst e
    exact bAll_true (l := r) fun x hx => h x (List.mem_cons_of_mem _ hx)
theorem addL {D : Desc} {cl : Calls} {m : Nat} {ys : List AV} (h : A.get n = some (.lst xs)) (h' : A.get m = some (.lst ys)) (hl : (xs ++ ys).length ≤ 16777216) : opPrim D cl .Add (.ref n) (.ref m) A = .ok (.ref A.n) (A.push (.lst (xs ++ ys))) := by
  show alt2 pAddI (alt2 pAddS (alt2 pAddL (alt2 pAddT (pBinO D cl 4)))) (.ref n) (.ref m) A = _
  have e : pAddL (.ref n) (.ref m) A = .ok (.ref A.n) (A.push (.lst (xs ++ ys))) := by
    unfold pAddL
    simp only [h, h']
    exact z_mklst hl
  show orE .bad (fun _ => orE .bad fun _ => orE (pAddL (.ref n) (.ref m) A) _) = _
  rw [e]
  rfl
end
end ZV
end
section
open PySem Z
namespace ZV
section
variable {D : Desc} {cl : Calls} {A A1 : AH} {v : AV} {n : Nat}
def inOp (neg : Bool) : CmpOp := cond neg .NotIn .In
theorem in_skip {neg : Bool} {r : RE} (h1 : pInD neg v (.ref n) A = .bad) (h2 : pInK neg v (.ref n) A = .bad) (h : pInO D cl neg v (.ref n) A = r) : cmpPrim D cl (inOp neg) v (.ref n) A = r := by
  have h3 : pInS neg v (.ref n) A = .bad := by cases v <;> rfl
  cases neg with
  | false =>
    show alt2 (pInD false) (alt2 (pInS false) (alt2 (pInK false) (pInO D cl false))) _ _ A = _
    unfold alt2 orE
    rw [h1]
    simp only [h3, h2, h]
  | true =>
    show alt2 (pInD true) (alt2 (pInS true) (alt2 (pInK true) (pInO D cl true))) _ _ A = _
    unfold alt2 orE
    rw [h1]
    simp only [h3, h2, h]
theorem ind_bad {neg : Bool} (h : datF A (.ref n) = none) : pInD neg v (.ref n) A = .bad := by
  unfold pInD
  rw [h]
  cases datF A v <;> rfl
/-- in, where an instance stands on the right -/
theorem in_ins {neg : Bool} {c k : Nat} {fs : List (Nat × AV)} (h : A.get n = some (.ins c fs)) (ha : attrOf D c 1 = some (.meth k)) {b : Bool} (e : callK D cl k [.ref n, v] A = .ok (.bl b) A1) :
    cmpPrim D cl (inOp neg) v (.ref n) A = .ok (.bl (neB neg b)) A1 := by
  refine in_skip (ind_bad (by rw [z_datref, h]; rfl)) ?_ ?_
  · unfold pInK
    rw [z_pget, h]
    rfl
  · rw [z_ino, h, z_mat1, ha, z_mat2, z_ino1, e]
    rfl
/-- in, where a dict stands on the right -/
theorem in_dct {neg t : Bool} {k : Nat} {kvs : List (AV × AV)} (h : A.get n = some (.dct t k kvs)) (hk : keyFor t v = true) :
    cmpPrim D cl (inOp neg) v (.ref n) A = .ok (.bl (neB neg (dget kvs v).isSome)) A := by
  have h1 : pInD neg v (.ref n) A = .bad := ind_bad (by rw [z_datref, h]; rfl)
  have h3 : pInS neg v (.ref n) A = .bad := by cases v <;> rfl
  have h2 : pInK neg v (.ref n) A = .ok (.bl (neB neg (dget kvs v).isSome)) A := by
    unfold pInK
    rw [z_pget, h]
    unfold dctR
    simp only [hk]
    cases dget kvs v <;> rfl
  cases neg with
  | false =>
    show alt2 (pInD false) (alt2 (pInS false) (alt2 (pInK false) (pInO D cl false))) _ _ A = _
    unfold alt2 orE
    rw [h1]
    simp only [h3, h2]
  | true =>
    show alt2 (pInD true) (alt2 (pInS true) (alt2 (pInK true) (pInO D cl true))) _ _ A = _
    unfold alt2 orE
    rw [h1]
    simp only [h3, h2]
end
theorem in_chr {D : Desc} {cl : Calls} {A : AH} {c : Nat} {y : Str} : cmpPrim D cl .In (.str ⟨#[c]⟩) (.str y) A = .ok (.bl (nMem c y.cps.toList)) A := rfl
theorem z_lenstr {D : Desc} {cl : Calls} {A : AH} {x : Str} (h : x.cps.toList.length ≤ 16777216) : pLen D cl [.str x] A = .ok (.int x.cps.toList.length) A := by
  unfold pLen
  simp only [z_seqstr, show Nat.ble x.cps.toList.length 16777216 = true from Nat.ble_eq_true_of_le h]
theorem bAll_map {α : Type} {l : List α} : bAll (l.map fun _ => true) = true := bAll_true fun b hb => by
  obtain ⟨_, _, rfl⟩ := List.mem_map.mp hb
  rfl
/-- all([.. for ..]) where every answer is True -/
theorem all_lc {t : Sl → AH → RIt} {tg : Tgt} {e : EV} {own : List Nat} {s : Sl} {A A0 : AH} {items : List AV} {j : Option Nat} (wk : Wk (t s A) A0 items j) (w : WF A0) (hl : items.length < 1000000)
    (hb : ∀ v, v ∈ items → ∀ A1 A', (∃ lk, Lck A0 lk A1) → Ext A1 A' → ∃ s1, tgS tg v (wipeA s own) = some s1 ∧ ∃ A3, e s1 A' = .ok (.bl true) A3 ∧ Ext A' A3) :
    ∃ A' r, eLc t tg (eC (.bl true)) e own s A = .ok (.ref r) A' ∧ pAllAny bAll [.ref r] A' = .ok (.bl true) A' ∧ Ext A0 A' := by
  obtain ⟨A', r, h1, h2, h3, h4⟩ := lc_map (c := eC (.bl true)) wk w (fun _ => true) (fun _ => .bl true) hl (by
    intro v hv A1 A' hk hx
    obtain ⟨s1, g1, A3, g2, g3⟩ := hb v hv A1 A' hk hx
    exact ⟨s1, g1, A', rfl, .rfl' hx.wf, fun _ => ⟨A3, g2, g3⟩⟩)
  refine ⟨A', r, h1, ?_, h2⟩
  rw [allany_lst h4 (pBls_map (fun _ => true) _), bAll_map]
theorem Lck.same {A A1 : AH} {lk j : Option Nat} (h : Lck A lk A1) (hj : ∀ i, lk = some i → j = some i) (nd : ∀ i, j = some i → ∃ xs, A.get i = some (.lst xs)) : lk = none ∧ A1 = A := by
  rcases h with h | ⟨i, t, kvs, e1, e2, e3⟩
  · exact h
  · obtain ⟨xs, e⟩ := nd i (hj i e1)
    rw [e] at e2
    cases e2
/-- for over what is no dict, where the parts leave what stood -/
theorem for_ext {t : Sl → AH → RIt} {tg : Tgt} {b : SV} {s : Sl} {A A0 : AH} {items : List AV} {j : Option Nat} (wk : Wk (t s A) A0 items j) (w : WF A0) (hl : items.length < 1000000) (nd : ∀ i, j = some i → ∃ xs, A0.get i = some (.lst xs))
    (I : List AV → Sl → AH → Prop) (h0 : I [] s A0)
    (step : ∀ d v r s A', items = d ++ v :: r → Ext A0 A' → I d s A' → ∃ s1 s2 A2, tgS tg v s = some s1 ∧ (b s1 A' = .nx s2 A2 ∨ b s1 A' = .ct s2 A2) ∧ Ext A' A2 ∧ I (d ++ [v]) s2 A2) :
    ∃ s' A', sFor t tg b s A = .nx s' A' ∧ Ext A0 A' ∧ I items s' A' := by
  obtain ⟨lk, A1, s', A', A2, e1, e2, e3, e4, e5⟩ := for_walk wk hl (fun d s A' => Ext A0 A' ∧ I d s A') (fun lk A1 h hj => by
      obtain ⟨_, rfl⟩ := h.same hj nd
      exact ⟨.rfl' w, h0⟩) (fun lk A1 h d s A' hi i hj => by
      obtain ⟨xs, e⟩ := nd i hj
      rw [hi.1.get i _ e]
      rcases h.get e with ⟨_, _, _, z, _⟩ | z
      · cases z
      · exact z.symm) (fun d v r s A' e hi => by
      obtain ⟨s1, s2, A2, g1, g2, g3, g4⟩ := step d v r s A' e hi.1 hi.2
      exact ⟨s1, s2, A2, g1, g2, hi.1.trans g3, g4⟩)
  obtain ⟨rfl, rfl⟩ := e3.same e5 nd
  rcases e4 with ⟨_, rfl⟩ | ⟨_, _, _, z, _⟩
  · exact ⟨s', A2, e1, e2.1, e2.2⟩
  · cases z
end ZV
end
section
open PySem Z
namespace ZV
/-! ## dicts with str keys -/
theorem aEq_str (x y : Str) : aEq (.str x) (.str y) = decide (x = y) := by
  show Z.sEq x y = _
  rw [sEq_eq]
section
variable {α : Type} (nm : α → Str) (f : α → AV)
def kvO (L : List α) : List (AV × AV) := L.map fun x => (AV.str (nm x), f x)
variable {nm f}
theorem dget_none {L : List α} {k : Str} (h : ∀ x ∈ L, nm x ≠ k) : dget (kvO nm f L) (.str k) = none := by
  induction L with
  | nil => rfl
  | cons x r ih =>
    show (match aEq (.str (nm x)) (.str k) with | true => some (f x) | false => dget (kvO nm f r) (.str k)) = none
    rw [aEq_str, decide_eq_false (h x (List.mem_cons_self ..))]
    exact ih fun y hy => h y (List.mem_cons_of_mem _ hy)
theorem dget_some {L : List α} (hd : L.Pairwise fun x y => nm x ≠ nm y) {x : α} (hx : x ∈ L) : dget (kvO nm f L) (.str (nm x)) = some (f x) := by
  induction L with
  | nil => cases hx
  | cons y r ih =>
    show (match aEq (.str (nm y)) (.str (nm x)) with | true => some (f y) | false => dget (kvO nm f r) (.str (nm x))) = _
    rw [aEq_str]
    rw [List.pairwise_cons] at hd
    rcases List.mem_cons.mp hx with rfl | hx
    · rw [decide_eq_true rfl]
    · rw [decide_eq_false (hd.1 x hx)]
      exact ih hd.2 hx
end
theorem dget_app {kvs : List (AV × AV)} {k v k' : AV} (h : aEq k k' = false) : dget (kvs ++ [(k, v)]) k' = dget kvs k' := by
  induction kvs with
  | nil => show (match aEq k k' with | true => some v | false => dget [] k') = _; rw [h]
  | cons p r ih =>
    show (match aEq p.1 k' with | true => some p.2 | false => dget (r ++ [(k, v)]) k') = (match aEq p.1 k' with | true => some p.2 | false => dget r k')
    rw [ih]
theorem dput_none {kvs : List (AV × AV)} {k v : AV} (h : dget kvs k = none) : dput kvs k v = kvs ++ [(k, v)] := by
  unfold dput
  rw [h]
section
variable {α : Type} {nm : α → Str} {f : α → AV}
theorem fold_str : ∀ {L : List α} {acc : List (AV × AV)}, (∀ x ∈ L, dget acc (.str (nm x)) = none) → (L.Pairwise fun x y => nm x ≠ nm y) → L.foldl (fun kvs x => dput kvs (.str (nm x)) (f x)) acc = acc ++ kvO nm f L
  | [], acc, _, _ => (List.append_nil _).symm
  | x :: r, acc, h, hd => by
    rw [List.pairwise_cons] at hd
    rw [List.foldl_cons, dput_none (h x (List.mem_cons_self ..)), fold_str (fun y hy => by rw [dget_app (by rw [aEq_str, decide_eq_false (hd.1 y hy)])]; exact h y (List.mem_cons_of_mem _ hy)) hd.2, List.append_assoc]
    rfl
theorem merge_str : ∀ {L : List α} {acc : List (AV × AV)}, (∀ x ∈ L, dget acc (.str (nm x)) = none) → (L.Pairwise fun x y => nm x ≠ nm y) → dmerge acc (kvO nm f L) = acc ++ kvO nm f L
  | [], acc, _, _ => (List.append_nil _).symm
  | x :: r, acc, h, hd => by
    rw [List.pairwise_cons] at hd
    show dmerge (dput acc (.str (nm x)) (f x)) (kvO nm f r) = _
    rw [dput_none (h x (List.mem_cons_self ..)), merge_str (fun y hy => by rw [dget_app (by rw [aEq_str, decide_eq_false (hd.1 y hy)])]; exact h y (List.mem_cons_of_mem _ hy)) hd.2, List.append_assoc]
    rfl
theorem pairL_str : ∀ L : List α, pairL (L.map fun x => AV.tc (.str (nm x)) (.tc (f x) .tn)) = some (kvO nm f L)
  | [] => rfl
  | x :: r => by
    rw [List.map_cons]
    unfold pairL
    rw [pairL_str r]
    rfl
end
/-! ## walks over lists of one's own -/
section
variable {α : Type} {ent : α → AV} {L : List α}
theorem find_ent (inj : ∀ x ∈ L, ∀ y ∈ L, ent x = ent y → x = y) {x : α} (hx : x ∈ L) : L.find? (fun y => decide (ent y = ent x)) = some x := by
  cases e : L.find? (fun y => decide (ent y = ent x)) with
  | none =>
    have := List.find?_eq_none.mp e x hx
    simp at this
  | some y =>
    have h1 := List.find?_some e
    have h2 := List.mem_of_find?_eq_some e
    rw [inj y h2 x hx (of_decide_eq_true h1)]
def viaL (ent : α → AV) (L : List α) {β : Type} (z : β) (f : α → β) (v : AV) : β := match L.find? fun y => decide (ent y = v) with
  | some y => f y
  | none => z
theorem viaL_eq (inj : ∀ x ∈ L, ∀ y ∈ L, ent x = ent y → x = y) {β : Type} {z : β} {f : α → β} {x : α} (hx : x ∈ L) : viaL ent L z f (ent x) = f x := by
  unfold viaL
  rw [find_ent inj hx]
theorem filter_via (inj : ∀ x ∈ L, ∀ y ∈ L, ent x = ent y → x = y) (p : α → Bool) : (L.map ent).filter (viaL ent L false p) = (L.filter p).map ent := by
  rw [List.filter_map]
  congr 1
  exact List.filter_congr fun x hx => viaL_eq inj hx
variable {t : Sl → AH → RIt} {tg : Tgt} {c e : EV} {own : List Nat} {s : Sl} {A A0 : AH} {j : Option Nat}
theorem lc_G (inj : ∀ x ∈ L, ∀ y ∈ L, ent x = ent y → x = y) (wk : Wk (t s A) A0 (L.map ent) j) (w : WF A0) (p : α → Bool) (f : α → AV) (hl : L.length < 1000000)
    (hb : ∀ x, x ∈ L → ∀ A1 A', (∃ lk, Lck A0 lk A1) → Ext A1 A' → ∃ s1, tgS tg (ent x) (wipeA s own) = some s1 ∧ ∃ A2, c s1 A' = .ok (.bl (p x)) A2 ∧ Ext A' A2 ∧ (p x = true → ∃ A3, e s1 A2 = .ok (f x) A3 ∧ Ext A2 A3)) :
    ∃ A' r, eLc t tg c e own s A = .ok (.ref r) A' ∧ Ext A0 A' ∧ A0.n ≤ r ∧ A'.get r = some (.lst ((L.filter p).map f)) := by
  obtain ⟨A', r, h1, h2, h3, h4⟩ := lc_map wk w (viaL ent L false p) (viaL ent L .non f) (by rw [List.length_map]; exact hl) (by
    intro v hv A1 A' hk hx
    obtain ⟨x, hx2, rfl⟩ := List.mem_map.mp hv
    rw [viaL_eq inj hx2, viaL_eq inj hx2]
    exact hb x hx2 A1 A' hk hx)
  refine ⟨A', r, h1, h2, h3, ?_⟩
  rw [h4, filter_via inj, List.map_map]
  congr 2
  exact List.map_congr_left fun x hx => viaL_eq inj ((List.mem_filter.mp hx).1)
theorem dc_G {k : EV} {nm : α → Str} (inj : ∀ x ∈ L, ∀ y ∈ L, ent x = ent y → x = y) (hd : L.Pairwise fun x y => nm x ≠ nm y) (wk : Wk (t s A) A0 (L.map ent) j) (w : WF A0) (p : α → Bool) (f : α → AV) (hl : L.length < 1000000)
    (hb : ∀ x, x ∈ L → ∀ A1 A', (∃ lk, Lck A0 lk A1) → Ext A1 A' → ∃ s1, tgS tg (ent x) (wipeA s own) = some s1 ∧ ∃ A2, c s1 A' = .ok (.bl (p x)) A2 ∧ Ext A' A2 ∧ (p x = true → ∃ A3, k s1 A2 = .ok (.str (nm x)) A3 ∧ Ext A2 A3 ∧ ∃ A4, e s1 A3 = .ok (f x) A4 ∧ Ext A3 A4)) :
    ∃ A' r, eDc t tg c k e own s A = .ok (.ref r) A' ∧ Ext A0 A' ∧ A0.n ≤ r ∧ A'.get r = some (.dct false 0 (kvO nm f (L.filter p))) := by
  obtain ⟨A', r, h1, h2, h3, h4⟩ := dc_map (k := k) wk w (viaL ent L false p) (viaL ent L .non fun x => .str (nm x)) (viaL ent L .non f) (by rw [List.length_map]; exact hl) (by
    intro v hv _
    obtain ⟨x, hx2, rfl⟩ := List.mem_map.mp hv
    rw [viaL_eq inj hx2]
    rfl) (by
    intro v hv A1 A' hk hx
    obtain ⟨x, hx2, rfl⟩ := List.mem_map.mp hv
    rw [viaL_eq inj hx2, viaL_eq inj hx2, viaL_eq inj hx2]
    exact hb x hx2 A1 A' hk hx)
  refine ⟨A', r, h1, h2, h3, ?_⟩
  rw [h4, filter_via inj, List.foldl_map]
  have e1 : ∀ (M : List α) (acc : List (AV × AV)), (∀ x ∈ M, x ∈ L) → M.foldl (fun kvs x => dput kvs (viaL ent L .non (fun x => .str (nm x)) (ent x)) (viaL ent L .non f (ent x))) acc = M.foldl (fun kvs x => dput kvs (.str (nm x)) (f x)) acc := by
    intro M
    induction M with
    | nil => intro acc _; rfl
    | cons x r ih =>
      intro acc h
      rw [List.foldl_cons, List.foldl_cons, viaL_eq inj (h x (List.mem_cons_self ..)), viaL_eq inj (h x (List.mem_cons_self ..))]
      exact ih _ fun y hy => h y (List.mem_cons_of_mem _ hy)
  rw [e1 _ _ fun x hx => (List.mem_filter.mp hx).1, fold_str (fun _ _ => rfl) (hd.filter p)]
  rfl
end
/-! ## one's own dict filled in a loop -/
theorem set_dct {A : AH} {i : Nat} {kvs : List (AV × AV)} {k v : AV} (h : A.get i = some (.dct false 0 kvs)) (hk : isK k = true) (hl : kvs.length < 16777216) : pSetI (.ref i) k v A = some (A.set i (.dct false 0 (dput kvs k v))) := by
  unfold pSetI pPut keyFor
  simp only [h, hk, show Nat.blt kvs.length 16777216 = true from Nat.ble_eq_true_of_le hl]
/-- what stood stands, but at f -/
structure But (f : Nat) (A A' : AH) : Prop where
  le : A.n ≤ A'.n
  get : ∀ i o, i ≠ f → A.get i = some o → A'.get i = some o
  wf : WF A'
theorem But.rfl' {f : Nat} {A : AH} (w : WF A) : But f A A := ⟨Nat.le_refl _, fun _ _ _ h => h, w⟩
theorem But.trans {f : Nat} {A A1 A2 : AH} (a : But f A A1) (b : But f A1 A2) : But f A A2 := ⟨Nat.le_trans a.le b.le, fun i o n h => b.get i o n (a.get i o n h), b.wf⟩
theorem But.ext {f : Nat} {A A1 : AH} (e : Ext A A1) : But f A A1 := ⟨e.le, fun i o _ h => e.get i o h, e.wf⟩
theorem But.set {f : Nat} {A A1 : AH} {o : AO} (e : But f A A1) (hf : f < A1.n) : But f A (A1.set f o) := ⟨e.le, fun i o n h => by rw [get_off n]; exact e.get i o n h, e.wf.set hf⟩
theorem But.new {A A1 : AH} {o : AO} (w : WF A) (e : But A.n (A.push o) A1) : Ext A A1 := ⟨Nat.le_trans (Nat.le_succ _) e.le, fun i o h => e.get i o (Nat.ne_of_lt (w.lt h)) (get_old w h), e.wf⟩
theorem for_lck {t : Sl → AH → RIt} {tg : Tgt} {b : SV} {s : Sl} {A A0 : AH} {items : List AV} {j : Option Nat} (wk : Wk (t s A) A0 items j) (hl : items.length < 1000000) (I : AH → List AV → Sl → AH → Prop)
    (h0 : ∀ lk A1, Lck A0 lk A1 → (∀ i, lk = some i → j = some i) → I A1 [] s A1) (hv : ∀ lk A1, Lck A0 lk A1 → ∀ d s A', I A1 d s A' → ∀ i, j = some i → A'.get i = A1.get i)
    (step : ∀ lk A1, Lck A0 lk A1 → ∀ d v r s A', items = d ++ v :: r → I A1 d s A' → ∃ s1 s2 A2, tgS tg v s = some s1 ∧ (b s1 A' = .nx s2 A2 ∨ b s1 A' = .ct s2 A2) ∧ I A1 (d ++ [v]) s2 A2) :
    ∃ lk A1 s' A' A2, sFor t tg b s A = .nx s' A2 ∧ I A1 items s' A' ∧ Lck A0 lk A1 ∧ Unl A0 lk A1 A' A2 ∧ (∀ i, lk = some i → j = some i) := by
  obtain ⟨it, lk, A1, h1, h2, h3, h4, h5⟩ := wk.ex
  obtain ⟨s', A', h6, h7⟩ := for_inv h4 (I A1) (fun d s A' hi => hv lk A1 h2 d s A' hi) (step lk A1 h2) 1000000 [] items s A1 rfl hl (h0 lk A1 h2 h3)
  obtain ⟨A2, h8, h9⟩ := h2.unS s' fun i e => hv lk A1 h2 _ _ _ h7 i (h3 i e)
  refine ⟨lk, A1, s', A', A2, ?_, h7, h2, h9, h3⟩
  show (t s A).bs s _ = _
  rw [h1]
  show unlS lk (forF it tg b 1000000 0 s A1) = _
  have h6 : forF it tg b 1000000 0 s A1 = .nx s' A' := h6
  rw [h6, h8]
theorem for_put {t : Sl → AH → RIt} {tg : Tgt} {b : SV} {s : Sl} {A A0 : AH} {items : List AV} {j : Option Nat} (wk : Wk (t s A) A0 items j) (w : WF A0) (hl : items.length < 1000000) (f : Nat) (hjf : ∀ i, j = some i → i ≠ f ∧ ∃ o, A0.get i = some o)
    (F : List AV → List (AV × AV)) (hf : A0.get f = some (.dct false 0 (F []))) (P : List AV → Sl → Prop) (hs : P [] s)
    (step : ∀ d v r s A', items = d ++ v :: r → P d s → WF A' → A'.get f = some (.dct false 0 (F d)) → ∃ s1 s2 A2, tgS tg v s = some s1 ∧ b s1 A' = .nx s2 A2 ∧ But f A' A2 ∧ A2.get f = some (.dct false 0 (F (d ++ [v]))) ∧ P (d ++ [v]) s2) :
    ∃ s' A2, sFor t tg b s A = .nx s' A2 ∧ P items s' ∧ But f A0 A2 ∧ A2.get f = some (.dct false 0 (F items)) := by
  obtain ⟨lk, A1, s', A', A2, h1, ⟨h2, h3, h4⟩, h5, h6, h7⟩ := for_lck wk hl (fun A1 d s A' => But f A1 A' ∧ A'.get f = some (.dct false 0 (F d)) ∧ P d s) (fun lk A1 h hj => ⟨.rfl' (h.wf w), by
      rw [h.off (fun e => (hjf f (hj f e)).1 rfl)]; exact hf, hs⟩) (fun lk A1 h d s A' hi i hj => by
      obtain ⟨g1, o, g2⟩ := hjf i hj
      rcases h.get g2 with ⟨_, _, _, _, k', e1⟩ | e1
      · rw [hi.1.get i _ g1 e1, e1]
      · rw [hi.1.get i _ g1 e1, e1]) (fun lk A1 h d v r s A' e ⟨g1, g2, g3⟩ => by
      obtain ⟨s1, s2, A2, k1, k2, k3, k4, k5⟩ := step d v r s A' e g3 g1.wf g2
      exact ⟨s1, s2, A2, k1, .inl k2, g1.trans k3, k4, k5⟩)
  refine ⟨s', A2, h1, h4, ?_, ?_⟩
  · rcases h6 with ⟨e1, rfl⟩ | ⟨i, t', kvs, e1, e2, rfl⟩
    · rcases h5 with ⟨_, rfl⟩ | ⟨_, _, _, z, _⟩
      · exact h2
      · rw [e1] at z; cases z
    · rcases h5 with ⟨z, _⟩ | ⟨i', t2, kv2, z, g1, rfl⟩
      · rw [e1] at z; cases z
      · rw [e1] at z
        cases z
        rw [e2] at g1
        cases g1
        have hn : (A0.lockA i t' kvs).n ≤ A'.n := h2.le
        have hn0 : A0.n ≤ (A0.lockA i t' kvs).n := (Lck.n (.inr ⟨i, t', kvs, rfl, e2, rfl⟩ : Lck A0 (some i) _))
        have hi : i < A0.n := w.lt e2
        refine ⟨Nat.le_trans hn0 hn, fun m o hm ho => ?_, h2.wf.set (by omega)⟩
        by_cases e : m = i
        · subst e
          rw [get_at, ← e2, ho]
        · rw [get_off e]
          exact h2.get m o hm (by rw [get_lockOff e]; exact ho)
  · rcases h6 with ⟨e1, rfl⟩ | ⟨i, t', kvs, e1, e2, rfl⟩
    · exact h3
    · rw [get_off (fun z => (hjf i (h7 i e1)).1 z.symm)]
      exact h3
/-! ## == of dicts -/
theorem hits_all {A : AH} {kb : List (AV × AV)} : ∀ {ka : List (AV × AV)}, (∀ p ∈ ka, dget kb p.1 = some p.2 ∧ plain 40 p.2 = true) → hitsF A kb ka = some true
  | [], _ => rfl
  | p :: r, h => by
    obtain ⟨h1, h2⟩ := h p (List.mem_cons_self ..)
    unfold hitsF
    simp only [h1, datF_plain h2, hits_all fun q hq => h q (List.mem_cons_of_mem _ hq), dEqv_plain h2 h2, decide_true, Bool.and_self]
theorem eq_dct {D : Desc} {cl : Calls} {A : AH} {neg : Bool} {i j k k' : Nat} {ka kb : List (AV × AV)} (h : A.get i = some (.dct false k ka)) (h' : A.get j = some (.dct false k' kb)) (hl : ka.length = kb.length) (hh : ∀ p ∈ ka, dget kb p.1 = some p.2 ∧ plain 40 p.2 = true) :
    cmpPrim D cl (eqOp neg) (.ref i) (.ref j) A = .ok (.bl (neB neg true)) A := by
  have e1 : ∀ neg, pEqD neg (.ref i) (.ref j) A = .bad := fun neg => by
    unfold pEqD
    rw [z_datref, h]
    rfl
  have e2 : ∀ neg, pEqO D cl neg (.ref i) (.ref j) A = .bad := fun neg => by
    unfold pEqO
    rw [z_mat, h]
    rfl
  have e3 : ∀ neg, pEqDct neg (.ref i) (.ref j) A = .ok (.bl (neB neg true)) A := fun neg => by
    unfold pEqDct
    simp only [h, h', hits_all hh, hl, Nat.beq_refl, Bool.and_self]
  cases neg with
  | false =>
    show alt2 (pEqD false) (alt2 (pEqO D cl false) (pEqDct false)) _ _ A = _
    unfold alt2 orE
    rw [e1]
    simp only [e2, e3]
  | true =>
    show alt2 (pEqD true) (alt2 (pEqO D cl true) (pEqDct true)) _ _ A = _
    unfold alt2 orE
    rw [e1]
    simp only [e2, e3]
end ZV
end
section
open PySem Z
namespace ZV
section
variable {D : Desc} {cl : Calls} {A A1 : AH} {v w : AV} {i j : Nat}
theorem neg_ins {c k : Nat} {fs : List (Nat × AV)} (h : A.get i = some (.ins c fs)) (ha : attrOf D c 6 = some (.meth k)) {r : RE} (e : callK D cl k [.ref i] A = r) : pNeg D cl (.ref i) A = r := by
  show orE (.bad) (fun _ => pNegO D cl (.ref i) A) = _
  unfold orE pNegO
  simp only [z_mat, h, z_mat1, ha, z_mat2]
  exact e
theorem binO_ins {a c k : Nat} {fs fs' : List (Nat × AV)} (h : A.get i = some (.ins c fs)) (h' : A.get j = some (.ins c fs')) (ha : attrOf D c a = some (.meth k)) {r : RE} (e : callK D cl k [.ref i, .ref j] A = r) : pBinO D cl a (.ref i) (.ref j) A = r := by
  unfold pBinO
  simp only [z_mat, h, z_mat1, ha, z_mat2, z_clsat, z_clsat1, h', Nat.beq_refl]
  exact e
theorem sub_ins {c k : Nat} {fs fs' : List (Nat × AV)} (h : A.get i = some (.ins c fs)) (h' : A.get j = some (.ins c fs')) (ha : attrOf D c 5 = some (.meth k)) {r : RE} (e : callK D cl k [.ref i, .ref j] A = r) : opPrim D cl .Sub (.ref i) (.ref j) A = r := by
  show orE .bad (fun _ => pBinO D cl 5 (.ref i) (.ref j) A) = _
  unfold orE
  exact binO_ins h h' ha e
theorem add_ins {c k : Nat} {fs fs' : List (Nat × AV)} (h : A.get i = some (.ins c fs)) (h' : A.get j = some (.ins c fs')) (ha : attrOf D c 4 = some (.meth k)) {r : RE} (e : callK D cl k [.ref i, .ref j] A = r) : opPrim D cl .Add (.ref i) (.ref j) A = r := by
  have h1 : pAddL (.ref i) (.ref j) A = .bad := by
    unfold pAddL
    simp only [h]
  have h2 : pAddT (.ref i) (.ref j) A = .bad := by
    unfold pAddT
    simp only [z_seqref, h, z_seqrefi]
  show orE .bad (fun _ => orE .bad fun _ => orE (pAddL (.ref i) (.ref j) A) fun _ => orE (pAddT (.ref i) (.ref j) A) fun _ => pBinO D cl 4 (.ref i) (.ref j) A) = _
  rw [h1, h2]
  unfold orE
  exact binO_ins h h' ha e
theorem dget_at {t : Bool} {k : Nat} {kvs : List (AV × AV)} {key x d : AV} (h : A.get i = some (.dct t k kvs)) (hk : keyFor t key = true) (hv : dget kvs key = some x) : pDGet (.ref i) [key, d] A = .ok x A := by
  unfold pDGet
  simp only [z_pget, h]
  unfold dctR
  simp only [hk, hv]
theorem dget_no {t : Bool} {k : Nat} {kvs : List (AV × AV)} {key d : AV} (h : A.get i = some (.dct t k kvs)) (hk : keyFor t key = true) (hv : dget kvs key = none) : pDGet (.ref i) [key, d] A = .ok d A := by
  unfold pDGet
  simp only [z_pget, h]
  unfold dctR
  simp only [hk, hv]
end
/-- for over anything, where the parts leave what stood -/
theorem for_any {t : Sl → AH → RIt} {tg : Tgt} {b : SV} {s : Sl} {A A0 : AH} {items : List AV} {j : Option Nat} (wk : Wk (t s A) A0 items j) (w : WF A0) (hl : items.length < 1000000) (hj : ∀ i, j = some i → ∃ o, A0.get i = some o)
    (P : List AV → Sl → Prop) (hs : P [] s)
    (step : ∀ lk A1, Lck A0 lk A1 → ∀ d v r s A', items = d ++ v :: r → Ext A1 A' → P d s → ∃ s1 s2 A2, tgS tg v s = some s1 ∧ (b s1 A' = .nx s2 A2 ∨ b s1 A' = .ct s2 A2) ∧ Ext A' A2 ∧ P (d ++ [v]) s2) :
    ∃ s' A2, sFor t tg b s A = .nx s' A2 ∧ Ext A0 A2 ∧ P items s' := by
  obtain ⟨lk, A1, s', A', A2, h1, ⟨h2, h4⟩, h5, h6, h7⟩ := for_lck wk hl (fun A1 d s A' => Ext A1 A' ∧ P d s) (fun lk A1 h _ => ⟨.rfl' (h.wf w), hs⟩) (fun lk A1 h d s A' hi i hij => by
      obtain ⟨o, g2⟩ := hj i hij
      rcases h.get g2 with ⟨_, _, _, _, k', e1⟩ | e1
      · rw [hi.1.get i _ e1, e1]
      · rw [hi.1.get i _ e1, e1]) (fun lk A1 h d v r s A' e ⟨g1, g3⟩ => by
      obtain ⟨s1, s2, A2, k1, k2, k3, k5⟩ := step lk A1 h d v r s A' e g1 g3
      exact ⟨s1, s2, A2, k1, k2, g1.trans k3, k5⟩)
  refine ⟨s', A2, h1, ?_, h4⟩
  rcases h6 with ⟨e1, rfl⟩ | ⟨i, t', kvs, e1, e2, rfl⟩
  · rcases h5 with ⟨_, rfl⟩ | ⟨_, _, _, z, _⟩
    · exact h2
    · rw [e1] at z; cases z
  · rcases h5 with ⟨z, _⟩ | ⟨i', t2, kv2, z, g1, rfl⟩
    · rw [e1] at z; cases z
    · rw [e1] at z
      cases z
      rw [e2] at g1
      cases g1
      have hn : (A0.lockA i t' kvs).n ≤ A'.n := h2.le
      have hn0 : A0.n ≤ (A0.lockA i t' kvs).n := (Lck.n (.inr ⟨i, t', kvs, rfl, e2, rfl⟩ : Lck A0 (some i) _))
      have hi : i < A0.n := w.lt e2
      refine ⟨Nat.le_trans hn0 hn, fun m o ho => ?_, h2.wf.set (by omega)⟩
      by_cases e : m = i
      · subst e
        rw [get_at, ← e2, ho]
      · rw [get_off e]
        exact h2.get m o (by rw [get_lockOff e]; exact ho)
end ZV
end
section
open PySem Z
namespace ZV
/-- a comprehension over what no dict's lock holds -/
theorem lc_core {t : Sl → AH → RIt} {tg : Tgt} {c e : EV} {own : List Nat} {s : Sl} {A A1 : AH} {items : List AV} {it : It0} (h1 : t s A = .ok it none A1) (hw : Walks it items (fun A' => Ext A1 A')) (w1 : WF A1) (p : AV → Bool) (f : AV → AV) (hl : items.length < 1000000)
    (hb : ∀ v, v ∈ items → ∀ A', Ext A1 A' → ∃ s1, tgS tg v (wipeA s own) = some s1 ∧ ∃ A2, c s1 A' = .ok (.bl (p v)) A2 ∧ Ext A' A2 ∧ (p v = true → ∃ A3, e s1 A2 = .ok (f v) A3 ∧ Ext A2 A3)) :
    ∃ A' r, eLc t tg c e own s A = .ok (.ref r) A' ∧ Ext A1 A' ∧ A1.n ≤ r ∧ A'.get r = some (.lst ((items.filter p).map f)) := by
  obtain ⟨A', h6, h7⟩ := turn_inv (tg := tg) (tu := lcTurn c e A1.n) (s0 := wipeA s own) (q := A1.n) hw (fun d A' => Ext A1 A' ∧ A'.get A1.n = some (.lst ((d.filter p).map f)) ∧ d.length ≤ items.length) (fun d A h => h.1)
    (fun d v r A' e1 ⟨i1, i2, i3⟩ => by
      obtain ⟨s1, h8, A2, h9, h10, h11⟩ := hb v (by rw [e1]; simp) A' i1
      have hd : d.length + 1 ≤ items.length := by rw [e1]; simp
      have h12 : ((d.filter p).map f).length < 16777216 := by
        have := List.length_filter_le p d
        simp only [List.length_map]; omega
      cases hp : p v with
      | false =>
        refine ⟨s1, A2, h8, ?_, i1.trans h10, ?_, by simpa using hd⟩
        · unfold lcTurn
          rw [h9, hp]
        · rw [List.filter_append, List.filter_cons_of_neg (by simp [hp]), List.filter_nil, List.append_nil]
          exact h10.get _ _ i2
      | true =>
        obtain ⟨A3, h13, h14⟩ := h11 hp
        have h15 := h14.get _ _ (h10.get _ _ i2)
        refine ⟨s1, A3.set A1.n (.lst ((d.filter p).map f ++ [f v])), h8, ?_, ((i1.trans h10).trans h14).set w1 (Nat.le_refl _) (h14.wf.lt h15), ?_, by simpa using hd⟩
        · unfold lcTurn
          rw [h9, hp]
          simp only [h13]
          exact lcPut_eq h15 h12
        · rw [get_at, List.filter_append, List.filter_cons_of_pos (by simp [hp]), List.filter_nil, List.map_append, List.map_cons, List.map_nil])
    1000000 [] items (A1.push (.lst [])) rfl hl ⟨Ext.push w1, get_new, Nat.zero_le _⟩
  refine ⟨A', A1.n, ?_, h7.1, Nat.le_refl _, h7.2.1⟩
  show (t s A).bd _ = _
  rw [h1]
  show unlE none (turnF it tg (lcTurn c e A1.n) (wipeA s own) A1.n 1000000 0 (A1.push (.lst []))) = _
  have h6 : turnF it tg (lcTurn c e A1.n) (wipeA s own) A1.n 1000000 0 (A1.push (.lst [])) = .ok (.ref A1.n) A' := h6
  rw [h6]
  rfl
/-- zip of two lists -/
theorem zip_core {l : Sl → AH → RL} {s : Sl} {A A1 : AH} {i j : Nat} {xs ys : List AV} (h : l s A = .ok [.ref i, .ref j] A1) (hx : A1.get i = some (.lst xs)) (hy : A1.get j = some (.lst ys)) :
    tArg pZip l s A = .ok (itZ (itL i) (itL j)) none A1 ∧ Walks (itZ (itL i) (itL j)) ((xs.zip ys).map fun p => .tc p.1 (.tc p.2 .tn)) (fun A' => Ext A1 A') := by
  refine ⟨?_, walks_zip ((walks_lst i xs).mono fun A' e => e.get _ _ hx) ((walks_lst j ys).mono fun A' e => e.get _ _ hy)⟩
  show (l s A).bi pZip = _
  rw [h]
  show pZip [.ref i, .ref j] A1 = _
  unfold pZip seqOf
  simp only [hx, hy]
  rfl
theorem dictC_str {α : Type} {nm : α → Str} {f : α → AV} {L : List α} {A : AH} {r : Nat} (hd : L.Pairwise fun x y => nm x ≠ nm y) (h : A.get r = some (.lst (L.map fun x => AV.tc (.str (nm x)) (.tc (f x) .tn)))) : pDictC [.ref r] A = .ok (.ref A.n) (A.push (.dct false 0 (kvO nm f L))) := by
  have hm : dmerge [] (kvO nm f L) = kvO nm f L := (merge_str (acc := []) (fun _ _ => rfl) hd).trans (List.nil_append _)
  unfold pDictC
  simp only [lstOf_ref h, pairL_str, hm]
  rfl
theorem listC_dct {α : Type} {nm : α → Str} {f : α → AV} {L : List α} {A : AH} {r k : Nat} (hl : L.length ≤ 16777216) (h : A.get r = some (.dct false k (kvO nm f L))) : pListC [.ref r] A = .ok (.ref A.n) (A.push (.lst (L.map fun x => AV.str (nm x)))) := by
  have hk : ∀ L : List α, keyL (kvO nm f L) = L.map fun x => AV.str (nm x) := by
    intro L
    induction L with
    | nil => rfl
    | cons x r ih => show AV.str (nm x) :: keyL (kvO nm f r) = _; rw [ih]; rfl
  unfold pListC
  simp only [z_seqref, h, z_seqrefd, hk]
  rw [z_mklst (by rw [List.length_map]; exact hl)]
theorem slice_lst {A : AH} {r : Nat} {xs : List AV} {lo hi : Option Int} (h : A.get r = some (.lst xs)) (hl : (cutA xs lo hi).length ≤ 16777216) : pSlice lo hi (.ref r) A = .ok (.ref A.n) (A.push (.lst (cutA xs lo hi))) := by
  unfold pSlice
  simp only [z_seqref, h, z_seqref1]
  exact z_mklst hl
theorem rev_lst {te : EV} {s : Sl} {A A1 : AH} {r : Nat} {xs : List AV} (h : te s A = .ok (.ref r) A1) (e : A1.get r = some (.lst xs)) (hl : xs.length ≤ 16777216) : eRev te s A = .ok (.ref A1.n) (A1.push (.lst xs.reverse)) := by
  unfold eRev
  rw [h]
  show (match seqL (.ref r) A1 with | some (true, xs) => mkLst xs.reverse A1 | _ => .bad) = _
  rw [z_seqref, e]
  exact z_mklst (by rw [List.length_reverse]; exact hl)
end ZV
end
section
namespace K05
open PySem PySem.Spec PyProof.Rows L2 Z ZV
def top (i : Nat) : Stmt := PySem.Challenge.pw_steadyloop_k05_whole_numbers.main.body.getD i (.Pass ⟨0, 0, 0, 0⟩)
def clsB (st : Stmt) : List Stmt := match st with
  | .ClassDef (body := b) .. => b
  | _ => []
def sub (i j : Nat) : Stmt := (clsB (top i)).getD j (.Pass ⟨0, 0, 0, 0⟩)
def z_is_integer : DefZ := ⟨["value", "low", "high"], [(3, [])], []⟩
def z_is_name : DefZ := ⟨["value"], [(1, [])], []⟩
def z_is_word : DefZ := ⟨["value", "words"], [(2, [])], []⟩
def z_rounded : DefZ := ⟨["top", "bottom", "rounding"], [(3, [])], []⟩
def z_clipped : DefZ := ⟨["value", "low", "high"], [(3, [])], []⟩
def z_Form_init_ : DefZ := ⟨["self", "bits", "rounding", "limit"], [(2, [(.str "down"), (.str "clip")])], [(2, ["limit"], [.pos 0, .pos 1, .dv (.str "down"), .kw 0]), (2, ["rounding", "limit"], [.pos 0, .pos 1, .kw 0, .kw 1])]⟩
def z_Form_bits : DefZ := ⟨["self"], [(1, [])], []⟩
def z_Form_rounding : DefZ := ⟨["self"], [(1, [])], []⟩
def z_Form_limit : DefZ := ⟨["self"], [(1, [])], []⟩
def z_Form_low : DefZ := ⟨["self"], [(1, [])], []⟩
def z_Form_high : DefZ := ⟨["self"], [(1, [])], []⟩
def z_Form_eq_ : DefZ := ⟨["self", "other"], [(2, [])], []⟩
def z_Form_all_parts : DefZ := ⟨["self"], [(1, [])], []⟩
def z_Form_len_ : DefZ := ⟨["self"], [(1, [])], []⟩
def z_Form_contains_ : DefZ := ⟨["self", "x"], [(2, [])], []⟩
def z_Form_call_ : DefZ := ⟨["self", "top", "bottom"], [(2, [(.int 1)]), (3, [])], []⟩
def z_Form_changed : DefZ := ⟨["self", "rounding", "limit"], [(1, [.non, .non])], [(1, ["limit"], [.pos 0, .dv .non, .kw 0]), (1, ["rounding"], [.pos 0, .kw 0, .dv .non])]⟩
def z_word_of : DefZ := ⟨["form", "top", "bottom"], [(3, [])], []⟩
def z_check_integer : DefZ := ⟨["value"], [(1, [])], []⟩
def z_Sensor_init_ : DefZ := ⟨["self", "level", "size", "low", "high"], [(5, [])], []⟩
def z_Sensor_level : DefZ := ⟨["self"], [(1, [])], []⟩
def z_Sensor_size : DefZ := ⟨["self"], [(1, [])], []⟩
def z_Sensor_low : DefZ := ⟨["self"], [(1, [])], []⟩
def z_Sensor_high : DefZ := ⟨["self"], [(1, [])], []⟩
def z_Sensor_eq_ : DefZ := ⟨["self", "other"], [(2, [])], []⟩
def z_Sensor_all_parts : DefZ := ⟨["self"], [(1, [])], []⟩
def z_Sensor_call_ : DefZ := ⟨["self", "number"], [(2, [])], []⟩
def z_reading_of : DefZ := ⟨["sensor", "number"], [(2, [])], []⟩
def z_Drive_init_ : DefZ := ⟨["self", "low", "high", "change", "start"], [(4, [(.int 0)])], [(4, ["start"], [.pos 0, .pos 1, .pos 2, .pos 3, .kw 0])]⟩
def z_Drive_low : DefZ := ⟨["self"], [(1, [])], []⟩
def z_Drive_high : DefZ := ⟨["self"], [(1, [])], []⟩
def z_Drive_change : DefZ := ⟨["self"], [(1, [])], []⟩
def z_Drive_start : DefZ := ⟨["self"], [(1, [])], []⟩
def z_Drive_eq_ : DefZ := ⟨["self", "other"], [(2, [])], []⟩
def z_Drive_all_parts : DefZ := ⟨["self"], [(1, [])], []⟩
def z_Drive_len_ : DefZ := ⟨["self"], [(1, [])], []⟩
def z_Drive_contains_ : DefZ := ⟨["self", "x"], [(2, [])], []⟩
def z_Drive_call_ : DefZ := ⟨["self", "position", "command"], [(3, [])], []⟩
def z_position_of : DefZ := ⟨["drive", "position", "command", "stride"], [(4, [])], []⟩
def z_divisor : DefZ := ⟨["one", "other"], [(2, [])], []⟩
def z_reduced : DefZ := ⟨["top", "bottom"], [(2, [])], []⟩
def z_is_factor : DefZ := ⟨["value"], [(1, [])], []⟩
def z_are_terms : DefZ := ⟨["value"], [(1, [])], []⟩
def z_Sum_init_ : DefZ := ⟨["self", "constant", "terms"], [(3, [])], []⟩
def z_Sum_constant : DefZ := ⟨["self"], [(1, [])], []⟩
def z_Sum_terms : DefZ := ⟨["self"], [(1, [])], []⟩
def z_Sum_eq_ : DefZ := ⟨["self", "other"], [(2, [])], []⟩
def z_Sum_len_ : DefZ := ⟨["self"], [(1, [])], []⟩
def z_Sum_contains_ : DefZ := ⟨["self", "x"], [(2, [])], []⟩
def z_Sum_getitem_ : DefZ := ⟨["self", "at"], [(2, [])], []⟩
def z_Sum_iter_ : DefZ := ⟨["self"], [(1, [])], []⟩
def z_Sum_add_ : DefZ := ⟨["self", "other"], [(2, [])], []⟩
def z_Sum_sub_ : DefZ := ⟨["self", "other"], [(2, [])], []⟩
def z_Sum_neg_ : DefZ := ⟨["self"], [(1, [])], []⟩
def z_Sum_call_ : DefZ := ⟨["self", "values"], [(2, [])], []⟩
def z_plus : DefZ := ⟨["one", "other"], [(2, [])], []⟩
def z_added : DefZ := ⟨["one", "other", "sign"], [(3, [])], []⟩
def z_shared_bottom : DefZ := ⟨["bottoms"], [(1, [])], []⟩
def z_total : DefZ := ⟨["line", "values"], [(2, [])], []⟩
def z_law_number : DefZ := ⟨["_law_script", "_law_index"], [(2, [])], []⟩
def z_law_word : DefZ := ⟨["_law_form", "_law_top", "_law_bottom"], [(3, [])], []⟩
def z_law_value : DefZ := ⟨["_law_line", "_law_values"], [(2, [])], []⟩
def z_law_gcd : DefZ := ⟨["_law_one", "_law_other"], [(2, [])], []⟩
def z_law_lowest : DefZ := ⟨["_law_top", "_law_bottom"], [(2, [])], []⟩
def z_law_forms_right : DefZ := ⟨["_law_seed"], [(1, [])], []⟩
def z_law_parts : DefZ := ⟨["_law_seed"], [(1, [])], []⟩
def z_law_made : DefZ := ⟨["_law_line"], [(1, [])], []⟩
def z_law_sum_right : DefZ := ⟨["_law_seed", "_law_other_seed"], [(2, [])], []⟩
def z_law_devices_right : DefZ := ⟨["_law_seed"], [(1, [])], []⟩
def z_law_all_right : DefZ := ⟨["_law_script"], [(1, [])], []⟩
def z_law : DefZ := ⟨["_law_script"], [(1, [])], []⟩
def y_is_integer : DefY := ⟨.g "is_integer", "is_integer", "is_integer", defArgs (top 14), defBody (top 14), defScope (top 14), [], []⟩
def n_is_integer : List Str := ["value", "low", "high"]
def y_is_name : DefY := ⟨.g "is_name", "is_name", "is_name", defArgs (top 15), defBody (top 15), defScope (top 15), [], []⟩
def n_is_name : List Str := ["value", "sign"]
def y_is_word : DefY := ⟨.g "is_word", "is_word", "is_word", defArgs (top 16), defBody (top 16), defScope (top 16), [], []⟩
def n_is_word : List Str := ["value", "words"]
def y_rounded : DefY := ⟨.g "rounded", "rounded", "rounded", defArgs (top 17), defBody (top 17), defScope (top 17), [], []⟩
def n_rounded : List Str := ["top", "bottom", "rounding"]
def y_clipped : DefY := ⟨.g "clipped", "clipped", "clipped", defArgs (top 18), defBody (top 18), defScope (top 18), [], []⟩
def n_clipped : List Str := ["value", "low", "high"]
def y_Form_init_ : DefY := ⟨.m "Form" "__init__", "__init__", "Form.__init__", defArgs (sub 19 0), defBody (sub 19 0), defScope (sub 19 0), [], [("rounding", (.str "down")), ("limit", (.str "clip"))]⟩
def n_Form_init_ : List Str := ["self", "bits", "rounding", "limit"]
def y_Form_bits : DefY := ⟨.p "Form" "bits", "bits", "Form.bits", defArgs (sub 19 1), defBody (sub 19 1), defScope (sub 19 1), [], []⟩
def n_Form_bits : List Str := ["self"]
def y_Form_rounding : DefY := ⟨.p "Form" "rounding", "rounding", "Form.rounding", defArgs (sub 19 2), defBody (sub 19 2), defScope (sub 19 2), [], []⟩
def n_Form_rounding : List Str := ["self"]
def y_Form_limit : DefY := ⟨.p "Form" "limit", "limit", "Form.limit", defArgs (sub 19 3), defBody (sub 19 3), defScope (sub 19 3), [], []⟩
def n_Form_limit : List Str := ["self"]
def y_Form_low : DefY := ⟨.p "Form" "low", "low", "Form.low", defArgs (sub 19 4), defBody (sub 19 4), defScope (sub 19 4), [], []⟩
def n_Form_low : List Str := ["self"]
def y_Form_high : DefY := ⟨.p "Form" "high", "high", "Form.high", defArgs (sub 19 5), defBody (sub 19 5), defScope (sub 19 5), [], []⟩
def n_Form_high : List Str := ["self"]
def y_Form_eq_ : DefY := ⟨.m "Form" "__eq__", "__eq__", "Form.__eq__", defArgs (sub 19 6), defBody (sub 19 6), defScope (sub 19 6), [], []⟩
def n_Form_eq_ : List Str := ["self", "other"]
def y_Form_all_parts : DefY := ⟨.m "Form" "all_parts", "all_parts", "Form.all_parts", defArgs (sub 19 7), defBody (sub 19 7), defScope (sub 19 7), [], []⟩
def n_Form_all_parts : List Str := ["self"]
def y_Form_len_ : DefY := ⟨.m "Form" "__len__", "__len__", "Form.__len__", defArgs (sub 19 8), defBody (sub 19 8), defScope (sub 19 8), [], []⟩
def n_Form_len_ : List Str := ["self"]
def y_Form_contains_ : DefY := ⟨.m "Form" "__contains__", "__contains__", "Form.__contains__", defArgs (sub 19 9), defBody (sub 19 9), defScope (sub 19 9), [], []⟩
def n_Form_contains_ : List Str := ["self", "x"]
def y_Form_call_ : DefY := ⟨.m "Form" "__call__", "__call__", "Form.__call__", defArgs (sub 19 10), defBody (sub 19 10), defScope (sub 19 10), [(.int 1)], []⟩
def n_Form_call_ : List Str := ["self", "top", "bottom"]
def y_Form_changed : DefY := ⟨.m "Form" "changed", "changed", "Form.changed", defArgs (sub 19 11), defBody (sub 19 11), defScope (sub 19 11), [], [("rounding", .non), ("limit", .non)]⟩
def n_Form_changed : List Str := ["self", "rounding", "limit", "manner", "border"]
def y_word_of : DefY := ⟨.g "word_of", "word_of", "word_of", defArgs (top 20), defBody (top 20), defScope (top 20), [], []⟩
def n_word_of : List Str := ["form", "top", "bottom", "value"]
def y_check_integer : DefY := ⟨.g "check_integer", "check_integer", "check_integer", defArgs (top 26), defBody (top 26), defScope (top 26), [], []⟩
def n_check_integer : List Str := ["value"]
def y_Sensor_init_ : DefY := ⟨.m "Sensor" "__init__", "__init__", "Sensor.__init__", defArgs (sub 27 0), defBody (sub 27 0), defScope (sub 27 0), [], []⟩
def n_Sensor_init_ : List Str := ["self", "level", "size", "low", "high"]
def y_Sensor_level : DefY := ⟨.p "Sensor" "level", "level", "Sensor.level", defArgs (sub 27 1), defBody (sub 27 1), defScope (sub 27 1), [], []⟩
def n_Sensor_level : List Str := ["self"]
def y_Sensor_size : DefY := ⟨.p "Sensor" "size", "size", "Sensor.size", defArgs (sub 27 2), defBody (sub 27 2), defScope (sub 27 2), [], []⟩
def n_Sensor_size : List Str := ["self"]
def y_Sensor_low : DefY := ⟨.p "Sensor" "low", "low", "Sensor.low", defArgs (sub 27 3), defBody (sub 27 3), defScope (sub 27 3), [], []⟩
def n_Sensor_low : List Str := ["self"]
def y_Sensor_high : DefY := ⟨.p "Sensor" "high", "high", "Sensor.high", defArgs (sub 27 4), defBody (sub 27 4), defScope (sub 27 4), [], []⟩
def n_Sensor_high : List Str := ["self"]
def y_Sensor_eq_ : DefY := ⟨.m "Sensor" "__eq__", "__eq__", "Sensor.__eq__", defArgs (sub 27 5), defBody (sub 27 5), defScope (sub 27 5), [], []⟩
def n_Sensor_eq_ : List Str := ["self", "other"]
def y_Sensor_all_parts : DefY := ⟨.m "Sensor" "all_parts", "all_parts", "Sensor.all_parts", defArgs (sub 27 6), defBody (sub 27 6), defScope (sub 27 6), [], []⟩
def n_Sensor_all_parts : List Str := ["self"]
def y_Sensor_call_ : DefY := ⟨.m "Sensor" "__call__", "__call__", "Sensor.__call__", defArgs (sub 27 7), defBody (sub 27 7), defScope (sub 27 7), [], []⟩
def n_Sensor_call_ : List Str := ["self", "number"]
def y_reading_of : DefY := ⟨.g "reading_of", "reading_of", "reading_of", defArgs (top 28), defBody (top 28), defScope (top 28), [], []⟩
def n_reading_of : List Str := ["sensor", "number"]
def y_Drive_init_ : DefY := ⟨.m "Drive" "__init__", "__init__", "Drive.__init__", defArgs (sub 29 0), defBody (sub 29 0), defScope (sub 29 0), [], [("start", (.int 0))]⟩
def n_Drive_init_ : List Str := ["self", "low", "high", "change", "start"]
def y_Drive_low : DefY := ⟨.p "Drive" "low", "low", "Drive.low", defArgs (sub 29 1), defBody (sub 29 1), defScope (sub 29 1), [], []⟩
def n_Drive_low : List Str := ["self"]
def y_Drive_high : DefY := ⟨.p "Drive" "high", "high", "Drive.high", defArgs (sub 29 2), defBody (sub 29 2), defScope (sub 29 2), [], []⟩
def n_Drive_high : List Str := ["self"]
def y_Drive_change : DefY := ⟨.p "Drive" "change", "change", "Drive.change", defArgs (sub 29 3), defBody (sub 29 3), defScope (sub 29 3), [], []⟩
def n_Drive_change : List Str := ["self"]
def y_Drive_start : DefY := ⟨.p "Drive" "start", "start", "Drive.start", defArgs (sub 29 4), defBody (sub 29 4), defScope (sub 29 4), [], []⟩
def n_Drive_start : List Str := ["self"]
def y_Drive_eq_ : DefY := ⟨.m "Drive" "__eq__", "__eq__", "Drive.__eq__", defArgs (sub 29 5), defBody (sub 29 5), defScope (sub 29 5), [], []⟩
def n_Drive_eq_ : List Str := ["self", "other"]
def y_Drive_all_parts : DefY := ⟨.m "Drive" "all_parts", "all_parts", "Drive.all_parts", defArgs (sub 29 6), defBody (sub 29 6), defScope (sub 29 6), [], []⟩
def n_Drive_all_parts : List Str := ["self"]
def y_Drive_len_ : DefY := ⟨.m "Drive" "__len__", "__len__", "Drive.__len__", defArgs (sub 29 7), defBody (sub 29 7), defScope (sub 29 7), [], []⟩
def n_Drive_len_ : List Str := ["self"]
def y_Drive_contains_ : DefY := ⟨.m "Drive" "__contains__", "__contains__", "Drive.__contains__", defArgs (sub 29 8), defBody (sub 29 8), defScope (sub 29 8), [], []⟩
def n_Drive_contains_ : List Str := ["self", "x"]
def y_Drive_call_ : DefY := ⟨.m "Drive" "__call__", "__call__", "Drive.__call__", defArgs (sub 29 9), defBody (sub 29 9), defScope (sub 29 9), [], []⟩
def n_Drive_call_ : List Str := ["self", "position", "command"]
def y_position_of : DefY := ⟨.g "position_of", "position_of", "position_of", defArgs (top 30), defBody (top 30), defScope (top 30), [], []⟩
def n_position_of : List Str := ["drive", "position", "command", "stride", "wish"]
def y_divisor : DefY := ⟨.g "divisor", "divisor", "divisor", defArgs (top 35), defBody (top 35), defScope (top 35), [], []⟩
def n_divisor : List Str := ["one", "other"]
def y_reduced : DefY := ⟨.g "reduced", "reduced", "reduced", defArgs (top 36), defBody (top 36), defScope (top 36), [], []⟩
def n_reduced : List Str := ["top", "bottom", "common"]
def y_is_factor : DefY := ⟨.g "is_factor", "is_factor", "is_factor", defArgs (top 37), defBody (top 37), defScope (top 37), [], []⟩
def n_is_factor : List Str := ["value"]
def y_are_terms : DefY := ⟨.g "are_terms", "are_terms", "are_terms", defArgs (top 38), defBody (top 38), defScope (top 38), [], []⟩
def n_are_terms : List Str := ["value", "name", "factor"]
def y_Sum_init_ : DefY := ⟨.m "Sum" "__init__", "__init__", "Sum.__init__", defArgs (sub 39 0), defBody (sub 39 0), defScope (sub 39 0), [], []⟩
def n_Sum_init_ : List Str := ["self", "constant", "terms", "rows", "name", "factor", "top", "bottom"]
def y_Sum_constant : DefY := ⟨.p "Sum" "constant", "constant", "Sum.constant", defArgs (sub 39 1), defBody (sub 39 1), defScope (sub 39 1), [], []⟩
def n_Sum_constant : List Str := ["self"]
def y_Sum_terms : DefY := ⟨.p "Sum" "terms", "terms", "Sum.terms", defArgs (sub 39 2), defBody (sub 39 2), defScope (sub 39 2), [], []⟩
def n_Sum_terms : List Str := ["self", "name", "factor"]
def y_Sum_eq_ : DefY := ⟨.m "Sum" "__eq__", "__eq__", "Sum.__eq__", defArgs (sub 39 3), defBody (sub 39 3), defScope (sub 39 3), [], []⟩
def n_Sum_eq_ : List Str := ["self", "other"]
def y_Sum_len_ : DefY := ⟨.m "Sum" "__len__", "__len__", "Sum.__len__", defArgs (sub 39 4), defBody (sub 39 4), defScope (sub 39 4), [], []⟩
def n_Sum_len_ : List Str := ["self"]
def y_Sum_contains_ : DefY := ⟨.m "Sum" "__contains__", "__contains__", "Sum.__contains__", defArgs (sub 39 5), defBody (sub 39 5), defScope (sub 39 5), [], []⟩
def n_Sum_contains_ : List Str := ["self", "x"]
def y_Sum_getitem_ : DefY := ⟨.m "Sum" "__getitem__", "__getitem__", "Sum.__getitem__", defArgs (sub 39 6), defBody (sub 39 6), defScope (sub 39 6), [], []⟩
def n_Sum_getitem_ : List Str := ["self", "at"]
def y_Sum_iter_ : DefY := ⟨.m "Sum" "__iter__", "__iter__", "Sum.__iter__", defArgs (sub 39 7), defBody (sub 39 7), defScope (sub 39 7), [], []⟩
def n_Sum_iter_ : List Str := ["self"]
def y_Sum_add_ : DefY := ⟨.m "Sum" "__add__", "__add__", "Sum.__add__", defArgs (sub 39 8), defBody (sub 39 8), defScope (sub 39 8), [], []⟩
def n_Sum_add_ : List Str := ["self", "other"]
def y_Sum_sub_ : DefY := ⟨.m "Sum" "__sub__", "__sub__", "Sum.__sub__", defArgs (sub 39 9), defBody (sub 39 9), defScope (sub 39 9), [], []⟩
def n_Sum_sub_ : List Str := ["self", "other"]
def y_Sum_neg_ : DefY := ⟨.m "Sum" "__neg__", "__neg__", "Sum.__neg__", defArgs (sub 39 10), defBody (sub 39 10), defScope (sub 39 10), [], []⟩
def n_Sum_neg_ : List Str := ["self", "name", "factor"]
def y_Sum_call_ : DefY := ⟨.m "Sum" "__call__", "__call__", "Sum.__call__", defArgs (sub 39 11), defBody (sub 39 11), defScope (sub 39 11), [], []⟩
def n_Sum_call_ : List Str := ["self", "values", "name", "top", "bottom"]
def y_plus : DefY := ⟨.g "plus", "plus", "plus", defArgs (top 40), defBody (top 40), defScope (top 40), [], []⟩
def n_plus : List Str := ["one", "other"]
def y_added : DefY := ⟨.g "added", "added", "added", defArgs (top 41), defBody (top 41), defScope (top 41), [], []⟩
def n_added : List Str := ["one", "other", "sign", "found", "name", "factor"]
def y_shared_bottom : DefY := ⟨.g "shared_bottom", "shared_bottom", "shared_bottom", defArgs (top 42), defBody (top 42), defScope (top 42), [], []⟩
def n_shared_bottom : List Str := ["bottoms", "found", "bottom"]
def y_total : DefY := ⟨.g "total", "total", "total", defArgs (top 43), defBody (top 43), defScope (top 43), [], []⟩
def n_total : List Str := ["line", "values", "top", "name", "weight"]
def y_law_number : DefY := ⟨.g "_law_number", "_law_number", "_law_number", defArgs (top 45), defBody (top 45), defScope (top 45), [], []⟩
def n_law_number : List Str := ["_law_script", "_law_index", "_law_cells", "_law_cell", "_law_low", "_law_high", "_law_mixed"]
def y_law_word : DefY := ⟨.g "_law_word", "_law_word", "_law_word", defArgs (top 46), defBody (top 46), defScope (top 46), [], []⟩
def n_law_word : List Str := ["_law_form", "_law_top", "_law_bottom", "_law_low", "_law_count", "_law_whole", "_law_half", "_law_ups"]
def y_law_value : DefY := ⟨.g "_law_value", "_law_value", "_law_value", defArgs (top 47), defBody (top 47), defScope (top 47), [], []⟩
def n_law_value : List Str := ["_law_line", "_law_values", "_law_top", "_law_bottom", "_law_name", "_law_one", "_law_other"]
def y_law_gcd : DefY := ⟨.g "_law_gcd", "_law_gcd", "_law_gcd", defArgs (top 48), defBody (top 48), defScope (top 48), [], []⟩
def n_law_gcd : List Str := ["_law_one", "_law_other"]
def y_law_lowest : DefY := ⟨.g "_law_lowest", "_law_lowest", "_law_lowest", defArgs (top 49), defBody (top 49), defScope (top 49), [], []⟩
def n_law_lowest : List Str := ["_law_top", "_law_bottom", "_law_common"]
def y_law_forms_right : DefY := ⟨.g "_law_forms_right", "_law_forms_right", "_law_forms_right", defArgs (top 50), defBody (top 50), defScope (top 50), [], []⟩
def n_law_forms_right : List Str := ["_law_seed", "_law_bits", "_law_top", "_law_bottom", "_law_manner", "_law_border", "_law_form", "_law_low", "_law_cases", "_law_one", "_law_other", "_law_others"]
def y_law_parts : DefY := ⟨.g "_law_parts", "_law_parts", "_law_parts", defArgs (top 51), defBody (top 51), defScope (top 51), [], []⟩
def n_law_parts : List Str := ["_law_seed", "_law_names", "_law_terms", "_law_signs", "_law_at", "_law_name", "_law_top", "_law_bottom", "_law_one", "_law_sign"]
def y_law_made : DefY := ⟨.g "_law_made", "_law_made", "_law_made", defArgs (top 52), defBody (top 52), defScope (top 52), [], []⟩
def n_law_made : List Str := ["_law_line", "_law_name", "_law_top", "_law_bottom"]
def y_law_sum_right : DefY := ⟨.g "_law_sum_right", "_law_sum_right", "_law_sum_right", defArgs (top 53), defBody (top 53), defScope (top 53), [], []⟩
def n_law_sum_right : List Str := ["_law_seed", "_law_other_seed", "_law_line", "_law_values", "_law_name", "_law_top", "_law_bottom", "_law_one", "_law_due", "_law_at", "_law_turned", "_law_first", "_law_second", "_law_both"]
def y_law_devices_right : DefY := ⟨.g "_law_devices_right", "_law_devices_right", "_law_devices_right", defArgs (top 54), defBody (top 54), defScope (top 54), [], []⟩
def n_law_devices_right : List Str := ["_law_seed", "_law_size", "_law_low", "_law_high", "_law_sensor", "_law_least", "_law_most", "_law_change", "_law_drive", "_law_position", "_law_cases", "_law_command", "_law_due", "_law_number_here"]
def y_law_all_right : DefY := ⟨.g "_law_all_right", "_law_all_right", "_law_all_right", defArgs (top 55), defBody (top 55), defScope (top 55), [], []⟩
def n_law_all_right : List Str := ["_law_script", "_law_number_here"]
def y_law : DefY := ⟨.g "law", "law", "law", defArgs (top 56), defBody (top 56), defScope (top 56), [], []⟩
def n_law : List Str := ["_law_script"]
def ats : List Str := ((["__getitem__", "__contains__", "__len__", "__eq__", "__add__", "__sub__", "__neg__", "__call__", "__bool__", "__enter__", "__exit__", "__iter__", "width", "manner", "border", "__init__", "all_parts", "changed", "bits", "rounding", "limit", "low", "high", "source", "grain", "least", "most", "level", "size", "stride"] : List (Str)) ++ (["first", "change", "start", "base", "factors", "scale", "weights", "constant", "terms"] : List (Str)))
def c_Form : ClsZ := ⟨[(3, .meth 11), (16, .meth 12), (2, .meth 13), (1, .meth 14), (7, .meth 15), (17, .meth 16), (18, .prop 6), (19, .prop 7), (20, .prop 8), (21, .prop 9), (22, .prop 10), (12, .fld), (13, .fld), (14, .fld)], some 5, []⟩
def c_Sensor : ClsZ := ⟨[(3, .meth 24), (16, .meth 25), (7, .meth 26), (27, .prop 20), (28, .prop 21), (21, .prop 22), (22, .prop 23), (23, .fld), (24, .fld), (25, .fld), (26, .fld)], some 19, []⟩
def c_Drive : ClsZ := ⟨[(3, .meth 33), (16, .meth 34), (2, .meth 35), (1, .meth 36), (7, .meth 37), (21, .prop 29), (22, .prop 30), (31, .prop 31), (32, .prop 32), (25, .fld), (26, .fld), (29, .fld), (30, .fld)], some 28, []⟩
def c_Sum : ClsZ := ⟨[(3, .meth 46), (2, .meth 47), (1, .meth 48), (0, .meth 49), (11, .meth 50), (4, .meth 51), (5, .meth 52), (6, .meth 53), (7, .meth 54), (37, .prop 44), (38, .prop 45), (33, .fld), (34, .fld), (35, .fld), (36, .fld)], some 43, []⟩
def D : Desc := ⟨(([z_is_integer, z_is_name, z_is_word, z_rounded, z_clipped, z_Form_init_, z_Form_bits, z_Form_rounding, z_Form_limit, z_Form_low, z_Form_high, z_Form_eq_, z_Form_all_parts, z_Form_len_, z_Form_contains_, z_Form_call_, z_Form_changed, z_word_of, z_check_integer, z_Sensor_init_, z_Sensor_level, z_Sensor_size, z_Sensor_low, z_Sensor_high, z_Sensor_eq_, z_Sensor_all_parts, z_Sensor_call_, z_reading_of, z_Drive_init_, z_Drive_low] : List (DefZ)) ++ ([z_Drive_high, z_Drive_change, z_Drive_start, z_Drive_eq_, z_Drive_all_parts, z_Drive_len_, z_Drive_contains_, z_Drive_call_, z_position_of, z_divisor, z_reduced, z_is_factor, z_are_terms, z_Sum_init_, z_Sum_constant, z_Sum_terms, z_Sum_eq_, z_Sum_len_, z_Sum_contains_, z_Sum_getitem_, z_Sum_iter_, z_Sum_add_, z_Sum_sub_, z_Sum_neg_, z_Sum_call_, z_plus, z_added, z_shared_bottom, z_total, z_law_number] : List (DefZ)) ++ ([z_law_word, z_law_value, z_law_gcd, z_law_lowest, z_law_forms_right, z_law_parts, z_law_made, z_law_sum_right, z_law_devices_right, z_law_all_right, z_law] : List (DefZ))),
  [c_Form, c_Sensor, c_Drive, c_Sum], ats, [],
  [(1, [(0, false), (1, true), (2, false), (3, false), (4, false), (5, false), (6, false), (7, false), (8, false), (9, false), (10, false)]), (2, [(0, false), (1, true), (2, true), (3, false), (4, false), (5, false), (6, false), (7, false), (8, false), (9, false), (10, false)]), (3, [(0, false), (1, false), (2, false), (3, true), (4, false), (5, false), (6, false), (7, false), (8, false), (9, false), (10, false)]), (5, [(0, false), (1, false), (2, false), (3, false), (4, false), (5, true), (6, false), (7, false), (8, false), (9, false), (10, false)]), (6, [(0, false), (1, false), (2, false), (3, false), (4, false), (5, false), (6, true), (7, false), (8, false), (9, false), (10, false)]), (7, [(0, false), (1, false), (2, false), (3, false), (4, false), (5, false), (6, false), (7, true), (8, false), (9, false), (10, false)]), (8, [(0, false), (1, false), (2, false), (3, false), (4, false), (5, false), (6, false), (7, false), (8, true), (9, false), (10, false)]), (9, [(0, false), (1, false), (2, false), (3, false), (4, false), (5, false), (6, false), (7, false), (8, false), (9, true), (10, false)]), (10, [(0, false), (1, false), (2, false), (3, false), (4, false), (5, false), (6, false), (7, false), (8, false), (9, false), (10, true)])],
  (([(0, 0), (0, 1), (0, 2), (0, 3), (0, 4), (0, 5), (0, 6), (0, 7), (0, 8), (0, 9), (0, 10), (1, 0), (1, 1), (1, 2), (1, 3), (1, 4), (1, 5), (1, 6), (1, 7), (1, 8), (1, 9), (1, 10), (2, 0), (2, 1), (2, 2), (2, 3), (2, 4), (2, 5), (2, 6), (2, 7)] : List (Nat × Nat)) ++ ([(2, 8), (2, 9), (2, 10), (3, 0), (3, 1), (3, 2), (3, 3), (3, 4), (3, 5), (3, 6), (3, 7), (3, 8), (3, 9), (3, 10)] : List (Nat × Nat))),
  [4, 5, 6, 7, 8, 9], [(4, [(4, true), (5, true), (6, true), (7, true), (8, true), (9, true)])], []⟩
def G : Globs := ⟨[("is_integer", 0), ("is_name", 1), ("is_word", 2), ("rounded", 3), ("clipped", 4), ("word_of", 17), ("check_integer", 18), ("reading_of", 27), ("position_of", 38), ("divisor", 39), ("reduced", 40), ("is_factor", 41), ("are_terms", 42), ("plus", 55), ("added", 56), ("shared_bottom", 57), ("total", 58), ("_law_number", 59), ("_law_word", 60), ("_law_value", 61), ("_law_gcd", 62), ("_law_lowest", 63), ("_law_forms_right", 64), ("_law_parts", 65), ("_law_made", 66), ("_law_sum_right", 67), ("_law_devices_right", 68), ("_law_all_right", 69), ("law", 70)],
  [("Form", 0), ("Sensor", 1), ("Drive", 2), ("Sum", 3)],
  [("MIN_BITS", (.int 2)), ("MAX_BITS", (.int 8)), ("ROUNDINGS", (.ft (AV.tup [(.str "down"), (.str "up"), (.str "near"), (.str "zero")]))), ("LIMITS", (.ft (AV.tup [(.str "clip"), (.str "wrap")]))), ("LETTERS", (.str "abcdefghijklmnopqrstuvwxyz")), ("MAX_NAME", (.int 8)), ("MAX_SIZE", (.int 9)), ("MAX_READING", (.int 40)), ("MAX_POSITION", (.int 20)), ("MAX_CHANGE", (.int 40)), ("MAX_CONSTANT", (.int 99)), ("MAX_TERMS", (.int 5)), ("MAX_TOP", (.int 9))],
  ["len", "sum", "all", "any", "abs", "max", "min", "isinstance", "range", "list", "tuple", "dict", "int", "bool", "str", "enumerate", "zip"], [("LoopError", 4), ("InvalidForm", 5), ("InvalidNumber", 6), ("InvalidSum", 7), ("InvalidSensor", 8), ("InvalidDrive", 9)]⟩
def L : Lay := ⟨(([y_is_integer, y_is_name, y_is_word, y_rounded, y_clipped, y_Form_init_, y_Form_bits, y_Form_rounding, y_Form_limit, y_Form_low, y_Form_high, y_Form_eq_, y_Form_all_parts, y_Form_len_, y_Form_contains_, y_Form_call_, y_Form_changed, y_word_of, y_check_integer, y_Sensor_init_, y_Sensor_level, y_Sensor_size, y_Sensor_low, y_Sensor_high, y_Sensor_eq_, y_Sensor_all_parts, y_Sensor_call_, y_reading_of, y_Drive_init_, y_Drive_low] : List (DefY)) ++ ([y_Drive_high, y_Drive_change, y_Drive_start, y_Drive_eq_, y_Drive_all_parts, y_Drive_len_, y_Drive_contains_, y_Drive_call_, y_position_of, y_divisor, y_reduced, y_is_factor, y_are_terms, y_Sum_init_, y_Sum_constant, y_Sum_terms, y_Sum_eq_, y_Sum_len_, y_Sum_contains_, y_Sum_getitem_, y_Sum_iter_, y_Sum_add_, y_Sum_sub_, y_Sum_neg_, y_Sum_call_, y_plus, y_added, y_shared_bottom, y_total, y_law_number] : List (DefY)) ++ ([y_law_word, y_law_value, y_law_gcd, y_law_lowest, y_law_forms_right, y_law_parts, y_law_made, y_law_sum_right, y_law_devices_right, y_law_all_right, y_law] : List (DefY))),
  ["Form", "Sensor", "Drive", "Sum", "LoopError", "InvalidForm", "InvalidNumber", "InvalidSum", "InvalidSensor", "InvalidDrive"], D, G,
  (([n_is_integer, n_is_name, n_is_word, n_rounded, n_clipped, n_Form_init_, n_Form_bits, n_Form_rounding, n_Form_limit, n_Form_low, n_Form_high, n_Form_eq_, n_Form_all_parts, n_Form_len_, n_Form_contains_, n_Form_call_, n_Form_changed, n_word_of, n_check_integer, n_Sensor_init_, n_Sensor_level, n_Sensor_size, n_Sensor_low, n_Sensor_high, n_Sensor_eq_, n_Sensor_all_parts, n_Sensor_call_, n_reading_of, n_Drive_init_, n_Drive_low] : List (List Str)) ++ ([n_Drive_high, n_Drive_change, n_Drive_start, n_Drive_eq_, n_Drive_all_parts, n_Drive_len_, n_Drive_contains_, n_Drive_call_, n_position_of, n_divisor, n_reduced, n_is_factor, n_are_terms, n_Sum_init_, n_Sum_constant, n_Sum_terms, n_Sum_eq_, n_Sum_len_, n_Sum_contains_, n_Sum_getitem_, n_Sum_iter_, n_Sum_add_, n_Sum_sub_, n_Sum_neg_, n_Sum_call_, n_plus, n_added, n_shared_bottom, n_total, n_law_number] : List (List Str)) ++ ([n_law_word, n_law_value, n_law_gcd, n_law_lowest, n_law_forms_right, n_law_parts, n_law_made, n_law_sum_right, n_law_devices_right, n_law_all_right, n_law] : List (List Str)))⟩
end K05
end
section
namespace K05
open PySem PySem.Spec PyProof.Rows L2 Z ZV
theorem sco_is_integer : FnScope n_is_integer z_is_integer.ps y_is_integer.scope := ⟨rfl, rfl, rfl, by decide +kernel, rfl, by decide +kernel, by decide +kernel⟩
theorem t_is_integer : DefT y_is_integer z_is_integer n_is_integer := .plain sco_is_integer rfl rfl rfl fun _ _ _ _ _ _ us hl => match us, hl with | [_, _, _], _ => rfl
theorem sco_is_name : FnScope n_is_name z_is_name.ps y_is_name.scope := ⟨rfl, rfl, rfl, by decide +kernel, rfl, by decide +kernel, by decide +kernel⟩
theorem t_is_name : DefT y_is_name z_is_name n_is_name := .plain sco_is_name rfl rfl rfl fun _ _ _ _ _ _ us hl => match us, hl with | [_], _ => rfl
theorem sco_is_word : FnScope n_is_word z_is_word.ps y_is_word.scope := ⟨rfl, rfl, rfl, by decide +kernel, rfl, by decide +kernel, by decide +kernel⟩
theorem t_is_word : DefT y_is_word z_is_word n_is_word := .plain sco_is_word rfl rfl rfl fun _ _ _ _ _ _ us hl => match us, hl with | [_, _], _ => rfl
theorem sco_rounded : FnScope n_rounded z_rounded.ps y_rounded.scope := ⟨rfl, rfl, rfl, by decide +kernel, rfl, by decide +kernel, by decide +kernel⟩
theorem t_rounded : DefT y_rounded z_rounded n_rounded := .plain sco_rounded rfl rfl rfl fun _ _ _ _ _ _ us hl => match us, hl with | [_, _, _], _ => rfl
theorem sco_clipped : FnScope n_clipped z_clipped.ps y_clipped.scope := ⟨rfl, rfl, rfl, by decide +kernel, rfl, by decide +kernel, by decide +kernel⟩
theorem t_clipped : DefT y_clipped z_clipped n_clipped := .plain sco_clipped rfl rfl rfl fun _ _ _ _ _ _ us hl => match us, hl with | [_, _, _], _ => rfl
theorem sco_Form_init_ : FnScope n_Form_init_ z_Form_init_.ps y_Form_init_.scope := ⟨rfl, rfl, rfl, by decide +kernel, rfl, by decide +kernel, by decide +kernel⟩
theorem t_Form_init_ : DefT y_Form_init_ z_Form_init_ n_Form_init_ := by
  refine ⟨sco_Form_init_, fun K f fd F n ds hm => ?_, fun K f fd F n ks sr hm => ?_⟩
  · replace hm : (n, ds) ∈ [(2, [(AV.str "down"), (AV.str "clip")])] := hm
    simp only [List.mem_cons, List.not_mem_nil, or_false, Prod.mk.injEq] at hm
    obtain ⟨rfl, rfl⟩ := hm
    exact (fl_of (K := K) (ps := z_Form_init_.ps) (ds := ([(.str "down"), (.str "clip")] : List AV)) (dvs := (y_Form_init_.kws K).map (fun q : Str × V => q.2)) rfl (fun _ _ _ _ => (.cons rfl (.cons rfl .nil))) (F.binds0 2 (by intro z; cases z) rfl fun D doc pm an cdv ct us ks hu hk => match us, ks, hu, hk with | [_, _], [_, _], _, _ => ⟨_, _, _, _, _, _, rfl, rfl, ⟨_, _, _, _, _, _, rfl, rfl, rfl⟩⟩))
  · replace hm : (n, ks, sr) ∈ ([(2, ["limit"], [.pos 0, .pos 1, .dv (.str "down"), .kw 0]), (2, ["rounding", "limit"], [.pos 0, .pos 1, .kw 0, .kw 1])] : List (Nat × List Str × List Src)) := hm
    simp only [List.mem_cons, List.not_mem_nil, or_false, Prod.mk.injEq] at hm
    rcases hm with ⟨rfl, rfl, rfl⟩ | ⟨rfl, rfl, rfl⟩
    · obtain ⟨g, kb⟩ := (kbn0 (ps := z_Form_init_.ps) F 2 ["limit"] [("rounding", He.Dv.v K ((.str "down")))] [.p 0, .p 1, .m 0, .k 0] (by intro z; cases z) (fun z hz => by rcases List.mem_singleton.mp hz with rfl; first | exact List.mem_cons_self | exact List.mem_cons_of_mem _ List.mem_cons_self) fun D doc pm an cdv ct us mv ws hu hm hw => match us, mv, ws, hu, hm, hw with | [_, _], [_], [_], _, _, _ => ⟨_, _, _, _, _, _, rfl, rfl, rfl⟩)
      exact kw_of kb rfl fun T f m H as vs zs ws r1 r2 l1 l2 => match as, vs, zs, ws, r1, r2, l1, l2 with
        | [_, _], _, [_], _, (.cons hu0 (.cons hu1 .nil)), (.cons hw0 .nil), _, _ => (.cons hu0 (.cons hu1 (.cons rfl (.cons hw0 .nil))))
    · obtain ⟨g, kb⟩ := (kbn0 (ps := z_Form_init_.ps) F 2 ["rounding", "limit"] [] [.p 0, .p 1, .k 0, .k 1] (by intro z; cases z) (fun z hz => nomatch hz) fun D doc pm an cdv ct us mv ws hu hm hw => match us, mv, ws, hu, hm, hw with | [_, _], [], [_, _], _, _, _ => rfl)
      exact kw_of kb rfl fun T f m H as vs zs ws r1 r2 l1 l2 => match as, vs, zs, ws, r1, r2, l1, l2 with
        | [_, _], _, [_, _], _, (.cons hu0 (.cons hu1 .nil)), (.cons hw0 (.cons hw1 .nil)), _, _ => (.cons hu0 (.cons hu1 (.cons hw0 (.cons hw1 .nil))))
theorem sco_Form_bits : FnScope n_Form_bits z_Form_bits.ps y_Form_bits.scope := ⟨rfl, rfl, rfl, by decide +kernel, rfl, by decide +kernel, by decide +kernel⟩
theorem t_Form_bits : DefT y_Form_bits z_Form_bits n_Form_bits := .plain sco_Form_bits rfl rfl rfl fun _ _ _ _ _ _ us hl => match us, hl with | [_], _ => rfl
theorem sco_Form_rounding : FnScope n_Form_rounding z_Form_rounding.ps y_Form_rounding.scope := ⟨rfl, rfl, rfl, by decide +kernel, rfl, by decide +kernel, by decide +kernel⟩
theorem t_Form_rounding : DefT y_Form_rounding z_Form_rounding n_Form_rounding := .plain sco_Form_rounding rfl rfl rfl fun _ _ _ _ _ _ us hl => match us, hl with | [_], _ => rfl
theorem sco_Form_limit : FnScope n_Form_limit z_Form_limit.ps y_Form_limit.scope := ⟨rfl, rfl, rfl, by decide +kernel, rfl, by decide +kernel, by decide +kernel⟩
theorem t_Form_limit : DefT y_Form_limit z_Form_limit n_Form_limit := .plain sco_Form_limit rfl rfl rfl fun _ _ _ _ _ _ us hl => match us, hl with | [_], _ => rfl
theorem sco_Form_low : FnScope n_Form_low z_Form_low.ps y_Form_low.scope := ⟨rfl, rfl, rfl, by decide +kernel, rfl, by decide +kernel, by decide +kernel⟩
theorem t_Form_low : DefT y_Form_low z_Form_low n_Form_low := .plain sco_Form_low rfl rfl rfl fun _ _ _ _ _ _ us hl => match us, hl with | [_], _ => rfl
theorem sco_Form_high : FnScope n_Form_high z_Form_high.ps y_Form_high.scope := ⟨rfl, rfl, rfl, by decide +kernel, rfl, by decide +kernel, by decide +kernel⟩
theorem t_Form_high : DefT y_Form_high z_Form_high n_Form_high := .plain sco_Form_high rfl rfl rfl fun _ _ _ _ _ _ us hl => match us, hl with | [_], _ => rfl
theorem sco_Form_eq_ : FnScope n_Form_eq_ z_Form_eq_.ps y_Form_eq_.scope := ⟨rfl, rfl, rfl, by decide +kernel, rfl, by decide +kernel, by decide +kernel⟩
theorem t_Form_eq_ : DefT y_Form_eq_ z_Form_eq_ n_Form_eq_ := .plain sco_Form_eq_ rfl rfl rfl fun _ _ _ _ _ _ us hl => match us, hl with | [_, _], _ => rfl
theorem sco_Form_all_parts : FnScope n_Form_all_parts z_Form_all_parts.ps y_Form_all_parts.scope := ⟨rfl, rfl, rfl, by decide +kernel, rfl, by decide +kernel, by decide +kernel⟩
theorem t_Form_all_parts : DefT y_Form_all_parts z_Form_all_parts n_Form_all_parts := .plain sco_Form_all_parts rfl rfl rfl fun _ _ _ _ _ _ us hl => match us, hl with | [_], _ => rfl
theorem sco_Form_len_ : FnScope n_Form_len_ z_Form_len_.ps y_Form_len_.scope := ⟨rfl, rfl, rfl, by decide +kernel, rfl, by decide +kernel, by decide +kernel⟩
theorem t_Form_len_ : DefT y_Form_len_ z_Form_len_ n_Form_len_ := .plain sco_Form_len_ rfl rfl rfl fun _ _ _ _ _ _ us hl => match us, hl with | [_], _ => rfl
theorem sco_Form_contains_ : FnScope n_Form_contains_ z_Form_contains_.ps y_Form_contains_.scope := ⟨rfl, rfl, rfl, by decide +kernel, rfl, by decide +kernel, by decide +kernel⟩
theorem t_Form_contains_ : DefT y_Form_contains_ z_Form_contains_ n_Form_contains_ := .plain sco_Form_contains_ rfl rfl rfl fun _ _ _ _ _ _ us hl => match us, hl with | [_, _], _ => rfl
theorem sco_Form_call_ : FnScope n_Form_call_ z_Form_call_.ps y_Form_call_.scope := ⟨rfl, rfl, rfl, by decide +kernel, rfl, by decide +kernel, by decide +kernel⟩
theorem t_Form_call_ : DefT y_Form_call_ z_Form_call_ n_Form_call_ := by
  refine ⟨sco_Form_call_, fun K f fd F n ds hm => ?_, fun K f fd F n ks sr hm => ?_⟩
  · replace hm : (n, ds) ∈ [(2, [(AV.int 1)]), (3, [])] := hm
    simp only [List.mem_cons, List.not_mem_nil, or_false, Prod.mk.injEq] at hm
    rcases hm with ⟨rfl, rfl⟩ | ⟨rfl, rfl⟩
    · exact (fl_of (K := K) (ps := z_Form_call_.ps) (ds := ([(.int 1)] : List AV)) (dvs := (y_Form_call_.dvs K).drop 0) rfl (fun _ _ _ _ => (.cons rfl .nil)) (F.binds1 2 0 (by intro z; cases z) rfl fun T kV doc pm an cdv ct us its hu hi => match us, its, hu, hi with | [_, _], [_], _, _ => ⟨_, rfl, rfl⟩))
    · exact (fl_of (K := K) (ps := z_Form_call_.ps) (ds := ([] : List AV)) (dvs := (y_Form_call_.dvs K).drop 1) rfl (fun _ _ _ _ => .nil) (F.binds1 3 1 (by intro z; cases z) rfl fun T kV doc pm an cdv ct us its hu hi => match us, its, hu, hi with | [_, _, _], [_], _, _ => ⟨_, rfl, rfl⟩))
  · cases hm
theorem sco_Form_changed : FnScope n_Form_changed z_Form_changed.ps y_Form_changed.scope := ⟨rfl, rfl, rfl, by decide +kernel, rfl, by decide +kernel, by decide +kernel⟩
theorem t_Form_changed : DefT y_Form_changed z_Form_changed n_Form_changed := by
  refine ⟨sco_Form_changed, fun K f fd F n ds hm => ?_, fun K f fd F n ks sr hm => ?_⟩
  · replace hm : (n, ds) ∈ [(1, [.non, .non])] := hm
    simp only [List.mem_cons, List.not_mem_nil, or_false, Prod.mk.injEq] at hm
    obtain ⟨rfl, rfl⟩ := hm
    exact (fl_of (K := K) (ps := z_Form_changed.ps) (ds := ([.non, .non] : List AV)) (dvs := (y_Form_changed.kws K).map (fun q : Str × V => q.2)) rfl (fun _ _ _ _ => (.cons rfl (.cons rfl .nil))) (F.binds0 1 (by intro z; cases z) rfl fun D doc pm an cdv ct us ks hu hk => match us, ks, hu, hk with | [_], [_, _], _, _ => ⟨_, _, _, _, _, _, rfl, rfl, ⟨_, _, _, _, _, _, rfl, rfl, rfl⟩⟩))
  · replace hm : (n, ks, sr) ∈ ([(1, ["limit"], [.pos 0, .dv .non, .kw 0]), (1, ["rounding"], [.pos 0, .kw 0, .dv .non])] : List (Nat × List Str × List Src)) := hm
    simp only [List.mem_cons, List.not_mem_nil, or_false, Prod.mk.injEq] at hm
    rcases hm with ⟨rfl, rfl, rfl⟩ | ⟨rfl, rfl, rfl⟩
    · obtain ⟨g, kb⟩ := (kbn0 (ps := z_Form_changed.ps) F 1 ["limit"] [("rounding", He.Dv.v K (.non))] [.p 0, .m 0, .k 0] (by intro z; cases z) (fun z hz => by rcases List.mem_singleton.mp hz with rfl; first | exact List.mem_cons_self | exact List.mem_cons_of_mem _ List.mem_cons_self) fun D doc pm an cdv ct us mv ws hu hm hw => match us, mv, ws, hu, hm, hw with | [_], [_], [_], _, _, _ => ⟨_, _, _, _, _, _, rfl, rfl, rfl⟩)
      exact kw_of kb rfl fun T f m H as vs zs ws r1 r2 l1 l2 => match as, vs, zs, ws, r1, r2, l1, l2 with
        | [_], _, [_], _, (.cons hu0 .nil), (.cons hw0 .nil), _, _ => (.cons hu0 (.cons rfl (.cons hw0 .nil)))
    · obtain ⟨g, kb⟩ := (kbn0 (ps := z_Form_changed.ps) F 1 ["rounding"] [("limit", He.Dv.v K (.non))] [.p 0, .k 0, .m 0] (by intro z; cases z) (fun z hz => by rcases List.mem_singleton.mp hz with rfl; first | exact List.mem_cons_self | exact List.mem_cons_of_mem _ List.mem_cons_self) fun D doc pm an cdv ct us mv ws hu hm hw => match us, mv, ws, hu, hm, hw with | [_], [_], [_], _, _, _ => ⟨_, _, _, _, _, _, rfl, rfl, rfl⟩)
      exact kw_of kb rfl fun T f m H as vs zs ws r1 r2 l1 l2 => match as, vs, zs, ws, r1, r2, l1, l2 with
        | [_], _, [_], _, (.cons hu0 .nil), (.cons hw0 .nil), _, _ => (.cons hu0 (.cons hw0 (.cons rfl .nil)))
theorem sco_word_of : FnScope n_word_of z_word_of.ps y_word_of.scope := ⟨rfl, rfl, rfl, by decide +kernel, rfl, by decide +kernel, by decide +kernel⟩
theorem t_word_of : DefT y_word_of z_word_of n_word_of := .plain sco_word_of rfl rfl rfl fun _ _ _ _ _ _ us hl => match us, hl with | [_, _, _], _ => rfl
theorem sco_check_integer : FnScope n_check_integer z_check_integer.ps y_check_integer.scope := ⟨rfl, rfl, rfl, by decide +kernel, rfl, by decide +kernel, by decide +kernel⟩
theorem t_check_integer : DefT y_check_integer z_check_integer n_check_integer := .plain sco_check_integer rfl rfl rfl fun _ _ _ _ _ _ us hl => match us, hl with | [_], _ => rfl
theorem sco_Sensor_init_ : FnScope n_Sensor_init_ z_Sensor_init_.ps y_Sensor_init_.scope := ⟨rfl, rfl, rfl, by decide +kernel, rfl, by decide +kernel, by decide +kernel⟩
theorem t_Sensor_init_ : DefT y_Sensor_init_ z_Sensor_init_ n_Sensor_init_ := .plain sco_Sensor_init_ rfl rfl rfl fun _ _ _ _ _ _ us hl => match us, hl with | [_, _, _, _, _], _ => rfl
theorem sco_Sensor_level : FnScope n_Sensor_level z_Sensor_level.ps y_Sensor_level.scope := ⟨rfl, rfl, rfl, by decide +kernel, rfl, by decide +kernel, by decide +kernel⟩
theorem t_Sensor_level : DefT y_Sensor_level z_Sensor_level n_Sensor_level := .plain sco_Sensor_level rfl rfl rfl fun _ _ _ _ _ _ us hl => match us, hl with | [_], _ => rfl
theorem sco_Sensor_size : FnScope n_Sensor_size z_Sensor_size.ps y_Sensor_size.scope := ⟨rfl, rfl, rfl, by decide +kernel, rfl, by decide +kernel, by decide +kernel⟩
theorem t_Sensor_size : DefT y_Sensor_size z_Sensor_size n_Sensor_size := .plain sco_Sensor_size rfl rfl rfl fun _ _ _ _ _ _ us hl => match us, hl with | [_], _ => rfl
theorem sco_Sensor_low : FnScope n_Sensor_low z_Sensor_low.ps y_Sensor_low.scope := ⟨rfl, rfl, rfl, by decide +kernel, rfl, by decide +kernel, by decide +kernel⟩
theorem t_Sensor_low : DefT y_Sensor_low z_Sensor_low n_Sensor_low := .plain sco_Sensor_low rfl rfl rfl fun _ _ _ _ _ _ us hl => match us, hl with | [_], _ => rfl
theorem sco_Sensor_high : FnScope n_Sensor_high z_Sensor_high.ps y_Sensor_high.scope := ⟨rfl, rfl, rfl, by decide +kernel, rfl, by decide +kernel, by decide +kernel⟩
theorem t_Sensor_high : DefT y_Sensor_high z_Sensor_high n_Sensor_high := .plain sco_Sensor_high rfl rfl rfl fun _ _ _ _ _ _ us hl => match us, hl with | [_], _ => rfl
theorem sco_Sensor_eq_ : FnScope n_Sensor_eq_ z_Sensor_eq_.ps y_Sensor_eq_.scope := ⟨rfl, rfl, rfl, by decide +kernel, rfl, by decide +kernel, by decide +kernel⟩
theorem t_Sensor_eq_ : DefT y_Sensor_eq_ z_Sensor_eq_ n_Sensor_eq_ := .plain sco_Sensor_eq_ rfl rfl rfl fun _ _ _ _ _ _ us hl => match us, hl with | [_, _], _ => rfl
theorem sco_Sensor_all_parts : FnScope n_Sensor_all_parts z_Sensor_all_parts.ps y_Sensor_all_parts.scope := ⟨rfl, rfl, rfl, by decide +kernel, rfl, by decide +kernel, by decide +kernel⟩
theorem t_Sensor_all_parts : DefT y_Sensor_all_parts z_Sensor_all_parts n_Sensor_all_parts := .plain sco_Sensor_all_parts rfl rfl rfl fun _ _ _ _ _ _ us hl => match us, hl with | [_], _ => rfl
theorem sco_Sensor_call_ : FnScope n_Sensor_call_ z_Sensor_call_.ps y_Sensor_call_.scope := ⟨rfl, rfl, rfl, by decide +kernel, rfl, by decide +kernel, by decide +kernel⟩
theorem t_Sensor_call_ : DefT y_Sensor_call_ z_Sensor_call_ n_Sensor_call_ := .plain sco_Sensor_call_ rfl rfl rfl fun _ _ _ _ _ _ us hl => match us, hl with | [_, _], _ => rfl
theorem sco_reading_of : FnScope n_reading_of z_reading_of.ps y_reading_of.scope := ⟨rfl, rfl, rfl, by decide +kernel, rfl, by decide +kernel, by decide +kernel⟩
theorem t_reading_of : DefT y_reading_of z_reading_of n_reading_of := .plain sco_reading_of rfl rfl rfl fun _ _ _ _ _ _ us hl => match us, hl with | [_, _], _ => rfl
theorem sco_Drive_init_ : FnScope n_Drive_init_ z_Drive_init_.ps y_Drive_init_.scope := ⟨rfl, rfl, rfl, by decide +kernel, rfl, by decide +kernel, by decide +kernel⟩
theorem t_Drive_init_ : DefT y_Drive_init_ z_Drive_init_ n_Drive_init_ := by
  refine ⟨sco_Drive_init_, fun K f fd F n ds hm => ?_, fun K f fd F n ks sr hm => ?_⟩
  · replace hm : (n, ds) ∈ [(4, [(AV.int 0)])] := hm
    simp only [List.mem_cons, List.not_mem_nil, or_false, Prod.mk.injEq] at hm
    obtain ⟨rfl, rfl⟩ := hm
    exact (fl_of (K := K) (ps := z_Drive_init_.ps) (ds := ([(.int 0)] : List AV)) (dvs := (y_Drive_init_.kws K).map (fun q : Str × V => q.2)) rfl (fun _ _ _ _ => (.cons rfl .nil)) (F.binds0 4 (by intro z; cases z) rfl fun D doc pm an cdv ct us ks hu hk => match us, ks, hu, hk with | [_, _, _, _], [_], _, _ => ⟨_, _, _, _, _, _, rfl, rfl, rfl⟩))
  · replace hm : (n, ks, sr) ∈ ([(4, ["start"], [.pos 0, .pos 1, .pos 2, .pos 3, .kw 0])] : List (Nat × List Str × List Src)) := hm
    simp only [List.mem_cons, List.not_mem_nil, or_false, Prod.mk.injEq] at hm
    obtain ⟨rfl, rfl, rfl⟩ := hm
    obtain ⟨g, kb⟩ := (kbn0 (ps := z_Drive_init_.ps) F 4 ["start"] [] [.p 0, .p 1, .p 2, .p 3, .k 0] (by intro z; cases z) (fun z hz => nomatch hz) fun D doc pm an cdv ct us mv ws hu hm hw => match us, mv, ws, hu, hm, hw with | [_, _, _, _], [], [_], _, _, _ => rfl)
    exact kw_of kb rfl fun T f m H as vs zs ws r1 r2 l1 l2 => match as, vs, zs, ws, r1, r2, l1, l2 with
      | [_, _, _, _], _, [_], _, (.cons hu0 (.cons hu1 (.cons hu2 (.cons hu3 .nil)))), (.cons hw0 .nil), _, _ => (.cons hu0 (.cons hu1 (.cons hu2 (.cons hu3 (.cons hw0 .nil)))))
theorem sco_Drive_low : FnScope n_Drive_low z_Drive_low.ps y_Drive_low.scope := ⟨rfl, rfl, rfl, by decide +kernel, rfl, by decide +kernel, by decide +kernel⟩
theorem t_Drive_low : DefT y_Drive_low z_Drive_low n_Drive_low := .plain sco_Drive_low rfl rfl rfl fun _ _ _ _ _ _ us hl => match us, hl with | [_], _ => rfl
theorem sco_Drive_high : FnScope n_Drive_high z_Drive_high.ps y_Drive_high.scope := ⟨rfl, rfl, rfl, by decide +kernel, rfl, by decide +kernel, by decide +kernel⟩
theorem t_Drive_high : DefT y_Drive_high z_Drive_high n_Drive_high := .plain sco_Drive_high rfl rfl rfl fun _ _ _ _ _ _ us hl => match us, hl with | [_], _ => rfl
theorem sco_Drive_change : FnScope n_Drive_change z_Drive_change.ps y_Drive_change.scope := ⟨rfl, rfl, rfl, by decide +kernel, rfl, by decide +kernel, by decide +kernel⟩
theorem t_Drive_change : DefT y_Drive_change z_Drive_change n_Drive_change := .plain sco_Drive_change rfl rfl rfl fun _ _ _ _ _ _ us hl => match us, hl with | [_], _ => rfl
theorem sco_Drive_start : FnScope n_Drive_start z_Drive_start.ps y_Drive_start.scope := ⟨rfl, rfl, rfl, by decide +kernel, rfl, by decide +kernel, by decide +kernel⟩
theorem t_Drive_start : DefT y_Drive_start z_Drive_start n_Drive_start := .plain sco_Drive_start rfl rfl rfl fun _ _ _ _ _ _ us hl => match us, hl with | [_], _ => rfl
theorem sco_Drive_eq_ : FnScope n_Drive_eq_ z_Drive_eq_.ps y_Drive_eq_.scope := ⟨rfl, rfl, rfl, by decide +kernel, rfl, by decide +kernel, by decide +kernel⟩
theorem t_Drive_eq_ : DefT y_Drive_eq_ z_Drive_eq_ n_Drive_eq_ := .plain sco_Drive_eq_ rfl rfl rfl fun _ _ _ _ _ _ us hl => match us, hl with | [_, _], _ => rfl
theorem sco_Drive_all_parts : FnScope n_Drive_all_parts z_Drive_all_parts.ps y_Drive_all_parts.scope := ⟨rfl, rfl, rfl, by decide +kernel, rfl, by decide +kernel, by decide +kernel⟩
theorem t_Drive_all_parts : DefT y_Drive_all_parts z_Drive_all_parts n_Drive_all_parts := .plain sco_Drive_all_parts rfl rfl rfl fun _ _ _ _ _ _ us hl => match us, hl with | [_], _ => rfl
theorem sco_Drive_len_ : FnScope n_Drive_len_ z_Drive_len_.ps y_Drive_len_.scope := ⟨rfl, rfl, rfl, by decide +kernel, rfl, by decide +kernel, by decide +kernel⟩
theorem t_Drive_len_ : DefT y_Drive_len_ z_Drive_len_ n_Drive_len_ := .plain sco_Drive_len_ rfl rfl rfl fun _ _ _ _ _ _ us hl => match us, hl with | [_], _ => rfl
theorem sco_Drive_contains_ : FnScope n_Drive_contains_ z_Drive_contains_.ps y_Drive_contains_.scope := ⟨rfl, rfl, rfl, by decide +kernel, rfl, by decide +kernel, by decide +kernel⟩
theorem t_Drive_contains_ : DefT y_Drive_contains_ z_Drive_contains_ n_Drive_contains_ := .plain sco_Drive_contains_ rfl rfl rfl fun _ _ _ _ _ _ us hl => match us, hl with | [_, _], _ => rfl
theorem sco_Drive_call_ : FnScope n_Drive_call_ z_Drive_call_.ps y_Drive_call_.scope := ⟨rfl, rfl, rfl, by decide +kernel, rfl, by decide +kernel, by decide +kernel⟩
theorem t_Drive_call_ : DefT y_Drive_call_ z_Drive_call_ n_Drive_call_ := .plain sco_Drive_call_ rfl rfl rfl fun _ _ _ _ _ _ us hl => match us, hl with | [_, _, _], _ => rfl
theorem sco_position_of : FnScope n_position_of z_position_of.ps y_position_of.scope := ⟨rfl, rfl, rfl, by decide +kernel, rfl, by decide +kernel, by decide +kernel⟩
theorem t_position_of : DefT y_position_of z_position_of n_position_of := .plain sco_position_of rfl rfl rfl fun _ _ _ _ _ _ us hl => match us, hl with | [_, _, _, _], _ => rfl
theorem sco_divisor : FnScope n_divisor z_divisor.ps y_divisor.scope := ⟨rfl, rfl, rfl, by decide +kernel, rfl, by decide +kernel, by decide +kernel⟩
theorem t_divisor : DefT y_divisor z_divisor n_divisor := .plain sco_divisor rfl rfl rfl fun _ _ _ _ _ _ us hl => match us, hl with | [_, _], _ => rfl
theorem sco_reduced : FnScope n_reduced z_reduced.ps y_reduced.scope := ⟨rfl, rfl, rfl, by decide +kernel, rfl, by decide +kernel, by decide +kernel⟩
theorem t_reduced : DefT y_reduced z_reduced n_reduced := .plain sco_reduced rfl rfl rfl fun _ _ _ _ _ _ us hl => match us, hl with | [_, _], _ => rfl
theorem sco_is_factor : FnScope n_is_factor z_is_factor.ps y_is_factor.scope := ⟨rfl, rfl, rfl, by decide +kernel, rfl, by decide +kernel, by decide +kernel⟩
theorem t_is_factor : DefT y_is_factor z_is_factor n_is_factor := .plain sco_is_factor rfl rfl rfl fun _ _ _ _ _ _ us hl => match us, hl with | [_], _ => rfl
theorem sco_are_terms : FnScope n_are_terms z_are_terms.ps y_are_terms.scope := ⟨rfl, rfl, rfl, by decide +kernel, rfl, by decide +kernel, by decide +kernel⟩
theorem t_are_terms : DefT y_are_terms z_are_terms n_are_terms := .plain sco_are_terms rfl rfl rfl fun _ _ _ _ _ _ us hl => match us, hl with | [_], _ => rfl
theorem sco_Sum_init_ : FnScope n_Sum_init_ z_Sum_init_.ps y_Sum_init_.scope := ⟨rfl, rfl, rfl, by decide +kernel, rfl, by decide +kernel, by decide +kernel⟩
theorem t_Sum_init_ : DefT y_Sum_init_ z_Sum_init_ n_Sum_init_ := .plain sco_Sum_init_ rfl rfl rfl fun _ _ _ _ _ _ us hl => match us, hl with | [_, _, _], _ => rfl
theorem sco_Sum_constant : FnScope n_Sum_constant z_Sum_constant.ps y_Sum_constant.scope := ⟨rfl, rfl, rfl, by decide +kernel, rfl, by decide +kernel, by decide +kernel⟩
theorem t_Sum_constant : DefT y_Sum_constant z_Sum_constant n_Sum_constant := .plain sco_Sum_constant rfl rfl rfl fun _ _ _ _ _ _ us hl => match us, hl with | [_], _ => rfl
theorem sco_Sum_terms : FnScope n_Sum_terms z_Sum_terms.ps y_Sum_terms.scope := ⟨rfl, rfl, rfl, by decide +kernel, rfl, by decide +kernel, by decide +kernel⟩
theorem t_Sum_terms : DefT y_Sum_terms z_Sum_terms n_Sum_terms := .plain sco_Sum_terms rfl rfl rfl fun _ _ _ _ _ _ us hl => match us, hl with | [_], _ => rfl
theorem sco_Sum_eq_ : FnScope n_Sum_eq_ z_Sum_eq_.ps y_Sum_eq_.scope := ⟨rfl, rfl, rfl, by decide +kernel, rfl, by decide +kernel, by decide +kernel⟩
theorem t_Sum_eq_ : DefT y_Sum_eq_ z_Sum_eq_ n_Sum_eq_ := .plain sco_Sum_eq_ rfl rfl rfl fun _ _ _ _ _ _ us hl => match us, hl with | [_, _], _ => rfl
theorem sco_Sum_len_ : FnScope n_Sum_len_ z_Sum_len_.ps y_Sum_len_.scope := ⟨rfl, rfl, rfl, by decide +kernel, rfl, by decide +kernel, by decide +kernel⟩
theorem t_Sum_len_ : DefT y_Sum_len_ z_Sum_len_ n_Sum_len_ := .plain sco_Sum_len_ rfl rfl rfl fun _ _ _ _ _ _ us hl => match us, hl with | [_], _ => rfl
theorem sco_Sum_contains_ : FnScope n_Sum_contains_ z_Sum_contains_.ps y_Sum_contains_.scope := ⟨rfl, rfl, rfl, by decide +kernel, rfl, by decide +kernel, by decide +kernel⟩
theorem t_Sum_contains_ : DefT y_Sum_contains_ z_Sum_contains_ n_Sum_contains_ := .plain sco_Sum_contains_ rfl rfl rfl fun _ _ _ _ _ _ us hl => match us, hl with | [_, _], _ => rfl
theorem sco_Sum_getitem_ : FnScope n_Sum_getitem_ z_Sum_getitem_.ps y_Sum_getitem_.scope := ⟨rfl, rfl, rfl, by decide +kernel, rfl, by decide +kernel, by decide +kernel⟩
theorem t_Sum_getitem_ : DefT y_Sum_getitem_ z_Sum_getitem_ n_Sum_getitem_ := .plain sco_Sum_getitem_ rfl rfl rfl fun _ _ _ _ _ _ us hl => match us, hl with | [_, _], _ => rfl
theorem sco_Sum_iter_ : FnScope n_Sum_iter_ z_Sum_iter_.ps y_Sum_iter_.scope := ⟨rfl, rfl, rfl, by decide +kernel, rfl, by decide +kernel, by decide +kernel⟩
theorem t_Sum_iter_ : DefT y_Sum_iter_ z_Sum_iter_ n_Sum_iter_ := .plain sco_Sum_iter_ rfl rfl rfl fun _ _ _ _ _ _ us hl => match us, hl with | [_], _ => rfl
theorem sco_Sum_add_ : FnScope n_Sum_add_ z_Sum_add_.ps y_Sum_add_.scope := ⟨rfl, rfl, rfl, by decide +kernel, rfl, by decide +kernel, by decide +kernel⟩
theorem t_Sum_add_ : DefT y_Sum_add_ z_Sum_add_ n_Sum_add_ := .plain sco_Sum_add_ rfl rfl rfl fun _ _ _ _ _ _ us hl => match us, hl with | [_, _], _ => rfl
theorem sco_Sum_sub_ : FnScope n_Sum_sub_ z_Sum_sub_.ps y_Sum_sub_.scope := ⟨rfl, rfl, rfl, by decide +kernel, rfl, by decide +kernel, by decide +kernel⟩
theorem t_Sum_sub_ : DefT y_Sum_sub_ z_Sum_sub_ n_Sum_sub_ := .plain sco_Sum_sub_ rfl rfl rfl fun _ _ _ _ _ _ us hl => match us, hl with | [_, _], _ => rfl
theorem sco_Sum_neg_ : FnScope n_Sum_neg_ z_Sum_neg_.ps y_Sum_neg_.scope := ⟨rfl, rfl, rfl, by decide +kernel, rfl, by decide +kernel, by decide +kernel⟩
theorem t_Sum_neg_ : DefT y_Sum_neg_ z_Sum_neg_ n_Sum_neg_ := .plain sco_Sum_neg_ rfl rfl rfl fun _ _ _ _ _ _ us hl => match us, hl with | [_], _ => rfl
theorem sco_Sum_call_ : FnScope n_Sum_call_ z_Sum_call_.ps y_Sum_call_.scope := ⟨rfl, rfl, rfl, by decide +kernel, rfl, by decide +kernel, by decide +kernel⟩
theorem t_Sum_call_ : DefT y_Sum_call_ z_Sum_call_ n_Sum_call_ := .plain sco_Sum_call_ rfl rfl rfl fun _ _ _ _ _ _ us hl => match us, hl with | [_, _], _ => rfl
theorem sco_plus : FnScope n_plus z_plus.ps y_plus.scope := ⟨rfl, rfl, rfl, by decide +kernel, rfl, by decide +kernel, by decide +kernel⟩
theorem t_plus : DefT y_plus z_plus n_plus := .plain sco_plus rfl rfl rfl fun _ _ _ _ _ _ us hl => match us, hl with | [_, _], _ => rfl
theorem sco_added : FnScope n_added z_added.ps y_added.scope := ⟨rfl, rfl, rfl, by decide +kernel, rfl, by decide +kernel, by decide +kernel⟩
theorem t_added : DefT y_added z_added n_added := .plain sco_added rfl rfl rfl fun _ _ _ _ _ _ us hl => match us, hl with | [_, _, _], _ => rfl
theorem sco_shared_bottom : FnScope n_shared_bottom z_shared_bottom.ps y_shared_bottom.scope := ⟨rfl, rfl, rfl, by decide +kernel, rfl, by decide +kernel, by decide +kernel⟩
theorem t_shared_bottom : DefT y_shared_bottom z_shared_bottom n_shared_bottom := .plain sco_shared_bottom rfl rfl rfl fun _ _ _ _ _ _ us hl => match us, hl with | [_], _ => rfl
theorem sco_total : FnScope n_total z_total.ps y_total.scope := ⟨rfl, rfl, rfl, by decide +kernel, rfl, by decide +kernel, by decide +kernel⟩
theorem t_total : DefT y_total z_total n_total := .plain sco_total rfl rfl rfl fun _ _ _ _ _ _ us hl => match us, hl with | [_, _], _ => rfl
theorem sco_law_number : FnScope n_law_number z_law_number.ps y_law_number.scope := ⟨rfl, rfl, rfl, by decide +kernel, rfl, by decide +kernel, by decide +kernel⟩
theorem t_law_number : DefT y_law_number z_law_number n_law_number := .plain sco_law_number rfl rfl rfl fun _ _ _ _ _ _ us hl => match us, hl with | [_, _], _ => rfl
theorem sco_law_word : FnScope n_law_word z_law_word.ps y_law_word.scope := ⟨rfl, rfl, rfl, by decide +kernel, rfl, by decide +kernel, by decide +kernel⟩
theorem t_law_word : DefT y_law_word z_law_word n_law_word := .plain sco_law_word rfl rfl rfl fun _ _ _ _ _ _ us hl => match us, hl with | [_, _, _], _ => rfl
theorem sco_law_value : FnScope n_law_value z_law_value.ps y_law_value.scope := ⟨rfl, rfl, rfl, by decide +kernel, rfl, by decide +kernel, by decide +kernel⟩
theorem t_law_value : DefT y_law_value z_law_value n_law_value := .plain sco_law_value rfl rfl rfl fun _ _ _ _ _ _ us hl => match us, hl with | [_, _], _ => rfl
theorem sco_law_gcd : FnScope n_law_gcd z_law_gcd.ps y_law_gcd.scope := ⟨rfl, rfl, rfl, by decide +kernel, rfl, by decide +kernel, by decide +kernel⟩
theorem t_law_gcd : DefT y_law_gcd z_law_gcd n_law_gcd := .plain sco_law_gcd rfl rfl rfl fun _ _ _ _ _ _ us hl => match us, hl with | [_, _], _ => rfl
theorem sco_law_lowest : FnScope n_law_lowest z_law_lowest.ps y_law_lowest.scope := ⟨rfl, rfl, rfl, by decide +kernel, rfl, by decide +kernel, by decide +kernel⟩
theorem t_law_lowest : DefT y_law_lowest z_law_lowest n_law_lowest := .plain sco_law_lowest rfl rfl rfl fun _ _ _ _ _ _ us hl => match us, hl with | [_, _], _ => rfl
theorem sco_law_forms_right : FnScope n_law_forms_right z_law_forms_right.ps y_law_forms_right.scope := ⟨rfl, rfl, rfl, by decide +kernel, rfl, by decide +kernel, by decide +kernel⟩
theorem t_law_forms_right : DefT y_law_forms_right z_law_forms_right n_law_forms_right := .plain sco_law_forms_right rfl rfl rfl fun _ _ _ _ _ _ us hl => match us, hl with | [_], _ => rfl
theorem sco_law_parts : FnScope n_law_parts z_law_parts.ps y_law_parts.scope := ⟨rfl, rfl, rfl, by decide +kernel, rfl, by decide +kernel, by decide +kernel⟩
theorem t_law_parts : DefT y_law_parts z_law_parts n_law_parts := .plain sco_law_parts rfl rfl rfl fun _ _ _ _ _ _ us hl => match us, hl with | [_], _ => rfl
theorem sco_law_made : FnScope n_law_made z_law_made.ps y_law_made.scope := ⟨rfl, rfl, rfl, by decide +kernel, rfl, by decide +kernel, by decide +kernel⟩
theorem t_law_made : DefT y_law_made z_law_made n_law_made := .plain sco_law_made rfl rfl rfl fun _ _ _ _ _ _ us hl => match us, hl with | [_], _ => rfl
theorem sco_law_sum_right : FnScope n_law_sum_right z_law_sum_right.ps y_law_sum_right.scope := ⟨rfl, rfl, rfl, by decide +kernel, rfl, by decide +kernel, by decide +kernel⟩
theorem t_law_sum_right : DefT y_law_sum_right z_law_sum_right n_law_sum_right := .plain sco_law_sum_right rfl rfl rfl fun _ _ _ _ _ _ us hl => match us, hl with | [_, _], _ => rfl
theorem sco_law_devices_right : FnScope n_law_devices_right z_law_devices_right.ps y_law_devices_right.scope := ⟨rfl, rfl, rfl, by decide +kernel, rfl, by decide +kernel, by decide +kernel⟩
theorem t_law_devices_right : DefT y_law_devices_right z_law_devices_right n_law_devices_right := .plain sco_law_devices_right rfl rfl rfl fun _ _ _ _ _ _ us hl => match us, hl with | [_], _ => rfl
theorem sco_law_all_right : FnScope n_law_all_right z_law_all_right.ps y_law_all_right.scope := ⟨rfl, rfl, rfl, by decide +kernel, rfl, by decide +kernel, by decide +kernel⟩
theorem t_law_all_right : DefT y_law_all_right z_law_all_right n_law_all_right := .plain sco_law_all_right rfl rfl rfl fun _ _ _ _ _ _ us hl => match us, hl with | [_], _ => rfl
theorem sco_law : FnScope n_law z_law.ps y_law.scope := ⟨rfl, rfl, rfl, by decide +kernel, rfl, by decide +kernel, by decide +kernel⟩
theorem t_law : DefT y_law z_law n_law := .plain sco_law rfl rfl rfl fun _ _ _ _ _ _ us hl => match us, hl with | [_], _ => rfl
end K05
end
section
namespace K05
open PySem PySem.Spec PyProof.Rows L2 Z ZV
def b_is_integer (cl : Calls) : SV :=
    (sRet (eAnd (eUn (pIsi D 2) (eVar 0)) (eAnd (eNot (eUn (pIsi D 1) (eVar 0))) (eChain (cmpPrim D cl .LtE) (cmpPrim D cl .LtE) (eVar 1) (eVar 0) (eVar 2)))))
def b_is_name (cl : Calls) : SV :=
    (sRet (eAnd (eUn (pIsi D 3) (eVar 0)) (eAnd (eChain (cmpPrim D cl .LtE) (cmpPrim D cl .LtE) (eC (.int 1)) (eCallF (pLen D cl) (lCons (eVar 0) lNil)) (eC (.int 8))) (eCallF (pAllAny bAll) (lCons (eLc (tVal pIter (eVar 0)) (.nm 1) (eC (.bl true)) (eBin (cmpPrim D cl .In) (eVar 1) (eC (.str "abcdefghijklmnopqrstuvwxyz"))) [1]) lNil)))))
def b_is_word (cl : Calls) : SV :=
    (sRet (eAnd (eUn (pIsi D 3) (eVar 0)) (eBin (cmpPrim D cl .In) (eVar 0) (eVar 1))))
def b_rounded (cl : Calls) : SV :=
    (sMatch (eVar 2) (mArm (pvVal (cmpPrim D cl .Eq) (eC (.str "down")))
    (sRet (eBin (opPrim D cl .FloorDiv) (eVar 0) (eVar 1)))
    (mArm (pvVal (cmpPrim D cl .Eq) (eC (.str "up")))
    (sRet (eUn (pNeg D cl) (eBin (opPrim D cl .FloorDiv) (eUn (pNeg D cl) (eVar 0)) (eVar 1))))
    (mArm (pvVal (cmpPrim D cl .Eq) (eC (.str "near")))
    (sRet (eBin (opPrim D cl .FloorDiv) (eBin (opPrim D cl .Add) (eBin (opPrim D cl .Mult) (eC (.int 2)) (eVar 0)) (eVar 1)) (eBin (opPrim D cl .Mult) (eC (.int 2)) (eVar 1))))
    (mAny (sRet (eIf (eBin (cmpPrim D cl .GtE) (eVar 0) (eC (.int 0))) (eBin (opPrim D cl .FloorDiv) (eVar 0) (eVar 1)) (eUn (pNeg D cl) (eBin (opPrim D cl .FloorDiv) (eUn (pNeg D cl) (eVar 0)) (eVar 1))))))))))
def b_clipped (cl : Calls) : SV :=
    (sRet (eCallF (pMM iMax iMaxL) (lCons (eVar 1) (lCons (eCallF (pMM iMin iMinL) (lCons (eVar 2) (lCons (eVar 0) lNil))) lNil))))
def b_Form_init__1 (cl : Calls) : SV :=
    (sFldZ D 14 (eVar 0) (eVar 3))
def b_Form_init__2 (cl : Calls) : SV :=
    (sSeq (sFldZ D 13 (eVar 0) (eVar 2))
    (b_Form_init__1 cl))
def b_Form_init__3 (cl : Calls) : SV :=
    (sSeq (sFldZ D 12 (eVar 0) (eVar 1))
    (b_Form_init__2 cl))
def b_Form_init__4 (cl : Calls) : SV :=
    (sSeq (sIf (eOr (eNot (eCallF (callK D cl 2) (lCons (eVar 2) (lCons (eC (.ft (AV.tup [(.str "down"), (.str "up"), (.str "near"), (.str "zero")]))) lNil)))) (eNot (eCallF (callK D cl 2) (lCons (eVar 3) (lCons (eC (.ft (AV.tup [(.str "clip"), (.str "wrap")]))) lNil)))))
    (sRaise 5)
    sSkip)
    (b_Form_init__3 cl))
def b_Form_init_ (cl : Calls) : SV :=
    (sSeq (sIf (eNot (eCallF (callK D cl 0) (lCons (eVar 1) (lCons (eC (.int 2)) (lCons (eC (.int 8)) lNil)))))
    (sRaise 5)
    sSkip)
    (b_Form_init__4 cl))
def b_Form_bits (cl : Calls) : SV :=
    (sRet (eUn (pAttr D cl 12) (eVar 0)))
def b_Form_rounding (cl : Calls) : SV :=
    (sRet (eUn (pAttr D cl 13) (eVar 0)))
def b_Form_limit (cl : Calls) : SV :=
    (sRet (eUn (pAttr D cl 14) (eVar 0)))
def b_Form_low (cl : Calls) : SV :=
    (sRet (eUn (pNeg D cl) (eBin (opPrim D cl .LShift) (eC (.int 1)) (eBin (opPrim D cl .Sub) (eUn (pAttr D cl 12) (eVar 0)) (eC (.int 1))))))
def b_Form_high (cl : Calls) : SV :=
    (sRet (eBin (opPrim D cl .Sub) (eBin (opPrim D cl .LShift) (eC (.int 1)) (eBin (opPrim D cl .Sub) (eUn (pAttr D cl 12) (eVar 0)) (eC (.int 1)))) (eC (.int 1))))
def b_Form_eq_ (cl : Calls) : SV :=
    (sRet (eAnd (eUn (pIsi D 7) (eVar 1)) (eBin (cmpPrim D cl .Eq) (eMeth D cl 16 (eVar 0) lNil) (eMeth D cl 16 (eVar 1) lNil))))
def b_Form_all_parts (cl : Calls) : SV :=
    (sRet (eLst (lCons (eUn (pAttr D cl 12) (eVar 0)) (lCons (eUn (pAttr D cl 13) (eVar 0)) (lCons (eUn (pAttr D cl 14) (eVar 0)) lNil)))))
def b_Form_len_ (cl : Calls) : SV :=
    (sRet (eCallF (pLen D cl) (lCons (eUn pRg1 (eBin (opPrim D cl .LShift) (eC (.int 1)) (eUn (pAttr D cl 12) (eVar 0)))) lNil)))
def b_Form_contains_ (cl : Calls) : SV :=
    (sRet (eCallF (callK D cl 0) (lCons (eVar 1) (lCons (eUn (pAttr D cl 21) (eVar 0)) (lCons (eUn (pAttr D cl 22) (eVar 0)) lNil)))))
def b_Form_call__1 (cl : Calls) : SV :=
    (sRet (eCallF (callK D cl 17) (lCons (eVar 0) (lCons (eVar 1) (lCons (eVar 2) lNil)))))
def b_Form_call__2 (cl : Calls) : SV :=
    (sSeq (sIf (eOr (eNot (eUn (pIsi D 2) (eVar 2))) (eOr (eUn (pIsi D 1) (eVar 2)) (eBin (cmpPrim D cl .Lt) (eVar 2) (eC (.int 1)))))
    (sRaise 6)
    sSkip)
    (b_Form_call__1 cl))
def b_Form_call_ (cl : Calls) : SV :=
    (sSeq (sIf (eOr (eNot (eUn (pIsi D 2) (eVar 1))) (eUn (pIsi D 1) (eVar 1)))
    (sRaise 6)
    sSkip)
    (b_Form_call__2 cl))
def b_Form_changed_1 (cl : Calls) : SV :=
    (sRet (eKw ((pMakeKw D cl 0) ["rounding", "limit"]) (lCons (eUn (pAttr D cl 12) (eVar 0)) lNil) (lCons (eVar 3) (lCons (eVar 4) lNil))))
def b_Form_changed_2 (cl : Calls) : SV :=
    (sSeq (sAsg (eIf (eBin (cmpPrim D cl .Is) (eVar 2) (eC .non)) (eUn (pAttr D cl 14) (eVar 0)) (eVar 2)) (gVar 4))
    (b_Form_changed_1 cl))
def b_Form_changed (cl : Calls) : SV :=
    (sSeq (sAsg (eIf (eBin (cmpPrim D cl .Is) (eVar 1) (eC .non)) (eUn (pAttr D cl 13) (eVar 0)) (eVar 1)) (gVar 3))
    (b_Form_changed_2 cl))
def b_word_of_1 (cl : Calls) : SV :=
    (sRet (eBin (opPrim D cl .Add) (eBin (opPrim D cl .Mod) (eBin (opPrim D cl .Sub) (eVar 3) (eUn (pAttr D cl 21) (eVar 0))) (eBin (opPrim D cl .LShift) (eC (.int 1)) (eUn (pAttr D cl 12) (eVar 0)))) (eUn (pAttr D cl 21) (eVar 0))))
def b_word_of_2 (cl : Calls) : SV :=
    (sSeq (sIf (eBin (cmpPrim D cl .Eq) (eUn (pAttr D cl 14) (eVar 0)) (eC (.str "clip")))
    (sRet (eCallF (callK D cl 4) (lCons (eVar 3) (lCons (eUn (pAttr D cl 21) (eVar 0)) (lCons (eUn (pAttr D cl 22) (eVar 0)) lNil)))))
    sSkip)
    (b_word_of_1 cl))
def b_word_of (cl : Calls) : SV :=
    (sSeq (sAsg (eCallF (callK D cl 3) (lCons (eVar 1) (lCons (eVar 2) (lCons (eUn (pAttr D cl 13) (eVar 0)) lNil)))) (gVar 3))
    (b_word_of_2 cl))
def b_check_integer (cl : Calls) : SV :=
    (sIf (eOr (eNot (eUn (pIsi D 2) (eVar 0))) (eUn (pIsi D 1) (eVar 0)))
    (sRaise 6)
    sSkip)
def b_Sensor_init__1 (cl : Calls) : SV :=
    (sFldZ D 26 (eVar 0) (eVar 4))
def b_Sensor_init__2 (cl : Calls) : SV :=
    (sSeq (sFldZ D 25 (eVar 0) (eVar 3))
    (b_Sensor_init__1 cl))
def b_Sensor_init__3 (cl : Calls) : SV :=
    (sSeq (sFldZ D 24 (eVar 0) (eVar 2))
    (b_Sensor_init__2 cl))
def b_Sensor_init__4 (cl : Calls) : SV :=
    (sSeq (sFldZ D 23 (eVar 0) (eVar 1))
    (b_Sensor_init__3 cl))
def b_Sensor_init__5 (cl : Calls) : SV :=
    (sSeq (sIf (eOr (eNot (eCallF (callK D cl 0) (lCons (eVar 3) (lCons (eUn (pNeg D cl) (eC (.int 40))) (lCons (eC (.int 40)) lNil))))) (eNot (eCallF (callK D cl 0) (lCons (eVar 4) (lCons (eVar 3) (lCons (eC (.int 40)) lNil))))))
    (sRaise 8)
    sSkip)
    (b_Sensor_init__4 cl))
def b_Sensor_init_ (cl : Calls) : SV :=
    (sSeq (sIf (eOr (eNot (eCallF (callK D cl 1) (lCons (eVar 1) lNil))) (eNot (eCallF (callK D cl 0) (lCons (eVar 2) (lCons (eC (.int 1)) (lCons (eC (.int 9)) lNil))))))
    (sRaise 8)
    sSkip)
    (b_Sensor_init__5 cl))
def b_Sensor_level (cl : Calls) : SV :=
    (sRet (eUn (pAttr D cl 23) (eVar 0)))
def b_Sensor_size (cl : Calls) : SV :=
    (sRet (eUn (pAttr D cl 24) (eVar 0)))
def b_Sensor_low (cl : Calls) : SV :=
    (sRet (eUn (pAttr D cl 25) (eVar 0)))
def b_Sensor_high (cl : Calls) : SV :=
    (sRet (eUn (pAttr D cl 26) (eVar 0)))
def b_Sensor_eq_ (cl : Calls) : SV :=
    (sRet (eAnd (eUn (pIsi D 8) (eVar 1)) (eBin (cmpPrim D cl .Eq) (eMeth D cl 16 (eVar 0) lNil) (eMeth D cl 16 (eVar 1) lNil))))
def b_Sensor_all_parts (cl : Calls) : SV :=
    (sRet (eLst (lCons (eUn (pAttr D cl 23) (eVar 0)) (lCons (eUn (pAttr D cl 24) (eVar 0)) (lCons (eUn (pAttr D cl 25) (eVar 0)) (lCons (eUn (pAttr D cl 26) (eVar 0)) lNil))))))
def b_Sensor_call__1 (cl : Calls) : SV :=
    (sRet (eCallF (callK D cl 27) (lCons (eVar 0) (lCons (eVar 1) lNil))))
def b_Sensor_call_ (cl : Calls) : SV :=
    (sSeq (sExpr (eCallF (callK D cl 18) (lCons (eVar 1) lNil)))
    (b_Sensor_call__1 cl))
def b_reading_of (cl : Calls) : SV :=
    (sRet (eCallF (callK D cl 4) (lCons (eBin (opPrim D cl .FloorDiv) (eVar 1) (eUn (pAttr D cl 24) (eVar 0))) (lCons (eUn (pAttr D cl 25) (eVar 0)) (lCons (eUn (pAttr D cl 26) (eVar 0)) lNil)))))
def b_Drive_init__1 (cl : Calls) : SV :=
    (sFldZ D 30 (eVar 0) (eVar 4))
def b_Drive_init__2 (cl : Calls) : SV :=
    (sSeq (sFldZ D 29 (eVar 0) (eVar 3))
    (b_Drive_init__1 cl))
def b_Drive_init__3 (cl : Calls) : SV :=
    (sSeq (sFldZ D 26 (eVar 0) (eVar 2))
    (b_Drive_init__2 cl))
def b_Drive_init__4 (cl : Calls) : SV :=
    (sSeq (sFldZ D 25 (eVar 0) (eVar 1))
    (b_Drive_init__3 cl))
def b_Drive_init__5 (cl : Calls) : SV :=
    (sSeq (sIf (eOr (eNot (eCallF (callK D cl 0) (lCons (eVar 3) (lCons (eC (.int 1)) (lCons (eC (.int 40)) lNil))))) (eNot (eCallF (callK D cl 0) (lCons (eVar 4) (lCons (eVar 1) (lCons (eVar 2) lNil))))))
    (sRaise 9)
    sSkip)
    (b_Drive_init__4 cl))
def b_Drive_init_ (cl : Calls) : SV :=
    (sSeq (sIf (eOr (eNot (eCallF (callK D cl 0) (lCons (eVar 1) (lCons (eUn (pNeg D cl) (eC (.int 20))) (lCons (eC (.int 20)) lNil))))) (eNot (eCallF (callK D cl 0) (lCons (eVar 2) (lCons (eBin (opPrim D cl .Add) (eVar 1) (eC (.int 1))) (lCons (eC (.int 20)) lNil))))))
    (sRaise 9)
    sSkip)
    (b_Drive_init__5 cl))
def b_Drive_low (cl : Calls) : SV :=
    (sRet (eUn (pAttr D cl 25) (eVar 0)))
def b_Drive_high (cl : Calls) : SV :=
    (sRet (eUn (pAttr D cl 26) (eVar 0)))
def b_Drive_change (cl : Calls) : SV :=
    (sRet (eUn (pAttr D cl 29) (eVar 0)))
def b_Drive_start (cl : Calls) : SV :=
    (sRet (eUn (pAttr D cl 30) (eVar 0)))
def b_Drive_eq_ (cl : Calls) : SV :=
    (sRet (eAnd (eUn (pIsi D 9) (eVar 1)) (eBin (cmpPrim D cl .Eq) (eMeth D cl 16 (eVar 0) lNil) (eMeth D cl 16 (eVar 1) lNil))))
def b_Drive_all_parts (cl : Calls) : SV :=
    (sRet (eLst (lCons (eUn (pAttr D cl 25) (eVar 0)) (lCons (eUn (pAttr D cl 26) (eVar 0)) (lCons (eUn (pAttr D cl 29) (eVar 0)) (lCons (eUn (pAttr D cl 30) (eVar 0)) lNil))))))
def b_Drive_len_ (cl : Calls) : SV :=
    (sRet (eCallF (pLen D cl) (lCons (eBin pRgL (eUn (pAttr D cl 25) (eVar 0)) (eBin (opPrim D cl .Add) (eUn (pAttr D cl 26) (eVar 0)) (eC (.int 1)))) lNil)))
def b_Drive_contains_ (cl : Calls) : SV :=
    (sRet (eCallF (callK D cl 0) (lCons (eVar 1) (lCons (eUn (pAttr D cl 25) (eVar 0)) (lCons (eUn (pAttr D cl 26) (eVar 0)) lNil)))))
def b_Drive_call__1 (cl : Calls) : SV :=
    (sRet (eCallF (callK D cl 38) (lCons (eVar 0) (lCons (eVar 1) (lCons (eVar 2) (lCons (eUn (pAttr D cl 29) (eVar 0)) lNil))))))
def b_Drive_call__2 (cl : Calls) : SV :=
    (sSeq (sExpr (eCallF (callK D cl 18) (lCons (eVar 2) lNil)))
    (b_Drive_call__1 cl))
def b_Drive_call_ (cl : Calls) : SV :=
    (sSeq (sIf (eBin (cmpPrim D cl .NotIn) (eVar 1) (eVar 0))
    (sRaise 6)
    sSkip)
    (b_Drive_call__2 cl))
def b_position_of_1 (cl : Calls) : SV :=
    (sRet (eCallF (callK D cl 4) (lCons (eVar 4) (lCons (eBin (opPrim D cl .Sub) (eVar 1) (eVar 3)) (lCons (eBin (opPrim D cl .Add) (eVar 1) (eVar 3)) lNil)))))
def b_position_of (cl : Calls) : SV :=
    (sSeq (sAsg (eCallF (callK D cl 4) (lCons (eVar 2) (lCons (eUn (pAttr D cl 25) (eVar 0)) (lCons (eUn (pAttr D cl 26) (eVar 0)) lNil)))) (gVar 4))
    (b_position_of_1 cl))
def b_divisor_1 (cl : Calls) : SV :=
    (sPar [0, 1] (lCons (eVar 1) (lCons (eBin (opPrim D cl .Mod) (eVar 0) (eVar 1)) lNil)))
def b_divisor_2 (cl : Calls) : SV :=
    (sRet (eVar 0))
def b_divisor (cl : Calls) : SV :=
    (sSeq (sWhile (eBin (cmpPrim D cl .Gt) (eVar 1) (eC (.int 0)))
    (b_divisor_1 cl))
    (b_divisor_2 cl))
def b_reduced_1 (cl : Calls) : SV :=
    (sRet (eTup (lCons (eBin (opPrim D cl .FloorDiv) (eVar 0) (eVar 2)) (lCons (eBin (opPrim D cl .FloorDiv) (eVar 1) (eVar 2)) lNil))))
def b_reduced (cl : Calls) : SV :=
    (sSeq (sAsg (eCallF (callK D cl 39) (lCons (eCallF (p1i iAbs) (lCons (eVar 0) lNil)) (lCons (eVar 1) lNil))) (gVar 2))
    (b_reduced_1 cl))
def b_is_factor_1 (cl : Calls) : SV :=
    (sRet (eAnd (eCallF (callK D cl 0) (lCons (eBin (pIx D cl) (eVar 0) (eC (.int 0))) (lCons (eUn (pNeg D cl) (eC (.int 9))) (lCons (eC (.int 9)) lNil)))) (eAnd (eBin (cmpPrim D cl .NotEq) (eBin (pIx D cl) (eVar 0) (eC (.int 0))) (eC (.int 0))) (eCallF (callK D cl 0) (lCons (eBin (pIx D cl) (eVar 0) (eC (.int 1))) (lCons (eC (.int 1)) (lCons (eC (.int 9)) lNil)))))))
def b_is_factor (cl : Calls) : SV :=
    (sSeq (sIf (eOr (eNot (eUn (pIsi D 5) (eVar 0))) (eBin (cmpPrim D cl .NotEq) (eCallF (pLen D cl) (lCons (eVar 0) lNil)) (eC (.int 2))))
    (sRet (eC (.bl false)))
    sSkip)
    (b_is_factor_1 cl))
def b_are_terms_1 (cl : Calls) : SV :=
    (sRet (eCallF (pAllAny bAll) (lCons (eLc (tVal (pView .its) (eVar 0)) (.cons (.nm 1) (.cons (.nm 2) .nil)) (eC (.bl true)) (eAnd (eCallF (callK D cl 1) (lCons (eVar 1) lNil)) (eCallF (callK D cl 41) (lCons (eVar 2) lNil))) [1, 2]) lNil)))
def b_are_terms (cl : Calls) : SV :=
    (sSeq (sIf (eOr (eNot (eUn (pIsi D 6) (eVar 0))) (eBin (cmpPrim D cl .Gt) (eCallF (pLen D cl) (lCons (eVar 0) lNil)) (eC (.int 5))))
    (sRet (eC (.bl false)))
    sSkip)
    (b_are_terms_1 cl))
def b_Sum_init__1 (cl : Calls) : SV :=
    (sFldZ D 36 (eVar 0) (eDc (tVal (pView .its) (eUn (pAttr D cl 34) (eVar 0))) (.cons (.nm 4) (.cons (.cons (.nm 6) (.cons (.nm 7) .nil)) .nil)) (eC (.bl true)) (eVar 4) (eBin (opPrim D cl .FloorDiv) (eBin (opPrim D cl .Mult) (eVar 6) (eUn (pAttr D cl 35) (eVar 0))) (eVar 7)) [4, 6, 7]))
def b_Sum_init__2 (cl : Calls) : SV :=
    (sSeq (sFldZ D 35 (eVar 0) (eCallF (callK D cl 57) (lCons (eLc (tVal (pView .vs) (eUn (pAttr D cl 34) (eVar 0))) (.nm 5) (eC (.bl true)) (eBin (pIx D cl) (eVar 5) (eC (.int 1))) [5]) lNil)))
    (b_Sum_init__1 cl))
def b_Sum_init__3 (cl : Calls) : SV :=
    (sSeq (sFldZ D 34 (eVar 0) (eDc (tVal (pView .its) (eVar 3)) (.cons (.nm 4) (.cons (.nm 5) .nil)) (eC (.bl true)) (eVar 4) (eCallF (callK D cl 40) (lStar (eVar 5) lNil)) [4, 5]))
    (b_Sum_init__2 cl))
def b_Sum_init__4 (cl : Calls) : SV :=
    (sSeq (sAsg (eTup (lCons (eVar 1) (lCons (eVar 2) lNil))) (gMix [(gFld D 33 (eVar 0)), (gVar 3)]))
    (b_Sum_init__3 cl))
def b_Sum_init__5 (cl : Calls) : SV :=
    (sSeq (sIf (eNot (eCallF (callK D cl 42) (lCons (eVar 2) lNil)))
    (sRaise 7)
    sSkip)
    (b_Sum_init__4 cl))
def b_Sum_init_ (cl : Calls) : SV :=
    (sSeq (sIf (eNot (eCallF (callK D cl 0) (lCons (eVar 1) (lCons (eUn (pNeg D cl) (eC (.int 99))) (lCons (eC (.int 99)) lNil)))))
    (sRaise 7)
    sSkip)
    (b_Sum_init__5 cl))
def b_Sum_constant (cl : Calls) : SV :=
    (sRet (eUn (pAttr D cl 33) (eVar 0)))
def b_Sum_terms (cl : Calls) : SV :=
    (sRet (eDc (tVal (pView .its) (eUn (pAttr D cl 34) (eVar 0))) (.cons (.nm 1) (.cons (.nm 2) .nil)) (eC (.bl true)) (eVar 1) (eVar 2) [1, 2]))
def b_Sum_eq_ (cl : Calls) : SV :=
    (sRet (eAnd (eUn (pIsi D 10) (eVar 1)) (eAnd (eBin (cmpPrim D cl .Eq) (eUn (pAttr D cl 33) (eVar 0)) (eUn (pAttr D cl 33) (eVar 1))) (eBin (cmpPrim D cl .Eq) (eUn (pAttr D cl 34) (eVar 0)) (eUn (pAttr D cl 34) (eVar 1))))))
def b_Sum_len_ (cl : Calls) : SV :=
    (sRet (eCallF (pLen D cl) (lCons (eUn (pAttr D cl 34) (eVar 0)) lNil)))
def b_Sum_contains_ (cl : Calls) : SV :=
    (sRet (eAnd (eUn (pIsi D 3) (eVar 1)) (eBin (cmpPrim D cl .In) (eVar 1) (eUn (pAttr D cl 34) (eVar 0)))))
def b_Sum_getitem__1 (cl : Calls) : SV :=
    (sRet (eBM isDV pDGet (eUn (pAttr D cl 34) (eVar 0)) (lCons (eVar 1) (lCons (eTup (lCons (eC (.int 0)) (lCons (eC (.int 1)) lNil))) lNil))))
def b_Sum_getitem_ (cl : Calls) : SV :=
    (sSeq (sIf (eNot (eCallF (callK D cl 1) (lCons (eVar 1) lNil)))
    (sRaise 7)
    sSkip)
    (b_Sum_getitem__1 cl))
def b_Sum_iter_ (cl : Calls) : SV :=
    sBad
def b_Sum_add_ (cl : Calls) : SV :=
    (sRet (eCallF (callK D cl 56) (lCons (eVar 0) (lCons (eVar 1) (lCons (eC (.int 1)) lNil)))))
def b_Sum_sub_ (cl : Calls) : SV :=
    (sRet (eCallF (callK D cl 56) (lCons (eVar 0) (lCons (eVar 1) (lCons (eUn (pNeg D cl) (eC (.int 1))) lNil)))))
def b_Sum_neg_ (cl : Calls) : SV :=
    (sRet (eCallF (pMake D cl 3) (lCons (eUn (pNeg D cl) (eUn (pAttr D cl 33) (eVar 0))) (lCons (eDc (tVal (pView .its) (eUn (pAttr D cl 34) (eVar 0))) (.cons (.nm 1) (.cons (.nm 2) .nil)) (eC (.bl true)) (eVar 1) (eTup (lCons (eUn (pNeg D cl) (eBin (pIx D cl) (eVar 2) (eC (.int 0)))) (lCons (eBin (pIx D cl) (eVar 2) (eC (.int 1))) lNil))) [1, 2]) lNil))))
def b_Sum_call__1 (cl : Calls) : SV :=
    (sIf (eOr (eBin (cmpPrim D cl .NotIn) (eVar 2) (eVar 1)) (eOr (eNot (eUn (pIsi D 2) (eBin (pIx D cl) (eVar 1) (eVar 2)))) (eUn (pIsi D 1) (eBin (pIx D cl) (eVar 1) (eVar 2)))))
    (sRaise 7)
    sSkip)
def b_Sum_call__2 (cl : Calls) : SV :=
    (sRet (eCallF (callK D cl 40) (lCons (eVar 3) (lCons (eVar 4) lNil))))
def b_Sum_call__3 (cl : Calls) : SV :=
    (sSeq (sAsg (eCallF (callK D cl 58) (lCons (eVar 0) (lCons (eVar 1) lNil))) (gMix [(gVar 3), (gVar 4)]))
    (b_Sum_call__2 cl))
def b_Sum_call__4 (cl : Calls) : SV :=
    (sSeq (sFor (tVal pIter (eUn (pAttr D cl 34) (eVar 0))) (.nm 2)
    (b_Sum_call__1 cl))
    (b_Sum_call__3 cl))
def b_Sum_call_ (cl : Calls) : SV :=
    (sSeq (sIf (eNot (eUn (pIsi D 6) (eVar 1)))
    (sRaise 7)
    sSkip)
    (b_Sum_call__4 cl))
def b_plus (cl : Calls) : SV :=
    (sRet (eCallF (callK D cl 40) (lCons (eBin (opPrim D cl .Add) (eBin (opPrim D cl .Mult) (eBin (pIx D cl) (eVar 0) (eC (.int 0))) (eBin (pIx D cl) (eVar 1) (eC (.int 1)))) (eBin (opPrim D cl .Mult) (eBin (pIx D cl) (eVar 1) (eC (.int 0))) (eBin (pIx D cl) (eVar 0) (eC (.int 1))))) (lCons (eBin (opPrim D cl .Mult) (eBin (pIx D cl) (eVar 0) (eC (.int 1))) (eBin (pIx D cl) (eVar 1) (eC (.int 1)))) lNil))))
def b_added_1 (cl : Calls) : SV :=
    (sSetZ (eVar 3) (eVar 4) (eVar 5))
def b_added_2 (cl : Calls) : SV :=
    (sSetZ (eVar 3) (eVar 4) (eCallF (callK D cl 55) (lCons (eBM isDV pDGet (eVar 3) (lCons (eVar 4) (lCons (eTup (lCons (eC (.int 0)) (lCons (eC (.int 1)) lNil))) lNil))) (lCons (eTup (lCons (eBin (opPrim D cl .Mult) (eVar 2) (eBin (pIx D cl) (eVar 5) (eC (.int 0)))) (lCons (eBin (pIx D cl) (eVar 5) (eC (.int 1))) lNil))) lNil))))
def b_added_3 (cl : Calls) : SV :=
    (sRet (eCallF (pMake D cl 3) (lCons (eBin (opPrim D cl .Add) (eUn (pAttr D cl 33) (eVar 0)) (eBin (opPrim D cl .Mult) (eVar 2) (eUn (pAttr D cl 33) (eVar 1)))) (lCons (eDc (tVal (pView .its) (eVar 3)) (.cons (.nm 4) (.cons (.nm 5) .nil)) (eBin (cmpPrim D cl .NotEq) (eBin (pIx D cl) (eVar 5) (eC (.int 0))) (eC (.int 0))) (eVar 4) (eVar 5) [4, 5]) lNil))))
def b_added_4 (cl : Calls) : SV :=
    (sSeq (sFor (tVal (pView .its) (eUn (pAttr D cl 34) (eVar 1))) (.cons (.nm 4) (.cons (.nm 5) .nil))
    (b_added_2 cl))
    (b_added_3 cl))
def b_added_5 (cl : Calls) : SV :=
    (sSeq (sFor (tVal (pView .its) (eUn (pAttr D cl 34) (eVar 0))) (.cons (.nm 4) (.cons (.nm 5) .nil))
    (b_added_1 cl))
    (b_added_4 cl))
def b_added_6 (cl : Calls) : SV :=
    (sSeq (sAsg eDct0 (gVar 3))
    (b_added_5 cl))
def b_added (cl : Calls) : SV :=
    (sSeq (sIf (eNot (eUn (pIsi D 10) (eVar 1)))
    (sRaise 7)
    sSkip)
    (b_added_6 cl))
def b_shared_bottom_1 (cl : Calls) : SV :=
    (sAsg (eBin (opPrim D cl .FloorDiv) (eBin (opPrim D cl .Mult) (eVar 1) (eVar 2)) (eCallF (callK D cl 39) (lCons (eVar 1) (lCons (eVar 2) lNil)))) (gVar 1))
def b_shared_bottom_2 (cl : Calls) : SV :=
    (sRet (eVar 1))
def b_shared_bottom_3 (cl : Calls) : SV :=
    (sSeq (sFor (tVal pIter (eVar 0)) (.nm 2)
    (b_shared_bottom_1 cl))
    (b_shared_bottom_2 cl))
def b_shared_bottom (cl : Calls) : SV :=
    (sSeq (sAsg (eC (.int 1)) (gVar 1))
    (b_shared_bottom_3 cl))
def b_total_1 (cl : Calls) : SV :=
    (sRet (eTup (lCons (eVar 2) (lCons (eUn (pAttr D cl 35) (eVar 0)) lNil))))
def b_total (cl : Calls) : SV :=
    (sSeq (sAsg (eBin (opPrim D cl .Add) (eBin (opPrim D cl .Mult) (eUn (pAttr D cl 33) (eVar 0)) (eUn (pAttr D cl 35) (eVar 0))) (eCallF pSum (lCons (eLc (tVal (pView .its) (eUn (pAttr D cl 36) (eVar 0))) (.cons (.nm 3) (.cons (.nm 4) .nil)) (eC (.bl true)) (eBin (opPrim D cl .Mult) (eVar 4) (eBin (pIx D cl) (eVar 1) (eVar 3))) [3, 4]) lNil))) (gVar 2))
    (b_total_1 cl))
def b_law_number_1 (cl : Calls) : SV :=
    (sRet (eBin (opPrim D cl .Add) (eBin (opPrim D cl .Mult) (eBin (opPrim D cl .Mod) (eBin (opPrim D cl .Mult) (eVar 6) (eBin (opPrim D cl .Add) (eBin (opPrim D cl .Add) (eVar 6) (eBin (opPrim D cl .Mult) (eC (.int 31)) (eVar 1))) (eC (.int 7)))) (eC (.int 2147483629))) (eC (.int 65537))) (eVar 5)))
def b_law_number_2 (cl : Calls) : SV :=
    (sSeq (sAsg (eBin (opPrim D cl .Mod) (eBin (opPrim D cl .Add) (eBin (opPrim D cl .Add) (eBin (opPrim D cl .Mult) (eBin (opPrim D cl .Add) (eVar 4) (eBin (opPrim D cl .Mult) (eC (.int 977)) (eVar 1))) (eC (.int 48271))) (eBin (opPrim D cl .Mult) (eC (.int 31)) (eVar 5))) (eBin (opPrim D cl .Mod) (eCallF pSum (lCons (eVar 2) lNil)) (eC (.int 65521)))) (eC (.int 2147483647))) (gVar 6))
    (b_law_number_1 cl))
def b_law_number_3 (cl : Calls) : SV :=
    (sSeq (sPar [4, 5] (lCons (eBin (opPrim D cl .Mod) (eVar 3) (eC (.int 1000003))) (lCons (eBin (opPrim D cl .Mod) (eBin (opPrim D cl .FloorDiv) (eVar 3) (eC (.int 1000003))) (eC (.int 999983))) lNil)))
    (b_law_number_2 cl))
def b_law_number_4 (cl : Calls) : SV :=
    (sSeq (sAsg (eBin (opPrim D cl .Add) (eBin (pIx D cl) (eVar 2) (eBin (opPrim D cl .Mod) (eVar 1) (eCallF (pLen D cl) (lCons (eVar 2) lNil)))) (eBin (opPrim D cl .Mult) (eC (.int 13)) (eBin (opPrim D cl .FloorDiv) (eVar 1) (eCallF (pLen D cl) (lCons (eVar 2) lNil))))) (gVar 3))
    (b_law_number_3 cl))
def b_law_number (cl : Calls) : SV :=
    (sSeq (sAsg (eIf (eBin (cmpPrim D cl .NotEq) (eVar 0) (eLst lNil)) (eSlice (eVar 0) none (some (eC (.int 63)))) (eLst (lCons (eC (.int 5)) lNil))) (gVar 2))
    (b_law_number_4 cl))
def b_law_word_1 (cl : Calls) : SV :=
    (sAsg (eIf (eBin (pIx D cl) (eVar 7) (eBin (pIx D cl) (eVar 0) (eC (.int 1)))) (eBin (opPrim D cl .Add) (eVar 5) (eC (.int 1))) (eVar 5)) (gVar 5))
def b_law_word_2 (cl : Calls) : SV :=
    (sSeq (sAsg (eDisp [((eC (.str "down")), (eC (.bl false))), ((eC (.str "up")), (eC (.bl true))), ((eC (.str "near")), (eBin (cmpPrim D cl .GtE) (eVar 6) (eVar 2))), ((eC (.str "zero")), (eBin (cmpPrim D cl .Lt) (eVar 1) (eC (.int 0))))]) (gVar 7))
    (b_law_word_1 cl))
def b_law_word_3 (cl : Calls) : SV :=
    (sAugI 5 (fun i j => i + j) (eVar 4))
def b_law_word_4 (cl : Calls) : SV :=
    (sAugI 5 (fun i j => i - j) (eVar 4))
def b_law_word_5 (cl : Calls) : SV :=
    (sRet (eVar 5))
def b_law_word_6 (cl : Calls) : SV :=
    (sSeq (sWhile (eBin (cmpPrim D cl .GtE) (eVar 5) (eBin (opPrim D cl .Add) (eVar 3) (eVar 4)))
    (b_law_word_4 cl))
    (b_law_word_5 cl))
def b_law_word_7 (cl : Calls) : SV :=
    (sRet (eCallF (pMM iMax iMaxL) (lCons (eVar 3) (lCons (eCallF (pMM iMin iMinL) (lCons (eBin (opPrim D cl .Sub) (eBin (opPrim D cl .Add) (eVar 3) (eVar 4)) (eC (.int 1))) (lCons (eVar 5) lNil))) lNil))))
def b_law_word_8 (cl : Calls) : SV :=
    (sSeq (sIf (eBin (cmpPrim D cl .Eq) (eBin (pIx D cl) (eVar 0) (eC (.int 2))) (eC (.str "wrap")))
    (sSeq (sWhile (eBin (cmpPrim D cl .Lt) (eVar 5) (eVar 3))
    (b_law_word_3 cl))
    (b_law_word_6 cl))
    sSkip)
    (b_law_word_7 cl))
def b_law_word_9 (cl : Calls) : SV :=
    (sSeq (sIf (eBin (cmpPrim D cl .NotEq) (eBin (opPrim D cl .Mod) (eVar 1) (eVar 2)) (eC (.int 0)))
    (sSeq (sAsg (eBin (opPrim D cl .Mult) (eC (.int 2)) (eBin (opPrim D cl .Sub) (eVar 1) (eBin (opPrim D cl .Mult) (eVar 5) (eVar 2)))) (gVar 6))
    (b_law_word_2 cl))
    sSkip)
    (b_law_word_8 cl))
def b_law_word_10 (cl : Calls) : SV :=
    (sSeq (sAsg (eBin (opPrim D cl .FloorDiv) (eVar 1) (eVar 2)) (gVar 5))
    (b_law_word_9 cl))
def b_law_word (cl : Calls) : SV :=
    (sSeq (sPar [3, 4] (lCons (eUn (pNeg D cl) (eBin (opPrim D cl .LShift) (eC (.int 1)) (eBin (opPrim D cl .Sub) (eBin (pIx D cl) (eVar 0) (eC (.int 0))) (eC (.int 1))))) (lCons (eBin (opPrim D cl .LShift) (eC (.int 1)) (eBin (pIx D cl) (eVar 0) (eC (.int 0)))) lNil)))
    (b_law_word_10 cl))
def b_law_value_1 (cl : Calls) : SV :=
    (sAsg (eBin (opPrim D cl .Mult) (eVar 3) (eVar 6)) (gVar 3))
def b_law_value_2 (cl : Calls) : SV :=
    (sSeq (sAsg (eBin (opPrim D cl .Add) (eBin (opPrim D cl .Mult) (eVar 2) (eVar 6)) (eBin (opPrim D cl .Mult) (eBin (opPrim D cl .Mult) (eVar 5) (eBin (pIx D cl) (eVar 1) (eVar 4))) (eVar 3))) (gVar 2))
    (b_law_value_1 cl))
def b_law_value_3 (cl : Calls) : SV :=
    (sRet (eTup (lCons (eVar 2) (lCons (eVar 3) lNil))))
def b_law_value_4 (cl : Calls) : SV :=
    (sSeq (sFor (tVal pIter (eBin (pIx D cl) (eVar 0) (eC (.int 1)))) (.cons (.nm 4) (.cons (.nm 5) (.cons (.nm 6) .nil)))
    (b_law_value_2 cl))
    (b_law_value_3 cl))
def b_law_value (cl : Calls) : SV :=
    (sSeq (sPar [2, 3] (lCons (eBin (pIx D cl) (eVar 0) (eC (.int 0))) (lCons (eC (.int 1)) lNil)))
    (b_law_value_4 cl))
def b_law_gcd_1 (cl : Calls) : SV :=
    (sPar [0, 1] (lCons (eVar 1) (lCons (eBin (opPrim D cl .Mod) (eVar 0) (eVar 1)) lNil)))
def b_law_gcd_2 (cl : Calls) : SV :=
    (sRet (eVar 0))
def b_law_gcd (cl : Calls) : SV :=
    (sSeq (sWhile (eBin (cmpPrim D cl .Gt) (eVar 1) (eC (.int 0)))
    (b_law_gcd_1 cl))
    (b_law_gcd_2 cl))
def b_law_lowest_1 (cl : Calls) : SV :=
    (sRet (eTup (lCons (eBin (opPrim D cl .FloorDiv) (eVar 0) (eVar 2)) (lCons (eBin (opPrim D cl .FloorDiv) (eVar 1) (eVar 2)) lNil))))
def b_law_lowest (cl : Calls) : SV :=
    (sSeq (sAsg (eCallF (callK D cl 62) (lCons (eCallF (p1i iAbs) (lCons (eVar 0) lNil)) (lCons (eVar 1) lNil))) (gVar 2))
    (b_law_lowest_1 cl))
def b_law_forms_right_1 (cl : Calls) : SV :=
    (sIf (eBin (cmpPrim D cl .NotEq) (eCallO D cl (eVar 6) (lCons (eVar 9) lNil)) (eCallO D cl (eVar 6) (lCons (eVar 9) (lCons (eC (.int 1)) lNil))))
    (sRet (eC (.bl false)))
    sSkip)
def b_law_forms_right_2 (cl : Calls) : SV :=
    (sSeq (sIf (eBin (cmpPrim D cl .NotEq) (eCallO D cl (eVar 6) (lCons (eVar 9) (lCons (eVar 10) lNil))) (eCallF (callK D cl 60) (lCons (eTup (lCons (eVar 1) (lCons (eVar 4) (lCons (eVar 5) lNil)))) (lCons (eVar 9) (lCons (eVar 10) lNil)))))
    (sRet (eC (.bl false)))
    sSkip)
    (b_law_forms_right_1 cl))
def b_law_forms_right_3 (cl : Calls) : SV :=
    (sIf (eBin (cmpPrim D cl .NotEq) (eMeth D cl 17 (eVar 6) lNil) (eVar 6))
    (sRet (eC (.bl false)))
    sSkip)
def b_law_forms_right_4 (cl : Calls) : SV :=
    (sSeq (sIf (eBin (cmpPrim D cl .Eq) (eMethKw D cl 17 ["rounding"] (eVar 6) (lCons (eBin (pIx D cl) (eTup (lCons (eC (.str "up")) (lCons (eC (.str "down")) lNil))) (eBin (cmpPrim D cl .Eq) (eVar 4) (eC (.str "up")))) lNil)) (eVar 6))
    (sRet (eC (.bl false)))
    sSkip)
    (b_law_forms_right_3 cl))
def b_law_forms_right_5 (cl : Calls) : SV :=
    (sSeq (sIf (eCallF (pAllAny bAny) (lCons (eLc (tVal pIter (eVar 11)) (.nm 9) (eC (.bl true)) (eBin (cmpPrim D cl .Eq) (eVar 6) (eVar 9)) [9]) lNil))
    (sRet (eC (.bl false)))
    sSkip)
    (b_law_forms_right_4 cl))
def b_law_forms_right_6 (cl : Calls) : SV :=
    (sSeq (sAsg (eBin (opPrim D cl .Add) (eVar 11) (eLst (lCons (eMethKw D cl 17 ["limit"] (eVar 6) (lCons (eIf (eBin (cmpPrim D cl .Eq) (eVar 5) (eC (.str "clip"))) (eC (.str "wrap")) (eC (.str "clip"))) lNil)) lNil))) (gVar 11))
    (b_law_forms_right_5 cl))
def b_law_forms_right_7 (cl : Calls) : SV :=
    (sSeq (sAsg (eLst (lCons (eKw ((pMakeKw D cl 0) ["rounding", "limit"]) (lCons (eBin (opPrim D cl .Add) (eBin (opPrim D cl .Mod) (eVar 1) (eC (.int 7))) (eC (.int 2))) lNil) (lCons (eVar 4) (lCons (eVar 5) lNil))) lNil)) (gVar 11))
    (b_law_forms_right_6 cl))
def b_law_forms_right_8 (cl : Calls) : SV :=
    (sSeq (sIf (eOr (eBin (cmpPrim D cl .In) (eBin (opPrim D cl .Sub) (eVar 7) (eC (.int 1))) (eVar 6)) (eOr (eBin (cmpPrim D cl .In) (eUn (pNeg D cl) (eVar 7)) (eVar 6)) (eOr (eBin (cmpPrim D cl .NotIn) (eBin (opPrim D cl .Sub) (eUn (pNeg D cl) (eVar 7)) (eC (.int 1))) (eVar 6)) (eOr (eBin (cmpPrim D cl .In) (eC (.str "a")) (eVar 6)) (eBin (cmpPrim D cl .In) (eC .non) (eVar 6))))))
    (sRet (eC (.bl false)))
    sSkip)
    (b_law_forms_right_7 cl))
def b_law_forms_right_9 (cl : Calls) : SV :=
    (sSeq (sIf (eBin (cmpPrim D cl .NotIn) (eVar 7) (eVar 6))
    (sRet (eC (.bl false)))
    sSkip)
    (b_law_forms_right_8 cl))
def b_law_forms_right_10 (cl : Calls) : SV :=
    (sSeq (sIf (eOr (eBin (cmpPrim D cl .NotEq) (eVar 6) (eMethKw D cl 17 ["rounding"] (eKw ((pMakeKw D cl 0) ["limit"]) (lCons (eVar 1) lNil) (lCons (eVar 5) lNil)) (lCons (eVar 4) lNil))) (eBin (cmpPrim D cl .NotEq) (eCallF (pLen D cl) (lCons (eVar 6) lNil)) (eBin (opPrim D cl .LShift) (eC (.int 1)) (eVar 1))))
    (sRet (eC (.bl false)))
    sSkip)
    (b_law_forms_right_9 cl))
def b_law_forms_right_11 (cl : Calls) : SV :=
    (sSeq (sFor (tVal pIter (eVar 8)) (.cons (.nm 9) (.cons (.nm 10) .nil))
    (b_law_forms_right_2 cl))
    (b_law_forms_right_10 cl))
def b_law_forms_right_12 (cl : Calls) : SV :=
    (sSeq (sAsg (eBin (opPrim D cl .Add) (eVar 8) (eLst (lCons (eTup (lCons (eVar 7) (lCons (eC (.int 1)) lNil))) lNil))) (gVar 8))
    (b_law_forms_right_11 cl))
def b_law_forms_right_13 (cl : Calls) : SV :=
    (sSeq (sAsg (eLst (lCons (eTup (lCons (eVar 2) (lCons (eVar 3) lNil))) (lCons (eTup (lCons (eUn (pNeg D cl) (eVar 2)) (lCons (eVar 3) lNil))) (lCons (eTup (lCons (eBin (opPrim D cl .Add) (eBin (opPrim D cl .Mult) (eC (.int 3)) (eVar 7)) (eC (.int 1))) (lCons (eC (.int 3)) lNil))) (lCons (eTup (lCons (eBin (opPrim D cl .Sub) (eBin (opPrim D cl .Mult) (eC (.int 2)) (eVar 7)) (eC (.int 1))) (lCons (eC (.int 2)) lNil))) (lCons (eTup (lCons (eBin (opPrim D cl .Sub) (eC (.int 1)) (eBin (opPrim D cl .Mult) (eC (.int 2)) (eVar 7))) (lCons (eC (.int 2)) lNil))) lNil)))))) (gVar 8))
    (b_law_forms_right_12 cl))
def b_law_forms_right_14 (cl : Calls) : SV :=
    (sSeq (sIf (eBin (cmpPrim D cl .NotEq) (eTup (lCons (eUn (pAttr D cl 18) (eVar 6)) (lCons (eUn (pAttr D cl 19) (eVar 6)) (lCons (eUn (pAttr D cl 20) (eVar 6)) (lCons (eUn (pAttr D cl 21) (eVar 6)) (lCons (eUn (pAttr D cl 22) (eVar 6)) lNil)))))) (eTup (lCons (eVar 1) (lCons (eVar 4) (lCons (eVar 5) (lCons (eVar 7) (lCons (eBin (opPrim D cl .Sub) (eUn (pNeg D cl) (eVar 7)) (eC (.int 1))) lNil)))))))
    (sRet (eC (.bl false)))
    sSkip)
    (b_law_forms_right_13 cl))
def b_law_forms_right_15 (cl : Calls) : SV :=
    (sSeq (sAsg (eTup (lCons (eKw ((pMakeKw D cl 0) ["rounding", "limit"]) (lCons (eVar 1) lNil) (lCons (eVar 4) (lCons (eVar 5) lNil))) (lCons (eUn (pNeg D cl) (eBin (opPrim D cl .LShift) (eC (.int 1)) (eBin (opPrim D cl .Sub) (eVar 1) (eC (.int 1))))) lNil))) (gMix [(gVar 6), (gVar 7)]))
    (b_law_forms_right_14 cl))
def b_law_forms_right_16 (cl : Calls) : SV :=
    (sFor (tVal pIter (eTup (lCons (eC (.str "clip")) (lCons (eC (.str "wrap")) lNil)))) (.nm 5)
    (b_law_forms_right_15 cl))
def b_law_forms_right_17 (cl : Calls) : SV :=
    (sRet (eC (.bl true)))
def b_law_forms_right_18 (cl : Calls) : SV :=
    (sSeq (sFor (tVal pIter (eTup (lCons (eC (.str "down")) (lCons (eC (.str "up")) (lCons (eC (.str "near")) (lCons (eC (.str "zero")) lNil)))))) (.nm 4)
    (b_law_forms_right_16 cl))
    (b_law_forms_right_17 cl))
def b_law_forms_right (cl : Calls) : SV :=
    (sSeq (sPar [1, 2, 3] (lCons (eBin (opPrim D cl .Add) (eC (.int 2)) (eBin (opPrim D cl .Mod) (eVar 0) (eC (.int 7)))) (lCons (eBin (opPrim D cl .Sub) (eBin (opPrim D cl .Mod) (eBin (opPrim D cl .FloorDiv) (eVar 0) (eC (.int 7))) (eC (.int 2001))) (eC (.int 1000))) (lCons (eBin (opPrim D cl .Add) (eC (.int 1)) (eBin (opPrim D cl .Mod) (eBin (opPrim D cl .FloorDiv) (eVar 0) (eC (.int 20000))) (eC (.int 12)))) lNil))))
    (b_law_forms_right_18 cl))
def b_law_parts_1 (cl : Calls) : SV :=
    (sRet (eTup (lCons (eBin (opPrim D cl .Sub) (eBin (opPrim D cl .Mod) (eBin (opPrim D cl .FloorDiv) (eVar 0) (eC (.int 50))) (eC (.int 60))) (eC (.int 30))) (lCons (eVar 2) lNil))))
def b_law_parts_2 (cl : Calls) : SV :=
    (sSeq (sAsg (eLc (tArg pZip (lCons (eVar 2) (lCons (eVar 3) lNil))) (.cons (.nm 8) (.cons (.nm 9) .nil)) (eC (.bl true)) (eTup (lCons (eBin (pIx D cl) (eVar 8) (eC (.int 0))) (lCons (eBin (opPrim D cl .Mult) (eVar 9) (eBin (pIx D cl) (eVar 8) (eC (.int 1)))) (lCons (eBin (pIx D cl) (eVar 8) (eC (.int 2))) lNil)))) [8, 9]) (gVar 2))
    (b_law_parts_1 cl))
def b_law_parts_3 (cl : Calls) : SV :=
    (sSeq (sAsg (eLc (tVal pIter (eVar 2)) (.cons (.nm 5) (.cons (.nm 6) (.cons (.nm 7) .nil))) (eC (.bl true)) (eIf (eBin (cmpPrim D cl .Eq) (eBin (opPrim D cl .Mod) (eBin (opPrim D cl .FloorDiv) (eVar 0) (eBin (opPrim D cl .Add) (eC (.int 7)) (eVar 6))) (eC (.int 2))) (eC (.int 0))) (eC (.int 1)) (eUn (pNeg D cl) (eC (.int 1)))) [5, 6, 7]) (gVar 3))
    (b_law_parts_2 cl))
def b_law_parts_4 (cl : Calls) : SV :=
    (sSeq (sAsg (eLc (tArg pEnum (lCons (eVar 1) lNil)) (.cons (.nm 4) (.cons (.nm 5) .nil)) (eC (.bl true)) (eTup (lCons (eVar 5) (lCons (eBin (opPrim D cl .Add) (eC (.int 1)) (eBin (opPrim D cl .Mod) (eBin (opPrim D cl .FloorDiv) (eVar 0) (eBin (opPrim D cl .Add) (eC (.int 3)) (eVar 4))) (eC (.int 9)))) (lCons (eBin (opPrim D cl .Add) (eC (.int 1)) (eBin (opPrim D cl .Mod) (eBin (opPrim D cl .FloorDiv) (eVar 0) (eBin (opPrim D cl .Add) (eC (.int 11)) (eBin (opPrim D cl .Mult) (eC (.int 5)) (eVar 4)))) (eC (.int 9)))) lNil)))) [4, 5]) (gVar 2))
    (b_law_parts_3 cl))
def b_law_parts (cl : Calls) : SV :=
    (sSeq (sAsg (eSlice (eLst (lCons (eC (.str "a")) (lCons (eC (.str "b")) (lCons (eC (.str "tank")) (lCons (eC (.str "seen")) (lCons (eC (.str "xyz")) lNil)))))) none (some (eBin (opPrim D cl .Add) (eC (.int 1)) (eBin (opPrim D cl .Mod) (eVar 0) (eC (.int 5)))))) (gVar 1))
    (b_law_parts_4 cl))
def b_law_made (cl : Calls) : SV :=
    (sRet (eCallF (pMake D cl 3) (lCons (eBin (pIx D cl) (eVar 0) (eC (.int 0))) (lCons (eCallF pDictC (lCons (eLc (tVal pIter (eBin (pIx D cl) (eVar 0) (eC (.int 1)))) (.cons (.nm 1) (.cons (.nm 2) (.cons (.nm 3) .nil))) (eC (.bl true)) (eTup (lCons (eVar 1) (lCons (eTup (lCons (eVar 2) (lCons (eVar 3) lNil))) lNil))) [1, 2, 3]) lNil)) lNil))))
def b_law_sum_right_1 (cl : Calls) : SV :=
    (sSetZ (eVar 3) (eVar 4) (eBin (opPrim D cl .Sub) (eBin (opPrim D cl .Mod) (eBin (opPrim D cl .FloorDiv) (eVar 1) (eBin (opPrim D cl .Add) (eC (.int 2)) (eVar 9))) (eC (.int 41))) (eC (.int 20))))
def b_law_sum_right_2 (cl : Calls) : SV :=
    (sRet (eAnd (eBin (cmpPrim D cl .Eq) (eBin (opPrim D cl .Add) (eVar 11) (eVar 12)) (eVar 13)) (eAnd (eBin (cmpPrim D cl .Eq) (eBin (opPrim D cl .Sub) (eVar 13) (eVar 12)) (eVar 11)) (eBin (cmpPrim D cl .Eq) (eBin (opPrim D cl .Sub) (eVar 11) (eUn (pNeg D cl) (eVar 12))) (eVar 13)))))
def b_law_sum_right_3 (cl : Calls) : SV :=
    (sSeq (sAsg (eCallF (pMake D cl 3) (lCons (eBin (opPrim D cl .Sub) (eBin (opPrim D cl .Add) (eBin (pIx D cl) (eVar 2) (eC (.int 0))) (eBin (opPrim D cl .Mod) (eVar 1) (eC (.int 60)))) (eC (.int 30))) (lCons (eDisp [((eC (.str "a")), (eTup (lCons (eC (.int 1)) (lCons (eC (.int 2)) lNil)))), ((eC (.str "b")), (eTup (lCons (eC (.int 1)) (lCons (eC (.int 1)) lNil)))), ((eC (.str "xyz")), (eTup (lCons (eUn (pNeg D cl) (eC (.int 1))) (lCons (eC (.int 1)) lNil))))]) lNil))) (gVar 13))
    (b_law_sum_right_2 cl))
def b_law_sum_right_4 (cl : Calls) : SV :=
    (sSeq (sPar [11, 12] (lCons (eCallF (pMake D cl 3) (lCons (eBin (pIx D cl) (eVar 2) (eC (.int 0))) (lCons (eDisp [((eC (.str "a")), (eTup (lCons (eC (.int 1)) (lCons (eC (.int 2)) lNil)))), ((eC (.str "b")), (eTup (lCons (eC (.int 2)) (lCons (eC (.int 3)) lNil))))]) lNil))) (lCons (eCallF (pMake D cl 3) (lCons (eBin (opPrim D cl .Sub) (eBin (opPrim D cl .Mod) (eVar 1) (eC (.int 60))) (eC (.int 30))) (lCons (eDisp [((eC (.str "b")), (eTup (lCons (eC (.int 1)) (lCons (eC (.int 3)) lNil)))), ((eC (.str "xyz")), (eTup (lCons (eUn (pNeg D cl) (eC (.int 1))) (lCons (eC (.int 1)) lNil))))]) lNil))) lNil)))
    (b_law_sum_right_3 cl))
def b_law_sum_right_5 (cl : Calls) : SV :=
    (sSeq (sIf (eOr (eBin (cmpPrim D cl .NotEq) (eVar 7) (eVar 10)) (eOr (eBin (cmpPrim D cl .Eq) (eVar 7) (eCallF (pMake D cl 3) (lCons (eBin (opPrim D cl .Add) (eBin (pIx D cl) (eVar 2) (eC (.int 0))) (eC (.int 1))) (lCons (eVar 8) lNil)))) (eOr (eBin (cmpPrim D cl .In) (eC (.str "none")) (eVar 7)) (eBin (cmpPrim D cl .In) (eC (.int 5)) (eVar 7)))))
    (sRet (eC (.bl false)))
    sSkip)
    (b_law_sum_right_4 cl))
def b_law_sum_right_6 (cl : Calls) : SV :=
    (sSeq (sAsg (eCallF (pMake D cl 3) (lCons (eBin (pIx D cl) (eVar 2) (eC (.int 0))) (lCons (eCallF pDictC (lCons (eLc (tVal pIter (eRev (eCallF pListC (lCons (eVar 8) lNil)))) (.nm 4) (eC (.bl true)) (eTup (lCons (eVar 4) (lCons (eBin (pIx D cl) (eVar 8) (eVar 4)) lNil))) [4]) lNil)) lNil))) (gVar 10))
    (b_law_sum_right_5 cl))
def b_law_sum_right_7 (cl : Calls) : SV :=
    (sSeq (sIf (eOr (eBin (cmpPrim D cl .NotEq) (eTup (lCons (eUn (pNeg D cl) (eVar 5)) (lCons (eVar 6) lNil))) (eCallO D cl (eVar 7) (lCons (eVar 3) lNil))) (eOr (eBin (cmpPrim D cl .NotEq) (eUn (pNeg D cl) (eUn (pNeg D cl) (eVar 7))) (eVar 7)) (eOr (eBin (cmpPrim D cl .NotEq) (eCallF (pLen D cl) (lCons (eBin (opPrim D cl .Sub) (eVar 7) (eVar 7)) lNil)) (eC (.int 0))) (eBin (cmpPrim D cl .NotEq) (eUn (pAttr D cl 37) (eBin (opPrim D cl .Sub) (eVar 7) (eVar 7))) (eC (.int 0))))))
    (sRet (eC (.bl false)))
    sSkip)
    (b_law_sum_right_6 cl))
def b_law_sum_right_8 (cl : Calls) : SV :=
    (sSeq (sAsg (eCallO D cl (eUn (pNeg D cl) (eVar 7)) (lCons (eVar 3) lNil)) (gMix [(gVar 5), (gVar 6)]))
    (b_law_sum_right_7 cl))
def b_law_sum_right_9 (cl : Calls) : SV :=
    (sSeq (sIf (eNot (eCallF (pAllAny bAll) (lCons (eLc (tVal pIter (eVar 8)) (.nm 4) (eC (.bl true)) (eAnd (eBin (cmpPrim D cl .Eq) (eBin (pIx D cl) (eVar 7) (eVar 4)) (eBin (pIx D cl) (eVar 8) (eVar 4))) (eBin (cmpPrim D cl .In) (eVar 4) (eVar 7))) [4]) lNil)))
    (sRet (eC (.bl false)))
    sSkip)
    (b_law_sum_right_8 cl))
def b_law_sum_right_10 (cl : Calls) : SV :=
    (sSeq (sIf (eBin (cmpPrim D cl .NotEq) (eCallO D cl (eVar 7) (lCons (eVar 3) lNil)) (eCallF (callK D cl 63) (lCons (eVar 5) (lCons (eVar 6) lNil))))
    (sRet (eC (.bl false)))
    sSkip)
    (b_law_sum_right_9 cl))
def b_law_sum_right_11 (cl : Calls) : SV :=
    (sSeq (sAsg (eCallF (callK D cl 61) (lCons (eVar 2) (lCons (eVar 3) lNil))) (gMix [(gVar 5), (gVar 6)]))
    (b_law_sum_right_10 cl))
def b_law_sum_right_12 (cl : Calls) : SV :=
    (sSeq (sIf (eOr (eBin (cmpPrim D cl .NotEq) (eUn (pAttr D cl 37) (eVar 7)) (eBin (pIx D cl) (eVar 2) (eC (.int 0)))) (eOr (eBin (cmpPrim D cl .NotEq) (eUn (pAttr D cl 38) (eVar 7)) (eVar 8)) (eOr (eBin (cmpPrim D cl .NotEq) (eCallF (pLen D cl) (lCons (eVar 7) lNil)) (eCallF (pLen D cl) (lCons (eVar 8) lNil))) (eBin (cmpPrim D cl .NotEq) (eBin (pIx D cl) (eVar 7) (eC (.str "none"))) (eTup (lCons (eC (.int 0)) (lCons (eC (.int 1)) lNil)))))))
    (sRet (eC (.bl false)))
    sSkip)
    (b_law_sum_right_11 cl))
def b_law_sum_right_13 (cl : Calls) : SV :=
    (sSeq (sFor (tArg pEnum (lCons (eLst (lCons (eC (.str "xyz")) (lCons (eC (.str "seen")) (lCons (eC (.str "tank")) (lCons (eC (.str "b")) (lCons (eC (.str "a")) lNil)))))) lNil)) (.cons (.nm 9) (.cons (.nm 4) .nil))
    (b_law_sum_right_1 cl))
    (b_law_sum_right_12 cl))
def b_law_sum_right_14 (cl : Calls) : SV :=
    (sSeq (sAsg (eTup (lCons (eCallF (callK D cl 66) (lCons (eVar 2) lNil)) (lCons (eCallF pDictC (lCons (eLc (tVal pIter (eBin (pIx D cl) (eVar 2) (eC (.int 1)))) (.cons (.nm 4) (.cons (.nm 5) (.cons (.nm 6) .nil))) (eC (.bl true)) (eTup (lCons (eVar 4) (lCons (eCallF (callK D cl 63) (lCons (eVar 5) (lCons (eVar 6) lNil))) lNil))) [4, 5, 6]) lNil)) lNil))) (gMix [(gVar 7), (gVar 8)]))
    (b_law_sum_right_13 cl))
def b_law_sum_right (cl : Calls) : SV :=
    (sSeq (sPar [2, 3] (lCons (eCallF (callK D cl 65) (lCons (eVar 0) lNil)) (lCons (eDisp [((eC (.str "other")), (eC (.int 5)))]) lNil)))
    (b_law_sum_right_14 cl))
def b_law_devices_right_1 (cl : Calls) : SV :=
    (sIf (eOr (eBin (cmpPrim D cl .NotEq) (eCallO D cl (eVar 8) (lCons (eVar 9) (lCons (eVar 11) lNil))) (eVar 12)) (eBin (cmpPrim D cl .NotIn) (eVar 9) (eVar 8)))
    (sRet (eC (.bl false)))
    sSkip)
def b_law_devices_right_2 (cl : Calls) : SV :=
    (sSeq (sAsg (eCallF (pMM iMax iMaxL) (lCons (eBin (opPrim D cl .Sub) (eVar 9) (eVar 7)) (lCons (eCallF (pMM iMin iMinL) (lCons (eBin (opPrim D cl .Add) (eVar 9) (eVar 7)) (lCons (eCallF (pMM iMax iMaxL) (lCons (eVar 5) (lCons (eCallF (pMM iMin iMinL) (lCons (eVar 6) (lCons (eVar 11) lNil))) lNil))) lNil))) lNil))) (gVar 12))
    (b_law_devices_right_1 cl))
def b_law_devices_right_3 (cl : Calls) : SV :=
    (sFor (tVal pIter (eVar 10)) (.nm 11)
    (b_law_devices_right_2 cl))
def b_law_devices_right_4 (cl : Calls) : SV :=
    (sSeq (sAsg (eBin (opPrim D cl .Add) (eVar 10) (eLst (lCons (eBin (opPrim D cl .Sub) (eBin (opPrim D cl .Sub) (eVar 9) (eVar 7)) (eC (.int 1))) lNil))) (gVar 10))
    (b_law_devices_right_3 cl))
def b_law_devices_right_5 (cl : Calls) : SV :=
    (sSeq (sAsg (eLst (lCons (eUn (pNeg D cl) (eC (.int 50))) (lCons (eBin (opPrim D cl .Sub) (eVar 5) (eC (.int 1))) (lCons (eVar 5) (lCons (eC (.int 0)) (lCons (eC (.int 1)) (lCons (eVar 6) (lCons (eBin (opPrim D cl .Add) (eVar 6) (eC (.int 1))) (lCons (eVar 9) (lCons (eBin (opPrim D cl .Add) (eVar 9) (eVar 7)) lNil)))))))))) (gVar 10))
    (b_law_devices_right_4 cl))
def b_law_devices_right_6 (cl : Calls) : SV :=
    (sRet (eAnd (eBin (cmpPrim D cl .NotEq) (eVar 8) (eKw ((pMakeKw D cl 2) ["start"]) (lCons (eVar 5) (lCons (eVar 6) (lCons (eBin (opPrim D cl .Add) (eVar 7) (eC (.int 1))) lNil))) (lCons (eVar 5) lNil))) (eBin (cmpPrim D cl .NotIn) (eC (.str "a")) (eVar 8))))
def b_law_devices_right_7 (cl : Calls) : SV :=
    (sSeq (sIf (eNot (eAnd (eBin (cmpPrim D cl .NotIn) (eBin (opPrim D cl .Sub) (eVar 5) (eC (.int 1))) (eVar 8)) (eBin (cmpPrim D cl .NotIn) (eBin (opPrim D cl .Add) (eVar 6) (eC (.int 1))) (eVar 8))))
    (sRet (eC (.bl false)))
    sSkip)
    (b_law_devices_right_6 cl))
def b_law_devices_right_8 (cl : Calls) : SV :=
    (sSeq (sFor (tArg pRng2 (lCons (eVar 5) (lCons (eBin (opPrim D cl .Add) (eVar 6) (eC (.int 1))) lNil))) (.nm 9)
    (b_law_devices_right_5 cl))
    (b_law_devices_right_7 cl))
def b_law_devices_right_9 (cl : Calls) : SV :=
    (sSeq (sIf (eBin (cmpPrim D cl .NotEq) (eTup (lCons (eUn (pAttr D cl 21) (eVar 8)) (lCons (eUn (pAttr D cl 22) (eVar 8)) (lCons (eUn (pAttr D cl 31) (eVar 8)) (lCons (eUn (pAttr D cl 32) (eVar 8)) (lCons (eCallF (pLen D cl) (lCons (eVar 8) lNil)) lNil)))))) (eTup (lCons (eVar 5) (lCons (eVar 6) (lCons (eVar 7) (lCons (eVar 5) (lCons (eBin (opPrim D cl .Add) (eBin (opPrim D cl .Sub) (eVar 6) (eVar 5)) (eC (.int 1))) lNil)))))))
    (sRet (eC (.bl false)))
    sSkip)
    (b_law_devices_right_8 cl))
def b_law_devices_right_10 (cl : Calls) : SV :=
    (sSeq (sAsg (eKw ((pMakeKw D cl 2) ["start"]) (lCons (eVar 5) (lCons (eVar 6) (lCons (eVar 7) lNil))) (lCons (eVar 5) lNil)) (gVar 8))
    (b_law_devices_right_9 cl))
def b_law_devices_right_11 (cl : Calls) : SV :=
    (sSeq (sPar [5, 6, 7] (lCons (eUn (pNeg D cl) (eBin (opPrim D cl .Mod) (eBin (opPrim D cl .FloorDiv) (eVar 0) (eC (.int 900))) (eC (.int 6)))) (lCons (eBin (opPrim D cl .Add) (eC (.int 1)) (eBin (opPrim D cl .Mod) (eBin (opPrim D cl .FloorDiv) (eVar 0) (eC (.int 6000))) (eC (.int 6)))) (lCons (eBin (opPrim D cl .Add) (eC (.int 1)) (eBin (opPrim D cl .Mod) (eBin (opPrim D cl .FloorDiv) (eVar 0) (eC (.int 40000))) (eC (.int 5)))) lNil))))
    (b_law_devices_right_10 cl))
def b_law_devices_right_12 (cl : Calls) : SV :=
    (sSeq (sIf (eNot (eCallF (pAllAny bAll) (lCons (eLc (tArg pRng2 (lCons (eUn (pNeg D cl) (eC (.int 40))) (lCons (eC (.int 41)) lNil))) (.nm 13) (eC (.bl true)) (eBin (cmpPrim D cl .Eq) (eCallO D cl (eVar 4) (lCons (eVar 13) lNil)) (eCallF (pMM iMax iMaxL) (lCons (eVar 2) (lCons (eCallF (pMM iMin iMinL) (lCons (eVar 3) (lCons (eBin (opPrim D cl .FloorDiv) (eVar 13) (eVar 1)) lNil))) lNil)))) [13]) lNil)))
    (sRet (eC (.bl false)))
    sSkip)
    (b_law_devices_right_11 cl))
def b_law_devices_right_13 (cl : Calls) : SV :=
    (sSeq (sIf (eBin (cmpPrim D cl .Eq) (eVar 4) (eCallF (pMake D cl 1) (lCons (eC (.str "pool")) (lCons (eVar 1) (lCons (eVar 2) (lCons (eVar 3) lNil))))))
    (sRet (eC (.bl false)))
    sSkip)
    (b_law_devices_right_12 cl))
def b_law_devices_right_14 (cl : Calls) : SV :=
    (sSeq (sIf (eBin (cmpPrim D cl .NotEq) (eTup (lCons (eUn (pAttr D cl 27) (eVar 4)) (lCons (eUn (pAttr D cl 28) (eVar 4)) (lCons (eUn (pAttr D cl 21) (eVar 4)) (lCons (eUn (pAttr D cl 22) (eVar 4)) lNil))))) (eTup (lCons (eC (.str "tank")) (lCons (eVar 1) (lCons (eVar 2) (lCons (eVar 3) lNil))))))
    (sRet (eC (.bl false)))
    sSkip)
    (b_law_devices_right_13 cl))
def b_law_devices_right_15 (cl : Calls) : SV :=
    (sSeq (sAsg (eCallF (pMake D cl 1) (lCons (eC (.str "tank")) (lCons (eVar 1) (lCons (eVar 2) (lCons (eVar 3) lNil))))) (gVar 4))
    (b_law_devices_right_14 cl))
def b_law_devices_right (cl : Calls) : SV :=
    (sSeq (sAsg (eTup (lCons (eBin (opPrim D cl .Add) (eC (.int 1)) (eBin (opPrim D cl .Mod) (eVar 0) (eC (.int 9)))) (lCons (eUn (pNeg D cl) (eBin (opPrim D cl .Mod) (eBin (opPrim D cl .FloorDiv) (eVar 0) (eC (.int 9))) (eC (.int 8)))) (lCons (eBin (opPrim D cl .Mod) (eBin (opPrim D cl .FloorDiv) (eVar 0) (eC (.int 80))) (eC (.int 9))) lNil)))) (gMix [(gVar 1), (gVar 2), (gVar 3)]))
    (b_law_devices_right_15 cl))
def b_law_all_right_1 (cl : Calls) : SV :=
    (sIf (eNot (eCallF (callK D cl 68) (lCons (eCallF (callK D cl 59) (lCons (eVar 0) (lCons (eBin (opPrim D cl .Add) (eC (.int 70)) (eVar 1)) lNil))) lNil)))
    (sRet (eC (.bl false)))
    sSkip)
def b_law_all_right_2 (cl : Calls) : SV :=
    (sSeq (sIf (eNot (eCallF (callK D cl 67) (lCons (eCallF (callK D cl 59) (lCons (eVar 0) (lCons (eBin (opPrim D cl .Add) (eC (.int 30)) (eVar 1)) lNil))) (lCons (eCallF (callK D cl 59) (lCons (eVar 0) (lCons (eBin (opPrim D cl .Add) (eC (.int 50)) (eVar 1)) lNil))) lNil))))
    (sRet (eC (.bl false)))
    sSkip)
    (b_law_all_right_1 cl))
def b_law_all_right_3 (cl : Calls) : SV :=
    (sSeq (sIf (eNot (eCallF (callK D cl 64) (lCons (eCallF (callK D cl 59) (lCons (eVar 0) (lCons (eBin (opPrim D cl .Add) (eC (.int 10)) (eVar 1)) lNil))) lNil)))
    (sRet (eC (.bl false)))
    sSkip)
    (b_law_all_right_2 cl))
def b_law_all_right_4 (cl : Calls) : SV :=
    (sRet (eC (.bl true)))
def b_law_all_right (cl : Calls) : SV :=
    (sSeq (sFor (tArg pRng1 (lCons (eC (.int 6)) lNil)) (.nm 1)
    (b_law_all_right_3 cl))
    (b_law_all_right_4 cl))
def b_law (cl : Calls) : SV :=
    (sTry (xmOf D)
    (sRet (eCallF (callK D cl 69) (lCons (eVar 0) lNil)))
    [(4, (sRet (eC (.bl false))))])
def lp (cl : Calls) : List BodZ := (([(n_is_integer, b_is_integer cl), (n_is_name, b_is_name cl), (n_is_word, b_is_word cl), (n_rounded, b_rounded cl), (n_clipped, b_clipped cl), (n_Form_init_, b_Form_init_ cl), (n_Form_bits, b_Form_bits cl), (n_Form_rounding, b_Form_rounding cl), (n_Form_limit, b_Form_limit cl), (n_Form_low, b_Form_low cl), (n_Form_high, b_Form_high cl), (n_Form_eq_, b_Form_eq_ cl), (n_Form_all_parts, b_Form_all_parts cl), (n_Form_len_, b_Form_len_ cl), (n_Form_contains_, b_Form_contains_ cl), (n_Form_call_, b_Form_call_ cl), (n_Form_changed, b_Form_changed cl), (n_word_of, b_word_of cl), (n_check_integer, b_check_integer cl), (n_Sensor_init_, b_Sensor_init_ cl), (n_Sensor_level, b_Sensor_level cl), (n_Sensor_size, b_Sensor_size cl), (n_Sensor_low, b_Sensor_low cl), (n_Sensor_high, b_Sensor_high cl), (n_Sensor_eq_, b_Sensor_eq_ cl), (n_Sensor_all_parts, b_Sensor_all_parts cl), (n_Sensor_call_, b_Sensor_call_ cl), (n_reading_of, b_reading_of cl), (n_Drive_init_, b_Drive_init_ cl), (n_Drive_low, b_Drive_low cl)] : List (BodZ)) ++ ([(n_Drive_high, b_Drive_high cl), (n_Drive_change, b_Drive_change cl), (n_Drive_start, b_Drive_start cl), (n_Drive_eq_, b_Drive_eq_ cl), (n_Drive_all_parts, b_Drive_all_parts cl), (n_Drive_len_, b_Drive_len_ cl), (n_Drive_contains_, b_Drive_contains_ cl), (n_Drive_call_, b_Drive_call_ cl), (n_position_of, b_position_of cl), (n_divisor, b_divisor cl), (n_reduced, b_reduced cl), (n_is_factor, b_is_factor cl), (n_are_terms, b_are_terms cl), (n_Sum_init_, b_Sum_init_ cl), (n_Sum_constant, b_Sum_constant cl), (n_Sum_terms, b_Sum_terms cl), (n_Sum_eq_, b_Sum_eq_ cl), (n_Sum_len_, b_Sum_len_ cl), (n_Sum_contains_, b_Sum_contains_ cl), (n_Sum_getitem_, b_Sum_getitem_ cl), (n_Sum_iter_, b_Sum_iter_ cl), (n_Sum_add_, b_Sum_add_ cl), (n_Sum_sub_, b_Sum_sub_ cl), (n_Sum_neg_, b_Sum_neg_ cl), (n_Sum_call_, b_Sum_call_ cl), (n_plus, b_plus cl), (n_added, b_added cl), (n_shared_bottom, b_shared_bottom cl), (n_total, b_total cl), (n_law_number, b_law_number cl)] : List (BodZ)) ++ ([(n_law_word, b_law_word cl), (n_law_value, b_law_value cl), (n_law_gcd, b_law_gcd cl), (n_law_lowest, b_law_lowest cl), (n_law_forms_right, b_law_forms_right cl), (n_law_parts, b_law_parts cl), (n_law_made, b_law_made cl), (n_law_sum_right, b_law_sum_right cl), (n_law_devices_right, b_law_devices_right cl), (n_law_all_right, b_law_all_right cl), (n_law, b_law cl)] : List (BodZ)))
def tp (cl : Calls) : TB BodZ := (.b (some (n_is_integer, b_is_integer cl)) (.b (some (n_is_name, b_is_name cl)) (.b (some (n_rounded, b_rounded cl)) (.b (some (n_Form_rounding, b_Form_rounding cl)) (.b (some (n_Form_call_, b_Form_call_ cl)) (.b (some (n_Drive_change, b_Drive_change cl)) (.b (some (n_law_lowest, b_law_lowest cl)) .e .e) .e) (.b (some (n_Sum_len_, b_Sum_len_ cl)) .e .e)) (.b (some (n_Sensor_high, b_Sensor_high cl)) (.b (some (n_divisor, b_divisor cl)) .e .e) (.b (some (n_plus, b_plus cl)) .e .e))) (.b (some (n_Form_eq_, b_Form_eq_ cl)) (.b (some (n_Sensor_init_, b_Sensor_init_ cl)) (.b (some (n_Drive_len_, b_Drive_len_ cl)) (.b (some (n_law_sum_right, b_law_sum_right cl)) .e .e) .e) (.b (some (n_Sum_add_, b_Sum_add_ cl)) .e .e)) (.b (some (n_reading_of, b_reading_of cl)) (.b (some (n_Sum_init_, b_Sum_init_ cl)) .e .e) (.b (some (n_law_number, b_law_number cl)) .e .e)))) (.b (some (n_Form_init_, b_Form_init_ cl)) (.b (some (n_Form_low, b_Form_low cl)) (.b (some (n_word_of, b_word_of cl)) (.b (some (n_Drive_eq_, b_Drive_eq_ cl)) (.b (some (n_law_parts, b_law_parts cl)) .e .e) .e) (.b (some (n_Sum_getitem_, b_Sum_getitem_ cl)) .e .e)) (.b (some (n_Sensor_all_parts, b_Sensor_all_parts cl)) (.b (some (n_is_factor, b_is_factor cl)) .e .e) (.b (some (n_shared_bottom, b_shared_bottom cl)) .e .e))) (.b (some (n_Form_len_, b_Form_len_ cl)) (.b (some (n_Sensor_size, b_Sensor_size cl)) (.b (some (n_Drive_call_, b_Drive_call_ cl)) (.b (some (n_law_all_right, b_law_all_right cl)) .e .e) .e) (.b (some (n_Sum_neg_, b_Sum_neg_ cl)) .e .e)) (.b (some (n_Drive_low, b_Drive_low cl)) (.b (some (n_Sum_terms, b_Sum_terms cl)) .e .e) (.b (some (n_law_value, b_law_value cl)) .e .e))))) (.b (some (n_is_word, b_is_word cl)) (.b (some (n_clipped, b_clipped cl)) (.b (some (n_Form_limit, b_Form_limit cl)) (.b (some (n_Form_changed, b_Form_changed cl)) (.b (some (n_Drive_start, b_Drive_start cl)) (.b (some (n_law_forms_right, b_law_forms_right cl)) .e .e) .e) (.b (some (n_Sum_contains_, b_Sum_contains_ cl)) .e .e)) (.b (some (n_Sensor_eq_, b_Sensor_eq_ cl)) (.b (some (n_reduced, b_reduced cl)) .e .e) (.b (some (n_added, b_added cl)) .e .e))) (.b (some (n_Form_all_parts, b_Form_all_parts cl)) (.b (some (n_Sensor_level, b_Sensor_level cl)) (.b (some (n_Drive_contains_, b_Drive_contains_ cl)) (.b (some (n_law_devices_right, b_law_devices_right cl)) .e .e) .e) (.b (some (n_Sum_sub_, b_Sum_sub_ cl)) .e .e)) (.b (some (n_Drive_init_, b_Drive_init_ cl)) (.b (some (n_Sum_constant, b_Sum_constant cl)) .e .e) (.b (some (n_law_word, b_law_word cl)) .e .e)))) (.b (some (n_Form_bits, b_Form_bits cl)) (.b (some (n_Form_high, b_Form_high cl)) (.b (some (n_check_integer, b_check_integer cl)) (.b (some (n_Drive_all_parts, b_Drive_all_parts cl)) (.b (some (n_law_made, b_law_made cl)) .e .e) .e) (.b (some (n_Sum_iter_, b_Sum_iter_ cl)) .e .e)) (.b (some (n_Sensor_call_, b_Sensor_call_ cl)) (.b (some (n_are_terms, b_are_terms cl)) .e .e) (.b (some (n_total, b_total cl)) .e .e))) (.b (some (n_Form_contains_, b_Form_contains_ cl)) (.b (some (n_Sensor_low, b_Sensor_low cl)) (.b (some (n_position_of, b_position_of cl)) (.b (some (n_law, b_law cl)) .e .e) .e) (.b (some (n_Sum_call_, b_Sum_call_ cl)) .e .e)) (.b (some (n_Drive_high, b_Drive_high cl)) (.b (some (n_Sum_eq_, b_Sum_eq_ cl)) .e .e) (.b (some (n_law_gcd, b_law_gcd cl)) .e .e))))))
abbrev cl (d : Nat) : Calls := callsP tp d
abbrev i_is_integer : Nat := 0
abbrev i_is_name : Nat := 1
abbrev i_is_word : Nat := 2
abbrev i_rounded : Nat := 3
abbrev i_clipped : Nat := 4
abbrev i_Form_init_ : Nat := 5
abbrev i_Form_bits : Nat := 6
abbrev i_Form_rounding : Nat := 7
abbrev i_Form_limit : Nat := 8
abbrev i_Form_low : Nat := 9
abbrev i_Form_high : Nat := 10
abbrev i_Form_eq_ : Nat := 11
abbrev i_Form_all_parts : Nat := 12
abbrev i_Form_len_ : Nat := 13
abbrev i_Form_contains_ : Nat := 14
abbrev i_Form_call_ : Nat := 15
abbrev i_Form_changed : Nat := 16
abbrev i_word_of : Nat := 17
abbrev i_check_integer : Nat := 18
abbrev i_Sensor_init_ : Nat := 19
abbrev i_Sensor_level : Nat := 20
abbrev i_Sensor_size : Nat := 21
abbrev i_Sensor_low : Nat := 22
abbrev i_Sensor_high : Nat := 23
abbrev i_Sensor_eq_ : Nat := 24
abbrev i_Sensor_all_parts : Nat := 25
abbrev i_Sensor_call_ : Nat := 26
abbrev i_reading_of : Nat := 27
abbrev i_Drive_init_ : Nat := 28
abbrev i_Drive_low : Nat := 29
abbrev i_Drive_high : Nat := 30
abbrev i_Drive_change : Nat := 31
abbrev i_Drive_start : Nat := 32
abbrev i_Drive_eq_ : Nat := 33
abbrev i_Drive_all_parts : Nat := 34
abbrev i_Drive_len_ : Nat := 35
abbrev i_Drive_contains_ : Nat := 36
abbrev i_Drive_call_ : Nat := 37
abbrev i_position_of : Nat := 38
abbrev i_divisor : Nat := 39
abbrev i_reduced : Nat := 40
abbrev i_is_factor : Nat := 41
abbrev i_are_terms : Nat := 42
abbrev i_Sum_init_ : Nat := 43
abbrev i_Sum_constant : Nat := 44
abbrev i_Sum_terms : Nat := 45
abbrev i_Sum_eq_ : Nat := 46
abbrev i_Sum_len_ : Nat := 47
abbrev i_Sum_contains_ : Nat := 48
abbrev i_Sum_getitem_ : Nat := 49
abbrev i_Sum_iter_ : Nat := 50
abbrev i_Sum_add_ : Nat := 51
abbrev i_Sum_sub_ : Nat := 52
abbrev i_Sum_neg_ : Nat := 53
abbrev i_Sum_call_ : Nat := 54
abbrev i_plus : Nat := 55
abbrev i_added : Nat := 56
abbrev i_shared_bottom : Nat := 57
abbrev i_total : Nat := 58
abbrev i_law_number : Nat := 59
abbrev i_law_word : Nat := 60
abbrev i_law_value : Nat := 61
abbrev i_law_gcd : Nat := 62
abbrev i_law_lowest : Nat := 63
abbrev i_law_forms_right : Nat := 64
abbrev i_law_parts : Nat := 65
abbrev i_law_made : Nat := 66
abbrev i_law_sum_right : Nat := 67
abbrev i_law_devices_right : Nat := 68
abbrev i_law_all_right : Nat := 69
abbrev i_law : Nat := 70
end K05
end
section
namespace K05
open PySem PySem.Spec PyProof.Rows L2 Z ZV
theorem e_is_integer (cl : Calls) : bodyZ D G cl 30 n_is_integer y_is_integer.scope y_is_integer.body = b_is_integer cl := by kernel_rfl
theorem e_is_name (cl : Calls) : bodyZ D G cl 30 n_is_name y_is_name.scope y_is_name.body = b_is_name cl := by kernel_rfl
theorem e_is_word (cl : Calls) : bodyZ D G cl 30 n_is_word y_is_word.scope y_is_word.body = b_is_word cl := by kernel_rfl
theorem e_rounded (cl : Calls) : bodyZ D G cl 30 n_rounded y_rounded.scope y_rounded.body = b_rounded cl := by kernel_rfl
theorem e_clipped (cl : Calls) : bodyZ D G cl 30 n_clipped y_clipped.scope y_clipped.body = b_clipped cl := by kernel_rfl
theorem e_Form_init_ (cl : Calls) : bodyZ D G cl 30 n_Form_init_ y_Form_init_.scope y_Form_init_.body = b_Form_init_ cl := by kernel_rfl
theorem e_Form_bits (cl : Calls) : bodyZ D G cl 30 n_Form_bits y_Form_bits.scope y_Form_bits.body = b_Form_bits cl := by kernel_rfl
theorem e_Form_rounding (cl : Calls) : bodyZ D G cl 30 n_Form_rounding y_Form_rounding.scope y_Form_rounding.body = b_Form_rounding cl := by kernel_rfl
theorem e_Form_limit (cl : Calls) : bodyZ D G cl 30 n_Form_limit y_Form_limit.scope y_Form_limit.body = b_Form_limit cl := by kernel_rfl
theorem e_Form_low (cl : Calls) : bodyZ D G cl 30 n_Form_low y_Form_low.scope y_Form_low.body = b_Form_low cl := by kernel_rfl
theorem e_Form_high (cl : Calls) : bodyZ D G cl 30 n_Form_high y_Form_high.scope y_Form_high.body = b_Form_high cl := by kernel_rfl
theorem e_Form_eq_ (cl : Calls) : bodyZ D G cl 30 n_Form_eq_ y_Form_eq_.scope y_Form_eq_.body = b_Form_eq_ cl := by kernel_rfl
theorem e_Form_all_parts (cl : Calls) : bodyZ D G cl 30 n_Form_all_parts y_Form_all_parts.scope y_Form_all_parts.body = b_Form_all_parts cl := by kernel_rfl
theorem e_Form_len_ (cl : Calls) : bodyZ D G cl 30 n_Form_len_ y_Form_len_.scope y_Form_len_.body = b_Form_len_ cl := by kernel_rfl
theorem e_Form_contains_ (cl : Calls) : bodyZ D G cl 30 n_Form_contains_ y_Form_contains_.scope y_Form_contains_.body = b_Form_contains_ cl := by kernel_rfl
theorem e_Form_call_ (cl : Calls) : bodyZ D G cl 30 n_Form_call_ y_Form_call_.scope y_Form_call_.body = b_Form_call_ cl := by kernel_rfl
theorem e_Form_changed (cl : Calls) : bodyZ D G cl 30 n_Form_changed y_Form_changed.scope y_Form_changed.body = b_Form_changed cl := by kernel_rfl
theorem e_word_of (cl : Calls) : bodyZ D G cl 30 n_word_of y_word_of.scope y_word_of.body = b_word_of cl := by kernel_rfl
theorem e_check_integer (cl : Calls) : bodyZ D G cl 30 n_check_integer y_check_integer.scope y_check_integer.body = b_check_integer cl := by kernel_rfl
theorem e_Sensor_init_ (cl : Calls) : bodyZ D G cl 30 n_Sensor_init_ y_Sensor_init_.scope y_Sensor_init_.body = b_Sensor_init_ cl := by kernel_rfl
theorem e_Sensor_level (cl : Calls) : bodyZ D G cl 30 n_Sensor_level y_Sensor_level.scope y_Sensor_level.body = b_Sensor_level cl := by kernel_rfl
theorem e_Sensor_size (cl : Calls) : bodyZ D G cl 30 n_Sensor_size y_Sensor_size.scope y_Sensor_size.body = b_Sensor_size cl := by kernel_rfl
theorem e_Sensor_low (cl : Calls) : bodyZ D G cl 30 n_Sensor_low y_Sensor_low.scope y_Sensor_low.body = b_Sensor_low cl := by kernel_rfl
theorem e_Sensor_high (cl : Calls) : bodyZ D G cl 30 n_Sensor_high y_Sensor_high.scope y_Sensor_high.body = b_Sensor_high cl := by kernel_rfl
theorem e_Sensor_eq_ (cl : Calls) : bodyZ D G cl 30 n_Sensor_eq_ y_Sensor_eq_.scope y_Sensor_eq_.body = b_Sensor_eq_ cl := by kernel_rfl
theorem e_Sensor_all_parts (cl : Calls) : bodyZ D G cl 30 n_Sensor_all_parts y_Sensor_all_parts.scope y_Sensor_all_parts.body = b_Sensor_all_parts cl := by kernel_rfl
theorem e_Sensor_call_ (cl : Calls) : bodyZ D G cl 30 n_Sensor_call_ y_Sensor_call_.scope y_Sensor_call_.body = b_Sensor_call_ cl := by kernel_rfl
theorem e_reading_of (cl : Calls) : bodyZ D G cl 30 n_reading_of y_reading_of.scope y_reading_of.body = b_reading_of cl := by kernel_rfl
theorem e_Drive_init_ (cl : Calls) : bodyZ D G cl 30 n_Drive_init_ y_Drive_init_.scope y_Drive_init_.body = b_Drive_init_ cl := by kernel_rfl
theorem e_Drive_low (cl : Calls) : bodyZ D G cl 30 n_Drive_low y_Drive_low.scope y_Drive_low.body = b_Drive_low cl := by kernel_rfl
theorem e_Drive_high (cl : Calls) : bodyZ D G cl 30 n_Drive_high y_Drive_high.scope y_Drive_high.body = b_Drive_high cl := by kernel_rfl
theorem e_Drive_change (cl : Calls) : bodyZ D G cl 30 n_Drive_change y_Drive_change.scope y_Drive_change.body = b_Drive_change cl := by kernel_rfl
theorem e_Drive_start (cl : Calls) : bodyZ D G cl 30 n_Drive_start y_Drive_start.scope y_Drive_start.body = b_Drive_start cl := by kernel_rfl
theorem e_Drive_eq_ (cl : Calls) : bodyZ D G cl 30 n_Drive_eq_ y_Drive_eq_.scope y_Drive_eq_.body = b_Drive_eq_ cl := by kernel_rfl
theorem e_Drive_all_parts (cl : Calls) : bodyZ D G cl 30 n_Drive_all_parts y_Drive_all_parts.scope y_Drive_all_parts.body = b_Drive_all_parts cl := by kernel_rfl
theorem e_Drive_len_ (cl : Calls) : bodyZ D G cl 30 n_Drive_len_ y_Drive_len_.scope y_Drive_len_.body = b_Drive_len_ cl := by kernel_rfl
theorem e_Drive_contains_ (cl : Calls) : bodyZ D G cl 30 n_Drive_contains_ y_Drive_contains_.scope y_Drive_contains_.body = b_Drive_contains_ cl := by kernel_rfl
theorem e_Drive_call_ (cl : Calls) : bodyZ D G cl 30 n_Drive_call_ y_Drive_call_.scope y_Drive_call_.body = b_Drive_call_ cl := by kernel_rfl
theorem e_position_of (cl : Calls) : bodyZ D G cl 30 n_position_of y_position_of.scope y_position_of.body = b_position_of cl := by kernel_rfl
theorem e_divisor (cl : Calls) : bodyZ D G cl 30 n_divisor y_divisor.scope y_divisor.body = b_divisor cl := by kernel_rfl
theorem e_reduced (cl : Calls) : bodyZ D G cl 30 n_reduced y_reduced.scope y_reduced.body = b_reduced cl := by kernel_rfl
theorem e_is_factor (cl : Calls) : bodyZ D G cl 30 n_is_factor y_is_factor.scope y_is_factor.body = b_is_factor cl := by kernel_rfl
theorem e_are_terms (cl : Calls) : bodyZ D G cl 30 n_are_terms y_are_terms.scope y_are_terms.body = b_are_terms cl := by kernel_rfl
theorem e_Sum_init_ (cl : Calls) : bodyZ D G cl 30 n_Sum_init_ y_Sum_init_.scope y_Sum_init_.body = b_Sum_init_ cl := by kernel_rfl
theorem e_Sum_constant (cl : Calls) : bodyZ D G cl 30 n_Sum_constant y_Sum_constant.scope y_Sum_constant.body = b_Sum_constant cl := by kernel_rfl
theorem e_Sum_terms (cl : Calls) : bodyZ D G cl 30 n_Sum_terms y_Sum_terms.scope y_Sum_terms.body = b_Sum_terms cl := by kernel_rfl
theorem e_Sum_eq_ (cl : Calls) : bodyZ D G cl 30 n_Sum_eq_ y_Sum_eq_.scope y_Sum_eq_.body = b_Sum_eq_ cl := by kernel_rfl
theorem e_Sum_len_ (cl : Calls) : bodyZ D G cl 30 n_Sum_len_ y_Sum_len_.scope y_Sum_len_.body = b_Sum_len_ cl := by kernel_rfl
theorem e_Sum_contains_ (cl : Calls) : bodyZ D G cl 30 n_Sum_contains_ y_Sum_contains_.scope y_Sum_contains_.body = b_Sum_contains_ cl := by kernel_rfl
theorem e_Sum_getitem_ (cl : Calls) : bodyZ D G cl 30 n_Sum_getitem_ y_Sum_getitem_.scope y_Sum_getitem_.body = b_Sum_getitem_ cl := by kernel_rfl
theorem e_Sum_iter_ (cl : Calls) : bodyZ D G cl 30 n_Sum_iter_ y_Sum_iter_.scope y_Sum_iter_.body = b_Sum_iter_ cl := by kernel_rfl
theorem e_Sum_add_ (cl : Calls) : bodyZ D G cl 30 n_Sum_add_ y_Sum_add_.scope y_Sum_add_.body = b_Sum_add_ cl := by kernel_rfl
theorem e_Sum_sub_ (cl : Calls) : bodyZ D G cl 30 n_Sum_sub_ y_Sum_sub_.scope y_Sum_sub_.body = b_Sum_sub_ cl := by kernel_rfl
theorem e_Sum_neg_ (cl : Calls) : bodyZ D G cl 30 n_Sum_neg_ y_Sum_neg_.scope y_Sum_neg_.body = b_Sum_neg_ cl := by kernel_rfl
theorem e_Sum_call_ (cl : Calls) : bodyZ D G cl 30 n_Sum_call_ y_Sum_call_.scope y_Sum_call_.body = b_Sum_call_ cl := by kernel_rfl
theorem e_plus (cl : Calls) : bodyZ D G cl 30 n_plus y_plus.scope y_plus.body = b_plus cl := by kernel_rfl
theorem e_added (cl : Calls) : bodyZ D G cl 30 n_added y_added.scope y_added.body = b_added cl := by kernel_rfl
theorem e_shared_bottom (cl : Calls) : bodyZ D G cl 30 n_shared_bottom y_shared_bottom.scope y_shared_bottom.body = b_shared_bottom cl := by kernel_rfl
theorem e_total (cl : Calls) : bodyZ D G cl 30 n_total y_total.scope y_total.body = b_total cl := by kernel_rfl
theorem e_law_number (cl : Calls) : bodyZ D G cl 30 n_law_number y_law_number.scope y_law_number.body = b_law_number cl := by kernel_rfl
theorem e_law_word (cl : Calls) : bodyZ D G cl 30 n_law_word y_law_word.scope y_law_word.body = b_law_word cl := by kernel_rfl
theorem e_law_value (cl : Calls) : bodyZ D G cl 30 n_law_value y_law_value.scope y_law_value.body = b_law_value cl := by kernel_rfl
theorem e_law_gcd (cl : Calls) : bodyZ D G cl 30 n_law_gcd y_law_gcd.scope y_law_gcd.body = b_law_gcd cl := by kernel_rfl
theorem e_law_lowest (cl : Calls) : bodyZ D G cl 30 n_law_lowest y_law_lowest.scope y_law_lowest.body = b_law_lowest cl := by kernel_rfl
theorem e_law_forms_right (cl : Calls) : bodyZ D G cl 30 n_law_forms_right y_law_forms_right.scope y_law_forms_right.body = b_law_forms_right cl := by kernel_rfl
theorem e_law_parts (cl : Calls) : bodyZ D G cl 30 n_law_parts y_law_parts.scope y_law_parts.body = b_law_parts cl := by kernel_rfl
theorem e_law_made (cl : Calls) : bodyZ D G cl 30 n_law_made y_law_made.scope y_law_made.body = b_law_made cl := by kernel_rfl
theorem e_law_sum_right (cl : Calls) : bodyZ D G cl 30 n_law_sum_right y_law_sum_right.scope y_law_sum_right.body = b_law_sum_right cl := by kernel_rfl
theorem e_law_devices_right (cl : Calls) : bodyZ D G cl 30 n_law_devices_right y_law_devices_right.scope y_law_devices_right.body = b_law_devices_right cl := by kernel_rfl
theorem e_law_all_right (cl : Calls) : bodyZ D G cl 30 n_law_all_right y_law_all_right.scope y_law_all_right.body = b_law_all_right cl := by kernel_rfl
theorem e_law (cl : Calls) : bodyZ D G cl 30 n_law y_law.scope y_law.body = b_law cl := by kernel_rfl
theorem tp_eq (cl : Calls) : tp cl = TB.ofL 71 (lp cl) := by kernel_rfl
theorem lp_len (cl : Calls) : (lp cl).length ≤ 71 := Nat.le_of_eq (by kernel_rfl)
theorem congr2 {α : Type} {a b : α} {l m : List α} (h : a = b) (t : l = m) : a :: l = b :: m := by rw [h, t]
theorem lp_eq (cl : Calls) : (L.codes.map fun c => (c.N, bodyZ D G cl 30 c.N c.sc c.body)) = lp cl := (congr2 (congrArg (Prod.mk _) (e_is_integer cl)) (congr2 (congrArg (Prod.mk _) (e_is_name cl)) (congr2 (congrArg (Prod.mk _) (e_is_word cl)) (congr2 (congrArg (Prod.mk _) (e_rounded cl)) (congr2 (congrArg (Prod.mk _) (e_clipped cl)) (congr2 (congrArg (Prod.mk _) (e_Form_init_ cl)) (congr2 (congrArg (Prod.mk _) (e_Form_bits cl)) (congr2 (congrArg (Prod.mk _) (e_Form_rounding cl)) (congr2 (congrArg (Prod.mk _) (e_Form_limit cl)) (congr2 (congrArg (Prod.mk _) (e_Form_low cl)) (congr2 (congrArg (Prod.mk _) (e_Form_high cl)) (congr2 (congrArg (Prod.mk _) (e_Form_eq_ cl)) (congr2 (congrArg (Prod.mk _) (e_Form_all_parts cl)) (congr2 (congrArg (Prod.mk _) (e_Form_len_ cl)) (congr2 (congrArg (Prod.mk _) (e_Form_contains_ cl)) (congr2 (congrArg (Prod.mk _) (e_Form_call_ cl)) (congr2 (congrArg (Prod.mk _) (e_Form_changed cl)) (congr2 (congrArg (Prod.mk _) (e_word_of cl)) (congr2 (congrArg (Prod.mk _) (e_check_integer cl)) (congr2 (congrArg (Prod.mk _) (e_Sensor_init_ cl)) (congr2 (congrArg (Prod.mk _) (e_Sensor_level cl)) (congr2 (congrArg (Prod.mk _) (e_Sensor_size cl)) (congr2 (congrArg (Prod.mk _) (e_Sensor_low cl)) (congr2 (congrArg (Prod.mk _) (e_Sensor_high cl)) (congr2 (congrArg (Prod.mk _) (e_Sensor_eq_ cl)) (congr2 (congrArg (Prod.mk _) (e_Sensor_all_parts cl)) (congr2 (congrArg (Prod.mk _) (e_Sensor_call_ cl)) (congr2 (congrArg (Prod.mk _) (e_reading_of cl)) (congr2 (congrArg (Prod.mk _) (e_Drive_init_ cl)) (congr2 (congrArg (Prod.mk _) (e_Drive_low cl)) (congr2 (congrArg (Prod.mk _) (e_Drive_high cl)) (congr2 (congrArg (Prod.mk _) (e_Drive_change cl)) (congr2 (congrArg (Prod.mk _) (e_Drive_start cl)) (congr2 (congrArg (Prod.mk _) (e_Drive_eq_ cl)) (congr2 (congrArg (Prod.mk _) (e_Drive_all_parts cl)) (congr2 (congrArg (Prod.mk _) (e_Drive_len_ cl)) (congr2 (congrArg (Prod.mk _) (e_Drive_contains_ cl)) (congr2 (congrArg (Prod.mk _) (e_Drive_call_ cl)) (congr2 (congrArg (Prod.mk _) (e_position_of cl)) (congr2 (congrArg (Prod.mk _) (e_divisor cl)) (congr2 (congrArg (Prod.mk _) (e_reduced cl)) (congr2 (congrArg (Prod.mk _) (e_is_factor cl)) (congr2 (congrArg (Prod.mk _) (e_are_terms cl)) (congr2 (congrArg (Prod.mk _) (e_Sum_init_ cl)) (congr2 (congrArg (Prod.mk _) (e_Sum_constant cl)) (congr2 (congrArg (Prod.mk _) (e_Sum_terms cl)) (congr2 (congrArg (Prod.mk _) (e_Sum_eq_ cl)) (congr2 (congrArg (Prod.mk _) (e_Sum_len_ cl)) (congr2 (congrArg (Prod.mk _) (e_Sum_contains_ cl)) (congr2 (congrArg (Prod.mk _) (e_Sum_getitem_ cl)) (congr2 (congrArg (Prod.mk _) (e_Sum_iter_ cl)) (congr2 (congrArg (Prod.mk _) (e_Sum_add_ cl)) (congr2 (congrArg (Prod.mk _) (e_Sum_sub_ cl)) (congr2 (congrArg (Prod.mk _) (e_Sum_neg_ cl)) (congr2 (congrArg (Prod.mk _) (e_Sum_call_ cl)) (congr2 (congrArg (Prod.mk _) (e_plus cl)) (congr2 (congrArg (Prod.mk _) (e_added cl)) (congr2 (congrArg (Prod.mk _) (e_shared_bottom cl)) (congr2 (congrArg (Prod.mk _) (e_total cl)) (congr2 (congrArg (Prod.mk _) (e_law_number cl)) (congr2 (congrArg (Prod.mk _) (e_law_word cl)) (congr2 (congrArg (Prod.mk _) (e_law_value cl)) (congr2 (congrArg (Prod.mk _) (e_law_gcd cl)) (congr2 (congrArg (Prod.mk _) (e_law_lowest cl)) (congr2 (congrArg (Prod.mk _) (e_law_forms_right cl)) (congr2 (congrArg (Prod.mk _) (e_law_parts cl)) (congr2 (congrArg (Prod.mk _) (e_law_made cl)) (congr2 (congrArg (Prod.mk _) (e_law_sum_right cl)) (congr2 (congrArg (Prod.mk _) (e_law_devices_right cl)) (congr2 (congrArg (Prod.mk _) (e_law_all_right cl)) (congr2 (congrArg (Prod.mk _) (e_law cl)) rfl)))))))))))))))))))))))))))))))))))))))))))))))))))))))))))))))))))))))
theorem calls_eq (d : Nat) : callsAt D G 30 L.codes d = cl d := callsP_eq tp_eq lp_len lp_eq d
end K05
end
section
namespace K05
open PySem PySem.Spec PyProof.Rows L2 Z ZV
theorem ck_is_integer_3 (cl : Calls) (a0 a1 a2 : AV) (A : AH) : callK D cl 0 [a0, a1, a2] A = cl i_is_integer [a0, a1, a2] A := rfl
theorem df_is_integer (d : Nat) (a0 a1 a2 : AV) (A : AH) : cl (d + 1) i_is_integer [a0, a1, a2] A = endE (b_is_integer (cl d) [some a0, some a1, some a2] A) := by kernel_rfl
theorem ck_is_name_1 (cl : Calls) (a0 : AV) (A : AH) : callK D cl 1 [a0] A = cl i_is_name [a0] A := rfl
theorem df_is_name (d : Nat) (a0 : AV) (A : AH) : cl (d + 1) i_is_name [a0] A = endE (b_is_name (cl d) [some a0, none] A) := by kernel_rfl
theorem ck_is_word_2 (cl : Calls) (a0 a1 : AV) (A : AH) : callK D cl 2 [a0, a1] A = cl i_is_word [a0, a1] A := rfl
theorem df_is_word (d : Nat) (a0 a1 : AV) (A : AH) : cl (d + 1) i_is_word [a0, a1] A = endE (b_is_word (cl d) [some a0, some a1] A) := by kernel_rfl
theorem ck_rounded_3 (cl : Calls) (a0 a1 a2 : AV) (A : AH) : callK D cl 3 [a0, a1, a2] A = cl i_rounded [a0, a1, a2] A := rfl
theorem df_rounded (d : Nat) (a0 a1 a2 : AV) (A : AH) : cl (d + 1) i_rounded [a0, a1, a2] A = endE (b_rounded (cl d) [some a0, some a1, some a2] A) := by kernel_rfl
theorem ck_clipped_3 (cl : Calls) (a0 a1 a2 : AV) (A : AH) : callK D cl 4 [a0, a1, a2] A = cl i_clipped [a0, a1, a2] A := rfl
theorem df_clipped (d : Nat) (a0 a1 a2 : AV) (A : AH) : cl (d + 1) i_clipped [a0, a1, a2] A = endE (b_clipped (cl d) [some a0, some a1, some a2] A) := by kernel_rfl
theorem ck_Form_init__2 (cl : Calls) (a0 a1 : AV) (A : AH) : callK D cl 5 [a0, a1] A = cl i_Form_init_ [a0, a1, (.str "down"), (.str "clip")] A := rfl
theorem kk_Form_init__0 (cl : Calls) (a0 a1 k0 : AV) (A : AH) : callKw D cl 5 ["limit"] [a0, a1] [k0] A = cl i_Form_init_ [a0, a1, (.str "down"), k0] A := by kernel_rfl
theorem kk_Form_init__1 (cl : Calls) (a0 a1 k0 k1 : AV) (A : AH) : callKw D cl 5 ["rounding", "limit"] [a0, a1] [k0, k1] A = cl i_Form_init_ [a0, a1, k0, k1] A := by kernel_rfl
theorem df_Form_init_ (d : Nat) (a0 a1 a2 a3 : AV) (A : AH) : cl (d + 1) i_Form_init_ [a0, a1, a2, a3] A = endE (b_Form_init_ (cl d) [some a0, some a1, some a2, some a3] A) := by kernel_rfl
theorem ck_Form_bits_1 (cl : Calls) (a0 : AV) (A : AH) : callK D cl 6 [a0] A = cl i_Form_bits [a0] A := rfl
theorem df_Form_bits (d : Nat) (a0 : AV) (A : AH) : cl (d + 1) i_Form_bits [a0] A = endE (b_Form_bits (cl d) [some a0] A) := by kernel_rfl
theorem ck_Form_rounding_1 (cl : Calls) (a0 : AV) (A : AH) : callK D cl 7 [a0] A = cl i_Form_rounding [a0] A := rfl
theorem df_Form_rounding (d : Nat) (a0 : AV) (A : AH) : cl (d + 1) i_Form_rounding [a0] A = endE (b_Form_rounding (cl d) [some a0] A) := by kernel_rfl
theorem ck_Form_limit_1 (cl : Calls) (a0 : AV) (A : AH) : callK D cl 8 [a0] A = cl i_Form_limit [a0] A := rfl
theorem df_Form_limit (d : Nat) (a0 : AV) (A : AH) : cl (d + 1) i_Form_limit [a0] A = endE (b_Form_limit (cl d) [some a0] A) := by kernel_rfl
theorem ck_Form_low_1 (cl : Calls) (a0 : AV) (A : AH) : callK D cl 9 [a0] A = cl i_Form_low [a0] A := rfl
theorem df_Form_low (d : Nat) (a0 : AV) (A : AH) : cl (d + 1) i_Form_low [a0] A = endE (b_Form_low (cl d) [some a0] A) := by kernel_rfl
theorem ck_Form_high_1 (cl : Calls) (a0 : AV) (A : AH) : callK D cl 10 [a0] A = cl i_Form_high [a0] A := rfl
theorem df_Form_high (d : Nat) (a0 : AV) (A : AH) : cl (d + 1) i_Form_high [a0] A = endE (b_Form_high (cl d) [some a0] A) := by kernel_rfl
theorem ck_Form_eq__2 (cl : Calls) (a0 a1 : AV) (A : AH) : callK D cl 11 [a0, a1] A = cl i_Form_eq_ [a0, a1] A := rfl
theorem df_Form_eq_ (d : Nat) (a0 a1 : AV) (A : AH) : cl (d + 1) i_Form_eq_ [a0, a1] A = endE (b_Form_eq_ (cl d) [some a0, some a1] A) := by kernel_rfl
theorem ck_Form_all_parts_1 (cl : Calls) (a0 : AV) (A : AH) : callK D cl 12 [a0] A = cl i_Form_all_parts [a0] A := rfl
theorem df_Form_all_parts (d : Nat) (a0 : AV) (A : AH) : cl (d + 1) i_Form_all_parts [a0] A = endE (b_Form_all_parts (cl d) [some a0] A) := by kernel_rfl
theorem ck_Form_len__1 (cl : Calls) (a0 : AV) (A : AH) : callK D cl 13 [a0] A = cl i_Form_len_ [a0] A := rfl
theorem df_Form_len_ (d : Nat) (a0 : AV) (A : AH) : cl (d + 1) i_Form_len_ [a0] A = endE (b_Form_len_ (cl d) [some a0] A) := by kernel_rfl
theorem ck_Form_contains__2 (cl : Calls) (a0 a1 : AV) (A : AH) : callK D cl 14 [a0, a1] A = cl i_Form_contains_ [a0, a1] A := rfl
theorem df_Form_contains_ (d : Nat) (a0 a1 : AV) (A : AH) : cl (d + 1) i_Form_contains_ [a0, a1] A = endE (b_Form_contains_ (cl d) [some a0, some a1] A) := by kernel_rfl
theorem ck_Form_call__2 (cl : Calls) (a0 a1 : AV) (A : AH) : callK D cl 15 [a0, a1] A = cl i_Form_call_ [a0, a1, (.int 1)] A := rfl
theorem ck_Form_call__3 (cl : Calls) (a0 a1 a2 : AV) (A : AH) : callK D cl 15 [a0, a1, a2] A = cl i_Form_call_ [a0, a1, a2] A := rfl
theorem df_Form_call_ (d : Nat) (a0 a1 a2 : AV) (A : AH) : cl (d + 1) i_Form_call_ [a0, a1, a2] A = endE (b_Form_call_ (cl d) [some a0, some a1, some a2] A) := by kernel_rfl
theorem ck_Form_changed_1 (cl : Calls) (a0 : AV) (A : AH) : callK D cl 16 [a0] A = cl i_Form_changed [a0, .non, .non] A := rfl
theorem kk_Form_changed_0 (cl : Calls) (a0 k0 : AV) (A : AH) : callKw D cl 16 ["limit"] [a0] [k0] A = cl i_Form_changed [a0, .non, k0] A := by kernel_rfl
theorem kk_Form_changed_1 (cl : Calls) (a0 k0 : AV) (A : AH) : callKw D cl 16 ["rounding"] [a0] [k0] A = cl i_Form_changed [a0, k0, .non] A := by kernel_rfl
theorem df_Form_changed (d : Nat) (a0 a1 a2 : AV) (A : AH) : cl (d + 1) i_Form_changed [a0, a1, a2] A = endE (b_Form_changed (cl d) [some a0, some a1, some a2, none, none] A) := by kernel_rfl
theorem ck_word_of_3 (cl : Calls) (a0 a1 a2 : AV) (A : AH) : callK D cl 17 [a0, a1, a2] A = cl i_word_of [a0, a1, a2] A := rfl
theorem df_word_of (d : Nat) (a0 a1 a2 : AV) (A : AH) : cl (d + 1) i_word_of [a0, a1, a2] A = endE (b_word_of (cl d) [some a0, some a1, some a2, none] A) := by kernel_rfl
theorem ck_check_integer_1 (cl : Calls) (a0 : AV) (A : AH) : callK D cl 18 [a0] A = cl i_check_integer [a0] A := rfl
theorem df_check_integer (d : Nat) (a0 : AV) (A : AH) : cl (d + 1) i_check_integer [a0] A = endE (b_check_integer (cl d) [some a0] A) := by kernel_rfl
theorem ck_Sensor_init__5 (cl : Calls) (a0 a1 a2 a3 a4 : AV) (A : AH) : callK D cl 19 [a0, a1, a2, a3, a4] A = cl i_Sensor_init_ [a0, a1, a2, a3, a4] A := rfl
theorem df_Sensor_init_ (d : Nat) (a0 a1 a2 a3 a4 : AV) (A : AH) : cl (d + 1) i_Sensor_init_ [a0, a1, a2, a3, a4] A = endE (b_Sensor_init_ (cl d) [some a0, some a1, some a2, some a3, some a4] A) := by kernel_rfl
theorem ck_Sensor_level_1 (cl : Calls) (a0 : AV) (A : AH) : callK D cl 20 [a0] A = cl i_Sensor_level [a0] A := rfl
theorem df_Sensor_level (d : Nat) (a0 : AV) (A : AH) : cl (d + 1) i_Sensor_level [a0] A = endE (b_Sensor_level (cl d) [some a0] A) := by kernel_rfl
theorem ck_Sensor_size_1 (cl : Calls) (a0 : AV) (A : AH) : callK D cl 21 [a0] A = cl i_Sensor_size [a0] A := rfl
theorem df_Sensor_size (d : Nat) (a0 : AV) (A : AH) : cl (d + 1) i_Sensor_size [a0] A = endE (b_Sensor_size (cl d) [some a0] A) := by kernel_rfl
theorem ck_Sensor_low_1 (cl : Calls) (a0 : AV) (A : AH) : callK D cl 22 [a0] A = cl i_Sensor_low [a0] A := rfl
theorem df_Sensor_low (d : Nat) (a0 : AV) (A : AH) : cl (d + 1) i_Sensor_low [a0] A = endE (b_Sensor_low (cl d) [some a0] A) := by kernel_rfl
theorem ck_Sensor_high_1 (cl : Calls) (a0 : AV) (A : AH) : callK D cl 23 [a0] A = cl i_Sensor_high [a0] A := rfl
theorem df_Sensor_high (d : Nat) (a0 : AV) (A : AH) : cl (d + 1) i_Sensor_high [a0] A = endE (b_Sensor_high (cl d) [some a0] A) := by kernel_rfl
theorem ck_Sensor_eq__2 (cl : Calls) (a0 a1 : AV) (A : AH) : callK D cl 24 [a0, a1] A = cl i_Sensor_eq_ [a0, a1] A := rfl
theorem df_Sensor_eq_ (d : Nat) (a0 a1 : AV) (A : AH) : cl (d + 1) i_Sensor_eq_ [a0, a1] A = endE (b_Sensor_eq_ (cl d) [some a0, some a1] A) := by kernel_rfl
theorem ck_Sensor_all_parts_1 (cl : Calls) (a0 : AV) (A : AH) : callK D cl 25 [a0] A = cl i_Sensor_all_parts [a0] A := rfl
theorem df_Sensor_all_parts (d : Nat) (a0 : AV) (A : AH) : cl (d + 1) i_Sensor_all_parts [a0] A = endE (b_Sensor_all_parts (cl d) [some a0] A) := by kernel_rfl
theorem ck_Sensor_call__2 (cl : Calls) (a0 a1 : AV) (A : AH) : callK D cl 26 [a0, a1] A = cl i_Sensor_call_ [a0, a1] A := rfl
theorem df_Sensor_call_ (d : Nat) (a0 a1 : AV) (A : AH) : cl (d + 1) i_Sensor_call_ [a0, a1] A = endE (b_Sensor_call_ (cl d) [some a0, some a1] A) := by kernel_rfl
theorem ck_reading_of_2 (cl : Calls) (a0 a1 : AV) (A : AH) : callK D cl 27 [a0, a1] A = cl i_reading_of [a0, a1] A := rfl
theorem df_reading_of (d : Nat) (a0 a1 : AV) (A : AH) : cl (d + 1) i_reading_of [a0, a1] A = endE (b_reading_of (cl d) [some a0, some a1] A) := by kernel_rfl
theorem ck_Drive_init__4 (cl : Calls) (a0 a1 a2 a3 : AV) (A : AH) : callK D cl 28 [a0, a1, a2, a3] A = cl i_Drive_init_ [a0, a1, a2, a3, (.int 0)] A := rfl
theorem kk_Drive_init__0 (cl : Calls) (a0 a1 a2 a3 k0 : AV) (A : AH) : callKw D cl 28 ["start"] [a0, a1, a2, a3] [k0] A = cl i_Drive_init_ [a0, a1, a2, a3, k0] A := by kernel_rfl
theorem df_Drive_init_ (d : Nat) (a0 a1 a2 a3 a4 : AV) (A : AH) : cl (d + 1) i_Drive_init_ [a0, a1, a2, a3, a4] A = endE (b_Drive_init_ (cl d) [some a0, some a1, some a2, some a3, some a4] A) := by kernel_rfl
theorem ck_Drive_low_1 (cl : Calls) (a0 : AV) (A : AH) : callK D cl 29 [a0] A = cl i_Drive_low [a0] A := rfl
theorem df_Drive_low (d : Nat) (a0 : AV) (A : AH) : cl (d + 1) i_Drive_low [a0] A = endE (b_Drive_low (cl d) [some a0] A) := by kernel_rfl
theorem ck_Drive_high_1 (cl : Calls) (a0 : AV) (A : AH) : callK D cl 30 [a0] A = cl i_Drive_high [a0] A := rfl
theorem df_Drive_high (d : Nat) (a0 : AV) (A : AH) : cl (d + 1) i_Drive_high [a0] A = endE (b_Drive_high (cl d) [some a0] A) := by kernel_rfl
theorem ck_Drive_change_1 (cl : Calls) (a0 : AV) (A : AH) : callK D cl 31 [a0] A = cl i_Drive_change [a0] A := rfl
theorem df_Drive_change (d : Nat) (a0 : AV) (A : AH) : cl (d + 1) i_Drive_change [a0] A = endE (b_Drive_change (cl d) [some a0] A) := by kernel_rfl
theorem ck_Drive_start_1 (cl : Calls) (a0 : AV) (A : AH) : callK D cl 32 [a0] A = cl i_Drive_start [a0] A := rfl
theorem df_Drive_start (d : Nat) (a0 : AV) (A : AH) : cl (d + 1) i_Drive_start [a0] A = endE (b_Drive_start (cl d) [some a0] A) := by kernel_rfl
theorem ck_Drive_eq__2 (cl : Calls) (a0 a1 : AV) (A : AH) : callK D cl 33 [a0, a1] A = cl i_Drive_eq_ [a0, a1] A := rfl
theorem df_Drive_eq_ (d : Nat) (a0 a1 : AV) (A : AH) : cl (d + 1) i_Drive_eq_ [a0, a1] A = endE (b_Drive_eq_ (cl d) [some a0, some a1] A) := by kernel_rfl
theorem ck_Drive_all_parts_1 (cl : Calls) (a0 : AV) (A : AH) : callK D cl 34 [a0] A = cl i_Drive_all_parts [a0] A := rfl
theorem df_Drive_all_parts (d : Nat) (a0 : AV) (A : AH) : cl (d + 1) i_Drive_all_parts [a0] A = endE (b_Drive_all_parts (cl d) [some a0] A) := by kernel_rfl
theorem ck_Drive_len__1 (cl : Calls) (a0 : AV) (A : AH) : callK D cl 35 [a0] A = cl i_Drive_len_ [a0] A := rfl
theorem df_Drive_len_ (d : Nat) (a0 : AV) (A : AH) : cl (d + 1) i_Drive_len_ [a0] A = endE (b_Drive_len_ (cl d) [some a0] A) := by kernel_rfl
theorem ck_Drive_contains__2 (cl : Calls) (a0 a1 : AV) (A : AH) : callK D cl 36 [a0, a1] A = cl i_Drive_contains_ [a0, a1] A := rfl
theorem df_Drive_contains_ (d : Nat) (a0 a1 : AV) (A : AH) : cl (d + 1) i_Drive_contains_ [a0, a1] A = endE (b_Drive_contains_ (cl d) [some a0, some a1] A) := by kernel_rfl
theorem ck_Drive_call__3 (cl : Calls) (a0 a1 a2 : AV) (A : AH) : callK D cl 37 [a0, a1, a2] A = cl i_Drive_call_ [a0, a1, a2] A := rfl
theorem df_Drive_call_ (d : Nat) (a0 a1 a2 : AV) (A : AH) : cl (d + 1) i_Drive_call_ [a0, a1, a2] A = endE (b_Drive_call_ (cl d) [some a0, some a1, some a2] A) := by kernel_rfl
theorem ck_position_of_4 (cl : Calls) (a0 a1 a2 a3 : AV) (A : AH) : callK D cl 38 [a0, a1, a2, a3] A = cl i_position_of [a0, a1, a2, a3] A := rfl
theorem df_position_of (d : Nat) (a0 a1 a2 a3 : AV) (A : AH) : cl (d + 1) i_position_of [a0, a1, a2, a3] A = endE (b_position_of (cl d) [some a0, some a1, some a2, some a3, none] A) := by kernel_rfl
theorem ck_divisor_2 (cl : Calls) (a0 a1 : AV) (A : AH) : callK D cl 39 [a0, a1] A = cl i_divisor [a0, a1] A := rfl
theorem df_divisor (d : Nat) (a0 a1 : AV) (A : AH) : cl (d + 1) i_divisor [a0, a1] A = endE (b_divisor (cl d) [some a0, some a1] A) := by kernel_rfl
theorem ck_reduced_2 (cl : Calls) (a0 a1 : AV) (A : AH) : callK D cl 40 [a0, a1] A = cl i_reduced [a0, a1] A := rfl
theorem df_reduced (d : Nat) (a0 a1 : AV) (A : AH) : cl (d + 1) i_reduced [a0, a1] A = endE (b_reduced (cl d) [some a0, some a1, none] A) := by kernel_rfl
theorem ck_is_factor_1 (cl : Calls) (a0 : AV) (A : AH) : callK D cl 41 [a0] A = cl i_is_factor [a0] A := rfl
theorem df_is_factor (d : Nat) (a0 : AV) (A : AH) : cl (d + 1) i_is_factor [a0] A = endE (b_is_factor (cl d) [some a0] A) := by kernel_rfl
theorem ck_are_terms_1 (cl : Calls) (a0 : AV) (A : AH) : callK D cl 42 [a0] A = cl i_are_terms [a0] A := rfl
theorem df_are_terms (d : Nat) (a0 : AV) (A : AH) : cl (d + 1) i_are_terms [a0] A = endE (b_are_terms (cl d) [some a0, none, none] A) := by kernel_rfl
theorem ck_Sum_init__3 (cl : Calls) (a0 a1 a2 : AV) (A : AH) : callK D cl 43 [a0, a1, a2] A = cl i_Sum_init_ [a0, a1, a2] A := rfl
theorem df_Sum_init_ (d : Nat) (a0 a1 a2 : AV) (A : AH) : cl (d + 1) i_Sum_init_ [a0, a1, a2] A = endE (b_Sum_init_ (cl d) [some a0, some a1, some a2, none, none, none, none, none] A) := by kernel_rfl
theorem ck_Sum_constant_1 (cl : Calls) (a0 : AV) (A : AH) : callK D cl 44 [a0] A = cl i_Sum_constant [a0] A := rfl
theorem df_Sum_constant (d : Nat) (a0 : AV) (A : AH) : cl (d + 1) i_Sum_constant [a0] A = endE (b_Sum_constant (cl d) [some a0] A) := by kernel_rfl
theorem ck_Sum_terms_1 (cl : Calls) (a0 : AV) (A : AH) : callK D cl 45 [a0] A = cl i_Sum_terms [a0] A := rfl
theorem df_Sum_terms (d : Nat) (a0 : AV) (A : AH) : cl (d + 1) i_Sum_terms [a0] A = endE (b_Sum_terms (cl d) [some a0, none, none] A) := by kernel_rfl
theorem ck_Sum_eq__2 (cl : Calls) (a0 a1 : AV) (A : AH) : callK D cl 46 [a0, a1] A = cl i_Sum_eq_ [a0, a1] A := rfl
theorem df_Sum_eq_ (d : Nat) (a0 a1 : AV) (A : AH) : cl (d + 1) i_Sum_eq_ [a0, a1] A = endE (b_Sum_eq_ (cl d) [some a0, some a1] A) := by kernel_rfl
theorem ck_Sum_len__1 (cl : Calls) (a0 : AV) (A : AH) : callK D cl 47 [a0] A = cl i_Sum_len_ [a0] A := rfl
theorem df_Sum_len_ (d : Nat) (a0 : AV) (A : AH) : cl (d + 1) i_Sum_len_ [a0] A = endE (b_Sum_len_ (cl d) [some a0] A) := by kernel_rfl
theorem ck_Sum_contains__2 (cl : Calls) (a0 a1 : AV) (A : AH) : callK D cl 48 [a0, a1] A = cl i_Sum_contains_ [a0, a1] A := rfl
theorem df_Sum_contains_ (d : Nat) (a0 a1 : AV) (A : AH) : cl (d + 1) i_Sum_contains_ [a0, a1] A = endE (b_Sum_contains_ (cl d) [some a0, some a1] A) := by kernel_rfl
theorem ck_Sum_getitem__2 (cl : Calls) (a0 a1 : AV) (A : AH) : callK D cl 49 [a0, a1] A = cl i_Sum_getitem_ [a0, a1] A := rfl
theorem df_Sum_getitem_ (d : Nat) (a0 a1 : AV) (A : AH) : cl (d + 1) i_Sum_getitem_ [a0, a1] A = endE (b_Sum_getitem_ (cl d) [some a0, some a1] A) := by kernel_rfl
theorem ck_Sum_iter__1 (cl : Calls) (a0 : AV) (A : AH) : callK D cl 50 [a0] A = cl i_Sum_iter_ [a0] A := rfl
theorem df_Sum_iter_ (d : Nat) (a0 : AV) (A : AH) : cl (d + 1) i_Sum_iter_ [a0] A = endE (b_Sum_iter_ (cl d) [some a0] A) := by kernel_rfl
theorem ck_Sum_add__2 (cl : Calls) (a0 a1 : AV) (A : AH) : callK D cl 51 [a0, a1] A = cl i_Sum_add_ [a0, a1] A := rfl
theorem df_Sum_add_ (d : Nat) (a0 a1 : AV) (A : AH) : cl (d + 1) i_Sum_add_ [a0, a1] A = endE (b_Sum_add_ (cl d) [some a0, some a1] A) := by kernel_rfl
theorem ck_Sum_sub__2 (cl : Calls) (a0 a1 : AV) (A : AH) : callK D cl 52 [a0, a1] A = cl i_Sum_sub_ [a0, a1] A := rfl
theorem df_Sum_sub_ (d : Nat) (a0 a1 : AV) (A : AH) : cl (d + 1) i_Sum_sub_ [a0, a1] A = endE (b_Sum_sub_ (cl d) [some a0, some a1] A) := by kernel_rfl
theorem ck_Sum_neg__1 (cl : Calls) (a0 : AV) (A : AH) : callK D cl 53 [a0] A = cl i_Sum_neg_ [a0] A := rfl
theorem df_Sum_neg_ (d : Nat) (a0 : AV) (A : AH) : cl (d + 1) i_Sum_neg_ [a0] A = endE (b_Sum_neg_ (cl d) [some a0, none, none] A) := by kernel_rfl
theorem ck_Sum_call__2 (cl : Calls) (a0 a1 : AV) (A : AH) : callK D cl 54 [a0, a1] A = cl i_Sum_call_ [a0, a1] A := rfl
theorem df_Sum_call_ (d : Nat) (a0 a1 : AV) (A : AH) : cl (d + 1) i_Sum_call_ [a0, a1] A = endE (b_Sum_call_ (cl d) [some a0, some a1, none, none, none] A) := by kernel_rfl
theorem ck_plus_2 (cl : Calls) (a0 a1 : AV) (A : AH) : callK D cl 55 [a0, a1] A = cl i_plus [a0, a1] A := rfl
theorem df_plus (d : Nat) (a0 a1 : AV) (A : AH) : cl (d + 1) i_plus [a0, a1] A = endE (b_plus (cl d) [some a0, some a1] A) := by kernel_rfl
theorem ck_added_3 (cl : Calls) (a0 a1 a2 : AV) (A : AH) : callK D cl 56 [a0, a1, a2] A = cl i_added [a0, a1, a2] A := rfl
theorem df_added (d : Nat) (a0 a1 a2 : AV) (A : AH) : cl (d + 1) i_added [a0, a1, a2] A = endE (b_added (cl d) [some a0, some a1, some a2, none, none, none] A) := by kernel_rfl
theorem ck_shared_bottom_1 (cl : Calls) (a0 : AV) (A : AH) : callK D cl 57 [a0] A = cl i_shared_bottom [a0] A := rfl
theorem df_shared_bottom (d : Nat) (a0 : AV) (A : AH) : cl (d + 1) i_shared_bottom [a0] A = endE (b_shared_bottom (cl d) [some a0, none, none] A) := by kernel_rfl
theorem ck_total_2 (cl : Calls) (a0 a1 : AV) (A : AH) : callK D cl 58 [a0, a1] A = cl i_total [a0, a1] A := rfl
theorem df_total (d : Nat) (a0 a1 : AV) (A : AH) : cl (d + 1) i_total [a0, a1] A = endE (b_total (cl d) [some a0, some a1, none, none, none] A) := by kernel_rfl
theorem ck_law_number_2 (cl : Calls) (a0 a1 : AV) (A : AH) : callK D cl 59 [a0, a1] A = cl i_law_number [a0, a1] A := rfl
theorem df_law_number (d : Nat) (a0 a1 : AV) (A : AH) : cl (d + 1) i_law_number [a0, a1] A = endE (b_law_number (cl d) [some a0, some a1, none, none, none, none, none] A) := by kernel_rfl
theorem ck_law_word_3 (cl : Calls) (a0 a1 a2 : AV) (A : AH) : callK D cl 60 [a0, a1, a2] A = cl i_law_word [a0, a1, a2] A := rfl
theorem df_law_word (d : Nat) (a0 a1 a2 : AV) (A : AH) : cl (d + 1) i_law_word [a0, a1, a2] A = endE (b_law_word (cl d) [some a0, some a1, some a2, none, none, none, none, none] A) := by kernel_rfl
theorem ck_law_value_2 (cl : Calls) (a0 a1 : AV) (A : AH) : callK D cl 61 [a0, a1] A = cl i_law_value [a0, a1] A := rfl
theorem df_law_value (d : Nat) (a0 a1 : AV) (A : AH) : cl (d + 1) i_law_value [a0, a1] A = endE (b_law_value (cl d) [some a0, some a1, none, none, none, none, none] A) := by kernel_rfl
theorem ck_law_gcd_2 (cl : Calls) (a0 a1 : AV) (A : AH) : callK D cl 62 [a0, a1] A = cl i_law_gcd [a0, a1] A := rfl
theorem df_law_gcd (d : Nat) (a0 a1 : AV) (A : AH) : cl (d + 1) i_law_gcd [a0, a1] A = endE (b_law_gcd (cl d) [some a0, some a1] A) := by kernel_rfl
theorem ck_law_lowest_2 (cl : Calls) (a0 a1 : AV) (A : AH) : callK D cl 63 [a0, a1] A = cl i_law_lowest [a0, a1] A := rfl
theorem df_law_lowest (d : Nat) (a0 a1 : AV) (A : AH) : cl (d + 1) i_law_lowest [a0, a1] A = endE (b_law_lowest (cl d) [some a0, some a1, none] A) := by kernel_rfl
theorem ck_law_forms_right_1 (cl : Calls) (a0 : AV) (A : AH) : callK D cl 64 [a0] A = cl i_law_forms_right [a0] A := rfl
theorem df_law_forms_right (d : Nat) (a0 : AV) (A : AH) : cl (d + 1) i_law_forms_right [a0] A = endE (b_law_forms_right (cl d) [some a0, none, none, none, none, none, none, none, none, none, none, none] A) := by kernel_rfl
theorem ck_law_parts_1 (cl : Calls) (a0 : AV) (A : AH) : callK D cl 65 [a0] A = cl i_law_parts [a0] A := rfl
theorem df_law_parts (d : Nat) (a0 : AV) (A : AH) : cl (d + 1) i_law_parts [a0] A = endE (b_law_parts (cl d) [some a0, none, none, none, none, none, none, none, none, none] A) := by kernel_rfl
theorem ck_law_made_1 (cl : Calls) (a0 : AV) (A : AH) : callK D cl 66 [a0] A = cl i_law_made [a0] A := rfl
theorem df_law_made (d : Nat) (a0 : AV) (A : AH) : cl (d + 1) i_law_made [a0] A = endE (b_law_made (cl d) [some a0, none, none, none] A) := by kernel_rfl
theorem ck_law_sum_right_2 (cl : Calls) (a0 a1 : AV) (A : AH) : callK D cl 67 [a0, a1] A = cl i_law_sum_right [a0, a1] A := rfl
theorem df_law_sum_right (d : Nat) (a0 a1 : AV) (A : AH) : cl (d + 1) i_law_sum_right [a0, a1] A = endE (b_law_sum_right (cl d) [some a0, some a1, none, none, none, none, none, none, none, none, none, none, none, none] A) := by kernel_rfl
theorem ck_law_devices_right_1 (cl : Calls) (a0 : AV) (A : AH) : callK D cl 68 [a0] A = cl i_law_devices_right [a0] A := rfl
theorem df_law_devices_right (d : Nat) (a0 : AV) (A : AH) : cl (d + 1) i_law_devices_right [a0] A = endE (b_law_devices_right (cl d) [some a0, none, none, none, none, none, none, none, none, none, none, none, none, none] A) := by kernel_rfl
theorem ck_law_all_right_1 (cl : Calls) (a0 : AV) (A : AH) : callK D cl 69 [a0] A = cl i_law_all_right [a0] A := rfl
theorem df_law_all_right (d : Nat) (a0 : AV) (A : AH) : cl (d + 1) i_law_all_right [a0] A = endE (b_law_all_right (cl d) [some a0, none] A) := by kernel_rfl
theorem ck_law_1 (cl : Calls) (a0 : AV) (A : AH) : callK D cl 70 [a0] A = cl i_law [a0] A := rfl
theorem df_law (d : Nat) (a0 : AV) (A : AH) : cl (d + 1) i_law [a0] A = endE (b_law (cl d) [some a0] A) := by kernel_rfl
theorem at_Form_3 : attrOf D 0 3 = some (.meth 11) := rfl
theorem at_Form_16 : attrOf D 0 16 = some (.meth 12) := rfl
theorem at_Form_2 : attrOf D 0 2 = some (.meth 13) := rfl
theorem at_Form_1 : attrOf D 0 1 = some (.meth 14) := rfl
theorem at_Form_7 : attrOf D 0 7 = some (.meth 15) := rfl
theorem at_Form_17 : attrOf D 0 17 = some (.meth 16) := rfl
theorem at_Form_18 : attrOf D 0 18 = some (.prop 6) := rfl
theorem at_Form_19 : attrOf D 0 19 = some (.prop 7) := rfl
theorem at_Form_20 : attrOf D 0 20 = some (.prop 8) := rfl
theorem at_Form_21 : attrOf D 0 21 = some (.prop 9) := rfl
theorem at_Form_22 : attrOf D 0 22 = some (.prop 10) := rfl
theorem at_Form_12 : attrOf D 0 12 = some (.fld) := rfl
theorem at_Form_13 : attrOf D 0 13 = some (.fld) := rfl
theorem at_Form_14 : attrOf D 0 14 = some (.fld) := rfl
theorem at_Form_0 : attrOf D 0 0 = none := rfl
theorem at_Form_4 : attrOf D 0 4 = none := rfl
theorem at_Form_5 : attrOf D 0 5 = none := rfl
theorem at_Form_6 : attrOf D 0 6 = none := rfl
theorem at_Form_8 : attrOf D 0 8 = none := rfl
theorem at_Form_9 : attrOf D 0 9 = none := rfl
theorem at_Form_10 : attrOf D 0 10 = none := rfl
theorem at_Form_11 : attrOf D 0 11 = none := rfl
theorem mk_Form (cl : Calls) (vs : List AV) (A : AH) : pMake D cl 0 vs A = back (callK D cl 5 (.ref A.n :: vs) (A.push (.ins 0 []))) (.ref A.n) := z_mk rfl rfl
theorem mkk_Form (cl : Calls) (ks : List Str) (vs zs : List AV) (A : AH) : pMakeKw D cl 0 ks vs zs A = back (callKw D cl 5 ks (.ref A.n :: vs) zs (A.push (.ins 0 []))) (.ref A.n) := z_mkKw rfl rfl
theorem at_Sensor_3 : attrOf D 1 3 = some (.meth 24) := rfl
theorem at_Sensor_16 : attrOf D 1 16 = some (.meth 25) := rfl
theorem at_Sensor_7 : attrOf D 1 7 = some (.meth 26) := rfl
theorem at_Sensor_27 : attrOf D 1 27 = some (.prop 20) := rfl
theorem at_Sensor_28 : attrOf D 1 28 = some (.prop 21) := rfl
theorem at_Sensor_21 : attrOf D 1 21 = some (.prop 22) := rfl
theorem at_Sensor_22 : attrOf D 1 22 = some (.prop 23) := rfl
theorem at_Sensor_23 : attrOf D 1 23 = some (.fld) := rfl
theorem at_Sensor_24 : attrOf D 1 24 = some (.fld) := rfl
theorem at_Sensor_25 : attrOf D 1 25 = some (.fld) := rfl
theorem at_Sensor_26 : attrOf D 1 26 = some (.fld) := rfl
theorem at_Sensor_0 : attrOf D 1 0 = none := rfl
theorem at_Sensor_1 : attrOf D 1 1 = none := rfl
theorem at_Sensor_2 : attrOf D 1 2 = none := rfl
theorem at_Sensor_4 : attrOf D 1 4 = none := rfl
theorem at_Sensor_5 : attrOf D 1 5 = none := rfl
theorem at_Sensor_6 : attrOf D 1 6 = none := rfl
theorem at_Sensor_8 : attrOf D 1 8 = none := rfl
theorem at_Sensor_9 : attrOf D 1 9 = none := rfl
theorem at_Sensor_10 : attrOf D 1 10 = none := rfl
theorem at_Sensor_11 : attrOf D 1 11 = none := rfl
theorem mk_Sensor (cl : Calls) (vs : List AV) (A : AH) : pMake D cl 1 vs A = back (callK D cl 19 (.ref A.n :: vs) (A.push (.ins 1 []))) (.ref A.n) := z_mk rfl rfl
theorem mkk_Sensor (cl : Calls) (ks : List Str) (vs zs : List AV) (A : AH) : pMakeKw D cl 1 ks vs zs A = back (callKw D cl 19 ks (.ref A.n :: vs) zs (A.push (.ins 1 []))) (.ref A.n) := z_mkKw rfl rfl
theorem at_Drive_3 : attrOf D 2 3 = some (.meth 33) := rfl
theorem at_Drive_16 : attrOf D 2 16 = some (.meth 34) := rfl
theorem at_Drive_2 : attrOf D 2 2 = some (.meth 35) := rfl
theorem at_Drive_1 : attrOf D 2 1 = some (.meth 36) := rfl
theorem at_Drive_7 : attrOf D 2 7 = some (.meth 37) := rfl
theorem at_Drive_21 : attrOf D 2 21 = some (.prop 29) := rfl
theorem at_Drive_22 : attrOf D 2 22 = some (.prop 30) := rfl
theorem at_Drive_31 : attrOf D 2 31 = some (.prop 31) := rfl
theorem at_Drive_32 : attrOf D 2 32 = some (.prop 32) := rfl
theorem at_Drive_25 : attrOf D 2 25 = some (.fld) := rfl
theorem at_Drive_26 : attrOf D 2 26 = some (.fld) := rfl
theorem at_Drive_29 : attrOf D 2 29 = some (.fld) := rfl
theorem at_Drive_30 : attrOf D 2 30 = some (.fld) := rfl
theorem at_Drive_0 : attrOf D 2 0 = none := rfl
theorem at_Drive_4 : attrOf D 2 4 = none := rfl
theorem at_Drive_5 : attrOf D 2 5 = none := rfl
theorem at_Drive_6 : attrOf D 2 6 = none := rfl
theorem at_Drive_8 : attrOf D 2 8 = none := rfl
theorem at_Drive_9 : attrOf D 2 9 = none := rfl
theorem at_Drive_10 : attrOf D 2 10 = none := rfl
theorem at_Drive_11 : attrOf D 2 11 = none := rfl
theorem mk_Drive (cl : Calls) (vs : List AV) (A : AH) : pMake D cl 2 vs A = back (callK D cl 28 (.ref A.n :: vs) (A.push (.ins 2 []))) (.ref A.n) := z_mk rfl rfl
theorem mkk_Drive (cl : Calls) (ks : List Str) (vs zs : List AV) (A : AH) : pMakeKw D cl 2 ks vs zs A = back (callKw D cl 28 ks (.ref A.n :: vs) zs (A.push (.ins 2 []))) (.ref A.n) := z_mkKw rfl rfl
theorem at_Sum_3 : attrOf D 3 3 = some (.meth 46) := rfl
theorem at_Sum_2 : attrOf D 3 2 = some (.meth 47) := rfl
theorem at_Sum_1 : attrOf D 3 1 = some (.meth 48) := rfl
theorem at_Sum_0 : attrOf D 3 0 = some (.meth 49) := rfl
theorem at_Sum_11 : attrOf D 3 11 = some (.meth 50) := rfl
theorem at_Sum_4 : attrOf D 3 4 = some (.meth 51) := rfl
theorem at_Sum_5 : attrOf D 3 5 = some (.meth 52) := rfl
theorem at_Sum_6 : attrOf D 3 6 = some (.meth 53) := rfl
theorem at_Sum_7 : attrOf D 3 7 = some (.meth 54) := rfl
theorem at_Sum_37 : attrOf D 3 37 = some (.prop 44) := rfl
theorem at_Sum_38 : attrOf D 3 38 = some (.prop 45) := rfl
theorem at_Sum_33 : attrOf D 3 33 = some (.fld) := rfl
theorem at_Sum_34 : attrOf D 3 34 = some (.fld) := rfl
theorem at_Sum_35 : attrOf D 3 35 = some (.fld) := rfl
theorem at_Sum_36 : attrOf D 3 36 = some (.fld) := rfl
theorem at_Sum_8 : attrOf D 3 8 = none := rfl
theorem at_Sum_9 : attrOf D 3 9 = none := rfl
theorem at_Sum_10 : attrOf D 3 10 = none := rfl
theorem mk_Sum (cl : Calls) (vs : List AV) (A : AH) : pMake D cl 3 vs A = back (callK D cl 43 (.ref A.n :: vs) (A.push (.ins 3 []))) (.ref A.n) := z_mk rfl rfl
theorem mkk_Sum (cl : Calls) (ks : List Str) (vs zs : List AV) (A : AH) : pMakeKw D cl 3 ks vs zs A = back (callKw D cl 43 ks (.ref A.n :: vs) zs (A.push (.ins 3 []))) (.ref A.n) := z_mkKw rfl rfl
theorem is_1n  (A : AH) : pIsi D 1 .non A = .ok (.bl false) A := rfl
theorem is_1b (b : Bool) (A : AH) : pIsi D 1 (.bl b) A = .ok (.bl true) A := rfl
theorem is_1i (b : Int) (A : AH) : pIsi D 1 (.int b) A = .ok (.bl false) A := rfl
theorem is_1s (b : Str) (A : AH) : pIsi D 1 (.str b) A = .ok (.bl false) A := rfl
theorem is_1t  (A : AH) : pIsi D 1 .tn A = .ok (.bl false) A := rfl
theorem is_1c (b c : AV) (A : AH) : pIsi D 1 (.tc b c) A = .ok (.bl false) A := rfl
theorem is_1z (b : AV) (A : AH) : pIsi D 1 (.fz b) A = .ok (.bl false) A := rfl
theorem is_1f (b : AV) (A : AH) : pIsi D 1 (.ft b) A = .ok (.bl false) A := rfl
theorem is_1_4 (A : AH) : isiR D 1 (some 4) A = .ok (.bl false) A := rfl
theorem is_1_6 (A : AH) : isiR D 1 (some 6) A = .ok (.bl false) A := rfl
theorem is_1_7 (A : AH) : isiR D 1 (some 7) A = .ok (.bl false) A := rfl
theorem is_1_8 (A : AH) : isiR D 1 (some 8) A = .ok (.bl false) A := rfl
theorem is_1_9 (A : AH) : isiR D 1 (some 9) A = .ok (.bl false) A := rfl
theorem is_1_10 (A : AH) : isiR D 1 (some 10) A = .ok (.bl false) A := rfl
theorem is_2n  (A : AH) : pIsi D 2 .non A = .ok (.bl false) A := rfl
theorem is_2b (b : Bool) (A : AH) : pIsi D 2 (.bl b) A = .ok (.bl true) A := rfl
theorem is_2i (b : Int) (A : AH) : pIsi D 2 (.int b) A = .ok (.bl true) A := rfl
theorem is_2s (b : Str) (A : AH) : pIsi D 2 (.str b) A = .ok (.bl false) A := rfl
theorem is_2t  (A : AH) : pIsi D 2 .tn A = .ok (.bl false) A := rfl
theorem is_2c (b c : AV) (A : AH) : pIsi D 2 (.tc b c) A = .ok (.bl false) A := rfl
theorem is_2z (b : AV) (A : AH) : pIsi D 2 (.fz b) A = .ok (.bl false) A := rfl
theorem is_2f (b : AV) (A : AH) : pIsi D 2 (.ft b) A = .ok (.bl false) A := rfl
theorem is_2_4 (A : AH) : isiR D 2 (some 4) A = .ok (.bl false) A := rfl
theorem is_2_6 (A : AH) : isiR D 2 (some 6) A = .ok (.bl false) A := rfl
theorem is_2_7 (A : AH) : isiR D 2 (some 7) A = .ok (.bl false) A := rfl
theorem is_2_8 (A : AH) : isiR D 2 (some 8) A = .ok (.bl false) A := rfl
theorem is_2_9 (A : AH) : isiR D 2 (some 9) A = .ok (.bl false) A := rfl
theorem is_2_10 (A : AH) : isiR D 2 (some 10) A = .ok (.bl false) A := rfl
theorem is_3n  (A : AH) : pIsi D 3 .non A = .ok (.bl false) A := rfl
theorem is_3b (b : Bool) (A : AH) : pIsi D 3 (.bl b) A = .ok (.bl false) A := rfl
theorem is_3i (b : Int) (A : AH) : pIsi D 3 (.int b) A = .ok (.bl false) A := rfl
theorem is_3s (b : Str) (A : AH) : pIsi D 3 (.str b) A = .ok (.bl true) A := rfl
theorem is_3t  (A : AH) : pIsi D 3 .tn A = .ok (.bl false) A := rfl
theorem is_3c (b c : AV) (A : AH) : pIsi D 3 (.tc b c) A = .ok (.bl false) A := rfl
theorem is_3z (b : AV) (A : AH) : pIsi D 3 (.fz b) A = .ok (.bl false) A := rfl
theorem is_3f (b : AV) (A : AH) : pIsi D 3 (.ft b) A = .ok (.bl false) A := rfl
theorem is_3_4 (A : AH) : isiR D 3 (some 4) A = .ok (.bl false) A := rfl
theorem is_3_6 (A : AH) : isiR D 3 (some 6) A = .ok (.bl false) A := rfl
theorem is_3_7 (A : AH) : isiR D 3 (some 7) A = .ok (.bl false) A := rfl
theorem is_3_8 (A : AH) : isiR D 3 (some 8) A = .ok (.bl false) A := rfl
theorem is_3_9 (A : AH) : isiR D 3 (some 9) A = .ok (.bl false) A := rfl
theorem is_3_10 (A : AH) : isiR D 3 (some 10) A = .ok (.bl false) A := rfl
theorem is_5n  (A : AH) : pIsi D 5 .non A = .ok (.bl false) A := rfl
theorem is_5b (b : Bool) (A : AH) : pIsi D 5 (.bl b) A = .ok (.bl false) A := rfl
theorem is_5i (b : Int) (A : AH) : pIsi D 5 (.int b) A = .ok (.bl false) A := rfl
theorem is_5s (b : Str) (A : AH) : pIsi D 5 (.str b) A = .ok (.bl false) A := rfl
theorem is_5t  (A : AH) : pIsi D 5 .tn A = .ok (.bl true) A := rfl
theorem is_5c (b c : AV) (A : AH) : pIsi D 5 (.tc b c) A = .ok (.bl true) A := rfl
theorem is_5z (b : AV) (A : AH) : pIsi D 5 (.fz b) A = .ok (.bl false) A := rfl
theorem is_5f (b : AV) (A : AH) : pIsi D 5 (.ft b) A = .ok (.bl true) A := rfl
theorem is_5_4 (A : AH) : isiR D 5 (some 4) A = .ok (.bl false) A := rfl
theorem is_5_6 (A : AH) : isiR D 5 (some 6) A = .ok (.bl false) A := rfl
theorem is_5_7 (A : AH) : isiR D 5 (some 7) A = .ok (.bl false) A := rfl
theorem is_5_8 (A : AH) : isiR D 5 (some 8) A = .ok (.bl false) A := rfl
theorem is_5_9 (A : AH) : isiR D 5 (some 9) A = .ok (.bl false) A := rfl
theorem is_5_10 (A : AH) : isiR D 5 (some 10) A = .ok (.bl false) A := rfl
theorem is_6n  (A : AH) : pIsi D 6 .non A = .ok (.bl false) A := rfl
theorem is_6b (b : Bool) (A : AH) : pIsi D 6 (.bl b) A = .ok (.bl false) A := rfl
theorem is_6i (b : Int) (A : AH) : pIsi D 6 (.int b) A = .ok (.bl false) A := rfl
theorem is_6s (b : Str) (A : AH) : pIsi D 6 (.str b) A = .ok (.bl false) A := rfl
theorem is_6t  (A : AH) : pIsi D 6 .tn A = .ok (.bl false) A := rfl
theorem is_6c (b c : AV) (A : AH) : pIsi D 6 (.tc b c) A = .ok (.bl false) A := rfl
theorem is_6z (b : AV) (A : AH) : pIsi D 6 (.fz b) A = .ok (.bl false) A := rfl
theorem is_6f (b : AV) (A : AH) : pIsi D 6 (.ft b) A = .ok (.bl false) A := rfl
theorem is_6_4 (A : AH) : isiR D 6 (some 4) A = .ok (.bl false) A := rfl
theorem is_6_6 (A : AH) : isiR D 6 (some 6) A = .ok (.bl true) A := rfl
theorem is_6_7 (A : AH) : isiR D 6 (some 7) A = .ok (.bl false) A := rfl
theorem is_6_8 (A : AH) : isiR D 6 (some 8) A = .ok (.bl false) A := rfl
theorem is_6_9 (A : AH) : isiR D 6 (some 9) A = .ok (.bl false) A := rfl
theorem is_6_10 (A : AH) : isiR D 6 (some 10) A = .ok (.bl false) A := rfl
theorem is_7n  (A : AH) : pIsi D 7 .non A = .ok (.bl false) A := rfl
theorem is_7b (b : Bool) (A : AH) : pIsi D 7 (.bl b) A = .ok (.bl false) A := rfl
theorem is_7i (b : Int) (A : AH) : pIsi D 7 (.int b) A = .ok (.bl false) A := rfl
theorem is_7s (b : Str) (A : AH) : pIsi D 7 (.str b) A = .ok (.bl false) A := rfl
theorem is_7t  (A : AH) : pIsi D 7 .tn A = .ok (.bl false) A := rfl
theorem is_7c (b c : AV) (A : AH) : pIsi D 7 (.tc b c) A = .ok (.bl false) A := rfl
theorem is_7z (b : AV) (A : AH) : pIsi D 7 (.fz b) A = .ok (.bl false) A := rfl
theorem is_7f (b : AV) (A : AH) : pIsi D 7 (.ft b) A = .ok (.bl false) A := rfl
theorem is_7_4 (A : AH) : isiR D 7 (some 4) A = .ok (.bl false) A := rfl
theorem is_7_6 (A : AH) : isiR D 7 (some 6) A = .ok (.bl false) A := rfl
theorem is_7_7 (A : AH) : isiR D 7 (some 7) A = .ok (.bl true) A := rfl
theorem is_7_8 (A : AH) : isiR D 7 (some 8) A = .ok (.bl false) A := rfl
theorem is_7_9 (A : AH) : isiR D 7 (some 9) A = .ok (.bl false) A := rfl
theorem is_7_10 (A : AH) : isiR D 7 (some 10) A = .ok (.bl false) A := rfl
theorem is_8n  (A : AH) : pIsi D 8 .non A = .ok (.bl false) A := rfl
theorem is_8b (b : Bool) (A : AH) : pIsi D 8 (.bl b) A = .ok (.bl false) A := rfl
theorem is_8i (b : Int) (A : AH) : pIsi D 8 (.int b) A = .ok (.bl false) A := rfl
theorem is_8s (b : Str) (A : AH) : pIsi D 8 (.str b) A = .ok (.bl false) A := rfl
theorem is_8t  (A : AH) : pIsi D 8 .tn A = .ok (.bl false) A := rfl
theorem is_8c (b c : AV) (A : AH) : pIsi D 8 (.tc b c) A = .ok (.bl false) A := rfl
theorem is_8z (b : AV) (A : AH) : pIsi D 8 (.fz b) A = .ok (.bl false) A := rfl
theorem is_8f (b : AV) (A : AH) : pIsi D 8 (.ft b) A = .ok (.bl false) A := rfl
theorem is_8_4 (A : AH) : isiR D 8 (some 4) A = .ok (.bl false) A := rfl
theorem is_8_6 (A : AH) : isiR D 8 (some 6) A = .ok (.bl false) A := rfl
theorem is_8_7 (A : AH) : isiR D 8 (some 7) A = .ok (.bl false) A := rfl
theorem is_8_8 (A : AH) : isiR D 8 (some 8) A = .ok (.bl true) A := rfl
theorem is_8_9 (A : AH) : isiR D 8 (some 9) A = .ok (.bl false) A := rfl
theorem is_8_10 (A : AH) : isiR D 8 (some 10) A = .ok (.bl false) A := rfl
theorem is_9n  (A : AH) : pIsi D 9 .non A = .ok (.bl false) A := rfl
theorem is_9b (b : Bool) (A : AH) : pIsi D 9 (.bl b) A = .ok (.bl false) A := rfl
theorem is_9i (b : Int) (A : AH) : pIsi D 9 (.int b) A = .ok (.bl false) A := rfl
theorem is_9s (b : Str) (A : AH) : pIsi D 9 (.str b) A = .ok (.bl false) A := rfl
theorem is_9t  (A : AH) : pIsi D 9 .tn A = .ok (.bl false) A := rfl
theorem is_9c (b c : AV) (A : AH) : pIsi D 9 (.tc b c) A = .ok (.bl false) A := rfl
theorem is_9z (b : AV) (A : AH) : pIsi D 9 (.fz b) A = .ok (.bl false) A := rfl
theorem is_9f (b : AV) (A : AH) : pIsi D 9 (.ft b) A = .ok (.bl false) A := rfl
theorem is_9_4 (A : AH) : isiR D 9 (some 4) A = .ok (.bl false) A := rfl
theorem is_9_6 (A : AH) : isiR D 9 (some 6) A = .ok (.bl false) A := rfl
theorem is_9_7 (A : AH) : isiR D 9 (some 7) A = .ok (.bl false) A := rfl
theorem is_9_8 (A : AH) : isiR D 9 (some 8) A = .ok (.bl false) A := rfl
theorem is_9_9 (A : AH) : isiR D 9 (some 9) A = .ok (.bl true) A := rfl
theorem is_9_10 (A : AH) : isiR D 9 (some 10) A = .ok (.bl false) A := rfl
theorem is_10n  (A : AH) : pIsi D 10 .non A = .ok (.bl false) A := rfl
theorem is_10b (b : Bool) (A : AH) : pIsi D 10 (.bl b) A = .ok (.bl false) A := rfl
theorem is_10i (b : Int) (A : AH) : pIsi D 10 (.int b) A = .ok (.bl false) A := rfl
theorem is_10s (b : Str) (A : AH) : pIsi D 10 (.str b) A = .ok (.bl false) A := rfl
theorem is_10t  (A : AH) : pIsi D 10 .tn A = .ok (.bl false) A := rfl
theorem is_10c (b c : AV) (A : AH) : pIsi D 10 (.tc b c) A = .ok (.bl false) A := rfl
theorem is_10z (b : AV) (A : AH) : pIsi D 10 (.fz b) A = .ok (.bl false) A := rfl
theorem is_10f (b : AV) (A : AH) : pIsi D 10 (.ft b) A = .ok (.bl false) A := rfl
theorem is_10_4 (A : AH) : isiR D 10 (some 4) A = .ok (.bl false) A := rfl
theorem is_10_6 (A : AH) : isiR D 10 (some 6) A = .ok (.bl false) A := rfl
theorem is_10_7 (A : AH) : isiR D 10 (some 7) A = .ok (.bl false) A := rfl
theorem is_10_8 (A : AH) : isiR D 10 (some 8) A = .ok (.bl false) A := rfl
theorem is_10_9 (A : AH) : isiR D 10 (some 9) A = .ok (.bl false) A := rfl
theorem is_10_10 (A : AH) : isiR D 10 (some 10) A = .ok (.bl true) A := rfl
theorem nf_0_0 : nfOk D 0 0 = true := by kernel_rfl
theorem nf_0_1 : nfOk D 0 1 = true := by kernel_rfl
theorem nf_0_2 : nfOk D 0 2 = true := by kernel_rfl
theorem nf_0_3 : nfOk D 0 3 = true := by kernel_rfl
theorem nf_0_4 : nfOk D 0 4 = true := by kernel_rfl
theorem nf_0_5 : nfOk D 0 5 = true := by kernel_rfl
theorem nf_0_6 : nfOk D 0 6 = true := by kernel_rfl
theorem nf_0_7 : nfOk D 0 7 = true := by kernel_rfl
theorem nf_0_8 : nfOk D 0 8 = true := by kernel_rfl
theorem nf_0_9 : nfOk D 0 9 = true := by kernel_rfl
theorem nf_0_10 : nfOk D 0 10 = true := by kernel_rfl
theorem nf_1_0 : nfOk D 1 0 = true := by kernel_rfl
theorem nf_1_1 : nfOk D 1 1 = true := by kernel_rfl
theorem nf_1_2 : nfOk D 1 2 = true := by kernel_rfl
theorem nf_1_3 : nfOk D 1 3 = true := by kernel_rfl
theorem nf_1_4 : nfOk D 1 4 = true := by kernel_rfl
theorem nf_1_5 : nfOk D 1 5 = true := by kernel_rfl
theorem nf_1_6 : nfOk D 1 6 = true := by kernel_rfl
theorem nf_1_7 : nfOk D 1 7 = true := by kernel_rfl
theorem nf_1_8 : nfOk D 1 8 = true := by kernel_rfl
theorem nf_1_9 : nfOk D 1 9 = true := by kernel_rfl
theorem nf_1_10 : nfOk D 1 10 = true := by kernel_rfl
theorem nf_2_0 : nfOk D 2 0 = true := by kernel_rfl
theorem nf_2_1 : nfOk D 2 1 = true := by kernel_rfl
theorem nf_2_2 : nfOk D 2 2 = true := by kernel_rfl
theorem nf_2_3 : nfOk D 2 3 = true := by kernel_rfl
theorem nf_2_4 : nfOk D 2 4 = true := by kernel_rfl
theorem nf_2_5 : nfOk D 2 5 = true := by kernel_rfl
theorem nf_2_6 : nfOk D 2 6 = true := by kernel_rfl
theorem nf_2_7 : nfOk D 2 7 = true := by kernel_rfl
theorem nf_2_8 : nfOk D 2 8 = true := by kernel_rfl
theorem nf_2_9 : nfOk D 2 9 = true := by kernel_rfl
theorem nf_2_10 : nfOk D 2 10 = true := by kernel_rfl
theorem nf_3_0 : nfOk D 3 0 = true := by kernel_rfl
theorem nf_3_1 : nfOk D 3 1 = true := by kernel_rfl
theorem nf_3_2 : nfOk D 3 2 = true := by kernel_rfl
theorem nf_3_3 : nfOk D 3 3 = true := by kernel_rfl
theorem nf_3_4 : nfOk D 3 4 = true := by kernel_rfl
theorem nf_3_5 : nfOk D 3 5 = true := by kernel_rfl
theorem nf_3_6 : nfOk D 3 6 = true := by kernel_rfl
theorem nf_3_7 : nfOk D 3 7 = true := by kernel_rfl
theorem nf_3_8 : nfOk D 3 8 = true := by kernel_rfl
theorem nf_3_9 : nfOk D 3 9 = true := by kernel_rfl
theorem nf_3_10 : nfOk D 3 10 = true := by kernel_rfl
theorem w_down_up : (Str.ofString "down" = Str.ofString "up") = False := eq_false (by decide +kernel)
theorem w_down_near : (Str.ofString "down" = Str.ofString "near") = False := eq_false (by decide +kernel)
theorem w_down_zero : (Str.ofString "down" = Str.ofString "zero") = False := eq_false (by decide +kernel)
theorem w_down_clip : (Str.ofString "down" = Str.ofString "clip") = False := eq_false (by decide +kernel)
theorem w_down_wrap : (Str.ofString "down" = Str.ofString "wrap") = False := eq_false (by decide +kernel)
theorem w_up_down : (Str.ofString "up" = Str.ofString "down") = False := eq_false (by decide +kernel)
theorem w_up_near : (Str.ofString "up" = Str.ofString "near") = False := eq_false (by decide +kernel)
theorem w_up_zero : (Str.ofString "up" = Str.ofString "zero") = False := eq_false (by decide +kernel)
theorem w_up_clip : (Str.ofString "up" = Str.ofString "clip") = False := eq_false (by decide +kernel)
theorem w_up_wrap : (Str.ofString "up" = Str.ofString "wrap") = False := eq_false (by decide +kernel)
theorem w_near_down : (Str.ofString "near" = Str.ofString "down") = False := eq_false (by decide +kernel)
theorem w_near_up : (Str.ofString "near" = Str.ofString "up") = False := eq_false (by decide +kernel)
theorem w_near_zero : (Str.ofString "near" = Str.ofString "zero") = False := eq_false (by decide +kernel)
theorem w_near_clip : (Str.ofString "near" = Str.ofString "clip") = False := eq_false (by decide +kernel)
theorem w_near_wrap : (Str.ofString "near" = Str.ofString "wrap") = False := eq_false (by decide +kernel)
theorem w_zero_down : (Str.ofString "zero" = Str.ofString "down") = False := eq_false (by decide +kernel)
theorem w_zero_up : (Str.ofString "zero" = Str.ofString "up") = False := eq_false (by decide +kernel)
theorem w_zero_near : (Str.ofString "zero" = Str.ofString "near") = False := eq_false (by decide +kernel)
theorem w_zero_clip : (Str.ofString "zero" = Str.ofString "clip") = False := eq_false (by decide +kernel)
theorem w_zero_wrap : (Str.ofString "zero" = Str.ofString "wrap") = False := eq_false (by decide +kernel)
theorem w_clip_down : (Str.ofString "clip" = Str.ofString "down") = False := eq_false (by decide +kernel)
theorem w_clip_up : (Str.ofString "clip" = Str.ofString "up") = False := eq_false (by decide +kernel)
theorem w_clip_near : (Str.ofString "clip" = Str.ofString "near") = False := eq_false (by decide +kernel)
theorem w_clip_zero : (Str.ofString "clip" = Str.ofString "zero") = False := eq_false (by decide +kernel)
theorem w_clip_wrap : (Str.ofString "clip" = Str.ofString "wrap") = False := eq_false (by decide +kernel)
theorem w_wrap_down : (Str.ofString "wrap" = Str.ofString "down") = False := eq_false (by decide +kernel)
theorem w_wrap_up : (Str.ofString "wrap" = Str.ofString "up") = False := eq_false (by decide +kernel)
theorem w_wrap_near : (Str.ofString "wrap" = Str.ofString "near") = False := eq_false (by decide +kernel)
theorem w_wrap_zero : (Str.ofString "wrap" = Str.ofString "zero") = False := eq_false (by decide +kernel)
theorem w_wrap_clip : (Str.ofString "wrap" = Str.ofString "clip") = False := eq_false (by decide +kernel)
theorem fits_2 : fits 2 = true := rfl
theorem fits_3 : fits 3 = true := rfl
theorem fits_13 : fits 13 = true := rfl
theorem fits_31 : fits 31 = true := rfl
theorem fits_977 : fits 977 = true := rfl
theorem fits_48271 : fits 48271 = true := rfl
theorem fits_65537 : fits 65537 = true := rfl
end K05
end
section
namespace K05
open PySem PySem.Spec PyProof.Rows L2 Z ZV
local macro_rules | `(tactic| walk_at "zs") => `(tactic| simp only [ZV.z_bin, ZV.z_bin1, ZV.z_bin2, ZV.z_un, ZV.z_un1, ZV.z_c, ZV.z_and, ZV.z_and1, ZV.z_and0, ZV.z_or, ZV.z_or1, ZV.z_or0, ZV.z_not, ZV.z_not1, ZV.z_ife, ZV.z_ife1, ZV.z_ife0, ZV.z_lnil, ZV.z_lcons, ZV.z_lcons1, ZV.z_lcons2, ZV.z_lstar, ZV.z_lstar1, ZV.z_lstar2, ZV.z_lstar3, ZV.z_tup, ZV.z_tup1, ZV.z_lst, ZV.z_lst1, ZV.z_callf, ZV.z_callf1, ZV.z_kw, ZV.z_kw1, ZV.z_kw2, ZV.z_meth, ZV.z_meth1, ZV.z_meth2, ZV.z_meth3, ZV.z_methk, ZV.z_methk1, ZV.z_methk2, ZV.z_methk3, ZV.z_bm, ZV.z_bm1, ZV.z_bm2, ZV.z_bm3, ZV.z_callo, ZV.z_callo1, ZV.z_callo2, ZV.z_slice, ZV.z_slice1, ZV.z_slice2, ZV.z_slice3, ZV.z_slice4, ZV.z_slice5, ZV.z_slice6, ZV.z_slice7, ZV.z_chain, ZV.z_chain1, ZV.z_chain2, ZV.z_chain31, ZV.z_chain30, ZV.z_seq, ZV.z_seqn, ZV.z_seqr, ZV.z_seqb, ZV.z_seqc, ZV.z_skip, ZV.z_break, ZV.z_cont, ZV.z_expr, ZV.z_expr1, ZV.z_ret, ZV.z_ret1, ZV.z_if, ZV.z_if1, ZV.z_if0, ZV.z_asg, ZV.z_asg1, ZV.z_nx, ZV.z_gvar, ZV.z_gmix, ZV.z_gmix1, ZV.z_app0, ZV.z_app, ZV.z_app1, ZV.z_gfld, ZV.z_gfld1, ZV.z_gput, ZV.z_gput1, ZV.z_gput2, ZV.z_fld, ZV.z_fld1, ZV.z_fld2, ZV.z_stored, ZV.z_set, ZV.z_set1, ZV.z_set2, ZV.z_set3, ZV.z_par, ZV.z_par1, ZV.z_par0, ZV.z_parn, ZV.z_aug, ZV.z_aug1, ZV.z_aug2, ZV.z_match, ZV.z_match1, ZV.z_mnil, ZV.z_many, ZV.z_arm, ZV.z_arm1, ZV.z_arm0, ZV.z_pv, ZV.z_pv1, ZV.z_try, ZV.z_tryr, ZV.z_tryn, ZV.z_run, ZV.z_endr, ZV.z_endn, ZV.z_start, ZV.z_attr, ZV.z_attr1, ZV.z_attrf, ZV.z_attrf1, ZV.z_attrc, ZV.z_attrc1, ZV.z_attrp, ZV.z_attrp1, ZV.z_mof, ZV.z_mof1, ZV.z_mof2, ZV.z_mof3, ZV.z_mat, ZV.z_mat1, ZV.z_mat2, ZV.z_mat2n, ZV.z_matl, ZV.z_matd, ZV.z_sto, ZV.z_sto1, ZV.z_sto2, ZV.z_sto3, ZV.z_nl, ZV.z_nl0, ZV.z_pn, ZV.z_pn0, ZV.z_seqref, ZV.z_seqref1, ZV.z_seqrefd, ZV.z_seqrefi, ZV.z_seqtn, ZV.z_seq1, ZV.z_seq2, ZV.z_seq3, ZV.z_seq4, ZV.z_seq5, ZV.z_seqint, ZV.z_seqstr, ZV.z_clsat, ZV.z_clsat1, ZV.z_tag, ZV.z_tagl, ZV.z_tagd, ZV.z_tagi, ZV.z_isi, ZV.z_isl, ZV.z_isl1, ZV.z_isd, ZV.z_isd1, ZV.z_pget, ZV.z_pget1, ZV.z_pget2, ZV.z_mkdct, ZV.z_dct0, ZV.z_mkt0, ZV.z_mkt1, ZV.z_mkt2, ZV.z_mkt3, ZV.z_mkt4, ZV.z_mkt5, ZV.z_mkl0, ZV.z_mkl1, ZV.z_mkl2, ZV.z_mkl3, ZV.z_mkl4, ZV.z_mkl5, ZV.z_back, ZV.z_vr, ZV.z_vr1, ZV.z_add, ZV.z_sub, ZV.z_neg, ZV.z_lti, ZV.z_lei, ZV.z_gti, ZV.z_gei, ZV.z_eqi, ZV.z_nei, ZV.z_isn, ZV.z_isnn, ZV.z_max2, ZV.z_min2, ZV.z_abs, ZV.z_lenref, ZV.z_lenl, ZV.z_lend, ZV.z_leni, ZV.z_leni1, ZV.z_len_tup, ZV.z_len_tn, ZV.z_len_t1, ZV.z_len_t2, ZV.z_len_t3, ZV.z_len_t4, ZV.z_bnd, ZV.z_ino, ZV.z_ino1, ZV.z_callr, ZV.z_callr1, ZV.z_eqo, ZV.z_datref, ZV.z_datins, ZV.z_datdct, ZV.z_eqss, ZV.z_ness, ZV.z_eqsi, ZV.z_eqis, ZV.z_blt0, ZV.z_blt1, ZV.z_blt2, ZV.z_blt3, ZV.z_blt4, ZV.z_blt5, ZV.z_blt6, ZV.z_blt7, ZV.z_blt8, ZV.z_blt9, ZV.z_blt10, ZV.z_blt11, ZV.z_ix20, ZV.z_ix21, ZV.z_ix30, ZV.z_ix31, ZV.z_ix32, ZV.z_ix40, ZV.z_ix41, ZV.z_ix42, ZV.z_ix43, ZV.z_ixb, ZV.z_disp, ZV.z_pairs, ZV.z_pairs0, List.getElem?_cons_zero, List.getElem?_cons_succ, List.set_cons_zero, List.set_cons_succ, List.map_cons, List.map_nil, List.cons_append, List.nil_append, List.append_nil, List.replicate_succ, List.replicate_zero, List.length_cons, List.length_nil, Bool.not_true, Bool.not_false, Bool.not_not, decide_true, decide_false, ite_true, ite_false, reduceIte, AV.tup, ZV.get_at, ZV.get_new, Z.isNon, neB, Z.wipeA, Nat.reduceAdd, Nat.reduceSub, Nat.reduceLT, Nat.reduceBEq, Nat.reduceEqDiff, ck_is_integer_3, ck_is_name_1, ck_is_word_2, ck_rounded_3, ck_clipped_3, ck_Form_init__2, kk_Form_init__0, kk_Form_init__1, ck_Form_bits_1, ck_Form_rounding_1, ck_Form_limit_1, ck_Form_low_1, ck_Form_high_1, ck_Form_eq__2, ck_Form_all_parts_1, ck_Form_len__1, ck_Form_contains__2, ck_Form_call__2, ck_Form_call__3, ck_Form_changed_1, kk_Form_changed_0, kk_Form_changed_1, ck_word_of_3, ck_check_integer_1, ck_Sensor_init__5, ck_Sensor_level_1, ck_Sensor_size_1, ck_Sensor_low_1, ck_Sensor_high_1, ck_Sensor_eq__2, ck_Sensor_all_parts_1, ck_Sensor_call__2, ck_reading_of_2, ck_Drive_init__4, kk_Drive_init__0, ck_Drive_low_1, ck_Drive_high_1, ck_Drive_change_1, ck_Drive_start_1, ck_Drive_eq__2, ck_Drive_all_parts_1, ck_Drive_len__1, ck_Drive_contains__2, ck_Drive_call__3, ck_position_of_4, ck_divisor_2, ck_reduced_2, ck_is_factor_1, ck_are_terms_1, ck_Sum_init__3, ck_Sum_constant_1, ck_Sum_terms_1, ck_Sum_eq__2, ck_Sum_len__1, ck_Sum_contains__2, ck_Sum_getitem__2, ck_Sum_iter__1, ck_Sum_add__2, ck_Sum_sub__2, ck_Sum_neg__1, ck_Sum_call__2, ck_plus_2, ck_added_3, ck_shared_bottom_1, ck_total_2, ck_law_number_2, ck_law_word_3, ck_law_value_2, ck_law_gcd_2, ck_law_lowest_2, ck_law_forms_right_1, ck_law_parts_1, ck_law_made_1, ck_law_sum_right_2, ck_law_devices_right_1, ck_law_all_right_1, ck_law_1, at_Form_3, at_Form_16, at_Form_2, at_Form_1, at_Form_7, at_Form_17, at_Form_18, at_Form_19, at_Form_20, at_Form_21, at_Form_22, at_Form_12, at_Form_13, at_Form_14, at_Form_0, at_Form_4, at_Form_5, at_Form_6, at_Form_8, at_Form_9, at_Form_10, at_Form_11, at_Sensor_3, at_Sensor_16, at_Sensor_7, at_Sensor_27, at_Sensor_28, at_Sensor_21, at_Sensor_22, at_Sensor_23, at_Sensor_24, at_Sensor_25, at_Sensor_26, at_Sensor_0, at_Sensor_1, at_Sensor_2, at_Sensor_4, at_Sensor_5, at_Sensor_6, at_Sensor_8, at_Sensor_9, at_Sensor_10, at_Sensor_11, at_Drive_3, at_Drive_16, at_Drive_2, at_Drive_1, at_Drive_7, at_Drive_21, at_Drive_22, at_Drive_31, at_Drive_32, at_Drive_25, at_Drive_26, at_Drive_29, at_Drive_30, at_Drive_0, at_Drive_4, at_Drive_5, at_Drive_6, at_Drive_8, at_Drive_9, at_Drive_10, at_Drive_11, at_Sum_3, at_Sum_2, at_Sum_1, at_Sum_0, at_Sum_11, at_Sum_4, at_Sum_5, at_Sum_6, at_Sum_7, at_Sum_37, at_Sum_38, at_Sum_33, at_Sum_34, at_Sum_35, at_Sum_36, at_Sum_8, at_Sum_9, at_Sum_10, mk_Form, mkk_Form, mk_Sensor, mkk_Sensor, mk_Drive, mkk_Drive, mk_Sum, mkk_Sum, is_1n, is_1b, is_1i, is_1s, is_1t, is_1c, is_1z, is_1f, is_1_4, is_1_6, is_1_7, is_1_8, is_1_9, is_1_10, is_2n, is_2b, is_2i, is_2s, is_2t, is_2c, is_2z, is_2f, is_2_4, is_2_6, is_2_7, is_2_8, is_2_9, is_2_10, is_3n, is_3b, is_3i, is_3s, is_3t, is_3c, is_3z, is_3f, is_3_4, is_3_6, is_3_7, is_3_8, is_3_9, is_3_10, is_5n, is_5b, is_5i, is_5s, is_5t, is_5c, is_5z, is_5f, is_5_4, is_5_6, is_5_7, is_5_8, is_5_9, is_5_10, is_6n, is_6b, is_6i, is_6s, is_6t, is_6c, is_6z, is_6f, is_6_4, is_6_6, is_6_7, is_6_8, is_6_9, is_6_10, is_7n, is_7b, is_7i, is_7s, is_7t, is_7c, is_7z, is_7f, is_7_4, is_7_6, is_7_7, is_7_8, is_7_9, is_7_10, is_8n, is_8b, is_8i, is_8s, is_8t, is_8c, is_8z, is_8f, is_8_4, is_8_6, is_8_7, is_8_8, is_8_9, is_8_10, is_9n, is_9b, is_9i, is_9s, is_9t, is_9c, is_9z, is_9f, is_9_4, is_9_6, is_9_7, is_9_8, is_9_9, is_9_10, is_10n, is_10b, is_10i, is_10s, is_10t, is_10c, is_10z, is_10f, is_10_4, is_10_6, is_10_7, is_10_8, is_10_9, is_10_10, nf_0_0, nf_0_1, nf_0_2, nf_0_3, nf_0_4, nf_0_5, nf_0_6, nf_0_7, nf_0_8, nf_0_9, nf_0_10, nf_1_0, nf_1_1, nf_1_2, nf_1_3, nf_1_4, nf_1_5, nf_1_6, nf_1_7, nf_1_8, nf_1_9, nf_1_10, nf_2_0, nf_2_1, nf_2_2, nf_2_3, nf_2_4, nf_2_5, nf_2_6, nf_2_7, nf_2_8, nf_2_9, nf_2_10, nf_3_0, nf_3_1, nf_3_2, nf_3_3, nf_3_4, nf_3_5, nf_3_6, nf_3_7, nf_3_8, nf_3_9, nf_3_10, w_down_up, w_down_near, w_down_zero, w_down_clip, w_down_wrap, w_up_down, w_up_near, w_up_zero, w_up_clip, w_up_wrap, w_near_down, w_near_up, w_near_zero, w_near_clip, w_near_wrap, w_zero_down, w_zero_up, w_zero_near, w_zero_clip, w_zero_wrap, w_clip_down, w_clip_up, w_clip_near, w_clip_zero, w_clip_wrap, w_wrap_down, w_wrap_up, w_wrap_near, w_wrap_zero, w_wrap_clip, fits_2, fits_3, fits_13, fits_31, fits_977, fits_48271, fits_65537, Bool.true_or, Bool.or_true, b_Form_init__1, b_Form_init__2, b_Form_init__3, b_Form_init__4, b_Form_call__1, b_Form_call__2, b_Form_changed_1, b_Form_changed_2, b_word_of_1, b_word_of_2, b_Sensor_init__1, b_Sensor_init__2, b_Sensor_init__3, b_Sensor_init__4, b_Sensor_init__5, b_Sensor_call__1, b_Drive_init__1, b_Drive_init__2, b_Drive_init__3, b_Drive_init__4, b_Drive_init__5, b_Drive_call__1, b_Drive_call__2, b_position_of_1, b_divisor_1, b_divisor_2, b_reduced_1, b_is_factor_1, b_are_terms_1, b_Sum_init__1, b_Sum_init__2, b_Sum_init__3, b_Sum_init__4, b_Sum_init__5, b_Sum_getitem__1, b_Sum_call__1, b_Sum_call__2, b_Sum_call__3, b_Sum_call__4, b_added_1, b_added_2, b_added_3, b_added_4, b_added_5, b_added_6, b_shared_bottom_1, b_shared_bottom_2, b_shared_bottom_3, b_total_1, b_law_word_1, b_law_word_2, b_law_word_5, b_law_word_6, b_law_word_7, b_law_word_9, b_law_word_10, b_law_value_1, b_law_value_2, b_law_value_3, b_law_value_4, b_law_gcd_1, b_law_gcd_2, b_law_lowest_1, *])
/-! the small defs -/
theorem s_clipped (d : Nat) (v lo hi : Int) (A : AH) : cl (d + 1) i_clipped [.int v, .int lo, .int hi] A = .ok (.int (iMax lo (iMin hi v))) A := by
  rw [df_clipped]
  unfold b_clipped
  walk_at "zs"
theorem s_is_integer (d : Nat) (v lo hi : Int) (A : AH) : cl (d + 1) i_is_integer [.int v, .int lo, .int hi] A = .ok (.bl (decide (lo ≤ v ∧ v ≤ hi))) A := by
  rw [df_is_integer]
  unfold b_is_integer
  walk_at "zs"
  by_cases h : lo ≤ v
  · simp only [h, decide_true, true_and]
    walk_at "zs"
  · simp only [h, decide_false, false_and]
    walk_at "zs"
theorem s_rounded_down (d : Nat) (t b : Int) (A : AH) (h : okDiv t b = true) : cl (d + 1) i_rounded [.int t, .int b, .str "down"] A = .ok (.int (t.fdiv b)) A := by
  rw [df_rounded]
  unfold b_rounded
  walk_at "zs"
  rw [z_fdiv h]
  rfl
theorem s_rounded_up (d : Nat) (t b : Int) (A : AH) (h : okDiv (-t) b = true) : cl (d + 1) i_rounded [.int t, .int b, .str "up"] A = .ok (.int (-((-t).fdiv b))) A := by
  rw [df_rounded]
  unfold b_rounded
  walk_at "zs"
  rw [z_fdiv h]
  rfl
theorem s_rounded_near (d : Nat) (t b : Int) (A : AH) (h : okDiv (2 * t + b) (2 * b) = true) : cl (d + 1) i_rounded [.int t, .int b, .str "near"] A = .ok (.int ((2 * t + b).fdiv (2 * b))) A := by
  rw [df_rounded]
  unfold b_rounded
  walk_at "zs"
  rw [z_mul (by simp only [fits_2, Bool.true_or])]
  walk_at "zs"
  rw [z_mul (by simp only [fits_2, Bool.true_or])]
  walk_at "zs"
  rw [z_fdiv h]
  rfl
theorem s_rounded_zero (d : Nat) (t b : Int) (A : AH) (h : okDiv t b = true) (h' : okDiv (-t) b = true) : cl (d + 1) i_rounded [.int t, .int b, .str "zero"] A = .ok (.int (if 0 ≤ t then t.fdiv b else -((-t).fdiv b))) A := by
  rw [df_rounded]
  unfold b_rounded
  walk_at "zs"
  by_cases q : 0 ≤ t
  · simp only [q, decide_true]
    walk_at "zs"
    rw [z_fdiv h]
    rfl
  · simp only [q, decide_false]
    walk_at "zs"
    rw [z_fdiv h']
    rfl
/-! forms -/
abbrev RW4 : AV := .ft (.tc (.str "down") (.tc (.str "up") (.tc (.str "near") (.tc (.str "zero") .tn))))
abbrev LW2 : AV := .ft (.tc (.str "clip") (.tc (.str "wrap") .tn))
def isR (m : Str) : Prop := m = "down" ∨ m = "up" ∨ m = "near" ∨ m = "zero"
def isLm (l : Str) : Prop := l = "clip" ∨ l = "wrap"
theorem s_is_word_r (d : Nat) (m : Str) (h : isR m) (A : AH) : cl (d + 1) i_is_word [.str m, RW4] A = .ok (.bl true) A := by
  rw [df_is_word]
  unfold b_is_word
  walk_at "zs"
  rcases h with rfl | rfl | rfl | rfl <;> rfl
theorem s_is_word_l (d : Nat) (m : Str) (h : isLm m) (A : AH) : cl (d + 1) i_is_word [.str m, LW2] A = .ok (.bl true) A := by
  rw [df_is_word]
  unfold b_is_word
  walk_at "zs"
  rcases h with rfl | rfl <;> rfl
abbrev oForm (b : Int) (m l : Str) : AO := .ins 0 [(12, .int b), (13, .str m), (14, .str l)]
theorem blt1000 (n : Nat) (h : n < 1000) : Nat.blt n 1000 = true := Nat.ble_eq_true_of_le h
theorem s_Form_init (d i : Nat) (b : Int) (m l : Str) (A : AH) (h : A.get i = some (.ins 0 [])) (hb : 2 ≤ b ∧ b ≤ 8) (hm : isR m) (hl : isLm l) :
    ∃ A', cl (d + 2) i_Form_init_ [.ref i, .int b, .str m, .str l] A = .ok .non A' ∧ A'.get i = some (oForm b m l) ∧ (∀ j, j ≠ i → A'.get j = A.get j) ∧ A'.n = A.n := by
  rw [df_Form_init_]
  unfold b_Form_init_
  walk_at "zs"
  simp only [s_is_integer, hb, and_self, decide_true]
  walk_at "zs"
  rw [s_is_word_r d m hm]
  walk_at "zs"
  rw [s_is_word_l d l hl]
  walk_at "zs"
  refine ⟨_, rfl, get_at, fun j hj => ?_, rfl⟩
  rw [get_off hj, get_off hj, get_off hj]

theorem set_ext {A A1 A' : AH} {o : AO} (w : WF A) (e : Ext (A.push o) A1) (h : ∀ j, j ≠ A.n → A'.get j = A1.get j) (hn : A'.n = A1.n) {o' : AO} (hi : A'.get A.n = some o') : Ext A A' := by
  have hlt : A.n < A1.n := e.le
  refine ⟨by rw [hn]; exact Nat.le_trans (Nat.le_succ _) e.le, fun j u q => ?_, fun j hj => ?_⟩
  · rw [h j (Nat.ne_of_lt (w.lt q))]
    exact e.get j u (get_old w q)
  · rw [h j (by omega)]
    exact e.wf j (by omega)
theorem s_Form2 (d : Nat) (b : Int) (m l : Str) (A : AH) (w : WF A) (hb : 2 ≤ b ∧ b ≤ 8) (hm : isR m) (hl : isLm l) :
    ∃ A' i, back (cl (d + 2) i_Form_init_ [.ref A.n, .int b, .str m, .str l] (A.push (.ins 0 []))) (.ref A.n) = .ok (.ref i) A' ∧ Ext A A' ∧ A'.get i = some (oForm b m l) := by
  obtain ⟨A', h1, h2, h3, h4⟩ := s_Form_init d A.n b m l (A.push (.ins 0 [])) get_new hb hm hl
  refine ⟨A', A.n, by rw [h1]; rfl, ?_, h2⟩
  exact set_ext w (Ext.rfl' w.push) (fun j hj => h3 j hj) h4 h2
theorem okPow1 {k : Int} (h0 : 0 ≤ k) (h1 : k ≤ 1000000) : okPow 1 k = true := by
  unfold okPow
  rw [iLe_eq, iLe_eq, decide_eq_true h0, decide_eq_true h1]
  rfl
theorem okDivP {i j : Int} (h0 : 0 < j) (h1 : j < 1073741824) : okDiv i j = true := by
  unfold okDiv
  rw [iEq_eq, decide_eq_false (by omega)]
  exact Nat.ble_eq_true_of_le (by omega)
section
variable (d i : Nat) (b : Int) (m l : Str) (A : AH) (h : A.get i = some (oForm b m l))
include h
theorem s_Form_bits : cl (d + 1) i_Form_bits [.ref i] A = .ok (.int b) A := by
  rw [df_Form_bits]; unfold b_Form_bits; walk_at "zs"
theorem s_Form_rounding : cl (d + 1) i_Form_rounding [.ref i] A = .ok (.str m) A := by
  rw [df_Form_rounding]; unfold b_Form_rounding; walk_at "zs"
theorem s_Form_limit : cl (d + 1) i_Form_limit [.ref i] A = .ok (.str l) A := by
  rw [df_Form_limit]; unfold b_Form_limit; walk_at "zs"
theorem s_Form_low (hb : 2 ≤ b ∧ b ≤ 8) : cl (d + 1) i_Form_low [.ref i] A = .ok (.int (-(1 * 2 ^ (b - 1).toNat))) A := by
  rw [df_Form_low]; unfold b_Form_low; walk_at "zs"
  rw [z_shli (okPow1 (by omega) (by omega))]
  walk_at "zs"
theorem s_Form_high (hb : 2 ≤ b ∧ b ≤ 8) : cl (d + 1) i_Form_high [.ref i] A = .ok (.int (1 * 2 ^ (b - 1).toNat - 1)) A := by
  rw [df_Form_high]; unfold b_Form_high; walk_at "zs"
  rw [z_shli (okPow1 (by omega) (by omega))]
  walk_at "zs"
end

def rnd (m : Str) (t b : Int) : Int := if m = "down" then t.fdiv b else if m = "up" then -((-t).fdiv b) else if m = "near" then (2 * t + b).fdiv (2 * b) else if 0 ≤ t then t.fdiv b else -((-t).fdiv b)
theorem s_rounded (d : Nat) (m : Str) (hm : isR m) (t b : Int) (A : AH) (h0 : 0 < b) (h1 : b < 536870912) : cl (d + 1) i_rounded [.int t, .int b, .str m] A = .ok (.int (rnd m t b)) A := by
  unfold rnd
  rcases hm with rfl | rfl | rfl | rfl
  · rw [s_rounded_down _ _ _ _ (okDivP h0 (by omega)), if_pos rfl]
  · rw [s_rounded_up _ _ _ _ (okDivP h0 (by omega)), if_neg (by rw [w_up_down]; exact id), if_pos rfl]
  · rw [s_rounded_near _ _ _ _ (okDivP (by omega) (by omega)), if_neg (by rw [w_near_down]; exact id), if_neg (by rw [w_near_up]; exact id), if_pos rfl]
  · rw [s_rounded_zero _ _ _ _ (okDivP h0 (by omega)) (okDivP h0 (by omega))]
    simp only [w_zero_down, w_zero_up, w_zero_near, if_false]
def lowW (b : Int) : Int := -(1 * 2 ^ (b - 1).toNat)
def highW (b : Int) : Int := 1 * 2 ^ (b - 1).toNat - 1
def wordW (b : Int) (m l : Str) (t bt : Int) : Int := if l = "clip" then iMax (lowW b) (iMin (highW b) (rnd m t bt)) else (rnd m t bt - lowW b).fmod (1 * 2 ^ b.toNat) + lowW b
theorem pow_ne {n : Nat} : (1 : Int) * 2 ^ n ≠ 0 := by
  rw [Int.one_mul]
  exact Int.pow_ne_zero (by decide)
theorem s_word_of (d i : Nat) (b : Int) (m l : Str) (A : AH) (h : A.get i = some (oForm b m l)) (hb : 2 ≤ b ∧ b ≤ 8) (hm : isR m) (hl : isLm l) (t bt : Int) (h0 : 0 < bt) (h1 : bt < 536870912) :
    cl (d + 2) i_word_of [.ref i, .int t, .int bt] A = .ok (.int (wordW b m l t bt)) A := by
  rw [df_word_of]; unfold b_word_of; walk_at "zs"
  rw [s_rounded d m hm t bt A h0 h1]
  walk_at "zs"
  unfold wordW
  rcases hl with rfl | rfl
  · rw [if_pos rfl]
    walk_at "zs"
    rw [s_Form_low d i b m _ A h hb]
    walk_at "zs"
    rw [s_Form_high d i b m _ A h hb]
    walk_at "zs"
    rw [s_clipped]
    rfl
  · rw [if_neg (by rw [w_wrap_clip]; exact id)]
    walk_at "zs"
    rw [s_Form_low d i b m _ A h hb]
    walk_at "zs"
    rw [z_shli (okPow1 (by omega) (by omega))]
    walk_at "zs"
    rw [z_modi pow_ne]
    walk_at "zs"
    rw [s_Form_low d i b m _ A h hb]
    walk_at "zs"
    rfl
theorem s_Form_call (d i : Nat) (b : Int) (m l : Str) (A : AH) (h : A.get i = some (oForm b m l)) (hb : 2 ≤ b ∧ b ≤ 8) (hm : isR m) (hl : isLm l) (t bt : Int) (h0 : 0 < bt) (h1 : bt < 536870912) :
    cl (d + 3) i_Form_call_ [.ref i, .int t, .int bt] A = .ok (.int (wordW b m l t bt)) A := by
  rw [df_Form_call_]; unfold b_Form_call_; walk_at "zs"
  rw [decide_eq_false (by omega)]
  walk_at "zs"
  rw [s_word_of d i b m l A h hb hm hl t bt h0 h1]
  rfl
theorem plain3 (b : Int) (m l : Str) : ∀ x ∈ [AV.int b, AV.str m, AV.str l], plain 39 x = true := by
  intro x hx
  simp only [List.mem_cons, List.not_mem_nil, or_false] at hx
  rcases hx with rfl | rfl | rfl <;> rfl
theorem s_Form_all_parts (d i : Nat) (b : Int) (m l : Str) (A : AH) (h : A.get i = some (oForm b m l)) : cl (d + 1) i_Form_all_parts [.ref i] A = .ok (.ref A.n) (A.push (.lst [.int b, .str m, .str l])) := by
  rw [df_Form_all_parts]; unfold b_Form_all_parts; walk_at "zs"
theorem s_Form_eq (d i j : Nat) (b b' : Int) (m m' l l' : Str) (A : AH) (w : WF A) (h : A.get i = some (oForm b m l)) (h' : A.get j = some (oForm b' m' l')) :
    ∃ A', cl (d + 2) i_Form_eq_ [.ref i, .ref j] A = .ok (.bl (decide (b = b' ∧ m = m' ∧ l = l'))) A' ∧ Ext A A' := by
  rw [df_Form_eq_]; unfold b_Form_eq_; walk_at "zs"
  rw [s_Form_all_parts d i b m l A h]
  walk_at "zs"
  have h2 := get_old (o := .lst [.int b, .str m, .str l]) w h'
  walk_at "zs"
  rw [s_Form_all_parts d j b' m' l' _ h2]
  walk_at "zs"
  have w1 : WF (A.push (.lst [.int b, .str m, .str l])) := w.push
  rw [eq_lst (get_old w1 get_new) get_new (plain3 _ _ _) (plain3 _ _ _)]
  walk_at "zs"
  have e : decide ([AV.int b, AV.str m, AV.str l] = [AV.int b', AV.str m', AV.str l']) = decide (b = b' ∧ m = m' ∧ l = l') := by simp
  rw [e]
  exact ⟨_, rfl, (Ext.push w).trans (Ext.push w1)⟩

theorem s_Form_changed (d i : Nat) (b : Int) (m l m' l' : Str) (r q : AV) (A : AH) (w : WF A) (h : A.get i = some (oForm b m l)) (hb : 2 ≤ b ∧ b ≤ 8) (hm : isR m) (hl : isLm l) (hm' : isR m') (hl' : isLm l') (hr : r = .str m' ∨ r = .non ∧ m' = m) (hq : q = .str l' ∨ q = .non ∧ l' = l) :
    ∃ A' j, cl (d + 3) i_Form_changed [.ref i, r, q] A = .ok (.ref j) A' ∧ Ext A A' ∧ A'.get j = some (oForm b m' l') := by
  rw [df_Form_changed]; unfold b_Form_changed
  rcases hr with rfl | ⟨rfl, rfl⟩
  · rcases hq with rfl | ⟨rfl, rfl⟩
    · walk_at "zs"
      obtain ⟨A', j, h1, h2, h3⟩ := s_Form2 d b m' l' A w hb hm' hl'
      rw [h1]
      exact ⟨A', j, rfl, h2, h3⟩
    · walk_at "zs"
      obtain ⟨A', j, h1, h2, h3⟩ := s_Form2 d b m' l' A w hb hm' hl'
      rw [h1]
      exact ⟨A', j, rfl, h2, h3⟩
  · rcases hq with rfl | ⟨rfl, rfl⟩
    · walk_at "zs"
      obtain ⟨A', j, h1, h2, h3⟩ := s_Form2 d b m' l' A w hb hm' hl'
      rw [h1]
      exact ⟨A', j, rfl, h2, h3⟩
    · walk_at "zs"
      obtain ⟨A', j, h1, h2, h3⟩ := s_Form2 d b m' l' A w hb hm' hl'
      rw [h1]
      exact ⟨A', j, rfl, h2, h3⟩
theorem pow_facts {b : Int} (hb : 2 ≤ b ∧ b ≤ 8) : (1 : Int) * 2 ^ b.toNat = 2 * (1 * 2 ^ (b - 1).toNat) ∧ 2 ≤ (1 : Int) * 2 ^ (b - 1).toNat ∧ (1 : Int) * 2 ^ (b - 1).toNat ≤ 128 := by
  have : b = 2 ∨ b = 3 ∨ b = 4 ∨ b = 5 ∨ b = 6 ∨ b = 7 ∨ b = 8 := by omega
  rcases this with rfl | rfl | rfl | rfl | rfl | rfl | rfl <;> decide
theorem rgA_len : ∀ (n : Nat) (a : Int), (rgA a n).length = n
  | 0, a => rfl
  | n + 1, a => by show (rgA (a + 1) n).length + 1 = _; rw [rgA_len n]
theorem s_Form_len (d i : Nat) (b : Int) (m l : Str) (A : AH) (w : WF A) (h : A.get i = some (oForm b m l)) (hb : 2 ≤ b ∧ b ≤ 8) :
    ∃ A', cl (d + 1) i_Form_len_ [.ref i] A = .ok (.int (1 * 2 ^ b.toNat)) A' ∧ Ext A A' := by
  rw [df_Form_len_]; unfold b_Form_len_
  walk_at "zs"
  rw [z_shli (okPow1 (by omega) (by omega))]
  walk_at "zs"
  obtain ⟨p1, p2, p3⟩ := pow_facts hb
  have e : pRg1 (.int (1 * 2 ^ b.toNat)) A = .ok (.ref A.n) (A.push (.lst (rgA 0 ((1 : Int) * 2 ^ b.toNat - 0).toNat))) := by
    show pRgL (.int 0) (.int (1 * 2 ^ b.toNat)) A = _
    unfold pRgL small62
    simp only [iLe_eq, iLt_eq]
    rw [decide_eq_true (by omega), decide_eq_true (by omega), decide_eq_true (by omega), decide_eq_true (by omega), Nat.ble_eq_true_of_le (by omega)]
    simp only [Bool.and_self]
    rw [z_mklst (by rw [rgA_len]; omega)]
  rw [e]
  walk_at "zs"
  rw [rgA_len]
  have e2 : (((2 : Int) * (1 * 2 ^ (b - 1).toNat) - 0).toNat : Int) = 2 * (1 * 2 ^ (b - 1).toNat) := by omega
  rw [e2]
  exact ⟨_, rfl, Ext.push w⟩
theorem s_Form_contains (d i : Nat) (b v : Int) (m l : Str) (A : AH) (h : A.get i = some (oForm b m l)) (hb : 2 ≤ b ∧ b ≤ 8) :
    cl (d + 2) i_Form_contains_ [.ref i, .int v] A = .ok (.bl (decide (lowW b ≤ v ∧ v ≤ highW b))) A := by
  rw [df_Form_contains_]; unfold b_Form_contains_
  walk_at "zs"
  rw [s_Form_low d i b m l A h hb]
  walk_at "zs"
  rw [s_Form_high d i b m l A h hb]
  walk_at "zs"
  rw [s_is_integer]
  rfl
theorem s_Form_containsX (d i : Nat) (b : Int) (v : AV) (m l : Str) (A : AH) (h : A.get i = some (oForm b m l)) (hb : 2 ≤ b ∧ b ≤ 8) (hv : v = .non ∨ ∃ x, v = .str x) :
    cl (d + 2) i_Form_contains_ [.ref i, v] A = .ok (.bl false) A := by
  rw [df_Form_contains_]; unfold b_Form_contains_
  walk_at "zs"
  rw [s_Form_low d i b m l A h hb]
  walk_at "zs"
  rw [s_Form_high d i b m l A h hb]
  walk_at "zs"
  rw [df_is_integer]; unfold b_is_integer
  rcases hv with rfl | ⟨x, rfl⟩ <;> walk_at "zs"
/-! the law's word -/
theorem div_eq {a b q r : Int} (hb : 0 < b) (h : r + b * q = a) (h0 : 0 ≤ r) (h1 : r < b) : a.fdiv b = q ∧ a.fmod b = r := by
  rw [Int.fdiv_eq_ediv_of_nonneg _ (Int.le_of_lt hb), Int.fmod_eq_emod_of_nonneg _ (Int.le_of_lt hb)]
  exact (Int.ediv_emod_unique hb).mpr ⟨h, h0, h1⟩
theorem div_facts (a : Int) {b : Int} (hb : 0 < b) : a.fmod b + b * a.fdiv b = a ∧ 0 ≤ a.fmod b ∧ a.fmod b < b := by
  rw [Int.fdiv_eq_ediv_of_nonneg _ (Int.le_of_lt hb), Int.fmod_eq_emod_of_nonneg _ (Int.le_of_lt hb)]
  exact (Int.ediv_emod_unique hb).mp ⟨rfl, rfl⟩
/-- rounding, from the floor -/
def ups (m : Str) (t b : Int) : Bool := if m = "down" then false else if m = "up" then true else if m = "near" then decide (b ≤ 2 * (t - t.fdiv b * b)) else decide (t < 0)
theorem rnd_eq (m : Str) (hm : isR m) (t b : Int) (hb : 0 < b) : rnd m t b = if t.fmod b = 0 then t.fdiv b else if ups m t b then t.fdiv b + 1 else t.fdiv b := by
  obtain ⟨h1, h2, h3⟩ := div_facts t hb
  have neg : -((-t).fdiv b) = if t.fmod b = 0 then t.fdiv b else t.fdiv b + 1 := by
    by_cases q : t.fmod b = 0
    · rw [if_pos q]
      have := (div_eq (a := -t) (q := -(t.fdiv b)) (r := 0) hb (by rw [Int.mul_neg]; omega) (Int.le_refl _) hb).1
      omega
    · rw [if_neg q]
      have := (div_eq (a := -t) (q := -(t.fdiv b) - 1) (r := b - t.fmod b) hb (by rw [Int.mul_sub, Int.mul_neg]; omega) (by omega) (by omega)).1
      omega
  unfold rnd ups
  rcases hm with rfl | rfl | rfl | rfl
  · simp only [if_true]
    split <;> simp
  · simp only [w_up_down, if_false, if_true]
    rw [neg]
  · simp only [w_near_down, w_near_up, if_false, if_true]
    have e : t - t.fdiv b * b = t.fmod b := by rw [Int.mul_comm]; omega
    rw [e]
    by_cases q : t.fmod b = 0
    · rw [if_pos q]
      exact (div_eq (a := 2 * t + b) (q := t.fdiv b) (r := b) (by omega) (by rw [Int.mul_assoc]; omega) (by omega) (by omega)).1
    · rw [if_neg q]
      by_cases z : b ≤ 2 * t.fmod b
      · rw [if_pos (by simpa using z)]
        exact (div_eq (a := 2 * t + b) (q := t.fdiv b + 1) (r := 2 * t.fmod b - b) (by omega) (by rw [Int.mul_add, Int.mul_assoc]; omega) (by omega) (by omega)).1
      · rw [if_neg (by simpa using z)]
        exact (div_eq (a := 2 * t + b) (q := t.fdiv b) (r := 2 * t.fmod b + b) (by omega) (by rw [Int.mul_assoc]; omega) (by omega) (by omega)).1
  · simp only [w_zero_down, w_zero_up, w_zero_near, if_false]
    rw [neg]
    by_cases z : 0 ≤ t
    · rw [if_pos z]
      have : ¬ t < 0 := by omega
      simp [this]
    · rw [if_neg z]
      have : t < 0 := by omega
      simp [this]
theorem fitsP {i : Int} (h0 : -18446744073709551616 < i) (h1 : i < 18446744073709551616) : fits i = true := by
  unfold fits
  rw [iLt_eq, iLt_eq, decide_eq_true h0, decide_eq_true h1]
  rfl
theorem iMax_eq (i j : Int) : iMax i j = if i < j then j else i := by
  unfold iMax
  rw [iLt_eq]
  by_cases h : i < j <;> simp [h]
theorem iMin_eq (i j : Int) : iMin i j = if j < i then j else i := by
  unfold iMin
  rw [iLt_eq]
  by_cases h : j < i <;> simp [h]
abbrev fForm (b : Int) (m l : Str) : AV := .tc (.int b) (.tc (.str m) (.tc (.str l) .tn))
theorem fmod_shift {x c : Int} (hc : 0 < c) : (x + c).fmod c = x.fmod c ∧ (x - c).fmod c = x.fmod c := by
  obtain ⟨h1, h2, h3⟩ := div_facts x hc
  exact ⟨(div_eq (a := x + c) (q := x.fdiv c + 1) (r := x.fmod c) hc (by rw [Int.mul_add]; omega) h2 h3).2, (div_eq (a := x - c) (q := x.fdiv c - 1) (r := x.fmod c) hc (by rw [Int.mul_sub]; omega) h2 h3).2⟩
theorem wrap_up (d : Nat) (b : Int) (m l : Str) (t bt lo c v : Int) (x6 x7 : Option AV) (A : AH) (hc : 0 < c) (hc2 : c ≤ 256) (hv : -900000 < v - lo) :
    ∃ v', sWhile (eBin (cmpPrim D (cl d) .Lt) (eVar 5) (eVar 3)) (b_law_word_3 (cl d)) [some (fForm b m l), some (.int t), some (.int bt), some (.int lo), some (.int c), some (.int v), x6, x7] A =
      .nx [some (fForm b m l), some (.int t), some (.int bt), some (.int lo), some (.int c), some (.int v'), x6, x7] A ∧ lo ≤ v' ∧ (v' - lo).fmod c = (v - lo).fmod c ∧ (v' = v ∨ v' < lo + c) := by
  obtain ⟨s', A', h1, h2⟩ := while_inv (c := eBin (cmpPrim D (cl d) .Lt) (eVar 5) (eVar 3)) (b := b_law_word_3 (cl d))
    (fun n s A0 => A0 = A ∧ ∃ u, s = [some (fForm b m l), some (.int t), some (.int bt), some (.int lo), some (.int c), some (.int u), x6, x7] ∧ (u - lo).fmod c = (v - lo).fmod c ∧ (u = v ∨ u < lo + c) ∧ lo - u ≤ n)
    (fun s A0 => A0 = A ∧ ∃ u, s = [some (fForm b m l), some (.int t), some (.int bt), some (.int lo), some (.int c), some (.int u), x6, x7] ∧ (u - lo).fmod c = (v - lo).fmod c ∧ (u = v ∨ u < lo + c) ∧ lo ≤ u)
    (by
      rintro n s A0 ⟨rfl, u, rfl, i1, i2, i3⟩
      by_cases q : u < lo
      · refine .inr ⟨A0, _, A0, n - c.toNat, ?_, .inl (by (first | unfold b_law_word_3 | unfold b_law_word_4); rfl), ⟨rfl, u + c, rfl, ?_, .inr (by omega), by omega⟩, by omega⟩
        · walk_at "zs"
        · rw [← i1, show u + c - lo = (u - lo) + c by omega]
          exact (fmod_shift hc).1
      · refine .inl ⟨A0, ?_, rfl, u, rfl, i1, i2, by omega⟩
        walk_at "zs")
    1000000 (lo - v).toNat _ A (by omega) ⟨rfl, v, rfl, rfl, .inl rfl, by omega⟩
  obtain ⟨rfl, u, rfl, i1, i2, i3⟩ := h2
  exact ⟨u, h1, i3, i1, i2⟩
theorem wrap_down (d : Nat) (b : Int) (m l : Str) (t bt lo c v : Int) (x6 x7 : Option AV) (A : AH) (hc : 0 < c) (hc2 : c ≤ 256) (hv : v - lo < 900000) (h0 : lo ≤ v) :
    ∃ v', sWhile (eBin (cmpPrim D (cl d) .GtE) (eVar 5) (eBin (opPrim D (cl d) .Add) (eVar 3) (eVar 4))) (b_law_word_4 (cl d)) [some (fForm b m l), some (.int t), some (.int bt), some (.int lo), some (.int c), some (.int v), x6, x7] A =
      .nx [some (fForm b m l), some (.int t), some (.int bt), some (.int lo), some (.int c), some (.int v'), x6, x7] A ∧ lo ≤ v' ∧ v' < lo + c ∧ (v' - lo).fmod c = (v - lo).fmod c := by
  obtain ⟨s', A', h1, h2⟩ := while_inv (c := eBin (cmpPrim D (cl d) .GtE) (eVar 5) (eBin (opPrim D (cl d) .Add) (eVar 3) (eVar 4))) (b := b_law_word_4 (cl d))
    (fun n s A0 => A0 = A ∧ ∃ u, s = [some (fForm b m l), some (.int t), some (.int bt), some (.int lo), some (.int c), some (.int u), x6, x7] ∧ (u - lo).fmod c = (v - lo).fmod c ∧ lo ≤ u ∧ u - lo ≤ n)
    (fun s A0 => A0 = A ∧ ∃ u, s = [some (fForm b m l), some (.int t), some (.int bt), some (.int lo), some (.int c), some (.int u), x6, x7] ∧ (u - lo).fmod c = (v - lo).fmod c ∧ lo ≤ u ∧ u < lo + c)
    (by
      rintro n s A0 ⟨rfl, u, rfl, i1, i2, i3⟩
      by_cases q : lo + c ≤ u
      · refine .inr ⟨A0, _, A0, n - c.toNat, ?_, .inl (by (first | unfold b_law_word_3 | unfold b_law_word_4); rfl), ⟨rfl, u - c, rfl, ?_, by omega, by omega⟩, by omega⟩
        · walk_at "zs"
        · rw [← i1, show u - c - lo = (u - lo) - c by omega]
          exact (fmod_shift hc).2
      · refine .inl ⟨A0, ?_, rfl, u, rfl, i1, i2, by omega⟩
        walk_at "zs")
    1000000 (v - lo).toNat _ A (by omega) ⟨rfl, v, rfl, rfl, h0, by omega⟩
  obtain ⟨rfl, u, rfl, i1, i2, i3⟩ := h2
  exact ⟨u, h1, i2, i3, i1⟩
theorem fmod_small {x c : Int} (h0 : 0 ≤ x) (h1 : x < c) : x.fmod c = x := (div_eq (a := x) (q := 0) (r := x) (by omega) (by omega) h0 h1).2
theorem tail_ok (d : Nat) (b : Int) (m l : Str) (hb : 2 ≤ b ∧ b ≤ 8) (hl : isLm l) (t bt v : Int) (hv : -800000 < v ∧ v < 800000) (x6 x7 : Option AV) (A : AH) :
    endE (b_law_word_8 (cl d) [some (fForm b m l), some (.int t), some (.int bt), some (.int (lowW b)), some (.int (1 * 2 ^ b.toNat)), some (.int v), x6, x7] A) =
      .ok (.int (if l = "clip" then iMax (lowW b) (iMin (highW b) v) else (v - lowW b).fmod (1 * 2 ^ b.toNat) + lowW b)) A := by
  obtain ⟨p1, p2, p3⟩ := pow_facts hb
  unfold b_law_word_8
  rcases hl with rfl | rfl
  · walk_at "zs"
    have : lowW b + 2 * (1 * 2 ^ (b - 1).toNat) - 1 = highW b := by unfold lowW highW; omega
    rw [this]
  · have lo : lowW b = -(1 * 2 ^ (b - 1).toNat) := rfl
    rw [if_neg (by rw [w_wrap_clip]; exact id)]
    generalize hc : (1 : Int) * 2 ^ b.toNat = c at *
    generalize hL : lowW b = L at *
    have hc0 : 0 < c := by omega
    have hc2 : c ≤ 256 := by omega
    obtain ⟨v1, e1, e2, e3, e4⟩ := wrap_up d b m "wrap" t bt L c v x6 x7 A hc0 hc2 (by omega)
    obtain ⟨v2, f1, f2, f3, f4⟩ := wrap_down d b m "wrap" t bt L c v1 x6 x7 A hc0 hc2 (by omega) e2
    have fin : v2 = (v - L).fmod c + L := by
      rw [← e3, ← f4, fmod_small (by omega) (by omega)]
      omega
    clear hc p1 lo e3 f4
    walk_at "zs"
theorem s_law_word (d : Nat) (b : Int) (m l : Str) (hb : 2 ≤ b ∧ b ≤ 8) (hm : isR m) (hl : isLm l) (t bt : Int) (ht : -700000 < t ∧ t < 700000) (h0 : 0 < bt) (h1 : bt < 536870912) (A : AH) (w : WF A) :
    ∃ A', cl (d + 1) i_law_word [fForm b m l, .int t, .int bt] A = .ok (.int (wordW b m l t bt)) A' ∧ Ext A A' := by
  obtain ⟨p1, p2, p3⟩ := pow_facts hb
  obtain ⟨q1, q2, q3⟩ := div_facts t h0
  have hq : -700000 ≤ t.fdiv bt ∧ t.fdiv bt ≤ 700000 := by
    constructor
    · by_cases z : t.fdiv bt < -700000
      · have := Int.mul_le_mul_of_nonneg_left (show t.fdiv bt ≤ -700001 by omega) (show 0 ≤ bt by omega)
        have h2 := Int.mul_le_mul_of_nonneg_right (show 1 ≤ bt by omega) (show (0 : Int) ≤ 700001 by omega)
        omega
      · omega
    · by_cases z : 700000 < t.fdiv bt
      · have := Int.mul_le_mul_of_nonneg_left (show 700001 ≤ t.fdiv bt by omega) (show 0 ≤ bt by omega)
        have h2 := Int.mul_le_mul_of_nonneg_right (show 1 ≤ bt by omega) (show (0 : Int) ≤ 700001 by omega)
        omega
      · omega
  have hr := rnd_eq m hm t bt h0
  have key : ∀ (v : Int) x6 x7 A', v = rnd m t bt → endE (b_law_word_8 (cl d) [some (fForm b m l), some (.int t), some (.int bt), some (.int (lowW b)), some (.int (1 * 2 ^ b.toNat)), some (.int v), x6, x7] A') = .ok (.int (wordW b m l t bt)) A' := fun v x6 x7 A' e => by
    subst e
    rw [tail_ok d b m l hb hl t bt _ (by rw [hr]; split <;> (try split) <;> omega) x6 x7 A']
    rfl
  rw [df_law_word]
  unfold b_law_word
  clear p1
  walk_at "zs"
  rw [z_shli (okPow1 (by omega) (by omega))]
  walk_at "zs"
  rw [z_shli (okPow1 (by omega) (by omega))]
  walk_at "zs"
  rw [z_fdiv (okDivP h0 (by omega))]
  walk_at "zs"
  rw [z_modi (by omega)]
  walk_at "zs"
  rw [show -(1 * 2 ^ (b - 1).toNat : Int) = lowW b from rfl]
  by_cases z : t.fmod bt = 0
  · rw [if_pos z] at hr
    simp only [z, decide_true]
    walk_at "zs"
    exact ⟨A, rfl, .rfl' w⟩
  · rw [if_neg z] at hr
    simp only [z, decide_false]
    walk_at "zs"
    rw [z_mul (by rw [fitsP (i := bt) (by omega) (by omega), Bool.or_true])]
    walk_at "zs"
    rw [z_mul (by simp only [fits_2, Bool.true_or])]
    walk_at "zs"
    rw [disp_ok (kvs := [(.str "down", .bl false), (.str "up", .bl true), (.str "near", .bl (decide (bt ≤ 2 * (t - t.fdiv bt * bt)))), (.str "zero", .bl (decide (t < 0)))]) rfl (by simp only [List.length_cons, List.length_nil]; decide) get_new]
    walk_at "zs"
    have hd : dget (dmerge [] [(.str "down", .bl false), (.str "up", .bl true), (.str "near", .bl (decide (bt ≤ 2 * (t - t.fdiv bt * bt)))), (.str "zero", .bl (decide (t < 0)))]) (.str m) = some (.bl (ups m t bt)) := by
      unfold ups
      rcases hm with rfl | rfl | rfl | rfl
      · rfl
      · simp only [w_up_down, if_false, if_true]; rfl
      · simp only [w_near_down, w_near_up, if_false, if_true]; rfl
      · simp only [w_zero_down, w_zero_up, w_zero_near, if_false, if_true]; rfl
    rw [ix_dct get_at rfl hd]
    have e2 : Ext A ((A.push (AO.dct false 0 [])).set A.n (.dct false 0 (dmerge [] [(.str "down", .bl false), (.str "up", .bl true), (.str "near", .bl (decide (bt ≤ 2 * (t - t.fdiv bt * bt)))), (.str "zero", .bl (decide (t < 0)))]))) :=
      (Ext.push w).set w (Nat.le_refl _) (Nat.lt_succ_self _)
    cases hu : ups m t bt with
    | true =>
      rw [hu, if_pos rfl] at hr
      walk_at "zs"
      exact ⟨_, rfl, e2⟩
    | false =>
      rw [hu, if_neg (by simp)] at hr
      walk_at "zs"
      exact ⟨_, rfl, e2⟩
/-! the law on forms -/
theorem eq_form (d i j : Nat) (b b' : Int) (m m' l l' : Str) (A : AH) (w : WF A) (h : A.get i = some (oForm b m l)) (h' : A.get j = some (oForm b' m' l')) :
    ∃ A', cmpPrim D (cl (d + 2)) .Eq (.ref i) (.ref j) A = .ok (.bl (decide (b = b' ∧ m = m' ∧ l = l'))) A' ∧ Ext A A' := by
  obtain ⟨A', h1, h2⟩ := s_Form_eq d i j b b' m m' l l' A w h h'
  exact ⟨A', eq_ins (neg := false) h h' at_Form_3 nf_0_7 (z := c_Form) rfl (by rw [ck_Form_eq__2]; exact h1), h2⟩
theorem ne_form (d i j : Nat) (b b' : Int) (m m' l l' : Str) (A : AH) (w : WF A) (h : A.get i = some (oForm b m l)) (h' : A.get j = some (oForm b' m' l')) :
    ∃ A', cmpPrim D (cl (d + 2)) .NotEq (.ref i) (.ref j) A = .ok (.bl (!decide (b = b' ∧ m = m' ∧ l = l'))) A' ∧ Ext A A' := by
  obtain ⟨A', h1, h2⟩ := s_Form_eq d i j b b' m m' l l' A w h h'
  exact ⟨A', eq_ins (neg := true) h h' at_Form_3 nf_0_7 (z := c_Form) rfl (by rw [ck_Form_eq__2]; exact h1), h2⟩
abbrev FS (sd b t bt : Int) (m l : Str) (i : Nat) (x8 x9 x10 x11 : Option AV) : Sl := [some (.int sd), some (.int b), some (.int t), some (.int bt), some (.str m), some (.str l), some (.ref i), some (.int (lowW b)), x8, x9, x10, x11]
section
variable (d i : Nat) (sd b t bt : Int) (m l : Str) (hb : 2 ≤ b ∧ b ≤ 8) (hm : isR m) (hl : isLm l)
include hb hm hl
theorem fr3 (A : AH) (w : WF A) (h : A.get i = some (oForm b m l)) (x8 x9 x10 x11 : Option AV) : ∃ A', b_law_forms_right_3 (cl (d + 4)) (FS sd b t bt m l i x8 x9 x10 x11) A = .nx (FS sd b t bt m l i x8 x9 x10 x11) A' ∧ Ext A A' := by
  unfold b_law_forms_right_3
  obtain ⟨A1, j, h1, h2, h3⟩ := s_Form_changed (d + 1) i b m l m l .non .non A w h hb hm hl hm hl (.inr ⟨rfl, rfl⟩) (.inr ⟨rfl, rfl⟩)
  obtain ⟨A2, h4, h5⟩ := ne_form (d + 2) j i b b m m l l A1 h2.wf h3 (h2.get _ _ h)
  simp only [and_self, decide_true, Bool.not_true] at h4
  walk_at "zs"
  exact ⟨A2, rfl, h2.trans h5⟩
theorem fr4 (A : AH) (w : WF A) (h : A.get i = some (oForm b m l)) (x8 x9 x10 x11 : Option AV) : ∃ A', b_law_forms_right_4 (cl (d + 4)) (FS sd b t bt m l i x8 x9 x10 x11) A = .nx (FS sd b t bt m l i x8 x9 x10 x11) A' ∧ Ext A A' := by
  unfold b_law_forms_right_4
  have hx : ∃ m', isR m' ∧ (m' = m) = False ∧ cond (decide (m = "up")) (AV.str "down") (AV.str "up") = .str m' := by
    rcases hm with rfl | rfl | rfl | rfl
    · exact ⟨"up", .inr (.inl rfl), w_up_down, by simp only [w_down_up, decide_false, cond_false]⟩
    · exact ⟨"down", .inl rfl, w_down_up, by simp only [decide_true, cond_true]⟩
    · exact ⟨"up", .inr (.inl rfl), w_up_near, by simp only [w_near_up, decide_false, cond_false]⟩
    · exact ⟨"up", .inr (.inl rfl), w_up_zero, by simp only [w_zero_up, decide_false, cond_false]⟩
  obtain ⟨m', g1, g2, g3⟩ := hx
  obtain ⟨A1, j, h1, h2, h3⟩ := s_Form_changed (d + 1) i b m l m' l (.str m') .non A w h hb hm hl g1 hl (.inl rfl) (.inr ⟨rfl, rfl⟩)
  obtain ⟨A2, h4, h5⟩ := eq_form (d + 2) j i b b m' m l l A1 h2.wf h3 (h2.get _ _ h)
  simp only [g2, false_and, and_false, decide_false] at h4
  obtain ⟨A3, h6, h7⟩ := fr3 d i sd b t bt m l hb hm hl A2 h5.wf (h5.get _ _ (h2.get _ _ h)) x8 x9 x10 x11
  walk_at "zs"
  exact ⟨A3, rfl, (h2.trans h5).trans h7⟩
theorem fr5 (A : AH) (w : WF A) (h : A.get i = some (oForm b m l)) (x8 x9 x10 : Option AV) (r j1 j2 : Nat) (b1 : Int) (l2 : Str) (hr : A.get r = some (.lst [.ref j1, .ref j2])) (h1 : A.get j1 = some (oForm b1 m l)) (h2 : A.get j2 = some (oForm b m l2)) (n1 : b ≠ b1) (n2 : l ≠ l2) :
    ∃ A', b_law_forms_right_5 (cl (d + 4)) (FS sd b t bt m l i x8 x9 x10 (some (.ref r))) A = .nx (FS sd b t bt m l i x8 x9 x10 (some (.ref r))) A' ∧ Ext A A' := by
  unfold b_law_forms_right_5
  obtain ⟨A1, q, e1, e2, e3, e4⟩ := lc_map (t := tVal pIter (eVar 11)) (tg := .nm 9) (c := eC (.bl true)) (e := eBin (cmpPrim D (cl (d + 4)) .Eq) (eVar 6) (eVar 9)) (own := [9]) (s := FS sd b t bt m l i x8 x9 x10 (some (.ref r))) (A := A) (A0 := A)
    (wk_lst (j := r) rfl hr) w (fun _ => true) (fun _ => .bl false) (by simp) (by
      intro v hv A1 A' ⟨lk, hk⟩ hx
      refine ⟨_, rfl, A', rfl, .rfl' hx.wf, fun _ => ?_⟩
      have hi := hx.get _ _ (hk.insK h)
      simp only [List.mem_cons, List.not_mem_nil, or_false] at hv
      rcases hv with rfl | rfl
      · obtain ⟨A2, h4, h5⟩ := eq_form (d + 2) i j1 b b1 m m l l A' hx.wf hi (hx.get _ _ (hk.insK h1))
        simp only [n1, false_and, decide_false] at h4
        refine ⟨A2, ?_, h5⟩
        walk_at "zs"
      · obtain ⟨A2, h4, h5⟩ := eq_form (d + 2) i j2 b b m m l l2 A' hx.wf hi (hx.get _ _ (hk.insK h2))
        simp only [n2, and_false, decide_false] at h4
        refine ⟨A2, ?_, h5⟩
        walk_at "zs")
  have e5 := allany_lst (f := bAny) (bs := [false, false]) e4 rfl
  have e6 : bAny [false, false] = false := rfl
  rw [e6] at e5
  obtain ⟨A3, h6, h7⟩ := fr4 d i sd b t bt m l hb hm hl A1 e2.wf (e2.get _ _ h) x8 x9 x10 (some (.ref r))
  walk_at "zs"
  exact ⟨A3, rfl, e2.trans h7⟩
end
/-! the law on forms, part two -/
section
variable (d i : Nat) (sd b t bt : Int) (m l : Str) (hb : 2 ≤ b ∧ b ≤ 8) (hm : isR m) (hl : isLm l)
include hb hm hl
theorem fr6 (A : AH) (w : WF A) (h : A.get i = some (oForm b m l)) (x8 x9 x10 : Option AV) (r j1 : Nat) (b1 : Int) (hr : A.get r = some (.lst [.ref j1])) (h1 : A.get j1 = some (oForm b1 m l)) (n1 : b ≠ b1) :
    ∃ x A', b_law_forms_right_6 (cl (d + 4)) (FS sd b t bt m l i x8 x9 x10 (some (.ref r))) A = .nx (FS sd b t bt m l i x8 x9 x10 x) A' ∧ Ext A A' := by
  unfold b_law_forms_right_6
  obtain ⟨l', g1, g2, g3⟩ : ∃ l', isLm l' ∧ l ≠ l' ∧ ∀ A : AH, fIfE (.ok (.bl (decide (l = "clip"))) A) (eC (.str "wrap")) (eC (.str "clip")) (FS sd b t bt m l i x8 x9 x10 (some (.ref r))) = .ok (.str l') A := by
    rcases hl with rfl | rfl
    · exact ⟨"wrap", .inr rfl, fun z => (by rw [w_clip_wrap] at z; exact z), fun A => by simp only [decide_true]; rfl⟩
    · exact ⟨"clip", .inl rfl, fun z => (by rw [w_wrap_clip] at z; exact z), fun A => by simp only [w_wrap_clip, decide_false]; rfl⟩
  obtain ⟨A1, j, e1, e2, e3⟩ := s_Form_changed (d + 1) i b m l m l' .non (.str l') A w h hb hm hl hm g1 (.inr ⟨rfl, rfl⟩) (.inl rfl)
  have w2 : WF (A1.push (.lst [.ref j])) := e2.wf.push
  have f1 := addL (D := D) (cl := cl (d + 4)) (get_old (o := .lst [.ref j]) e2.wf (e2.get _ _ hr)) (get_new (A := A1) (o := .lst [.ref j])) (by simp only [List.length_append, List.length_cons, List.length_nil]; decide)
  have f2 : Ext A ((A1.push (.lst [.ref j])).push (.lst ([.ref j1] ++ [.ref j]))) := (e2.trans (.push e2.wf)).trans (.push w2)
  obtain ⟨A3, h6, h7⟩ := fr5 d i sd b t bt m l hb hm hl _ f2.wf (f2.get _ _ h) x8 x9 x10 (A1.push (.lst [.ref j])).n j1 j b1 l' get_new (f2.get _ _ h1) (get_old w2 (get_old e2.wf e3)) n1 g2
  refine ⟨some (.ref (A1.push (.lst [.ref j])).n), A3, ?_, f2.trans h7⟩
  clear g2 n1
  walk_at "zs"
  exact h6
theorem fr7 (A : AH) (w : WF A) (h : A.get i = some (oForm b m l)) (x8 x9 x10 x11 : Option AV) :
    ∃ x A', b_law_forms_right_7 (cl (d + 4)) (FS sd b t bt m l i x8 x9 x10 x11) A = .nx (FS sd b t bt m l i x8 x9 x10 x) A' ∧ Ext A A' := by
  unfold b_law_forms_right_7
  obtain ⟨q1, q2, q3⟩ := div_facts b (show (0 : Int) < 7 by decide)
  obtain ⟨A1, j, e1, e2, e3⟩ := s_Form2 (d + 2) (b.fmod 7 + 2) m l A w (by omega) hm hl
  have n1 : b ≠ b.fmod 7 + 2 := by omega
  obtain ⟨x, A3, h6, h7⟩ := fr6 d i sd b t bt m l hb hm hl _ (Ext.push (o := .lst [.ref j]) e2.wf).wf (get_old e2.wf (e2.get _ _ h)) x8 x9 x10 A1.n j (b.fmod 7 + 2) get_new (get_old e2.wf e3) n1
  refine ⟨x, A3, ?_, (e2.trans (.push e2.wf)).trans h7⟩
  clear n1
  walk_at "zs"
  rw [z_modi (by decide)]
  walk_at "zs"
theorem in_form (neg : Bool) (v : Int) (A : AH) (h : A.get i = some (oForm b m l)) : cmpPrim D (cl (d + 4)) (inOp neg) (.int v) (.ref i) A = .ok (.bl (neB neg (decide (lowW b ≤ v ∧ v ≤ highW b)))) A :=
  in_ins h at_Form_1 (by rw [ck_Form_contains__2]; exact s_Form_contains (d + 2) i b v m l A h hb)
theorem in_formX (neg : Bool) (v : AV) (hv : v = .non ∨ ∃ x, v = .str x) (A : AH) (h : A.get i = some (oForm b m l)) : cmpPrim D (cl (d + 4)) (inOp neg) v (.ref i) A = .ok (.bl (neB neg false)) A :=
  in_ins h at_Form_1 (by rw [ck_Form_contains__2]; exact s_Form_containsX (d + 2) i b v m l A h hb hv)
theorem fr9 (A : AH) (w : WF A) (h : A.get i = some (oForm b m l)) (x8 x9 x10 x11 : Option AV) :
    ∃ x A', b_law_forms_right_9 (cl (d + 4)) (FS sd b t bt m l i x8 x9 x10 x11) A = .nx (FS sd b t bt m l i x8 x9 x10 x) A' ∧ Ext A A' := by
  unfold b_law_forms_right_9 b_law_forms_right_8
  obtain ⟨x, A3, h6, h7⟩ := fr7 d i sd b t bt m l hb hm hl A w h x8 x9 x10 x11
  obtain ⟨p1, p2, p3⟩ := pow_facts hb
  have k0 := in_form d i b m l hb hm hl true (lowW b) A h
  have k1 := in_form d i b m l hb hm hl false (lowW b - 1) A h
  have k2 := in_form d i b m l hb hm hl false (-lowW b) A h
  have k3 := in_form d i b m l hb hm hl true (-lowW b - 1) A h
  have k4 := in_formX d i b m l hb hm hl false (.str "a") (.inr ⟨_, rfl⟩) A h
  have k5 := in_formX d i b m l hb hm hl false .non (.inl rfl) A h
  rw [decide_eq_true (by unfold lowW highW; omega)] at k0 k3
  rw [decide_eq_false (by unfold lowW highW; omega)] at k1 k2
  simp only [inOp, cond_true, cond_false, neB] at k0 k1 k2 k3 k4 k5
  refine ⟨x, A3, ?_, h7⟩
  clear p1
  walk_at "zs"
theorem fr10 (A : AH) (w : WF A) (h : A.get i = some (oForm b m l)) (x8 x9 x10 x11 : Option AV) :
    ∃ x A', b_law_forms_right_10 (cl (d + 4)) (FS sd b t bt m l i x8 x9 x10 x11) A = .nx (FS sd b t bt m l i x8 x9 x10 x) A' ∧ Ext A A' := by
  unfold b_law_forms_right_10
  obtain ⟨p1, p2, p3⟩ := pow_facts hb
  obtain ⟨A1, j, e1, e2, e3⟩ := s_Form2 (d + 2) b "down" l A w hb (.inl rfl) hl
  obtain ⟨A2, j2, f1, f2, f3⟩ := s_Form_changed (d + 1) j b "down" l m l (.str m) .non A1 e2.wf e3 hb (.inl rfl) hl hm hl (.inl rfl) (.inr ⟨rfl, rfl⟩)
  have hi2 := f2.get _ _ (e2.get _ _ h)
  obtain ⟨A3, g1, g2⟩ := ne_form (d + 2) i j2 b b m m l l A2 f2.wf hi2 f3
  simp only [and_self, decide_true, Bool.not_true] at g1
  have hi3 := g2.get _ _ hi2
  obtain ⟨A4, l1, l2⟩ := s_Form_len (d + 3) i b m l A3 g2.wf hi3 hb
  obtain ⟨x, A5, h6, h7⟩ := fr9 d i sd b t bt m l hb hm hl A4 l2.wf (l2.get _ _ hi3) x8 x9 x10 x11
  refine ⟨x, A5, ?_, (((e2.trans f2).trans g2).trans l2).trans h7⟩
  have hs : (small62 (1 * 2 ^ b.toNat) && !iNeg (1 * 2 ^ b.toNat)) = true := by
    unfold small62
    rw [iLe_eq, iLt_eq, iNeg_eq, decide_eq_true (by omega), decide_eq_true (by omega), decide_eq_false (by omega)]
    rfl
  clear p1
  walk_at "zs"
  rw [z_lenic hs]
  walk_at "zs"
  rw [z_shli (okPow1 (by omega) (by omega))]
  walk_at "zs"
end
/-! the law on forms, part three -/
abbrev GS (sd b t bt : Int) (m l x6 x7 x8 x9 x10 x11 : Option AV) : Sl := [some (.int sd), some (.int b), some (.int t), some (.int bt), m, l, x6, x7, x8, x9, x10, x11]
section
variable (d i : Nat) (sd b t bt : Int) (m l : Str) (hb : 2 ≤ b ∧ b ≤ 8) (hm : isR m) (hl : isLm l)
include hb hm hl
theorem fr2 (u v : Int) (hu : -700000 < u ∧ u < 700000) (hv : 0 < v) (hv2 : v < 536870912) (A : AH) (w : WF A) (h : A.get i = some (oForm b m l)) (x8 x11 : Option AV) :
    ∃ A', b_law_forms_right_2 (cl (d + 4)) (FS sd b t bt m l i x8 (some (.int u)) (some (.int v)) x11) A = .nx (FS sd b t bt m l i x8 (some (.int u)) (some (.int v)) x11) A' ∧ Ext A A' := by
  unfold b_law_forms_right_2 b_law_forms_right_1
  have c1 := s_Form_call (d + 1) i b m l A h hb hm hl u v hv hv2
  obtain ⟨A1, c2, e2⟩ := s_law_word (d + 3) b m l hb hm hl u v hu hv hv2 A w
  have h1 := e2.get _ _ h
  have c3 := s_Form_call (d + 1) i b m l A1 h1 hb hm hl u 1 (by decide) (by decide)
  refine ⟨A1, ?_, e2⟩
  walk_at "zs"
def okCase (v : AV) : Prop := ∃ a c, v = .tc (.int a) (.tc (.int c) .tn) ∧ (-700000 < a ∧ a < 700000) ∧ 0 < c ∧ c < 536870912
theorem fr11 (A : AH) (w : WF A) (h : A.get i = some (oForm b m l)) (x9 x10 x11 : Option AV) (r : Nat) (cs : List AV) (hr : A.get r = some (.lst cs)) (hc : ∀ v ∈ cs, okCase v) (hlen : cs.length < 1000000) :
    ∃ y9 y10 x A', b_law_forms_right_11 (cl (d + 4)) (FS sd b t bt m l i (some (.ref r)) x9 x10 x11) A = .nx (FS sd b t bt m l i (some (.ref r)) y9 y10 x) A' ∧ Ext A A' := by
  unfold b_law_forms_right_11
  obtain ⟨s', A1, e1, e2, y9, y10, rfl⟩ := for_ext (t := tVal pIter (eVar 8)) (tg := .cons (.nm 9) (.cons (.nm 10) .nil)) (b := b_law_forms_right_2 (cl (d + 4))) (s := FS sd b t bt m l i (some (.ref r)) x9 x10 x11) (A := A) (A0 := A)
    (wk_lst (j := r) rfl hr) w hlen (fun i hi => by cases hi; exact ⟨_, hr⟩) (fun _ s _ => ∃ y9 y10, s = FS sd b t bt m l i (some (.ref r)) y9 y10 x11) ⟨x9, x10, rfl⟩ (by
      rintro dd v r' s A' e hx ⟨y9, y10, rfl⟩
      obtain ⟨a, c, rfl, g1, g2, g3⟩ := hc v (by rw [e]; simp)
      obtain ⟨A2, k1, k2⟩ := fr2 d i sd b t bt m l hb hm hl a c g1 g2 g3 A' hx.wf (hx.get _ _ h) (some (.ref r)) x11
      exact ⟨_, _, A2, rfl, .inl k1, k2, _, _, rfl⟩)
  obtain ⟨x, A3, h6, h7⟩ := fr10 d i sd b t bt m l hb hm hl A1 e2.wf (e2.get _ _ h) (some (.ref r)) y9 y10 x11
  refine ⟨y9, y10, x, A3, ?_, e2.trans h7⟩
  walk_at "zs"
end
section
variable (d i : Nat) (sd b t bt : Int) (m l : Str) (hb : 2 ≤ b ∧ b ≤ 8) (hm : isR m) (hl : isLm l) (ht : -1000 ≤ t ∧ t ≤ 1000) (hbt : 0 < bt ∧ bt < 100)
include hb hm hl ht hbt
theorem fr13 (A : AH) (w : WF A) (h : A.get i = some (oForm b m l)) (x8 x9 x10 x11 : Option AV) :
    ∃ y8 y9 y10 x A', b_law_forms_right_13 (cl (d + 4)) (FS sd b t bt m l i x8 x9 x10 x11) A = .nx (FS sd b t bt m l i y8 y9 y10 x) A' ∧ Ext A A' := by
  unfold b_law_forms_right_13 b_law_forms_right_12
  obtain ⟨p1, p2, p3⟩ := pow_facts hb
  let cs : List AV := [.tc (.int t) (.tc (.int bt) .tn), .tc (.int (-t)) (.tc (.int bt) .tn), .tc (.int (3 * lowW b + 1)) (.tc (.int 3) .tn), .tc (.int (2 * lowW b - 1)) (.tc (.int 2) .tn), .tc (.int (1 - 2 * lowW b)) (.tc (.int 2) .tn)]
  let c6 : List AV := [.tc (.int (lowW b)) (.tc (.int 1) .tn)]
  have f0 : Ext A ((A.push (.lst cs)).push (.lst c6)) := (Ext.push w).trans (.push w.push)
  have f1 := addL (D := D) (cl := cl (d + 4)) (get_old (o := .lst c6) (w.push (o := .lst cs)) get_new) (get_new (A := A.push (.lst cs)) (o := .lst c6)) (by simp only [cs, c6, List.length_append, List.length_cons, List.length_nil]; decide)
  have f2 : Ext A (((A.push (.lst cs)).push (.lst c6)).push (.lst (cs ++ c6))) := f0.trans (.push f0.wf)
  have hlow : -128 ≤ lowW b ∧ lowW b ≤ -2 := by unfold lowW; omega
  obtain ⟨y9, y10, x, A3, h6, h7⟩ := fr11 d i sd b t bt m l hb hm hl _ f2.wf (f2.get _ _ h) x9 x10 x11 ((A.push (.lst cs)).push (.lst c6)).n (cs ++ c6) get_new (by
      intro v hv
      simp only [cs, c6, List.cons_append, List.nil_append, List.mem_cons, List.not_mem_nil, or_false] at hv
      rcases hv with rfl | rfl | rfl | rfl | rfl | rfl <;> exact ⟨_, _, rfl, by omega, by omega, by omega⟩) (by simp only [cs, c6, List.length_append, List.length_cons, List.length_nil]; decide)
  refine ⟨some (.ref ((A.push (.lst cs)).push (.lst c6)).n), y9, y10, x, A3, ?_, f2.trans h7⟩
  clear p1
  simp only [cs, c6, List.cons_append, List.nil_append] at f1 h6
  walk_at "zs"
  rw [z_mul (by simp only [fits_3, Bool.true_or])]
  walk_at "zs"
  rw [z_mul (by simp only [fits_2, Bool.true_or])]
  walk_at "zs"
  rw [z_mul (by simp only [fits_2, Bool.true_or])]
  walk_at "zs"
  rfl
theorem fr14 (A : AH) (w : WF A) (h : A.get i = some (oForm b m l)) (x8 x9 x10 x11 : Option AV) :
    ∃ y8 y9 y10 x A', b_law_forms_right_14 (cl (d + 4)) (FS sd b t bt m l i x8 x9 x10 x11) A = .nx (FS sd b t bt m l i y8 y9 y10 x) A' ∧ Ext A A' := by
  unfold b_law_forms_right_14
  obtain ⟨y8, y9, y10, x, A3, h6, h7⟩ := fr13 d i sd b t bt m l hb hm hl ht hbt A w h x8 x9 x10 x11
  refine ⟨y8, y9, y10, x, A3, ?_, h7⟩
  have k1 := s_Form_bits (d + 3) i b m l A h
  have k2 := s_Form_rounding (d + 3) i b m l A h
  have k3 := s_Form_limit (d + 3) i b m l A h
  have k4 : cl (d + 4) i_Form_low [.ref i] A = .ok (.int (lowW b)) A := s_Form_low (d + 3) i b m l A h hb
  have k5 : cl (d + 4) i_Form_high [.ref i] A = .ok (.int (-lowW b - 1)) A := by
    have := s_Form_high (d + 3) i b m l A h hb
    rw [show (1 * 2 ^ (b - 1).toNat - 1 : Int) = -lowW b - 1 by unfold lowW; omega] at this
    exact this
  walk_at "zs"
  rw [ne_plain rfl rfl, decide_eq_true rfl]
  walk_at "zs"
theorem fr15 (A : AH) (w : WF A) (x6 x7 x8 x9 x10 x11 : Option AV) :
    ∃ y6 y7 y8 y9 y10 x A', b_law_forms_right_15 (cl (d + 4)) (GS sd b t bt (some (.str m)) (some (.str l)) x6 x7 x8 x9 x10 x11) A = .nx (GS sd b t bt (some (.str m)) (some (.str l)) y6 y7 y8 y9 y10 x) A' ∧ Ext A A' := by
  unfold b_law_forms_right_15
  obtain ⟨A1, j, e1, e2, e3⟩ := s_Form2 (d + 2) b m l A w hb hm hl
  obtain ⟨y8, y9, y10, x, A3, h6, h7⟩ := fr14 d j sd b t bt m l hb hm hl ht hbt A1 e2.wf e3 x8 x9 x10 x11
  refine ⟨some (.ref j), some (.int (lowW b)), y8, y9, y10, x, A3, ?_, e2.trans h7⟩
  walk_at "zs"
  rw [z_shli (okPow1 (by omega) (by omega))]
  walk_at "zs"
  exact h6
end
section
variable (d : Nat) (sd b t bt : Int) (m : Str) (hb : 2 ≤ b ∧ b ≤ 8) (hm : isR m) (ht : -1000 ≤ t ∧ t ≤ 1000) (hbt : 0 < bt ∧ bt < 100)
include hb ht hbt
theorem fr16 (hm : isR m) (A : AH) (w : WF A) (x5 x6 x7 x8 x9 x10 x11 : Option AV) :
    ∃ y5 y6 y7 y8 y9 y10 x A', b_law_forms_right_16 (cl (d + 4)) (GS sd b t bt (some (.str m)) x5 x6 x7 x8 x9 x10 x11) A = .nx (GS sd b t bt (some (.str m)) y5 y6 y7 y8 y9 y10 x) A' ∧ Ext A A' := by
  unfold b_law_forms_right_16
  obtain ⟨s', A1, e1, e2, y5, y6, y7, y8, y9, y10, y11, rfl⟩ := for_ext (t := tVal pIter (eTup (lCons (eC (.str "clip")) (lCons (eC (.str "wrap")) lNil)))) (tg := .nm 5) (b := b_law_forms_right_15 (cl (d + 4))) (s := GS sd b t bt (some (.str m)) x5 x6 x7 x8 x9 x10 x11) (A := A) (A0 := A)
    (wk_tup (v := AV.tc (.str "clip") (.tc (.str "wrap") .tn)) (vs := [.str "clip", .str "wrap"]) rfl rfl) w (by simp only [List.length_cons, List.length_nil]; decide) (fun i hi => nomatch hi) (fun _ s _ => ∃ y5 y6 y7 y8 y9 y10 y11, s = GS sd b t bt (some (.str m)) y5 y6 y7 y8 y9 y10 y11) ⟨x5, x6, x7, x8, x9, x10, x11, rfl⟩ (by
      rintro dd v r' s A' e hx ⟨y5, y6, y7, y8, y9, y10, y11, rfl⟩
      have hv : v ∈ [AV.str "clip", AV.str "wrap"] := by rw [e]; simp
      have hl : ∃ l, v = .str l ∧ isLm l := by
        simp only [List.mem_cons, List.not_mem_nil, or_false] at hv
        rcases hv with rfl | rfl
        · exact ⟨_, rfl, .inl rfl⟩
        · exact ⟨_, rfl, .inr rfl⟩
      obtain ⟨l, rfl, hl⟩ := hl
      obtain ⟨z6, z7, z8, z9, z10, z11, A2, k1, k2⟩ := fr15 d sd b t bt m l hb hm hl ht hbt A' hx.wf y6 y7 y8 y9 y10 y11
      exact ⟨_, _, A2, rfl, .inl k1, k2, _, _, _, _, _, _, _, rfl⟩)
  exact ⟨y5, y6, y7, y8, y9, y10, y11, A1, e1, e2⟩
theorem fr18 (A : AH) (w : WF A) (x4 x5 x6 x7 x8 x9 x10 x11 : Option AV) :
    ∃ A', b_law_forms_right_18 (cl (d + 4)) (GS sd b t bt x4 x5 x6 x7 x8 x9 x10 x11) A = .rt (.bl true) A' ∧ Ext A A' := by
  unfold b_law_forms_right_18
  obtain ⟨s', A1, e1, e2, y4, y5, y6, y7, y8, y9, y10, y11, rfl⟩ := for_ext (t := tVal pIter (eTup (lCons (eC (.str "down")) (lCons (eC (.str "up")) (lCons (eC (.str "near")) (lCons (eC (.str "zero")) lNil)))))) (tg := .nm 4) (b := b_law_forms_right_16 (cl (d + 4))) (s := GS sd b t bt x4 x5 x6 x7 x8 x9 x10 x11) (A := A) (A0 := A)
    (wk_tup (v := AV.tc (.str "down") (.tc (.str "up") (.tc (.str "near") (.tc (.str "zero") .tn)))) (vs := [.str "down", .str "up", .str "near", .str "zero"]) rfl rfl) w (by simp only [List.length_cons, List.length_nil]; decide) (fun i hi => nomatch hi) (fun _ s _ => ∃ y4 y5 y6 y7 y8 y9 y10 y11, s = GS sd b t bt y4 y5 y6 y7 y8 y9 y10 y11) ⟨x4, x5, x6, x7, x8, x9, x10, x11, rfl⟩ (by
      rintro dd v r' s A' e hx ⟨y4, y5, y6, y7, y8, y9, y10, y11, rfl⟩
      have hv : v ∈ [AV.str "down", AV.str "up", AV.str "near", AV.str "zero"] := by rw [e]; simp
      have hl : ∃ l, v = .str l ∧ isR l := by
        simp only [List.mem_cons, List.not_mem_nil, or_false] at hv
        rcases hv with rfl | rfl | rfl | rfl
        · exact ⟨_, rfl, .inl rfl⟩
        · exact ⟨_, rfl, .inr (.inl rfl)⟩
        · exact ⟨_, rfl, .inr (.inr (.inl rfl))⟩
        · exact ⟨_, rfl, .inr (.inr (.inr rfl))⟩
      obtain ⟨m, rfl, hl⟩ := hl
      obtain ⟨z5, z6, z7, z8, z9, z10, z11, A2, k1, k2⟩ := fr16 d sd b t bt m hb ht hbt hl A' hx.wf y5 y6 y7 y8 y9 y10 y11
      exact ⟨_, _, A2, rfl, .inl k1, k2, _, _, _, _, _, _, _, _, rfl⟩)
  refine ⟨A1, ?_, e2⟩
  unfold b_law_forms_right_17
  walk_at "zs"
end
theorem s_forms_right (d : Nat) (sd : Int) (A : AH) (w : WF A) : ∃ A', cl (d + 5) i_law_forms_right [.int sd] A = .ok (.bl true) A' ∧ Ext A A' := by
  rw [df_law_forms_right]
  unfold b_law_forms_right
  obtain ⟨a1, a2, a3⟩ := div_facts sd (show (0 : Int) < 7 by decide)
  obtain ⟨b1, b2, b3⟩ := div_facts (sd.fdiv 7) (show (0 : Int) < 2001 by decide)
  obtain ⟨c1, c2, c3⟩ := div_facts (sd.fdiv 20000) (show (0 : Int) < 12 by decide)
  obtain ⟨A1, h1, h2⟩ := fr18 d sd (2 + sd.fmod 7) ((sd.fdiv 7).fmod 2001 - 1000) (1 + (sd.fdiv 20000).fmod 12) (by omega) (by omega) (by omega) A w none none none none none none none none
  refine ⟨A1, ?_, h2⟩
  clear a1 b1 c1
  walk_at "zs"
  rw [z_modi (by decide)]
  walk_at "zs"
  rw [z_fdiv (okDivP (by decide) (by decide))]
  walk_at "zs"
  rw [z_modi (by decide)]
  walk_at "zs"
  rw [z_fdiv (okDivP (by decide) (by decide))]
  walk_at "zs"
  rw [z_modi (by decide)]
  walk_at "zs"
/-! devices -/
def nOk (x : Str) : Prop := 1 ≤ x.cps.toList.length ∧ x.cps.toList.length ≤ 8 ∧ ∀ c ∈ x.cps.toList, nMem c (Str.ofString "abcdefghijklmnopqrstuvwxyz").cps.toList = true
theorem s_is_name (d : Nat) (x : Str) (hx : nOk x) (A : AH) (w : WF A) : ∃ A', cl (d + 1) i_is_name [.str x] A = .ok (.bl true) A' ∧ Ext A A' := by
  obtain ⟨h1, h2, h3⟩ := hx
  rw [df_is_name]
  unfold b_is_name
  obtain ⟨A', r, e1, e3, e2⟩ := all_lc (t := tVal pIter (eVar 0)) (tg := .nm 1) (e := eBin (cmpPrim D (cl d) .In) (eVar 1) (eC (.str "abcdefghijklmnopqrstuvwxyz"))) (own := [1]) (s := [some (.str x), none]) (A := A) (A0 := A)
    (wk_str (x := x) rfl) w (by rw [List.length_map]; omega) (by
      intro v hv A1 A' hk hx
      obtain ⟨c, hc, rfl⟩ := List.mem_map.mp hv
      have k := in_chr (D := D) (cl := cl d) (A := A') (c := c) (y := Str.ofString "abcdefghijklmnopqrstuvwxyz")
      rw [h3 c hc] at k
      refine ⟨_, rfl, A', ?_, .rfl' hx.wf⟩
      walk_at "zs")
  refine ⟨A', ?_, e2⟩
  walk_at "zs"
  rw [z_lenstr (by omega)]
  walk_at "zs"
  rw [decide_eq_true (by omega)]
  walk_at "zs"
  rw [decide_eq_true (by omega)]
  walk_at "zs"
abbrev oSensor (lv : Str) (sz lo hi : Int) : AO := .ins 1 [(23, .str lv), (24, .int sz), (25, .int lo), (26, .int hi)]
theorem s_Sensor (d : Nat) (lv : Str) (hn : nOk lv) (sz lo hi : Int) (hs : 1 ≤ sz ∧ sz ≤ 9) (h1 : -40 ≤ lo ∧ lo ≤ 40) (h2 : lo ≤ hi ∧ hi ≤ 40) (A : AH) (w : WF A) :
    ∃ A' i, back (cl (d + 2) i_Sensor_init_ [.ref A.n, .str lv, .int sz, .int lo, .int hi] (A.push (.ins 1 []))) (.ref A.n) = .ok (.ref i) A' ∧ Ext A A' ∧ A'.get i = some (oSensor lv sz lo hi) := by
  obtain ⟨A1, e1, e2⟩ := s_is_name d lv hn (A.push (.ins 1 [])) w.push
  have g := e2.get _ _ get_new
  rw [df_Sensor_init_]
  unfold b_Sensor_init_
  walk_at "zs"
  simp only [s_is_integer, hs, h1, h2, and_self, decide_true]
  walk_at "zs"
  simp only [s_is_integer, hs, h1, h2, and_self, decide_true]
  walk_at "zs"
  simp only [s_is_integer, hs, h1, h2, and_self, decide_true]
  walk_at "zs"
  refine ⟨_, _, rfl, ?_, get_at⟩
  exact set_ext w e2 (fun j hj => by rw [get_off hj, get_off hj, get_off hj, get_off hj]) rfl get_at
theorem plain4 (u : AV) (hu : plain 39 u = true) (a b c : Int) : ∀ x ∈ [u, AV.int a, AV.int b, AV.int c], plain 39 x = true := by
  intro x hx
  simp only [List.mem_cons, List.not_mem_nil, or_false] at hx
  rcases hx with rfl | rfl | rfl | rfl
  · exact hu
  all_goals rfl
theorem s_Sensor_all_parts (d i : Nat) (lv : Str) (sz lo hi : Int) (A : AH) (h : A.get i = some (oSensor lv sz lo hi)) : cl (d + 1) i_Sensor_all_parts [.ref i] A = .ok (.ref A.n) (A.push (.lst [.str lv, .int sz, .int lo, .int hi])) := by
  rw [df_Sensor_all_parts]; unfold b_Sensor_all_parts; walk_at "zs"
theorem s_Sensor_eq (d i j : Nat) (lv lv' : Str) (sz lo hi sz' lo' hi' : Int) (A : AH) (w : WF A) (h : A.get i = some (oSensor lv sz lo hi)) (h' : A.get j = some (oSensor lv' sz' lo' hi')) :
    ∃ A', cl (d + 2) i_Sensor_eq_ [.ref i, .ref j] A = .ok (.bl (decide (lv = lv' ∧ sz = sz' ∧ lo = lo' ∧ hi = hi'))) A' ∧ Ext A A' := by
  rw [df_Sensor_eq_]; unfold b_Sensor_eq_; walk_at "zs"
  rw [s_Sensor_all_parts d i lv sz lo hi A h]
  walk_at "zs"
  have h2 := get_old (o := .lst [.str lv, .int sz, .int lo, .int hi]) w h'
  walk_at "zs"
  rw [s_Sensor_all_parts d j lv' sz' lo' hi' _ h2]
  walk_at "zs"
  have w1 : WF (A.push (.lst [.str lv, .int sz, .int lo, .int hi])) := w.push
  rw [eq_lst (get_old w1 get_new) get_new (plain4 _ rfl _ _ _) (plain4 _ rfl _ _ _)]
  walk_at "zs"
  have e : decide ([AV.str lv, AV.int sz, AV.int lo, AV.int hi] = [AV.str lv', AV.int sz', AV.int lo', AV.int hi']) = decide (lv = lv' ∧ sz = sz' ∧ lo = lo' ∧ hi = hi') := by simp
  rw [e]
  exact ⟨_, rfl, (Ext.push w).trans (Ext.push w1)⟩
theorem s_check_integer (d : Nat) (n : Int) (A : AH) : cl (d + 1) i_check_integer [.int n] A = .ok .non A := by
  rw [df_check_integer]; unfold b_check_integer; walk_at "zs"
theorem s_Sensor_call (d i : Nat) (lv : Str) (sz lo hi n : Int) (A : AH) (h : A.get i = some (oSensor lv sz lo hi)) (hs : 1 ≤ sz ∧ sz ≤ 9) :
    cl (d + 3) i_Sensor_call_ [.ref i, .int n] A = .ok (.int (iMax lo (iMin hi (n.fdiv sz)))) A := by
  rw [df_Sensor_call_]; unfold b_Sensor_call_ b_Sensor_call__1
  have k := s_check_integer (d + 1) n A
  have k2 := s_clipped d (n.fdiv sz) lo hi A
  have k3 : cl (d + 2) i_reading_of [.ref i, .int n] A = .ok (.int (iMax lo (iMin hi (n.fdiv sz)))) A := by
    rw [df_reading_of]; unfold b_reading_of
    walk_at "zs"
    rw [z_fdiv (okDivP (by omega) (by omega))]
    walk_at "zs"
  walk_at "zs"
abbrev oDrive (lo hi ch st : Int) : AO := .ins 2 [(25, .int lo), (26, .int hi), (29, .int ch), (30, .int st)]
theorem s_Drive (d : Nat) (lo hi ch st : Int) (h1 : -20 ≤ lo ∧ lo ≤ 20) (h2 : lo + 1 ≤ hi ∧ hi ≤ 20) (h3 : 1 ≤ ch ∧ ch ≤ 40) (h4 : lo ≤ st ∧ st ≤ hi) (A : AH) (w : WF A) :
    ∃ A' i, back (cl (d + 2) i_Drive_init_ [.ref A.n, .int lo, .int hi, .int ch, .int st] (A.push (.ins 2 []))) (.ref A.n) = .ok (.ref i) A' ∧ Ext A A' ∧ A'.get i = some (oDrive lo hi ch st) := by
  have g : (A.push (.ins 2 [])).get A.n = some (.ins 2 []) := get_new
  rw [df_Drive_init_]
  unfold b_Drive_init_
  walk_at "zs"
  simp only [s_is_integer, h1, h2, h3, h4, and_self, decide_true]
  walk_at "zs"
  simp only [s_is_integer, h1, h2, h3, h4, and_self, decide_true]
  walk_at "zs"
  simp only [s_is_integer, h1, h2, h3, h4, and_self, decide_true]
  walk_at "zs"
  simp only [s_is_integer, h1, h2, h3, h4, and_self, decide_true]
  walk_at "zs"
  refine ⟨_, _, rfl, ?_, get_at⟩
  exact set_ext w (.rfl' w.push) (fun j hj => by rw [get_off hj, get_off hj, get_off hj, get_off hj]) rfl get_at
theorem s_Drive_all_parts (d i : Nat) (lo hi ch st : Int) (A : AH) (h : A.get i = some (oDrive lo hi ch st)) : cl (d + 1) i_Drive_all_parts [.ref i] A = .ok (.ref A.n) (A.push (.lst [.int lo, .int hi, .int ch, .int st])) := by
  rw [df_Drive_all_parts]; unfold b_Drive_all_parts; walk_at "zs"
theorem s_Drive_eq (d i j : Nat) (lo hi ch st lo' hi' ch' st' : Int) (A : AH) (w : WF A) (h : A.get i = some (oDrive lo hi ch st)) (h' : A.get j = some (oDrive lo' hi' ch' st')) :
    ∃ A', cl (d + 2) i_Drive_eq_ [.ref i, .ref j] A = .ok (.bl (decide (lo = lo' ∧ hi = hi' ∧ ch = ch' ∧ st = st'))) A' ∧ Ext A A' := by
  rw [df_Drive_eq_]; unfold b_Drive_eq_; walk_at "zs"
  rw [s_Drive_all_parts d i lo hi ch st A h]
  walk_at "zs"
  have h2 := get_old (o := .lst [.int lo, .int hi, .int ch, .int st]) w h'
  walk_at "zs"
  rw [s_Drive_all_parts d j lo' hi' ch' st' _ h2]
  walk_at "zs"
  have w1 : WF (A.push (.lst [.int lo, .int hi, .int ch, .int st])) := w.push
  rw [eq_lst (get_old w1 get_new) get_new (plain4 _ rfl _ _ _) (plain4 _ rfl _ _ _)]
  walk_at "zs"
  have e : decide ([AV.int lo, AV.int hi, AV.int ch, AV.int st] = [AV.int lo', AV.int hi', AV.int ch', AV.int st']) = decide (lo = lo' ∧ hi = hi' ∧ ch = ch' ∧ st = st') := by simp
  rw [e]
  exact ⟨_, rfl, (Ext.push w).trans (Ext.push w1)⟩
theorem s_Drive_contains (d i : Nat) (lo hi ch st v : Int) (A : AH) (h : A.get i = some (oDrive lo hi ch st)) :
    cl (d + 2) i_Drive_contains_ [.ref i, .int v] A = .ok (.bl (decide (lo ≤ v ∧ v ≤ hi))) A := by
  rw [df_Drive_contains_]; unfold b_Drive_contains_
  walk_at "zs"
  rw [s_is_integer]
  rfl
theorem s_Drive_containsX (d i : Nat) (lo hi ch st : Int) (x : Str) (A : AH) (h : A.get i = some (oDrive lo hi ch st)) :
    cl (d + 2) i_Drive_contains_ [.ref i, .str x] A = .ok (.bl false) A := by
  rw [df_Drive_contains_]; unfold b_Drive_contains_
  walk_at "zs"
  rw [df_is_integer]; unfold b_is_integer
  walk_at "zs"
theorem in_drive (neg : Bool) (d i : Nat) (lo hi ch st v : Int) (A : AH) (h : A.get i = some (oDrive lo hi ch st)) : cmpPrim D (cl (d + 2)) (inOp neg) (.int v) (.ref i) A = .ok (.bl (neB neg (decide (lo ≤ v ∧ v ≤ hi)))) A :=
  in_ins h at_Drive_1 (by rw [ck_Drive_contains__2]; exact s_Drive_contains d i lo hi ch st v A h)
theorem in_driveX (neg : Bool) (d i : Nat) (lo hi ch st : Int) (x : Str) (A : AH) (h : A.get i = some (oDrive lo hi ch st)) : cmpPrim D (cl (d + 2)) (inOp neg) (.str x) (.ref i) A = .ok (.bl (neB neg false)) A :=
  in_ins h at_Drive_1 (by rw [ck_Drive_contains__2]; exact s_Drive_containsX d i lo hi ch st x A h)
theorem s_Drive_call (d i : Nat) (lo hi ch st p c : Int) (A : AH) (h : A.get i = some (oDrive lo hi ch st)) (hp : lo ≤ p ∧ p ≤ hi) :
    cl (d + 3) i_Drive_call_ [.ref i, .int p, .int c] A = .ok (.int (iMax (p - ch) (iMin (p + ch) (iMax lo (iMin hi c))))) A := by
  rw [df_Drive_call_]; unfold b_Drive_call_ b_Drive_call__2 b_Drive_call__1
  have k := s_check_integer (d + 1) c A
  have k2 := s_clipped d c lo hi A
  have k3 := s_clipped d (iMax lo (iMin hi c)) (p - ch) (p + ch) A
  have k4 := in_drive true d i lo hi ch st p A h
  rw [decide_eq_true hp] at k4
  simp only [inOp, cond_true, neB] at k4
  have k5 : cl (d + 2) i_position_of [.ref i, .int p, .int c, .int ch] A = .ok (.int (iMax (p - ch) (iMin (p + ch) (iMax lo (iMin hi c))))) A := by
    rw [df_position_of]; unfold b_position_of b_position_of_1
    walk_at "zs"
  walk_at "zs"
theorem s_Drive_len (d i : Nat) (lo hi ch st : Int) (A : AH) (w : WF A) (h : A.get i = some (oDrive lo hi ch st)) (h1 : -20 ≤ lo ∧ lo ≤ 20) (h2 : lo + 1 ≤ hi ∧ hi ≤ 20) :
    ∃ A', cl (d + 1) i_Drive_len_ [.ref i] A = .ok (.int (hi - lo + 1)) A' ∧ Ext A A' := by
  rw [df_Drive_len_]; unfold b_Drive_len_
  walk_at "zs"
  have e : pRgL (.int lo) (.int (hi + 1)) A = .ok (.ref A.n) (A.push (.lst (rgA lo (hi + 1 - lo).toNat))) := by
    unfold pRgL small62
    simp only [iLe_eq, iLt_eq]
    rw [decide_eq_true (by omega), decide_eq_true (by omega), decide_eq_true (by omega), decide_eq_true (by omega), Nat.ble_eq_true_of_le (by omega)]
    simp only [Bool.and_self]
    rw [z_mklst (by rw [rgA_len]; omega)]
  rw [e]
  walk_at "zs"
  rw [rgA_len, show ((hi + 1 - lo).toNat : Int) = hi - lo + 1 by omega]
  exact ⟨_, rfl, Ext.push w⟩
/-! the law on devices -/
abbrev VS (sd sz lo hi : Int) (sn : AV) (x5 x6 x7 x8 x9 x10 x11 x12 x13 : Option AV) : Sl := [some (.int sd), some (.int sz), some (.int lo), some (.int hi), some sn, x5, x6, x7, x8, x9, x10, x11, x12, x13]
section
variable (d i : Nat) (sd sz lo hi le mo ch : Int) (sn : AV) (hle : -5 ≤ le ∧ le ≤ 0) (hmo : 1 ≤ mo ∧ mo ≤ 6) (hch : 1 ≤ ch ∧ ch ≤ 5)
abbrev WS (x9 x10 x11 x12 x13 : Option AV) : Sl := VS sd sz lo hi sn (some (.int le)) (some (.int mo)) (some (.int ch)) (some (.ref i)) x9 x10 x11 x12 x13
include hle hmo hch
theorem dv2 (p c : Int) (hp : le ≤ p ∧ p ≤ mo) (A : AH) (w : WF A) (h : A.get i = some (oDrive le mo ch le)) (x10 x12 x13 : Option AV) :
    ∃ y12, b_law_devices_right_2 (cl (d + 4)) (WS i sd sz lo hi le mo ch sn (some (.int p)) x10 (some (.int c)) x12 x13) A = .nx (WS i sd sz lo hi le mo ch sn (some (.int p)) x10 (some (.int c)) y12 x13) A := by
  unfold b_law_devices_right_2 b_law_devices_right_1
  have k1 := s_Drive_call (d + 1) i le mo ch le p c A h hp
  have k2 := in_drive true (d + 2) i le mo ch le p A h
  rw [decide_eq_true hp] at k2
  simp only [inOp, cond_true, neB] at k2
  refine ⟨some (.int (iMax (p - ch) (iMin (p + ch) (iMax le (iMin mo c))))), ?_⟩
  walk_at "zs"
theorem dv5 (p : Int) (hp : le ≤ p ∧ p ≤ mo) (A : AH) (w : WF A) (h : A.get i = some (oDrive le mo ch le)) (x10 x11 x12 x13 : Option AV) :
    ∃ y10 y11 y12 A', b_law_devices_right_5 (cl (d + 4)) (WS i sd sz lo hi le mo ch sn (some (.int p)) x10 x11 x12 x13) A = .nx (WS i sd sz lo hi le mo ch sn (some (.int p)) y10 y11 y12 x13) A' ∧ Ext A A' := by
  unfold b_law_devices_right_5 b_law_devices_right_4 b_law_devices_right_3
  obtain ⟨cs, hcs⟩ : ∃ cs : List AV, cs = [.int (-50), .int (le - 1), .int le, .int 0, .int 1, .int mo, .int (mo + 1), .int p, .int (p + ch)] := ⟨_, rfl⟩
  obtain ⟨c6, hc6⟩ : ∃ c6 : List AV, c6 = [.int (p - ch - 1)] := ⟨_, rfl⟩
  have f0 : Ext A ((A.push (.lst cs)).push (.lst c6)) := (Ext.push w).trans (.push w.push)
  have f1 := addL (D := D) (cl := cl (d + 4)) (get_old (o := .lst c6) (w.push (o := .lst cs)) get_new) (get_new (A := A.push (.lst cs)) (o := .lst c6)) (by rw [hcs, hc6]; simp only [List.length_append, List.length_cons, List.length_nil]; decide)
  have f2 : Ext A (((A.push (.lst cs)).push (.lst c6)).push (.lst (cs ++ c6))) := f0.trans (.push f0.wf)
  have hall : ∀ v ∈ cs ++ c6, ∃ c, v = AV.int c := by
    intro v hv
    rw [hcs, hc6] at hv
    simp only [List.cons_append, List.nil_append, List.mem_cons, List.not_mem_nil, or_false] at hv
    rcases hv with rfl | rfl | rfl | rfl | rfl | rfl | rfl | rfl | rfl | rfl <;> exact ⟨_, rfl⟩
  obtain ⟨s', A1, e1, e2, y11, y12, rfl⟩ := for_ext (t := tVal pIter (eVar 10)) (tg := .nm 11) (b := b_law_devices_right_2 (cl (d + 4))) (s := WS i sd sz lo hi le mo ch sn (some (.int p)) (some (.ref ((A.push (.lst cs)).push (.lst c6)).n)) x11 x12 x13) (A := ((A.push (.lst cs)).push (.lst c6)).push (.lst (cs ++ c6))) (A0 := ((A.push (.lst cs)).push (.lst c6)).push (.lst (cs ++ c6)))
    (wk_lst (j := ((A.push (.lst cs)).push (.lst c6)).n) rfl get_new) f2.wf (by rw [hcs, hc6]; simp only [List.length_append, List.length_cons, List.length_nil]; decide) (fun i hi => by cases hi; exact ⟨_, get_new⟩) (fun _ s _ => ∃ y11 y12, s = WS i sd sz lo hi le mo ch sn (some (.int p)) (some (.ref ((A.push (.lst cs)).push (.lst c6)).n)) y11 y12 x13) ⟨x11, x12, rfl⟩ (by
      rintro dd v r' s A' e hx ⟨y11, y12, rfl⟩
      obtain ⟨c, rfl⟩ := hall v (by rw [e]; simp)
      obtain ⟨z12, k1⟩ := dv2 d i sd sz lo hi le mo ch sn hle hmo hch p c hp A' hx.wf (hx.get _ _ (f2.get _ _ h)) (some (.ref ((A.push (.lst cs)).push (.lst c6)).n)) y12 x13
      exact ⟨_, _, A', rfl, .inl k1, .rfl' hx.wf, _, _, rfl⟩)
  refine ⟨some (.ref ((A.push (.lst cs)).push (.lst c6)).n), y11, y12, A1, ?_, f2.trans e2⟩
  clear hall
  subst hcs hc6
  simp only [List.cons_append, List.nil_append] at f1 e1
  walk_at "zs"
  rw [z_mklst (by simp only [List.length_cons, List.length_nil]; decide)]
  walk_at "zs"
theorem dv8 (A : AH) (w : WF A) (h : A.get i = some (oDrive le mo ch le)) (x9 x10 x11 x12 x13 : Option AV) :
    ∃ A', b_law_devices_right_8 (cl (d + 4)) (WS i sd sz lo hi le mo ch sn x9 x10 x11 x12 x13) A = .rt (.bl true) A' ∧ Ext A A' := by
  unfold b_law_devices_right_8 b_law_devices_right_7 b_law_devices_right_6
  obtain ⟨s', A1, e1, e2, y9, y10, y11, y12, rfl⟩ := for_ext (t := tArg pRng2 (lCons (eVar 5) (lCons (eBin (opPrim D (cl (d + 4)) .Add) (eVar 6) (eC (.int 1))) lNil))) (tg := .nm 9) (b := b_law_devices_right_5 (cl (d + 4))) (s := WS i sd sz lo hi le mo ch sn x9 x10 x11 x12 x13) (A := A) (A0 := A)
    (wk_rng2 (m := le) (n := mo + 1) (by walk_at "zs") (by unfold small62; simp only [iLe_eq, iLt_eq]; rw [decide_eq_true (by omega), decide_eq_true (by omega), decide_eq_true (by omega), decide_eq_true (by omega)]; rfl)) w (by rw [List.length_map, List.length_range]; omega) (fun i hi => nomatch hi) (fun _ s _ => ∃ y9 y10 y11 y12, s = WS i sd sz lo hi le mo ch sn y9 y10 y11 y12 x13) ⟨x9, x10, x11, x12, rfl⟩ (by
      rintro dd v r' s A' e hx ⟨y9, y10, y11, y12, rfl⟩
      have hv : v ∈ (List.range (mo + 1 - le).toNat).map fun i => AV.int (le + (i : Nat)) := by rw [e]; simp
      obtain ⟨k, hk, rfl⟩ := List.mem_map.mp hv
      rw [List.mem_range] at hk
      obtain ⟨z10, z11, z12, A2, k1, k2⟩ := dv5 d i sd sz lo hi le mo ch sn hle hmo hch (le + k) (by omega) A' hx.wf (hx.get _ _ h) y10 y11 y12 x13
      exact ⟨_, _, A2, rfl, .inl k1, k2, _, _, _, _, rfl⟩)
  have h1 := e2.get _ _ h
  have k1 := in_drive true (d + 2) i le mo ch le (le - 1) A1 h1
  have k2 := in_drive true (d + 2) i le mo ch le (mo + 1) A1 h1
  rw [decide_eq_false (by omega)] at k1 k2
  obtain ⟨A2, j, g1, g2, g3⟩ := s_Drive (d + 2) le mo (ch + 1) le (by omega) (by omega) (by omega) (by omega) A1 e2.wf
  obtain ⟨A3, l1, l2⟩ := s_Drive_eq (d + 2) i j le mo ch le le mo (ch + 1) le A2 g2.wf (g2.get _ _ h1) g3
  rw [decide_eq_false (by omega)] at l1
  have l3 : cmpPrim D (cl (d + 4)) .NotEq (.ref i) (.ref j) A2 = .ok (.bl true) A3 := eq_ins (neg := true) (g2.get _ _ h1) g3 at_Drive_3 nf_2_9 (z := c_Drive) rfl (by rw [ck_Drive_eq__2]; exact l1)
  have k3 := in_driveX true (d + 2) i le mo ch le "a" A3 (l2.get _ _ (g2.get _ _ h1))
  simp only [inOp, cond_true, neB] at k1 k2 k3
  refine ⟨A3, ?_, (e2.trans g2).trans l2⟩
  walk_at "zs"
theorem dv10 (A : AH) (w : WF A) (x8 x9 x10 x11 x12 x13 : Option AV) :
    ∃ A', b_law_devices_right_10 (cl (d + 4)) (VS sd sz lo hi sn (some (.int le)) (some (.int mo)) (some (.int ch)) x8 x9 x10 x11 x12 x13) A = .rt (.bl true) A' ∧ Ext A A' := by
  unfold b_law_devices_right_10 b_law_devices_right_9
  obtain ⟨A1, j, g1, g2, g3⟩ := s_Drive (d + 2) le mo ch le (by omega) (by omega) (by omega) (by omega) A w
  obtain ⟨A2, l1, l2⟩ := s_Drive_len (d + 3) j le mo ch le A1 g2.wf g3 (by omega) (by omega)
  obtain ⟨A3, e1, e2⟩ := dv8 d j sd sz lo hi le mo ch sn hle hmo hch A2 l2.wf (l2.get _ _ g3) x9 x10 x11 x12 x13
  have k1 : cl (d + 4) i_Drive_low [.ref j] A1 = .ok (.int le) A1 := by rw [df_Drive_low]; unfold b_Drive_low; walk_at "zs"
  have k2 : cl (d + 4) i_Drive_high [.ref j] A1 = .ok (.int mo) A1 := by rw [df_Drive_high]; unfold b_Drive_high; walk_at "zs"
  have k3 : cl (d + 4) i_Drive_change [.ref j] A1 = .ok (.int ch) A1 := by rw [df_Drive_change]; unfold b_Drive_change; walk_at "zs"
  have k4 : cl (d + 4) i_Drive_start [.ref j] A1 = .ok (.int le) A1 := by rw [df_Drive_start]; unfold b_Drive_start; walk_at "zs"
  have hs : (small62 (mo - le + 1) && !iNeg (mo - le + 1)) = true := by
    unfold small62
    rw [iLe_eq, iLt_eq, iNeg_eq, decide_eq_true (by omega), decide_eq_true (by omega), decide_eq_false (by omega)]
    rfl
  refine ⟨A3, ?_, (g2.trans l2).trans e2⟩
  walk_at "zs"
  rw [z_lenic hs]
  walk_at "zs"
  rw [ne_plain rfl rfl, decide_eq_true rfl]
  walk_at "zs"
end
section
variable (d i : Nat) (sd sz lo hi : Int) (hs : 1 ≤ sz ∧ sz ≤ 9) (h1 : -7 ≤ lo ∧ lo ≤ 0) (h2 : 0 ≤ hi ∧ hi ≤ 8)
include hs h1 h2
theorem dv12 (A : AH) (w : WF A) (h : A.get i = some (oSensor "tank" sz lo hi)) :
    ∃ A', b_law_devices_right_12 (cl (d + 4)) (VS sd sz lo hi (.ref i) none none none none none none none none none) A = .rt (.bl true) A' ∧ Ext A A' := by
  unfold b_law_devices_right_12 b_law_devices_right_11
  obtain ⟨A1, r, e1, e3, e2⟩ := all_lc (t := tArg pRng2 (lCons (eUn (pNeg D (cl (d + 4))) (eC (.int 40))) (lCons (eC (.int 41)) lNil))) (tg := .nm 13) (e := eBin (cmpPrim D (cl (d + 4)) .Eq) (eCallO D (cl (d + 4)) (eVar 4) (lCons (eVar 13) lNil)) (eCallF (pMM iMax iMaxL) (lCons (eVar 2) (lCons (eCallF (pMM iMin iMinL) (lCons (eVar 3) (lCons (eBin (opPrim D (cl (d + 4)) .FloorDiv) (eVar 13) (eVar 1)) lNil))) lNil)))) (own := [13]) (s := VS sd sz lo hi (.ref i) none none none none none none none none none) (A := A) (A0 := A)
    (wk_rng2 (m := -40) (n := 41) rfl rfl) w (by rw [List.length_map, List.length_range]; decide) (by
      intro v hv A1 A' ⟨lk, hk⟩ hx
      obtain ⟨k, hk2, rfl⟩ := List.mem_map.mp hv
      have hi2 := hx.get _ _ (hk.insK h)
      have k1 := s_Sensor_call (d + 1) i "tank" sz lo hi (-40 + (k : Nat)) A' hi2 hs
      refine ⟨_, rfl, A', ?_, .rfl' hx.wf⟩
      clear hv hk2
      walk_at "zs"
      rw [z_fdiv (okDivP (by omega) (by omega))]
      walk_at "zs")
  obtain ⟨a1, a2, a3⟩ := div_facts (sd.fdiv 900) (show (0 : Int) < 6 by decide)
  obtain ⟨b1, b2, b3⟩ := div_facts (sd.fdiv 6000) (show (0 : Int) < 6 by decide)
  obtain ⟨c1, c2, c3⟩ := div_facts (sd.fdiv 40000) (show (0 : Int) < 5 by decide)
  obtain ⟨A2, g1, g2⟩ := dv10 d sd sz lo hi (-((sd.fdiv 900).fmod 6)) (1 + (sd.fdiv 6000).fmod 6) (1 + (sd.fdiv 40000).fmod 5) (.ref i) (by omega) (by omega) (by omega) A1 e2.wf none none none none none none
  refine ⟨A2, ?_, e2.trans g2⟩
  clear a1 b1 c1
  walk_at "zs"
  rw [z_fdiv (okDivP (by decide) (by decide))]
  walk_at "zs"
  rw [z_modi (by decide)]
  walk_at "zs"
  rw [z_fdiv (okDivP (by decide) (by decide))]
  walk_at "zs"
  rw [z_modi (by decide)]
  walk_at "zs"
  rw [z_fdiv (okDivP (by decide) (by decide))]
  walk_at "zs"
  rw [z_modi (by decide)]
  walk_at "zs"
theorem dv15 (A : AH) (w : WF A) :
    ∃ A', b_law_devices_right_15 (cl (d + 4)) [some (.int sd), some (.int sz), some (.int lo), some (.int hi), none, none, none, none, none, none, none, none, none, none] A = .rt (.bl true) A' ∧ Ext A A' := by
  unfold b_law_devices_right_15 b_law_devices_right_14 b_law_devices_right_13
  obtain ⟨A1, i, g1, g2, g3⟩ := s_Sensor (d + 2) "tank" (by unfold nOk; decide +kernel) sz lo hi (by omega) (by omega) (by omega) A w
  obtain ⟨A2, j, f1, f2, f3⟩ := s_Sensor (d + 2) "pool" (by unfold nOk; decide +kernel) sz lo hi (by omega) (by omega) (by omega) A1 g2.wf
  obtain ⟨A3, l1, l2⟩ := s_Sensor_eq (d + 2) i j "tank" "pool" sz lo hi sz lo hi A2 f2.wf (f2.get _ _ g3) f3
  rw [decide_eq_false (by rintro ⟨z, _⟩; revert z; decide +kernel)] at l1
  have l3 : cmpPrim D (cl (d + 4)) .Eq (.ref i) (.ref j) A2 = .ok (.bl false) A3 := eq_ins (neg := false) (f2.get _ _ g3) f3 at_Sensor_3 nf_1_8 (z := c_Sensor) rfl (by rw [ck_Sensor_eq__2]; exact l1)
  obtain ⟨A4, m1, m2⟩ := dv12 d i sd sz lo hi hs h1 h2 A3 l2.wf (l2.get _ _ (f2.get _ _ g3))
  have k1 : cl (d + 4) i_Sensor_level [.ref i] A1 = .ok (.str "tank") A1 := by rw [df_Sensor_level]; unfold b_Sensor_level; walk_at "zs"
  have k2 : cl (d + 4) i_Sensor_size [.ref i] A1 = .ok (.int sz) A1 := by rw [df_Sensor_size]; unfold b_Sensor_size; walk_at "zs"
  have k3 : cl (d + 4) i_Sensor_low [.ref i] A1 = .ok (.int lo) A1 := by rw [df_Sensor_low]; unfold b_Sensor_low; walk_at "zs"
  have k4 : cl (d + 4) i_Sensor_high [.ref i] A1 = .ok (.int hi) A1 := by rw [df_Sensor_high]; unfold b_Sensor_high; walk_at "zs"
  refine ⟨A4, ?_, ((g2.trans f2).trans l2).trans m2⟩
  walk_at "zs"
  rw [ne_plain rfl rfl, decide_eq_true rfl]
  walk_at "zs"
end
theorem s_devices_right (d : Nat) (sd : Int) (A : AH) (w : WF A) : ∃ A', cl (d + 5) i_law_devices_right [.int sd] A = .ok (.bl true) A' ∧ Ext A A' := by
  rw [df_law_devices_right]
  unfold b_law_devices_right
  obtain ⟨a1, a2, a3⟩ := div_facts sd (show (0 : Int) < 9 by decide)
  obtain ⟨b1, b2, b3⟩ := div_facts (sd.fdiv 9) (show (0 : Int) < 8 by decide)
  obtain ⟨c1, c2, c3⟩ := div_facts (sd.fdiv 80) (show (0 : Int) < 9 by decide)
  obtain ⟨A1, h1, h2⟩ := dv15 d sd (1 + sd.fmod 9) (-((sd.fdiv 9).fmod 8)) ((sd.fdiv 80).fmod 9) (by omega) (by omega) (by omega) A w
  refine ⟨A1, ?_, h2⟩
  clear a1 b1 c1
  walk_at "zs"
  rw [z_modi (by decide)]
  walk_at "zs"
  rw [z_fdiv (okDivP (by decide) (by decide))]
  walk_at "zs"
  rw [z_modi (by decide)]
  walk_at "zs"
  rw [z_fdiv (okDivP (by decide) (by decide))]
  walk_at "zs"
  rw [z_modi (by decide)]
  walk_at "zs"
/-! lowest terms -/
theorem gcd_loop (c : EV) (b : SV) (d : Nat) (hc : c = eBin (cmpPrim D (cl d) .Gt) (eVar 1) (eC (.int 0))) (hb : b = sPar [0, 1] (lCons (eVar 1) (lCons (eBin (opPrim D (cl d) .Mod) (eVar 0) (eVar 1)) lNil))) (m n : Nat) (hn : n < 900000) (A : AH) :
    sWhile c b [some (.int m), some (.int n)] A = .nx [some (.int (Nat.gcd m n : Nat)), some (.int 0)] A := by
  subst hc hb
  obtain ⟨s', A', h1, h2, h3⟩ := while_inv (c := eBin (cmpPrim D (cl d) .Gt) (eVar 1) (eC (.int 0))) (b := sPar [0, 1] (lCons (eVar 1) (lCons (eBin (opPrim D (cl d) .Mod) (eVar 0) (eVar 1)) lNil))) (fun k s A' => A' = A ∧ ∃ x y : Nat, s = [some (.int x), some (.int y)] ∧ Nat.gcd x y = Nat.gcd m n ∧ y = k) (fun s A' => A' = A ∧ s = [some (.int (Nat.gcd m n : Nat)), some (.int 0)]) (by
    rintro k s A' ⟨rfl, x, y, rfl, g1, rfl⟩
    by_cases hy : y = 0
    · subst hy
      left
      refine ⟨A', rfl, rfl, ?_⟩
      rw [Nat.gcd_zero_right] at g1
      rw [g1]
      rfl
    · right
      refine ⟨A', [some (.int y), some (.int (x % y : Nat))], A', x % y, ?_, .inl ?_, ⟨rfl, y, x % y, rfl, ?_, rfl⟩, Nat.mod_lt _ (Nat.pos_of_ne_zero hy)⟩
      · walk_at "zs"
        rw [decide_eq_true (by omega)]
      · walk_at "zs"
        rw [z_modi (by omega)]
        walk_at "zs"
        rw [show (x : Int).fmod y = ((x % y : Nat) : Int) by rw [Int.fmod_eq_emod_of_nonneg _ (by omega)]; rfl]
      · rw [← g1, Nat.gcd_comm x y, Nat.gcd_rec y x, Nat.gcd_comm]) 1000000 n [some (.int m), some (.int n)] A (by omega) ⟨rfl, m, n, rfl, rfl, rfl⟩
  subst h2 h3
  exact h1
theorem s_divisor (d : Nat) (m n : Nat) (hn : n < 900000) (A : AH) : cl (d + 1) i_divisor [.int m, .int n] A = .ok (.int (Nat.gcd m n : Nat)) A := by
  rw [df_divisor]; unfold b_divisor b_divisor_1 b_divisor_2
  have h := gcd_loop _ _ d rfl rfl m n hn A
  walk_at "zs"
theorem s_law_gcd (d : Nat) (m n : Nat) (hn : n < 900000) (A : AH) : cl (d + 1) i_law_gcd [.int m, .int n] A = .ok (.int (Nat.gcd m n : Nat)) A := by
  rw [df_law_gcd]; unfold b_law_gcd b_law_gcd_1 b_law_gcd_2
  have h := gcd_loop _ _ d rfl rfl m n hn A
  walk_at "zs"
/-- a fraction as the program writes it -/
abbrev fq (q : Rat) : AV := .tc (.int q.num) (.tc (.int (q.den : Nat)) .tn)
theorem mk_num (t : Int) (b : Nat) (hb : 0 < b) : t.fdiv ((Nat.gcd t.natAbs b : Nat) : Int) = (mkRat t b).num ∧ (b : Int).fdiv ((Nat.gcd t.natAbs b : Nat) : Int) = ((mkRat t b).den : Int) := by
  have hg : 0 < Nat.gcd t.natAbs b := Nat.gcd_pos_of_pos_right _ hb
  have e : mkRat t b = Rat.normalize t b (by omega) := by rw [Rat.mkRat_def]; simp [show b ≠ 0 by omega]
  rw [e]
  constructor
  · rw [Rat.num_normalize]
    rw [Int.fdiv_eq_ediv_of_nonneg _ (by omega)]
  · rw [Rat.den_normalize]
    rw [Int.fdiv_eq_ediv_of_nonneg _ (by omega)]
    rfl
theorem iAbs_eq (t : Int) : iAbs t = (t.natAbs : Int) := by
  cases t with
  | ofNat n => rfl
  | negSucc n => rfl
theorem s_reduced (d : Nat) (t : Int) (b : Nat) (hb : 0 < b) (hb2 : b < 900000) (A : AH) : cl (d + 2) i_reduced [.int t, .int (b : Nat)] A = .ok (fq (mkRat t b)) A := by
  rw [df_reduced]; unfold b_reduced b_reduced_1
  have k := s_divisor d t.natAbs b hb2 A
  have hg : 0 < Nat.gcd t.natAbs b := Nat.gcd_pos_of_pos_right _ hb
  have hg2 : Nat.gcd t.natAbs b ≤ b := Nat.gcd_le_right _ hb
  obtain ⟨e1, e2⟩ := mk_num t b hb
  walk_at "zs"
  rw [iAbs_eq]
  walk_at "zs"
  rw [z_fdiv (okDivP (by omega) (by omega))]
  walk_at "zs"
  rw [z_fdiv (okDivP (by omega) (by omega))]
  walk_at "zs"
theorem s_law_lowest (d : Nat) (t : Int) (b : Nat) (hb : 0 < b) (hb2 : b < 900000) (A : AH) : cl (d + 2) i_law_lowest [.int t, .int (b : Nat)] A = .ok (fq (mkRat t b)) A := by
  rw [df_law_lowest]; unfold b_law_lowest b_law_lowest_1
  have k := s_law_gcd d t.natAbs b hb2 A
  have hg : 0 < Nat.gcd t.natAbs b := Nat.gcd_pos_of_pos_right _ hb
  have hg2 : Nat.gcd t.natAbs b ≤ b := Nat.gcd_le_right _ hb
  obtain ⟨e1, e2⟩ := mk_num t b hb
  walk_at "zs"
  rw [iAbs_eq]
  walk_at "zs"
  rw [z_fdiv (okDivP (by omega) (by omega))]
  walk_at "zs"
  rw [z_fdiv (okDivP (by omega) (by omega))]
  walk_at "zs"
/-! sums -/
abbrev Rw := Str × Int × Nat
abbrev nmR (x : Rw) : Str := x.1
abbrev vR (x : Rw) : AV := .tc (.int x.2.1) (.tc (.int (x.2.2 : Nat)) .tn)
abbrev Tm := Str × Rat
abbrev nmT (x : Tm) : Str := x.1
abbrev vT (x : Tm) : AV := fq x.2
structure okR (R : List Rw) : Prop where
  len : R.length ≤ 5
  dis : R.Pairwise fun x y => nmR x ≠ nmR y
  nam : ∀ x ∈ R, nOk x.1
  top : ∀ x ∈ R, x.2.1 ≠ 0 ∧ -9 ≤ x.2.1 ∧ x.2.1 ≤ 9
  bot : ∀ x ∈ R, 1 ≤ x.2.2 ∧ x.2.2 ≤ 9
theorem s_is_factor (d : Nat) (t : Int) (b : Nat) (ht : t ≠ 0 ∧ -9 ≤ t ∧ t ≤ 9) (hb : 1 ≤ b ∧ b ≤ 9) (A : AH) : cl (d + 2) i_is_factor [.tc (.int t) (.tc (.int (b : Nat)) .tn)] A = .ok (.bl true) A := by
  rw [df_is_factor]; unfold b_is_factor b_is_factor_1
  have k1 := s_is_integer d t (-9) 9 A
  have k2 := s_is_integer d (b : Nat) 1 9 A
  rw [decide_eq_true (by omega)] at k1 k2
  have k3 : decide (t = 0) = false := decide_eq_false ht.1
  walk_at "zs"
theorem s_are_terms (d p k0 : Nat) (R : List Rw) (hR : okR R) (A : AH) (w : WF A) (hp : A.get p = some (.dct false k0 (kvO nmR vR R))) : ∃ A', cl (d + 3) i_are_terms [.ref p] A = .ok (.bl true) A' ∧ Ext A A' := by
  rw [df_are_terms]; unfold b_are_terms b_are_terms_1
  have hl := hR.len
  have hkl : (kvO nmR vR R).length = R.length := List.length_map ..
  obtain ⟨A', r, e1, e3, e2⟩ := all_lc (t := tVal (pView .its) (eVar 0)) (tg := .cons (.nm 1) (.cons (.nm 2) .nil)) (e := eAnd (eCallF (callK D (cl (d + 2)) 1) (lCons (eVar 1) lNil)) (eCallF (callK D (cl (d + 2)) 41) (lCons (eVar 2) lNil))) (own := [1, 2]) (s := [some (.ref p), none, none]) (A := A) (A0 := A)
    (wk_view (m := .its) (j := p) rfl hp) w (by rw [List.length_map, hkl]; omega) (by
      intro v hv A1 A' hk hx
      obtain ⟨pr, hpr, rfl⟩ := List.mem_map.mp hv
      obtain ⟨x, hx2, rfl⟩ := List.mem_map.mp hpr
      obtain ⟨A3, g1, g2⟩ := s_is_name (d + 1) x.1 (hR.nam x hx2) A' hx.wf
      have g3 := s_is_factor d x.2.1 x.2.2 (hR.top x hx2) (hR.bot x hx2) A3
      refine ⟨_, rfl, A3, ?_, g2⟩
      walk_at "zs")
  refine ⟨A', ?_, e2⟩
  have k3 : decide ((5 : Int) < ((kvO nmR vR R).length : Nat)) = false := decide_eq_false (by rw [hkl]; omega)
  clear hkl
  walk_at "zs"
def lcmV (f : Nat) (v : AV) : Nat := match v with
  | .int i => Nat.lcm f i.toNat
  | _ => f
def scaleT (T : List Tm) : Nat := (T.map fun x => AV.int (x.2.den : Nat)).foldl lcmV 1
theorem lcm_val (f n : Nat) (hn : 0 < n) : ((f : Int) * (n : Int)).fdiv ((Nat.gcd f n : Nat) : Int) = ((Nat.lcm f n : Nat) : Int) := by
  rw [Int.fdiv_eq_ediv_of_nonneg _ (by omega), ← Int.natCast_mul]
  rfl
theorem s_shared_bottom (d r : Nat) (bs : List Nat) (hb : ∀ b ∈ bs, 1 ≤ b ∧ b ≤ 9) (hl : bs.length ≤ 5) (A : AH) (w : WF A) (hr : A.get r = some (.lst (bs.map fun b => AV.int (b : Nat)))) :
    ∃ A', cl (d + 2) i_shared_bottom [.ref r] A = .ok (.int ((bs.map fun b => AV.int (b : Nat)).foldl lcmV 1 : Nat)) A' ∧ Ext A A' := by
  rw [df_shared_bottom]; unfold b_shared_bottom b_shared_bottom_3 b_shared_bottom_1 b_shared_bottom_2
  obtain ⟨s', A1, e1, e2, x2, f, rfl, h1, h2, h3⟩ := for_ext (t := tVal pIter (eVar 0)) (tg := .nm 2) (b := sAsg (eBin (opPrim D (cl (d + 1)) .FloorDiv) (eBin (opPrim D (cl (d + 1)) .Mult) (eVar 1) (eVar 2)) (eCallF (callK D (cl (d + 1)) 39) (lCons (eVar 1) (lCons (eVar 2) lNil)))) (gVar 1)) (s := [some (.ref r), some (.int 1), none]) (A := A) (A0 := A)
    (wk_lst (j := r) rfl hr) w (by rw [List.length_map]; omega) (fun i hi => by cases hi; exact ⟨_, hr⟩) (fun dd s _ => ∃ x2, ∃ f : Nat, s = [some (.ref r), some (.int f), x2] ∧ f = dd.foldl lcmV 1 ∧ 0 < f ∧ f ≤ 9 ^ dd.length) ⟨none, 1, rfl, rfl, by decide, by decide⟩ (by
      rintro dd v r' s A' e hx ⟨x2, f, rfl, h1, h2, h3⟩
      have hv : v ∈ bs.map fun b => AV.int (b : Nat) := by rw [e]; simp
      obtain ⟨b, hb2, rfl⟩ := List.mem_map.mp hv
      obtain ⟨b1, b2⟩ := hb b hb2
      have hdl : dd.length + 1 ≤ 5 := by
        have := congrArg List.length e
        rw [List.length_map, List.length_append, List.length_cons] at this
        omega
      have hp : (9 : Nat) ^ (dd.length + 1) ≤ 9 ^ 5 := Nat.pow_le_pow_right (by decide) hdl
      have hp2 : f * b ≤ 9 ^ (dd.length + 1) := by
        rw [Nat.pow_succ]
        exact Nat.mul_le_mul h3 b2
      have k1 := s_divisor d f b (by omega) A'
      have hg : 0 < Nat.gcd f b := Nat.gcd_pos_of_pos_right _ (by omega)
      have hg2 : Nat.gcd f b ≤ b := Nat.gcd_le_right _ (by omega)
      refine ⟨_, [some (.ref r), some (.int (Nat.lcm f b : Nat)), some (.int (b : Nat))], A', rfl, .inl ?_, .rfl' hx.wf, _, _, rfl, ?_, ?_, ?_⟩
      · have k2 := lcm_val f b (by omega)
        clear h1 e hp hp2
        walk_at "zs"
        rw [z_mul (by rw [fitsP (i := (b : Int)) (by omega) (by omega), Bool.or_true])]
        walk_at "zs"
        rw [z_fdiv (okDivP (by omega) (by omega))]
        walk_at "zs"
      · rw [List.foldl_append, ← h1]
        rfl
      · exact Nat.lcm_pos h2 (by omega)
      · rw [List.length_append]
        refine Nat.le_trans (Nat.le_of_dvd (by exact Nat.mul_pos h2 (by omega)) (Nat.lcm_dvd (Nat.dvd_mul_right ..) (Nat.dvd_mul_left ..))) hp2)
  refine ⟨A1, ?_, e2⟩
  subst h1
  walk_at "zs"
/-! a sum made -/
def redR (R : List Rw) : List Tm := R.map fun x => (x.1, mkRat x.2.1 x.2.2)
theorem red_kv (R : List Rw) : kvO nmR (fun x => fq (mkRat x.2.1 x.2.2)) R = kvO nmT vT (redR R) := by
  unfold kvO redR
  rw [List.map_map]
  rfl
def wT (s : Nat) (x : Tm) : AV := .int ((x.2.num * (s : Int)).fdiv (x.2.den : Nat))
abbrev oSum (c : Int) (p q s : Nat) : AO := .ins 3 [(33, .int c), (34, .ref p), (35, .int (s : Nat)), (36, .ref q)]
structure okT (T : List Tm) : Prop where
  len : T.length ≤ 5
  dis : T.Pairwise fun x y => nmT x ≠ nmT y
  nam : ∀ x ∈ T, nOk x.1
  top : ∀ x ∈ T, x.2.num ≠ 0 ∧ -9 ≤ x.2.num ∧ x.2.num ≤ 9
  bot : ∀ x ∈ T, 1 ≤ x.2.den ∧ x.2.den ≤ 9
theorem mk_bounds (t : Int) (b : Nat) (ht : t ≠ 0 ∧ -9 ≤ t ∧ t ≤ 9) (hb : 1 ≤ b ∧ b ≤ 9) : ((mkRat t b).num ≠ 0 ∧ -9 ≤ (mkRat t b).num ∧ (mkRat t b).num ≤ 9) ∧ 1 ≤ (mkRat t b).den ∧ (mkRat t b).den ≤ 9 := by
  have h1 : t = -9 ∨ t = -8 ∨ t = -7 ∨ t = -6 ∨ t = -5 ∨ t = -4 ∨ t = -3 ∨ t = -2 ∨ t = -1 ∨ t = 1 ∨ t = 2 ∨ t = 3 ∨ t = 4 ∨ t = 5 ∨ t = 6 ∨ t = 7 ∨ t = 8 ∨ t = 9 := by omega
  have h2 : b = 1 ∨ b = 2 ∨ b = 3 ∨ b = 4 ∨ b = 5 ∨ b = 6 ∨ b = 7 ∨ b = 8 ∨ b = 9 := by omega
  rcases h1 with rfl | rfl | rfl | rfl | rfl | rfl | rfl | rfl | rfl | rfl | rfl | rfl | rfl | rfl | rfl | rfl | rfl | rfl <;> rcases h2 with rfl | rfl | rfl | rfl | rfl | rfl | rfl | rfl | rfl <;> decide
theorem okT_red {R : List Rw} (h : okR R) : okT (redR R) := by
  refine ⟨by unfold redR; rw [List.length_map]; exact h.len, List.pairwise_map.mpr h.dis, ?_, ?_, ?_⟩
  · intro x hx
    obtain ⟨y, hy, rfl⟩ := List.mem_map.mp hx
    exact h.nam y hy
  · intro x hx
    obtain ⟨y, hy, rfl⟩ := List.mem_map.mp hx
    exact (mk_bounds _ _ (h.top y hy) (h.bot y hy)).1
  · intro x hx
    obtain ⟨y, hy, rfl⟩ := List.mem_map.mp hx
    exact (mk_bounds _ _ (h.top y hy) (h.bot y hy)).2
def sndV : AV → AV
  | .tc _ (.tc b _) => b
  | v => v
theorem inj_its {α : Type} {nm : α → Str} {f : α → AV} {L : List α} (hd : L.Pairwise fun x y => nm x ≠ nm y) : ∀ x ∈ L, ∀ y ∈ L, AV.tc (.str (nm x)) (.tc (f x) .tn) = AV.tc (.str (nm y)) (.tc (f y) .tn) → x = y := by
  intro x hx y hy e
  injection e with e1 _
  injection e1 with e1
  have := List.pairwise_iff_getElem.mp hd
  obtain ⟨i, hi, rfl⟩ := List.getElem_of_mem hx
  obtain ⟨j, hj, rfl⟩ := List.getElem_of_mem hy
  rcases Nat.lt_trichotomy i j with h | h | h
  · exact absurd e1 (this i j hi hj h)
  · subst h; rfl
  · exact absurd e1.symm (this j i hj hi h)
theorem map_its {α : Type} (nm : α → Str) (f : α → AV) (L : List α) : (kvO nm f L).map (entry .its) = L.map fun x => AV.tc (.str (nm x)) (.tc (f x) .tn) := by
  unfold kvO
  rw [List.map_map]
  rfl
theorem map_vs {α : Type} (nm : α → Str) (f : α → AV) (L : List α) : (kvO nm f L).map (entry .vs) = L.map f := by
  unfold kvO
  rw [List.map_map]
  rfl
theorem map_ks {α : Type} (nm : α → Str) (f : α → AV) (L : List α) : (kvO nm f L).map (·.1) = L.map fun x => AV.str (nm x) := by
  unfold kvO
  rw [List.map_map]
  rfl
def isSum (A : AH) (i : Nat) (c : Int) (T : List Tm) : Prop := ∃ p q, A.get i = some (oSum c p q (scaleT T)) ∧ A.get p = some (.dct false 0 (kvO nmT vT T)) ∧ A.get q = some (.dct false 0 (kvO nmT (wT (scaleT T)) T))
theorem isSum.mono {A A' : AH} {i : Nat} {c : Int} {T : List Tm} (h : isSum A i c T) (e : Ext A A') : isSum A' i c T := by
  obtain ⟨p, q, h1, h2, h3⟩ := h
  exact ⟨p, q, e.get _ _ h1, e.get _ _ h2, e.get _ _ h3⟩
theorem filter_true {α : Type} (L : List α) : L.filter (fun _ => true) = L := List.filter_eq_self.mpr fun _ _ => rfl
theorem lcm_facts : ∀ (bs : List Nat) (f : Nat), 0 < f → (∀ b ∈ bs, 1 ≤ b ∧ b ≤ 9) → 0 < (bs.map fun b => AV.int (b : Nat)).foldl lcmV f ∧ (bs.map fun b => AV.int (b : Nat)).foldl lcmV f ≤ f * 9 ^ bs.length ∧ f ∣ (bs.map fun b => AV.int (b : Nat)).foldl lcmV f ∧ ∀ b ∈ bs, b ∣ (bs.map fun b => AV.int (b : Nat)).foldl lcmV f
  | [], f, h, _ => ⟨h, by simp, Nat.dvd_refl _, fun _ z => by cases z⟩
  | b :: r, f, h, hb => by
    obtain ⟨b1, b2⟩ := hb b (List.mem_cons_self ..)
    have hl : 0 < Nat.lcm f b := Nat.lcm_pos h (by omega)
    obtain ⟨h1, h2, h3, h4⟩ := lcm_facts r (Nat.lcm f b) hl fun x hx => hb x (List.mem_cons_of_mem _ hx)
    have e : ((b :: r).map fun b => AV.int (b : Nat)).foldl lcmV f = (r.map fun b => AV.int (b : Nat)).foldl lcmV (Nat.lcm f b) := rfl
    rw [e]
    refine ⟨h1, ?_, Nat.dvd_trans (Nat.dvd_lcm_left f b) h3, ?_⟩
    · have h5 : Nat.lcm f b ≤ f * 9 := Nat.le_trans (Nat.le_of_dvd (Nat.mul_pos h (by omega)) (Nat.lcm_dvd (Nat.dvd_mul_right ..) (Nat.dvd_mul_left ..))) (Nat.mul_le_mul_left f b2)
      rw [List.length_cons, Nat.pow_succ]
      calc _ ≤ Nat.lcm f b * 9 ^ r.length := h2
        _ ≤ f * 9 * 9 ^ r.length := Nat.mul_le_mul_right _ h5
        _ = f * (9 ^ r.length * 9) := by rw [Nat.mul_assoc, Nat.mul_comm 9]
    · intro x hx
      rcases List.mem_cons.mp hx with rfl | hx
      · exact Nat.dvd_trans (Nat.dvd_lcm_right f x) h3
      · exact h4 x hx
theorem scale_facts {T : List Tm} (h : okT T) : 0 < scaleT T ∧ scaleT T ≤ 59049 ∧ ∀ x ∈ T, x.2.den ∣ scaleT T := by
  have hb : ∀ b ∈ T.map fun x => x.2.den, 1 ≤ b ∧ b ≤ 9 := by
    intro b hb
    obtain ⟨x, hx, rfl⟩ := List.mem_map.mp hb
    exact h.bot x hx
  have := lcm_facts (T.map fun x => x.2.den) 1 (by decide) hb
  rw [List.map_map] at this
  obtain ⟨h1, h2, h3, h4⟩ := this
  refine ⟨h1, Nat.le_trans h2 ?_, fun x hx => h4 _ (List.mem_map_of_mem hx)⟩
  rw [List.length_map, Nat.one_mul]
  exact Nat.pow_le_pow_right (by decide) h.len
theorem s_Sum (d p k0 : Nat) (c : Int) (hc : -99 ≤ c ∧ c ≤ 99) (R : List Rw) (hR : okR R) (A : AH) (w : WF A) (hp : A.get p = some (.dct false k0 (kvO nmR vR R))) :
    ∃ A' i, back (cl (d + 4) i_Sum_init_ [.ref A.n, .int c, .ref p] (A.push (.ins 3 []))) (.ref A.n) = .ok (.ref i) A' ∧ Ext A A' ∧ isSum A' i c (redR R) := by
  have hT := okT_red hR
  have hTl : (redR R).length ≤ 5 := hT.len
  have hRl := hR.len
  have hpn : p < A.n := w.lt hp
  have hpn2 : p ≠ A.n := Nat.ne_of_lt hpn
  -- the terms are right
  obtain ⟨B1, a1, a2⟩ := s_are_terms d p k0 R hR (A.push (.ins 3 [])) w.push (get_old w hp)
  have i1 : B1.get A.n = some (.ins 3 []) := a2.get _ _ get_new
  have n1 : A.n < B1.n := a2.le
  have u1 : But A.n (A.push (.ins 3 [])) (B1.set A.n (.ins 3 [(33, .int c)])) := (But.ext a2).set n1
  have p1 : (B1.set A.n (.ins 3 [(33, .int c)])).get p = some (.dct false k0 (kvO nmR vR R)) := by rw [get_off hpn2]; exact a2.get _ _ (get_old w hp)
  -- the factors
  obtain ⟨B3, r2, b1, b2, b3, b4⟩ := dc_G (ent := fun x => AV.tc (.str (nmR x)) (.tc (vR x) .tn)) (nm := nmR) (k := eVar 4) (t := tVal (pView .its) (eVar 3)) (tg := .cons (.nm 4) (.cons (.nm 5) .nil)) (c := eC (.bl true)) (e := eCallF (callK D (cl (d + 3)) 40) (lStar (eVar 5) lNil)) (own := [4, 5]) (s := [some (.ref A.n), some (.int c), some (.ref p), some (.ref p), none, none, none, none]) (A := B1.set A.n (.ins 3 [(33, .int c)])) (A0 := B1.set A.n (.ins 3 [(33, .int c)])) (j := some p) (L := R)
    (inj_its hR.dis) hR.dis (by rw [← map_its nmR vR]; exact wk_view (m := .its) (j := p) rfl p1) u1.wf (fun _ => true) (fun x => fq (mkRat x.2.1 x.2.2)) (by omega) (by
      intro x hx A1 A' hk hxx
      have g := s_reduced (d + 1) x.2.1 x.2.2 (by have := hR.bot x hx; omega) (by have := hR.bot x hx; omega) A'
      refine ⟨_, rfl, A', rfl, .rfl' hxx.wf, fun _ => ⟨A', rfl, .rfl' hxx.wf, A', ?_, .rfl' hxx.wf⟩⟩
      walk_at "zs")
  rw [filter_true, red_kv] at b4
  have n3 : A.n < B3.n := Nat.lt_of_lt_of_le n1 (show (B1.set A.n _).n ≤ B3.n from b2.le)
  have r2n : r2 ≠ A.n := Nat.ne_of_gt (Nat.lt_of_lt_of_le n1 b3)
  have i3 : B3.get A.n = some (.ins 3 [(33, .int c)]) := b2.get _ _ get_at
  have u3 : But A.n (A.push (.ins 3 [])) (B3.set A.n (.ins 3 [(33, .int c), (34, .ref r2)])) := (u1.trans (But.ext b2)).set n3
  have f3 : (B3.set A.n (.ins 3 [(33, .int c), (34, .ref r2)])).get r2 = some (.dct false 0 (kvO nmT vT (redR R))) := by rw [get_off r2n]; exact b4
  -- the bottoms
  obtain ⟨B5, r3, c1, c2, c3, c4⟩ := lc_map (t := tVal (pView .vs) (eUn (pAttr D (cl (d + 3)) 34) (eVar 0))) (tg := .nm 5) (c := eC (.bl true)) (e := eBin (pIx D (cl (d + 3))) (eVar 5) (eC (.int 1))) (own := [5]) (s := [some (.ref A.n), some (.int c), some (.ref p), some (.ref p), none, none, none, none]) (A := B3.set A.n (.ins 3 [(33, .int c), (34, .ref r2)])) (A0 := B3.set A.n (.ins 3 [(33, .int c), (34, .ref r2)])) (items := (redR R).map vT) (j := some r2)
    (by
      rw [← map_vs nmT vT]
      refine wk_view (m := .vs) (j := r2) ?_ f3
      walk_at "zs") u3.wf (fun _ => true) sndV (by rw [List.length_map]; omega) (by
      intro v hv A1 A' hk hxx
      obtain ⟨x, hx, rfl⟩ := List.mem_map.mp hv
      exact ⟨_, rfl, A', rfl, .rfl' hxx.wf, fun _ => ⟨A', rfl, .rfl' hxx.wf⟩⟩)
  rw [filter_true, List.map_map] at c4
  obtain ⟨B6, d1, d2⟩ := s_shared_bottom (d + 1) r3 ((redR R).map fun x => x.2.den) (by
      intro b hb
      obtain ⟨x, hx, rfl⟩ := List.mem_map.mp hb
      exact hT.bot x hx) (by rw [List.length_map]; exact hTl) B5 c2.wf (by rw [c4, List.map_map]; rfl)
  rw [List.map_map] at d1
  replace d1 : cl (d + 3) i_shared_bottom [.ref r3] B5 = .ok (.int (scaleT (redR R) : Nat)) B6 := d1
  have e6 := c2.trans d2
  have n6 : A.n < B6.n := Nat.lt_of_lt_of_le n3 (show (B3.set A.n _).n ≤ B6.n from e6.le)
  have i6 : B6.get A.n = some (.ins 3 [(33, .int c), (34, .ref r2)]) := e6.get _ _ get_at
  have u7 : But A.n (A.push (.ins 3 [])) (B6.set A.n (.ins 3 [(33, .int c), (34, .ref r2), (35, .int (scaleT (redR R) : Nat))])) := (u3.trans (But.ext e6)).set n6
  have f7 : (B6.set A.n (.ins 3 [(33, .int c), (34, .ref r2), (35, .int (scaleT (redR R) : Nat))])).get r2 = some (.dct false 0 (kvO nmT vT (redR R))) := by rw [get_off r2n]; exact e6.get _ _ f3
  obtain ⟨q1, q2, q3⟩ := scale_facts hT
  -- the weights
  obtain ⟨B8, r4, g1, g2, g3, g4⟩ := dc_G (ent := fun x => AV.tc (.str (nmT x)) (.tc (vT x) .tn)) (nm := nmT) (k := eVar 4) (t := tVal (pView .its) (eUn (pAttr D (cl (d + 3)) 34) (eVar 0))) (tg := .cons (.nm 4) (.cons (.cons (.nm 6) (.cons (.nm 7) .nil)) .nil)) (c := eC (.bl true)) (e := eBin (opPrim D (cl (d + 3)) .FloorDiv) (eBin (opPrim D (cl (d + 3)) .Mult) (eVar 6) (eUn (pAttr D (cl (d + 3)) 35) (eVar 0))) (eVar 7)) (own := [4, 6, 7]) (s := [some (.ref A.n), some (.int c), some (.ref p), some (.ref p), none, none, none, none]) (A := B6.set A.n (.ins 3 [(33, .int c), (34, .ref r2), (35, .int (scaleT (redR R) : Nat))])) (A0 := B6.set A.n (.ins 3 [(33, .int c), (34, .ref r2), (35, .int (scaleT (redR R) : Nat))])) (j := some r2) (L := redR R)
    (inj_its hT.dis) hT.dis (by
      rw [← map_its nmT vT]
      refine wk_view (m := .its) (j := r2) ?_ f7
      walk_at "zs") u7.wf (fun _ => true) (wT (scaleT (redR R))) (by omega) (by
      intro x hx A1 A' ⟨lk, hk⟩ hxx
      have hi := hxx.get _ _ (hk.insK get_at)
      have t1 := hT.top x hx
      have t2 := hT.bot x hx
      refine ⟨_, rfl, A', rfl, .rfl' hxx.wf, fun _ => ⟨A', rfl, .rfl' hxx.wf, A', ?_, .rfl' hxx.wf⟩⟩
      unfold wT
      clear t1
      walk_at "zs"
      rw [z_mul (by rw [fitsP (i := ((scaleT (redR R) : Nat) : Int)) (by omega) (by omega), Bool.or_true])]
      walk_at "zs"
      rw [z_fdiv (okDivP (by omega) (by omega))])
  rw [filter_true] at g4
  have n8 : A.n < B8.n := Nat.lt_of_lt_of_le n6 (show (B6.set A.n _).n ≤ B8.n from g2.le)
  have i8 : B8.get A.n = some (.ins 3 [(33, .int c), (34, .ref r2), (35, .int (scaleT (redR R) : Nat))]) := g2.get _ _ get_at
  have r4n : r4 ≠ A.n := Nat.ne_of_gt (Nat.lt_of_lt_of_le n6 g3)
  have u9 : But A.n (A.push (.ins 3 [])) (B8.set A.n (oSum c r2 r4 (scaleT (redR R)))) := (u7.trans (But.ext g2)).set n8
  refine ⟨B8.set A.n (oSum c r2 r4 (scaleT (redR R))), A.n, ?_, u9.new w, r2, r4, get_at, ?_, ?_⟩
  · rw [df_Sum_init_]
    unfold b_Sum_init_ b_Sum_init__5 b_Sum_init__4 b_Sum_init__3 b_Sum_init__2 b_Sum_init__1
    have k1 := s_is_integer (d + 2) c (-99) 99 (A.push (.ins 3 []))
    rw [decide_eq_true hc] at k1
    clear q1 q2 q3 n1 n3 n6 n8 r2n r4n hpn hpn2 hTl hRl hc
    walk_at "zs"
  · rw [get_off r2n]
    exact g2.get _ _ f7
  · rw [get_off r4n]
    exact g4
/-! what a sum answers -/
section
variable (d i : Nat) (c : Int) (T : List Tm) (A : AH) (w : WF A) (hT : okT T) (h : isSum A i c T)
include h
theorem s_Sum_constant : cl (d + 1) i_Sum_constant [.ref i] A = .ok (.int c) A := by
  obtain ⟨p, q, h1, h2, h3⟩ := h
  rw [df_Sum_constant]; unfold b_Sum_constant; walk_at "zs"
theorem s_Sum_len : cl (d + 1) i_Sum_len_ [.ref i] A = .ok (.int (T.length : Nat)) A := by
  obtain ⟨p, q, h1, h2, h3⟩ := h
  rw [df_Sum_len_]; unfold b_Sum_len_; walk_at "zs"
  rw [show (kvO nmT vT T).length = T.length from List.length_map ..]
theorem s_Sum_containsI (n : Int) : cl (d + 1) i_Sum_contains_ [.ref i, .int n] A = .ok (.bl false) A := by
  obtain ⟨p, q, h1, h2, h3⟩ := h
  rw [df_Sum_contains_]; unfold b_Sum_contains_; walk_at "zs"
theorem s_Sum_contains (k : Str) : cl (d + 1) i_Sum_contains_ [.ref i, .str k] A = .ok (.bl (dget (kvO nmT vT T) (.str k)).isSome) A := by
  obtain ⟨p, q, h1, h2, h3⟩ := h
  have e := in_dct (D := D) (cl := cl d) (neg := false) (v := .str k) h2 rfl
  simp only [inOp, cond_false, neB] at e
  rw [df_Sum_contains_]; unfold b_Sum_contains_; walk_at "zs"
include w
theorem s_Sum_getitem (k : Str) (hk : nOk k) : ∃ A', cl (d + 2) i_Sum_getitem_ [.ref i, .str k] A = .ok ((dget (kvO nmT vT T) (.str k)).getD (.tc (.int 0) (.tc (.int 1) .tn))) A' ∧ Ext A A' := by
  obtain ⟨p, q, h1, h2, h3⟩ := h
  obtain ⟨A', e1, e2⟩ := s_is_name d k hk A w
  have h4 := e2.get _ _ h2
  have h5 := e2.get _ _ h1
  have e : pDGet (.ref p) [.str k, .tc (.int 0) (.tc (.int 1) .tn)] A' = .ok ((dget (kvO nmT vT T) (.str k)).getD (.tc (.int 0) (.tc (.int 1) .tn))) A' := by
    cases g : dget (kvO nmT vT T) (.str k) with
    | none => exact dget_no h4 rfl g
    | some x => exact dget_at h4 rfl g
  refine ⟨A', ?_, e2⟩
  rw [df_Sum_getitem_]; unfold b_Sum_getitem_ b_Sum_getitem__1; walk_at "zs"
include hT
theorem s_Sum_terms : ∃ A' r, cl (d + 1) i_Sum_terms [.ref i] A = .ok (.ref r) A' ∧ Ext A A' ∧ A'.get r = some (.dct false 0 (kvO nmT vT T)) := by
  obtain ⟨p, q, h1, h2, h3⟩ := h
  have hTl := hT.len
  obtain ⟨B3, r2, b1, b2, b3, b4⟩ := dc_G (ent := fun x => AV.tc (.str (nmT x)) (.tc (vT x) .tn)) (nm := nmT) (k := eVar 1) (t := tVal (pView .its) (eUn (pAttr D (cl d) 34) (eVar 0))) (tg := .cons (.nm 1) (.cons (.nm 2) .nil)) (c := eC (.bl true)) (e := eVar 2) (own := [1, 2]) (s := [some (.ref i), none, none]) (A := A) (A0 := A) (j := some p) (L := T)
    (inj_its hT.dis) hT.dis (by
      rw [← map_its nmT vT]
      refine wk_view (m := .its) (j := p) ?_ h2
      walk_at "zs") w (fun _ => true) vT (by omega) (by
      intro x hx A1 A' hk hxx
      exact ⟨_, rfl, A', rfl, .rfl' hxx.wf, fun _ => ⟨A', rfl, .rfl' hxx.wf, A', rfl, .rfl' hxx.wf⟩⟩)
  rw [filter_true] at b4
  refine ⟨B3, r2, ?_, b2, b4⟩
  rw [df_Sum_terms]; unfold b_Sum_terms
  walk_at "zs"
end
theorem same_dct {T T' : List Tm} (hT : okT T) (hT' : okT T') (hs : ∀ x ∈ T, x ∈ T') : ∀ p ∈ kvO nmT vT T, dget (kvO nmT vT T') p.1 = some p.2 ∧ plain 40 p.2 = true := by
  intro p hp
  obtain ⟨x, hx, rfl⟩ := List.mem_map.mp hp
  exact ⟨dget_some hT'.dis (hs x hx), rfl⟩
theorem s_Sum_eqT (d i j : Nat) (c : Int) (T T' : List Tm) (A : AH) (hT : okT T) (hT' : okT T') (h : isSum A i c T) (h' : isSum A j c T') (hl : T.length = T'.length) (hs : ∀ x ∈ T, x ∈ T') :
    cl (d + 1) i_Sum_eq_ [.ref i, .ref j] A = .ok (.bl true) A := by
  obtain ⟨p, q, h1, h2, h3⟩ := h
  obtain ⟨p', q', h1', h2', h3'⟩ := h'
  have e := eq_dct (D := D) (cl := cl d) (neg := false) h2 h2' (by unfold kvO; rw [List.length_map, List.length_map, hl]) (same_dct hT hT' hs)
  simp only [eqOp, cond_false, neB] at e
  clear hl hs
  rw [df_Sum_eq_]; unfold b_Sum_eq_; walk_at "zs"
theorem s_Sum_eqF (d i j : Nat) (c c' : Int) (T T' : List Tm) (A : AH) (h : isSum A i c T) (h' : isSum A j c' T') (hc : c ≠ c') :
    cl (d + 1) i_Sum_eq_ [.ref i, .ref j] A = .ok (.bl false) A := by
  obtain ⟨p, q, h1, h2, h3⟩ := h
  obtain ⟨p', q', h1', h2', h3'⟩ := h'
  have e := decide_eq_false hc
  clear hc
  rw [df_Sum_eq_]; unfold b_Sum_eq_; walk_at "zs"
theorem eq_sumT (neg : Bool) (d i j : Nat) (c : Int) (T T' : List Tm) (A : AH) (hT : okT T) (hT' : okT T') (h : isSum A i c T) (h' : isSum A j c T') (hl : T.length = T'.length) (hs : ∀ x ∈ T, x ∈ T') :
    cmpPrim D (cl (d + 1)) (eqOp neg) (.ref i) (.ref j) A = .ok (.bl (neB neg true)) A := by
  have k := s_Sum_eqT d i j c T T' A hT hT' h h' hl hs
  obtain ⟨p, q, h1, _⟩ := h
  obtain ⟨p', q', h1', _⟩ := h'
  exact eq_ins h1 h1' at_Sum_3 nf_3_10 (z := c_Sum) rfl (by rw [ck_Sum_eq__2]; exact k)
theorem eq_sumF (neg : Bool) (d i j : Nat) (c c' : Int) (T T' : List Tm) (A : AH) (h : isSum A i c T) (h' : isSum A j c' T') (hc : c ≠ c') :
    cmpPrim D (cl (d + 1)) (eqOp neg) (.ref i) (.ref j) A = .ok (.bl (neB neg false)) A := by
  have k := s_Sum_eqF d i j c c' T T' A h h' hc
  obtain ⟨p, q, h1, _⟩ := h
  obtain ⟨p', q', h1', _⟩ := h'
  exact eq_ins h1 h1' at_Sum_3 nf_3_10 (z := c_Sum) rfl (by rw [ck_Sum_eq__2]; exact k)
/-! raw terms of reduced ones -/
def rawT (T : List Tm) : List Rw := T.map fun x => (x.1, x.2.num, x.2.den)
theorem okR_raw {T : List Tm} (h : okT T) : okR (rawT T) := by
  refine ⟨by unfold rawT; rw [List.length_map]; exact h.len, List.pairwise_map.mpr h.dis, ?_, ?_, ?_⟩
  · intro x hx
    obtain ⟨y, hy, rfl⟩ := List.mem_map.mp hx
    exact h.nam y hy
  · intro x hx
    obtain ⟨y, hy, rfl⟩ := List.mem_map.mp hx
    exact h.top y hy
  · intro x hx
    obtain ⟨y, hy, rfl⟩ := List.mem_map.mp hx
    exact h.bot y hy
theorem red_raw (T : List Tm) : redR (rawT T) = T := by
  unfold redR rawT
  rw [List.map_map]
  conv => rhs; rw [← List.map_id T]
  refine List.map_congr_left fun x _ => ?_
  obtain ⟨n, q⟩ := x
  show (n, mkRat q.num q.den) = (n, q)
  rw [Rat.mkRat_self]
theorem kv_raw (T : List Tm) : kvO nmT vT T = kvO nmR vR (rawT T) := by
  unfold kvO rawT
  rw [List.map_map]
  rfl
def negT (T : List Tm) : List Tm := T.map fun x => (x.1, -x.2)
theorem okT_neg {T : List Tm} (h : okT T) : okT (negT T) := by
  refine ⟨by unfold negT; rw [List.length_map]; exact h.len, List.pairwise_map.mpr h.dis, ?_, ?_, ?_⟩
  · intro x hx
    obtain ⟨y, hy, rfl⟩ := List.mem_map.mp hx
    exact h.nam y hy
  · intro x hx
    obtain ⟨y, hy, rfl⟩ := List.mem_map.mp hx
    have := h.top y hy
    show (-y.2).num ≠ 0 ∧ -9 ≤ (-y.2).num ∧ (-y.2).num ≤ 9
    rw [Rat.neg_num]
    omega
  · intro x hx
    obtain ⟨y, hy, rfl⟩ := List.mem_map.mp hx
    have := h.bot y hy
    show 1 ≤ (-y.2).den ∧ (-y.2).den ≤ 9
    rw [Rat.neg_den]
    exact this
theorem neg_neg (T : List Tm) : negT (negT T) = T := by
  unfold negT
  rw [List.map_map]
  conv => rhs; rw [← List.map_id T]
  refine List.map_congr_left fun x _ => ?_
  obtain ⟨n, q⟩ := x
  show (n, - -q) = (n, q)
  rw [Rat.neg_neg]
theorem s_Sum_neg (d i : Nat) (c : Int) (hc : -99 ≤ c ∧ c ≤ 99) (T : List Tm) (A : AH) (w : WF A) (hT : okT T) (h : isSum A i c T) :
    ∃ A' j, cl (d + 5) i_Sum_neg_ [.ref i] A = .ok (.ref j) A' ∧ Ext A A' ∧ isSum A' j (-c) (negT T) := by
  obtain ⟨p, q, h1, h2, h3⟩ := h
  have hTl := hT.len
  obtain ⟨B3, r2, b1, b2, b3, b4⟩ := dc_G (ent := fun x => AV.tc (.str (nmT x)) (.tc (vT x) .tn)) (nm := nmT) (k := eVar 1) (t := tVal (pView .its) (eUn (pAttr D (cl (d + 4)) 34) (eVar 0))) (tg := .cons (.nm 1) (.cons (.nm 2) .nil)) (c := eC (.bl true)) (e := eTup (lCons (eUn (pNeg D (cl (d + 4))) (eBin (pIx D (cl (d + 4))) (eVar 2) (eC (.int 0)))) (lCons (eBin (pIx D (cl (d + 4))) (eVar 2) (eC (.int 1))) lNil))) (own := [1, 2]) (s := [some (.ref i), none, none]) (A := A) (A0 := A) (j := some p) (L := T)
    (inj_its hT.dis) hT.dis (by
      rw [← map_its nmT vT]
      refine wk_view (m := .its) (j := p) ?_ h2
      walk_at "zs") w (fun _ => true) (fun x => fq (-x.2)) (by omega) (by
      intro x hx A1 A' hk hxx
      refine ⟨_, rfl, A', rfl, .rfl' hxx.wf, fun _ => ⟨A', rfl, .rfl' hxx.wf, A', ?_, .rfl' hxx.wf⟩⟩
      walk_at "zs"
      unfold fq
      rw [Rat.neg_num, Rat.neg_den])
  rw [filter_true, show kvO nmT (fun x => fq (-x.2)) T = kvO nmT vT (negT T) by unfold kvO negT; rw [List.map_map]; rfl, kv_raw] at b4
  obtain ⟨A', j, e1, e2, e3⟩ := s_Sum d r2 0 (-c) (by omega) (rawT (negT T)) (okR_raw (okT_neg hT)) B3 b2.wf b4
  rw [red_raw] at e3
  refine ⟨A', j, ?_, b2.trans e2, e3⟩
  rw [df_Sum_neg_]; unfold b_Sum_neg_
  clear hc hTl
  walk_at "zs"
theorem neg_sum (d i : Nat) (c : Int) (hc : -99 ≤ c ∧ c ≤ 99) (T : List Tm) (A : AH) (w : WF A) (hT : okT T) (h : isSum A i c T) :
    ∃ A' j, pNeg D (cl (d + 5)) (.ref i) A = .ok (.ref j) A' ∧ Ext A A' ∧ isSum A' j (-c) (negT T) := by
  obtain ⟨A', j, e1, e2, e3⟩ := s_Sum_neg d i c hc T A w hT h
  obtain ⟨p, q, h1, _⟩ := h
  exact ⟨A', j, neg_ins h1 at_Sum_6 (by rw [ck_Sum_neg__1]; exact e1), e2, e3⟩
/-! the value of a sum -/
def sumQ (vv : Str → Int) : List Tm → Rat
  | [] => 0
  | x :: r => x.2 * (vv x.1 : Int) + sumQ vv r
def valQ (c : Int) (T : List Tm) (vv : Str → Int) : Rat := (c : Int) + sumQ vv T
theorem num_eq (q : Rat) : (q.num : Rat) = q * (q.den : Nat) := by
  have h := Rat.mkRat_self q
  rw [Rat.mkRat_eq_div] at h
  have hd : ((q.den : Nat) : Rat) ≠ 0 := by
    have := q.den_nz
    exact_mod_cast this
  generalize (q.num : Rat) = a at *
  generalize ((q.den : Nat) : Rat) = b at *
  grind
theorem term_eq (q : Rat) (S : Nat) (hS : q.den ∣ S) (v : Int) : ((((q.num * (S : Int)).fdiv (q.den : Nat)) * v : Int) : Rat) = q * (v : Int) * (S : Nat) := by
  obtain ⟨k, rfl⟩ := hS
  have hd : (q.den : Int) ≠ 0 := by have := q.den_nz; omega
  have e : (q.num * ((q.den * k : Nat) : Int)).fdiv (q.den : Nat) = q.num * (k : Nat) := by
    rw [Int.natCast_mul, Int.mul_comm (q.den : Int), ← Int.mul_assoc, Int.mul_fdiv_cancel _ hd]
  rw [e, Rat.intCast_mul, Rat.intCast_mul, num_eq, Rat.intCast_natCast, Rat.natCast_mul]
  generalize ((v : Int) : Rat) = a
  generalize ((q.den : Nat) : Rat) = b
  generalize ((k : Nat) : Rat) = z
  grind
theorem sum_eq (vv : Str → Int) (S : Nat) : ∀ T : List Tm, (∀ x ∈ T, x.2.den ∣ S) → ((iSum (T.map fun x => ((x.2.num * (S : Int)).fdiv (x.2.den : Nat)) * vv x.1) : Int) : Rat) = sumQ vv T * (S : Nat)
  | [], _ => by
    show ((0 : Int) : Rat) = 0 * (S : Nat)
    generalize ((S : Nat) : Rat) = z
    grind
  | x :: r, h => by
    rw [List.map_cons]
    show ((_ + iSum _ : Int) : Rat) = (x.2 * (vv x.1 : Int) + sumQ vv r) * (S : Nat)
    rw [Rat.intCast_add, term_eq _ _ (h x (List.mem_cons_self ..)), sum_eq vv S r fun y hy => h y (List.mem_cons_of_mem _ hy)]
    generalize ((S : Nat) : Rat) = z
    generalize sumQ vv r = y
    generalize x.2 * ((vv x.1 : Int) : Rat) = a
    grind
theorem val_eq {T : List Tm} (hT : okT T) (c : Int) (vv : Str → Int) : mkRat (c * (scaleT T : Nat) + iSum (T.map fun x => ((x.2.num * (scaleT T : Int)).fdiv (x.2.den : Nat)) * vv x.1)) (scaleT T) = valQ c T vv := by
  obtain ⟨h1, h2, h3⟩ := scale_facts hT
  have hS : ((scaleT T : Nat) : Rat) ≠ 0 := by
    have : scaleT T ≠ 0 := by omega
    exact_mod_cast this
  rw [Rat.mkRat_eq_div, Rat.intCast_add, sum_eq vv _ T h3, Rat.intCast_mul, Rat.intCast_natCast]
  unfold valQ
  generalize ((scaleT T : Nat) : Rat) = z at *
  generalize sumQ vv T = y
  generalize ((c : Int) : Rat) = a
  grind
theorem val_neg (c : Int) (T : List Tm) (vv : Str → Int) : valQ (-c) (negT T) vv = -valQ c T vv := by
  have h : ∀ T : List Tm, sumQ vv (negT T) = -sumQ vv T := by
    intro T
    induction T with
    | nil =>
      show (0 : Rat) = -0
      grind
    | cons x r ih =>
      show -x.2 * (vv x.1 : Int) + sumQ vv (negT r) = -(x.2 * (vv x.1 : Int) + sumQ vv r)
      rw [ih]
      generalize ((vv x.1 : Int) : Rat) = a
      generalize sumQ vv r = b
      generalize x.2 = q
      grind
  unfold valQ
  rw [h, Rat.intCast_neg]
  generalize ((c : Int) : Rat) = a
  generalize sumQ vv T = b
  grind
/-- the dict of the values -/
def okV (V : List (AV × AV)) (vv : Str → Int) (T : List Tm) : Prop := ∀ x ∈ T, dget V (.str x.1) = some (.int (vv x.1)) ∧ -100 ≤ vv x.1 ∧ vv x.1 ≤ 100
theorem dct_in {A A0 A1 A' : AH} {lk : Option Nat} {k p : Nat} {t : Bool} {V : List (AV × AV)} (hk : Lck A lk A1) (hx : Ext A1 A') (h : A.get p = some (.dct t k V)) : ∃ k', A'.get p = some (.dct t k' V) := by
  obtain ⟨k', e⟩ := hk.dctK h
  exact ⟨k', hx.get _ _ e⟩
section
variable (d i pv kv : Nat) (c : Int) (T : List Tm) (A : AH) (w : WF A) (hT : okT T) (h : isSum A i c T) (V : List (AV × AV)) (vv : Str → Int) (hV : okV V vv T) (hp : A.get pv = some (.dct false kv V))
include w hT h hV hp
theorem s_total : ∃ A' t, cl (d + 1) i_total [.ref i, .ref pv] A = .ok (.tc (.int t) (.tc (.int (scaleT T : Nat)) .tn)) A' ∧ Ext A A' ∧ mkRat t (scaleT T) = valQ c T vv := by
  obtain ⟨p, q, h1, h2, h3⟩ := h
  have hTl := hT.len
  obtain ⟨s1, s2, s3⟩ := scale_facts hT
  obtain ⟨B3, r2, b1, b2, b3, b4⟩ := lc_G (ent := fun x => AV.tc (.str (nmT x)) (.tc (wT (scaleT T) x) .tn)) (t := tVal (pView .its) (eUn (pAttr D (cl d) 36) (eVar 0))) (tg := .cons (.nm 3) (.cons (.nm 4) .nil)) (c := eC (.bl true)) (e := eBin (opPrim D (cl d) .Mult) (eVar 4) (eBin (pIx D (cl d)) (eVar 1) (eVar 3))) (own := [3, 4]) (s := [some (.ref i), some (.ref pv), none, none, none]) (A := A) (A0 := A) (j := some q) (L := T)
    (inj_its hT.dis) (by
      rw [← map_its nmT (wT (scaleT T))]
      refine wk_view (m := .its) (j := q) ?_ h3
      walk_at "zs") w (fun _ => true) (fun x => .int (((x.2.num * (scaleT T : Int)).fdiv (x.2.den : Nat)) * vv x.1)) (by omega) (by
      intro x hx A1 A' ⟨lk, hk⟩ hxx
      obtain ⟨v1, v2, v3⟩ := hV x hx
      obtain ⟨k', g⟩ := dct_in (A0 := A) hk hxx hp
      have e := ix_dct (D := D) (cl := cl d) g (show keyFor false (.str x.1) = true from rfl) v1
      refine ⟨_, rfl, A', rfl, .rfl' hxx.wf, fun _ => ⟨A', ?_, .rfl' hxx.wf⟩⟩
      unfold wT
      walk_at "zs"
      rw [z_mul (by rw [fitsP (i := vv x.1) (by omega) (by omega), Bool.or_true])])
  rw [filter_true] at b4
  have e := sum_lst b4 (is := T.map fun x => ((x.2.num * (scaleT T : Int)).fdiv (x.2.den : Nat)) * vv x.1) (by rw [← pInts_map, List.map_map]; rfl)
  refine ⟨B3, c * (scaleT T : Nat) + iSum (T.map fun x => ((x.2.num * (scaleT T : Int)).fdiv (x.2.den : Nat)) * vv x.1), ?_, b2, val_eq hT c vv⟩
  have i1 := b2.get _ _ h1
  have f : (fits c || fits ((scaleT T : Nat) : Int)) = true := by rw [fitsP (i := ((scaleT T : Nat) : Int)) (by omega) (by omega), Bool.or_true]
  rw [df_total]; unfold b_total b_total_1
  clear s1 s2 s3 hTl
  walk_at "zs"
  rw [z_mul f]
  walk_at "zs"
theorem s_Sum_call : ∃ A', cl (d + 3) i_Sum_call_ [.ref i, .ref pv] A = .ok (fq (valQ c T vv)) A' ∧ Ext A A' := by
  obtain ⟨p, q, h1, h2, h3⟩ := id h
  have hTl := hT.len
  obtain ⟨s1, s2, s3⟩ := scale_facts hT
  obtain ⟨s', A2, e1, e2, x2, rfl⟩ := for_any (t := tVal pIter (eUn (pAttr D (cl (d + 2)) 34) (eVar 0))) (tg := .nm 2) (b := b_Sum_call__1 (cl (d + 2))) (s := [some (.ref i), some (.ref pv), none, none, none]) (A := A) (A0 := A) (items := T.map fun x => AV.str (nmT x)) (j := some p)
    (by
      rw [← map_ks nmT vT]
      refine wk_keys (j := p) ?_ h2
      walk_at "zs") w (by rw [List.length_map]; omega) (fun i hi => by cases hi; exact ⟨_, h2⟩) (fun _ s => ∃ x2, s = [some (.ref i), some (.ref pv), x2, none, none]) ⟨none, rfl⟩ (by
      rintro lk A1 hk dd v r s A' e hxx ⟨x2, rfl⟩
      have hv : v ∈ T.map fun x => AV.str (nmT x) := by rw [e]; simp
      obtain ⟨x, hx, rfl⟩ := List.mem_map.mp hv
      obtain ⟨v1, v2, v3⟩ := hV x hx
      obtain ⟨k', g⟩ := dct_in (A0 := A) hk hxx hp
      have k1 := ix_dct (D := D) (cl := cl (d + 2)) g (show keyFor false (.str x.1) = true from rfl) v1
      have k2 := in_dct (D := D) (cl := cl (d + 2)) (neg := true) g (show keyFor false (.str x.1) = true from rfl)
      rw [v1] at k2
      simp only [inOp, cond_true, neB, Option.isSome_some] at k2
      refine ⟨_, _, A', rfl, .inl ?_, .rfl' hxx.wf, some (.str (nmT x)), rfl⟩
      unfold b_Sum_call__1
      clear e hv v1 v2 v3
      walk_at "zs")
  obtain ⟨A3, t, g1, g2, g3⟩ := s_total (d + 1) i pv kv c T A2 e2.wf hT (h.mono e2) V vv hV (e2.get _ _ hp)
  have g4 := s_reduced d t (scaleT T) s1 (by omega) A3
  rw [g3] at g4
  refine ⟨A3, ?_, e2.trans g2⟩
  rw [df_Sum_call_]; unfold b_Sum_call_ b_Sum_call__4 b_Sum_call__3 b_Sum_call__2
  unfold b_Sum_call__1 at e1
  clear s1 s2 s3 hTl g3
  walk_at "zs"
end
/-! sums of sums -/
def lkT : List Tm → Str → Option Rat
  | [], _ => none
  | x :: r, k => if x.1 = k then some x.2 else lkT r k
theorem dget_lk (k : Str) : ∀ T : List Tm, dget (kvO nmT vT T) (.str k) = (lkT T k).map fq
  | [] => rfl
  | x :: r => by
    show (match aEq (.str x.1) (.str k) with | true => some (fq x.2) | false => dget (kvO nmT vT r) (.str k)) = (if x.1 = k then some x.2 else lkT r k).map fq
    rw [aEq_str]
    by_cases h : x.1 = k
    · rw [decide_eq_true h, if_pos h]
      rfl
    · rw [decide_eq_false h, if_neg h]
      exact dget_lk k r
theorem lk_none {k : Str} : ∀ {T : List Tm}, (∀ x ∈ T, x.1 ≠ k) → lkT T k = none
  | [], _ => rfl
  | x :: r, h => by
    unfold lkT
    rw [if_neg (h x (List.mem_cons_self ..))]
    exact lk_none fun y hy => h y (List.mem_cons_of_mem _ hy)
theorem none_lk {k : Str} : ∀ {T : List Tm}, lkT T k = none → ∀ x ∈ T, x.1 ≠ k
  | [], _, _, hx => by cases hx
  | y :: r, h, x, hx => by
    unfold lkT at h
    split at h
    · cases h
    · rename_i hy
      rcases List.mem_cons.mp hx with rfl | hx
      · exact hy
      · exact none_lk h x hx
theorem lk_mem {k : Str} : ∀ {T : List Tm} {q : Rat}, lkT T k = some q → (k, q) ∈ T
  | [], _, h => by cases h
  | y :: r, q, h => by
    unfold lkT at h
    split at h
    · rename_i hy
      cases h
      subst hy
      exact List.mem_cons_self ..
    · exact List.mem_cons_of_mem _ (lk_mem h)
theorem lk_app {k : Str} : ∀ {S T : List Tm}, lkT S k = none → lkT (S ++ T) k = lkT T k
  | [], _, _ => rfl
  | y :: r, T, h => by
    unfold lkT at h
    split at h
    · cases h
    · rename_i hy
      rw [List.cons_append]
      show (if y.1 = k then some y.2 else lkT (r ++ T) k) = _
      rw [if_neg hy]
      exact lk_app h
def setT (T : List Tm) (k : Str) (q : Rat) : List Tm := T.map fun x => if x.1 = k then (x.1, q) else x
def putT (T : List Tm) (k : Str) (q : Rat) : List Tm := if (lkT T k).isSome then setT T k q else T ++ [(k, q)]
theorem dmap_kv (k : Str) (q : Rat) : ∀ T : List Tm, dmap (kvO nmT vT T) (.str k) (fq q) = kvO nmT vT (setT T k q)
  | [] => rfl
  | x :: r => by
    show (match aEq (.str x.1) (.str k) with | true => (AV.str x.1, fq q) :: dmap (kvO nmT vT r) (.str k) (fq q) | false => (AV.str x.1, fq x.2) :: dmap (kvO nmT vT r) (.str k) (fq q)) = (AV.str (nmT (if x.1 = k then (x.1, q) else x)), vT (if x.1 = k then (x.1, q) else x)) :: kvO nmT vT (setT r k q)
    rw [aEq_str, dmap_kv k q r]
    by_cases h : x.1 = k
    · rw [decide_eq_true h, if_pos h]
    · rw [decide_eq_false h, if_neg h]
theorem dput_kv (k : Str) (q : Rat) (T : List Tm) : dput (kvO nmT vT T) (.str k) (fq q) = kvO nmT vT (putT T k q) := by
  unfold dput putT
  rw [dget_lk, dmap_kv]
  cases lkT T k with
  | none =>
    show kvO nmT vT T ++ [(.str k, fq q)] = kvO nmT vT (T ++ [(k, q)])
    unfold kvO
    rw [List.map_append]
    rfl
  | some y => rfl
theorem setT_nm (T : List Tm) (k : Str) (q : Rat) : (setT T k q).map nmT = T.map nmT := by
  unfold setT
  rw [List.map_map]
  refine List.map_congr_left fun x _ => ?_
  show nmT (if x.1 = k then (x.1, q) else x) = nmT x
  split <;> rfl
theorem dis_nm {T : List Tm} : (T.Pairwise fun x y => nmT x ≠ nmT y) ↔ (T.map nmT).Pairwise (· ≠ ·) := by rw [List.pairwise_map]
theorem dis_put {T : List Tm} (h : T.Pairwise fun x y => nmT x ≠ nmT y) (k : Str) (q : Rat) : (putT T k q).Pairwise fun x y => nmT x ≠ nmT y := by
  unfold putT
  split
  · rw [dis_nm, setT_nm, ← dis_nm]
    exact h
  · rename_i g
    rw [List.pairwise_append]
    refine ⟨h, List.pairwise_singleton _ _, fun x hx y hy => ?_⟩
    rw [List.mem_singleton] at hy
    subst hy
    refine none_lk ?_ x hx
    cases e : lkT T k with
    | none => rfl
    | some z => rw [e] at g; exact absurd rfl g
theorem len_put (T : List Tm) (k : Str) (q : Rat) : (putT T k q).length ≤ T.length + 1 := by
  unfold putT
  split
  · unfold setT; rw [List.length_map]; omega
  · rw [List.length_append]; exact Nat.le_refl _
theorem lk_set {k k' : Str} (hk : k' ≠ k) (q : Rat) : ∀ T : List Tm, lkT (setT T k' q) k = lkT T k
  | [] => rfl
  | x :: r => by
    show (if (if x.1 = k' then (x.1, q) else x).1 = k then some (if x.1 = k' then (x.1, q) else x).2 else lkT (setT r k' q) k) = (if x.1 = k then some x.2 else lkT r k)
    rw [lk_set hk q r]
    by_cases h : x.1 = k'
    · rw [if_pos h]
      show (if x.1 = k then some q else lkT r k) = _
      rw [if_neg (by rw [h]; exact hk), if_neg (by rw [h]; exact hk)]
    · rw [if_neg h]
theorem lk_snoc {k k' : Str} (hk : k' ≠ k) (q : Rat) : ∀ T : List Tm, lkT (T ++ [(k', q)]) k = lkT T k
  | [] => by
    show (if k' = k then some q else none) = none
    rw [if_neg hk]
  | x :: r => by
    show (if x.1 = k then some x.2 else lkT (r ++ [(k', q)]) k) = (if x.1 = k then some x.2 else lkT r k)
    rw [lk_snoc hk q r]
theorem lk_put {k k' : Str} (hk : k' ≠ k) (q : Rat) (T : List Tm) : lkT (putT T k' q) k = lkT T k := by
  unfold putT
  split
  · exact lk_set hk q T
  · exact lk_snoc hk q T
def getT (T : List Tm) (k : Str) : Rat := (lkT T k).getD 0
def addF (s : Int) (T1 : List Tm) (cur L : List Tm) : List Tm := L.foldl (fun cur x => putT cur x.1 (getT T1 x.1 + (s : Int) * x.2)) cur
theorem addF_snoc (s : Int) (T1 cur L : List Tm) (x : Tm) : addF s T1 cur (L ++ [x]) = putT (addF s T1 cur L) x.1 (getT T1 x.1 + (s : Int) * x.2) := by
  unfold addF
  rw [List.foldl_append]
  rfl
theorem lk_addF (s : Int) (T1 : List Tm) {k : Str} : ∀ (L cur : List Tm), (∀ y ∈ L, y.1 ≠ k) → lkT (addF s T1 cur L) k = lkT cur k
  | [], cur, _ => rfl
  | x :: r, cur, h => by
    show lkT (addF s T1 (putT cur x.1 (getT T1 x.1 + (s : Int) * x.2)) r) k = _
    rw [lk_addF s T1 r _ fun y hy => h y (List.mem_cons_of_mem _ hy)]
    exact lk_put (h x (List.mem_cons_self ..)) _ _
theorem dis_addF (s : Int) (T1 : List Tm) : ∀ (L cur : List Tm), (cur.Pairwise fun x y => nmT x ≠ nmT y) → (addF s T1 cur L).Pairwise fun x y => nmT x ≠ nmT y
  | [], cur, h => h
  | x :: r, cur, h => dis_addF s T1 r _ (dis_put h _ _)
theorem len_addF (s : Int) (T1 : List Tm) : ∀ (L cur : List Tm), (addF s T1 cur L).length ≤ cur.length + L.length
  | [], cur => Nat.le_refl _
  | x :: r, cur => by
    refine Nat.le_trans (len_addF s T1 r _) ?_
    have := len_put cur x.1 (getT T1 x.1 + (s : Int) * x.2)
    rw [List.length_cons]
    show (putT cur x.1 (getT T1 x.1 + (s : Int) * x.2)).length + r.length ≤ _
    omega
def addT (s : Int) (T1 T2 : List Tm) : List Tm := (addF s T1 T1 T2).filter fun x => !decide (x.2.num = 0)
theorem mk_plus (a b : Rat) (s : Int) : mkRat (a.num * (b.den : Nat) + s * b.num * (a.den : Nat)) (a.den * b.den) = a + (s : Int) * b := by
  rw [← Rat.mkRat_add_mkRat _ _ a.den_nz b.den_nz, Rat.mkRat_self, Rat.mkRat_eq_div, Rat.intCast_mul, num_eq]
  have hd : ((b.den : Nat) : Rat) ≠ 0 := by
    have := b.den_nz
    exact_mod_cast this
  generalize ((b.den : Nat) : Rat) = z at *
  generalize ((s : Int) : Rat) = y
  grind
theorem s_plus (d : Nat) (a b : Rat) (s : Int) (hs : s = 1 ∨ s = -1) (ha : -9 ≤ a.num ∧ a.num ≤ 9) (ha2 : a.den ≤ 9) (hb : -9 ≤ b.num ∧ b.num ≤ 9) (hb2 : b.den ≤ 9) (A : AH) :
    cl (d + 3) i_plus [fq a, .tc (.int (s * b.num)) (.tc (.int (b.den : Nat)) .tn)] A = .ok (fq (a + (s : Int) * b)) A := by
  have hd1 := a.den_nz
  have hd2 := b.den_nz
  have hm : a.den * b.den ≤ 9 * 9 := Nat.mul_le_mul ha2 hb2
  have hm2 : 0 < a.den * b.den := Nat.mul_pos (by omega) (by omega)
  have g := s_reduced d (a.num * (b.den : Nat) + s * b.num * (a.den : Nat)) (a.den * b.den) hm2 (by omega) A
  rw [mk_plus, Int.natCast_mul] at g
  rw [df_plus]; unfold b_plus
  have f1 : (fits (a.num) || fits ((b.den : Nat) : Int)) = true := by rw [fitsP (i := ((b.den : Nat) : Int)) (by omega) (by omega), Bool.or_true]
  have f2 : (fits (s * b.num) || fits ((a.den : Nat) : Int)) = true := by rw [fitsP (i := ((a.den : Nat) : Int)) (by omega) (by omega), Bool.or_true]
  have f3 : (fits ((a.den : Nat) : Int) || fits ((b.den : Nat) : Int)) = true := by rw [fitsP (i := ((b.den : Nat) : Int)) (by omega) (by omega), Bool.or_true]
  clear hm hm2 hb hb2 ha ha2
  walk_at "zs"
  rw [z_mul f1]
  walk_at "zs"
  rw [z_mul f2]
  walk_at "zs"
  rw [z_mul f3]
  walk_at "zs"
theorem take_one {L : List Tm} {d r : List AV} {v : AV} {ent : Tm → AV} (e : L.map ent = d ++ v :: r) : ∃ x ∈ L, v = ent x ∧ L.take (d.length + 1) = L.take d.length ++ [x] ∧ ((L.Pairwise fun x y => nmT x ≠ nmT y) → ∀ y ∈ L.take d.length, y.1 ≠ x.1) := by
  have hlen : d.length < L.length := by
    have := congrArg List.length e
    rw [List.length_map, List.length_append, List.length_cons] at this
    omega
  refine ⟨L[d.length], List.getElem_mem hlen, ?_, ?_, ?_⟩
  · have h1 : (L.map ent)[d.length]? = some v := by rw [e]; simp
    rw [List.getElem?_map, List.getElem?_eq_getElem hlen] at h1
    exact (Option.some.inj h1).symm
  · rw [List.take_succ, List.getElem?_eq_getElem hlen]
    rfl
  · intro hd y hy
    obtain ⟨i, hi, rfl⟩ := List.getElem_of_mem hy
    rw [List.length_take] at hi
    rw [List.getElem_take]
    exact List.pairwise_iff_getElem.mp hd i d.length (by omega) hlen (by omega)
theorem s_added (d i j : Nat) (c c' s : Int) (hs : s = 1 ∨ s = -1) (T T' : List Tm) (A : AH) (w : WF A) (hT : okT T) (hT' : okT T') (h : isSum A i c T) (h' : isSum A j c' T') (hc : -99 ≤ c + s * c' ∧ c + s * c' ≤ 99) (hok : okT (addT s T T')) :
    ∃ A' k, cl (d + 5) i_added [.ref i, .ref j, .int s] A = .ok (.ref k) A' ∧ Ext A A' ∧ isSum A' k (c + s * c') (addT s T T') := by
  have hTl := hT.len
  have hTl' := hT'.len
  obtain ⟨p, q, h1, h2, h3⟩ := id h
  obtain ⟨p', q', h1', h2', h3'⟩ := id h'
  have pn : p ≠ A.n := Nat.ne_of_lt (w.lt h2)
  have pn' : p' ≠ A.n := Nat.ne_of_lt (w.lt h2')
  have jn : j ≠ A.n := Nat.ne_of_lt (w.lt h1')
  have iN : i ≠ A.n := Nat.ne_of_lt (w.lt h1)
  -- one's factors
  have a1 : (A.push (.dct false 0 [])).get i = _ := get_old w h1
  have a2 : (A.push (.dct false 0 [])).get p = _ := get_old w h2
  obtain ⟨s1, A2, b1, ⟨x4, x5, rfl⟩, b2, b3⟩ := for_put (f := A.n) (t := tVal (pView .its) (eUn (pAttr D (cl (d + 4)) 34) (eVar 0))) (tg := .cons (.nm 4) (.cons (.nm 5) .nil)) (b := sSetZ (eVar 3) (eVar 4) (eVar 5)) (s := [some (.ref i), some (.ref j), some (.int s), some (.ref A.n), none, none]) (A := A.push (.dct false 0 [])) (A0 := A.push (.dct false 0 [])) (j := some p) (items := T.map fun x => AV.tc (.str (nmT x)) (.tc (vT x) .tn))
    (by
      rw [← map_its nmT vT]
      refine wk_view (m := .its) (j := p) ?_ a2
      clear hc hs hTl hTl' pn pn' jn iN
      walk_at "zs") w.push (by rw [List.length_map]; omega) (fun i hi => by cases hi; exact ⟨pn, _, a2⟩) (fun d => kvO nmT vT (T.take d.length)) get_new (fun _ s1 => ∃ x4 x5, s1 = [some (.ref i), some (.ref j), some (.int s), some (.ref A.n), x4, x5]) ⟨none, none, rfl⟩ (by
      rintro dd v r s1 A' e ⟨x4, x5, rfl⟩ w' hf
      obtain ⟨x, hx, rfl, e1, e2⟩ := take_one e
      have hn : A.n < A'.n := w'.lt hf
      have k1 := set_dct (v := fq x.2) hf (show isK (.str x.1) = true from rfl) (by unfold kvO; rw [List.length_map, List.length_take]; omega)
      refine ⟨_, [some (.ref i), some (.ref j), some (.int s), some (.ref A.n), some (.str x.1), some (fq x.2)], A'.set A.n (.dct false 0 (dput (kvO nmT vT (T.take dd.length)) (.str x.1) (fq x.2))), rfl, ?_, (But.rfl' w').set hn, get_at.trans ?_, _, _, rfl⟩
      · clear hc hs hTl hTl' pn pn' jn iN e hn e1 e2
        walk_at "zs"
      · rw [dput_none (by rw [dget_lk, lk_none (e2 hT.dis)]; rfl), List.length_append]
        show some (AO.dct false 0 (kvO nmT vT (T.take dd.length) ++ [(.str x.1, fq x.2)])) = some (.dct false 0 (kvO nmT vT (T.take (dd.length + 1))))
        rw [e1]
        unfold kvO
        rw [List.map_append]
        rfl)
  rw [List.length_map, List.take_length] at b3
  have c1 : A2.get j = _ := b2.get _ _ jn (get_old w h1')
  have c2 : A2.get p' = _ := b2.get _ _ pn' (get_old w h2')
  have c3 : A2.get i = _ := b2.get _ _ iN (get_old w h1)
  -- other's
  obtain ⟨s2, A4, g1, ⟨y4, y5, rfl⟩, g2, g3⟩ := for_put (f := A.n) (t := tVal (pView .its) (eUn (pAttr D (cl (d + 4)) 34) (eVar 1))) (tg := .cons (.nm 4) (.cons (.nm 5) .nil)) (b := b_added_2 (cl (d + 4))) (s := [some (.ref i), some (.ref j), some (.int s), some (.ref A.n), x4, x5]) (A := A2) (A0 := A2) (j := some p') (items := T'.map fun x => AV.tc (.str (nmT x)) (.tc (vT x) .tn))
    (by
      rw [← map_its nmT vT]
      refine wk_view (m := .its) (j := p') ?_ c2
      clear hc hs hTl hTl' pn pn' jn iN
      walk_at "zs") b2.wf (by rw [List.length_map]; omega) (fun i hi => by cases hi; exact ⟨pn', _, c2⟩) (fun d => kvO nmT vT (addF s T T (T'.take d.length))) b3 (fun _ s1 => ∃ x4 x5, s1 = [some (.ref i), some (.ref j), some (.int s), some (.ref A.n), x4, x5]) ⟨x4, x5, rfl⟩ (by
      rintro dd v r s1 A' e ⟨x4, x5, rfl⟩ w' hf
      obtain ⟨x, hx, rfl, e1, e2⟩ := take_one e
      have hn : A.n < A'.n := w'.lt hf
      have hl2 := len_addF s T (T'.take dd.length) T
      rw [List.length_take] at hl2
      have lk : lkT (addF s T T (T'.take dd.length)) x.1 = lkT T x.1 := lk_addF s T _ _ (e2 hT'.dis)
      have k0 : pDGet (.ref A.n) [.str x.1, .tc (.int 0) (.tc (.int 1) .tn)] A' = .ok (fq (getT T x.1)) A' := by
        unfold getT
        cases z : lkT T x.1 with
        | none => exact dget_no hf rfl (by rw [dget_lk, lk, z]; rfl)
        | some y => exact dget_at hf rfl (by rw [dget_lk, lk, z]; rfl)
      have bd : (-9 ≤ (getT T x.1).num ∧ (getT T x.1).num ≤ 9) ∧ (getT T x.1).den ≤ 9 := by
        unfold getT
        cases z : lkT T x.1 with
        | none => exact by decide
        | some y =>
          have t1 := hT.top _ (lk_mem z)
          have t2 := hT.bot _ (lk_mem z)
          exact ⟨t1.2, t2.2⟩
      have t1 := hT'.top x hx
      have t2 := hT'.bot x hx
      have k2 := s_plus (d + 1) (getT T x.1) x.2 s hs bd.1 bd.2 t1.2 t2.2 A'
      have k1 := set_dct (v := fq (getT T x.1 + (s : Int) * x.2)) hf (show isK (.str x.1) = true from rfl) (by unfold kvO; rw [List.length_map]; omega)
      have f1 : (fits s || fits x.2.num) = true := by rw [fitsP (i := x.2.num) (by omega) (by omega), Bool.or_true]
      refine ⟨_, [some (.ref i), some (.ref j), some (.int s), some (.ref A.n), some (.str x.1), some (fq x.2)], A'.set A.n (.dct false 0 (dput (kvO nmT vT (addF s T T (T'.take dd.length))) (.str x.1) (fq (getT T x.1 + (s : Int) * x.2)))), rfl, ?_, (But.rfl' w').set hn, get_at.trans ?_, _, _, rfl⟩
      · unfold b_added_2
        clear hc hs hTl hTl' pn pn' jn iN e hn e1 e2 bd t1 t2 lk hl2
        walk_at "zs"
        rw [z_mul f1]
        walk_at "zs"
      · rw [dput_kv, List.length_append]
        show some (AO.dct false 0 (kvO nmT vT (putT (addF s T T (T'.take dd.length)) x.1 (getT T x.1 + (s : Int) * x.2)))) = some (.dct false 0 (kvO nmT vT (addF s T T (T'.take (dd.length + 1)))))
        rw [e1, addF_snoc])
  rw [List.length_map, List.take_length] at g3
  have m1 : A4.get j = _ := g2.get _ _ jn c1
  have m3 : A4.get i = _ := g2.get _ _ iN c3
  have hF := dis_addF s T T' T hT.dis
  have hFl := len_addF s T T' T
  -- what is not zero
  obtain ⟨B3, r2, n1, n2, n3, n4⟩ := dc_G (ent := fun x => AV.tc (.str (nmT x)) (.tc (vT x) .tn)) (nm := nmT) (k := eVar 4) (t := tVal (pView .its) (eVar 3)) (tg := .cons (.nm 4) (.cons (.nm 5) .nil)) (c := eBin (cmpPrim D (cl (d + 4)) .NotEq) (eBin (pIx D (cl (d + 4))) (eVar 5) (eC (.int 0))) (eC (.int 0))) (e := eVar 5) (own := [4, 5]) (s := [some (.ref i), some (.ref j), some (.int s), some (.ref A.n), y4, y5]) (A := A4) (A0 := A4) (j := some A.n) (L := addF s T T T')
    (inj_its hF) hF (by
      rw [← map_its nmT vT]
      exact wk_view (m := .its) (j := A.n) rfl g3) g2.wf (fun x => !decide (x.2.num = 0)) vT (by omega) (by
      intro x hx A1 A' hk hxx
      refine ⟨_, rfl, A', ?_, .rfl' hxx.wf, fun _ => ⟨A', rfl, .rfl' hxx.wf, A', rfl, .rfl' hxx.wf⟩⟩
      clear hc hs hTl hTl' pn pn' jn iN hF hFl
      walk_at "zs")
  rw [show (addF s T T T').filter (fun x => !decide (x.2.num = 0)) = addT s T T' from rfl, kv_raw] at n4
  obtain ⟨A5, k, o1, o2, o3⟩ := s_Sum d r2 0 (c + s * c') hc (rawT (addT s T T')) (okR_raw hok) B3 n2.wf n4
  rw [red_raw] at o3
  refine ⟨A5, k, ?_, ((But.new w (b2.trans g2)).trans n2).trans o2, o3⟩
  have f1 : (fits s || fits c') = true := by
    rcases hs with rfl | rfl <;> rfl
  rw [df_added]; unfold b_added b_added_6 b_added_5 b_added_4 b_added_3 b_added_1
  clear hc hs hTl hTl' pn pn' jn iN hF hFl
  unfold b_added_2 at g1
  walk_at "zs"
  rw [z_mul f1]
  walk_at "zs"
/-! the law's own values and terms -/
abbrev tri (x : Rw) : AV := .tc (.str x.1) (.tc (.int x.2.1) (.tc (.int (x.2.2 : Nat)) .tn))
theorem tri_inj {x y : Rw} (e : tri x = tri y) : x = y := by
  obtain ⟨a, b, c⟩ := x
  obtain ⟨a', b', c'⟩ := y
  injection e with e1 e2
  injection e1 with e1
  injection e2 with e2 e3
  injection e2 with e2
  injection e3 with e3 _
  injection e3 with e3
  have g3 : c = c' := Int.ofNat.inj e3
  have g1 : a = a' := e1
  have g2 : b = b' := e2
  rw [g1, g2, g3]
theorem take_ent {α : Type} {L : List α} {d r : List AV} {v : AV} {ent : α → AV} (e : L.map ent = d ++ v :: r) : ∃ x ∈ L, v = ent x ∧ L.take (d.length + 1) = L.take d.length ++ [x] ∧ d.length < L.length := by
  have hlen : d.length < L.length := by
    have := congrArg List.length e
    rw [List.length_map, List.length_append, List.length_cons] at this
    omega
  refine ⟨L[d.length], List.getElem_mem hlen, ?_, ?_, hlen⟩
  · have h1 : (L.map ent)[d.length]? = some v := by rw [e]; simp
    rw [List.getElem?_map, List.getElem?_eq_getElem hlen] at h1
    exact (Option.some.inj h1).symm
  · rw [List.take_succ, List.getElem?_eq_getElem hlen]
    rfl
theorem sumQ_app (vv : Str → Int) : ∀ S T : List Tm, sumQ vv (S ++ T) = sumQ vv S + sumQ vv T
  | [], T => by
    show sumQ vv T = 0 + sumQ vv T
    generalize sumQ vv T = a
    grind
  | x :: r, T => by
    show x.2 * (vv x.1 : Int) + sumQ vv (r ++ T) = x.2 * (vv x.1 : Int) + sumQ vv r + sumQ vv T
    rw [sumQ_app vv r T]
    generalize sumQ vv T = a
    generalize sumQ vv r = b
    generalize x.2 * ((vv x.1 : Int) : Rat) = z
    grind
theorem mk_step (top t v : Int) (bot b : Nat) (h1 : bot ≠ 0) (h2 : b ≠ 0) : mkRat (top * (b : Nat) + t * v * (bot : Nat)) (bot * b) = mkRat top bot + mkRat t b * (v : Int) := by
  rw [← Rat.mkRat_add_mkRat _ _ h1 h2]
  congr 1
  rw [Rat.mkRat_eq_div, Rat.mkRat_eq_div, Rat.intCast_mul]
  have hd : ((b : Nat) : Rat) ≠ 0 := by exact_mod_cast h2
  generalize ((b : Nat) : Rat) = z at *
  generalize ((t : Int) : Rat) = y
  generalize ((v : Int) : Rat) = x
  grind
theorem s_law_value (d r pv kv : Nat) (c : Int) (R : List Rw) (A : AH) (w : WF A) (hR : okR R) (hr : A.get r = some (.lst (R.map tri))) (V : List (AV × AV)) (vv : Str → Int) (hV : okV V vv (redR R)) (hp : A.get pv = some (.dct false kv V)) :
    ∃ A' top, ∃ bot : Nat, cl (d + 1) i_law_value [.tc (.int c) (.tc (.ref r) .tn), .ref pv] A = .ok (.tc (.int top) (.tc (.int bot) .tn)) A' ∧ Ext A A' ∧ 0 < bot ∧ bot ≤ 59049 ∧ mkRat top bot = valQ c (redR R) vv := by
  have hRl := hR.len
  obtain ⟨s', A1, e1, e2, top, bot, x4, x5, x6, rfl, e3, e4, e5⟩ := for_ext (t := tVal pIter (eBin (pIx D (cl d)) (eVar 0) (eC (.int 1)))) (tg := .cons (.nm 4) (.cons (.nm 5) (.cons (.nm 6) .nil))) (b := b_law_value_2 (cl d)) (s := [some (.tc (.int c) (.tc (.ref r) .tn)), some (.ref pv), some (.int c), some (.int 1), none, none, none]) (A := A) (A0 := A) (items := R.map tri) (j := some r)
    (wk_lst rfl hr) w (by rw [List.length_map]; omega) (fun i hi => by cases hi; exact ⟨_, hr⟩) (fun dd s _ => ∃ (top : Int) (bot : Nat) (x4 x5 x6 : Option AV), s = [some (.tc (.int c) (.tc (.ref r) .tn)), some (.ref pv), some (.int top), some (.int bot), x4, x5, x6] ∧ 0 < bot ∧ bot ≤ 9 ^ dd.length ∧ mkRat top bot = (c : Int) + sumQ vv (redR (R.take dd.length))) ⟨c, 1, none, none, none, rfl, by decide, by decide, by
      show mkRat c 1 = (c : Int) + 0
      rw [Rat.mkRat_eq_div]
      generalize ((c : Int) : Rat) = z
      have : ((1 : Nat) : Rat) = 1 := rfl
      rw [this]
      grind⟩ (by
      rintro dd v r' s A' e hx ⟨top, bot, x4, x5, x6, rfl, h1, h2, h3⟩
      obtain ⟨x, hx2, rfl, g1, g2⟩ := take_ent e
      obtain ⟨b1, b2⟩ := hR.bot x hx2
      have ht := hR.top x hx2
      obtain ⟨v1, v2, v3⟩ := hV (x.1, mkRat x.2.1 x.2.2) (List.mem_map_of_mem (f := fun x : Rw => (x.1, mkRat x.2.1 x.2.2)) hx2)
      have hp2 := hx.get _ _ hp
      have k1 := ix_dct (D := D) (cl := cl d) hp2 (show keyFor false (.str x.1) = true from rfl) v1
      have hb9 : bot * x.2.2 ≤ 9 ^ (dd.length + 1) := by
        rw [Nat.pow_succ]
        exact Nat.mul_le_mul h2 b2
      have hpw : (9 : Nat) ^ (dd.length) ≤ 9 ^ 5 := Nat.pow_le_pow_right (by decide) (by omega)
      have f1 : (fits top || fits ((x.2.2 : Nat) : Int)) = true := by rw [fitsP (i := ((x.2.2 : Nat) : Int)) (by omega) (by omega), Bool.or_true]
      have f2 : (fits x.2.1 || fits (vv x.1)) = true := by rw [fitsP (i := x.2.1) (by omega) (by omega), Bool.true_or]
      have f3 : (fits (x.2.1 * vv x.1) || fits ((bot : Nat) : Int)) = true := by rw [fitsP (i := ((bot : Nat) : Int)) (by omega) (by omega), Bool.or_true]
      have f4 : (fits ((bot : Nat) : Int) || fits ((x.2.2 : Nat) : Int)) = true := by rw [fitsP (i := ((x.2.2 : Nat) : Int)) (by omega) (by omega), Bool.or_true]
      refine ⟨_, [some (.tc (.int c) (.tc (.ref r) .tn)), some (.ref pv), some (.int (top * (x.2.2 : Nat) + x.2.1 * vv x.1 * (bot : Nat))), some (.int ((bot * x.2.2 : Nat) : Int)), some (.str x.1), some (.int x.2.1), some (.int (x.2.2 : Nat))], A', rfl, .inl ?_, .rfl' hx.wf, _, _, _, _, _, rfl, Nat.mul_pos h1 (by omega), ?_, ?_⟩
      · unfold b_law_value_2 b_law_value_1
        rw [Int.natCast_mul]
        clear e h1 h2 h3 ht v1 v2 v3 hb9 hpw b1 b2
        walk_at "zs"
        rw [z_mul f1]
        walk_at "zs"
        rw [z_mul f2]
        walk_at "zs"
        rw [z_mul f3]
        walk_at "zs"
        rw [z_mul f4]
        walk_at "zs"
      · rw [List.length_append]
        exact hb9
      · rw [List.length_append]
        show _ = (c : Int) + sumQ vv (redR (R.take (dd.length + 1)))
        rw [mk_step _ _ _ _ _ (by omega) (by omega), h3, g1]
        unfold redR
        rw [List.map_append, sumQ_app]
        show _ = (c : Int) + (sumQ vv (redR (R.take dd.length)) + (mkRat x.2.1 x.2.2 * (vv x.1 : Int) + 0))
        have hz : ∀ z a y : Rat, z + a + y = z + (a + (y + 0)) := by intros; grind
        exact hz _ _ _)
  rw [List.length_map, List.take_length] at e5
  rw [List.length_map] at e4
  refine ⟨A1, top, bot, ?_, e2, e3, Nat.le_trans e4 (Nat.pow_le_pow_right (by decide) hRl), e5⟩
  rw [df_law_value]; unfold b_law_value b_law_value_4 b_law_value_3
  unfold b_law_value_2 b_law_value_1 at e1
  clear e3 e4 e5 hRl
  walk_at "zs"
def NM : List Str := ["a", "b", "tank", "seen", "xyz"]
theorem NM_ok : ∀ x ∈ NM, nOk x := by unfold nOk; decide +kernel
theorem NM_dis : NM.Pairwise (· ≠ ·) := by decide +kernel
/-! the law's terms -/
def L1 (n : Nat) : List (Nat × Str) := (NM.take n).mapIdx fun i s => (i, s)
theorem L1_facts (n : Nat) (h1 : 1 ≤ n) (h5 : n ≤ 5) : cutA [AV.str "a", AV.str "b", AV.str "tank", AV.str "seen", AV.str "xyz"] none (some (n : Int)) = (NM.take n).map AV.str ∧ (((NM.take n).map AV.str).mapIdx fun i v => AV.tc (.int (i : Nat)) (.tc v .tn)) = (L1 n).map (fun x => AV.tc (.int (x.1 : Nat)) (.tc (.str x.2) .tn)) ∧ (L1 n).length ≤ 5 ∧ ((L1 n).Pairwise fun x y => x.2 ≠ y.2) ∧ ∀ x ∈ L1 n, x.1 < 5 ∧ x.2 ∈ NM := by
  have : n = 1 ∨ n = 2 ∨ n = 3 ∨ n = 4 ∨ n = 5 := by omega
  rcases this with rfl | rfl | rfl | rfl | rfl <;> exact ⟨rfl, rfl, by decide +kernel, by decide +kernel, by decide +kernel⟩
def topP (sd : Int) (i : Nat) : Int := 1 + (sd.fdiv (3 + (i : Nat))).fmod 9
def botP (sd : Int) (i : Nat) : Int := 1 + (sd.fdiv (11 + 5 * (i : Nat))).fmod 9
def R0 (sd : Int) (n : Nat) : List Rw := (L1 n).map fun x => (x.2, topP sd x.1, (botP sd x.1).toNat)
def sgP (sd : Int) (x : Rw) : Int := if (sd.fdiv (7 + x.2.1)).fmod 2 = 0 then 1 else -1
def RP (sd : Int) (n : Nat) : List Rw := (R0 sd n).map fun x => (x.1, sgP sd x * x.2.1, x.2.2)
def f3V : AV → AV
  | .tc (.tc a (.tc (.int t) (.tc b .tn))) (.tc (.int s) .tn) => .tc a (.tc (.int (s * t)) (.tc b .tn))
  | v => v
theorem top_b (sd : Int) (i : Nat) : 1 ≤ topP sd i ∧ topP sd i ≤ 9 := by
  unfold topP
  obtain ⟨a1, a2, a3⟩ := div_facts (sd.fdiv (3 + (i : Nat))) (show (0 : Int) < 9 by decide)
  omega
theorem bot_b (sd : Int) (i : Nat) : 1 ≤ botP sd i ∧ botP sd i ≤ 9 := by
  unfold botP
  obtain ⟨a1, a2, a3⟩ := div_facts (sd.fdiv (11 + 5 * (i : Nat))) (show (0 : Int) < 9 by decide)
  omega
theorem sg_b (sd : Int) (x : Rw) : sgP sd x = 1 ∨ sgP sd x = -1 := by
  unfold sgP
  split
  · exact .inl rfl
  · exact .inr rfl
theorem R0_facts (sd : Int) (n : Nat) (h1 : 1 ≤ n) (h5 : n ≤ 5) : ∀ x ∈ R0 sd n, (1 ≤ x.2.1 ∧ x.2.1 ≤ 9) ∧ (1 ≤ x.2.2 ∧ x.2.2 ≤ 9) ∧ x.1 ∈ NM := by
  intro x hx
  obtain ⟨y, hy, rfl⟩ := List.mem_map.mp hx
  have b := bot_b sd y.1
  refine ⟨top_b sd y.1, ?_, ((L1_facts n h1 h5).2.2.2.2 y hy).2⟩
  show 1 ≤ (botP sd y.1).toNat ∧ (botP sd y.1).toNat ≤ 9
  omega
theorem RP_ok (sd : Int) (n : Nat) (h1 : 1 ≤ n) (h5 : n ≤ 5) : okR (RP sd n) ∧ ∀ x ∈ RP sd n, x.1 ∈ NM := by
  obtain ⟨e1, e2, e3, e4, e5⟩ := L1_facts n h1 h5
  have hn : ∀ x ∈ RP sd n, x.1 ∈ NM := by
    intro x hx
    obtain ⟨y, hy, rfl⟩ := List.mem_map.mp hx
    exact (R0_facts sd n h1 h5 y hy).2.2
  refine ⟨⟨?_, ?_, fun x hx => NM_ok _ (hn x hx), ?_, ?_⟩, hn⟩
  · unfold RP R0
    rw [List.length_map, List.length_map]
    exact e3
  · unfold RP R0
    rw [List.map_map, List.pairwise_map]
    exact e4
  · intro x hx
    obtain ⟨y, hy, rfl⟩ := List.mem_map.mp hx
    have b := (R0_facts sd n h1 h5 y hy).1
    show sgP sd y * y.2.1 ≠ 0 ∧ -9 ≤ sgP sd y * y.2.1 ∧ sgP sd y * y.2.1 ≤ 9
    rcases sg_b sd y with e | e <;> rw [e] <;> omega
  · intro x hx
    obtain ⟨y, hy, rfl⟩ := List.mem_map.mp hx
    exact (R0_facts sd n h1 h5 y hy).2.1
theorem s_law_parts (d : Nat) (sd : Int) (A : AH) (w : WF A) : ∃ (A' : AH) (r : Nat) (c : Int) (R : List Rw), cl (d + 1) i_law_parts [.int sd] A = .ok (.tc (.int c) (.tc (.ref r) .tn)) A' ∧ Ext A A' ∧ A'.get r = some (.lst (R.map tri)) ∧ okR R ∧ (∀ x ∈ R, x.1 ∈ NM) ∧ -30 ≤ c ∧ c ≤ 29 := by
  obtain ⟨m1, m2, m3⟩ := div_facts sd (show (0 : Int) < 5 by decide)
  obtain ⟨c1, c2, c3⟩ := div_facts (sd.fdiv 50) (show (0 : Int) < 60 by decide)
  obtain ⟨n, hn, h1, h5⟩ : ∃ n : Nat, 1 + sd.fmod 5 = (n : Int) ∧ 1 ≤ n ∧ n ≤ 5 := ⟨(1 + sd.fmod 5).toNat, by omega, by omega, by omega⟩
  obtain ⟨e1, e2, e3, e4, e5⟩ := L1_facts n h1 h5
  obtain ⟨A1, hA1⟩ : ∃ A1, A1 = A.push (.lst [AV.str "a", AV.str "b", AV.str "tank", AV.str "seen", AV.str "xyz"]) := ⟨_, rfl⟩
  have w1 : WF A1 := by rw [hA1]; exact w.push
  have x1 : Ext A A1 := by rw [hA1]; exact .push w
  have g1 : A1.get A.n = some (.lst [AV.str "a", AV.str "b", AV.str "tank", AV.str "seen", AV.str "xyz"]) := by rw [hA1]; exact get_new
  have sl := slice_lst (lo := none) (hi := some (n : Int)) g1 (by rw [e1, List.length_map, List.length_take]; omega)
  rw [e1] at sl
  obtain ⟨A2, hA2⟩ : ∃ A2, A2 = A1.push (.lst ((NM.take n).map AV.str)) := ⟨_, rfl⟩
  rw [← hA2] at sl
  have w2 : WF A2 := by rw [hA2]; exact w1.push
  have x2 : Ext A1 A2 := by rw [hA2]; exact .push w1
  have g2 : A2.get A1.n = some (.lst ((NM.take n).map AV.str)) := by rw [hA2]; exact get_new
  -- the terms
  obtain ⟨A3, r3, b1, b2, b3, b4⟩ := lc_G (ent := fun x : Nat × Str => AV.tc (.int (x.1 : Nat)) (.tc (.str x.2) .tn)) (L := L1 n) (t := tArg pEnum (lCons (eVar 1) lNil)) (tg := .cons (.nm 4) (.cons (.nm 5) .nil)) (c := eC (.bl true)) (e := eTup (lCons (eVar 5) (lCons (eBin (opPrim D (cl d) .Add) (eC (.int 1)) (eBin (opPrim D (cl d) .Mod) (eBin (opPrim D (cl d) .FloorDiv) (eVar 0) (eBin (opPrim D (cl d) .Add) (eC (.int 3)) (eVar 4))) (eC (.int 9)))) (lCons (eBin (opPrim D (cl d) .Add) (eC (.int 1)) (eBin (opPrim D (cl d) .Mod) (eBin (opPrim D (cl d) .FloorDiv) (eVar 0) (eBin (opPrim D (cl d) .Add) (eC (.int 11)) (eBin (opPrim D (cl d) .Mult) (eC (.int 5)) (eVar 4)))) (eC (.int 9)))) lNil)))) (own := [4, 5]) (s := [some (.int sd), some (.ref A1.n), none, none, none, none, none, none, none, none]) (A := A2) (A0 := A2) (j := some A1.n)
    (by
      rintro ⟨a, b⟩ _ ⟨a', b'⟩ _ e
      injection e with q1 q2
      injection q1 with q1
      injection q2 with q2 _
      injection q2 with q2
      have p1 : a = a' := Int.ofNat.inj q1
      have p2 : b = b' := q2
      rw [p1, p2]) (by rw [← e2]; exact wk_enum (j := A1.n) rfl g2) w2 (fun _ => true) (fun x => tri (x.2, topP sd x.1, (botP sd x.1).toNat)) (by omega) (by
      intro x hx A' A'' hk hxx
      have hi := (e5 x hx).1
      have hb : (((botP sd x.1).toNat : Nat) : Int) = botP sd x.1 := by have := bot_b sd x.1; omega
      refine ⟨_, rfl, A'', rfl, .rfl' hxx.wf, fun _ => ⟨A'', ?_, .rfl' hxx.wf⟩⟩
      unfold tri
      rw [hb]
      clear hb hn e1 e2 e3 e4 e5 m1 m2 m3 c1 c2 c3
      walk_at "zs"
      rw [z_fdiv (okDivP (by omega) (by omega))]
      walk_at "zs"
      rw [z_modi (by decide)]
      walk_at "zs"
      rw [z_mul (by rw [fitsP (i := 5) (by omega) (by omega), Bool.true_or])]
      walk_at "zs"
      rw [z_fdiv (okDivP (by omega) (by omega))]
      walk_at "zs"
      rw [z_modi (by decide)]
      walk_at "zs"
      rfl)
  rw [filter_true, show (L1 n).map (fun x => tri (x.2, topP sd x.1, (botP sd x.1).toNat)) = (R0 sd n).map tri by unfold R0; rw [List.map_map]; rfl] at b4
  have hRl : (R0 sd n).length ≤ 5 := by unfold R0; rw [List.length_map]; exact e3
  -- the signs
  obtain ⟨A4, r4, d1, d2, d3, d4⟩ := lc_G (ent := tri) (L := R0 sd n) (t := tVal pIter (eVar 2)) (tg := .cons (.nm 5) (.cons (.nm 6) (.cons (.nm 7) .nil))) (c := eC (.bl true)) (e := eIf (eBin (cmpPrim D (cl d) .Eq) (eBin (opPrim D (cl d) .Mod) (eBin (opPrim D (cl d) .FloorDiv) (eVar 0) (eBin (opPrim D (cl d) .Add) (eC (.int 7)) (eVar 6))) (eC (.int 2))) (eC (.int 0))) (eC (.int 1)) (eUn (pNeg D (cl d)) (eC (.int 1)))) (own := [5, 6, 7]) (s := [some (.int sd), some (.ref A1.n), some (.ref r3), none, none, none, none, none, none, none]) (A := A3) (A0 := A3) (j := some r3)
    (fun x _ y _ e => tri_inj e) (wk_lst (j := r3) rfl b4) b2.wf (fun _ => true) (fun x => .int (sgP sd x)) (by omega) (by
      intro x hx A' A'' hk hxx
      obtain ⟨t1, t2, t3⟩ := R0_facts sd n h1 h5 x hx
      refine ⟨_, rfl, A'', rfl, .rfl' hxx.wf, fun _ => ⟨A'', ?_, .rfl' hxx.wf⟩⟩
      unfold sgP
      clear hn e1 e2 e3 e4 e5 m1 m2 m3 c1 c2 c3
      walk_at "zs"
      rw [z_fdiv (okDivP (by omega) (by omega))]
      walk_at "zs"
      rw [z_modi (by decide)]
      walk_at "zs"
      by_cases z : (sd.fdiv (7 + x.2.1)).fmod 2 = 0
      · rw [decide_eq_true z, if_pos z]
        rfl
      · rw [decide_eq_false z, if_neg z]
        rfl)
  rw [filter_true] at d4
  have b5 := d2.get _ _ b4
  -- together
  obtain ⟨z1, z2⟩ := zip_core (l := lCons (eVar 2) (lCons (eVar 3) lNil)) (s := [some (.int sd), some (.ref A1.n), some (.ref r3), some (.ref r4), none, none, none, none, none, none]) (A := A4) (A1 := A4) (i := r3) (j := r4) rfl b5 d4
  have hz : (((R0 sd n).map tri).zip ((R0 sd n).map fun x => AV.int (sgP sd x))).map (fun p => AV.tc p.1 (.tc p.2 .tn)) = (R0 sd n).map fun x => AV.tc (tri x) (.tc (.int (sgP sd x)) .tn) := by
    rw [List.zip_map', List.map_map]
    rfl
  rw [hz] at z2
  obtain ⟨A5, r5, f1, f2, f3, f4⟩ := lc_core (tg := .cons (.nm 8) (.cons (.nm 9) .nil)) (c := eC (.bl true)) (e := eTup (lCons (eBin (pIx D (cl d)) (eVar 8) (eC (.int 0))) (lCons (eBin (opPrim D (cl d) .Mult) (eVar 9) (eBin (pIx D (cl d)) (eVar 8) (eC (.int 1)))) (lCons (eBin (pIx D (cl d)) (eVar 8) (eC (.int 2))) lNil)))) (own := [8, 9]) z1 z2 d2.wf (fun _ => true) f3V (by rw [List.length_map]; omega) (by
      intro v hv A' hxx
      obtain ⟨x, hx, rfl⟩ := List.mem_map.mp hv
      refine ⟨_, rfl, A', rfl, .rfl' hxx.wf, fun _ => ⟨A', ?_, .rfl' hxx.wf⟩⟩
      have f : (fits (sgP sd x) || fits x.2.1) = true := by rcases sg_b sd x with e | e <;> rw [e] <;> rfl
      unfold f3V
      clear hn e1 e2 e3 e4 e5 m1 m2 m3 c1 c2 c3
      walk_at "zs"
      rw [z_mul f]
      walk_at "zs")
  rw [filter_true, List.map_map, show (R0 sd n).map (f3V ∘ fun x => AV.tc (tri x) (.tc (.int (sgP sd x)) .tn)) = (RP sd n).map tri by unfold RP; rw [List.map_map]; rfl] at f4
  obtain ⟨k1, k2⟩ := RP_ok sd n h1 h5
  refine ⟨A5, r5, (sd.fdiv 50).fmod 60 - 30, RP sd n, ?_, (((x1.trans x2).trans b2).trans d2).trans f2, f4, k1, k2, by omega, by omega⟩
  rw [df_law_parts]; unfold b_law_parts b_law_parts_4 b_law_parts_3 b_law_parts_2 b_law_parts_1
  clear e1 e2 e3 e4 e5 m1 m2 m3 c1 c2 c3 k1 k2 b4 b5 d4 f4 hz z1 z2 g1 g2 b3 d3 f3 h1 h5 hRl hA2
  subst hA1
  walk_at "zs"
  rw [z_modi (by decide)]
  walk_at "zs"
  rw [z_fdiv (okDivP (by decide) (by decide))]
  walk_at "zs"
  rw [z_modi (by decide)]
  walk_at "zs"
theorem s_law_made (d r : Nat) (c : Int) (hc : -99 ≤ c ∧ c ≤ 99) (R : List Rw) (hR : okR R) (A : AH) (w : WF A) (hr : A.get r = some (.lst (R.map tri))) :
    ∃ A' i, cl (d + 5) i_law_made [.tc (.int c) (.tc (.ref r) .tn)] A = .ok (.ref i) A' ∧ Ext A A' ∧ isSum A' i c (redR R) := by
  have hRl := hR.len
  obtain ⟨A3, r3, b1, b2, b3, b4⟩ := lc_G (ent := tri) (L := R) (t := tVal pIter (eBin (pIx D (cl (d + 4))) (eVar 0) (eC (.int 1)))) (tg := .cons (.nm 1) (.cons (.nm 2) (.cons (.nm 3) .nil))) (c := eC (.bl true)) (e := eTup (lCons (eVar 1) (lCons (eTup (lCons (eVar 2) (lCons (eVar 3) lNil))) lNil))) (own := [1, 2, 3]) (s := [some (.tc (.int c) (.tc (.ref r) .tn)), none, none, none]) (A := A) (A0 := A) (j := some r)
    (fun x _ y _ e => tri_inj e) (wk_lst (j := r) rfl hr) w (fun _ => true) (fun x => AV.tc (.str (nmR x)) (.tc (vR x) .tn)) (by omega) (by
      intro x hx A' A'' hk hxx
      exact ⟨_, rfl, A'', rfl, .rfl' hxx.wf, fun _ => ⟨A'', rfl, .rfl' hxx.wf⟩⟩)
  rw [filter_true] at b4
  have b5 := dictC_str hR.dis b4
  obtain ⟨A', i, e1, e2, e3⟩ := s_Sum d A3.n 0 c hc R hR (A3.push (.dct false 0 (kvO nmR vR R))) b2.wf.push get_new
  refine ⟨A', i, ?_, (b2.trans (.push b2.wf)).trans e2, e3⟩
  rw [df_law_made]; unfold b_law_made
  clear hRl hc b4
  walk_at "zs"
/-! sums as operators use them -/
theorem add_sum (d i j : Nat) (c c' : Int) (T T' : List Tm) (A : AH) (w : WF A) (hT : okT T) (hT' : okT T') (h : isSum A i c T) (h' : isSum A j c' T') (hc : -99 ≤ c + c' ∧ c + c' ≤ 99) (hok : okT (addT 1 T T')) :
    ∃ A' k, opPrim D (cl (d + 6)) .Add (.ref i) (.ref j) A = .ok (.ref k) A' ∧ Ext A A' ∧ isSum A' k (c + c') (addT 1 T T') := by
  obtain ⟨A', k, e1, e2, e3⟩ := s_added d i j c c' 1 (.inl rfl) T T' A w hT hT' h h' (by omega) hok
  have e4 : cl (d + 6) i_Sum_add_ [.ref i, .ref j] A = .ok (.ref k) A' := by
    rw [df_Sum_add_]; unfold b_Sum_add_
    clear hc
    walk_at "zs"
  rw [Int.one_mul] at e3
  obtain ⟨p, q, h1, _⟩ := h
  obtain ⟨p', q', h1', _⟩ := h'
  exact ⟨A', k, add_ins h1 h1' at_Sum_4 (by rw [ck_Sum_add__2]; exact e4), e2, e3⟩
theorem sub_sum (d i j : Nat) (c c' : Int) (T T' : List Tm) (A : AH) (w : WF A) (hT : okT T) (hT' : okT T') (h : isSum A i c T) (h' : isSum A j c' T') (hc : -99 ≤ c - c' ∧ c - c' ≤ 99) (hok : okT (addT (-1) T T')) :
    ∃ A' k, opPrim D (cl (d + 6)) .Sub (.ref i) (.ref j) A = .ok (.ref k) A' ∧ Ext A A' ∧ isSum A' k (c - c') (addT (-1) T T') := by
  obtain ⟨A', k, e1, e2, e3⟩ := s_added d i j c c' (-1) (.inr rfl) T T' A w hT hT' h h' (by omega) hok
  have e4 : cl (d + 6) i_Sum_sub_ [.ref i, .ref j] A = .ok (.ref k) A' := by
    rw [df_Sum_sub_]; unfold b_Sum_sub_
    clear hc
    walk_at "zs"
  rw [show c + -1 * c' = c - c' by omega] at e3
  obtain ⟨p, q, h1, _⟩ := h
  obtain ⟨p', q', h1', _⟩ := h'
  exact ⟨A', k, sub_ins h1 h1' at_Sum_5 (by rw [ck_Sum_sub__2]; exact e4), e2, e3⟩
theorem getT_at {T : List Tm} (hd : T.Pairwise fun x y => nmT x ≠ nmT y) {x : Tm} (hx : x ∈ T) : getT T x.1 = x.2 := by
  have h := dget_some (nm := nmT) (f := vT) hd hx
  rw [dget_lk] at h
  unfold getT
  cases e : lkT T x.1 with
  | none => rw [e] at h; cases h
  | some q =>
    have hm := lk_mem e
    obtain ⟨i, hi, e1⟩ := List.getElem_of_mem hm
    obtain ⟨j, hj, e2⟩ := List.getElem_of_mem hx
    have := List.pairwise_iff_getElem.mp hd
    rcases Nat.lt_trichotomy i j with g | g | g
    · exact absurd (show nmT T[i] = nmT T[j] by rw [e1, e2]) (this i j hi hj g)
    · subst g
      rw [e1] at e2
      rw [← e2]
      rfl
    · exact absurd (show nmT T[j] = nmT T[i] by rw [e1, e2]) (this j i hj hi g)
theorem put_mid {D r : List Tm} {x : Tm} {q : Rat} (h1 : ∀ y ∈ D, y.1 ≠ x.1) (h2 : ∀ y ∈ r, y.1 ≠ x.1) : putT (D ++ x :: r) x.1 q = D ++ (x.1, q) :: r := by
  have hs : ∀ L : List Tm, (∀ y ∈ L, y.1 ≠ x.1) → setT L x.1 q = L := by
    intro L hL
    unfold setT
    conv => rhs; rw [← List.map_id L]
    refine List.map_congr_left fun y hy => ?_
    rw [if_neg (hL y hy)]
    rfl
  unfold putT
  have hk : lkT (D ++ x :: r) x.1 = some x.2 := by
    rw [lk_app (lk_none h1)]
    unfold lkT
    rw [if_pos rfl]
  rw [hk]
  show setT (D ++ x :: r) x.1 q = _
  unfold setT
  rw [List.map_append, List.map_cons, if_pos rfl]
  have e1 := hs D h1
  have e2 := hs r h2
  unfold setT at e1 e2
  rw [e1, e2]
theorem self_gone (T : List Tm) (hd : T.Pairwise fun x y => nmT x ≠ nmT y) : ∀ (L Dn : List Tm), (∀ x ∈ L, getT T x.1 = x.2) → (L.Pairwise fun x y => nmT x ≠ nmT y) → (∀ y ∈ Dn, ∀ x ∈ L, y.1 ≠ x.1) → addF (-1) T (Dn ++ L) L = Dn ++ L.map fun x => (x.1, 0)
  | [], Dn, _, _, _ => rfl
  | x :: r, Dn, hg, hp, hD => by
    rw [List.pairwise_cons] at hp
    show addF (-1) T (putT (Dn ++ x :: r) x.1 (getT T x.1 + ((-1 : Int) : Rat) * x.2)) r = _
    have hz : getT T x.1 + ((-1 : Int) : Rat) * x.2 = 0 := by
      rw [hg x (List.mem_cons_self ..)]
      have : ((-1 : Int) : Rat) = -1 := rfl
      rw [this]
      generalize x.2 = q
      grind
    rw [hz, put_mid (fun y hy => hD y hy x (List.mem_cons_self ..)) (fun y hy => (hp.1 y hy).symm)]
    have := self_gone T hd r (Dn ++ [(x.1, 0)]) (fun y hy => hg y (List.mem_cons_of_mem _ hy)) hp.2 (fun y hy z hz => by
      rcases List.mem_append.mp hy with hy | hy
      · exact hD y hy z (List.mem_cons_of_mem _ hz)
      · rw [List.mem_singleton] at hy
        subst hy
        exact hp.1 z hz)
    rw [List.append_assoc, List.append_assoc] at this
    exact this
theorem addT_self {T : List Tm} (hT : okT T) : addT (-1) T T = [] := by
  unfold addT
  have h := self_gone T hT.dis T [] (fun x hx => getT_at hT.dis hx) hT.dis (fun y hy => by cases hy)
  rw [List.nil_append] at h
  rw [h, List.nil_append, List.filter_eq_nil_iff]
  intro x hx
  obtain ⟨y, hy, rfl⟩ := List.mem_map.mp hx
  simp
theorem okT_nil : okT [] := ⟨by decide, List.Pairwise.nil, fun _ h => absurd h List.not_mem_nil, fun _ h => absurd h List.not_mem_nil, fun _ h => absurd h List.not_mem_nil⟩
theorem okT_rev {T : List Tm} (h : okT T) : okT T.reverse := by
  refine ⟨by rw [List.length_reverse]; exact h.len, ?_, fun x hx => h.nam x (List.mem_reverse.mp hx), fun x hx => h.top x (List.mem_reverse.mp hx), fun x hx => h.bot x (List.mem_reverse.mp hx)⟩
  rw [List.pairwise_reverse]
  exact h.dis.imp fun h => h.symm
theorem disp_new {A : AH} (w : WF A) (o : AO) : Ext A ((A.push (.dct false 0 [])).set A.n o) ∧ ((A.push (.dct false 0 [])).set A.n o).get A.n = some o :=
  ⟨(Ext.push w).set w (Nat.le_refl _) (Nat.lt_succ_self _), get_at⟩
theorem okV_neg {V : List (AV × AV)} {vv : Str → Int} {T : List Tm} (h : okV V vv T) : okV V vv (negT T) := by
  intro x hx
  obtain ⟨y, hy, rfl⟩ := List.mem_map.mp hx
  exact h y hy
def RA : List Rw := [("a", 1, 2), ("b", 2, 3)]
def RB : List Rw := [("b", 1, 3), ("xyz", -1, 1)]
def RC : List Rw := [("a", 1, 2), ("b", 1, 1), ("xyz", -1, 1)]
theorem RA_ok : okR RA := ⟨by decide, by decide +kernel, by unfold nOk; decide +kernel, by decide +kernel, by decide +kernel⟩
theorem RB_ok : okR RB := ⟨by decide, by decide +kernel, by unfold nOk; decide +kernel, by decide +kernel, by decide +kernel⟩
theorem RC_ok : okR RC := ⟨by decide, by decide +kernel, by unfold nOk; decide +kernel, by decide +kernel, by decide +kernel⟩
theorem sum_AB : addT 1 (redR RA) (redR RB) = redR RC := by decide +kernel
theorem sum_CB : addT (-1) (redR RC) (redR RB) = redR RA := by decide +kernel
theorem sum_AnB : addT (-1) (redR RA) (negT (redR RB)) = redR RC := by decide +kernel
/-! the law on sums -/
abbrev SS (sd os c : Int) (r pv : Nat) (x4 x5 x6 : Option AV) (one due : Nat) (x9 x10 x11 x12 x13 : Option AV) : Sl := [some (.int sd), some (.int os), some (.tc (.int c) (.tc (.ref r) .tn)), some (.ref pv), x4, x5, x6, some (.ref one), some (.ref due), x9, x10, x11, x12, x13]
theorem disp_R (A : AH) (w : WF A) (R : List Rw) (vs : List AV) (hu : unPair vs = some (kvO nmR vR R)) (hR : okR R) :
    ∃ A1, fDisp (.ok vs (A.push (.dct false 0 []))) A.n = .ok (.ref A.n) A1 ∧ Ext A A1 ∧ A1.get A.n = some (.dct false 0 (kvO nmR vR R)) := by
  have hl := hR.len
  have h := disp_ok (n := A.n) hu (by unfold kvO; rw [List.length_map]; omega) (get_new (A := A) (o := .dct false 0 []))
  rw [show dmerge [] (kvO nmR vR R) = kvO nmR vR R from (merge_str (acc := []) (fun _ _ => rfl) hR.dis).trans (List.nil_append _)] at h
  exact ⟨_, h, disp_new w _⟩
section
variable (d : Nat) (sd os c : Int) (r pv one due : Nat) (hc : -30 ≤ c ∧ c ≤ 29)
include hc
theorem sr4 (A : AH) (w : WF A) (x4 x5 x6 x9 x10 x11 x12 x13 : Option AV) : ∃ A', b_law_sum_right_4 (cl (d + 6)) (SS sd os c r pv x4 x5 x6 one due x9 x10 x11 x12 x13) A = .rt (.bl true) A' ∧ Ext A A' := by
  unfold b_law_sum_right_4 b_law_sum_right_3 b_law_sum_right_2
  have zm : ∀ A, opPrim D (cl (d + 6)) .Mod (.int os) (.int 60) A = .ok (.int (os.fmod 60)) A := fun A => z_modi (by decide)
  obtain ⟨m1, m2, m3⟩ := div_facts os (show (0 : Int) < 60 by decide)
  obtain ⟨A1, a1, a2, a3⟩ := disp_R A w RA [.str "a", .tc (.int 1) (.tc (.int 2) .tn), .str "b", .tc (.int 2) (.tc (.int 3) .tn)] rfl RA_ok
  obtain ⟨A2, i1, b1, b2, b3⟩ := s_Sum (d + 2) A.n 0 c (by omega) RA RA_ok A1 a2.wf a3
  obtain ⟨A3, c1, c2, c3⟩ := disp_R A2 b2.wf RB [.str "b", .tc (.int 1) (.tc (.int 3) .tn), .str "xyz", .tc (.int (-1)) (.tc (.int 1) .tn)] rfl RB_ok
  obtain ⟨A4, i2, d1, d2, d3⟩ := s_Sum (d + 2) A2.n 0 (os.fmod 60 - 30) (by omega) RB RB_ok A3 c2.wf c3
  obtain ⟨A5, e1, e2, e3⟩ := disp_R A4 d2.wf RC [.str "a", .tc (.int 1) (.tc (.int 2) .tn), .str "b", .tc (.int 1) (.tc (.int 1) .tn), .str "xyz", .tc (.int (-1)) (.tc (.int 1) .tn)] rfl RC_ok
  obtain ⟨A6, i3, f1, f2, f3⟩ := s_Sum (d + 2) A4.n 0 (c + os.fmod 60 - 30) (by omega) RC RC_ok A5 e2.wf e3
  have TA := okT_red RA_ok
  have TB := okT_red RB_ok
  have TC := okT_red RC_ok
  have s2 : isSum A6 i2 (os.fmod 60 - 30) (redR RB) := d3.mono (e2.trans f2)
  have s1 : isSum A6 i1 c (redR RA) := b3.mono ((c2.trans d2).trans (e2.trans f2))
  obtain ⟨A7, j1, g1, g2, g3⟩ := add_sum d i1 i2 c (os.fmod 60 - 30) _ _ A6 f2.wf TA TB s1 s2 (by omega) (by rw [sum_AB]; exact TC)
  rw [sum_AB, show c + (os.fmod 60 - 30) = c + os.fmod 60 - 30 by omega] at g3
  have q1 := eq_sumT false (d + 5) j1 i3 _ _ _ A7 TC TC g3 (f3.mono g2) rfl (fun _ h => h)
  obtain ⟨A8, j2, h1, h2, h3⟩ := sub_sum d i3 i2 (c + os.fmod 60 - 30) (os.fmod 60 - 30) _ _ A7 g2.wf TC TB (f3.mono g2) (s2.mono g2) (by omega) (by rw [sum_CB]; exact TA)
  rw [sum_CB, show c + os.fmod 60 - 30 - (os.fmod 60 - 30) = c by omega] at h3
  have q2 := eq_sumT false (d + 5) j2 i1 _ _ _ A8 TA TA h3 (s1.mono (g2.trans h2)) rfl (fun _ h => h)
  obtain ⟨A9, j3, k1, k2, k3⟩ := neg_sum (d + 1) i2 (os.fmod 60 - 30) (by omega) _ A8 h2.wf TB (s2.mono (g2.trans h2))
  obtain ⟨A10, j4, l1, l2, l3⟩ := sub_sum d i1 j3 c (-(os.fmod 60 - 30)) _ _ A9 k2.wf TA (okT_neg TB) (s1.mono ((g2.trans h2).trans k2)) k3 (by omega) (by rw [sum_AnB]; exact TC)
  rw [sum_AnB, show c - -(os.fmod 60 - 30) = c + os.fmod 60 - 30 by omega] at l3
  have q3 := eq_sumT false (d + 5) j4 i3 _ _ _ A10 TC TC l3 (f3.mono (((g2.trans h2).trans k2).trans l2)) rfl (fun _ h => h)
  simp only [eqOp, cond_false, neB] at q1 q2 q3
  refine ⟨A10, ?_, (((((((((a2.trans b2).trans c2).trans d2).trans e2).trans f2).trans g2).trans h2).trans k2).trans l2)⟩
  clear m1 m2 m3 a3 b3 c3 d3 e3 f3 g3 h3 k3 l3 hc TA TB TC s1 s2
  walk_at "zs"
variable (T : List Tm) (hT : okT T) (hNM : ∀ x ∈ T, x.1 ∈ NM)
include hT hNM
theorem no_none : dget (kvO nmT vT T) (.str "none") = none := dget_none fun x hx e => by
  have h := hNM x hx
  rw [show x.1 = _ from e] at h
  revert h
  decide +kernel
theorem sr6 (A : AH) (w : WF A) (h1 : isSum A one c T) (h2 : A.get due = some (.dct false 0 (kvO nmT vT T))) (x4 x5 x6 x9 x10 x11 x12 x13 : Option AV) : ∃ A', b_law_sum_right_6 (cl (d + 6)) (SS sd os c r pv x4 x5 x6 one due x9 x10 x11 x12 x13) A = .rt (.bl true) A' ∧ Ext A A' := by
  unfold b_law_sum_right_6 b_law_sum_right_5
  have hTl := hT.len
  have hR := okR_raw hT
  have hRr := okR_raw (okT_rev hT)
  have l1 := listC_dct (by omega) h2
  obtain ⟨B1, hB1⟩ : ∃ B1, B1 = A.push (.lst (T.map fun x => AV.str (nmT x))) := ⟨_, rfl⟩
  rw [← hB1] at l1
  have e1 : Ext A B1 := by rw [hB1]; exact .push w
  have g1 : B1.get A.n = some (.lst (T.map fun x => AV.str (nmT x))) := by rw [hB1]; exact get_new
  have te : eCallF pListC (lCons (eVar 8) lNil) (SS sd os c r pv x4 x5 x6 one due x9 x10 x11 x12 x13) A = .ok (.ref A.n) B1 := by
    clear hB1 hT hNM hc h1 h2 hR hRr
    walk_at "zs"
  have l2 := rev_lst te g1 (by rw [List.length_map]; omega)
  obtain ⟨B2, hB2⟩ : ∃ B2, B2 = B1.push (.lst (T.map fun x => AV.str (nmT x)).reverse) := ⟨_, rfl⟩
  rw [← hB2] at l2
  have e2 : Ext B1 B2 := by rw [hB2]; exact .push e1.wf
  have g2 : B2.get B1.n = some (.lst (T.map fun x => AV.str (nmT x)).reverse) := by rw [hB2]; exact get_new
  rw [← List.map_reverse] at g2
  clear hB1 hB2
  obtain ⟨B3, r3, b1, b2, b3, b4⟩ := lc_G (ent := fun x : Tm => AV.str (nmT x)) (L := T.reverse) (t := tVal pIter (eRev (eCallF pListC (lCons (eVar 8) lNil)))) (tg := .nm 4) (c := eC (.bl true)) (e := eTup (lCons (eVar 4) (lCons (eBin (pIx D (cl (d + 6))) (eVar 8) (eVar 4)) lNil))) (own := [4]) (s := SS sd os c r pv x4 x5 x6 one due x9 x10 x11 x12 x13) (A := A) (A0 := B2) (j := some B1.n)
    (by
      intro x hx y hy e
      injection e with e
      refine inj_its (nm := nmT) (f := vT) (okT_rev hT).dis x hx y hy ?_
      have h5 := dget_some (nm := nmT) (f := vT) (okT_rev hT).dis hx
      have h6 := dget_some (nm := nmT) (f := vT) (okT_rev hT).dis hy
      rw [e, h6] at h5
      rw [e, Option.some.inj h5]) (wk_lst (j := B1.n) l2 g2) e2.wf (fun _ => true) (fun x => AV.tc (.str (nmT x)) (.tc (vT x) .tn)) (by rw [List.length_reverse]; omega) (by
      intro x hx A' A'' ⟨lk, hk⟩ hxx
      obtain ⟨k', g⟩ := dct_in (A0 := A) hk hxx (e2.get _ _ (e1.get _ _ h2))
      have k1 := ix_dct (D := D) (cl := cl (d + 6)) g (show keyFor false (.str (nmT x)) = true from rfl) (dget_some hT.dis (List.mem_reverse.mp hx))
      refine ⟨_, rfl, A'', rfl, .rfl' hxx.wf, fun _ => ⟨A'', ?_, .rfl' hxx.wf⟩⟩
      clear h1 h2 hR hRr hT hNM hc g1 g2
      walk_at "zs")
  rw [filter_true] at b4
  have b5 := dictC_str (okT_rev hT).dis b4
  obtain ⟨A4, i4, c1, c2, c3⟩ := s_Sum (d + 2) B3.n 0 c (by omega) (rawT T.reverse) hRr (B3.push (.dct false 0 (kvO nmT vT T.reverse))) b2.wf.push (by rw [kv_raw]; exact get_new)
  rw [red_raw] at c3
  have eX : Ext A A4 := (((e1.trans e2).trans b2).trans (.push b2.wf)).trans c2
  have q1 := eq_sumT true (d + 5) one i4 c T T.reverse A4 hT (okT_rev hT) (h1.mono eX) c3 (List.length_reverse).symm (fun x hx => List.mem_reverse.mpr hx)
  obtain ⟨A5, i5, f1, f2, f3⟩ := s_Sum (d + 2) due 0 (c + 1) (by omega) (rawT T) hR A4 c2.wf (by rw [← kv_raw]; exact eX.get _ _ h2)
  rw [red_raw] at f3
  have q2 := eq_sumF false (d + 5) one i5 c (c + 1) T T A5 (h1.mono (eX.trans f2)) f3 (by omega)
  have h5 := h1.mono (eX.trans f2)
  have q3 := s_Sum_contains (d + 5) one c T A5 h5 "none"
  rw [no_none c hc T hT hNM] at q3
  have q4 := s_Sum_containsI (d + 5) one c T A5 h5 5
  obtain ⟨p, q, h6, _⟩ := h5
  have q5 := in_ins (neg := false) (cl := cl (d + 6)) (v := .str "none") h6 at_Sum_1 (by rw [ck_Sum_contains__2]; exact q3)
  have q6 := in_ins (neg := false) (cl := cl (d + 6)) (v := .int 5) h6 at_Sum_1 (by rw [ck_Sum_contains__2]; exact q4)
  simp only [eqOp, cond_false, cond_true, neB, inOp, Option.isSome_none, Bool.not_true] at q1 q2 q5 q6
  obtain ⟨A6, o1, o2⟩ := sr4 d sd os c r pv one due hc A5 f2.wf x4 x5 x6 x9 (some (.ref i4)) x11 x12 x13
  refine ⟨A6, ?_, (eX.trans f2).trans o2⟩
  clear h1 h2 hR hRr hT hNM hc g1 g2 h6 q3 q4 te l1 l2 b4 c3 f3 hTl
  walk_at "zs"
end
/-! the law on sums, part two -/
section
variable (d i : Nat) (c : Int) (T : List Tm) (A : AH) (w : WF A) (p q s k : Nat) (h1 : A.get i = some (oSum c p q s)) (h2 : A.get p = some (.dct false k (kvO nmT vT T)))
include h1 h2
theorem L_contains (x : Str) : cl (d + 1) i_Sum_contains_ [.ref i, .str x] A = .ok (.bl (dget (kvO nmT vT T) (.str x)).isSome) A := by
  have e := in_dct (D := D) (cl := cl d) (neg := false) (v := .str x) h2 rfl
  simp only [inOp, cond_false, neB] at e
  rw [df_Sum_contains_]; unfold b_Sum_contains_; walk_at "zs"
include w
theorem L_getitem (x : Str) (hk : nOk x) : ∃ A', cl (d + 2) i_Sum_getitem_ [.ref i, .str x] A = .ok ((dget (kvO nmT vT T) (.str x)).getD (.tc (.int 0) (.tc (.int 1) .tn))) A' ∧ Ext A A' := by
  obtain ⟨A', e1, e2⟩ := s_is_name d x hk A w
  have h4 := e2.get _ _ h2
  have h5 := e2.get _ _ h1
  have e : pDGet (.ref p) [.str x, .tc (.int 0) (.tc (.int 1) .tn)] A' = .ok ((dget (kvO nmT vT T) (.str x)).getD (.tc (.int 0) (.tc (.int 1) .tn))) A' := by
    cases g : dget (kvO nmT vT T) (.str x) with
    | none => exact dget_no h4 rfl g
    | some x => exact dget_at h4 rfl g
  refine ⟨A', ?_, e2⟩
  rw [df_Sum_getitem_]; unfold b_Sum_getitem_ b_Sum_getitem__1; walk_at "zs"
end
section
variable (d : Nat) (sd os c : Int) (r pv kv one due : Nat) (hc : -30 ≤ c ∧ c ≤ 29) (T : List Tm) (hT : okT T) (hNM : ∀ x ∈ T, x.1 ∈ NM) (V : List (AV × AV)) (vv : Str → Int) (hV : okV V vv T)
include hc hT hNM hV
theorem sr7 (A : AH) (w : WF A) (h1 : isSum A one c T) (h2 : A.get due = some (.dct false 0 (kvO nmT vT T))) (hp : A.get pv = some (.dct false kv V)) (x4 x9 x10 x11 x12 x13 : Option AV) : ∃ A', b_law_sum_right_7 (cl (d + 6)) (SS sd os c r pv x4 (some (.int (-(valQ c T vv).num))) (some (.int ((valQ c T vv).den : Nat))) one due x9 x10 x11 x12 x13) A = .rt (.bl true) A' ∧ Ext A A' := by
  unfold b_law_sum_right_7
  obtain ⟨p0, q9, g0, _⟩ := id h1
  obtain ⟨A1, a1, a2⟩ := s_Sum_call (d + 3) one pv kv c T A w hT h1 V vv hV hp
  have hn : - -(valQ c T vv).num = (valQ c T vv).num := Int.neg_neg _
  have q0 := ne_plain (D := D) (cl := cl (d + 6)) (A := A1) (v := fq (valQ c T vv)) (w := fq (valQ c T vv)) rfl rfl
  rw [decide_eq_true rfl] at q0
  obtain ⟨A2, n1, b1, b2, b3⟩ := neg_sum (d + 1) one c (by omega) T A1 a2.wf hT (h1.mono a2)
  obtain ⟨A3, n2, c1, c2, c3⟩ := neg_sum (d + 1) n1 (-c) (by omega) (negT T) A2 b2.wf (okT_neg hT) b3
  rw [neg_neg, Int.neg_neg] at c3
  have s3 := h1.mono ((a2.trans b2).trans c2)
  have q1 := eq_sumT true (d + 5) n2 one c T T A3 hT hT c3 s3 rfl (fun _ h => h)
  simp only [eqOp, cond_true, neB] at q1
  obtain ⟨A4, u, d1, d2, d3⟩ := sub_sum d one one c c T T A3 c2.wf hT hT s3 s3 (by omega) (by rw [addT_self hT]; exact okT_nil)
  rw [addT_self hT, Int.sub_self] at d3
  have l1 : cl (d + 6) i_Sum_len_ [.ref u] A4 = .ok (.int 0) A4 := s_Sum_len (d + 5) u 0 [] A4 d3
  have l2 : fLenI (.ok (.int 0) A4) = .ok (.int 0) A4 := z_lenic rfl
  obtain ⟨p, q, g1, _⟩ := d3
  obtain ⟨A5, u2, e1, e2, e3⟩ := sub_sum d one one c c T T A4 d2.wf hT hT (s3.mono d2) (s3.mono d2) (by omega) (by rw [addT_self hT]; exact okT_nil)
  rw [addT_self hT, Int.sub_self] at e3
  have l3 := s_Sum_constant (d + 5) u2 0 [] A5 e3
  obtain ⟨p2, q2, g2, _⟩ := e3
  have eX := ((((a2.trans b2).trans c2).trans d2).trans e2)
  obtain ⟨A6, o1, o2⟩ := sr6 d sd os c r pv one due hc T hT hNM A5 e2.wf (h1.mono eX) (eX.get _ _ h2) x4 (some (.int (-(valQ c T vv).num))) (some (.int ((valQ c T vv).den : Nat))) x9 x10 x11 x12 x13
  refine ⟨A6, ?_, eX.trans o2⟩
  clear hc hT hNM hV h1 h2 hp s3 b3 c3
  walk_at "zs"
theorem sr8 (A : AH) (w : WF A) (h1 : isSum A one c T) (h2 : A.get due = some (.dct false 0 (kvO nmT vT T))) (hp : A.get pv = some (.dct false kv V)) (x4 x5 x6 x9 x10 x11 x12 x13 : Option AV) : ∃ A', b_law_sum_right_8 (cl (d + 6)) (SS sd os c r pv x4 x5 x6 one due x9 x10 x11 x12 x13) A = .rt (.bl true) A' ∧ Ext A A' := by
  unfold b_law_sum_right_8
  obtain ⟨A1, n1, b1, b2, b3⟩ := neg_sum (d + 1) one c (by omega) T A w hT h1
  obtain ⟨A2, a1, a2⟩ := s_Sum_call (d + 3) n1 pv kv (-c) (negT T) A1 b2.wf (okT_neg hT) b3 V vv (okV_neg hV) (b2.get _ _ hp)
  rw [val_neg] at a1
  unfold fq at a1
  rw [Rat.neg_num, Rat.neg_den] at a1
  have eX := b2.trans a2
  obtain ⟨A6, o1, o2⟩ := sr7 d sd os c r pv kv one due hc T hT hNM V vv hV A2 a2.wf (h1.mono eX) (eX.get _ _ h2) (eX.get _ _ hp) x4 x9 x10 x11 x12 x13
  obtain ⟨p, q, g1, _⟩ := b3
  refine ⟨A6, ?_, eX.trans o2⟩
  clear hc hT hNM hV h1 h2 hp
  walk_at "zs"
theorem sr9 (A : AH) (w : WF A) (h1 : isSum A one c T) (h2 : A.get due = some (.dct false 0 (kvO nmT vT T))) (hp : A.get pv = some (.dct false kv V)) (x4 x5 x6 x9 x10 x11 x12 x13 : Option AV) : ∃ A', b_law_sum_right_9 (cl (d + 6)) (SS sd os c r pv x4 x5 x6 one due x9 x10 x11 x12 x13) A = .rt (.bl true) A' ∧ Ext A A' := by
  unfold b_law_sum_right_9
  have hTl := hT.len
  obtain ⟨p, q, h3, h4, h5⟩ := id h1
  obtain ⟨A1, r1, e1, e3, e2⟩ := all_lc (t := tVal pIter (eVar 8)) (tg := .nm 4) (e := eAnd (eBin (cmpPrim D (cl (d + 6)) .Eq) (eBin (pIx D (cl (d + 6))) (eVar 7) (eVar 4)) (eBin (pIx D (cl (d + 6))) (eVar 8) (eVar 4))) (eBin (cmpPrim D (cl (d + 6)) .In) (eVar 4) (eVar 7))) (own := [4]) (s := SS sd os c r pv x4 x5 x6 one due x9 x10 x11 x12 x13) (A := A) (A0 := A)
    (wk_keys (j := due) rfl h2) w (by unfold kvO; rw [List.length_map, List.length_map]; omega) (by
      intro v hv A1 A' ⟨lk, hk⟩ hxx
      rw [map_ks] at hv
      obtain ⟨x, hx, rfl⟩ := List.mem_map.mp hv
      have i1 := hxx.get _ _ (hk.insK h3)
      obtain ⟨k', i2⟩ := dct_in (A0 := A) hk hxx h4
      obtain ⟨k2, i3⟩ := dct_in (A0 := A) hk hxx h2
      have hs := dget_some (nm := nmT) (f := vT) hT.dis hx
      obtain ⟨A3, g1, g2⟩ := L_getitem (d + 4) one c T A' hxx.wf p q _ k' i1 i2 x.1 (hT.nam x hx)
      rw [hs] at g1
      have g3 := ix_ins (D := D) (cl := cl (d + 6)) i1 at_Sum_0 (by rw [ck_Sum_getitem__2]; exact g1)
      have g4 := ix_dct (D := D) (cl := cl (d + 6)) (g2.get _ _ i3) (show keyFor false (.str (nmT x)) = true from rfl) hs
      have g5 := L_contains (d + 5) one c T A3 p q _ k' (g2.get _ _ i1) (g2.get _ _ i2) x.1
      rw [hs] at g5
      have g6 := in_ins (neg := false) (cl := cl (d + 6)) (v := .str x.1) (g2.get _ _ i1) at_Sum_1 (by rw [ck_Sum_contains__2]; exact g5)
      have q0 := eq_plain (D := D) (cl := cl (d + 6)) (A := A3) (v := vT x) (w := vT x) rfl rfl
      rw [decide_eq_true rfl] at q0
      simp only [cond_false, neB, inOp, Option.isSome_some, Option.getD_some] at g6 g3
      refine ⟨_, rfl, A3, ?_, g2⟩
      clear hc hT hNM hV h1 h2 hp hv hs i1 i2 i3 g1 g5
      walk_at "zs")
  obtain ⟨A6, o1, o2⟩ := sr8 d sd os c r pv kv one due hc T hT hNM V vv hV A1 e2.wf (h1.mono e2) (e2.get _ _ h2) (e2.get _ _ hp) x4 x5 x6 x9 x10 x11 x12 x13
  refine ⟨A6, ?_, e2.trans o2⟩
  clear hc hT hNM hV h1 h2 hp h3 h4 h5 hTl
  walk_at "zs"
end
/-! the law on sums, part three -/
theorem dmap_len (k v : AV) : ∀ kvs : List (AV × AV), (dmap kvs k v).length = kvs.length
  | [] => rfl
  | p :: r => by
    unfold dmap
    cases aEq p.1 k <;> (simp only [List.length_cons]; rw [dmap_len k v r])
theorem dput_len (kvs : List (AV × AV)) (k v : AV) : (dput kvs k v).length ≤ kvs.length + 1 := by
  unfold dput
  cases dget kvs k with
  | none => rw [List.length_append]; exact Nat.le_refl _
  | some _ => show (dmap kvs k v).length ≤ _; rw [dmap_len]; omega
def keyE : AV → AV
  | .tc _ (.tc k _) => k
  | v => v
def valE (os : Int) : AV → AV
  | .tc (.int a) _ => .int ((os.fdiv (2 + a)).fmod 41 - 20)
  | v => v
def fillE (os : Int) (d : List AV) : List (AV × AV) := d.foldl (fun kvs v => dput kvs (keyE v) (valE os v)) [(.str "other", .int 5)]
def N5 : List AV := [.str "xyz", .str "seen", .str "tank", .str "b", .str "a"]
def E5 : List AV := N5.mapIdx fun i v => AV.tc (.int (i : Nat)) (.tc v .tn)
theorem E5_eq : E5 = [.tc (.int (0 : Nat)) (.tc (.str "xyz") .tn), .tc (.int (1 : Nat)) (.tc (.str "seen") .tn), .tc (.int (2 : Nat)) (.tc (.str "tank") .tn), .tc (.int (3 : Nat)) (.tc (.str "b") .tn), .tc (.int (4 : Nat)) (.tc (.str "a") .tn)] := rfl
theorem fill_len (os : Int) : ∀ (d : List AV) (kvs : List (AV × AV)), (d.foldl (fun kvs v => dput kvs (keyE v) (valE os v)) kvs).length ≤ kvs.length + d.length
  | [], kvs => Nat.le_refl _
  | v :: r, kvs => by
    refine Nat.le_trans (fill_len os r _) ?_
    have := dput_len kvs (keyE v) (valE os v)
    rw [List.length_cons]
    show (dput kvs (keyE v) (valE os v)).length + r.length ≤ _
    omega
def VE (os : Int) : List (AV × AV) := fillE os E5
def valI (os : Int) (k : Str) : Int := match dget (VE os) (.str k) with
  | some (.int i) => i
  | _ => 0
theorem VE_at (os : Int) (k : Str) (h : k ∈ NM) : ∃ i : Nat, dget (VE os) (.str k) = some (.int ((os.fdiv (2 + (i : Nat))).fmod 41 - 20)) := by
  unfold NM at h
  simp only [List.mem_cons, List.not_mem_nil, or_false] at h
  rcases h with rfl | rfl | rfl | rfl | rfl
  · exact ⟨4, by kernel_rfl⟩
  · exact ⟨3, by kernel_rfl⟩
  · exact ⟨2, by kernel_rfl⟩
  · exact ⟨1, by kernel_rfl⟩
  · exact ⟨0, by kernel_rfl⟩
theorem okV_E (os : Int) (T : List Tm) (hNM : ∀ x ∈ T, x.1 ∈ NM) : okV (VE os) (valI os) T := by
  intro x hx
  obtain ⟨i, e⟩ := VE_at os x.1 (hNM x hx)
  have e2 : valI os x.1 = (os.fdiv (2 + (i : Nat))).fmod 41 - 20 := by
    unfold valI
    rw [e]
  obtain ⟨m1, m2, m3⟩ := div_facts (os.fdiv (2 + (i : Nat))) (show (0 : Int) < 41 by decide)
  rw [e2]
  exact ⟨e, by omega, by omega⟩
theorem no_other {f : Tm → AV} {T : List Tm} (hNM : ∀ x ∈ T, x.1 ∈ NM) : kvO nmT f T ≠ [(.str "other", .int 5)] := by
  intro e
  cases T with
  | nil => cases e
  | cons x r =>
    unfold kvO at e
    rw [List.map_cons] at e
    injection e with e1 _
    injection e1 with e1 _
    injection e1 with e1
    have h := hNM x (List.mem_cons_self ..)
    rw [show x.1 = _ from e1] at h
    revert h
    decide +kernel
section
variable (d : Nat) (sd os c : Int) (r pv kv one due : Nat) (hc : -30 ≤ c ∧ c ≤ 29) (R : List Rw) (hR : okR R) (hNM : ∀ x ∈ R, x.1 ∈ NM)
include hc hR hNM
theorem nm_red : ∀ x ∈ redR R, x.1 ∈ NM := by
  intro x hx
  obtain ⟨y, hy, rfl⟩ := List.mem_map.mp hx
  exact hNM y hy
theorem sr12 (V : List (AV × AV)) (vv : Str → Int) (hV : okV V vv (redR R)) (A : AH) (w : WF A) (h1 : isSum A one c (redR R)) (h2 : A.get due = some (.dct false 0 (kvO nmT vT (redR R)))) (hp : A.get pv = some (.dct false kv V)) (hr : A.get r = some (.lst (R.map tri))) (x4 x5 x6 x9 x10 x11 x12 x13 : Option AV) : ∃ A', b_law_sum_right_12 (cl (d + 6)) (SS sd os c r pv x4 x5 x6 one due x9 x10 x11 x12 x13) A = .rt (.bl true) A' ∧ Ext A A' := by
  unfold b_law_sum_right_12 b_law_sum_right_11 b_law_sum_right_10
  have hT := okT_red hR
  have hTN := nm_red c hc R hR hNM
  have hTl := hT.len
  obtain ⟨p0, q9, g0, _⟩ := id h1
  have k1 := s_Sum_constant (d + 5) one c _ A h1
  obtain ⟨A1, rT, a1, a2, a3⟩ := s_Sum_terms (d + 5) one c _ A w hT h1
  have q1 := eq_dct (D := D) (cl := cl (d + 6)) (neg := true) a3 (a2.get _ _ h2) rfl (same_dct hT hT fun _ h => h)
  have k2 := s_Sum_len (d + 5) one c _ A1 (h1.mono a2)
  have hs : (small62 (((redR R).length : Nat) : Int) && !iNeg (((redR R).length : Nat) : Int)) = true := by
    unfold small62
    rw [iLe_eq, iLt_eq, iNeg_eq, decide_eq_true (by omega), decide_eq_true (by omega), decide_eq_false (by omega)]
    rfl
  have k3 : fLenI (.ok (.int (((redR R).length : Nat) : Int)) A1) = .ok (.int (((redR R).length : Nat) : Int)) A1 := z_lenic hs
  have hk : (kvO nmT vT (redR R)).length = (redR R).length := List.length_map ..
  have g1 := a2.get _ _ g0
  have g2 := a2.get _ _ h2
  obtain ⟨A2, b1, b2⟩ := s_Sum_getitem (d + 4) one c _ A1 a2.wf (h1.mono a2) "none" (by unfold nOk; decide +kernel)
  rw [no_none c hc _ hT hTN] at b1
  have b3 := ix_ins (D := D) (cl := cl (d + 6)) g1 at_Sum_0 (by rw [ck_Sum_getitem__2]; exact b1)
  have q2 := ne_plain (D := D) (cl := cl (d + 6)) (A := A2) (v := .tc (.int 0) (.tc (.int 1) .tn)) (w := .tc (.int 0) (.tc (.int 1) .tn)) rfl rfl
  rw [decide_eq_true rfl] at q2
  have e2 := a2.trans b2
  obtain ⟨A3, top, bot, c1, c2, c3, c4, c5⟩ := s_law_value (d + 5) r pv kv c R A2 b2.wf hR (e2.get _ _ hr) V vv hV (e2.get _ _ hp)
  have e3 := e2.trans c2
  obtain ⟨A4, d1, d2⟩ := s_Sum_call (d + 3) one pv kv c (redR R) A3 c2.wf hT (h1.mono e3) V vv hV (e3.get _ _ hp)
  have e4 := e3.trans d2
  have d3 := s_law_lowest (d + 4) top bot c3 (by omega) A4
  rw [c5] at d3
  have g3 := e3.get _ _ g0
  have q3 := ne_plain (D := D) (cl := cl (d + 6)) (A := A4) (v := fq (valQ c (redR R) vv)) (w := fq (valQ c (redR R) vv)) rfl rfl
  rw [decide_eq_true rfl] at q3
  obtain ⟨A5, o1, o2⟩ := sr9 d sd os c r pv kv one due hc _ hT hTN V vv hV A4 d2.wf (h1.mono e4) (e4.get _ _ h2) (e4.get _ _ hp) x4 (some (.int top)) (some (.int (bot : Nat))) x9 x10 x11 x12 x13
  simp only [eqOp, cond_true, neB, Option.getD_none] at q1 b3
  refine ⟨A5, ?_, e4.trans o2⟩
  clear hc hR hNM hV h1 h2 hp hr hT hTN hTl a3 hs c3 c4 c5
  walk_at "zs"
theorem sr13 (A : AH) (w : WF A) (h1 : isSum A one c (redR R)) (h2 : A.get due = some (.dct false 0 (kvO nmT vT (redR R)))) (hp : A.get pv = some (.dct false 0 [(.str "other", .int 5)])) (hd : due ≠ pv) (hr : A.get r = some (.lst (R.map tri))) (x4 x5 x6 x9 x10 x11 x12 x13 : Option AV) : ∃ A', b_law_sum_right_13 (cl (d + 6)) (SS sd os c r pv x4 x5 x6 one due x9 x10 x11 x12 x13) A = .rt (.bl true) A' ∧ ∀ A0, WF A0 → But pv A0 A → A0.n ≤ pv → Ext A0 A' := by
  unfold b_law_sum_right_13
  obtain ⟨p, q, g1, g2, g3⟩ := id h1
  have hTN := nm_red c hc R hR hNM
  have n1 : p ≠ pv := by
    rintro rfl
    rw [hp] at g2
    injection g2 with g2
    injection g2 with _ _ g2
    exact no_other hTN g2.symm
  have n2 : q ≠ pv := by
    rintro rfl
    rw [hp] at g3
    injection g3 with g3
    injection g3 with _ _ g3
    exact no_other hTN g3.symm
  have n3 : one ≠ pv := by rintro rfl; rw [hp] at g1; cases g1
  have n4 : r ≠ pv := by rintro rfl; rw [hp] at hr; cases hr
  have hpn : pv < A.n := w.lt hp
  have hN : (A.push (.lst N5)).get A.n = some (.lst N5) := get_new
  obtain ⟨s', A2, e1, ⟨y4, y9, rfl⟩, e2, e3⟩ := for_put (f := pv) (t := tArg pEnum (lCons (eLst (lCons (eC (.str "xyz")) (lCons (eC (.str "seen")) (lCons (eC (.str "tank")) (lCons (eC (.str "b")) (lCons (eC (.str "a")) lNil)))))) lNil)) (tg := .cons (.nm 9) (.cons (.nm 4) .nil)) (b := b_law_sum_right_1 (cl (d + 6))) (s := SS sd os c r pv x4 x5 x6 one due x9 x10 x11 x12 x13) (A := A) (A0 := A.push (.lst N5)) (items := E5) (j := some A.n)
    (wk_enum (j := A.n) rfl hN) w.push (by decide) (fun i hi => by cases hi; exact ⟨by omega, _, hN⟩) (fillE os) (get_old w hp) (fun _ s => ∃ x4 x9, s = SS sd os c r pv x4 x5 x6 one due x9 x10 x11 x12 x13) ⟨x4, x9, rfl⟩ (by
      rintro dd v rr s A' e ⟨x4, x9, rfl⟩ w' hf
      have hv : v ∈ E5 := by rw [e]; simp
      obtain ⟨i, nm, hv, hi⟩ : ∃ (i : Nat) (nm : Str), v = .tc (.int (i : Nat)) (.tc (.str nm) .tn) ∧ i < 5 := by
        rw [E5_eq] at hv
        simp only [List.mem_cons, List.not_mem_nil, or_false] at hv
        rcases hv with h | h | h | h | h
        · exact ⟨0, _, h, by decide⟩
        · exact ⟨1, _, h, by decide⟩
        · exact ⟨2, _, h, by decide⟩
        · exact ⟨3, _, h, by decide⟩
        · exact ⟨4, _, h, by decide⟩
      subst hv
      have hdl : dd.length ≤ 5 := by
        have := congrArg List.length e
        rw [E5_eq, List.length_append] at this
        simp only [List.length_cons, List.length_nil] at this
        omega
      have hfl := fill_len os dd [(.str "other", .int 5)]
      have k1 := set_dct (v := .int ((os.fdiv (2 + (i : Nat))).fmod 41 - 20)) hf (show isK (.str nm) = true from rfl) (by unfold fillE; simp only [List.length_cons, List.length_nil] at hfl ⊢; omega)
      refine ⟨_, SS sd os c r pv (some (.str nm)) x5 x6 one due (some (.int (i : Nat))) x10 x11 x12 x13, A'.set pv (.dct false 0 (dput (fillE os dd) (.str nm) (.int ((os.fdiv (2 + (i : Nat))).fmod 41 - 20)))), rfl, ?_, (But.rfl' w').set (w'.lt hf), get_at.trans ?_, _, _, rfl⟩
      · unfold b_law_sum_right_1
        clear e hdl hfl h1 h2 hp hr hc hR hNM hTN
        walk_at "zs"
        rw [z_fdiv (okDivP (by omega) (by omega))]
        walk_at "zs"
        rw [z_modi (by decide)]
        walk_at "zs"
      · unfold fillE
        rw [List.foldl_append]
        rfl)
  have eB : But pv A A2 := (But.ext (.push w)).trans e2
  have s2 : isSum A2 one c (redR R) := ⟨p, q, eB.get _ _ n3 g1, eB.get _ _ n1 g2, eB.get _ _ n2 g3⟩
  obtain ⟨A3, o1, o2⟩ := sr12 d sd os c r pv 0 one due hc R hR hNM (VE os) (valI os) (okV_E os _ (nm_red c hc R hR hNM)) A2 e2.wf s2 (eB.get _ _ hd h2) e3 (eB.get _ _ n4 hr) y4 x5 x6 y9 x10 x11 x12 x13
  refine ⟨A3, ?_, fun A0 w0 b0 hn => ?_⟩
  · clear h1 h2 hp hr hc hR hNM g1 g2 g3 hN e3
    walk_at "zs"
  · have b1 := (b0.trans eB).trans (But.ext o2)
    exact ⟨b1.le, fun i o h => b1.get i o (by have := w0.lt h; omega) h, b1.wf⟩
theorem sr14 (A : AH) (w : WF A) (hp : A.get pv = some (.dct false 0 [(.str "other", .int 5)])) (hr : A.get r = some (.lst (R.map tri))) : ∃ A', b_law_sum_right_14 (cl (d + 6)) [some (.int sd), some (.int os), some (.tc (.int c) (.tc (.ref r) .tn)), some (.ref pv), none, none, none, none, none, none, none, none, none, none] A = .rt (.bl true) A' ∧ ∀ A0, WF A0 → Ext A0 A → A0.n ≤ pv → Ext A0 A' := by
  unfold b_law_sum_right_14
  have hRl := hR.len
  have hpn := w.lt hp
  obtain ⟨A1, one, a1, a2, a3⟩ := s_law_made (d + 1) r c (by omega) R hR A w hr
  obtain ⟨A3, r3, b1, b2, b3, b4⟩ := lc_G (ent := tri) (L := R) (t := tVal pIter (eBin (pIx D (cl (d + 6))) (eVar 2) (eC (.int 1)))) (tg := .cons (.nm 4) (.cons (.nm 5) (.cons (.nm 6) .nil))) (c := eC (.bl true)) (e := eTup (lCons (eVar 4) (lCons (eCallF (callK D (cl (d + 6)) 63) (lCons (eVar 5) (lCons (eVar 6) lNil))) lNil))) (own := [4, 5, 6]) (s := [some (.int sd), some (.int os), some (.tc (.int c) (.tc (.ref r) .tn)), some (.ref pv), none, none, none, none, none, none, none, none, none, none]) (A := A1) (A0 := A1) (j := some r)
    (fun x _ y _ e => tri_inj e) (wk_lst (j := r) rfl (a2.get _ _ hr)) a2.wf (fun _ => true) (fun x => AV.tc (.str (nmR x)) (.tc (fq (mkRat x.2.1 x.2.2)) .tn)) (by omega) (by
      intro x hx A' A'' hk hxx
      have hb := hR.bot x hx
      have g := s_law_lowest (d + 4) x.2.1 x.2.2 (by omega) (by omega) A''
      refine ⟨_, rfl, A'', rfl, .rfl' hxx.wf, fun _ => ⟨A'', ?_, .rfl' hxx.wf⟩⟩
      clear hb hc hR hNM
      walk_at "zs")
  rw [filter_true] at b4
  have b5 := dictC_str hR.dis b4
  rw [red_kv] at b5
  obtain ⟨A4, hA4⟩ : ∃ A4, A4 = A3.push (.dct false 0 (kvO nmT vT (redR R))) := ⟨_, rfl⟩
  rw [← hA4] at b5
  have e4 : Ext A3 A4 := by rw [hA4]; exact .push b2.wf
  have g4 : A4.get A3.n = some (.dct false 0 (kvO nmT vT (redR R))) := by rw [hA4]; exact get_new
  have eX := (a2.trans b2).trans e4
  have hp4 := eX.get _ _ hp
  have s4 := a3.mono (b2.trans e4)
  obtain ⟨A5, o1, o2⟩ := sr13 d sd os c r pv one A3.n hc R hR hNM A4 e4.wf s4 g4 hp4 (by have := (a2.trans b2).le; omega) (eX.get _ _ hr) none none none none none none none none
  refine ⟨A5, ?_, fun A0 w0 h0 hn => o2 A0 w0 (But.ext (h0.trans eX)) hn⟩
  clear hA4 hc hR hNM hp hr a3 b4 s4 hp4 g4 hRl
  walk_at "zs"
end
theorem s_sum_right (d : Nat) (sd os : Int) (A : AH) (w : WF A) : ∃ A', cl (d + 7) i_law_sum_right [.int sd, .int os] A = .ok (.bl true) A' ∧ Ext A A' := by
  obtain ⟨A1, r, c, R, a1, a2, a3, a4, a5, a6, a7⟩ := s_law_parts (d + 5) sd A w
  have h := disp_ok (vs := [.str "other", .int 5]) (kvs := [(.str "other", .int 5)]) (n := A1.n) rfl (by decide) (get_new (A := A1) (o := .dct false 0 []))
  rw [show dmerge [] [(AV.str "other", AV.int 5)] = [(AV.str "other", AV.int 5)] from rfl] at h
  obtain ⟨b1, b2⟩ := disp_new a2.wf (.dct false 0 [(.str "other", .int 5)])
  obtain ⟨A3, o1, o2⟩ := sr14 d sd os c r A1.n ⟨a6, a7⟩ R a4 a5 _ b1.wf b2 (b1.get _ _ a3)
  refine ⟨A3, ?_, a2.trans (o2 A1 a2.wf b1 (Nat.le_refl _))⟩
  rw [df_law_sum_right]; unfold b_law_sum_right
  clear a3 a4 a5 a6 a7 b2
  walk_at "zs"
/-! the whole law -/
theorem seq_scr (ns : List Int) (A : AH) : seqL (scr ns) A = some (true, ns.map AV.int) := by
  unfold scr seqL
  simp only [items_tup]
theorem slice_scr (ns : List Int) (hl : ns.length ≤ 63) (A : AH) : pSlice none (some 63) (scr ns) A = .ok (.ref A.n) (A.push (.lst (ns.map AV.int))) := by
  have hc : cutA (ns.map AV.int) none (some 63) = ns.map AV.int := by
    unfold cutA HT.sIx
    simp only [List.length_map, Nat.sub_zero, List.drop_zero]
    rw [List.take_of_length_le]
    rw [List.length_map]
    have : ¬ ((63 : Int) < 0) := by decide
    simp
    omega
  have h : pSlice none (some 63) (scr ns) A = mkLst (cutA (ns.map AV.int) none (some 63)) A := by
    have e := seq_scr ns A
    unfold scr at e ⊢
    unfold pSlice
    simp only [e]
  rw [h, hc, z_mklst (by rw [List.length_map]; omega)]
theorem ne_scr0 (cl : Calls) (n : Nat) (A : AH) (h : A.get n = some (.lst [])) : cmpPrim D cl .NotEq (scr []) (.ref n) A = .ok (.bl false) A := by
  refine ok_alt ?_
  unfold pEqD
  rw [datF_lst h (fun x hx => absurd hx List.not_mem_nil)]
  rfl
theorem dat_ints (A : AH) : ∀ ns : List Int, mapO (datV 39 A) (ns.map AV.int) = some (ns.map PyData.int)
  | [] => rfl
  | i :: r => by
    show (match datV 39 A (.int i) with | some b => (match mapO (datV 39 A) (r.map AV.int) with | some l => some (b :: l) | none => none) | none => none) = _
    rw [dat_ints A r]
    rfl
theorem ne_scr1 (cl : Calls) (i : Int) (r : List Int) (n : Nat) (A : AH) (h : A.get n = some (.lst [])) : cmpPrim D cl .NotEq (scr (i :: r)) (.ref n) A = .ok (.bl true) A := by
  refine ok_alt ?_
  have e : datF A (scr (i :: r)) = some (.list ((i :: r).map PyData.int)) := by
    have e1 := seq_scr (i :: r) A
    unfold scr at e1 ⊢
    unfold datF datV
    simp only [e1, dat_ints]
  unfold pEqD
  rw [datF_lst h (fun x hx => absurd hx List.not_mem_nil), e]
  rfl
theorem ln4 (d q : Nat) (v : AV) (idx : Int) (hi : 0 ≤ idx ∧ idx ≤ 1000) (cs : List Int) (h0 : 0 < cs.length) (h1 : cs.length ≤ 63) (A : AH) (h : A.get q = some (.lst (cs.map AV.int))) :
    ∃ N, b_law_number_4 (cl d) [some v, some (.int idx), some (.ref q), none, none, none, none] A = .rt (.int N) A := by
  have hl : (cs.map AV.int).length = cs.length := List.length_map ..
  have hm := Int.fmod_nonneg_of_pos idx (show (0 : Int) < (cs.length : Nat) by omega)
  have hm2 := Int.fmod_lt_of_pos idx (show (0 : Int) < (cs.length : Nat) by omega)
  have hj : (idx.fmod (cs.length : Nat)).toNat < cs.length := by omega
  have k1 := ix_lst (D := D) (cl := cl d) h (j := (idx.fmod (cs.length : Nat)).toNat) (v := .int cs[(idx.fmod (cs.length : Nat)).toNat]) (place_int hm (by rw [hl]; exact hm2)) (by rw [List.getElem?_map, List.getElem?_eq_getElem hj]; rfl)
  have k2 := sum_lst h (pInts_map cs)
  generalize cs[(idx.fmod (cs.length : Nat)).toNat] = x at k1
  obtain ⟨m1, m2, m3⟩ := div_facts (((x + 13 * idx.fdiv (cs.length : Nat)).fmod 1000003 + 977 * idx) * 48271 + 31 * ((x + 13 * idx.fdiv (cs.length : Nat)).fdiv 1000003).fmod 999983 + (iSum cs).fmod 65521) (show (0 : Int) < 2147483647 by decide)
  generalize hM : (((x + 13 * idx.fdiv (cs.length : Nat)).fmod 1000003 + 977 * idx) * 48271 + 31 * ((x + 13 * idx.fdiv (cs.length : Nat)).fdiv 1000003).fmod 999983 + (iSum cs).fmod 65521).fmod 2147483647 = M at *
  refine ⟨(M * (M + 31 * idx + 7)).fmod 2147483629 * 65537 + ((x + 13 * idx.fdiv (cs.length : Nat)).fdiv 1000003).fmod 999983, ?_⟩
  have f1 : (fits M || fits (M + 31 * idx + 7)) = true := by rw [fitsP (i := M) (by omega) (by omega), Bool.true_or]
  have f2 : okDiv idx (cs.length : Nat) = true := okDivP (by omega) (by omega)
  have f3 : ((cs.length : Nat) : Int) ≠ 0 := by omega
  unfold b_law_number_4 b_law_number_3 b_law_number_2 b_law_number_1
  clear m1 m2 m3 hm hm2 hj
  walk_at "zs"
  rw [z_modi f3]
  walk_at "zs"
  rw [z_fdiv f2]
  walk_at "zs"
  rw [z_mul (by simp only [fits_13, Bool.true_or])]
  walk_at "zs"
  rw [z_modi (by decide)]
  walk_at "zs"
  rw [z_fdiv (okDivP (by decide) (by decide))]
  walk_at "zs"
  rw [z_modi (by decide)]
  walk_at "zs"
  rw [z_mul (by simp only [fits_977, Bool.true_or])]
  walk_at "zs"
  rw [z_mul (by simp only [fits_48271, Bool.or_true])]
  walk_at "zs"
  rw [z_mul (by simp only [fits_31, Bool.true_or])]
  walk_at "zs"
  rw [z_modi (by decide)]
  walk_at "zs"
  rw [z_modi (by decide)]
  walk_at "zs"
  rw [z_mul (by simp only [fits_31, Bool.true_or])]
  walk_at "zs"
  rw [z_mul f1]
  walk_at "zs"
  rw [z_modi (by decide)]
  walk_at "zs"
  rw [z_mul (by simp only [fits_65537, Bool.or_true])]
  walk_at "zs"
theorem s_law_number (d : Nat) (ns : List Int) (hl : ns.length ≤ 63) (idx : Int) (hi : 0 ≤ idx ∧ idx ≤ 1000) (A : AH) (w : WF A) :
    ∃ N A', cl (d + 1) i_law_number [scr ns, .int idx] A = .ok (.int N) A' ∧ Ext A A' := by
  rw [df_law_number]; unfold b_law_number
  have g : (A.push (.lst [])).get A.n = some (.lst []) := get_new
  cases ns with
  | nil =>
    have q := ne_scr0 (cl d) A.n _ g
    obtain ⟨N, e⟩ := ln4 d (A.push (.lst [])).n (scr []) idx hi [5] (by decide) (by decide) ((A.push (.lst [])).push (.lst [.int 5])) get_new
    refine ⟨N, (A.push (.lst [])).push (.lst [.int 5]), ?_, (Ext.push w).trans (.push w.push)⟩
    walk_at "zs"
  | cons i r =>
    have q := ne_scr1 (cl d) i r A.n _ g
    have q2 := slice_scr (i :: r) hl (A.push (.lst []))
    obtain ⟨N, e⟩ := ln4 d (A.push (.lst [])).n (scr (i :: r)) idx hi (i :: r) (by simp) hl ((A.push (.lst [])).push (.lst ((i :: r).map AV.int))) get_new
    refine ⟨N, (A.push (.lst [])).push (.lst ((i :: r).map AV.int)), ?_, (Ext.push w).trans (.push w.push)⟩
    clear hl hi
    simp only [List.map_cons] at e
    walk_at "zs"
theorem s_all_right (d : Nat) (ns : List Int) (hl : ns.length ≤ 63) (A : AH) (w : WF A) : ∃ A', cl (d + 10) i_law_all_right [scr ns] A = .ok (.bl true) A' ∧ Ext A A' := by
  rw [df_law_all_right]; unfold b_law_all_right b_law_all_right_4
  obtain ⟨s', A1, e1, e2, x1, rfl⟩ := for_ext (t := tArg pRng1 (lCons (eC (.int 6)) lNil)) (tg := .nm 1) (b := b_law_all_right_3 (cl (d + 9))) (s := [some (scr ns), none]) (A := A) (A0 := A)
    (wk_rng1 (n := 6) rfl rfl) w (by rw [List.length_map, List.length_range]; decide) (fun i hi => nomatch hi) (fun _ s _ => ∃ x1, s = [some (scr ns), x1]) ⟨none, rfl⟩ (by
      rintro dd v r' s A' e hx ⟨x1, rfl⟩
      have hv : v ∈ (List.range (6 : Int).toNat).map fun i => AV.int (0 + (i : Nat)) := by rw [e]; simp
      obtain ⟨i, hi, rfl⟩ := List.mem_map.mp hv
      rw [List.mem_range] at hi
      have hi : i < 6 := hi
      obtain ⟨N1, B1, a1, a2⟩ := s_law_number (d + 8) ns hl (10 + (0 + (i : Nat))) (by omega) A' hx.wf
      obtain ⟨B2, b1, b2⟩ := s_forms_right (d + 4) N1 B1 a2.wf
      obtain ⟨N2, B3, c1, c2⟩ := s_law_number (d + 8) ns hl (30 + (0 + (i : Nat))) (by omega) B2 b2.wf
      obtain ⟨N3, B4, d1, d2⟩ := s_law_number (d + 8) ns hl (50 + (0 + (i : Nat))) (by omega) B3 c2.wf
      obtain ⟨B5, f1, f2⟩ := s_sum_right (d + 2) N2 N3 B4 d2.wf
      obtain ⟨N4, B6, g1, g2⟩ := s_law_number (d + 8) ns hl (70 + (0 + (i : Nat))) (by omega) B5 f2.wf
      obtain ⟨B7, h1, h2⟩ := s_devices_right (d + 4) N4 B6 g2.wf
      refine ⟨_, [some (scr ns), some (.int (0 + (i : Nat)))], B7, rfl, .inl ?_, (((((a2.trans b2).trans c2).trans d2).trans f2).trans g2).trans h2, _, rfl⟩
      unfold b_law_all_right_3 b_law_all_right_2 b_law_all_right_1
      clear e hv hi hl
      walk_at "zs")
  refine ⟨A1, ?_, e2⟩
  clear hl
  walk_at "zs"
theorem main (ns : List Int) (hl : ns.length ≤ 63) : isTrue (cl 21 i_law [scr ns] ⟨0, .e⟩) = true := by
  obtain ⟨A', e, _⟩ := s_all_right 10 ns hl ⟨0, .e⟩ .zero
  have h : cl (20 + 1) i_law [scr ns] ⟨0, .e⟩ = .ok (.bl true) A' := by
    rw [df_law]; unfold b_law
    clear hl
    walk_at "zs"
  rw [show (21 : Nat) = 20 + 1 from rfl, h]
  rfl
end K05
end
section
namespace K05
open PySem PySem.Spec PySem.W PySem.Calls PyProof.Rows L2 Z
abbrev R : OpenRow := OpenLaw.row PySem.Challenge.rw_steadyloop_k05_whole_numbers
abbrev qv : Program := view R.prog [56]
def names : List Str := ((["LoopError", "InvalidForm", "InvalidNumber", "InvalidSum", "InvalidSensor", "InvalidDrive", "MIN_BITS", "MAX_BITS", "ROUNDINGS", "LIMITS", "LETTERS", "MAX_NAME", "is_integer", "is_name", "is_word", "rounded", "clipped", "Form", "word_of", "MAX_SIZE", "MAX_READING", "MAX_POSITION", "MAX_CHANGE", "check_integer", "Sensor", "reading_of", "Drive", "position_of", "MAX_CONSTANT", "MAX_TERMS"] : List (Str)) ++ (["MAX_TOP", "divisor", "reduced", "is_factor", "are_terms", "Sum", "plus", "added", "shared_bottom", "total", "_law_number", "_law_word", "_law_value", "_law_gcd", "_law_lowest", "_law_forms_right", "_law_parts", "_law_made", "_law_sum_right", "_law_devices_right", "_law_all_right"] : List (Str)))
abbrev hk : Hook := hookZ 6 L
def ob (s : SharedT) : AlZ := obsZG 6 L (HandSHeadRun.getT s)
theorem ob_eq (s : SharedT) : ob s = hk.obs s.abs := obsZG_eq (HandSHeadRun.getT_eq s)
theorem run (w : World) : HandSHeadRun.RunEq R qv hk ob 30000 names w := by
  intro os
  kernel_rfl
end K05
end
section
namespace K05
open PySem PySem.Spec PySem.W PySem.Calls PyProof.Rows L2 Z
theorem txt : Txt L := ⟨by decide +kernel, by decide +kernel, nm_of (by decide +kernel), by decide +kernel, by decide +kernel⟩
theorem allT : AllT L.fns L.D.defs L.Ns := ⟨t_is_integer, ⟨t_is_name, ⟨t_is_word, ⟨t_rounded, ⟨t_clipped, ⟨t_Form_init_, ⟨t_Form_bits, ⟨t_Form_rounding, ⟨t_Form_limit, ⟨t_Form_low, ⟨t_Form_high, ⟨t_Form_eq_, ⟨t_Form_all_parts, ⟨t_Form_len_, ⟨t_Form_contains_, ⟨t_Form_call_, ⟨t_Form_changed, ⟨t_word_of, ⟨t_check_integer, ⟨t_Sensor_init_, ⟨t_Sensor_level, ⟨t_Sensor_size, ⟨t_Sensor_low, ⟨t_Sensor_high, ⟨t_Sensor_eq_, ⟨t_Sensor_all_parts, ⟨t_Sensor_call_, ⟨t_reading_of, ⟨t_Drive_init_, ⟨t_Drive_low, ⟨t_Drive_high, ⟨t_Drive_change, ⟨t_Drive_start, ⟨t_Drive_eq_, ⟨t_Drive_all_parts, ⟨t_Drive_len_, ⟨t_Drive_contains_, ⟨t_Drive_call_, ⟨t_position_of, ⟨t_divisor, ⟨t_reduced, ⟨t_is_factor, ⟨t_are_terms, ⟨t_Sum_init_, ⟨t_Sum_constant, ⟨t_Sum_terms, ⟨t_Sum_eq_, ⟨t_Sum_len_, ⟨t_Sum_contains_, ⟨t_Sum_getitem_, ⟨t_Sum_iter_, ⟨t_Sum_add_, ⟨t_Sum_sub_, ⟨t_Sum_neg_, ⟨t_Sum_call_, ⟨t_plus, ⟨t_added, ⟨t_shared_bottom, ⟨t_total, ⟨t_law_number, ⟨t_law_word, ⟨t_law_value, ⟨t_law_gcd, ⟨t_law_lowest, ⟨t_law_forms_right, ⟨t_law_parts, ⟨t_law_made, ⟨t_law_sum_right, ⟨t_law_devices_right, ⟨t_law_all_right, ⟨t_law, trivial⟩⟩⟩⟩⟩⟩⟩⟩⟩⟩⟩⟩⟩⟩⟩⟩⟩⟩⟩⟩⟩⟩⟩⟩⟩⟩⟩⟩⟩⟩⟩⟩⟩⟩⟩⟩⟩⟩⟩⟩⟩⟩⟩⟩⟩⟩⟩⟩⟩⟩⟩⟩⟩⟩⟩⟩⟩⟩⟩⟩⟩⟩⟩⟩⟩⟩⟩⟩⟩⟩⟩

end K05
open PySem PySem.W PySem.Calls PyProof.Rows
theorem PySem.Challenge.cw_steadyloop_k05_whole_numbers_holds : PySem.Challenge.rw_steadyloop_k05_whole_numbers.Holds := by
  w_on; o_law
  refine HandSHeadRun.head_any (r := OpenLaw.row PySem.Challenge.rw_steadyloop_k05_whole_numbers) (q := view (OpenLaw.row PySem.Challenge.rw_steadyloop_k05_whole_numbers).prog [56]) (H := K05.hk) (ob := K05.ob) (M := 30000) (loose := K05.names) (d := HandSHeadRun.topDef (OpenLaw.row PySem.Challenge.rw_steadyloop_k05_whole_numbers).prog 56) (kwd := []) K05.ob_eq
    (by kernel_rfl) (fun s => by kernel_rfl) K05.run (by kernel_rfl) (by kernel_rfl) (by kernel_rfl) (by rfl) (by first | assumption | decide +kernel) (by decide +kernel) ⟨rfl, rfl, rfl, rfl, rfl, by decide +kernel⟩ ?hw ?hc
  case hw => w_witness2
  case hc =>
    refine Z.walk_ofZ (l := PySem.Challenge.rw_steadyloop_k05_whole_numbers) (n := 63) (k := 2 * 20 + 2) (x := "_law_script") rfl (by decide) (by kernel_rfl) ⟨rfl, by decide, by decide⟩ ?F
    intro w mg fa h Y G hmg0
    obtain ⟨K, KX, c⟩ := Y
    have hmg : mg ("law" : PySem.Str) = some (.ref fa) := by
      have e : (HandSHeadRun.topDef (OpenLaw.row PySem.Challenge.rw_steadyloop_k05_whole_numbers).prog 56).name = ("law" : PySem.Str) := by kernel_rfl
      rw [← e]
      exact hmg0
    obtain ⟨fd, hb, hF⟩ := Z.law_facts (P := (PySem.Challenge.rw_steadyloop_k05_whole_numbers).prog) (w := w) (n := 30) (d := 20) (k := K05.i_law) (dl := K05.y_law) (dz := K05.z_law) (N := K05.n_law) (x := "_law_script") KX G hmg c K05.txt K05.allT rfl rfl rfl (by decide +kernel) rfl rfl rfl fun _ _ _ _ _ _ us hl => match us, hl with | [_], _ => rfl
    refine ⟨K, fd, _, KX, hb, Z.spec_of fun ns hl => ?_, hF⟩
    show Z.isTrue (Z.callsAt K05.D K05.G 30 K05.L.codes (20 + 1) K05.i_law [Z.scr ns] ⟨0, .e⟩) = true
    rw [K05.calls_eq]
    exact K05.main ns hl
end
