import PyProof.Rows.All
import Wide.All
import OpenK.AllK
import Wide.FinOn
import HandS.ForMost
import HandS.ForExc
import HandS.HeadHook1
import KE.KDictKeyed
import KE.KeyNested
import KE.KDictWalk
import HandS.Star
import HandS.TupAny
import HandS.TupMul
import HandS.Deep
import HandS.Wide
import HandS.WideBits
import HandS.IsInst
import HandS.Codes
import HandS.Text
import HandS.RaiseMore
import HandS.More
import HandS.Dict
import HandS.Iter
import HandS.Words
import HandS.WordsExc
import HandS.Defaults
import HandS.MakeKwOnly
import KE.GoesEnum
import KE.GoesMore
import HandS.DictComp
import PyProof.Rows.TupDisplay
import KE.KDictCopyH
import KE.KDictList
import HandS.TupLen
import HandS.MakeKw
import HandS.Style
import HandS.Conv
import HandS.Head0
import HandS.Head1
import HandS.Head2
import HandS.HeadEnd
import HandS.HeadHook2
import HandS.HeadHook3
import KE.KDictOf
import HandS.SortRule
import KE.KDictSum
import PySem.Challenge.RW_trimmedlogs_k13_known_finding
set_option Elab.async false
set_option linter.all false
set_option maxRecDepth 100000
set_option maxHeartbeats 0
set_option autoImplicit false
namespace TL
open PySem PySem.Spec PyProof.Rows L2

/-! ### own values, own heap -/
inductive D where
  | non | bl (b : Bool) | int (i : Int) | str (x : Str) | tup (xs : List D) | obj (n : Nat) | kls (xs : List D)
inductive LO where
  | lst (lk : Bool) (xs : List D) | dct (kd : Bool) (es : List (NestedKey × D × D)) | ins (c : Nat) (fs : List (Nat × D))
abbrev VO := Nat × LO
inductive Tr where
  | nil | node (l : Tr) (v : Option VO) (r : Tr)
def Tr.get : Tr → Nat → Option VO
  | .nil, _ => none
  | .node _ v _, 0 => v
  | .node l _ r, n + 1 => bif Nat.beq (n % 2) 0 then l.get (n / 2) else r.get (n / 2)
def Tr.sing : Nat → Nat → VO → Tr
  | 0, _, o => .node .nil (some o) .nil
  | _ + 1, 0, o => .node .nil (some o) .nil
  | f + 1, n + 1, o => bif Nat.beq (n % 2) 0 then .node (sing f (n / 2) o) none .nil else .node .nil none (sing f (n / 2) o)
def Tr.set : Tr → Nat → VO → Tr
  | .nil, n, o => sing n n o
  | .node l _ r, 0, o => .node l (some o) r
  | .node l v r, n + 1, o => bif Nat.beq (n % 2) 0 then .node (l.set (n / 2) o) v r else .node l v (r.set (n / 2) o)
theorem par_even {n : Nat} (h : Nat.beq (n % 2) 0 = true) : n % 2 = 0 := Nat.eq_of_beq_eq_true h
theorem par_odd {n : Nat} (h : Nat.beq (n % 2) 0 = false) : n % 2 = 1 := by
  have : n % 2 ≠ 0 := fun e => by rw [e] at h; exact absurd h (by decide)
  omega
theorem get_sing (o : VO) : ∀ (f n m : Nat), n ≤ f → (Tr.sing f n o).get m = if m = n then some o else none
  | 0, n, m, h => by
    have e : n = 0 := by omega
    subst e
    cases m with
    | zero => rfl
    | succ m => show (bif Nat.beq (m % 2) 0 then Tr.get .nil (m / 2) else Tr.get .nil (m / 2)) = _; cases Nat.beq (m % 2) 0 <;> rfl
  | f + 1, 0, m, h => by
    cases m with
    | zero => rfl
    | succ m => show (bif Nat.beq (m % 2) 0 then Tr.get .nil (m / 2) else Tr.get .nil (m / 2)) = _; cases Nat.beq (m % 2) 0 <;> rfl
  | f + 1, n + 1, m, h => by
    have ih := get_sing o f (n / 2)
    unfold Tr.sing
    cases q : Nat.beq (n % 2) 0 with
    | true =>
      have q' := par_even q
      cases m with
      | zero => rfl
      | succ m =>
        show (bif Nat.beq (m % 2) 0 then (Tr.sing f (n / 2) o).get (m / 2) else Tr.get .nil (m / 2)) = _
        cases p : Nat.beq (m % 2) 0 with
        | true =>
          have p' := par_even p
          show (Tr.sing f (n / 2) o).get (m / 2) = _
          rw [ih _ (by omega)]
          by_cases e : m = n
          · subst e; rw [if_pos rfl, if_pos rfl]
          · rw [if_neg (by omega), if_neg (by omega)]
        | false =>
          have p' := par_odd p
          show none = _
          rw [if_neg (by omega)]
    | false =>
      have q' := par_odd q
      cases m with
      | zero => rfl
      | succ m =>
        show (bif Nat.beq (m % 2) 0 then Tr.get .nil (m / 2) else (Tr.sing f (n / 2) o).get (m / 2)) = _
        cases p : Nat.beq (m % 2) 0 with
        | true =>
          have p' := par_even p
          show none = _
          rw [if_neg (by omega)]
        | false =>
          have p' := par_odd p
          show (Tr.sing f (n / 2) o).get (m / 2) = _
          rw [ih _ (by omega)]
          by_cases e : m = n
          · subst e; rw [if_pos rfl, if_pos rfl]
          · rw [if_neg (by omega), if_neg (by omega)]
theorem get_set (o : VO) : ∀ (t : Tr) (n m : Nat), (t.set n o).get m = if m = n then some o else t.get m
  | .nil, n, m => by
    show (Tr.sing n n o).get m = _
    rw [get_sing o n n m (Nat.le_refl _)]
    rfl
  | .node l v r, 0, m => by
    cases m with
    | zero => rfl
    | succ m => rfl
  | .node l v r, n + 1, m => by
    have il := get_set o l (n / 2)
    have ir := get_set o r (n / 2)
    unfold Tr.set
    cases q : Nat.beq (n % 2) 0 with
    | true =>
      have q' := par_even q
      cases m with
      | zero => rfl
      | succ m =>
        show (bif Nat.beq (m % 2) 0 then (l.set (n / 2) o).get (m / 2) else r.get (m / 2)) = if m + 1 = n + 1 then some o else (bif Nat.beq (m % 2) 0 then l.get (m / 2) else r.get (m / 2))
        cases p : Nat.beq (m % 2) 0 with
        | true =>
          have p' := par_even p
          show (l.set (n / 2) o).get (m / 2) = if m + 1 = n + 1 then some o else l.get (m / 2)
          rw [il]
          by_cases e : m = n
          · subst e; rw [if_pos rfl, if_pos rfl]
          · rw [if_neg (by omega), if_neg (by omega)]
        | false =>
          have p' := par_odd p
          rw [if_neg (by omega)]
          rfl
    | false =>
      have q' := par_odd q
      cases m with
      | zero => rfl
      | succ m =>
        show (bif Nat.beq (m % 2) 0 then l.get (m / 2) else (r.set (n / 2) o).get (m / 2)) = if m + 1 = n + 1 then some o else (bif Nat.beq (m % 2) 0 then l.get (m / 2) else r.get (m / 2))
        cases p : Nat.beq (m % 2) 0 with
        | true =>
          have p' := par_even p
          rw [if_neg (by omega)]
          rfl
        | false =>
          have p' := par_odd p
          show (r.set (n / 2) o).get (m / 2) = if m + 1 = n + 1 then some o else r.get (m / 2)
          rw [ir]
          by_cases e : m = n
          · subst e; rw [if_pos rfl, if_pos rfl]
          · rw [if_neg (by omega), if_neg (by omega)]
structure LH where
  nx : Nat
  tr : Tr
def LH.get (h : LH) (n : Nat) : Option LO := match h.tr.get n with
  | some p => some p.2
  | none => none
def LH.ver (h : LH) (n : Nat) : Nat := match h.tr.get n with
  | some p => p.1
  | none => 0
def LH.put (h : LH) (n : Nat) (o : LO) : LH := ⟨h.nx, h.tr.set n (h.ver n + 1, o)⟩
def LH.new (h : LH) (o : LO) : LH := ⟨h.nx + 1, h.tr.set h.nx (0, o)⟩
theorem LH.get_put (h : LH) (n m : Nat) (o : LO) : (h.put n o).get m = if m = n then some o else h.get m := by
  unfold LH.put LH.get
  simp only
  rw [get_set]
  by_cases e : m = n
  · rw [if_pos e, if_pos e]
  · rw [if_neg e, if_neg e]
theorem LH.get_new (h : LH) (m : Nat) (o : LO) : (h.new o).get m = if m = h.nx then some o else h.get m := by
  unfold LH.new LH.get
  simp only
  rw [get_set]
  by_cases e : m = h.nx
  · rw [if_pos e, if_pos e]
  · rw [if_neg e, if_neg e]
theorem LH.ver_put (h : LH) (n m : Nat) (o : LO) : (h.put n o).ver m = if m = n then h.ver n + 1 else h.ver m := by
  unfold LH.put
  show (match (h.tr.set n (h.ver n + 1, o)).get m with | some p => p.1 | none => 0) = _
  rw [get_set]
  by_cases e : m = n
  · rw [if_pos e, if_pos e]
  · rw [if_neg e, if_neg e]
    rfl
theorem LH.ver_new (h : LH) (m : Nat) (o : LO) : (h.new o).ver m = if m = h.nx then 0 else h.ver m := by
  unfold LH.new
  show (match (h.tr.set h.nx (0, o)).get m with | some p => p.1 | none => 0) = _
  rw [get_set]
  by_cases e : m = h.nx
  · rw [if_pos e, if_pos e]
  · rw [if_neg e, if_neg e]
    rfl

/-! ### results -/
inductive Res (α : Type) where
  | ok (a : α) (h : LH) | err (c : Nat) (p : D) (h : LH) | stuck
def Res.bind {α β : Type} (r : Res α) (f : α → LH → Res β) : Res β := match r with
  | .ok a h => f a h
  | .err c p h => .err c p h
  | .stuck => .stuck
abbrev Sl := List (Option D)
abbrev ME := Sl → LH → Res D
abbrev MT := Sl → LH → Res Bool
abbrev MA := Sl → LH → Res (List D)
inductive SRes where
  | nx (sl : Sl) (h : LH) | rt (d : D) (h : LH) | bk (sl : Sl) (h : LH) | ct (sl : Sl) (h : LH) | err (c : Nat) (p : D) (h : LH) | stuck
abbrev MS := Sl → LH → SRes

/-! ### the relation of own values and heaps with the layer's -/
/-- the written part and the names by number: classes, fields, exceptions (with their field) -/
structure Tb where
  K : PySem.W.Frag
  w : World
  cn : List Str
  fn : List Str
  xn : List (Str × Option Str)
/-- the locked part -/
def frzP (H : Hp) : Hp := fun b => match H b with
  | some (.frz o u) => some (.frz o u)
  | _ => none
/-- a list that nobody writes: known to the object, or of the module -/
def SqF (K : PySem.W.Frag) (H : Hp) (a : Addr) (xs : List V) : Prop := SqL K (frzP H) a xs
section
variable (T : Tb) (ρ : List Addr) (H : Hp)
mutual
def RelD : D → V → Prop
  | .non, v => v = .non
  | .bl b, v => v = .bl b
  | .int i, v => v = .int i
  | .str x, v => v = .str x
  | .tup ds, v => ∃ a vs, v = .ref a ∧ SqT T.K H a vs ∧ RelDs ds vs
  | .obj n, v => ∃ a, ρ[n]? = some a ∧ v = .ref a
  | .kls ds, v => ∃ a vs, v = .ref a ∧ SqF T.K H a vs ∧ RelDs ds vs
def RelDs : List D → List V → Prop
  | [], vs => vs = []
  | d :: ds, vs => ∃ v r, vs = v :: r ∧ RelD d v ∧ RelDs ds r
end
end
/-- a later state: more own things, the same tuples and locked things -/
structure Le0 (ρ : List Addr) (H : Hp) (ρ' : List Addr) (H' : Hp) : Prop where
  pre : ρ <+: ρ'
  tup : ∀ a xs, H a = some (.tup xs) → H' a = some (.tup xs)
  frz : ∀ a o u, H a = some (.frz o u) → H' a = some (.frz o u)
theorem Le0.refl {ρ : List Addr} {H : Hp} : Le0 ρ H ρ H := ⟨List.prefix_refl _, fun _ _ e => e, fun _ _ _ e => e⟩
theorem Le0.trans {ρ ρ1 ρ2 : List Addr} {H H1 H2 : Hp} (a : Le0 ρ H ρ1 H1) (b : Le0 ρ1 H1 ρ2 H2) : Le0 ρ H ρ2 H2 :=
  ⟨a.pre.trans b.pre, fun c xs e => b.tup c xs (a.tup c xs e), fun c o u e => b.frz c o u (a.frz c o u e)⟩
theorem Le0.get {ρ ρ' : List Addr} {H H' : Hp} (le : Le0 ρ H ρ' H') {n : Nat} {a : Addr} (h : ρ[n]? = some a) : ρ'[n]? = some a := by
  obtain ⟨t, e⟩ := le.pre
  rw [← e, List.getElem?_append_left (List.getElem?_eq_some_iff.mp h).1]
  exact h
theorem Le0.sqT {K : PySem.W.Frag} {ρ ρ' : List Addr} {H H' : Hp} (le : Le0 ρ H ρ' H') {a : Addr} {xs : List V} (h : SqT K H a xs) : SqT K H' a xs := by
  rcases h with h | h
  · refine .inl ?_
    rcases h with h | ⟨o, h⟩
    · exact .inl (le.tup _ _ h)
    · exact .inr ⟨o, le.frz _ _ _ h⟩
  · exact .inr h
theorem frzP_eq {H : Hp} {a : Addr} {o : Obj} {u : HO} : frzP H a = some (.frz o u) ↔ H a = some (.frz o u) := by
  unfold frzP
  split
  · rename_i h
    rw [h]
  · rename_i h
    exact ⟨fun e => (nomatch e), fun e => (h _ _ e).elim⟩
theorem frzP_lst {H : Hp} {a : Addr} {xs : List V} (h : frzP H a = some (.lst xs)) : False := by
  unfold frzP at h
  split at h <;> cases h
theorem SqF.sqL {K : PySem.W.Frag} {H : Hp} {a : Addr} {xs : List V} (h : SqF K H a xs) : SqL K H a xs := by
  rcases h with h | h
  · refine .inl ?_
    rcases h with h | ⟨o, h⟩
    · exact (frzP_lst h).elim
    · exact .inr ⟨o, frzP_eq.mp h⟩
  · exact .inr h
theorem SqF.of {K : PySem.W.Frag} {H : Hp} {a : Addr} {xs : List V} (hO : ∀ b, H b = none ∨ ∃ o xs, H b = some (.frz o (.lst xs))) (h : SqL K H a xs) : SqF K H a xs := by
  have e : frzP H = H := by
    funext b
    unfold frzP
    rcases hO b with q | ⟨o, ys, q⟩ <;> rw [q]
  unfold SqF
  rw [e]
  exact h
theorem Le0.sqF {K : PySem.W.Frag} {ρ ρ' : List Addr} {H H' : Hp} (le : Le0 ρ H ρ' H') {a : Addr} {xs : List V} (h : SqF K H a xs) : SqF K H' a xs := by
  rcases h with h | h
  · refine .inl ?_
    rcases h with h | ⟨o, h⟩
    · exact (frzP_lst h).elim
    · exact .inr ⟨o, frzP_eq.mpr (le.frz _ _ _ (frzP_eq.mp h))⟩
  · exact .inr h
/-- .. and what was not written is as it was -/
structure Le (ρ : List Addr) (lh : LH) (H : Hp) (ρ' : List Addr) (lh' : LH) (H' : Hp) : Prop extends Le0 ρ H ρ' H' where
  ver : ∀ n, n < ρ.length → lh.ver n ≤ lh'.ver n
  same : ∀ (n : Nat) (a : Addr), ρ[n]? = some a → lh.ver n = lh'.ver n → H' a = H a
theorem Le.refl {ρ : List Addr} {lh : LH} {H : Hp} : Le ρ lh H ρ lh H := ⟨Le0.refl, fun _ _ => Nat.le_refl _, fun _ _ _ _ => rfl⟩
theorem Le.trans {ρ ρ1 ρ2 : List Addr} {lh lh1 lh2 : LH} {H H1 H2 : Hp} (a : Le ρ lh H ρ1 lh1 H1) (b : Le ρ1 lh1 H1 ρ2 lh2 H2) : Le ρ lh H ρ2 lh2 H2 := by
  have hl : ρ.length ≤ ρ1.length := a.pre.length_le
  refine ⟨a.toLe0.trans b.toLe0, fun n h => Nat.le_trans (a.ver n h) (b.ver n (by omega)), fun n c e hv => ?_⟩
  have hn : n < ρ.length := (List.getElem?_eq_some_iff.mp e).1
  have h1 := a.ver n hn
  have h2 := b.ver n (by omega)
  rw [b.same n c (a.toLe0.get e) (by omega), a.same n c e (by omega)]
section
variable {T : Tb} {ρ ρ' : List Addr} {H H' : Hp}
mutual
theorem RelD.mono (le : Le0 ρ H ρ' H') : ∀ {d : D} {v : V}, RelD T ρ H d v → RelD T ρ' H' d v
  | .non, _, h => h
  | .bl _, _, h => h
  | .int _, _, h => h
  | .str _, _, h => h
  | .tup _, _, ⟨a, vs, e, s, r⟩ => ⟨a, vs, e, le.sqT s, RelDs.mono le r⟩
  | .obj _, _, ⟨a, e, h⟩ => ⟨a, le.get e, h⟩
  | .kls _, _, ⟨a, vs, e, s, r⟩ => ⟨a, vs, e, le.sqF s, RelDs.mono le r⟩
theorem RelDs.mono (le : Le0 ρ H ρ' H') : ∀ {ds : List D} {vs : List V}, RelDs T ρ H ds vs → RelDs T ρ' H' ds vs
  | [], _, h => h
  | _ :: _, _, ⟨v, r, e, h1, h2⟩ => ⟨v, r, e, RelD.mono le h1, RelDs.mono le h2⟩
end
theorem RelDs.length : ∀ {ds : List D} {vs : List V}, RelDs T ρ H ds vs → ds.length = vs.length
  | [], _, h => by rw [show _ = [] from h]; rfl
  | _ :: _, _, ⟨v, r, e, _, h2⟩ => by rw [e, List.length_cons, List.length_cons, RelDs.length h2]
theorem RelDs.append : ∀ {ds es : List D} {vs us : List V}, RelDs T ρ H ds vs → RelDs T ρ H es us → RelDs T ρ H (ds ++ es) (vs ++ us)
  | [], _, _, _, h, k => by rw [show _ = [] from h]; exact k
  | _ :: _, _, _, _, ⟨v, r, e, h1, h2⟩, k => ⟨v, r ++ _, by rw [e]; rfl, h1, RelDs.append h2 k⟩
theorem RelDs.get : ∀ {ds : List D} {vs : List V} {i : Nat} {d : D}, RelDs T ρ H ds vs → ds[i]? = some d → ∃ v, vs[i]? = some v ∧ RelD T ρ H d v
  | [], _, _, _, _, e => by simp at e
  | d :: ds, _, 0, _, ⟨v, r, e, h1, _⟩, q => by
    simp at q; subst q
    exact ⟨v, by rw [e]; rfl, h1⟩
  | d :: ds, _, i + 1, _, ⟨v, r, e, _, h2⟩, q => by
    obtain ⟨u, h3, h4⟩ := RelDs.get (i := i) h2 (by simpa using q)
    exact ⟨u, by rw [e]; simpa using h3, h4⟩
theorem RelDs.take : ∀ {ds : List D} {vs : List V} (n : Nat), RelDs T ρ H ds vs → RelDs T ρ H (ds.take n) (vs.take n)
  | [], _, _, h => by rw [show _ = [] from h]; simp [RelDs]
  | _ :: _, _, 0, _ => by simp [RelDs]
  | _ :: _, _, n + 1, ⟨v, r, e, h1, h2⟩ => by
    subst e
    exact ⟨v, r.take n, rfl, h1, RelDs.take n h2⟩
theorem RelDs.drop : ∀ {ds : List D} {vs : List V} (n : Nat), RelDs T ρ H ds vs → RelDs T ρ H (ds.drop n) (vs.drop n)
  | [], _, _, h => by rw [show _ = [] from h]; simp [RelDs]
  | d :: ds, _, 0, h => by simpa using h
  | _ :: _, _, n + 1, ⟨v, r, e, h1, h2⟩ => by
    subst e
    exact RelDs.drop n h2
theorem RelDs.one {d : D} {v : V} (h : RelD T ρ H d v) : RelDs T ρ H [d] [v] := ⟨v, [], rfl, h, rfl⟩
theorem RelDs.set : ∀ {ds : List D} {vs : List V} {d : D} {v : V} (i : Nat), RelDs T ρ H ds vs → RelD T ρ H d v → RelDs T ρ H (ds.set i d) (vs.set i v)
  | [], _, _, _, _, h, _ => by rw [show _ = [] from h]; simp [RelDs]
  | _ :: _, _, _, _, 0, ⟨v, r, e, h1, h2⟩, k => by subst e; exact ⟨_, r, rfl, k, h2⟩
  | _ :: _, _, _, _, i + 1, ⟨v, r, e, h1, h2⟩, k => by subst e; exact ⟨v, r.set i _, rfl, h1, RelDs.set i h2 k⟩
theorem RelDs.eraseIdx : ∀ {ds : List D} {vs : List V} (i : Nat), RelDs T ρ H ds vs → RelDs T ρ H (ds.eraseIdx i) (vs.eraseIdx i)
  | [], _, _, h => by rw [show _ = [] from h]; simp [RelDs]
  | _ :: _, _, 0, ⟨v, r, e, h1, h2⟩ => by subst e; exact h2
  | _ :: _, _, i + 1, ⟨v, r, e, h1, h2⟩ => by subst e; exact ⟨v, r.eraseIdx i, rfl, h1, RelDs.eraseIdx i h2⟩
theorem RelDs.flatten_replicate {ds : List D} {vs : List V} (h : RelDs T ρ H ds vs) : ∀ n : Nat, RelDs T ρ H (List.replicate n ds).flatten (List.replicate n vs).flatten
  | 0 => rfl
  | n + 1 => by
    rw [List.replicate_succ, List.replicate_succ, List.flatten_cons, List.flatten_cons]
    exact h.append (RelDs.flatten_replicate h n)
theorem RelDs.reverse : ∀ {ds : List D} {vs : List V}, RelDs T ρ H ds vs → RelDs T ρ H ds.reverse vs.reverse
  | [], _, h => by rw [show _ = [] from h]; rfl
  | _ :: _, _, ⟨v, r, e, h1, h2⟩ => by
    subst e
    rw [List.reverse_cons, List.reverse_cons]
    exact (RelDs.reverse h2).append (RelDs.one h1)
end

/-! ### dict entries -/
mutual
def toNK : D → Option NestedKey
  | .non => some .none
  | .bl b => some (.num (if b = true then 1 else 0))
  | .int i => some (.num i)
  | .str x => some (.text x)
  | .tup ds => (toNKs ds).map .tup
  | .obj _ => none
  | .kls _ => none
def toNKs : List D → Option (List NestedKey)
  | [] => some []
  | d :: ds => match toNK d, toNKs ds with
    | some k, some ks => some (k :: ks)
    | _, _ => none
end
/-- a dict by its raw entries, as a thing of the layer -/
def dictO (a : Addr) (es : Array DictEntry) (ep : Nat) : HO := .ext fun h => h.DictRaw a es ep
section
variable (T : Tb) (ρ : List Addr) (H : Hp)
/-- a key's kind: tuples, or whole numbers and texts -/
def KdOk (kd : Bool) (nk : NestedKey) (k : D) : Prop := match kd with
  | true => (∃ ds, k = .tup ds) ∧ nk.depth ≤ 8
  | false => (∃ i, k = .int i) ∨ ∃ x, k = .str x
def EntR (kd : Bool) (x : NestedKey × D × D) (e : DictEntry) : Prop := ∃ kv vv, RelV kv e.key ∧ RelD T ρ H x.2.1 kv ∧ RelV vv e.val ∧ RelD T ρ H x.2.2 vv ∧ toNK x.2.1 = some x.1 ∧ e.hash = x.1.hash T.w ∧ KdOk kd x.1 x.2.1
def EntsR (kd : Bool) : List (NestedKey × D × D) → List DictEntry → Prop
  | [], es => es = []
  | x :: r, es => ∃ e es', es = e :: es' ∧ EntR T ρ H kd x e ∧ EntsR kd r es'
def FsR : List (Nat × D) → List (Str × V) → Prop
  | [], vs => vs = []
  | fd :: r, vs => ∃ x v r', vs = (x, v) :: r' ∧ T.fn[fd.1]? = some x ∧ RelD T ρ H fd.2 v ∧ FsR r r'
def ObjR (a : Addr) : LO → Prop
  | .lst lk ds => ∃ vs, RelDs T ρ H ds vs ∧ (match lk with
    | true => ∃ o, H a = some (.frz o (.lst vs))
    | false => H a = some (.lst vs))
  | .dct kd kvs => (a == sysModules) = false ∧ kvs.length ≤ 100000 ∧ (kvs.map (·.1)).Nodup ∧ ∃ es : Array DictEntry, ∃ ep : Nat, EntsR T ρ H kd kvs es.toList ∧ H a = some (dictO a es ep)
  | .ins c fs => ∃ x dx vfs, T.cn[c]? = some x ∧ H a = some (.ins (He.ga T.K x) dx vfs) ∧ FsR T ρ H fs vfs
structure HR (lh : LH) : Prop where
  len : ρ.length = lh.nx
  nd : ρ.Nodup
  trk : ∀ a ∈ ρ, H a ≠ none
  obj : ∀ n o, lh.get n = some o → ∃ a, ρ[n]? = some a ∧ ObjR T ρ H a o
structure SR (sl : Sl) (lh : LH) (σ : L2.St) : Prop where
  hr : HR T ρ H lh
  len : sl.length = σ.length
  sl : ∀ (i : Nat) (d : D), sl[i]? = some (some d) → ∃ v, σ[i]? = some (some v) ∧ RelD T ρ H d v
end
section
variable {T : Tb} {ρ ρ' : List Addr} {H H' : Hp}
theorem EntR.mono (le : Le0 ρ H ρ' H') {kd : Bool} {x : NestedKey × D × D} {e : DictEntry} : EntR T ρ H kd x e → EntR T ρ' H' kd x e
  | ⟨kv, vv, h1, h2, h3, h4, h5, h6, h7⟩ => ⟨kv, vv, h1, h2.mono le, h3, h4.mono le, h5, h6, h7⟩
theorem EntsR.mono (le : Le0 ρ H ρ' H') {kd : Bool} : ∀ {kvs : List (NestedKey × D × D)} {es : List DictEntry}, EntsR T ρ H kd kvs es → EntsR T ρ' H' kd kvs es
  | [], _, h => h
  | _ :: _, _, ⟨e, es', q, h1, h2⟩ => ⟨e, es', q, h1.mono le, EntsR.mono le h2⟩
theorem EntsR.length {kd : Bool} : ∀ {kvs : List (NestedKey × D × D)} {es : List DictEntry}, EntsR T ρ H kd kvs es → kvs.length = es.length
  | [], _, h => by rw [show _ = [] from h]; rfl
  | _ :: _, _, ⟨e, es', q, h1, h2⟩ => by rw [q, List.length_cons, List.length_cons, EntsR.length h2]
theorem FsR.mono (le : Le0 ρ H ρ' H') : ∀ {fs : List (Nat × D)} {vs : List (Str × V)}, FsR T ρ H fs vs → FsR T ρ' H' fs vs
  | [], _, h => h
  | _ :: _, _, ⟨x, v, r', q, h1, h2, h3⟩ => ⟨x, v, r', q, h1, h2.mono le, FsR.mono le h3⟩
theorem SR.mono {sl : Sl} {lh lh' : LH} {σ : L2.St} (s : SR T ρ H sl lh σ) (le : Le ρ lh H ρ' lh' H') (hr : HR T ρ' H' lh') : SR T ρ' H' sl lh' σ :=
  ⟨hr, s.len, fun i d e => let ⟨v, h1, h2⟩ := s.sl i d e; ⟨v, h1, h2.mono le.toLe0⟩⟩
/-- a thing at an address that stays as it is, in a later state -/
theorem ObjR.keep {a : Addr} {o : LO} (le : Le0 ρ H ρ' H') (e : H' a = H a) : ObjR T ρ H a o → ObjR T ρ' H' a o := by
  intro h
  cases o with
  | lst lk ds =>
    obtain ⟨vs, h1, h2⟩ := h
    refine ⟨vs, h1.mono le, ?_⟩
    cases lk with
    | true => obtain ⟨o, h2⟩ := h2; exact ⟨o, by rw [e]; exact h2⟩
    | false => show H' a = _; rw [e]; exact h2
  | dct kd kvs =>
    obtain ⟨h0, hz, h1, es, ep, h2, h3⟩ := h
    exact ⟨h0, hz, h1, es, ep, h2.mono le, by rw [e]; exact h3⟩
  | ins c fs => obtain ⟨x, dx, vfs, h1, h2, h3⟩ := h; exact ⟨x, dx, vfs, h1, by rw [e]; exact h2, h3.mono le⟩
/-- a new tuple is laid -/
theorem HR.ne {lh : LH} {p : Addr} (h : HR T ρ H lh) (hp : H p = none) {a : Addr} (ha : a ∈ ρ) : a ≠ p := fun z => h.trk a ha (by rw [z]; exact hp)
theorem Le.newTup {lh : LH} {p : Addr} {xs : List V} (h : HR T ρ H lh) (hp : H p = none) : Le ρ lh H ρ lh (upd H p (.tup xs)) :=
  ⟨⟨List.prefix_refl _, fun a ys e => by rw [upd_ne (ne_of_none e hp)]; exact e, fun a o u e => by rw [upd_ne (ne_of_none e hp)]; exact e⟩, fun _ _ => Nat.le_refl _,
    fun n a e _ => upd_ne (h.ne hp (List.mem_of_getElem? e))⟩
theorem HR.newTup {lh : LH} {p : Addr} {xs : List V} (h : HR T ρ H lh) (hp : H p = none) : HR T ρ (upd H p (.tup xs)) lh := by
  refine ⟨h.len, h.nd, fun a ha => by rw [upd_ne (h.ne hp ha)]; exact h.trk a ha, fun n o e => ?_⟩
  obtain ⟨a, h1, h2⟩ := h.obj n o e
  exact ⟨a, h1, h2.keep (Le.newTup h hp).toLe0 (upd_ne (h.ne hp (List.mem_of_getElem? h1)))⟩
/-- a new own thing is laid at p (its other objects dx): the heap but for these is the same -/
theorem Le.newObj {lh : LH} {p : Addr} {o : LO} (h : HR T ρ H lh) (hp : H p = none) (same : ∀ b, H b ≠ none → H' b = H b) : Le ρ lh H (ρ ++ [p]) (lh.new o) H' := by
  have hv : ∀ n, n < ρ.length → (lh.new o).ver n = lh.ver n := fun n hn => by
    rw [LH.ver_new, if_neg (by rw [← h.len]; omega)]
  exact ⟨⟨List.prefix_append _ _, fun a ys e => by rw [same a (by rw [e]; simp)]; exact e, fun a o u e => by rw [same a (by rw [e]; simp)]; exact e⟩,
    fun n hn => by rw [hv n hn]; exact Nat.le_refl _, fun n a e _ => same a (h.trk a (List.mem_of_getElem? e))⟩
theorem HR.newObj {lh : LH} {p : Addr} {o : LO} (h : HR T ρ H lh) (hp : H p = none) (same : ∀ b, H b ≠ none → H' b = H b) (hn : H' p ≠ none) (ho : ObjR T (ρ ++ [p]) H' p o) : HR T (ρ ++ [p]) H' (lh.new o) := by
  have le : Le0 ρ H (ρ ++ [p]) H' := (Le.newObj (o := o) h hp same).toLe0
  refine ⟨by rw [List.length_append, h.len]; rfl, ?_, fun a ha => ?_, fun n o' e => ?_⟩
  · rw [List.nodup_append]
    refine ⟨h.nd, by simp, fun a ha b hb => ?_⟩
    have : b = p := by simpa using hb
    subst this
    exact fun z => h.trk a ha (by rw [z]; exact hp)
  · rcases List.mem_append.mp ha with ha | ha
    · rw [same a (h.trk a ha)]; exact h.trk a ha
    · have : a = p := by simpa using ha
      subst this
      exact hn
  · rw [LH.get_new] at e
    by_cases hx : n = lh.nx
    · rw [if_pos hx] at e
      cases e
      refine ⟨p, ?_, ho⟩
      rw [hx, ← h.len, List.getElem?_append_right (Nat.le_refl _)]
      simp
    · rw [if_neg hx] at e
      obtain ⟨a, h1, h2⟩ := h.obj n o' e
      exact ⟨a, le.get h1, h2.keep le (same a (h.trk a (List.mem_of_getElem? h1)))⟩
/-- an own thing is written -/
theorem HR.inj {lh : LH} {n m : Nat} {a : Addr} (h : HR T ρ H lh) (hn : ρ[n]? = some a) (hm : ρ[m]? = some a) : n = m := by
  obtain ⟨l1, e1⟩ := List.getElem?_eq_some_iff.mp hn
  obtain ⟨l2, e2⟩ := List.getElem?_eq_some_iff.mp hm
  exact (List.getElem_inj h.nd).mp (e1.trans e2.symm)
theorem HR.write {lh : LH} {n : Nat} {a : Addr} {o : LO} (h : HR T ρ H lh) (hn : ρ[n]? = some a) (le : Le0 ρ H ρ H') (same : ∀ b, b ≠ a → H' b = H b) (hs : H' a ≠ none) (ho : ObjR T ρ H' a o) : HR T ρ H' (lh.put n o) := by
  refine ⟨h.len, h.nd, fun b hb => ?_, fun m o' e => ?_⟩
  · by_cases hx : b = a
    · rw [hx]; exact hs
    · rw [same b hx]; exact h.trk b hb
  · rw [LH.get_put] at e
    by_cases hx : m = n
    · rw [if_pos hx] at e
      cases e
      exact ⟨a, by rw [hx]; exact hn, ho⟩
    · rw [if_neg hx] at e
      obtain ⟨b, h1, h2⟩ := h.obj m o' e
      refine ⟨b, h1, h2.keep le (same b fun z => hx ?_)⟩
      subst z
      exact h.inj h1 hn
theorem Le.write {lh : LH} {n : Nat} {a : Addr} {o : LO} (h : HR T ρ H lh) (hn : ρ[n]? = some a) (le : Le0 ρ H ρ H') (same : ∀ b, b ≠ a → H' b = H b) : Le ρ lh H ρ (lh.put n o) H' := by
  refine ⟨le, fun m hm => ?_, fun m b e hv => same b fun z => ?_⟩
  · rw [LH.ver_put]
    by_cases hx : m = n
    · rw [if_pos hx, hx]; exact Nat.le_succ _
    · rw [if_neg hx]; exact Nat.le_refl _
  · subst z
    have := h.inj e hn
    subst this
    rw [LH.ver_put, if_pos rfl] at hv
    omega
/-- a thing of the layer that may be written is no tuple and not locked: the order bears its change -/
theorem Le0.upd_mut {a : Addr} {u o : HO} (h : H a = some u) (h1 : ∀ xs, u ≠ .tup xs) (h2 : ∀ o' u', u ≠ .frz o' u') : Le0 ρ H ρ (upd H a o) := by
  refine ⟨List.prefix_refl _, fun b xs e => ?_, fun b o' u' e => ?_⟩
  · have : b ≠ a := fun z => by subst z; rw [h] at e; exact h1 xs (Option.some.inj e)
    rw [upd_ne this]; exact e
  · have : b ≠ a := fun z => by subst z; rw [h] at e; exact h2 o' u' (Option.some.inj e)
    rw [upd_ne this]; exact e
end
end TL

namespace TL
open PySem PySem.Spec PyProof.Rows L2

/-! ### readings by results -/
section
variable (T : Tb) (E : XK)
/-- how an exception of the own world lies in the layer's -/
def ExR (ρ : List Addr) (H : Hp) (c : Nat) (p : D) (cls : Value) (dd : Option Addr) : Prop :=
  ∃ x fo, T.xn[c]? = some (x, fo) ∧ cls = .ref (He.ga T.K x) ∧ match fo with
    | none => dd = none ∧ p = .non
    | some f => ∃ d v, dd = some d ∧ H d = some (.xd [(f, v)]) ∧ RelD T ρ H p v
def PostG {α : Type} (ρ : List Addr) (l0 : LH) (H : Hp) (r : Res α) (W : α → LH → List Addr → Hp → Prop) : Prop := match r with
  | .ok a lh => ∀ ρ' H', Le ρ l0 H ρ' lh H' → HR T ρ' H' lh → W a lh ρ' H'
  | .err c p lh => ∀ ρ' H' cls dd, Le ρ l0 H ρ' lh H' → HR T ρ' H' lh → ExR T ρ' H' c p cls dd → E cls dd H'
  | .stuck => False
abbrev PostE (ρ : List Addr) (l0 : LH) (H : Hp) (r : Res D) (Q : VK) : Prop := PostG T E ρ l0 H r fun d _ ρ' H' => ∀ v, RelD T ρ' H' d v → Q v H'
def rdE (m : ME) : TE := fun σ H Q => ∃ ρ sl lh, SR T ρ H sl lh σ ∧ PostE T E ρ lh H (m sl lh) Q
def rdT (m : MT) : TT := fun σ H Q => ∃ ρ sl lh, SR T ρ H sl lh σ ∧ PostG T E ρ lh H (m sl lh) fun b _ _ H' => Q b H'
def rdA (m : MA) : TA := fun σ H Q => ∃ ρ sl lh, SR T ρ H sl lh σ ∧ PostG T E ρ lh H (m sl lh) fun ds _ ρ' H' => ∀ vs, RelDs T ρ' H' ds vs → Q vs H'
def rdOp (f : D → D → LH → Res D) : R2 := fun x y H Q => ∃ ρ lh a b, HR T ρ H lh ∧ RelD T ρ H a x ∧ RelD T ρ H b y ∧ PostE T E ρ lh H (f a b lh) Q
def rdUn (f : D → LH → Res D) : V → Hp → VK → Prop := fun x H Q => ∃ ρ lh a, HR T ρ H lh ∧ RelD T ρ H a x ∧ PostE T E ρ lh H (f a lh) Q
def rdFn (f : List D → LH → Res D) : List V → Hp → VK → Prop := fun xs H Q => ∃ ρ lh ds, HR T ρ H lh ∧ RelDs T ρ H ds xs ∧ PostE T E ρ lh H (f ds lh) Q
def rdMt (f : D → List D → LH → Res D) : V → List V → Hp → VK → Prop := fun x xs H Q => ∃ ρ lh d ds, HR T ρ H lh ∧ RelD T ρ H d x ∧ RelDs T ρ H ds xs ∧ PostE T E ρ lh H (f d ds lh) Q
end
section
variable {T : Tb} {E : XK} {ρ ρ' : List Addr} {l0 l1 : LH} {H H' : Hp} {α β : Type}
theorem PostG.mono {r : Res α} {W W' : α → LH → List Addr → Hp → Prop} (h : PostG T E ρ l0 H r W) (k : ∀ a lh ρ' H', Le ρ l0 H ρ' lh H' → HR T ρ' H' lh → W a lh ρ' H' → W' a lh ρ' H') : PostG T E ρ l0 H r W' := by
  cases r with
  | ok a lh => exact fun ρ' H' le hr => k a lh ρ' H' le hr (h ρ' H' le hr)
  | err c p lh => exact h
  | stuck => exact h
theorem PostG.later {r : Res α} {W : α → LH → List Addr → Hp → Prop} (h : PostG T E ρ l0 H r W) (le : Le ρ l0 H ρ' l1 H') : PostG T E ρ' l1 H' r W := by
  cases r with
  | ok a lh => exact fun ρ2 H2 le2 hr => h ρ2 H2 (le.trans le2) hr
  | err c p lh => exact fun ρ2 H2 cls dd le2 hr ex => h ρ2 H2 cls dd (le.trans le2) hr ex
  | stuck => exact h
theorem PostG.bind {r : Res α} {k : α → LH → Res β} {W : β → LH → List Addr → Hp → Prop} (h : PostG T E ρ l0 H (r.bind k) W) : PostG T E ρ l0 H r fun a lh ρ' H' => PostG T E ρ' lh H' (k a lh) W := by
  cases r with
  | ok a lh => exact fun ρ' H' le hr => PostG.later (r := k a lh) h le
  | err c p lh => exact h
  | stuck => exact h
theorem PostE.ok {d : D} {lh : LH} {Q : VK} {v : V} (h : PostE T E ρ l0 H (.ok d lh) Q) (le : Le ρ l0 H ρ' lh H') (hr : HR T ρ' H' lh) (r : RelD T ρ' H' d v) : Q v H' := h ρ' H' le hr v r
end

/-! ### changing a reading -/
theorem _root_.L2.PE.imp {X : Cx} {e : Expr} {t t' : TE} (h : PE X e t) (k : ∀ σ H Q, t' σ H Q → t σ H Q) : PE X e t' := ⟨fun pins s σ H Q I q => h.run pins s σ H Q I (k σ H Q q)⟩
theorem _root_.L2.PT.imp {X : Cx} {e : Expr} {t t' : TT} (h : PT X e t) (k : ∀ σ H Q, t' σ H Q → t σ H Q) : PT X e t' := ⟨fun pins s σ H Q I q => h.run pins s σ H Q I (k σ H Q q)⟩
theorem _root_.L2.PW.imp {X : Cx} {e : Expr} {t t' : TT} (h : PW X e t) (k : ∀ σ H Q, t' σ H Q → t σ H Q) : PW X e t' := ⟨fun wh pins s σ H Q I q => h.run wh pins s σ H Q I (k σ H Q q)⟩
theorem _root_.L2.PA.imp {X : Cx} {es : List Expr} {t t' : TA} (h : PA X es t) (k : ∀ σ H Q, t' σ H Q → t σ H Q) : PA X es t' := ⟨fun pos pins s σ H Q I q => h.run pos pins s σ H Q I (k σ H Q q)⟩
theorem _root_.L2.PS.imp {X : Cx} {st : Stmt} {t t' : TS} (h : PS X st t) (k : ∀ D σ H, t' D σ H → t D σ H) : PS X st t' := ⟨fun pins s σ H D I q => h.run pins s σ H D I (k D σ H q)⟩
theorem _root_.L2.PSs.imp {X : Cx} {st : List Stmt} {t t' : TS} (h : PSs X st t) (k : ∀ D σ H, t' D σ H → t D σ H) : PSs X st t' := ⟨fun pins s σ H D I q => h.run pins s σ H D I (k D σ H q)⟩
theorem opImp {X : Cx} {f : Value → Value → Sem Value} {r r' : R2} (h : OpR X f r) (k : ∀ x y H Q, r' x y H Q → r x y H Q) : OpR X f r' := fun pins s σ H x y v u Q I rx ry q => h pins s σ H x y v u Q I rx ry (k x y H Q q)
theorem callImp {X : Cx} {f : Value} {r r' : List V → Hp → VK → Prop} (h : CallR X f r) (k : ∀ xs H Q, r' xs H Q → r xs H Q) : CallR X f r' := fun pins s σ H xs us Q I rx q => h pins s σ H xs us Q I rx (k xs H Q q)

/-! ### expressions: names, constants, operators, and, or, not, if -/
section
variable {T : Tb} {E : XK} {X : Cx} {σ : L2.St} {H : Hp} {Q : VK}
def mVar (i : Nat) : ME := fun sl h => match sl[i]? with
  | some (some d) => .ok d h
  | _ => .stuck
theorem rd_var {i : Nat} (h : rdE T E (mVar i) σ H Q) : tVar i σ H Q := by
  obtain ⟨ρ, sl, lh, sr, post⟩ := h
  unfold mVar at post
  cases e : sl[i]? with
  | none => rw [e] at post; exact post.elim
  | some o =>
    rw [e] at post
    cases o with
    | none => exact post.elim
    | some d =>
      obtain ⟨v, h1, h2⟩ := sr.sl i d e
      exact ⟨v, h1, PostE.ok post Le.refl sr.hr h2⟩
def mC (d : D) : ME := fun _ h => .ok d h
theorem rd_c {d : D} {v : V} (r : ∀ ρ H, RelD T ρ H d v) (h : rdE T E (mC d) σ H Q) : tC v σ H Q := by
  obtain ⟨ρ, sl, lh, sr, post⟩ := h
  exact PostE.ok post Le.refl sr.hr (r ρ H)
def m2 (f : D → D → LH → Res D) (ma mb : ME) : ME := fun sl h => (ma sl h).bind fun x h1 => (mb sl h1).bind fun y h2 => f x y h2
theorem rd_op {f : D → D → LH → Res D} {ma mb : ME} (h : rdE T E (m2 f ma mb) σ H Q) : tOp (rdOp T E f) (rdE T E ma) (rdE T E mb) σ H Q := by
  obtain ⟨ρ, sl, lh, sr, post⟩ := h
  refine ⟨ρ, sl, lh, sr, (PostG.bind post).mono fun x h1 ρ1 H1 le1 hr1 p1 v rv => ?_⟩
  refine ⟨ρ1, sl, h1, sr.mono le1 hr1, (PostG.bind p1).mono fun y h2 ρ2 H2 le2 hr2 p2 u ru => ?_⟩
  exact ⟨ρ2, h2, x, y, hr2, rv.mono le2.toLe0, ru, p2⟩
def m1 (f : D → LH → Res D) (ma : ME) : ME := fun sl h => (ma sl h).bind fun x h1 => f x h1
theorem rd_un {f : D → LH → Res D} {ma : ME} (h : rdE T E (m1 f ma) σ H Q) : tUn (rdUn T E f) (rdE T E ma) σ H Q := by
  obtain ⟨ρ, sl, lh, sr, post⟩ := h
  exact ⟨ρ, sl, lh, sr, (PostG.bind post).mono fun x h1 ρ1 H1 le1 hr1 p1 v rv => ⟨ρ1, h1, x, hr1, rv, p1⟩⟩
/-- truth that is known to be a bool -/
def toB (d : D) (h : LH) : Res Bool := match d with
  | .bl b => .ok b h
  | _ => .stuck
def mB (m : ME) : MT := fun sl h => (m sl h).bind toB
theorem rd_tB {m : ME} {Q : Bool → Hp → Prop} (h : rdT T E (mB m) σ H Q) : rdE T E m σ H fun x H1 => ∃ c, x = .bl c ∧ Q c H1 := by
  obtain ⟨ρ, sl, lh, sr, post⟩ := h
  refine ⟨ρ, sl, lh, sr, (PostG.bind post).mono fun x h1 ρ1 H1 le1 hr1 p1 v rv => ?_⟩
  cases x with
  | bl b => exact ⟨b, rv, p1 ρ1 H1 Le.refl hr1⟩
  | _ => exact p1.elim
def mAndV (ma mb : ME) : ME := fun sl h => (ma sl h).bind fun x h1 => (toB x h1).bind fun b h2 => match b with
  | true => mb sl h2
  | false => .ok (.bl false) h2
def mOrV (ma mb : ME) : ME := fun sl h => (ma sl h).bind fun x h1 => (toB x h1).bind fun b h2 => match b with
  | true => .ok (.bl true) h2
  | false => mb sl h2
def mNotV (ma : ME) : ME := fun sl h => (ma sl h).bind fun x h1 => (toB x h1).bind fun b h2 => .ok (.bl (!b)) h2
theorem rd_andV {ma mb : ME} (h : rdE T E (mAndV ma mb) σ H Q) : tAndV (rdE T E ma) (rdE T E mb) σ H Q := by
  obtain ⟨ρ, sl, lh, sr, post⟩ := h
  refine ⟨ρ, sl, lh, sr, (PostG.bind post).mono fun x h1 ρ1 H1 le1 hr1 p1 v rv => ?_⟩
  cases x with
  | bl b =>
    refine ⟨b, rv, ?_⟩
    cases b with
    | true => exact ⟨ρ1, sl, h1, sr.mono le1 hr1, p1⟩
    | false => exact PostE.ok p1 Le.refl hr1 rfl
  | _ => exact p1.elim
theorem rd_orV {ma mb : ME} (h : rdE T E (mOrV ma mb) σ H Q) : tOrV (rdE T E ma) (rdE T E mb) σ H Q := by
  obtain ⟨ρ, sl, lh, sr, post⟩ := h
  refine ⟨ρ, sl, lh, sr, (PostG.bind post).mono fun x h1 ρ1 H1 le1 hr1 p1 v rv => ?_⟩
  cases x with
  | bl b =>
    refine ⟨b, rv, ?_⟩
    cases b with
    | false => exact ⟨ρ1, sl, h1, sr.mono le1 hr1, p1⟩
    | true => exact PostE.ok p1 Le.refl hr1 rfl
  | _ => exact p1.elim
theorem rd_notV {ma : ME} (h : rdE T E (mNotV ma) σ H Q) : tNotV (rdE T E ma) σ H Q := by
  obtain ⟨ρ, sl, lh, sr, post⟩ := h
  refine ⟨ρ, sl, lh, sr, (PostG.bind post).mono fun x h1 ρ1 H1 le1 hr1 p1 v rv => ?_⟩
  cases x with
  | bl b => exact ⟨b, rv, PostE.ok p1 Le.refl hr1 rfl⟩
  | _ => exact p1.elim
def mAnd (ma mb : MT) : MT := fun sl h => (ma sl h).bind fun b h1 => match b with
  | true => mb sl h1
  | false => .ok false h1
def mOr (ma mb : MT) : MT := fun sl h => (ma sl h).bind fun b h1 => match b with
  | true => .ok true h1
  | false => mb sl h1
def mNot (ma : MT) : MT := fun sl h => (ma sl h).bind fun b h1 => .ok (!b) h1
theorem rd_and {ma mb : MT} {Q : Bool → Hp → Prop} (h : rdT T E (mAnd ma mb) σ H Q) : tAnd (rdT T E ma) (rdT T E mb) σ H Q := by
  obtain ⟨ρ, sl, lh, sr, post⟩ := h
  refine ⟨ρ, sl, lh, sr, (PostG.bind post).mono fun b h1 ρ1 H1 le1 hr1 p1 => ?_⟩
  cases b with
  | true => exact ⟨ρ1, sl, h1, sr.mono le1 hr1, p1⟩
  | false => exact p1 ρ1 H1 Le.refl hr1
theorem rd_or {ma mb : MT} {Q : Bool → Hp → Prop} (h : rdT T E (mOr ma mb) σ H Q) : tOr (rdT T E ma) (rdT T E mb) σ H Q := by
  obtain ⟨ρ, sl, lh, sr, post⟩ := h
  refine ⟨ρ, sl, lh, sr, (PostG.bind post).mono fun b h1 ρ1 H1 le1 hr1 p1 => ?_⟩
  cases b with
  | false => exact ⟨ρ1, sl, h1, sr.mono le1 hr1, p1⟩
  | true => exact p1 ρ1 H1 Le.refl hr1
theorem rd_not {ma : MT} {Q : Bool → Hp → Prop} (h : rdT T E (mNot ma) σ H Q) : tNot (rdT T E ma) σ H Q := by
  obtain ⟨ρ, sl, lh, sr, post⟩ := h
  exact ⟨ρ, sl, lh, sr, (PostG.bind post).mono fun b h1 ρ1 H1 le1 hr1 p1 => p1 ρ1 H1 Le.refl hr1⟩
def mIf (mt : MT) (ma mb : ME) : ME := fun sl h => (mt sl h).bind fun b h1 => match b with
  | true => ma sl h1
  | false => mb sl h1
theorem rd_if {mt : MT} {ma mb : ME} (h : rdE T E (mIf mt ma mb) σ H Q) : tIf (rdT T E mt) (rdE T E ma) (rdE T E mb) σ H Q := by
  obtain ⟨ρ, sl, lh, sr, post⟩ := h
  refine ⟨ρ, sl, lh, sr, (PostG.bind post).mono fun b h1 ρ1 H1 le1 hr1 p1 => ?_⟩
  cases b with
  | true => exact ⟨ρ1, sl, h1, sr.mono le1 hr1, p1⟩
  | false => exact ⟨ρ1, sl, h1, sr.mono le1 hr1, p1⟩
/-- a op b op' c -/
def mChain (f g : D → D → LH → Res D) (ma mb mc : ME) : ME := fun sl h => (ma sl h).bind fun x h1 => (mb sl h1).bind fun y h2 => (f x y h2).bind fun z h3 => (toB z h3).bind fun k h4 => match k with
  | true => (mc sl h4).bind fun w h5 => g y w h5
  | false => .ok (.bl false) h4
theorem rd_chain {f g : D → D → LH → Res D} {ma mb mc : ME} (h : rdE T E (mChain f g ma mb mc) σ H Q) : tChain (rdOp T E f) (rdOp T E g) (rdE T E ma) (rdE T E mb) (rdE T E mc) σ H Q := by
  obtain ⟨ρ, sl, lh, sr, post⟩ := h
  refine ⟨ρ, sl, lh, sr, (PostG.bind post).mono fun x h1 ρ1 H1 le1 hr1 p1 v rv => ?_⟩
  refine ⟨ρ1, sl, h1, sr.mono le1 hr1, (PostG.bind p1).mono fun y h2 ρ2 H2 le2 hr2 p2 u ru => ?_⟩
  refine ⟨ρ2, h2, x, y, hr2, rv.mono le2.toLe0, ru, (PostG.bind p2).mono fun z h3 ρ3 H3 le3 hr3 p3 w rw => ?_⟩
  cases z with
  | bl b =>
    refine ⟨b, rw, ?_⟩
    cases b with
    | true =>
      have p3 : PostE T E ρ3 h3 H3 ((mc sl h3).bind fun w h5 => g y w h5) Q := p3
      refine ⟨ρ3, sl, h3, (sr.mono le1 hr1).mono (le2.trans le3) hr3, (PostG.bind p3).mono fun w' h4 ρ4 H4 le4 hr4 p4 u' ru' => ?_⟩
      exact ⟨ρ4, h4, y, w', hr4, ru.mono (le3.trans le4).toLe0, ru', p4⟩
    | false => exact PostE.ok p3 Le.refl hr3 rfl
  | _ => exact p3.elim

/-! ### arguments, displays -/
def aNil : MA := fun _ h => .ok [] h
def aCons (m : ME) (ms : MA) : MA := fun sl h => (m sl h).bind fun x h1 => (ms sl h1).bind fun xs h2 => .ok (x :: xs) h2
/-- the items of a list or tuple -/
def itemsOf (d : D) (h : LH) : Option (List D) := match d with
  | .tup xs => some xs
  | .kls xs => some xs
  | .obj n => match h.get n with
    | some (.lst _ xs) => some xs
    | _ => none
  | _ => none
def aStar (m : ME) (ms : MA) : MA := fun sl h => (m sl h).bind fun x h1 => match itemsOf x h1 with
  | some xs => (ms sl h1).bind fun ys h2 => .ok (xs ++ ys) h2
  | none => .stuck
theorem rd_nil {Q : List V → Hp → Prop} (h : rdA T E aNil σ H Q) : tNil σ H Q := by
  obtain ⟨ρ, sl, lh, sr, post⟩ := h
  exact post ρ H Le.refl sr.hr [] rfl
theorem rd_cons {m : ME} {ms : MA} {Q : List V → Hp → Prop} (h : rdA T E (aCons m ms) σ H Q) : tCons (rdE T E m) (rdA T E ms) σ H Q := by
  obtain ⟨ρ, sl, lh, sr, post⟩ := h
  refine ⟨ρ, sl, lh, sr, (PostG.bind post).mono fun x h1 ρ1 H1 le1 hr1 p1 v rv => ?_⟩
  refine ⟨ρ1, sl, h1, sr.mono le1 hr1, (PostG.bind p1).mono fun xs h2 ρ2 H2 le2 hr2 p2 vs rvs => ?_⟩
  exact p2 ρ2 H2 Le.refl hr2 (v :: vs) ⟨v, vs, rfl, rv.mono le2.toLe0, rvs⟩
theorem ObjR.sqL {ρ : List Addr} {a : Addr} {lk : Bool} {ds : List D} (h : ObjR T ρ H a (.lst lk ds)) : ∃ vs, RelDs T ρ H ds vs ∧ SqL T.K H a vs := by
  obtain ⟨vs, h1, h2⟩ := h
  cases lk with
  | true => obtain ⟨o, h2⟩ := h2; exact ⟨vs, h1, .inl (.inr ⟨o, h2⟩)⟩
  | false => exact ⟨vs, h1, .inl (.inl h2)⟩
theorem items_ok {ρ : List Addr} {lh : LH} {d : D} {xs : List D} {v : V} (hr : HR T ρ H lh) (r : RelD T ρ H d v) (e : itemsOf d lh = some xs) : ∃ p vs, v = .ref p ∧ RelDs T ρ H xs vs ∧ (SqT T.K H p vs ∨ SqL T.K H p vs) := by
  cases d with
  | tup ys =>
    have e : some ys = some xs := e
    cases e
    obtain ⟨a, vs, ev, hs, hd⟩ := r
    exact ⟨a, vs, ev, hd, .inl hs⟩
  | kls ys =>
    have e : some ys = some xs := e
    cases e
    obtain ⟨a, vs, ev, hs, hd⟩ := r
    exact ⟨a, vs, ev, hd, .inr hs.sqL⟩
  | obj n =>
    obtain ⟨a, ea, ev⟩ := r
    unfold itemsOf at e
    simp only at e
    cases q : lh.get n with
    | none => rw [q] at e; cases e
    | some o =>
      rw [q] at e
      cases o with
      | lst lk ys =>
        have e : some ys = some xs := e
        cases e
        obtain ⟨b, eb, ho⟩ := hr.obj n _ q
        rw [ea] at eb; cases eb
        obtain ⟨vs, h1, h2⟩ := ho.sqL
        exact ⟨a, vs, ev, h1, .inr h2⟩
      | dct _ _ => cases e
      | ins _ _ => cases e
  | _ => cases e
theorem rd_star {m : ME} {ms : MA} {Q : List V → Hp → Prop} (hK : X.K = T.K) (h : rdA T E (aStar m ms) σ H Q) : StX.tStar X.K (rdE T E m) (rdA T E ms) σ H Q := by
  obtain ⟨ρ, sl, lh, sr, post⟩ := h
  refine ⟨ρ, sl, lh, sr, (PostG.bind post).mono fun x h1 ρ1 H1 le1 hr1 p1 v rv => ?_⟩
  cases e : itemsOf x h1 with
  | none => rw [e] at p1; exact p1.elim
  | some xs =>
    rw [e] at p1
    obtain ⟨p, vs, ev, hd, hs⟩ := items_ok hr1 rv e
    rw [hK]
    refine ⟨p, vs, ev, hs, ρ1, sl, h1, sr.mono le1 hr1, (PostG.bind p1).mono fun ys h2 ρ2 H2 le2 hr2 p2 us rus => ?_⟩
    exact p2 ρ2 H2 Le.refl hr2 (vs ++ us) ((hd.mono le2.toLe0).append rus)
def tooLong : Nat := 100000
theorem small_line {n : Nat} (h : n ≤ tooLong) : n ≤ sizeLine := by rw [sizeLine_eq]; unfold tooLong at h; omega
def mTup (ms : MA) : ME := fun sl h => (ms sl h).bind fun xs h1 => bif Nat.ble xs.length tooLong then .ok (.tup xs) h1 else .stuck
def mLst (ms : MA) : ME := fun sl h => (ms sl h).bind fun xs h1 => bif Nat.ble xs.length tooLong then .ok (.obj h1.nx) (h1.new (.lst false xs)) else .stuck
theorem cond_stuck {α : Type} {b : Bool} {r : Res α} {ρ : List Addr} {lh : LH} {W : α → LH → List Addr → Hp → Prop} (h : PostG T E ρ lh H (bif b then r else .stuck) W) : b = true ∧ PostG T E ρ lh H r W := by
  cases b with
  | true => exact ⟨rfl, h⟩
  | false => exact h.elim
/-- a new tuple, a new list at any free place -/
theorem new_tup {ρ : List Addr} {lh : LH} {xs : List D} {vs : List V} {p : Addr} (hr : HR T ρ H lh) (rv : RelDs T ρ H xs vs) (hp : H p = none) (post : PostE T E ρ lh H (.ok (.tup xs) lh) Q) : Q (.ref p) (upd H p (.tup vs)) :=
  PostE.ok post (Le.newTup hr hp) (hr.newTup hp) ⟨p, vs, rfl, SqT.of upd_same, rv.mono (Le.newTup hr hp).toLe0⟩
theorem upd_old {H : Hp} {p : Addr} {o : HO} (hp : H p = none) : ∀ b, H b ≠ none → upd H p o b = H b := fun b hb => upd_ne fun z => hb (by rw [z]; exact hp)
theorem new_lst {ρ : List Addr} {lh : LH} {xs : List D} {vs : List V} {p : Addr} (hr : HR T ρ H lh) (rv : RelDs T ρ H xs vs) (hp : H p = none) (post : PostE T E ρ lh H (.ok (.obj lh.nx) (lh.new (.lst false xs))) Q) : Q (.ref p) (upd H p (.lst vs)) := by
  have le : Le ρ lh H (ρ ++ [p]) (lh.new (.lst false xs)) (upd H p (.lst vs)) := Le.newObj hr hp (upd_old hp)
  refine PostE.ok post le (hr.newObj hp (upd_old hp) (by rw [upd_same]; simp) ⟨vs, rv.mono le.toLe0, upd_same⟩) ⟨p, ?_, rfl⟩
  rw [← hr.len, List.getElem?_append_right (Nat.le_refl _)]
  simp
theorem rd_tup {ms : MA} (h : rdE T E (mTup ms) σ H Q) : tTup (rdA T E ms) σ H Q := by
  obtain ⟨ρ, sl, lh, sr, post⟩ := h
  refine ⟨ρ, sl, lh, sr, (PostG.bind post).mono fun xs h1 ρ1 H1 le1 hr1 p1 vs rv => ?_⟩
  obtain ⟨hb, p1⟩ := cond_stuck p1
  exact ⟨by rw [← rv.length]; exact small_line (Nat.le_of_ble_eq_true hb), fun p hp => new_tup hr1 rv hp p1⟩
theorem rd_lst {ms : MA} (h : rdE T E (mLst ms) σ H Q) : tLst (rdA T E ms) σ H Q := by
  obtain ⟨ρ, sl, lh, sr, post⟩ := h
  refine ⟨ρ, sl, lh, sr, (PostG.bind post).mono fun xs h1 ρ1 H1 le1 hr1 p1 vs rv => ?_⟩
  obtain ⟨hb, p1⟩ := cond_stuck p1
  exact ⟨by rw [← rv.length]; exact small_line (Nat.le_of_ble_eq_true hb), fun p hp => new_lst hr1 rv hp p1⟩
end
end TL

namespace TL
open PySem PySem.Spec PyProof.Rows L2

/-! ### operators by values -/
def strEq (x y : Str) : Bool := x.cps.toList == y.cps.toList
theorem strEq_eq (x y : Str) : strEq x y = (x == y) := SeqAt.str_beq x y
theorem dec_strEq (x y : Str) : decide (V.str x = V.str y) = strEq x y := by rw [dec_str, strEq_eq]
def vAdd (a b : D) (h : LH) : Res D := match a, b with
  | .int i, .int j => .ok (.int (i + j)) h
  | .str x, .str y => bif Nat.ble (x.length + y.length) tooLong then .ok (.str (x ++ y)) h else .stuck
  | .tup xs, .tup ys => bif Nat.ble (xs.length + ys.length) tooLong then .ok (.tup (xs ++ ys)) h else .stuck
  | .obj n, .obj m => match h.get n, h.get m with
    | some (.lst false xs), some (.lst false ys) => bif Nat.ble (xs.length + ys.length) tooLong then .ok (.obj h.nx) (h.new (.lst false (xs ++ ys))) else .stuck
    | _, _ => .stuck
  | _, _ => .stuck
def vSub (a b : D) (h : LH) : Res D := match a, b with
  | .int i, .int j => .ok (.int (i - j)) h
  | _, _ => .stuck
def vMul (a b : D) (h : LH) : Res D := match a, b with
  | .int i, .int j => bif Nat.ble (i.natAbs.log2 + j.natAbs.log2) 100000000 then .ok (.int (i * j)) h else .stuck
  | .tup xs, .int k => bif Nat.ble 1 xs.length && Nat.ble xs.length 1000 && decide (2 ≤ k) && decide (k ≤ 1000) then .ok (.tup (List.replicate k.toNat xs).flatten) h else .stuck
  | .obj n, .int k => match h.get n with
    | some (.lst false xs) => bif decide (0 ≤ k) && decide (k ≤ 1000) && Nat.ble xs.length 1000 then .ok (.obj h.nx) (h.new (.lst false (List.replicate k.toNat xs).flatten)) else .stuck
    | _ => .stuck
  | _, _ => .stuck
def vDiv (a b : D) (h : LH) : Res D := match a, b with
  | .int i, .int j => bif decide (0 < j) && Nat.blt j.natAbs.log2 9000 then .ok (.int (i / j)) h else .stuck
  | _, _ => .stuck
def vMod (a b : D) (h : LH) : Res D := match a, b with
  | .int i, .int j => bif decide (0 < j) then .ok (.int (i % j)) h else .stuck
  | _, _ => .stuck
def vPow (a b : D) (h : LH) : Res D := match a, b with
  | .int i, .int j => bif decide (0 ≤ j) && decide (j ≤ 1000) && Nat.blt i.natAbs 1000000 then .ok (.int (i ^ j.toNat)) h else .stuck
  | _, _ => .stuck
def vNeg (a : D) (h : LH) : Res D := match a with
  | .int i => .ok (.int (-i)) h
  | _ => .stuck
def vBin : Operator → D → D → LH → Res D
  | .Add => vAdd
  | .Sub => vSub
  | .Mult => vMul
  | .FloorDiv => vDiv
  | .Mod => vMod
  | .Pow => vPow
  | _ => fun _ _ _ => .stuck
section
variable {T : Tb} {E : XK} {X : Cx}
theorem band {a b : Bool} (h : (a && b) = true) : a = true ∧ b = true := Bool.and_eq_true_iff.mp h
theorem obj_of {ρ : List Addr} {H : Hp} {lh : LH} {n : Nat} {v : V} {o : LO} (hr : HR T ρ H lh) (r : RelD T ρ H (.obj n) v) (e : lh.get n = some o) : ∃ a, v = .ref a ∧ ρ[n]? = some a ∧ ObjR T ρ H a o := by
  obtain ⟨a, ea, ev⟩ := r
  obtain ⟨b, eb, ho⟩ := hr.obj n o e
  rw [ea] at eb; cases eb
  exact ⟨a, ev, ea, ho⟩
theorem or_add (hK : X.K = T.K) : OpR X (binaryOp .Add) (rdOp T E vAdd) := by
  intro pins s σ H x y v u Q I rx ry h
  obtain ⟨ρ, lh, a, b, hr, ra, rb, post⟩ := h
  cases a with
  | int i =>
    cases b with
    | int j => exact op_add pins s σ H x y v u Q I rx ry ⟨i, j, ra, rb, PostE.ok post Le.refl hr rfl⟩
    | _ => exact post.elim
  | str i =>
    cases b with
    | str j =>
      obtain ⟨hb, post⟩ := cond_stuck post
      exact op_add_str pins s σ H x y v u Q I rx ry ⟨i, j, ra, rb, small_line (Nat.le_of_ble_eq_true hb), PostE.ok post Le.refl hr rfl⟩
    | _ => exact post.elim
  | tup xs =>
    cases b with
    | tup ys =>
      obtain ⟨hb, post⟩ := cond_stuck post
      have hb := small_line (Nat.le_of_ble_eq_true hb)
      obtain ⟨p, vs, ep, hp, rp⟩ := ra
      obtain ⟨q, us, eq, hq, rq⟩ := rb
      refine op_catA pins s σ H x y v u Q I rx ry ⟨p, q, vs, us, ep, eq, by rw [hK]; exact hp, by rw [hK]; exact hq, by rw [← rp.length, ← rq.length]; exact hb, fun z => ?_, fun _ z => ?_, fun _ _ c hc => ?_⟩
      · have : xs = [] := List.eq_nil_of_length_eq_zero (by rw [rp.length, z]; rfl)
        subst this
        exact PostE.ok post Le.refl hr ⟨q, us, rfl, hq, rq⟩
      · have : ys = [] := List.eq_nil_of_length_eq_zero (by rw [rq.length, z]; rfl)
        subst this
        refine PostE.ok post Le.refl hr ⟨p, vs, rfl, hp, ?_⟩
        rw [List.append_nil]; exact rp
      · exact new_tup hr (rp.append rq) hc post
    | _ => exact post.elim
  | obj n =>
    cases b with
    | obj m =>
      have post : PostE T E ρ lh H (match lh.get n, lh.get m with
        | some (.lst false xs), some (.lst false ys) => bif Nat.ble (xs.length + ys.length) tooLong then .ok (.obj lh.nx) (lh.new (.lst false (xs ++ ys))) else .stuck
        | _, _ => .stuck) Q := post
      split at post
      · rename_i xs ys e1 e2
        obtain ⟨hb, post⟩ := cond_stuck post
        have hb := small_line (Nat.le_of_ble_eq_true hb)
        obtain ⟨p, ep, _, vs, rp, hp⟩ := obj_of hr ra e1
        obtain ⟨q, eq, _, us, rq, hq⟩ := obj_of hr rb e2
        exact op_cat pins s σ H x y v u Q I rx ry ⟨p, q, vs, us, ep, eq, hp, hq, by rw [← rp.length, ← rq.length]; exact hb, fun c hc => new_lst hr (rp.append rq) hc post⟩
      · exact post.elim
    | _ => exact post.elim
  | _ => exact post.elim
theorem or_sub : OpR X (binaryOp .Sub) (rdOp T E vSub) := by
  intro pins s σ H x y v u Q I rx ry h
  obtain ⟨ρ, lh, a, b, hr, ra, rb, post⟩ := h
  cases a with
  | int i =>
    cases b with
    | int j => exact op_sub pins s σ H x y v u Q I rx ry ⟨i, j, ra, rb, PostE.ok post Le.refl hr rfl⟩
    | _ => exact post.elim
  | _ => exact post.elim
theorem bits_log (x : Int) : Builtin.Int.intBits x ≤ x.natAbs.log2 + 1 := by
  unfold Builtin.Int.intBits
  split <;> omega
theorem or_mul (hK : X.K = T.K) : OpR X (binaryOp .Mult) (rdOp T E vMul) := by
  intro pins s σ H x y v u Q I rx ry h
  obtain ⟨ρ, lh, a, b, hr, ra, rb, post⟩ := h
  cases a with
  | int i =>
    cases b with
    | int j =>
      obtain ⟨hb, post⟩ := cond_stuck post
      have hb := Nat.le_of_ble_eq_true hb
      refine op_mulX pins s σ H x y v u Q I rx ry ⟨i, j, ra, rb, ?_, PostE.ok post Le.refl hr rfl⟩
      have h1 := bits_log i
      have h2 := bits_log j
      unfold CMulX
      omega
    | _ => exact post.elim
  | tup xs =>
    cases b with
    | int k =>
      obtain ⟨hb, post⟩ := cond_stuck post
      obtain ⟨hb, h4⟩ := band hb
      obtain ⟨hb, h3⟩ := band hb
      obtain ⟨h1, h2⟩ := band hb
      have h1 := Nat.le_of_ble_eq_true h1
      have h2 := Nat.le_of_ble_eq_true h2
      obtain ⟨p, vs, ep, hp, rp⟩ := ra
      have hl := rp.length
      refine op_repT pins s σ H x y v u Q I rx ry ⟨p, k, vs, ep, rb, by rw [hK]; exact hp, fun z => ?_, of_decide_eq_true h3, of_decide_eq_true h4, by omega, fun c hc => new_tup hr (rp.flatten_replicate _) hc post⟩
      rw [z] at hl
      have : xs.length = 0 := hl
      omega
    | _ => exact post.elim
  | obj n =>
    cases b with
    | int k =>
      have post : PostE T E ρ lh H (match lh.get n with
        | some (.lst false xs) => bif decide (0 ≤ k) && decide (k ≤ 1000) && Nat.ble xs.length 1000 then .ok (.obj lh.nx) (lh.new (.lst false (List.replicate k.toNat xs).flatten)) else .stuck
        | _ => .stuck) Q := post
      split at post
      · rename_i xs e1
        obtain ⟨hb, post⟩ := cond_stuck post
        obtain ⟨hb, h3⟩ := band hb
        obtain ⟨h1, h2⟩ := band hb
        have h3 := Nat.le_of_ble_eq_true h3
        have h1 : 0 ≤ k := of_decide_eq_true h1
        have h2 : k ≤ 1000 := of_decide_eq_true h2
        obtain ⟨p, ep, _, vs, rp, hp⟩ := obj_of hr ra e1
        have hl := rp.length
        have hm : vs.length * k.toNat ≤ 1000 * 1000 := Nat.mul_le_mul (by omega) (by omega)
        exact op_rep pins s σ H x y v u Q I rx ry ⟨p, k, vs, ep, rb, hp, by omega, by omega, by rw [sizeLine_eq]; omega, fun c hc => new_lst hr (rp.flatten_replicate _) hc post⟩
      · exact post.elim
    | _ => exact post.elim
  | _ => exact post.elim
theorem or_div : OpR X (binaryOp .FloorDiv) (rdOp T E vDiv) := by
  intro pins s σ H x y v u Q I rx ry h
  obtain ⟨ρ, lh, a, b, hr, ra, rb, post⟩ := h
  cases a with
  | int i =>
    cases b with
    | int j =>
      obtain ⟨hb, post⟩ := cond_stuck post
      obtain ⟨h1, h2⟩ := band hb
      exact op_fdivW pins s σ H x y v u Q I rx ry ⟨i, j, ra, rb, ⟨of_decide_eq_true h1, of_decide_eq_true (Nat.blt_eq ▸ h2 |> fun z => decide_eq_true z)⟩, PostE.ok post Le.refl hr rfl⟩
    | _ => exact post.elim
  | _ => exact post.elim
theorem or_mod : OpR X (binaryOp .Mod) (rdOp T E vMod) := by
  intro pins s σ H x y v u Q I rx ry h
  obtain ⟨ρ, lh, a, b, hr, ra, rb, post⟩ := h
  cases a with
  | int i =>
    cases b with
    | int j =>
      obtain ⟨hb, post⟩ := cond_stuck post
      exact op_mod pins s σ H x y v u Q I rx ry ⟨i, j, ra, rb, of_decide_eq_true hb, PostE.ok post Le.refl hr rfl⟩
    | _ => exact post.elim
  | _ => exact post.elim
theorem or_pow : OpR X (binaryOp .Pow) (rdOp T E vPow) := by
  intro pins s σ H x y v u Q I rx ry h
  obtain ⟨ρ, lh, a, b, hr, ra, rb, post⟩ := h
  cases a with
  | int i =>
    cases b with
    | int j =>
      obtain ⟨hb, post⟩ := cond_stuck post
      obtain ⟨hb, h3⟩ := band hb
      obtain ⟨h1, h2⟩ := band hb
      have h1 : 0 ≤ j := of_decide_eq_true h1
      have h2 : j ≤ 1000 := of_decide_eq_true h2
      have h3 : i.natAbs < 1000000 := by rwa [Nat.blt_eq] at h3
      exact op_pow pins s σ H x y v u Q I rx ry ⟨i, j, ra, rb, ⟨h1, by omega, by omega⟩, PostE.ok post Le.refl hr rfl⟩
    | _ => exact post.elim
  | _ => exact post.elim
theorem or_none {f : Value → Value → Sem Value} : OpR X f (rdOp T E fun _ _ _ => .stuck) := by
  intro pins s σ H x y v u Q I rx ry h
  obtain ⟨ρ, lh, a, b, hr, ra, rb, post⟩ := h
  exact post.elim
theorem or_bin (hK : X.K = T.K) (op : Operator) : OpR X (binaryOp op) (rdOp T E (vBin op)) := by
  cases op with
  | Add => exact or_add hK
  | Sub => exact or_sub
  | Mult => exact or_mul hK
  | FloorDiv => exact or_div
  | Mod => exact or_mod
  | Pow => exact or_pow
  | _ => exact or_none
theorem ur_neg : UnR X (unaryOp .USub) (rdUn T E vNeg) := by
  intro pins s σ H x v Q I rx h
  obtain ⟨ρ, lh, a, hr, ra, post⟩ := h
  cases a with
  | int i => exact un_neg pins s σ H x v Q I rx ⟨i, ra, PostE.ok post Le.refl hr rfl⟩
  | _ => exact post.elim
end

/-! ### comparisons -/
def sOk (x : Str) : Bool := PyData.strOk x
def pyOf : Nat → LH → D → Option PyData
  | 0, _, _ => none
  | n + 1, h, d => match d with
    | .non => some .none
    | .bl b => some (.bool b)
    | .int i => some (.int i)
    | .str x => bif sOk x then some (.str x) else none
    | .tup ds => (ds.mapM (pyOf n h)).map .tuple
    | .obj k => match h.get k with
      | some (.lst _ ds) => (ds.mapM (pyOf n h)).map .list
      | _ => none
    | .kls _ => none
/-- == of flat values of kinds that the layer tells apart -/
def feq : D → D → Option Bool
  | .int i, .int j => some (decide (i = j))
  | .str x, .str y => some (strEq x y)
  | .non, .non => some true
  | .bl a, .bl b => some (a == b)
  | .non, .int _ => some false | .int _, .non => some false | .non, .bl _ => some false | .bl _, .non => some false | .non, .str _ => some false | .str _, .non => some false
  | .int _, .str _ => some false | .str _, .int _ => some false | .bl _, .str _ => some false | .str _, .bl _ => some false
  | _, _ => none
/-- two lists that are told apart by their lengths, or are both empty -/
def leq (a b : D) (h : LH) : Option Bool := match a, b with
  | .obj n, .obj m => match h.get n, h.get m with
    | some (.lst _ []), some (.lst _ []) => some true
    | some (.lst _ []), some (.lst _ (_ :: _)) => some false
    | some (.lst _ (_ :: _)), some (.lst _ []) => some false
    | _, _ => none
  | _, _ => none
def deq (a b : D) (h : LH) : Option Bool := match feq a b with
  | some k => some k
  | none => match leq a b h with
    | some k => some k
    | none => match pyOf 60 h a, pyOf 60 h b with
      | some x, some y => some (PyData.eqv x y)
      | _, _ => none
def okB (o : Option Bool) (h : LH) : Res D := match o with
  | some k => .ok (.bl k) h
  | none => .stuck
def vEq (a b : D) (h : LH) : Res D := okB (deq a b h) h
def vNe (a b : D) (h : LH) : Res D := okB ((deq a b h).map fun k => !k) h
def vCmpI (p : Int → Int → Bool) (a b : D) (h : LH) : Res D := match a, b with
  | .int i, .int j => .ok (.bl (p i j)) h
  | _, _ => .stuck
def isNon : D → Bool
  | .non => true
  | _ => false
def vIs (neg : Bool) (a b : D) (h : LH) : Res D := match b with
  | .non => .ok (.bl (bif neg then !isNon a else isNon a)) h
  | _ => .stuck
def flatOf : D → Option V
  | .non => some .non
  | .bl b => some (.bl b)
  | .int i => some (.int i)
  | .str x => some (.str x)
  | _ => none
def flatsOf : List D → Option (List V)
  | [] => some []
  | d :: ds => match flatOf d, flatsOf ds with
    | some v, some vs => some (v :: vs)
    | _, _ => none
section
variable {T : Tb} {E : XK} {X : Cx} {ρ : List Addr} {H : Hp} {lh : LH}
theorem flat_ok {d : D} {v u : V} (e : flatOf d = some v) (r : RelD T ρ H d u) : u = v ∧ flatV u = true := by
  cases d with
  | non => cases e; exact ⟨r, by rw [show u = _ from r]; rfl⟩
  | bl b => cases e; exact ⟨r, by rw [show u = _ from r]; rfl⟩
  | int i => cases e; exact ⟨r, by rw [show u = _ from r]; rfl⟩
  | str x => cases e; exact ⟨r, by rw [show u = _ from r]; rfl⟩
  | _ => cases e
theorem flats_ok : ∀ {ds : List D} {vs us : List V}, flatsOf ds = some vs → RelDs T ρ H ds us → us = vs ∧ us.all flatV = true
  | [], vs, us, e, r => by cases e; rw [show us = [] from r]; exact ⟨rfl, rfl⟩
  | d :: ds, vs, us, e, ⟨u, r', eu, h1, h2⟩ => by
    unfold flatsOf at e
    cases q1 : flatOf d with
    | none => rw [q1] at e; cases e
    | some v =>
      rw [q1] at e
      cases q2 : flatsOf ds with
      | none => rw [q2] at e; cases e
      | some ws =>
        rw [q2] at e
        cases e
        obtain ⟨e1, f1⟩ := flat_ok q1 h1
        obtain ⟨e2, f2⟩ := flats_ok q2 h2
        subst eu e1 e2
        exact ⟨rfl, by rw [List.all_cons, f1, f2]; rfl⟩
theorem mapM_cons {α β : Type} {f : α → Option β} {a : α} {l : List α} {r : List β} (h : (a :: l).mapM f = some r) : ∃ b bs, f a = some b ∧ l.mapM f = some bs ∧ r = b :: bs := by
  rw [List.mapM_cons] at h
  cases e : f a with
  | none => rw [e] at h; cases h
  | some b =>
    rw [e] at h
    cases e2 : l.mapM f with
    | none => rw [e2] at h; cases h
    | some bs =>
      rw [e2] at h
      cases h
      exact ⟨b, bs, rfl, rfl, rfl⟩
theorem map_some {α β : Type} {f : α → β} {o : Option α} {r : β} (h : o.map f = some r) : ∃ a, o = some a ∧ f a = r := by
  cases o with
  | none => cases h
  | some a => exact ⟨a, rfl, Option.some.inj h⟩
theorem py_ok (hr : HR T ρ H lh) : ∀ (n : Nat) {d : D} {v : V} {x : PyData}, RelD T ρ H d v → pyOf n lh d = some x → Dp T.K H v x ∧ x.canLay0 = true ∧ x.depth ≤ n
  | 0, _, _, _, _, e => by cases e
  | n + 1, d, v, x, r, e => by
    have all : ∀ {ds : List D} {vs : List V} {xs : List PyData}, RelDs T ρ H ds vs → ds.mapM (pyOf n lh) = some xs → DpAll T.K H vs xs ∧ PyData.canLayAll0 xs = true ∧ PyData.depthAll xs ≤ n := by
      intro ds
      induction ds with
      | nil =>
        intro vs xs r e
        rw [List.mapM_nil] at e
        cases e
        rw [show vs = [] from r]
        exact ⟨.nil, rfl, Nat.zero_le _⟩
      | cons d ds ih =>
        intro vs xs r e
        obtain ⟨b, bs, e1, e2, rfl⟩ := mapM_cons e
        obtain ⟨u, us, eu, r1, r2⟩ := r
        subst eu
        obtain ⟨a1, a2, a3⟩ := py_ok hr n r1 e1
        obtain ⟨b1, b2, b3⟩ := ih r2 e2
        refine ⟨.cons a1 b1, by rw [PyData.canLayAll0, a2, b2]; rfl, ?_⟩
        rw [PyData.depthAll]
        exact Nat.max_le.mpr ⟨a3, b3⟩
    cases d with
    | non =>
      cases e
      rw [show v = _ from r]
      exact ⟨.non, rfl, by simp [PyData.depth]⟩
    | bl b =>
      cases e
      rw [show v = _ from r]
      exact ⟨.bl b, rfl, by simp [PyData.depth]⟩
    | int i =>
      cases e
      rw [show v = _ from r]
      exact ⟨.int i, rfl, by simp [PyData.depth]⟩
    | str y =>
      have e : (bif sOk y then some (PyData.str y) else none) = some x := e
      cases q : sOk y with
      | false => rw [q] at e; cases e
      | true =>
        rw [q] at e
        cases e
        rw [show v = _ from r]
        exact ⟨.str y, q, by simp [PyData.depth]⟩
    | tup ds =>
      obtain ⟨xs, e1, rfl⟩ := map_some e
      obtain ⟨a, vs, ev, hs, rd⟩ := r
      obtain ⟨h1, h2, h3⟩ := all rd e1
      subst ev
      exact ⟨.tup hs h1, h2, by rw [PyData.depth]; omega⟩
    | obj k =>
      have e : (match lh.get k with
        | some (.lst _ ds) => (ds.mapM (pyOf n lh)).map PyData.list
        | _ => none) = some x := e
      split at e
      · rename_i lk ds q
        obtain ⟨xs, e1, rfl⟩ := map_some e
        obtain ⟨a, ev, _, ho⟩ := obj_of hr r q
        obtain ⟨vs, rd, hs⟩ := ho.sqL
        obtain ⟨h1, h2, h3⟩ := all rd e1
        subst ev
        exact ⟨.lst hs h1, h2, by rw [PyData.depth]; omega⟩
      · cases e
    | kls y => cases e
theorem shaped_of {x : PyData} {n : Nat} (h1 : x.canLay0 = true) (h2 : x.depth ≤ n) (hn : n ≤ 64) : SeqAt.shaped x = true := by
  unfold SeqAt.shaped
  rw [h1]
  exact decide_eq_true (by omega)
theorem feq_ok {a b : D} {x y : V} {k : Bool} (ra : RelD T ρ H a x) (rb : RelD T ρ H b y) (e : feq a b = some k) : scal x y = true ∧ decide (x = y) = k := by
  cases a with
  | non =>
    cases b with
    | non => cases e; rw [show x = _ from ra, show y = _ from rb]; exact ⟨rfl, rfl⟩
    | bl _ => cases e; rw [show x = _ from ra, show y = _ from rb]; exact ⟨rfl, rfl⟩
    | int _ => cases e; rw [show x = _ from ra, show y = _ from rb]; exact ⟨rfl, rfl⟩
    | str _ => cases e; rw [show x = _ from ra, show y = _ from rb]; exact ⟨rfl, rfl⟩
    | _ => cases e
  | bl i =>
    cases b with
    | non => cases e; rw [show x = _ from ra, show y = _ from rb]; exact ⟨rfl, rfl⟩
    | bl j => cases e; rw [show x = _ from ra, show y = _ from rb]; exact ⟨rfl, dec_bl⟩
    | str _ => cases e; rw [show x = _ from ra, show y = _ from rb]; exact ⟨rfl, rfl⟩
    | _ => cases e
  | int i =>
    cases b with
    | non => cases e; rw [show x = _ from ra, show y = _ from rb]; exact ⟨rfl, rfl⟩
    | int j =>
      cases e; rw [show x = _ from ra, show y = _ from rb]
      refine ⟨rfl, ?_⟩
      rw [Bool.eq_iff_iff]; simp
    | str _ => cases e; rw [show x = _ from ra, show y = _ from rb]; exact ⟨rfl, rfl⟩
    | _ => cases e
  | str i =>
    cases b with
    | non => cases e; rw [show x = _ from ra, show y = _ from rb]; exact ⟨rfl, rfl⟩
    | bl _ => cases e; rw [show x = _ from ra, show y = _ from rb]; exact ⟨rfl, rfl⟩
    | int _ => cases e; rw [show x = _ from ra, show y = _ from rb]; exact ⟨rfl, rfl⟩
    | str j => cases e; rw [show x = _ from ra, show y = _ from rb]; exact ⟨rfl, dec_strEq i j⟩
    | _ => cases e
  | _ => cases b <;> cases e
theorem leq_ok {a b : D} {x y : V} {k : Bool} (hr : HR T ρ H lh) (ra : RelD T ρ H a x) (rb : RelD T ρ H b y) (e : leq a b lh = some k) :
    ∃ p q vs us, x = .ref p ∧ y = .ref q ∧ SqL T.K H p vs ∧ SqL T.K H q us ∧ ((vs.length ≠ us.length ∧ k = false) ∨ (vs = [] ∧ us = [] ∧ k = true)) := by
  cases a with
  | obj n =>
    cases b with
    | obj m =>
      have e : (match lh.get n, lh.get m with
        | some (.lst _ []), some (.lst _ []) => some true
        | some (.lst _ []), some (.lst _ (_ :: _)) => some false
        | some (.lst _ (_ :: _)), some (.lst _ []) => some false
        | _, _ => none) = some k := e
      have nil : ∀ {us : List V}, RelDs T ρ H [] us → us = [] := fun h => h
      split at e
      · rename_i l1 l2 e1 e2
        cases e
        obtain ⟨p, ep, _, ho⟩ := obj_of hr ra e1
        obtain ⟨q, eq, _, hq⟩ := obj_of hr rb e2
        obtain ⟨vs, rv, sv⟩ := ho.sqL
        obtain ⟨us, ru, su⟩ := hq.sqL
        exact ⟨p, q, vs, us, ep, eq, sv, su, .inr ⟨nil rv, nil ru, rfl⟩⟩
      · rename_i l1 l2 d1 ds e1 e2
        cases e
        obtain ⟨p, ep, _, ho⟩ := obj_of hr ra e1
        obtain ⟨q, eq, _, hq⟩ := obj_of hr rb e2
        obtain ⟨vs, rv, sv⟩ := ho.sqL
        obtain ⟨us, ru, su⟩ := hq.sqL
        refine ⟨p, q, vs, us, ep, eq, sv, su, .inl ⟨?_, rfl⟩⟩
        rw [← rv.length, ← ru.length, List.length_cons]
        exact Nat.ne_of_lt (Nat.succ_pos _)
      · rename_i l1 d1 ds l2 e1 e2
        cases e
        obtain ⟨p, ep, _, ho⟩ := obj_of hr ra e1
        obtain ⟨q, eq, _, hq⟩ := obj_of hr rb e2
        obtain ⟨vs, rv, sv⟩ := ho.sqL
        obtain ⟨us, ru, su⟩ := hq.sqL
        refine ⟨p, q, vs, us, ep, eq, sv, su, .inl ⟨?_, rfl⟩⟩
        rw [← rv.length, ← ru.length, List.length_cons]
        exact Nat.ne_of_gt (Nat.succ_pos _)
      · cases e
    | _ => cases e
  | _ => cases e
theorem deq_cases {a b : D} {k : Bool} (e : deq a b lh = some k) : feq a b = some k ∨ leq a b lh = some k ∨ ∃ x y, pyOf 60 lh a = some x ∧ pyOf 60 lh b = some y ∧ PyData.eqv x y = k := by
  unfold deq at e
  cases q1 : feq a b with
  | some k1 => rw [q1] at e; exact .inl e
  | none =>
    rw [q1] at e
    simp only at e
    cases q2 : leq a b lh with
    | some k2 => rw [q2] at e; exact .inr (.inl e)
    | none =>
      rw [q2] at e
      simp only at e
      cases q3 : pyOf 60 lh a with
      | none => rw [q3] at e; cases e
      | some x =>
        cases q4 : pyOf 60 lh b with
        | none => rw [q3, q4] at e; cases e
        | some y =>
          rw [q3, q4] at e
          exact .inr (.inr ⟨x, y, rfl, rfl, Option.some.inj e⟩)
theorem okB_ok {o : Option Bool} {Q : VK} (post : PostE T E ρ lh H (okB o lh) Q) (hr : HR T ρ H lh) : ∃ k, o = some k ∧ Q (.bl k) H := by
  cases o with
  | none => exact post.elim
  | some k => exact ⟨k, rfl, PostE.ok post Le.refl hr rfl⟩
theorem or_eq (hK : X.K = T.K) (hu : X.A.units + 65 < cLine) : OpR X (compareOp .Eq) (rdOp T E vEq) := by
  intro pins s σ H x y v u Q I rx ry h
  obtain ⟨ρ, lh, a, b, hr, ra, rb, post⟩ := h
  obtain ⟨k, e, q⟩ := okB_ok post hr
  rcases deq_cases e with e | e | ⟨dx, dy, e1, e2, ek⟩
  · obtain ⟨h1, h2⟩ := feq_ok ra rb e
    exact op_eq pins s σ H x y v u Q I rx ry ⟨h1, by rw [h2]; exact q⟩
  · obtain ⟨p, p2, vs, us, ep, eq, sv, su, hk⟩ := leq_ok hr ra rb e
    subst ep eq
    cases rx
    cases ry
    rw [← hK] at sv su
    obtain ⟨its, r1, pl1, hz1⟩ := I.list sv
    obtain ⟨its2, r2, pl2, hz2⟩ := I.list su
    have l1 := r1.length
    have l2 := r2.length
    rcases hk with ⟨hne, ek⟩ | ⟨e1, e2, ek⟩
    · subst ek
      refine SeqAt.eq_list_lengthsAt pl1.isList pl2.isList ?_ (by omega) ⟨.bl false, H, I, rfl, q⟩
      simp only [List.size_toArray, bne_iff_ne]
      omega
    · subst ek e1 e2
      have z1 : its = [] := List.eq_nil_of_length_eq_zero (by rw [← l1]; rfl)
      have z2 : its2 = [] := List.eq_nil_of_length_eq_zero (by rw [← l2]; rfl)
      subst z1 z2
      exact SeqAt.eq_listAt (e := fun _ => true) pl1.isList pl2.isList rfl (by omega) (fun j h1 _ => absurd h1 (Nat.not_lt_zero _)) ⟨.bl true, H, I, rfl, q⟩
  · obtain ⟨a1, a2, a3⟩ := py_ok hr 60 ra e1
    obtain ⟨b1, b2, b3⟩ := py_ok hr 60 rb e2
    rw [← hK] at a1 b1
    exact op_eqD (by omega) pins s σ H x y v u Q I rx ry ⟨dx, dy, a1, b1, shaped_of a2 a3 (by decide), shaped_of b2 b3 (by decide), by rw [ek]; exact q⟩
theorem or_ne (hK : X.K = T.K) (hu : X.A.units + 65 < cLine) : OpR X (compareOp .NotEq) (rdOp T E vNe) := by
  intro pins s σ H x y v u Q I rx ry h
  obtain ⟨ρ, lh, a, b, hr, ra, rb, post⟩ := h
  obtain ⟨k', e', q⟩ := okB_ok post hr
  obtain ⟨k, e, ek'⟩ := map_some e'
  subst ek'
  rcases deq_cases e with e | e | ⟨dx, dy, e1, e2, ek⟩
  · obtain ⟨h1, h2⟩ := feq_ok ra rb e
    exact op_ne pins s σ H x y v u Q I rx ry ⟨h1, by rw [h2]; exact q⟩
  · obtain ⟨p, p2, vs, us, ep, eq, sv, su, hk⟩ := leq_ok hr ra rb e
    subst ep eq
    cases rx
    cases ry
    rw [← hK] at sv su
    obtain ⟨its, r1, pl1, hz1⟩ := I.list sv
    obtain ⟨its2, r2, pl2, hz2⟩ := I.list su
    have l1 := r1.length
    have l2 := r2.length
    rcases hk with ⟨hne, ek⟩ | ⟨e1, e2, ek⟩
    · subst ek
      refine SeqAt.RcNeAt.lists_lengths pl1.isList pl2.isList ?_ (by omega) X.prog X.w X.xe _ ⟨.bl true, H, I, rfl, q⟩
      simp only [List.size_toArray, bne_iff_ne]
      omega
    · subst ek e1 e2
      have z1 : its = [] := List.eq_nil_of_length_eq_zero (by rw [← l1]; rfl)
      have z2 : its2 = [] := List.eq_nil_of_length_eq_zero (by rw [← l2]; rfl)
      subst z1 z2
      exact SeqAt.RcNeAt.lists (e := fun _ => true) pl1.isList pl2.isList rfl (by omega) (fun j h1 _ => absurd h1 (Nat.not_lt_zero _)) X.prog X.w X.xe _ ⟨.bl false, H, I, rfl, q⟩
  · obtain ⟨a1, a2, a3⟩ := py_ok hr 60 ra e1
    obtain ⟨b1, b2, b3⟩ := py_ok hr 60 rb e2
    rw [← hK] at a1 b1
    exact op_neD (by omega) pins s σ H x y v u Q I rx ry ⟨dx, dy, a1, b1, shaped_of a2 a3 (by decide), shaped_of b2 b3 (by decide), by rw [ek]; exact q⟩
theorem or_cmpI {op : CmpOp} {p : Int → Int → Bool} (h0 : OpR X (compareOp op) (rI0 fun i j => .bl (p i j))) : OpR X (compareOp op) (rdOp T E (vCmpI p)) := by
  intro pins s σ H x y v u Q I rx ry h
  obtain ⟨ρ, lh, a, b, hr, ra, rb, post⟩ := h
  cases a with
  | int i =>
    cases b with
    | int j => exact h0 pins s σ H x y v u Q I rx ry ⟨i, j, ra, rb, PostE.ok post Le.refl hr rfl⟩
    | _ => exact post.elim
  | _ => exact post.elim
theorem isNon_ok {d : D} {x : V} (r : RelD T ρ H d x) : decide (x = .non) = isNon d := by
  cases d with
  | non => rw [show x = _ from r]; rfl
  | bl b => rw [show x = _ from r]; rfl
  | int i => rw [show x = _ from r]; rfl
  | str y => rw [show x = _ from r]; rfl
  | tup ds => obtain ⟨a, vs, e, _⟩ := r; rw [e]; rfl
  | obj n => obtain ⟨a, _, e⟩ := r; rw [e]; rfl
  | kls y => obtain ⟨a, vs, e, _⟩ := r; rw [e]; rfl
theorem or_is : OpR X (compareOp .Is) (rdOp T E (vIs false)) := by
  intro pins s σ H x y v u Q I rx ry h
  obtain ⟨ρ, lh, a, b, hr, ra, rb, post⟩ := h
  cases b with
  | non => exact op_isN pins s σ H x y v u Q I rx ry ⟨rb, by rw [isNon_ok ra]; exact PostE.ok post Le.refl hr rfl⟩
  | _ => exact post.elim
theorem or_isnot : OpR X (compareOp .IsNot) (rdOp T E (vIs true)) := by
  intro pins s σ H x y v u Q I rx ry h
  obtain ⟨ρ, lh, a, b, hr, ra, rb, post⟩ := h
  cases b with
  | non => exact op_notN pins s σ H x y v u Q I rx ry ⟨rb, by rw [isNon_ok ra]; exact PostE.ok post Le.refl hr rfl⟩
  | _ => exact post.elim
end
end TL

namespace TL
open PySem PySem.Spec PyProof.Rows L2

/-! ### items and slices -/
def vIdxS (a b : D) (h : LH) : Res D := match b with
  | .int i => match itemsOf a h with
    | some xs => match atI xs i with
      | some d => .ok d h
      | none => .stuck
    | none => .stuck
  | _ => .stuck
section
variable {T : Tb} {E : XK} {X : Cx} {ρ : List Addr} {H : Hp} {lh : LH}
theorem atI_rel {ds : List D} {vs : List V} {i : Int} {d : D} (r : RelDs T ρ H ds vs) (e : atI ds i = some d) : ∃ v, atI vs i = some v ∧ RelD T ρ H d v := by
  unfold atI at e ⊢
  rw [r.length] at e
  cases q : ixN vs.length i with
  | none => rw [q] at e; cases e
  | some j =>
    rw [q] at e
    exact r.get e
theorem xr_idx (hK : X.K = T.K) : IxR X (rdOp T E vIdxS) := by
  intro value slice pins s σ H x y v u Q I rx ry h hs
  obtain ⟨ρ, lh, a, b, hr, ra, rb, post⟩ := h
  cases b with
  | int i =>
    have post : PostE T E ρ lh H (match itemsOf a lh with
      | some xs => match atI xs i with
        | some d => .ok d lh
        | none => .stuck
      | none => .stuck) Q := post
    cases e : itemsOf a lh with
    | none => rw [e] at post; exact post.elim
    | some xs =>
      rw [e] at post
      simp only at post
      cases e2 : atI xs i with
      | none => rw [e2] at post; exact post.elim
      | some d =>
        rw [e2] at post
        obtain ⟨p, vs, ev, rv, sq⟩ := items_ok hr ra e
        obtain ⟨w, h1, h2⟩ := atI_rel rv e2
        have q := PostE.ok post Le.refl hr h2
        rw [← hK] at sq
        rcases sq with sq | sq
        · exact ix_tup value slice pins s σ H x y v u Q I rx ry ⟨p, vs, i, w, ev, rb, sq, h1, q⟩ hs
        · exact ix_list value slice pins s σ H x y v u Q I rx ry ⟨p, vs, i, w, ev, rb, sq, h1, q⟩ hs
  | _ => exact post.elim
end
def cutL {α : Type} (xs : List α) (lo hi : Option Int) : List α := (xs.drop (HT.sIx xs.length 0 lo)).take (HT.sIx xs.length xs.length hi - HT.sIx xs.length 0 lo)
def vSl (a : D) (lo hi : Option Int) (h : LH) : Res D := match a with
  | .tup xs => .ok (.tup (cutL xs lo hi)) h
  | .kls xs => .ok (.obj h.nx) (h.new (.lst false (cutL xs lo hi)))
  | .str x => bif Nat.ble x.length tooLong then .ok (.str (Txt.slice x lo hi)) h else .stuck
  | .obj n => match h.get n with
    | some (.lst _ xs) => .ok (.obj h.nx) (h.new (.lst false (cutL xs lo hi)))
    | _ => .stuck
  | _ => .stuck
section
variable {T : Tb} {E : XK} {X : Cx} {ρ : List Addr} {H : Hp} {lh : LH} {σ : L2.St} {Q : VK}
def rdSl (T : Tb) (E : XK) : V → Option Int → Option Int → Hp → VK → Prop := fun x lo hi H Q => ∃ ρ lh d, HR T ρ H lh ∧ RelD T ρ H d x ∧ PostE T E ρ lh H (vSl d lo hi lh) Q
theorem cut_rel {ds : List D} {vs : List V} {lo hi : Option Int} (r : RelDs T ρ H ds vs) : RelDs T ρ H (cutL ds lo hi) (cutV vs lo hi) := by
  unfold cutL cutV
  rw [r.length]
  exact (r.drop _).take _
theorem whole_cut {vs : List V} {lo hi : Option Int} (h : HT.sIx vs.length 0 lo = 0 ∧ HT.sIx vs.length vs.length hi = vs.length) : cutV vs lo hi = vs := by
  unfold cutV
  rw [h.1, h.2]
  simp
theorem sr_sl (hK : X.K = T.K) : SlR X (rdSl T E) := by
  intro pins s σ H x v vl vu lo hi sl Q I rx hs pl pu h
  obtain ⟨ρ, lh, d, hr, rd, post⟩ := h
  cases d with
  | tup ds =>
    obtain ⟨a, vs, ev, sq, rv⟩ := rd
    refine sl_tupA pins s σ H x v vl vu lo hi sl Q I rx hs pl pu ⟨a, vs, ev, by rw [hK]; exact sq, fun hw => ?_, fun hw p hp => ?_⟩
    · refine PostE.ok post Le.refl hr ⟨a, vs, rfl, sq, ?_⟩
      have := cut_rel (lo := lo) (hi := hi) rv
      rw [whole_cut hw] at this
      exact this
    · exact new_tup hr (cut_rel rv) hp post
  | kls ds =>
    obtain ⟨a, vs, ev, sq, rv⟩ := rd
    exact sl_list pins s σ H x v vl vu lo hi sl Q I rx hs pl pu ⟨a, vs, ev, by rw [hK]; exact sq.sqL, fun p hp => new_lst hr (cut_rel rv) hp post⟩
  | str z =>
    obtain ⟨hb, post⟩ := cond_stuck post
    exact C8.sl_txt pins s σ H x v vl vu lo hi sl Q I rx hs pl pu ⟨z, rd, small_line (Nat.le_of_ble_eq_true hb), PostE.ok post Le.refl hr rfl⟩
  | obj n =>
    have post : PostE T E ρ lh H (match lh.get n with
      | some (.lst _ xs) => .ok (.obj lh.nx) (lh.new (.lst false (cutL xs lo hi)))
      | _ => .stuck) Q := post
    split at post
    · rename_i lk xs e
      obtain ⟨a, ev, _, ho⟩ := obj_of hr rd e
      obtain ⟨vs, rv, sq⟩ := ho.sqL
      exact sl_list pins s σ H x v vl vu lo hi sl Q I rx hs pl pu ⟨a, vs, ev, by rw [hK]; exact sq, fun p hp => new_lst hr (cut_rel rv) hp post⟩
    · exact post.elim
  | _ => exact post.elim
/-- an optional bound of a slice -/
abbrev MO := Sl → LH → Res (Option Int)
def oNone : MO := fun _ h => .ok none h
def oSome (m : ME) : MO := fun sl h => (m sl h).bind fun d h1 => match d with
  | .int i => .ok (some i) h1
  | _ => .stuck
def rdO (T : Tb) (E : XK) (m : MO) : TO := fun σ H Q => ∃ ρ sl lh, SR T ρ H sl lh σ ∧ PostG T E ρ lh H (m sl lh) fun o _ _ H' => Q o H'
theorem rd_oNone {Q : Option Int → Hp → Prop} (h : rdO T E oNone σ H Q) : tNoPart σ H Q := by
  obtain ⟨ρ, sl, lh, sr, post⟩ := h
  exact post ρ H Le.refl sr.hr
theorem rd_oSome {m : ME} {Q : Option Int → Hp → Prop} (h : rdO T E (oSome m) σ H Q) : tPart (rdE T E m) σ H Q := by
  obtain ⟨ρ, sl, lh, sr, post⟩ := h
  refine ⟨ρ, sl, lh, sr, (PostG.bind post).mono fun x h1 ρ1 H1 le1 hr1 p1 v rv => ?_⟩
  cases x with
  | int i => exact ⟨i, rv, p1 ρ1 H1 Le.refl hr1⟩
  | _ => exact p1.elim
theorem poImp {lo : Option Expr} {t t' : TO} (h : PO X lo t) (k : ∀ σ H Q, t' σ H Q → t σ H Q) : PO X lo t' := ⟨fun pins s σ H Q I q => h.run pins s σ H Q I (k σ H Q q)⟩
def mSl (m : ME) (ml mh : MO) : ME := fun sl h => (m sl h).bind fun d h1 => (ml sl h1).bind fun lo h2 => (mh sl h2).bind fun hi h3 => vSl d lo hi h3
theorem rd_sl {m : ME} {ml mh : MO} (h : rdE T E (mSl m ml mh) σ H Q) : tSl (rdSl T E) (rdE T E m) (rdO T E ml) (rdO T E mh) σ H Q := by
  obtain ⟨ρ, sl, lh, sr, post⟩ := h
  refine ⟨ρ, sl, lh, sr, (PostG.bind post).mono fun d h1 ρ1 H1 le1 hr1 p1 v rv => ?_⟩
  refine ⟨ρ1, sl, h1, sr.mono le1 hr1, (PostG.bind p1).mono fun lo h2 ρ2 H2 le2 hr2 p2 => ?_⟩
  refine ⟨ρ2, sl, h2, (sr.mono le1 hr1).mono le2 hr2, (PostG.bind p2).mono fun hi h3 ρ3 H3 le3 hr3 p3 => ?_⟩
  exact ⟨ρ3, h3, d, hr3, rv.mono (le2.trans le3).toLe0, p3⟩
end

/-! ### in -/
def vInS (neg : Bool) (a b : D) (h : LH) : Res D := match b with
  | .str y => match a with
    | .str x => .ok (.bl (bif neg then !(!(Builtin.Str.occurrences y x 0 y.length 1).isEmpty) else !(Builtin.Str.occurrences y x 0 y.length 1).isEmpty)) h
    | _ => .stuck
  | .tup ys => match flatOf a, flatsOf ys with
    | some x, some zs => .ok (.bl (bif neg then !inV x zs else inV x zs)) h
    | _, _ => .stuck
  | .obj n => match h.get n with
    | some (.lst _ ys) => match pyOf 60 h a, ys.mapM (pyOf 59 h) with
      | some x, some zs => .ok (.bl (bif neg then !(zs.any fun z => PyData.eqv z x) else zs.any fun z => PyData.eqv z x)) h
      | _, _ => .stuck
    | _ => .stuck
  | _ => .stuck
section
variable {T : Tb} {E : XK} {X : Cx} {ρ : List Addr} {H : Hp} {lh : LH} {σ : L2.St} {Q : VK}
theorem or_inS (hK : X.K = T.K) (hu : X.A.units + 65 < cLine) (neg : Bool) : OpR X (compareOp (bif neg then .NotIn else .In)) (rdOp T E (vInS neg)) := by
  intro pins s σ H x y v u Q I rx ry h
  obtain ⟨ρ, lh, a, b, hr, ra, rb, post⟩ := h
  cases b with
  | str j =>
    cases a with
    | str i =>
      cases neg with
      | true => exact op_notin_str pins s σ H x y v u Q I rx ry ⟨i, j, ra, rb, PostE.ok post Le.refl hr rfl⟩
      | false => exact op_in_str pins s σ H x y v u Q I rx ry ⟨i, j, ra, rb, PostE.ok post Le.refl hr rfl⟩
    | _ => exact post.elim
  | tup ys =>
    have post : PostE T E ρ lh H (match flatOf a, flatsOf ys with
      | some x, some zs => .ok (.bl (bif neg then !inV x zs else inV x zs)) lh
      | _, _ => .stuck) Q := post
    split at post
    · rename_i z zs e1 e2
      obtain ⟨p, vs, ev, sq, rv⟩ := rb
      obtain ⟨e3, f1⟩ := flat_ok e1 ra
      obtain ⟨e4, f2⟩ := flats_ok e2 rv
      subst e3 e4
      rw [← hK] at sq
      have q := PostE.ok post Le.refl hr rfl
      cases neg with
      | true => exact op_notIn_seq pins s σ H x y v u Q I rx ry ⟨p, vs, ev, .inr sq, f1, f2, q⟩
      | false => exact op_in_seq pins s σ H x y v u Q I rx ry ⟨p, vs, ev, .inr sq, f1, f2, q⟩
    · exact post.elim
  | obj n =>
    have post : PostE T E ρ lh H (match lh.get n with
      | some (.lst _ ys) => match pyOf 60 lh a, ys.mapM (pyOf 59 lh) with
        | some x, some zs => .ok (.bl (bif neg then !(zs.any fun z => PyData.eqv z x) else zs.any fun z => PyData.eqv z x)) lh
        | _, _ => .stuck
      | _ => .stuck) Q := post
    split at post
    · rename_i lk ys e
      split at post
      · rename_i d zs e1 e2
        obtain ⟨a1, a2, a3⟩ := py_ok hr 60 ra e1
        have e3 : pyOf 60 lh (.obj n) = some (.list zs) := by
          show (match lh.get n with
            | some (.lst _ ds) => (ds.mapM (pyOf 59 lh)).map PyData.list
            | _ => none) = _
          rw [e]
          show (ys.mapM (pyOf 59 lh)).map PyData.list = _
          rw [e2]
          rfl
        obtain ⟨b1, b2, b3⟩ := py_ok hr 60 rb e3
        rw [← hK] at a1 b1
        have q := PostE.ok post Le.refl hr rfl
        cases neg with
        | true => exact op_notInD hu pins s σ H x y v u Q I rx ry ⟨d, zs, a1, b1, shaped_of a2 a3 (by decide), shaped_of b2 b3 (by decide), q⟩
        | false => exact op_inD hu pins s σ H x y v u Q I rx ry ⟨d, zs, a1, b1, shaped_of a2 a3 (by decide), shaped_of b2 b3 (by decide), q⟩
      · exact post.elim
    · exact post.elim
  | _ => exact post.elim
end

/-! ### built-in functions -/
def intsOf : List D → Option (List Int)
  | [] => some []
  | .int i :: r => (intsOf r).map (i :: ·)
  | _ :: _ => none
def boolsOf : List D → Option (List Bool)
  | [] => some []
  | .bl i :: r => (boolsOf r).map (i :: ·)
  | _ :: _ => none
def lstAt (d : D) (h : LH) : Option (List D) := match d with
  | .kls xs => some xs
  | .obj n => match h.get n with
    | some (.lst _ xs) => some xs
    | _ => none
  | _ => none
section
variable {T : Tb} {E : XK} {X : Cx} {ρ : List Addr} {H : Hp} {lh : LH} {σ : L2.St} {Q : VK}
theorem ints_ok : ∀ {ds : List D} {is : List Int} {vs : List V}, intsOf ds = some is → RelDs T ρ H ds vs → vs = is.map V.int
  | [], is, vs, e, r => by cases e; exact r
  | .int i :: ds, is, vs, e, ⟨v, r', ev, h1, h2⟩ => by
    obtain ⟨js, e1, e2⟩ := map_some (f := (i :: ·)) e
    subst e2
    rw [ev, show v = _ from h1, ints_ok e1 h2]
    rfl
  | .non :: _, _, _, e, _ => by cases e
  | .bl _ :: _, _, _, e, _ => by cases e
  | .str _ :: _, _, _, e, _ => by cases e
  | .tup _ :: _, _, _, e, _ => by cases e
  | .obj _ :: _, _, _, e, _ => by cases e
  | .kls _ :: _, _, _, e, _ => by cases e
theorem bools_ok : ∀ {ds : List D} {is : List Bool} {vs : List V}, boolsOf ds = some is → RelDs T ρ H ds vs → vs = is.map V.bl
  | [], is, vs, e, r => by cases e; exact r
  | .bl i :: ds, is, vs, e, ⟨v, r', ev, h1, h2⟩ => by
    obtain ⟨js, e1, e2⟩ := map_some (f := (i :: ·)) e
    subst e2
    rw [ev, show v = _ from h1, bools_ok e1 h2]
    rfl
  | .non :: _, _, _, e, _ => by cases e
  | .int _ :: _, _, _, e, _ => by cases e
  | .str _ :: _, _, _, e, _ => by cases e
  | .tup _ :: _, _, _, e, _ => by cases e
  | .obj _ :: _, _, _, e, _ => by cases e
  | .kls _ :: _, _, _, e, _ => by cases e
theorem lst_ok {d : D} {xs : List D} {v : V} (hr : HR T ρ H lh) (r : RelD T ρ H d v) (e : lstAt d lh = some xs) : ∃ p vs, v = .ref p ∧ RelDs T ρ H xs vs ∧ SqL T.K H p vs := by
  cases d with
  | kls ys =>
    have e : some ys = some xs := e
    cases e
    obtain ⟨a, vs, ev, hs, hd⟩ := r
    exact ⟨a, vs, ev, hd, hs.sqL⟩
  | obj n =>
    have e : (match lh.get n with
      | some (.lst _ xs) => some xs
      | _ => none) = some xs := e
    split at e
    · rename_i lk ys q
      cases e
      obtain ⟨a, ev, _, ho⟩ := obj_of hr r q
      obtain ⟨vs, h1, h2⟩ := ho.sqL
      exact ⟨a, vs, ev, h1, h2⟩
    · cases e
  | _ => cases e
theorem rel1 {ds : List D} {xs : List V} {d : D} (e : ds = [d]) (r : RelDs T ρ H ds xs) : ∃ v, xs = [v] ∧ RelD T ρ H d v := by
  subst e
  obtain ⟨v, r', ev, h1, h2⟩ := r
  exact ⟨v, by rw [ev, show r' = [] from h2], h1⟩
theorem rel2 {ds : List D} {xs : List V} {d e : D} (q : ds = [d, e]) (r : RelDs T ρ H ds xs) : ∃ v u, xs = [v, u] ∧ RelD T ρ H d v ∧ RelD T ρ H e u := by
  subst q
  obtain ⟨v, r', ev, h1, h2⟩ := r
  obtain ⟨u, eu, h3⟩ := rel1 rfl h2
  exact ⟨v, u, by rw [ev, eu], h1, h3⟩
end
def f1 (f : D → LH → Res D) (ds : List D) (h : LH) : Res D := match ds with
  | [d] => f d h
  | _ => .stuck
def f2 (f : D → D → LH → Res D) (ds : List D) (h : LH) : Res D := match ds with
  | [d, e] => f d e h
  | _ => .stuck
def bAbs : D → LH → Res D
  | .int i, h => .ok (.int (if i < 0 then -i else i)) h
  | _, _ => .stuck
def bInt : D → LH → Res D
  | .int i, h => .ok (.int i) h
  | .bl k, h => .ok (.int (if k then 1 else 0)) h
  | .str x, h => match PySem.intText? x with
    | some n => bif Nat.ble x.length 640 then .ok (.int n) h else .stuck
    | none => .stuck
  | _, _ => .stuck
def bMin : D → D → LH → Res D
  | .int i, .int j, h => .ok (.int (if j < i then j else i)) h
  | _, _, _ => .stuck
def bMax : D → D → LH → Res D
  | .int i, .int j, h => .ok (.int (if j > i then j else i)) h
  | _, _, _ => .stuck
def bSum (d : D) (h : LH) : Res D := match lstAt d h with
  | some xs => match intsOf xs with
    | some is => .ok (.int is.sum) h
    | none => .stuck
  | none => .stuck
def bAll (d : D) (h : LH) : Res D := match lstAt d h with
  | some xs => match boolsOf xs with
    | some is => .ok (.bl (is.all id)) h
    | none => .stuck
  | none => .stuck
def bAny (d : D) (h : LH) : Res D := match lstAt d h with
  | some xs => match boolsOf xs with
    | some is => .ok (.bl (is.any id)) h
    | none => .stuck
  | none => .stuck
def bStr : D → LH → Res D
  | .int i, h => bif Nat.blt i.natAbs.log2 1920 then .ok (.str (toString i)) h else .stuck
  | .str x, h => .ok (.str x) h
  | _, _ => .stuck
def bLenS (d : D) (h : LH) : Res D := match d with
  | .str x => bif Nat.ble x.length tooLong then .ok (.int x.length) h else .stuck
  | d => match itemsOf d h with
    | some xs => .ok (.int xs.length) h
    | none => .stuck
def bListS (d : D) (h : LH) : Res D := match itemsOf d h with
  | some xs => .ok (.obj h.nx) (h.new (.lst false xs))
  | none => .stuck
def bTup (d : D) (h : LH) : Res D := match itemsOf d h with
  | some xs => .ok (.tup xs) h
  | none => .stuck
section
variable {T : Tb} {E : XK} {X : Cx} {ρ : List Addr} {H : Hp} {lh : LH} {σ : L2.St} {Q : VK}
/-- a rule for one argument -/
theorem cr1 {f : Value} {g : D → LH → Res D} (h : ∀ (ρ : List Addr) (lh : LH) (d : D) (v : V) (H : Hp) (Q : VK), HR T ρ H lh → RelD T ρ H d v → PostE T E ρ lh H (g d lh) Q →
    ∀ (pins : List (Addr × Obj)) (s : Shared) (σ : L2.St) (us : List Value), Inv X pins σ H s → Vals [v] us → wpAny (model X.prog X.w) X.A (call f us) (EP X pins σ Q) X.xe s) : CallR X f (rdFn T E (f1 g)) := by
  intro pins s σ H xs us Q I r q
  obtain ⟨ρ, lh, ds, hr, rd, post⟩ := q
  match ds, rd, post with
  | [d], rd, post =>
    obtain ⟨v, e, rv⟩ := rel1 rfl rd
    subst e
    exact h ρ lh d v H Q hr rv post pins s σ us I r
  | [], _, post => exact post.elim
  | _ :: _ :: _, _, post => exact post.elim
theorem cr2 {f : Value} {g : D → D → LH → Res D} (h : ∀ (ρ : List Addr) (lh : LH) (d e : D) (v w : V) (H : Hp) (Q : VK), HR T ρ H lh → RelD T ρ H d v → RelD T ρ H e w → PostE T E ρ lh H (g d e lh) Q →
    ∀ (pins : List (Addr × Obj)) (s : Shared) (σ : L2.St) (us : List Value), Inv X pins σ H s → Vals [v, w] us → wpAny (model X.prog X.w) X.A (call f us) (EP X pins σ Q) X.xe s) : CallR X f (rdFn T E (f2 g)) := by
  intro pins s σ H xs us Q I r q
  obtain ⟨ρ, lh, ds, hr, rd, post⟩ := q
  match ds, rd, post with
  | [d, e], rd, post =>
    obtain ⟨v, w, ev, rv, rw⟩ := rel2 rfl rd
    subst ev
    exact h ρ lh d e v w H Q hr rv rw post pins s σ us I r
  | [], _, post => exact post.elim
  | [_], _, post => exact post.elim
  | _ :: _ :: _ :: _, _, post => exact post.elim
theorem cr_abs : CallR X (.builtin "abs") (rdFn T E (f1 bAbs)) := cr1 fun ρ lh d v H Q hr rd post pins s σ us I r => by
  cases d with
  | int i => exact call_abs pins s σ H _ us Q I r ⟨i, by rw [show v = _ from rd], PostE.ok post Le.refl hr rfl⟩
  | _ => exact post.elim
theorem cr_int : CallR X (.type "int") (rdFn T E (f1 bInt)) := cr1 fun ρ lh d v H Q hr rd post pins s σ us I r => by
  cases d with
  | int i => exact call_int1 pins s σ H _ us Q I r (.inl ⟨i, by rw [show v = _ from rd], PostE.ok post Le.refl hr rfl⟩)
  | bl i => exact call_int1 pins s σ H _ us Q I r (.inr ⟨i, by rw [show v = _ from rd], PostE.ok post Le.refl hr rfl⟩)
  | str x =>
    have post : PostE T E ρ lh H (match PySem.intText? x with
      | some n => bif Nat.ble x.length 640 then .ok (.int n) lh else .stuck
      | none => .stuck) Q := post
    split at post
    · rename_i n e
      obtain ⟨hb, post⟩ := cond_stuck post
      exact call_int_str pins s σ H _ us Q I r ⟨x, n, by rw [show v = _ from rd], e, Nat.le_of_ble_eq_true hb, PostE.ok post Le.refl hr rfl⟩
    · exact post.elim
  | _ => exact post.elim
theorem cr_str : CallR X (.type "str") (rdFn T E (f1 bStr)) := cr1 fun ρ lh d v H Q hr rd post pins s σ us I r => by
  cases d with
  | int i =>
    obtain ⟨hb, post⟩ := cond_stuck post
    exact call_str_int pins s σ H _ us Q I r ⟨i, by rw [show v = _ from rd], by rwa [Nat.blt_eq] at hb, PostE.ok post Le.refl hr rfl⟩
  | str x => exact SkE.call_str_str pins s σ H _ us Q I r ⟨x, by rw [show v = _ from rd], PostE.ok post Le.refl hr rfl⟩
  | _ => exact post.elim
theorem cr_min2 (hc : X.calm = true) : CallR X (.builtin "min") (rdFn T E (f2 bMin)) := cr2 fun ρ lh d e v w H Q hr rd re post pins s σ us I r => by
  cases d with
  | int i =>
    cases e with
    | int j => exact call_min2 hc pins s σ H _ us Q I r ⟨i, j, by rw [show v = _ from rd, show w = _ from re], PostE.ok post Le.refl hr rfl⟩
    | _ => exact post.elim
  | _ => exact post.elim
theorem cr_max2 (hc : X.calm = true) : CallR X (.builtin "max") (rdFn T E (f2 bMax)) := cr2 fun ρ lh d e v w H Q hr rd re post pins s σ us I r => by
  cases d with
  | int i =>
    cases e with
    | int j => exact call_max2 hc pins s σ H _ us Q I r ⟨i, j, by rw [show v = _ from rd, show w = _ from re], PostE.ok post Le.refl hr rfl⟩
    | _ => exact post.elim
  | _ => exact post.elim
theorem cr_sumL (hK : X.K = T.K) (hc : X.calm = true) : CallR X (.builtin "sum") (rdFn T E (f1 bSum)) := cr1 fun ρ lh d v H Q hr rd post pins s σ us I r => by
  unfold bSum at post
  cases e : lstAt d lh with
  | none => rw [e] at post; exact post.elim
  | some xs =>
    rw [e] at post
    simp only at post
    cases e2 : intsOf xs with
    | none => rw [e2] at post; exact post.elim
    | some is =>
      rw [e2] at post
      obtain ⟨p, vs, ev, rv, sq⟩ := lst_ok hr rd e
      rw [ints_ok e2 rv, ← hK] at sq
      exact cr_sum hc pins s σ H _ us Q I r ⟨p, is, by rw [ev], sq, PostE.ok post Le.refl hr rfl⟩
theorem cr_allL (hK : X.K = T.K) (hc : X.calm = true) : CallR X (.builtin "all") (rdFn T E (f1 bAll)) := cr1 fun ρ lh d v H Q hr rd post pins s σ us I r => by
  unfold bAll at post
  cases e : lstAt d lh with
  | none => rw [e] at post; exact post.elim
  | some xs =>
    rw [e] at post
    simp only at post
    cases e2 : boolsOf xs with
    | none => rw [e2] at post; exact post.elim
    | some is =>
      rw [e2] at post
      obtain ⟨p, vs, ev, rv, sq⟩ := lst_ok hr rd e
      rw [bools_ok e2 rv, ← hK] at sq
      exact cr_all hc pins s σ H _ us Q I r ⟨p, is, by rw [ev], sq, PostE.ok post Le.refl hr rfl⟩
theorem cr_anyL (hK : X.K = T.K) (hc : X.calm = true) : CallR X (.builtin "any") (rdFn T E (f1 bAny)) := cr1 fun ρ lh d v H Q hr rd post pins s σ us I r => by
  unfold bAny at post
  cases e : lstAt d lh with
  | none => rw [e] at post; exact post.elim
  | some xs =>
    rw [e] at post
    simp only at post
    cases e2 : boolsOf xs with
    | none => rw [e2] at post; exact post.elim
    | some is =>
      rw [e2] at post
      obtain ⟨p, vs, ev, rv, sq⟩ := lst_ok hr rd e
      rw [bools_ok e2 rv, ← hK] at sq
      exact cr_any hc pins s σ H _ us Q I r ⟨p, is, by rw [ev], sq, PostE.ok post Le.refl hr rfl⟩
theorem cr_lenS (hK : X.K = T.K) : CallR X (.builtin "len") (rdFn T E (f1 bLenS)) := cr1 fun ρ lh d v H Q hr rd post pins s σ us I r => by
  have seq : ∀ {xs : List D}, itemsOf d lh = some xs → PostE T E ρ lh H (.ok (.int xs.length) lh) Q → wpAny (model X.prog X.w) X.A (call (.builtin "len") us) (EP X pins σ Q) X.xe s := fun {xs} e post => by
    obtain ⟨p, vs, ev, rv, sq⟩ := items_ok hr rd e
    rw [← hK] at sq
    have q := PostE.ok post Le.refl hr rfl
    rw [rv.length] at q
    exact call_len_seq pins s σ H _ us Q I r ⟨p, vs, by rw [ev], sq.symm, q⟩
  cases d with
  | str z =>
    obtain ⟨hb, post⟩ := cond_stuck post
    exact call_len_str pins s σ H _ us Q I r ⟨z, by rw [show v = _ from rd], small_line (Nat.le_of_ble_eq_true hb), PostE.ok post Le.refl hr rfl⟩
  | tup xs => exact seq rfl post
  | kls xs => exact seq rfl post
  | obj n =>
    have post : PostE T E ρ lh H (match itemsOf (.obj n) lh with
      | some xs => .ok (.int xs.length) lh
      | none => .stuck) Q := post
    cases e : itemsOf (.obj n) lh with
    | none => rw [e] at post; exact post.elim
    | some xs => rw [e] at post; exact seq e post
  | _ => exact post.elim
theorem cr_listS (hK : X.K = T.K) : CallR X (.type "list") (rdFn T E (f1 bListS)) := cr1 fun ρ lh d v H Q hr rd post pins s σ us I r => by
  unfold bListS at post
  cases e : itemsOf d lh with
  | none => rw [e] at post; exact post.elim
  | some xs =>
    rw [e] at post
    obtain ⟨p, vs, ev, rv, sq⟩ := items_ok hr rd e
    rw [← hK] at sq
    exact call_list_of pins s σ H _ us Q I r ⟨p, vs, by rw [ev], sq.symm, fun l hl => new_lst hr rv hl post⟩
theorem cr_tup (hK : X.K = T.K) : CallR X (.type "tuple") (rdFn T E (f1 bTup)) := cr1 fun ρ lh d v H Q hr rd post pins s σ us I r => by
  unfold bTup at post
  cases e : itemsOf d lh with
  | none => rw [e] at post; exact post.elim
  | some xs =>
    rw [e] at post
    obtain ⟨p, vs, ev, rv, sq⟩ := items_ok hr rd e
    refine call_tuple_of pins s σ H _ us Q I r ⟨p, vs, by rw [ev], ?_⟩
    rcases sq with sq | sq
    · exact .inr ⟨by rw [hK]; exact sq, PostE.ok post Le.refl hr ⟨p, vs, rfl, sq, rv⟩⟩
    · exact .inl ⟨by rw [hK]; exact sq, fun l hl => new_tup hr rv hl post⟩
end
end TL

namespace TL
open PySem PySem.Spec PyProof.Rows L2

/-! ### dicts: the logical side -/
abbrev Ent := NestedKey × D × D
def dfind : List Ent → NestedKey → Option D
  | [], _ => none
  | x :: r, nk => bif NestedKey.beq x.1 nk then some x.2.2 else dfind r nk
def dset (kvs : List Ent) (nk : NestedKey) (k v : D) : List Ent :=
  bif kvs.any (fun x => NestedKey.beq x.1 nk) then kvs.map (fun x => bif NestedKey.beq x.1 nk then (x.1, x.2.1, v) else x) else kvs ++ [(nk, k, v)]
/-- a key: its kind, what it is up to == -/
def keyOf : D → Option (Bool × NestedKey)
  | .int i => some (false, .num i)
  | .str x => some (false, .text x)
  | .tup ds => match toNKs ds with
    | some ks => bif Nat.ble (NestedKey.depthAll ks) 7 then some (true, .tup ks) else none
    | none => none
  | _ => none
/-- the dict at d, asked by a key of its kind -/
def dictAt (d k : D) (h : LH) : Option (Nat × NestedKey × Bool × List Ent) := match d with
  | .obj n => match h.get n with
    | some (.dct kd kvs) => match keyOf k with
      | some (kk, nk) => bif kvs.isEmpty || (kd == kk) then some (n, nk, kk, kvs) else none
      | none => none
    | _ => none
  | _ => none

/-! ### the relation's two kinds -/
theorem nbeq (a b : NestedKey) : NestedKey.beq a b = decide (a = b) := (NestedKey.decide_eq a b).symm
section
variable {T : Tb} {X : Cx} {pins : List (Addr × Obj)} {σ : L2.St} {H : Hp} {s : Shared} {ρ : List Addr}
theorem toNKs_cons {d : D} {ds : List D} {ks : List NestedKey} (e : toNKs (d :: ds) = some ks) : ∃ k r, toNK d = some k ∧ toNKs ds = some r ∧ ks = k :: r := by
  unfold toNKs at e
  cases q1 : toNK d with
  | none => rw [q1] at e; cases e
  | some k =>
    cases q2 : toNKs ds with
    | none => rw [q1, q2] at e; cases e
    | some r => rw [q1, q2] at e; cases e; exact ⟨k, r, rfl, rfl, rfl⟩
mutual
theorem nest_is (hK : X.K = T.K) (I : Inv X pins σ H s) : ∀ {d : D} {v : V} {u : Value} {nk : NestedKey}, RelD T ρ H d v → toNK d = some nk → RelV v u → NestedIs s.heap nk u
  | .non, v, u, nk, r, e, ru => by
    cases e
    rw [show v = _ from r] at ru
    rw [show u = _ from ru]
    exact .none
  | .bl b, v, u, nk, r, e, ru => by
    cases e
    rw [show v = _ from r] at ru
    rw [show u = _ from ru]
    exact .bool rfl
  | .int i, v, u, nk, r, e, ru => by
    cases e
    rw [show v = _ from r] at ru
    obtain ⟨t, rfl⟩ := ru
    exact .int i t
  | .str x, v, u, nk, r, e, ru => by
    cases e
    rw [show v = _ from r] at ru
    obtain ⟨t, rfl⟩ := ru
    exact .text x t
  | .tup ds, v, u, nk, ⟨a, vs, ev, sq, rv⟩, e, ru => by
    obtain ⟨ks, e1, e2⟩ := map_some (f := NestedKey.tup) e
    subst e2 ev
    cases ru
    rw [← hK] at sq
    obtain ⟨its, rr, ⟨o, ho, hc, n, hd⟩, hz⟩ := I.tuple sq
    exact .tup ho hc hd (by simpa using nests_is hK I rv e1 rr)
  | .obj _, _, _, _, _, e, _ => by cases e
  | .kls _, _, _, _, _, e, _ => by cases e
theorem nests_is (hK : X.K = T.K) (I : Inv X pins σ H s) : ∀ {ds : List D} {vs : List V} {us : List Value} {ks : List NestedKey}, RelDs T ρ H ds vs → toNKs ds = some ks → Vals vs us → NestedAll s.heap ks us
  | [], vs, us, ks, r, e, ru => by
    cases e
    rw [show vs = [] from r] at ru
    cases ru
    exact .nil
  | d :: ds, vs, us, ks, ⟨v, r', ev, h1, h2⟩, e, ru => by
    obtain ⟨k, r, e1, e2, rfl⟩ := toNKs_cons e
    subst ev
    cases ru with
    | cons a b => exact .cons (nest_is hK I h1 e1 a) (nests_is hK I h2 e2 b)
end
/-- entries with tuple keys -/
def NR (T : Tb) (ρ : List Addr) (H : Hp) (x : Ent) (y : NestedKey × Addr × Value) : Prop :=
  x.1 = y.1 ∧ (∃ ds, x.2.1 = .tup ds) ∧ toNK x.2.1 = some x.1 ∧ x.1.depth ≤ 8 ∧ RelD T ρ H x.2.1 (.ref y.2.1) ∧ ∃ vv, RelV vv y.2.2 ∧ RelD T ρ H x.2.2 vv
theorem ents_nr (hw : X.w = T.w) : ∀ {kvs : List Ent} {es : List DictEntry}, EntsR T ρ H true kvs es → ∃ xs, es = xs.map (entryOfKey (nestedKind X.prog X.w)) ∧ Paired (NR T ρ H) kvs xs
  | [], es, h => ⟨[], h, .nil⟩
  | x :: r, es, ⟨e, es', q, ⟨kv, vv, h1, h2, h3, h4, h5, h6, ⟨ds, h7⟩, h8⟩, h9⟩ => by
    obtain ⟨xs, e1, p⟩ := ents_nr hw h9
    obtain ⟨a, vs, ea, _⟩ : ∃ a vs, kv = .ref a ∧ SqT T.K H a vs := by
      rw [h7] at h2
      obtain ⟨a, vs, ea, sq, _⟩ := h2
      exact ⟨a, vs, ea, sq⟩
    subst ea
    refine ⟨(x.1, a, e.val) :: xs, ?_, .cons ⟨rfl, ⟨ds, h7⟩, h5, h8, h2, vv, h3, h4⟩ p⟩
    rw [q, e1, List.map_cons]
    congr 1
    obtain ⟨eh, ek, ev⟩ := e
    have e2 : ek = Value.ref a := h1
    have e3 : eh = x.1.hash T.w := h6
    rw [e2, e3, ← hw]
    rfl
theorem nr_ents (hw : X.w = T.w) : ∀ {kvs : List Ent} {xs : List (NestedKey × Addr × Value)}, Paired (NR T ρ H) kvs xs → EntsR T ρ H true kvs (xs.map (entryOfKey (nestedKind X.prog X.w)))
  | _, _, .nil => rfl
  | x :: _, y :: _, .cons ⟨e1, h7, h5, h8, h2, vv, h3, h4⟩ p => by
    refine ⟨_, _, List.map_cons, ⟨.ref y.2.1, vv, rfl, h2, h3, h4, h5, ?_, h7, h8⟩, nr_ents hw p⟩
    show y.1.hash X.w = x.1.hash T.w
    rw [e1, hw]
theorem nr_keys : ∀ {kvs : List Ent} {xs : List (NestedKey × Addr × Value)}, Paired (NR T ρ H) kvs xs → xs.map (·.1) = kvs.map (·.1)
  | _, _, .nil => rfl
  | _, _, .cons h p => by rw [List.map_cons, List.map_cons, nr_keys p, h.1]
theorem nr_mem : ∀ {kvs : List Ent} {xs : List (NestedKey × Addr × Value)} {y : NestedKey × Addr × Value}, Paired (NR T ρ H) kvs xs → y ∈ xs → ∃ x, NR T ρ H x y
  | _, _, _, .nil, h => by cases h
  | x :: _, _, y, .cons h p, hm => by
    rcases List.mem_cons.mp hm with rfl | hm
    · exact ⟨x, h⟩
    · exact nr_mem p hm
theorem dictH (hK : X.K = T.K) (hw : X.w = T.w) (I : Inv X pins σ H s) {a : Addr} {kvs : List Ent} {es : Array DictEntry} {ep : Nat} (nd : (kvs.map (·.1)).Nodup) (he : EntsR T ρ H true kvs es.toList) (hd : s.heap.DictRaw a es ep) :
    ∃ xs, s.heap.DictOfH (nestedKind X.prog X.w) a xs ∧ Paired (NR T ρ H) kvs xs := by
  obtain ⟨xs, e1, p⟩ := ents_nr hw he
  obtain ⟨o, ho, hx, hdt⟩ := hd
  refine ⟨xs, ⟨o, es, ep, ho, hx, hdt, e1, fun y hy => ?_, by rw [nr_keys p]; exact nd⟩, p⟩
  obtain ⟨x, h1, _, h3, h4, h5, _⟩ := nr_mem p hy
  rw [← h1]
  exact ⟨nest_is hK I h5 h3 rfl, h4⟩
theorem atKey_find : ∀ {kvs : List Ent} {xs : List (NestedKey × Addr × Value)} (nk : NestedKey), Paired (NR T ρ H) kvs xs →
    (dfind kvs nk = none ∧ atKey xs nk = none) ∨ ∃ d p vv, dfind kvs nk = some d ∧ atKey xs nk = some p ∧ RelV vv p.2 ∧ RelD T ρ H d vv
  | _, _, _, .nil => .inl ⟨rfl, rfl⟩
  | x :: _, y :: _, nk, .cons h p => by
    obtain ⟨e1, _, _, _, _, vv, h3, h4⟩ := h
    unfold dfind
    rw [nbeq]
    by_cases hk : x.1 = nk
    · refine .inr ⟨x.2.2, y.2, vv, by rw [decide_eq_true hk]; rfl, ?_, h3, h4⟩
      unfold atKey
      rw [List.find?_cons_of_pos (by rw [← e1, decide_eq_true hk])]
      rfl
    · rw [decide_eq_false hk]
      rcases atKey_find nk p with ⟨a, b⟩ | ⟨d, q, vv, a, b, c⟩
      · refine .inl ⟨a, ?_⟩
        unfold atKey at b ⊢
        rw [List.find?_cons_of_neg (by rw [← e1, decide_eq_false hk]; simp)]
        exact b
      · refine .inr ⟨d, q, vv, a, ?_, c⟩
        unfold atKey at b ⊢
        rw [List.find?_cons_of_neg (by rw [← e1, decide_eq_false hk]; simp)]
        exact b
theorem any_find : ∀ (kvs : List Ent) (nk : NestedKey), (kvs.any fun x => NestedKey.beq x.1 nk) = (dfind kvs nk).isSome
  | [], _ => rfl
  | x :: r, nk => by
    rw [List.any_cons, any_find r nk]
    show (NestedKey.beq x.1 nk || (dfind r nk).isSome) = (bif NestedKey.beq x.1 nk then some x.2.2 else dfind r nk).isSome
    cases NestedKey.beq x.1 nk <;> rfl
theorem paired_append {α β : Type} {F : α → β → Prop} : ∀ {xs : List α} {ys : List β} {x : α} {y : β}, Paired F xs ys → F x y → Paired F (xs ++ [x]) (ys ++ [y])
  | _, _, _, _, .nil, h => .cons h .nil
  | _, _, _, _, .cons a b, h => .cons a (paired_append b h)
theorem paired_map {α β : Type} {F : α → β → Prop} {f : α → α} {g : β → β} (k : ∀ x y, F x y → F (f x) (g y)) : ∀ {xs : List α} {ys : List β}, Paired F xs ys → Paired F (xs.map f) (ys.map g)
  | _, _, .nil => .nil
  | _, _, .cons a b => .cons (k _ _ a) (paired_map k b)
theorem nr_set {kvs : List Ent} {xs : List (NestedKey × Addr × Value)} {nk : NestedKey} {k d : D} {a : Addr} {u : Value} {vv : V} (p : Paired (NR T ρ H) kvs xs) (hk : NR T ρ H (nk, k, d) (nk, a, u)) (ru : RelV vv u) (rd : RelD T ρ H d vv) :
    Paired (NR T ρ H) (dset kvs nk k d) (storedH xs nk a u) := by
  unfold dset storedH
  rw [any_find]
  rcases atKey_find nk p with ⟨e1, e2⟩ | ⟨d', q, _, e1, e2, _⟩
  · rw [e1, e2]
    exact paired_append p hk
  · rw [e1, e2]
    show Paired (NR T ρ H) (kvs.map _) (xs.map _)
    refine paired_map (fun x y h => ?_) p
    obtain ⟨h1, h2, h3, h4, h5, h6⟩ := h
    rw [nbeq]
    unfold putAt
    by_cases z : x.1 = nk
    · rw [decide_eq_true z, if_pos (by rw [← h1]; exact z)]
      exact ⟨h1, h2, h3, h4, h5, vv, ru, rd⟩
    · rw [decide_eq_false z, if_neg (by rw [← h1]; exact z)]
      exact ⟨h1, h2, h3, h4, h5, h6⟩
/-- entries with keys that are whole numbers and texts -/
def kD : Key → D
  | .inl i => .int i
  | .inr x => .str x
def kN : Key → NestedKey
  | .inl i => .num i
  | .inr x => .text x
theorem kN_inj {a b : Key} (h : kN a = kN b) : a = b := by
  cases a <;> cases b <;> cases h <;> rfl
def FR (T : Tb) (ρ : List Addr) (H : Hp) (x : Ent) (y : Key × Value) : Prop := x.2.1 = kD y.1 ∧ x.1 = kN y.1 ∧ ∃ vv, RelV vv y.2 ∧ RelD T ρ H x.2.2 vv
theorem fr_keys : ∀ {kvs : List Ent} {ps : List (Key × Value)}, Paired (FR T ρ H) kvs ps → kvs.map (·.1) = (ps.map (·.1)).map kN
  | _, _, .nil => rfl
  | _, _, .cons h p => by rw [List.map_cons, List.map_cons, List.map_cons, fr_keys p, h.2.1]
theorem rel_kD {k : Key} {kv : V} (r : RelD T ρ H (kD k) kv) : kv = kV k := by
  cases k <;> exact r
theorem ents_fr (hw : X.w = T.w) : ∀ {kvs : List Ent} {es : List DictEntry}, EntsR T ρ H false kvs es → ∃ ps, Pairs (mixKind X.prog X.w) es ps ∧ (∀ e ∈ es, ∃ k, (mixKind X.prog X.w).is k e.key = true ∧ e.hash = (mixKind X.prog X.w).hash k) ∧ Paired (FR T ρ H) kvs ps
  | [], es, h => by rw [show es = [] from h]; exact ⟨[], .nil, (fun e he => by cases he), .nil⟩
  | x :: r, es, ⟨e, es', q, ⟨kv, vv, h1, h2, h3, h4, h5, h6, h7⟩, h9⟩ => by
    obtain ⟨ps, p1, p2, p3⟩ := ents_fr hw h9
    obtain ⟨k, hk⟩ : ∃ k : Key, x.2.1 = kD k := by
      rcases h7 with ⟨i, e⟩ | ⟨y, e⟩
      · exact ⟨.inl i, e⟩
      · exact ⟨.inr y, e⟩
    have hn : x.1 = kN k := by
      rw [hk] at h5
      cases k <;> exact (Option.some.inj h5).symm
    rw [hk] at h2
    rw [rel_kD h2] at h1
    have is := kV_is (P := X.prog) (w := X.w) h1
    refine ⟨(k, e.val) :: ps, ?_, fun e' he => ?_, .cons ⟨hk, hn, vv, h3, h4⟩ p3⟩
    · rw [q]; exact .cons is rfl p1
    · rw [q] at he
      rcases List.mem_cons.mp he with rfl | he
      · refine ⟨k, is, ?_⟩
        rw [h6, hn, ← hw]
        cases k <;> rfl
      · exact p2 e' he
theorem keyIs_rel {k : Key} {u : Value} (h : keyIs k u = true) : RelV (kV k) u := by
  rcases keyIs_shape h with ⟨i, t, rfl, rfl⟩ | ⟨x, t, rfl, rfl⟩
  · exact ⟨t, rfl⟩
  · exact ⟨t, rfl⟩
theorem keyIs_hash {k k' : Key} {u : Value} (h : keyIs k u = true) (h' : keyIs k' u = true) : k = k' := by
  rcases keyIs_shape h with ⟨i, t, rfl, rfl⟩ | ⟨x, t, rfl, rfl⟩
  · rcases keyIs_shape h' with ⟨j, t', rfl, e⟩ | ⟨y, t', rfl, e⟩
    · injection e with e _; rw [e]
    · cases e
  · rcases keyIs_shape h' with ⟨j, t', rfl, e⟩ | ⟨y, t', rfl, e⟩
    · cases e
    · injection e with e _; rw [e]
theorem fr_ents (hw : X.w = T.w) : ∀ {kvs : List Ent} {es : List DictEntry} {ps : List (Key × Value)}, Pairs (mixKind X.prog X.w) es ps → (∀ e ∈ es, ∃ k, (mixKind X.prog X.w).is k e.key = true ∧ e.hash = (mixKind X.prog X.w).hash k) → Paired (FR T ρ H) kvs ps → EntsR T ρ H false kvs es
  | _, _, _, .nil, _, .nil => rfl
  | x :: _, e :: es, p :: _, .cons h1 h2 h3, hk, .cons ⟨a1, a2, vv, a3, a4⟩ q => by
    refine ⟨e, es, rfl, ⟨kV p.1, vv, keyIs_rel h1, ?_, ?_, a4, ?_, ?_, ?_⟩, fr_ents hw h3 (fun e' he => hk e' (List.mem_cons_of_mem _ he)) q⟩
    · rw [a1]; cases p.1 <;> rfl
    · rw [h2]; exact a3
    · rw [a1, a2]; cases p.1 <;> rfl
    · obtain ⟨k', i1, i2⟩ := hk e List.mem_cons_self
      have := keyIs_hash i1 h1
      subst this
      rw [i2, a2, hw]
      cases p.1 <;> rfl
    · rw [a1]
      cases p.1 with
      | inl i => exact .inl ⟨i, rfl⟩
      | inr y => exact .inr ⟨y, rfl⟩
theorem nodup_kN {l : List Key} : (l.map kN).Nodup ↔ l.Nodup := by
  constructor
  · intro h
    exact List.Pairwise.imp (fun {a b} h e => h (by rw [e])) (List.pairwise_map.mp h)
  · intro h
    exact List.pairwise_map.mpr (List.Pairwise.imp (fun {a b} h e => h (kN_inj e)) h)
theorem dictF (hw : X.w = T.w) (I : Inv X pins σ H s) {a : Addr} {kvs : List Ent} {es : Array DictEntry} {ep : Nat} (nd : (kvs.map (·.1)).Nodup) (he : EntsR T ρ H false kvs es.toList) (hd : s.heap.DictRaw a es ep) :
    ∃ ps, s.heap.DictOf (mixKind X.prog X.w) a ps ∧ Paired (FR T ρ H) kvs ps := by
  obtain ⟨ps, p1, p2, p3⟩ := ents_fr hw he
  obtain ⟨o, ho, hx, hdt⟩ := hd
  refine ⟨ps, ⟨o, es, ep, ho, hx, hdt, fun e he => p2 e (by simpa using he), p1, ?_⟩, p3⟩
  rw [fr_keys p3] at nd
  exact nodup_kN.mp nd
theorem value_find : ∀ {kvs : List Ent} {ps : List (Key × Value)} (k : Key), Paired (FR T ρ H) kvs ps →
    (dfind kvs (kN k) = none ∧ valueAt ps k = none) ∨ ∃ d u vv, dfind kvs (kN k) = some d ∧ valueAt ps k = some u ∧ RelV vv u ∧ RelD T ρ H d vv
  | _, _, _, .nil => .inl ⟨rfl, rfl⟩
  | x :: _, y :: _, k, .cons h p => by
    obtain ⟨_, e1, vv, h3, h4⟩ := h
    unfold dfind
    rw [nbeq]
    by_cases hk : y.1 = k
    · have hx : x.1 = kN k := by rw [e1, hk]
      refine .inr ⟨x.2.2, y.2, vv, by rw [decide_eq_true hx]; rfl, ?_, h3, h4⟩
      unfold valueAt
      rw [List.find?_cons_of_pos (by exact decide_eq_true hk)]
      rfl
    · have hx : ¬ x.1 = kN k := fun z => hk (kN_inj (by rw [← e1, z]))
      rw [decide_eq_false hx]
      rcases value_find k p with ⟨a, b⟩ | ⟨d, q, vv, a, b, c⟩
      · refine .inl ⟨a, ?_⟩
        unfold valueAt at b ⊢
        rw [List.find?_cons_of_neg (by rw [decide_eq_false hk]; simp)]
        exact b
      · refine .inr ⟨d, q, vv, a, ?_, c⟩
        unfold valueAt at b ⊢
        rw [List.find?_cons_of_neg (by rw [decide_eq_false hk]; simp)]
        exact b
theorem any_value : ∀ (ps : List (Key × Value)) (k : Key), (ps.any fun kv => decide (kv.1 = k)) = (valueAt ps k).isSome
  | [], _ => rfl
  | p :: r, k => by
    rw [List.any_cons, any_value r k]
    unfold valueAt
    by_cases h : p.1 = k
    · rw [List.find?_cons_of_pos (by exact decide_eq_true h), decide_eq_true h]
      rfl
    · rw [List.find?_cons_of_neg (by rw [decide_eq_false h]; simp), decide_eq_false h]
      rfl
theorem fr_set {kvs : List Ent} {ps : List (Key × Value)} {k : Key} {d : D} {u : Value} {vv : V} (p : Paired (FR T ρ H) kvs ps) (ru : RelV vv u) (rd : RelD T ρ H d vv) :
    Paired (FR T ρ H) (dset kvs (kN k) (kD k) d) (stored ps k u) := by
  unfold dset stored
  rw [any_find, any_value]
  rcases value_find k p with ⟨e1, e2⟩ | ⟨d', q, _, e1, e2, _⟩
  · rw [e1, e2]
    exact paired_append p ⟨rfl, rfl, vv, ru, rd⟩
  · rw [e1, e2]
    show Paired (FR T ρ H) (kvs.map _) (ps.map _)
    refine paired_map (fun x y h => ?_) p
    obtain ⟨h1, h2, h6⟩ := h
    rw [nbeq]
    by_cases z : y.1 = k
    · have hx : x.1 = kN k := by rw [h2, z]
      rw [decide_eq_true hx, if_pos z]
      exact ⟨h1, h2, vv, ru, rd⟩
    · have hx : ¬ x.1 = kN k := fun q => z (kN_inj (by rw [← h2, q]))
      rw [decide_eq_false hx, if_neg z]
      exact ⟨h1, h2, h6⟩
theorem dset_length (kvs : List Ent) (nk : NestedKey) (k v : D) : (dset kvs nk k v).length ≤ kvs.length + 1 := by
  unfold dset
  cases kvs.any fun x => NestedKey.beq x.1 nk with
  | true => show (kvs.map _).length ≤ _; rw [List.length_map]; exact Nat.le_succ _
  | false => show (kvs ++ [_]).length ≤ _; rw [List.length_append]; exact Nat.le_refl _
/-- the key of a look-up -/
theorem key_cases {k : D} {v : V} {u : Value} {kk : Bool} {nk : NestedKey} (hK : X.K = T.K) (I : Inv X pins σ H s) (e : keyOf k = some (kk, nk)) (r : RelD T ρ H k v) (ru : RelV v u) :
    toNK k = some nk ∧ ((kk = true ∧ ∃ a, v = .ref a ∧ u = .ref a ∧ (∃ ds, k = .tup ds) ∧ nk.depth ≤ 8 ∧ (nestedKind X.prog X.w).is s.heap nk a) ∨ (kk = false ∧ ∃ y : Key, k = kD y ∧ nk = kN y ∧ (mixKind X.prog X.w).is y u = true)) := by
  cases k with
  | int i =>
    cases e
    refine ⟨rfl, .inr ⟨rfl, .inl i, rfl, rfl, kV_is (k := .inl i) ?_⟩⟩
    rw [show v = _ from r] at ru
    exact ru
  | str x =>
    cases e
    refine ⟨rfl, .inr ⟨rfl, .inr x, rfl, rfl, kV_is (k := .inr x) ?_⟩⟩
    rw [show v = _ from r] at ru
    exact ru
  | tup ds =>
    have e : (match toNKs ds with
      | some ks => bif Nat.ble (NestedKey.depthAll ks) 7 then some (true, NestedKey.tup ks) else none
      | none => none) = some (kk, nk) := e
    cases q : toNKs ds with
    | none => rw [q] at e; cases e
    | some ks =>
      rw [q] at e
      simp only at e
      cases b : Nat.ble (NestedKey.depthAll ks) 7 with
      | false => rw [b] at e; cases e
      | true =>
        rw [b] at e
        cases e
        have hb := Nat.le_of_ble_eq_true b
        have hn : toNK (.tup ds) = some (.tup ks) := by
          show (toNKs ds).map NestedKey.tup = _
          rw [q]; rfl
        have hd : (NestedKey.tup ks).depth ≤ 8 := by rw [NestedKey.depth]; omega
        obtain ⟨a, vs, ev, sq, rv⟩ := id r
        subst ev
        cases ru
        exact ⟨hn, .inl ⟨rfl, a, rfl, rfl, ⟨ds, rfl⟩, hd, nest_is hK I r hn rfl, hd⟩⟩
  | _ => cases e
theorem ents_empty {kd kd' : Bool} {kvs : List Ent} {es : List DictEntry} (h : EntsR T ρ H kd kvs es) (e : (kvs.isEmpty || (kd == kd')) = true) : EntsR T ρ H kd' kvs es := by
  cases kvs with
  | nil => exact h
  | cons x r =>
    have : kd = kd' := by simpa using e
    rw [← this]; exact h
theorem dictAt_some {d k : D} {lh : LH} {n : Nat} {nk : NestedKey} {kk : Bool} {kvs : List Ent} (e : dictAt d k lh = some (n, nk, kk, kvs)) :
    ∃ kd, d = .obj n ∧ lh.get n = some (.dct kd kvs) ∧ keyOf k = some (kk, nk) ∧ (kvs.isEmpty || (kd == kk)) = true := by
  unfold dictAt at e
  cases d with
  | obj m =>
    simp only at e
    cases q : lh.get m with
    | none => rw [q] at e; cases e
    | some o =>
      rw [q] at e
      cases o with
      | dct kd kvs' =>
        simp only at e
        cases q2 : keyOf k with
        | none => rw [q2] at e; cases e
        | some z =>
          obtain ⟨kk', nk'⟩ := z
          rw [q2] at e
          simp only at e
          cases b : (kvs'.isEmpty || (kd == kk')) with
          | false => rw [b] at e; cases e
          | true =>
            rw [b] at e
            cases e
            exact ⟨kd, rfl, q, rfl, b⟩
      | lst _ _ => cases e
      | ins _ _ => cases e
  | _ => cases e
/-- what stands at a dict's address -/
theorem Inv.rawD (I : Inv X pins σ H s) {a : Addr} {es : Array DictEntry} {ep : Nat} (e : H a = some (dictO a es ep)) : s.heap.DictRaw a es ep := by
  obtain ⟨h, _⟩ := I.hok a _ e
  exact h
end

/-! ### look-ups -/
def dLook (d k : D) (h : LH) : Option (Option D) := (dictAt d k h).map fun z => dfind z.2.2.2 z.2.1
section
variable {T : Tb} {E : XK} {X : Cx} {pins : List (Addr × Obj)} {σ : L2.St} {H : Hp} {s : Shared} {ρ : List Addr} {lh : LH}
theorem look_get (hK : X.K = T.K) (hw : X.w = T.w) (hu : X.A.units + 65 < cLine) (I : Inv X pins σ H s) (hr : HR T ρ H lh) {d k r : D} {x y : V} {v u : Value} (rd : RelD T ρ H d x) (rk : RelD T ρ H k y) (rx : RelV x v) (ry : RelV y u)
    (e : dLook d k lh = some (some r)) {Q : Value → Shared → Prop} {E' : Value → Shared → Prop} (h : ∀ w' s' vv, Inv X pins σ H s' → RelV vv w' → RelD T ρ H r vv → Q w' s') : s.TypeIs v "dict" ∧ wpAny (model X.prog X.w) X.A (getItem v u) Q E' s := by
  obtain ⟨⟨n, nk, kk, kvs⟩, e1, e2⟩ := map_some (f := fun z : Nat × NestedKey × Bool × List Ent => dfind z.2.2.2 z.2.1) e
  obtain ⟨kd, rfl, hg, hk, hb⟩ := dictAt_some e1
  obtain ⟨a, ex, _, hsm, hlen, nd, es, ep, he, hH⟩ := obj_of hr rd hg
  subst ex
  cases rx
  have raw := Inv.rawD I hH
  have he := ents_empty he hb
  obtain ⟨_, hc⟩ := key_cases hK I hk rk ry
  rcases hc with ⟨ekk, p, ey, eu, _, _, is⟩ | ⟨ekk, kk', ek, en, is⟩
  · subst ekk eu
    obtain ⟨xs, dd, pr⟩ := dictH hK hw I nd he raw
    refine ⟨raw.typeIs, ?_⟩
    rcases atKey_find nk pr with ⟨z, _⟩ | ⟨d', q, vv, z1, z2, z3, z4⟩
    · rw [show dfind kvs nk = some r from e2] at z; cases z
    · rw [show dfind kvs nk = some r from e2] at z1; cases z1
      exact wpAny_getItem_heap (knd := nestedKind X.prog X.w) (by show X.A.units + 1 + 8 < cLine; omega) is dd z2 (h _ _ vv (I.tok _) z3 z4)
  · subst ekk ek en
    obtain ⟨ps, dd, pr⟩ := dictF hw I nd he raw
    refine ⟨raw.typeIs, ?_⟩
    rcases value_find kk' pr with ⟨z, _⟩ | ⟨d', q, vv, z1, z2, z3, z4⟩
    · rw [show dfind kvs (kN kk') = some r from e2] at z; cases z
    · rw [show dfind kvs (kN kk') = some r from e2] at z1; cases z1
      exact wpAny_getItem_of is dd.mapOf z2 (h _ _ vv (I.tok _) z3 z4)
theorem look_in (hK : X.K = T.K) (hw : X.w = T.w) (hu : X.A.units + 65 < cLine) (I : Inv X pins σ H s) (hr : HR T ρ H lh) {d k : D} {o : Option D} {x y : V} {v u : Value} (rd : RelD T ρ H d x) (rk : RelD T ρ H k y) (rx : RelV x v) (ry : RelV y u)
    (e : dLook d k lh = some o) {Q : Value → Shared → Prop} {E' : Value → Shared → Prop} (neg : Bool) (h : ∀ s', Inv X pins σ H s' → Q (.bool (bif neg then !o.isSome else o.isSome)) s') : wpAny (model X.prog X.w) X.A (compareOp (bif neg then .NotIn else .In) u v) Q E' s := by
  obtain ⟨⟨n, nk, kk, kvs⟩, e1, e2⟩ := map_some (f := fun z : Nat × NestedKey × Bool × List Ent => dfind z.2.2.2 z.2.1) e
  obtain ⟨kd, rfl, hg, hk, hb⟩ := dictAt_some e1
  obtain ⟨a, ex, _, hsm, hlen, nd, es, ep, he, hH⟩ := obj_of hr rd hg
  subst ex
  cases rx
  have raw := Inv.rawD I hH
  have he := ents_empty he hb
  obtain ⟨_, hc⟩ := key_cases hK I hk rk ry
  have e2 : dfind kvs nk = o := e2
  subst e2
  rcases hc with ⟨ekk, p, ey, eu, _, _, is⟩ | ⟨ekk, kk', ek, en, is⟩
  · subst ekk eu
    obtain ⟨xs, dd, pr⟩ := dictH hK hw I nd he raw
    have es' : (atKey xs nk).isSome = (dfind kvs nk).isSome := by
      rcases atKey_find nk pr with ⟨z1, z2⟩ | ⟨d', q, vv, z1, z2, _⟩ <;> rw [z1, z2] <;> rfl
    have room : (nestedKind X.prog X.w).room X.A.in1 := by show X.A.units + 1 + 8 < cLine; omega
    cases neg with
    | false => exact wpAny_in_heap room is hsm dd (by rw [es']; exact h _ (I.tok _))
    | true =>
      show wpAny (model X.prog X.w) X.A (do return Value.bool (!(← contains (.ref a) (.ref p)))) Q E' s
      exact wpAny_bind (wpAny_contains_heap room is hsm dd (wpAny_pure (by rw [es']; exact h _ (I.tok _))))
  · subst ekk ek en
    obtain ⟨ps, dd, pr⟩ := dictF hw I nd he raw
    have es' : (valueAt ps kk').isSome = (dfind kvs (kN kk')).isSome := by
      rcases value_find kk' pr with ⟨z1, z2⟩ | ⟨d', q, vv, z1, z2, _⟩ <;> rw [z1, z2] <;> rfl
    cases neg with
    | false => exact wpAny_in_of is hsm dd.mapOf (by rw [es']; exact h _ (I.tok _))
    | true => exact wpAny_notIn_of is hsm dd.mapOf (by rw [es']; exact h _ (I.tok _))
/-- d[k] = v -/
def vPut (d k v : D) (h : LH) : Res Unit := match dictAt d k h with
  | some (n, nk, kk, kvs) => bif Nat.ble kvs.length 90000 then .ok () (h.put n (.dct kk (dset kvs nk k v))) else .stuck
  | none => .stuck
theorem obj_ext {a : Addr} {es : Array DictEntry} {ep : Nat} {h : Heap} (hd : h.DictRaw a es ep) : ObjOk X.prog X.w H h a (dictO a es ep) :=
  ⟨hd, let ⟨o, ho, _⟩ := hd; ⟨o, ho⟩, fun h1 h2 x k => x.at k⟩
theorem put_ok (hK : X.K = T.K) (hw : X.w = T.w) (hu : X.A.units + 65 < cLine) (I : Inv X pins σ H s) (hr : HR T ρ H lh) {d k z : D} {x y t : V} {v u r : Value} (rd : RelD T ρ H d x) (rk : RelD T ρ H k y) (rz : RelD T ρ H z t) (rx : RelV x v) (ry : RelV y u) (rt : RelV t r)
    {Q : Hp → Prop} {E' : Value → Shared → Prop} (h : PostG T E ρ lh H (vPut d k z lh) fun _ _ _ H' => Q H') : wpAny (model X.prog X.w) X.A (setItem v u r) (fun _ s' => ∃ H', Inv X pins σ H' s' ∧ Q H') E' s := by
  unfold vPut at h
  cases e1 : dictAt d k lh with
  | none => rw [e1] at h; exact h.elim
  | some q =>
    obtain ⟨n, nk, kk, kvs⟩ := q
    rw [e1] at h
    obtain ⟨hb0, h⟩ := cond_stuck h
    have hl := Nat.le_of_ble_eq_true hb0
    obtain ⟨kd, rfl, hg, hk, hb⟩ := dictAt_some e1
    obtain ⟨a, ex, en0, hsm, hlen, nd, es, ep, he, hH⟩ := obj_of hr rd hg
    subst ex
    cases rx
    have raw := Inv.rawD I hH
    have he := ents_empty he hb
    have hls := dset_length kvs nk k z
    obtain ⟨hnk, hc⟩ := key_cases hK I hk rk ry
    have fin : ∀ {h' : Heap} {tk : Nat} {es' : Array DictEntry} {ep' : Nat}, h'.DictRaw a es' ep' → Heap.SameBut a s.heap h' → ((dset kvs nk k z).map (·.1)).Nodup → EntsR T ρ H kk (dset kvs nk k z) es'.toList →
        ∃ H', Inv X pins σ H' { s with heap := h', toks := tk } ∧ Q H' := fun {h' tk es' ep'} hd hs hn hE => by
      have hmu : Mut (H a) := by rw [hH]; exact True.intro
      have le0 : Le0 ρ H ρ (upd H a (dictO a es' ep')) := Le0.upd_mut hH (fun _ q => by cases q) fun _ _ q => by cases q
      have same : ∀ b, b ≠ a → upd H a (dictO a es' ep') b = H b := fun b hb => upd_ne hb
      refine ⟨upd H a (dictO a es' ep'), I.write (x := a) (e := a) hmu (.inl rfl) (fun b o hb q => (hs.2 b hb).trans q) (let ⟨o, ho, _⟩ := hd; ⟨o, ho⟩) (obj_ext hd), ?_⟩
      refine h ρ _ (Le.write hr en0 le0 same) (hr.write en0 le0 same (by rw [upd_same]; simp) ?_)
      exact ⟨hsm, by omega, hn, es', ep', hE.mono le0, upd_same⟩
    rcases hc with ⟨ekk, p, ey, eu, hds, hdp, is⟩ | ⟨ekk, kk', ek, en, is⟩
    · subst ekk eu ey
      obtain ⟨xs, dd, pr⟩ := dictH hK hw I nd he raw
      have pr2 := nr_set (k := k) (a := p) pr ⟨rfl, hds, hnk, hdp, rk, t, rt, rz⟩ rt rz
      have lx : xs.length = kvs.length := by
        have := congrArg List.length (nr_keys pr)
        simpa using this
      refine wpAny_setItem_heap (knd := nestedKind X.prog X.w) (by show X.A.units + 1 + 8 < cLine; omega) is dd (fun h' dd' hs => ?_) (by rw [sizeLine_eq]; omega)
      obtain ⟨o, es', ep', ho, hx, hdt, hes, his, hn⟩ := dd'
      refine fin ⟨o, ho, hx, hdt⟩ hs ?_ ?_
      · rw [← nr_keys pr2]; exact hn
      · rw [hes]; exact nr_ents hw pr2
    · subst ekk ek en
      obtain ⟨ps, dd, pr⟩ := dictF hw I nd he raw
      have pr2 := fr_set (k := kk') (d := z) pr rt rz
      have lx : ps.length = kvs.length := by
        have := congrArg List.length (fr_keys pr)
        simpa using this.symm
      refine wpAny_setItem_pairs is dd (fun h' dd' hs => ?_) (by rw [sizeLine_eq]; omega)
      obtain ⟨o, es', ep', ho, hx, hdt, hes, his, hn⟩ := dd'
      refine fin ⟨o, ho, hx, hdt⟩ hs ?_ (fr_ents hw his (fun e he => hes e (by simpa using he)) pr2)
      rw [fr_keys pr2]
      exact nodup_kN.mpr hn
end
end TL

namespace TL
open PySem PySem.Spec PyProof.Rows L2

/-! ### what the tables must say -/
def tyNames : List String := ["NoneType", "bool", "int", "str", "list", "tuple", "dict"]
structure ClsF (K : PySem.W.Frag) (C : Addr) : Prop where
  cls : Cls K C
  ha : PySem.W.findIn K (.ref C) "__class__" = some (some (.builtin "object.__class__"))
  hn : PySem.W.specialIn K (.builtin "object.__class__") "__get__" = some (some (.builtin "getset_descriptor.__get__"))
  htk : PySem.W.takesIn K (.builtin "object.__class__") = some true
  hm : PySem.W.mroIn K C (.type "object") = some true
structure Tb.Ok (T : Tb) : Prop where
  fnd : T.fn.Nodup
  cls : ∀ x ∈ T.cn, ClsF T.K (He.ga T.K x)
  noat : ∀ x ∈ T.cn, ∀ f ∈ T.fn, NoAttr T.K (He.ga T.K x) f
  isT : ∀ a ∈ tyNames, ∀ x ∈ T.cn, PySem.W.kitOne T.K (.type a) (.ref (He.ga T.K x)) = some false
  isO : ∀ x ∈ T.cn, ∀ y ∈ T.cn, PySem.W.kitOne T.K (.ref (He.ga T.K x)) (.ref (He.ga T.K y)) = some (decide (x = y))
  isB : ∀ x ∈ T.cn, ∀ a ∈ tyNames, PySem.W.kitOne T.K (.ref (He.ga T.K x)) (.type a) = some false
  cnd : T.cn.Nodup

/-! ### fields -/
def flook : List (Nat × D) → Nat → Option D
  | [], _ => none
  | x :: r, f => bif Nat.beq x.1 f then some x.2 else flook r f
def fput : List (Nat × D) → Nat → D → List (Nat × D)
  | [], f, d => [(f, d)]
  | x :: r, f, d => bif Nat.beq x.1 f then (x.1, d) :: r else x :: fput r f d
def vFld (f : Nat) (d : D) (h : LH) : Res D := match d with
  | .obj n => match h.get n with
    | some (.ins _ fs) => match flook fs f with
      | some v => .ok v h
      | none => .stuck
    | _ => .stuck
  | _ => .stuck
def vFset (f : Nat) (d v : D) (h : LH) : Res Unit := match d with
  | .obj n => match h.get n with
    | some (.ins c fs) => bif Nat.ble fs.length 900 then .ok () (h.put n (.ins c (fput fs f v))) else .stuck
    | _ => .stuck
  | _ => .stuck
section
variable {T : Tb} {E : XK} {X : Cx} {ρ : List Addr} {H : Hp} {lh : LH} {σ : L2.St} {Q : VK}
theorem flook_ok (nd : T.fn.Nodup) : ∀ {fs : List (Nat × D)} {vs : List (Str × V)} {f : Nat} {x : Str} {d : D}, FsR T ρ H fs vs → T.fn[f]? = some x → flook fs f = some d → ∃ v, vs.lookup x = some v ∧ RelD T ρ H d v
  | [], _, _, _, _, _, _, e => by cases e
  | y :: r, vs, f, x, d, ⟨z, v, r', ev, h1, h2, h3⟩, hx, e => by
    subst ev
    unfold flook at e
    cases b : Nat.beq y.1 f with
    | true =>
      rw [b] at e
      cases e
      have e1 : y.1 = f := Nat.eq_of_beq_eq_true b
      rw [e1, hx] at h1
      cases h1
      exact ⟨v, by rw [List.lookup_cons]; simp, h2⟩
    | false =>
      rw [b] at e
      obtain ⟨u, l, ru⟩ := flook_ok nd h3 hx e
      have ne : x ≠ z := fun q => by
        subst q
        have := nodup_ix nd h1 hx
        rw [this] at b
        rw [Nat.beq_refl] at b
        cases b
      refine ⟨u, ?_, ru⟩
      rw [List.lookup_cons, beq_eq_false_iff_ne.mpr ne]
      exact l
theorem fput_ok (nd : T.fn.Nodup) : ∀ {fs : List (Nat × D)} {vs : List (Str × V)} {f : Nat} {x : Str} {d : D} {v : V}, FsR T ρ H fs vs → T.fn[f]? = some x → RelD T ρ H d v → FsR T ρ H (fput fs f d) (putF x v vs)
  | [], vs, f, x, d, v, h, hx, r => by
    rw [show vs = [] from h]
    exact ⟨x, v, [], rfl, hx, r, rfl⟩
  | y :: r, vs, f, x, d, v, ⟨z, u, r', ev, h1, h2, h3⟩, hx, rv => by
    subst ev
    unfold fput
    cases b : Nat.beq y.1 f with
    | true =>
      have e1 : y.1 = f := Nat.eq_of_beq_eq_true b
      rw [e1, hx] at h1
      cases h1
      show FsR T ρ H ((y.1, d) :: r) (if x = x then (x, v) :: r' else _)
      rw [if_pos rfl]
      exact ⟨x, v, r', rfl, by rw [e1]; exact hx, rv, h3⟩
    | false =>
      have ne : z ≠ x := fun q => by
        subst q
        have := nodup_ix nd h1 hx
        rw [this] at b
        rw [Nat.beq_refl] at b
        cases b
      show FsR T ρ H (y :: fput r f d) (if z = x then _ else (z, u) :: putF x v r')
      rw [if_neg ne]
      exact ⟨z, u, _, rfl, h1, h2, fput_ok nd h3 hx rv⟩
theorem FsR.length : ∀ {fs : List (Nat × D)} {vs : List (Str × V)}, FsR T ρ H fs vs → fs.length = vs.length
  | [], vs, h => by rw [show vs = [] from h]; rfl
  | _ :: _, _, ⟨_, _, _, ev, _, _, h3⟩ => by rw [ev, List.length_cons, List.length_cons, FsR.length h3]
theorem rd_fld (ok : T.Ok) (hK : X.K = T.K) {f : Nat} {x : Str} {m : ME} (hx : T.fn[f]? = some x) (h : rdE T E (m1 (vFld f) m) σ H Q) : tFld X.K (rdE T E m) x σ H Q := by
  obtain ⟨ρ, sl, lh, sr, post⟩ := h
  refine ⟨ρ, sl, lh, sr, (PostG.bind post).mono fun d h1 ρ1 H1 le1 hr1 p1 v rv => ?_⟩
  cases d with
  | obj n =>
    have p1 : PostE T E ρ1 h1 H1 (match h1.get n with
      | some (.ins _ fs) => match flook fs f with
        | some v => .ok v h1
        | none => .stuck
      | _ => .stuck) Q := p1
    split at p1
    · rename_i c fs e
      cases e2 : flook fs f with
      | none => rw [e2] at p1; exact p1.elim
      | some r =>
        rw [e2] at p1
        obtain ⟨a, ev, _, y, dx, vfs, hc, hH, fr⟩ := obj_of hr1 rv e
        obtain ⟨u, l, ru⟩ := flook_ok ok.fnd fr hx e2
        have my := List.mem_of_getElem? hc
        refine ⟨a, _, dx, vfs, u, ev, hH, by rw [hK]; exact (ok.cls y my).cls, by rw [hK]; exact ok.noat y my x (List.mem_of_getElem? hx), l, PostE.ok p1 Le.refl hr1 ru⟩
    · exact p1.elim
  | _ => exact p1.elim
end

/-! ### methods of lists -/
def lApp (d : D) (ds : List D) (h : LH) : Res D := match d, ds with
  | .obj n, [y] => match h.get n with
    | some (.lst false xs) => bif Nat.ble xs.length tooLong then .ok .non (h.put n (.lst false (xs ++ [y]))) else .stuck
    | _ => .stuck
  | _, _ => .stuck
def lPop (d : D) (ds : List D) (h : LH) : Res D := match d, ds with
  | .obj n, [.int i] => match h.get n with
    | some (.lst false xs) => match ixN xs.length i with
      | some k => match xs[k]? with
        | some y => .ok y (h.put n (.lst false (xs.eraseIdx k)))
        | none => .stuck
      | none => .stuck
    | _ => .stuck
  | .obj n, [] => match h.get n with
    | some (.lst false xs) => match xs[xs.length - 1]? with
      | some y => .ok y (h.put n (.lst false xs.dropLast))
      | none => .stuck
    | _ => .stuck
  | _, _ => .stuck
section
variable {T : Tb} {E : XK} {X : Cx} {ρ : List Addr} {H : Hp} {lh : LH} {σ : L2.St} {Q : VK}
theorem le0_lst {a : Addr} {vs : List V} {o : HO} (h : H a = some (.lst vs)) : Le0 ρ H ρ (upd H a o) := Le0.upd_mut h (fun _ q => by cases q) fun _ _ q => by cases q
/-- a list is written -/
theorem write_lst {n : Nat} {a : Addr} {vs us : List V} {xs : List D} {r : D} {v : V} (hr : HR T ρ H lh) (hn : ρ[n]? = some a) (hH : H a = some (.lst vs)) (ru : RelDs T ρ H xs us) (rv : RelD T ρ H r v) (post : PostE T E ρ lh H (.ok r (lh.put n (.lst false xs))) Q) : Q v (upd H a (.lst us)) := by
  have le0 : Le0 ρ H ρ (upd H a (.lst us)) := le0_lst hH
  have same : ∀ b, b ≠ a → upd H a (.lst us) b = H b := fun b hb => upd_ne hb
  exact PostE.ok post (Le.write hr hn le0 same) (hr.write hn le0 same (by rw [upd_same]; simp) ⟨us, ru.mono le0, upd_same⟩) (rv.mono le0)
theorem mr_app : MtR X "list.append" (rdMt T E lApp) := by
  intro pins s σ H x xs v us Q I rx rxs h
  obtain ⟨ρ, lh, d, ds, hr, rd, rds, post⟩ := h
  match d, ds, rd, rds, post with
  | .obj n, [y], rd, rds, post =>
    have post : PostE T E ρ lh H (match lh.get n with
      | some (.lst false xs) => bif Nat.ble xs.length tooLong then .ok .non (lh.put n (.lst false (xs ++ [y]))) else .stuck
      | _ => .stuck) Q := post
    split at post
    · rename_i zs e
      obtain ⟨hb, post⟩ := cond_stuck post
      obtain ⟨a, ev, hn, vs, rv, hH⟩ := obj_of hr rd e
      obtain ⟨w, ew, rw⟩ := rel1 rfl rds
      have hb := Nat.le_of_ble_eq_true hb
      unfold tooLong at hb
      refine mt_append pins s σ H x xs v us Q I rx rxs ⟨a, vs, w, ev, ew, hH, by rw [← rv.length, sizeLine_eq]; omega, ?_⟩
      exact write_lst (r := .non) hr hn hH (rv.append (RelDs.one rw)) rfl post
    · exact post.elim
  | .obj n, [], _, _, post => exact post.elim
  | .obj n, _ :: _ :: _, _, _, post => exact post.elim
  | .non, _, _, _, post => exact post.elim
  | .bl _, _, _, _, post => exact post.elim
  | .int _, _, _, _, post => exact post.elim
  | .str _, _, _, _, post => exact post.elim
  | .tup _, _, _, _, post => exact post.elim
  | .kls _, _, _, _, post => exact post.elim
theorem dropLast_rel {ds : List D} {vs : List V} (r : RelDs T ρ H ds vs) : RelDs T ρ H ds.dropLast vs.dropLast := by
  rw [List.dropLast_eq_take, List.dropLast_eq_take, r.length]
  exact r.take _
theorem mr_pop : MtR X "list.pop" (rdMt T E lPop) := by
  intro pins s σ H x xs v us Q I rx rxs h
  obtain ⟨ρ, lh, d, ds, hr, rd, rds, post⟩ := h
  match d, ds, rd, rds, post with
  | .obj n, [.int i], rd, rds, post =>
    have post : PostE T E ρ lh H (match lh.get n with
      | some (.lst false xs) => match ixN xs.length i with
        | some k => match xs[k]? with
          | some y => .ok y (lh.put n (.lst false (xs.eraseIdx k)))
          | none => .stuck
        | none => .stuck
      | _ => .stuck) Q := post
    split at post
    · rename_i zs e
      cases e2 : ixN zs.length i with
      | none => rw [e2] at post; exact post.elim
      | some k =>
        rw [e2] at post
        simp only at post
        cases e3 : zs[k]? with
        | none => rw [e3] at post; exact post.elim
        | some y =>
          rw [e3] at post
          obtain ⟨a, ev, hn, vs, rv, hH⟩ := obj_of hr rd e
          obtain ⟨w, ew, rw⟩ := rel1 rfl rds
          obtain ⟨u, hu, ru⟩ := rv.get e3
          have hl := rv.length
          rw [hl] at e2
          obtain ⟨g1, g2, g3, g4⟩ := ixN_seq e2
          have hz : vs.length ≤ sizeLine := by
            obtain ⟨z, _⟩ := I.hok a _ hH
            exact z
          rw [sizeLine_eq] at hz
          refine mt_popAt pins s σ H x xs v us Q I rx rxs ⟨a, vs, i, k, u, ev, by rw [ew, show w = _ from rw], hH, by omega, by omega, g1, hu, ?_⟩
          exact write_lst hr hn hH (rv.eraseIdx k) ru post
    · exact post.elim
  | .obj n, [], rd, rds, post =>
    have post : PostE T E ρ lh H (match lh.get n with
      | some (.lst false xs) => match xs[xs.length - 1]? with
        | some y => .ok y (lh.put n (.lst false xs.dropLast))
        | none => .stuck
      | _ => .stuck) Q := post
    split at post
    · rename_i zs e
      cases e3 : zs[zs.length - 1]? with
      | none => rw [e3] at post; exact post.elim
      | some y =>
        rw [e3] at post
        obtain ⟨a, ev, hn, vs, rv, hH⟩ := obj_of hr rd e
        obtain ⟨u, hu, ru⟩ := rv.get e3
        rw [rv.length] at hu
        refine mt_pop pins s σ H x xs v us Q I rx rxs ⟨a, vs, u, ev, rds, hH, hu, ?_⟩
        exact write_lst hr hn hH (dropLast_rel rv) ru post
    · exact post.elim
  | .obj n, .non :: _, _, _, post => exact post.elim
  | .obj n, .bl _ :: _, _, _, post => exact post.elim
  | .obj n, .str _ :: _, _, _, post => exact post.elim
  | .obj n, .tup _ :: _, _, _, post => exact post.elim
  | .obj n, .obj _ :: _, _, _, post => exact post.elim
  | .obj n, .kls _ :: _, _, _, post => exact post.elim
  | .obj n, .int _ :: _ :: _, _, _, post => exact post.elim
  | .non, _, _, _, post => exact post.elim
  | .bl _, _, _, _, post => exact post.elim
  | .int _, _, _, _, post => exact post.elim
  | .str _, _, _, _, post => exact post.elim
  | .tup _, _, _, _, post => exact post.elim
  | .kls _, _, _, _, post => exact post.elim
end
end TL

namespace TL
open PySem PySem.Spec PyProof.Rows L2

/-! ### isinstance: types by numbers (0 .. 6 built-in, from 7 on own classes) -/
def tyCode (d : D) (h : LH) : Option Nat := match d with
  | .non => some 0
  | .bl _ => some 1
  | .int _ => some 2
  | .str _ => some 3
  | .tup _ => some 5
  | .obj n => match h.get n with
    | some (.lst _ _) => some 4
    | some (.dct _ _) => some 6
    | some (.ins c _) => some (7 + c)
    | none => none
  | .kls _ => none
def isiR (t c : Nat) : Bool := Nat.beq t c || (Nat.beq t 1 && Nat.beq c 2)
def vIsi (cs : List Nat) (d : D) (h : LH) : Res D := match tyCode d h with
  | some t => .ok (.bl (cs.any (isiR t))) h
  | none => .stuck
section
variable (T : Tb)
def tyVal (c : Nat) : Option Value := match tyNames[c]? with
  | some n => some (.type n)
  | none => (T.cn[c - 7]?).map fun x => .ref (He.ga T.K x)
end
theorem kitB_all : ∀ t ∈ List.range 7, ∀ c ∈ List.range 7, kitB (tyNames.getD t "") (tyNames.getD c "") = some (isiR t c) := by decide +kernel
theorem nm_lt {c : Nat} {n : String} (e : tyNames[c]? = some n) : c < 7 ∧ tyNames.getD c "" = n ∧ n ∈ tyNames := by
  have h := (List.getElem?_eq_some_iff.mp e).1
  refine ⟨h, ?_, List.mem_of_getElem? e⟩
  rw [List.getD_eq_getElem?_getD, e]
  rfl
section
variable {T : Tb} {E : XK} {X : Cx} {ρ : List Addr} {H : Hp} {lh : LH} {σ : L2.St} {Q : VK} {pins : List (Addr × Obj)} {s : Shared}
theorem tyVal_own {c : Nat} {x : Str} (h : T.cn[c]? = some x) : tyVal T (7 + c) = some (.ref (He.ga T.K x)) := by
  unfold tyVal
  have e : tyNames[7 + c]? = none := List.getElem?_eq_none (by show 7 ≤ 7 + c; omega)
  rw [e]
  show (T.cn[7 + c - 7]?).map _ = _
  rw [Nat.add_sub_cancel_left, h]
  rfl
theorem kit_one (ok : T.Ok) {t c : Nat} {tv cv : Value} (ht : tyVal T t = some tv) (hc : tyVal T c = some cv) : PySem.W.kitOne T.K tv cv = some (isiR t c) := by
  unfold tyVal at ht hc
  cases e1 : tyNames[t]? with
  | some n =>
    rw [e1] at ht
    cases ht
    obtain ⟨t7, en, mn⟩ := nm_lt e1
    cases e2 : tyNames[c]? with
    | some m =>
      rw [e2] at hc
      cases hc
      obtain ⟨c7, em, mm⟩ := nm_lt e2
      have := kitB_all t (List.mem_range.mpr t7) c (List.mem_range.mpr c7)
      rw [en, em] at this
      exact kit_ty this
    | none =>
      rw [e2] at hc
      obtain ⟨x, e3, e4⟩ := map_some hc
      subst e4
      have c7 : 7 ≤ c := by
        by_cases h : c < 7
        · rw [List.getElem?_eq_getElem (by exact h)] at e2; cases e2
        · omega
      have hf : isiR t c = false := by
        unfold isiR
        have h1 : Nat.beq t c = false := by
          cases b : Nat.beq t c with
          | false => rfl
          | true => have := Nat.eq_of_beq_eq_true b; omega
        have h2 : Nat.beq c 2 = false := by
          cases b : Nat.beq c 2 with
          | false => rfl
          | true => have := Nat.eq_of_beq_eq_true b; omega
        rw [h1, h2, Bool.and_false]; rfl
      rw [hf]
      exact ok.isT n mn x (List.mem_of_getElem? e3)
  | none =>
    rw [e1] at ht
    obtain ⟨x, e3, e4⟩ := map_some ht
    subst e4
    have t7 : 7 ≤ t := by
      by_cases h : t < 7
      · rw [List.getElem?_eq_getElem (by exact h)] at e1; cases e1
      · omega
    have h1 : Nat.beq t 1 = false := by
      cases b : Nat.beq t 1 with
      | false => rfl
      | true => have := Nat.eq_of_beq_eq_true b; omega
    cases e2 : tyNames[c]? with
    | some m =>
      rw [e2] at hc
      cases hc
      obtain ⟨c7, em, mm⟩ := nm_lt e2
      have h2 : Nat.beq t c = false := by
        cases b : Nat.beq t c with
        | false => rfl
        | true => have := Nat.eq_of_beq_eq_true b; omega
      rw [show isiR t c = false by unfold isiR; rw [h1, h2]; rfl]
      exact ok.isB x (List.mem_of_getElem? e3) m mm
    | none =>
      rw [e2] at hc
      obtain ⟨y, e5, e6⟩ := map_some hc
      subst e6
      have c7 : 7 ≤ c := by
        by_cases h : c < 7
        · rw [List.getElem?_eq_getElem (by exact h)] at e2; cases e2
        · omega
      rw [ok.isO x (List.mem_of_getElem? e3) y (List.mem_of_getElem? e5)]
      unfold isiR
      rw [h1, Bool.false_and, Bool.or_false]
      congr 1
      by_cases h : x = y
      · subst h
        have := nodup_ix ok.cnd e3 e5
        have : t = c := by omega
        subst this
        rw [decide_eq_true rfl, Nat.beq_refl]
      · rw [decide_eq_false h]
        cases b : Nat.beq t c with
        | false => rfl
        | true =>
          have := Nat.eq_of_beq_eq_true b
          subst this
          rw [e3] at e5
          exact absurd (Option.some.inj e5) h
theorem kit_any (ok : T.Ok) {t : Nat} {tv : Value} (ht : tyVal T t = some tv) : ∀ {cs : List Nat} {us : List Value}, Paired (fun c u => tyVal T c = some u) cs us → PySem.W.kitAny T.K tv us = some (cs.any (isiR t))
  | _, _, .nil => kitAny_nil
  | c :: cs, _, .cons h p => by
    rw [List.any_cons]
    refine kitAny_cons (kit_one ok ht h) (fun e => ?_) fun e => ?_
    · rw [e, Bool.false_or]; exact kit_any ok ht p
    · rw [e]; rfl
theorem kit_d (ok : T.Ok) (hK : X.K = T.K) (I : Inv X pins σ H s) (hr : HR T ρ H lh) {d : D} {v : V} {u : Value} {t : Nat} (rd : RelD T ρ H d v) (ru : RelV v u) (e : tyCode d lh = some t) :
    ∃ tv P, tyVal T t = some tv ∧ PySem.W.KitX X.K u tv P ∧ P s.heap ∧ u ≠ .builtin "__main__.__loader__#opaque" := by
  cases d with
  | non =>
    cases e
    rw [show v = _ from rd] at ru
    obtain ⟨P, h1, h2, h3⟩ := kit_of I ru (.base .non)
    exact ⟨_, P, rfl, h1, h2, h3⟩
  | bl b =>
    cases e
    rw [show v = _ from rd] at ru
    obtain ⟨P, h1, h2, h3⟩ := kit_of I ru (.base (.bl b))
    exact ⟨_, P, rfl, h1, h2, h3⟩
  | int i =>
    cases e
    rw [show v = _ from rd] at ru
    obtain ⟨P, h1, h2, h3⟩ := kit_of I ru (.base (.int i))
    exact ⟨_, P, rfl, h1, h2, h3⟩
  | str x =>
    cases e
    rw [show v = _ from rd] at ru
    obtain ⟨P, h1, h2, h3⟩ := kit_of I ru (.base (.str x))
    exact ⟨_, P, rfl, h1, h2, h3⟩
  | tup ds =>
    cases e
    obtain ⟨a, vs, ev, sq, _⟩ := rd
    subst ev
    rw [← hK] at sq
    have ty : TyX X.K H (.ref a) (.type "tuple") := by
      rcases sq with (h | ⟨o, h⟩) | ⟨o, its, n, hk, hc, _⟩
      · exact .base (.tup h)
      · exact .fTuple h
      · exact .kTuple hk hc
    obtain ⟨P, h1, h2, h3⟩ := kit_of I ru ty
    exact ⟨_, P, rfl, h1, h2, h3⟩
  | obj n =>
    have e : (match lh.get n with
      | some (.lst _ _) => some 4
      | some (.dct _ _) => some 6
      | some (.ins c _) => some (7 + c)
      | none => none) = some t := e
    split at e
    · rename_i lk xs q
      cases e
      obtain ⟨a, ev, _, vs, _, ho⟩ := obj_of hr rd q
      subst ev
      have ty : TyX X.K H (.ref a) (.type "list") := by
        cases lk with
        | true => obtain ⟨o, ho⟩ := ho; exact .base (.frz ho)
        | false => exact .base (.lst ho)
      obtain ⟨P, h1, h2, h3⟩ := kit_of I ru ty
      exact ⟨_, P, rfl, h1, h2, h3⟩
    · rename_i kd kvs q
      cases e
      obtain ⟨a, ev, _, hsm, _, _, es, ep, _, hH⟩ := obj_of hr rd q
      subst ev
      cases ru
      obtain ⟨o, ho, hx, _⟩ := Inv.rawD I hH
      exact ⟨_, _, rfl, PySem.W.kitx_dict, ⟨o, ho, hx.1⟩, fun z => nomatch z⟩
    · rename_i c fs q
      cases e
      obtain ⟨a, ev, _, x, dx, vfs, hc, hH, _⟩ := obj_of hr rd q
      subst ev
      have F := ok.cls x (List.mem_of_getElem? hc)
      rw [← hK] at F
      rw [← hK] at hH
      obtain ⟨P, h1, h2, h3⟩ := kit_of I ru (.base (.ins hH F.cls F.ha F.hn F.htk F.hm))
      exact ⟨_, P, tyVal_own hc, by rw [← hK]; exact h1, h2, h3⟩
    · cases e
  | kls x => cases e
/-- a class as an argument -/
def ClV (T : Tb) (c : Nat) (v : V) : Prop := ∃ u, tyVal T c = some u ∧ RelV v u ∧ ∀ w, RelV v w → w = u
theorem cr_isi1 (ok : T.Ok) (hK : X.K = T.K) {c : Nat} {cv : V} (hc : ClV T c cv) : CallR X (.builtin "isinstance") (fun xs H Q => ∃ v, xs = [v, cv] ∧ rdUn T E (vIsi [c]) v H Q) := by
  intro pins s σ H xs us Q I r h
  obtain ⟨v, rfl, ρ, lh, d, hr, rd, post⟩ := h
  obtain ⟨u1, u2, rfl, r1, r2⟩ := vals2 r
  obtain ⟨cu, h1, h2, h3⟩ := hc
  rw [h3 u2 r2]
  unfold vIsi at post
  cases e : tyCode d lh with
  | none => rw [e] at post; exact post.elim
  | some t =>
    rw [e] at post
    obtain ⟨tv, P, g1, g2, g3, g4⟩ := kit_d ok hK I hr rd r1 e
    have k := kit_one ok g1 h1
    rw [← hK] at k
    have q : Q (.bl (isiR t c)) H := by
      have := PostE.ok post Le.refl hr rfl
      simpa using this
    exact PySem.W.kia_one g2 I.kIn g3 k g4 fun tk => ⟨.bl _, H, I.tok tk, rfl, q⟩
theorem cr_isi2 (ok : T.Ok) (hK : X.K = T.K) {c c' : Nat} {cv cv' : V} (hc : ClV T c cv) (hc' : ClV T c' cv') : CallR X (.builtin "isinstance") (fun xs H Q => ∃ v p, xs = [v, .ref p] ∧ H p = some (.tup [cv, cv']) ∧ rdUn T E (vIsi [c, c']) v H Q) := by
  intro pins s σ H xs us Q I r h
  obtain ⟨v, p, rfl, hp, ρ, lh, d, hr, rd, post⟩ := h
  obtain ⟨u1, u2, rfl, r1, r2⟩ := vals2 r
  cases r2
  obtain ⟨cu, h1, h2, h3⟩ := hc
  obtain ⟨cu', h1', h2', h3'⟩ := hc'
  unfold vIsi at post
  cases e : tyCode d lh with
  | none => rw [e] at post; exact post.elim
  | some t =>
    rw [e] at post
    obtain ⟨tv, P, g1, g2, g3, g4⟩ := kit_d ok hK I hr rd r1 e
    obtain ⟨_, its, rv, o, o1, o2, n, o3⟩ := (show ObjOk X.prog X.w H s.heap p (.tup [cv, cv']) from I.hok p _ hp)
    cases rv with
    | cons ra rb =>
      cases rb with
      | cons rb rc =>
        cases rc
        rename_i w1 w2
        rw [h3 w1 ra, h3' w2 rb] at o3
        have k := kit_any ok g1 (cs := [c, c']) (us := [cu, cu']) (.cons h1 (.cons h1' .nil))
        rw [← hK] at k
        obtain ⟨oc, od, dt, sl⟩ := o
        simp only at o2 o3
        subst o2 o3
        exact PySem.W.kia_tup g2 I.kIn g3 o1 k g4 fun tk => ⟨.bl _, H, I.tok tk, rfl, PostE.ok post Le.refl hr rfl⟩
end

/-! ### calls of the program's own -/
abbrev Fn := List D → LH → Res D
def spOf (T : Tb) (n : Nat) (g : Fn) : Sp := fun vs H Q E => vs.length = n ∧ ∃ ρ lh ds, HR T ρ H lh ∧ RelDs T ρ H ds vs ∧ PostE T E ρ lh H (g ds lh) Q
def mCall (n : Nat) (g : Fn) (ms : MA) : ME := fun sl h => (ms sl h).bind fun ds h1 => bif Nat.beq ds.length n then g ds h1 else .stuck
def mMake (c n : Nat) (g : Fn) (ms : MA) : ME := fun sl h => (ms sl h).bind fun ds h1 => bif Nat.beq (ds.length + 1) n then (g (.obj h1.nx :: ds) (h1.new (.ins c []))).bind fun r h2 => match r with
  | .non => .ok (.obj h1.nx) h2
  | _ => .stuck else .stuck
section
variable {T : Tb} {E : XK} {X : Cx} {ρ : List Addr} {H : Hp} {lh : LH} {σ : L2.St} {Q : VK}
theorem rd_call {n : Nat} {g : Fn} {ms : MA} (h : rdE T E (mCall n g ms) σ H Q) : tCall (spOf T n g) [] E (rdA T E ms) σ H Q := by
  obtain ⟨ρ, sl, lh, sr, post⟩ := h
  refine ⟨ρ, sl, lh, sr, (PostG.bind post).mono fun ds h1 ρ1 H1 le1 hr1 p1 vs rv => ?_⟩
  obtain ⟨hb, p1⟩ := cond_stuck p1
  rw [List.append_nil]
  exact ⟨by rw [← rv.length]; exact Nat.eq_of_beq_eq_true hb, ρ1, h1, ds, hr1, rv, p1⟩
/-- a new instance -/
theorem new_ins {c : Nat} {x : Str} {p dx : Addr} (hr : HR T ρ H lh) (hc : T.cn[c]? = some x) (hp : H p = none) (hd : H dx = none) (ne : dx ≠ p) :
    Le ρ lh H (ρ ++ [p]) (lh.new (.ins c [])) (upd (upd H dx (.own p)) p (.ins (He.ga T.K x) dx [])) ∧ HR T (ρ ++ [p]) (upd (upd H dx (.own p)) p (.ins (He.ga T.K x) dx [])) (lh.new (.ins c [])) := by
  have same : ∀ b, H b ≠ none → upd (upd H dx (.own p)) p (.ins (He.ga T.K x) dx []) b = H b := fun b hb => by
    rw [upd_ne (fun z => hb (by rw [z]; exact hp)), upd_ne (fun z => hb (by rw [z]; exact hd))]
  exact ⟨Le.newObj hr hp same, hr.newObj hp same (by rw [upd_same]; simp) ⟨x, dx, [], hc, upd_same, rfl⟩⟩
theorem newest {p : Addr} (hr : HR T ρ H lh) : (ρ ++ [p])[lh.nx]? = some p := by
  rw [← hr.len, List.getElem?_append_right (Nat.le_refl _)]
  simp
theorem make_go {c : Nat} {x : Str} {g : Fn} {ds : List D} {vs : List V} {n : Nat} {p dx : Addr} {k : Nat} (hc : T.cn[c]? = some x) (hr : HR T ρ H lh) (rv : RelDs T ρ H ds vs) (hn : ds.length + 1 = n)
    (post : PostE T E ρ lh H ((g (.obj lh.nx :: ds) (lh.new (.ins c []))).bind fun r h2 => match r with
      | .non => .ok (.obj lh.nx) h2
      | _ => .stuck) Q) (hp : H p = none) (hd : H dx = none) (ne : dx ≠ p) :
    spOf T n g (.ref p :: vs) (upd (upd H dx (.own p)) p (.ins (He.ga T.K x) dx [])) (fun v H2 => v = .non ∧ Q (.ref p) H2) E := by
  obtain ⟨le, hr2⟩ := new_ins hr hc hp hd ne
  have hnx := newest (p := p) hr
  refine ⟨by rw [List.length_cons, ← rv.length]; exact hn, ρ ++ [p], _, .obj lh.nx :: ds, hr2, ⟨.ref p, vs, rfl, ⟨p, hnx, rfl⟩, rv.mono le.toLe0⟩, ?_⟩
  refine (PostG.bind (PostG.later post le)).mono fun r h2 ρ2 H2 le2 hr3 p2 v rr => ?_
  cases r with
  | non => exact ⟨rr, PostE.ok p2 Le.refl hr3 ⟨p, le2.toLe0.get hnx, rfl⟩⟩
  | _ => exact p2.elim
theorem rd_make {c n : Nat} {x : Str} {g : Fn} {ms : MA} (hc : T.cn[c]? = some x) (h : rdE T E (mMake c n g ms) σ H Q) : tMake (He.ga T.K x) (spOf T n g) [] E (rdA T E ms) σ H Q := by
  obtain ⟨ρ, sl, lh, sr, post⟩ := h
  refine ⟨ρ, sl, lh, sr, (PostG.bind post).mono fun ds h1 ρ1 H1 le1 hr1 p1 vs rv => ?_⟩
  obtain ⟨hb, p1⟩ := cond_stuck p1
  intro p dx hp hd ne
  rw [List.append_nil]
  exact make_go (k := 0) hc hr1 rv (Nat.eq_of_beq_eq_true hb) p1 hp hd ne
/-- keywords: f puts the positional arguments and the keywords' in the parameters' order -/
def mMakeK (c n m l : Nat) (f : List D → List D → List D) (g : Fn) (ms mk : MA) : ME := fun sl h => (ms sl h).bind fun ds h1 => (mk sl h1).bind fun zs h2 => bif Nat.beq ds.length m && Nat.beq zs.length l && Nat.beq (f ds zs).length n then (g (.obj h2.nx :: f ds zs) (h2.new (.ins c []))).bind fun r h3 => match r with
  | .non => .ok (.obj h2.nx) h3
  | _ => .stuck else .stuck
theorem rd_makeK {c n m l : Nat} {x : Str} {f : List D → List D → List D} {gV : List V → List V → List V} {g : Fn} {ms mk : MA} (hc : T.cn[c]? = some x)
    (hf : ∀ ρ H ds vs zs us (p : V), RelDs T ρ H ds vs → RelDs T ρ H zs us → ∃ ws, gV (p :: vs) us = p :: ws ∧ RelDs T ρ H (f ds zs) ws)
    (h : rdE T E (mMakeK c n m l f g ms mk) σ H Q) : tMakeK (He.ga T.K x) m l (spOf T (n + 1) g) gV E (rdA T E ms) (rdA T E mk) σ H Q := by
  obtain ⟨ρ, sl, lh, sr, post⟩ := h
  refine ⟨ρ, sl, lh, sr, (PostG.bind post).mono fun ds h1 ρ1 H1 le1 hr1 p1 vs rv => ?_⟩
  refine ⟨ρ1, sl, h1, sr.mono le1 hr1, (PostG.bind p1).mono fun zs h2 ρ2 H2 le2 hr2 p2 us ru => ?_⟩
  obtain ⟨hb, p2⟩ := cond_stuck p2
  obtain ⟨hb, b3⟩ := band hb
  obtain ⟨b1, b2⟩ := band hb
  refine ⟨by rw [← rv.length]; exact Nat.eq_of_beq_eq_true b1, by rw [← ru.length]; exact Nat.eq_of_beq_eq_true b2, fun p dx hp hd ne => ?_⟩
  obtain ⟨ws, e1, rw⟩ := hf ρ2 H2 ds vs zs us (.ref p) (rv.mono le2.toLe0) ru
  rw [e1]
  exact make_go (k := 0) hc hr2 rw (by rw [Nat.eq_of_beq_eq_true b3]) p2 hp hd ne
end

/-! ### o.m(..), by the class of o -/
section
variable {X : Cx} {CX : CXT} {E : XK} {m : Str} {pos apos : Pos} {e o : Expr} {es : List Expr} {ta : TE} {t : TA}
def tMethD (X : Cx) (CX : CXT) (m : Str) (E : XK) (ta : TE) (t : TA) : TE := fun σ H Q => ta σ H fun x H1 => ∃ a C dx fs f fd ps sp k, x = .ref a ∧ H1 a = some (.ins C dx fs) ∧ fs.lookup m = none ∧ Cls X.K C ∧ Meth X.K C m f ∧
  FnOk X.prog X.w X.K X.mg X.base CX k f fd ps sp ∧ Room k X.A ∧ Binds X.K fd ps [] ∧ t σ H1 fun vs H2 => sp (x :: vs) H2 Q E
theorem pe_methD {pl : Sem Bool} (he : PE X o ta) (hx : Passes CX X E) (ha : PA X (e :: es) t)
    (hst : starEach (e :: es) X.env = (false, eval e X.env) :: starEach es X.env := by rfl) (hpl : (backTo pos (starEach es X.env)).any (·.1) = false := by rfl)
    (ht : eval (.Call (.Attribute o m apos) (e :: es) [] pos) X.env = (do
      let ov ← eval o X.env
      standAt apos.atName
      let (f, first) ← holding [ov] (getMethod ov m pl)
      callWith pos f first (backTo pos (starEach (e :: es) X.env)) (backToKw pos (keywordEach [] X.env))) := by rfl) :
    PE X (.Call (.Attribute o m apos) (e :: es) [] pos) (tMethD X CX m E ta t) := by
  refine ⟨fun pins s σ H Q I h => ?_⟩
  refine PySem.W.methodCall_KW (pl := pl) (thn (he.run pins s σ H _ I h) fun u s1 ⟨x, H1, I1, rx, a, C, dx, fs, f, fd, ps, sp, k, ex, ea, l, c, hm, F, hr, hb, q⟩ => ?_) ht
  subst ex
  obtain rfl : u = Value.ref a := rx
  refine getmeth_ok I1 ea c hm l ?_
  refine PySem.W.callWith_K (first := [.ref a]) (h₀ := X.base) I.ok.mod.kin hm.kp (thn (ha.run pos pins s1 σ H1 _ I1 q) fun us s2 ⟨vs, H2, I2, r, q2⟩ => ⟨I2.kIn, ?_⟩) hst hpl
  exact run_fn (us := .ref a :: us) (vs := .ref a :: vs) (dvs := []) F hr hb .nil hx I2 (.cons rfl r) (by rw [List.append_nil]; exact q2)
theorem pe_methD0 {pl : Sem Bool} (he : PE X o ta) (hx : Passes CX X E)
    (ht : eval (.Call (.Attribute o m apos) [] [] pos) X.env = (do
      let ov ← eval o X.env
      standAt apos.atName
      let (f, first) ← holding [ov] (getMethod ov m pl)
      callWith pos f first (backTo pos (starEach [] X.env)) (backToKw pos (keywordEach [] X.env))) := by rfl) :
    PE X (.Call (.Attribute o m apos) [] [] pos) (tMethD X CX m E ta tNil) := by
  refine ⟨fun pins s σ H Q I h => ?_⟩
  refine PySem.W.methodCall_KW (pl := pl) (thn (he.run pins s σ H _ I h) fun u s1 ⟨x, H1, I1, rx, a, C, dx, fs, f, fd, ps, sp, k, ex, ea, l, c, hm, F, hr, hb, q⟩ => ?_) ht
  subst ex
  obtain rfl : u = Value.ref a := rx
  refine getmeth_ok I1 ea c hm l ?_
  exact PySem.W.callWith_K0 (first := [.ref a]) I1.kIn hm.kp (run_fn (us := [.ref a]) (vs := [.ref a]) (dvs := []) F hr hb .nil hx I1 (.cons rfl .nil) q)
end
/-- the def for a class: its number of parameters, the def -/
abbrev MTab := List (Nat × Nat × Fn)
def mtLook : MTab → Nat → Option (Nat × Fn)
  | [], _ => none
  | x :: r, c => bif Nat.beq x.1 c then some x.2 else mtLook r c
def clsAt (d : D) (h : LH) : Option Nat := match d with
  | .obj n => match h.get n with
    | some (.ins c _) => some c
    | _ => none
  | _ => none
def mMeth (mt : MTab) (mo : ME) (ms : MA) : ME := fun sl h => (mo sl h).bind fun o h1 => match clsAt o h1 with
  | some c => match mtLook mt c with
    | some (n, g) => (ms sl h1).bind fun ds h2 => bif Nat.beq (ds.length + 1) n then g (o :: ds) h2 else .stuck
    | none => .stuck
  | none => .stuck
section
variable {T : Tb} {E : XK} {X : Cx} {ρ : List Addr} {H : Hp} {lh : LH} {σ : L2.St} {Q : VK} {CX : CXT}
/-- the method table's facts -/
def MtOk (T : Tb) (X : Cx) (CX : CXT) (m : Str) (mt : MTab) : Prop := ∀ c n g x, mtLook mt c = some (n, g) → T.cn[c]? = some x → ∃ f fd ps k, Meth X.K (He.ga T.K x) m f ∧ FnOk X.prog X.w X.K X.mg X.base CX k f fd ps (spOf T n g) ∧ Room k X.A ∧ Binds X.K fd ps []
theorem FsR.nolook {m : Str} (hm : m ∉ T.fn) : ∀ {fs : List (Nat × D)} {vs : List (Str × V)}, FsR T ρ H fs vs → vs.lookup m = none
  | [], vs, h => by rw [show vs = [] from h]; rfl
  | _ :: _, _, ⟨x, v, r', ev, h1, h2, h3⟩ => by
    subst ev
    have ne : m ≠ x := fun q => hm (by rw [q]; exact List.mem_of_getElem? h1)
    rw [List.lookup_cons, beq_eq_false_iff_ne.mpr ne]
    exact FsR.nolook hm h3
theorem rd_meth (ok : T.Ok) (hK : X.K = T.K) {m : Str} {mt : MTab} {mo : ME} {ms : MA} (hm : m ∉ T.fn) (M : MtOk T X CX m mt) (h : rdE T E (mMeth mt mo ms) σ H Q) : tMethD X CX m E (rdE T E mo) (rdA T E ms) σ H Q := by
  obtain ⟨ρ, sl, lh, sr, post⟩ := h
  refine ⟨ρ, sl, lh, sr, (PostG.bind post).mono fun o h1 ρ1 H1 le1 hr1 p1 v rv => ?_⟩
  cases e1 : clsAt o h1 with
  | none => rw [e1] at p1; exact p1.elim
  | some c =>
    rw [e1] at p1
    simp only at p1
    cases e2 : mtLook mt c with
    | none => rw [e2] at p1; exact p1.elim
    | some ng =>
      obtain ⟨n, g⟩ := ng
      rw [e2] at p1
      simp only at p1
      obtain ⟨k0, fs, eo, eg⟩ : ∃ k0 fs, o = .obj k0 ∧ h1.get k0 = some (.ins c fs) := by
        unfold clsAt at e1
        cases o with
        | obj k0 =>
          simp only at e1
          cases q : h1.get k0 with
          | none => rw [q] at e1; cases e1
          | some z =>
            rw [q] at e1
            cases z with
            | ins c' fs => cases e1; exact ⟨k0, fs, rfl, q⟩
            | lst _ _ => cases e1
            | dct _ _ => cases e1
        | _ => cases e1
      subst eo
      obtain ⟨a, ev, _, x, dx, vfs, hc, hH, fr⟩ := obj_of hr1 rv eg
      obtain ⟨f, fd, ps, k, M1, M2, M3, M4⟩ := M c n g x e2 hc
      refine ⟨a, _, dx, vfs, f, fd, ps, _, k, ev, hH, fr.nolook hm, by rw [hK]; exact (ok.cls x (List.mem_of_getElem? hc)).cls, M1, M2, M3, M4, ?_⟩
      refine ⟨ρ1, sl, h1, sr.mono le1 hr1, (PostG.bind p1).mono fun ds h2 ρ2 H2 le2 hr2 p2 vs rvs => ?_⟩
      obtain ⟨hb, p2⟩ := cond_stuck p2
      exact ⟨by rw [List.length_cons, ← rvs.length]; exact Nat.eq_of_beq_eq_true hb, ρ2, h2, .obj k0 :: ds, hr2, ⟨v, vs, rfl, rv.mono le2.toLe0, rvs⟩, p2⟩
/-- a built-in method of a list -/
def mBm (f : D → List D → LH → Res D) (mo : ME) (ms : MA) : ME := fun sl h => (mo sl h).bind fun o h1 => match lstAt o h1 with
  | some _ => (ms sl h1).bind fun ds h2 => f o ds h2
  | none => .stuck
theorem rd_bm (hK : X.K = T.K) {f : D → List D → LH → Res D} {mo : ME} {ms : MA} (h : rdE T E (mBm f mo ms) σ H Q) : tBM X.K "list" (rdMt T E f) (rdE T E mo) (rdA T E ms) σ H Q := by
  obtain ⟨ρ, sl, lh, sr, post⟩ := h
  refine ⟨ρ, sl, lh, sr, (PostG.bind post).mono fun o h1 ρ1 H1 le1 hr1 p1 v rv => ?_⟩
  cases e1 : lstAt o h1 with
  | none => rw [e1] at p1; exact p1.elim
  | some xs =>
    rw [e1] at p1
    simp only at p1
    obtain ⟨p, vs, ev, rvs, sq⟩ := lst_ok hr1 rv e1
    subst ev
    rw [← hK] at sq
    refine ⟨.inl ⟨rfl, vs, sq⟩, ρ1, sl, h1, sr.mono le1 hr1, (PostG.bind p1).mono fun ds h2 ρ2 H2 le2 hr2 p2 us rus => ?_⟩
    exact ⟨ρ2, h2, o, ds, hr2, rv.mono le2.toLe0, rus, p2⟩
theorem rd_bm0 (hK : X.K = T.K) {f : D → List D → LH → Res D} {mo : ME} (h : rdE T E (mBm f mo aNil) σ H Q) : tBM0 X.K "list" (rdMt T E f) (rdE T E mo) σ H Q := by
  obtain ⟨ρ, sl, lh, sr, post⟩ := h
  refine ⟨ρ, sl, lh, sr, (PostG.bind post).mono fun o h1 ρ1 H1 le1 hr1 p1 v rv => ?_⟩
  cases e1 : lstAt o h1 with
  | none => rw [e1] at p1; exact p1.elim
  | some xs =>
    rw [e1] at p1
    obtain ⟨p, vs, ev, rvs, sq⟩ := lst_ok hr1 rv e1
    subst ev
    rw [← hK] at sq
    exact ⟨.inl ⟨rfl, vs, sq⟩, ρ1, h1, o, [], hr1, rv, rfl, p1⟩
/-- a built-in function -/
def mFn (f : Fn) (ms : MA) : ME := fun sl h => (ms sl h).bind fun ds h1 => f ds h1
theorem rd_fn {f : Fn} {ms : MA} (h : rdE T E (mFn f ms) σ H Q) : tCB (rdFn T E f) (rdA T E ms) σ H Q := by
  obtain ⟨ρ, sl, lh, sr, post⟩ := h
  exact ⟨ρ, sl, lh, sr, (PostG.bind post).mono fun ds h1 ρ1 H1 le1 hr1 p1 vs rv => ⟨ρ1, h1, ds, hr1, rv, p1⟩⟩
end
end TL

namespace TL
open PySem PySem.Spec PyProof.Rows L2

/-! ### statements -/
section
variable (T : Tb) (E : XK)
def PostS (ρ : List Addr) (l0 : LH) (H : Hp) (r : SRes) (Dd : Ends) : Prop := match r with
  | .nx sl lh => ∀ ρ' H' σ', Le ρ l0 H ρ' lh H' → SR T ρ' H' sl lh σ' → Dd.nx σ' H'
  | .bk sl lh => ∀ ρ' H' σ', Le ρ l0 H ρ' lh H' → SR T ρ' H' sl lh σ' → Dd.bk σ' H'
  | .ct sl lh => ∀ ρ' H' σ', Le ρ l0 H ρ' lh H' → SR T ρ' H' sl lh σ' → Dd.ct σ' H'
  | .rt d lh => ∀ ρ' H' v, Le ρ l0 H ρ' lh H' → HR T ρ' H' lh → RelD T ρ' H' d v → Dd.rt v H'
  | .err c p lh => ∀ ρ' H' cls dd, Le ρ l0 H ρ' lh H' → HR T ρ' H' lh → ExR T ρ' H' c p cls dd → E cls dd H'
  | .stuck => False
def rdS (m : MS) : TS := fun Dd σ H => ∃ ρ sl lh, SR T ρ H sl lh σ ∧ PostS T E ρ lh H (m sl lh) Dd
end
def Res.toS {α : Type} (r : Res α) (f : α → LH → SRes) : SRes := match r with
  | .ok a h => f a h
  | .err c p h => .err c p h
  | .stuck => .stuck
section
variable {T : Tb} {E : XK} {ρ ρ' : List Addr} {l0 l1 : LH} {H H' : Hp} {α : Type} {Dd : Ends}
theorem PostS.later {r : SRes} (h : PostS T E ρ l0 H r Dd) (le : Le ρ l0 H ρ' l1 H') : PostS T E ρ' l1 H' r Dd := by
  cases r with
  | nx sl lh => exact fun ρ2 H2 σ2 le2 s => h ρ2 H2 σ2 (le.trans le2) s
  | bk sl lh => exact fun ρ2 H2 σ2 le2 s => h ρ2 H2 σ2 (le.trans le2) s
  | ct sl lh => exact fun ρ2 H2 σ2 le2 s => h ρ2 H2 σ2 (le.trans le2) s
  | rt d lh => exact fun ρ2 H2 v le2 s r => h ρ2 H2 v (le.trans le2) s r
  | err c p lh => exact fun ρ2 H2 cls dd le2 s r => h ρ2 H2 cls dd (le.trans le2) s r
  | stuck => exact h
theorem PostS.bind {r : Res α} {k : α → LH → SRes} (h : PostS T E ρ l0 H (r.toS k) Dd) : PostG T E ρ l0 H r fun a lh ρ' H' => PostS T E ρ' lh H' (k a lh) Dd := by
  cases r with
  | ok a lh => exact fun ρ' H' le hr => PostS.later (r := k a lh) h le
  | err c p lh => exact h
  | stuck => exact h
end
def sSkip : MS := fun sl h => .nx sl h
def sSeq (a b : MS) : MS := fun sl h => match a sl h with
  | .nx sl1 h1 => b sl1 h1
  | r => r
def sExpr (m : ME) : MS := fun sl h => (m sl h).toS fun _ h1 => .nx sl h1
def sRet (m : ME) : MS := fun sl h => (m sl h).toS fun d h1 => .rt d h1
def sRetN : MS := fun _ h => .rt .non h
def sIf (t : MT) (a b : MS) : MS := fun sl h => (t sl h).toS fun k h1 => match k with
  | true => a sl h1
  | false => b sl h1
def sCont : MS := fun sl h => .ct sl h
def sBreak : MS := fun sl h => .bk sl h
def sWhile (t : MT) (b : MS) : Nat → MS
  | 0 => fun _ _ => .stuck
  | n + 1 => fun sl h => (t sl h).toS fun k h1 => match k with
    | true => match b sl h1 with
      | .nx sl2 h2 => sWhile t b n sl2 h2
      | .ct sl2 h2 => sWhile t b n sl2 h2
      | .bk sl2 h2 => .nx sl2 h2
      | r => r
    | false => .nx sl h1
section
variable {T : Tb} {E : XK} {X : Cx} {σ : L2.St} {H : Hp} {Dd : Ends}
theorem rd_skip (h : rdS T E sSkip Dd σ H) : tNext Dd σ H := by
  obtain ⟨ρ, sl, lh, sr, post⟩ := h
  exact post ρ H σ Le.refl sr
theorem rd_seq {a b : MS} (h : rdS T E (sSeq a b) Dd σ H) : tSeq (rdS T E a) (rdS T E b) Dd σ H := by
  obtain ⟨ρ, sl, lh, sr, post⟩ := h
  refine ⟨ρ, sl, lh, sr, ?_⟩
  unfold sSeq at post
  cases e : a sl lh with
  | nx sl1 h1 =>
    rw [e] at post
    exact fun ρ1 H1 σ1 le1 sr1 => ⟨ρ1, sl1, h1, sr1, PostS.later post le1⟩
  | bk sl1 h1 => rw [e] at post; exact post
  | ct sl1 h1 => rw [e] at post; exact post
  | rt d h1 => rw [e] at post; exact post
  | err c p h1 => rw [e] at post; exact post
  | stuck => rw [e] at post; exact post
theorem rd_expr {m : ME} (h : rdS T E (sExpr m) Dd σ H) : tDrop (rdE T E m) Dd σ H := by
  obtain ⟨ρ, sl, lh, sr, post⟩ := h
  exact ⟨ρ, sl, lh, sr, (PostS.bind post).mono fun d h1 ρ1 H1 le1 hr1 p1 v rv => p1 ρ1 H1 σ Le.refl (sr.mono le1 hr1)⟩
theorem rd_ret {m : ME} (h : rdS T E (sRet m) Dd σ H) : tRet (rdE T E m) Dd σ H := by
  obtain ⟨ρ, sl, lh, sr, post⟩ := h
  exact ⟨ρ, sl, lh, sr, (PostS.bind post).mono fun d h1 ρ1 H1 le1 hr1 p1 v rv => p1 ρ1 H1 v Le.refl hr1 rv⟩
theorem rd_retN (h : rdS T E sRetN Dd σ H) : tRetN Dd σ H := by
  obtain ⟨ρ, sl, lh, sr, post⟩ := h
  exact post ρ H .non Le.refl sr.hr rfl
theorem rd_ifS {t : MT} {a b : MS} (h : rdS T E (sIf t a b) Dd σ H) : tIfS (rdT T E t) (rdS T E a) (rdS T E b) Dd σ H := by
  obtain ⟨ρ, sl, lh, sr, post⟩ := h
  refine ⟨ρ, sl, lh, sr, (PostS.bind post).mono fun k h1 ρ1 H1 le1 hr1 p1 => ?_⟩
  cases k with
  | true => exact ⟨ρ1, sl, h1, sr.mono le1 hr1, p1⟩
  | false => exact ⟨ρ1, sl, h1, sr.mono le1 hr1, p1⟩
theorem rd_cont (h : rdS T E sCont Dd σ H) : tCont Dd σ H := by
  obtain ⟨ρ, sl, lh, sr, post⟩ := h
  exact post ρ H σ Le.refl sr
theorem rd_break (h : rdS T E sBreak Dd σ H) : tBreak Dd σ H := by
  obtain ⟨ρ, sl, lh, sr, post⟩ := h
  exact post ρ H σ Le.refl sr
theorem rd_while {t : MT} {b : MS} {n : Nat} (h : rdS T E (sWhile t b n) Dd σ H) : tWhile (rdT T E t) (rdS T E b) Dd σ H := by
  refine ⟨fun m σ H => rdS T E (sWhile t b m) Dd σ H, ⟨n, h⟩, ?_⟩
  intro m σ H h
  obtain ⟨ρ, sl, lh, sr, post⟩ := h
  cases m with
  | zero => exact post.elim
  | succ m =>
    refine ⟨ρ, sl, lh, sr, (PostS.bind post).mono fun k h1 ρ1 H1 le1 hr1 p1 => ?_⟩
    cases k with
    | false => exact p1 ρ1 H1 σ Le.refl (sr.mono le1 hr1)
    | true =>
      refine ⟨fun σ' H' => rdS T E (sWhile t b m) Dd σ' H', fun σ' H' q => ⟨m, Nat.lt_succ_self _, q⟩, ρ1, sl, h1, sr.mono le1 hr1, ?_⟩
      have p1 : PostS T E ρ1 h1 H1 (match b sl h1 with
        | .nx sl2 h2 => sWhile t b m sl2 h2
        | .ct sl2 h2 => sWhile t b m sl2 h2
        | .bk sl2 h2 => .nx sl2 h2
        | r => r) Dd := p1
      cases e : b sl h1 with
      | nx sl1 h2 => rw [e] at p1; exact fun ρ2 H2 σ2 le2 sr2 => ⟨ρ2, sl1, h2, sr2, PostS.later p1 le2⟩
      | ct sl1 h2 => rw [e] at p1; exact fun ρ2 H2 σ2 le2 sr2 => ⟨ρ2, sl1, h2, sr2, PostS.later p1 le2⟩
      | bk sl1 h2 => rw [e] at p1; exact p1
      | rt d h2 => rw [e] at p1; exact p1
      | err c p h2 => rw [e] at p1; exact p1
      | stuck => rw [e] at p1; exact p1
end

/-! ### targets -/
abbrev MG := D → Sl → LH → Res Sl
abbrev MGs := List D → Sl → LH → Res Sl
section
variable (T : Tb) (E : XK)
def rdG (g : MG) : TG := fun v σ H Q => ∃ ρ sl lh d, SR T ρ H sl lh σ ∧ RelD T ρ H d v ∧ PostG T E ρ lh H (g d sl lh) fun sl' lh' ρ' H' => ∀ σ', SR T ρ' H' sl' lh' σ' → Q σ' H'
def rdGs (g : MGs) : TGs := fun vs σ H Q => ∃ ρ sl lh ds, SR T ρ H sl lh σ ∧ RelDs T ρ H ds vs ∧ PostG T E ρ lh H (g ds sl lh) fun sl' lh' ρ' H' => ∀ σ', SR T ρ' H' sl' lh' σ' → Q σ' H'
end
def gN (i : Nat) : MG := fun d sl h => .ok (sl.set i (some d)) h
def gsNil : MGs := fun ds sl h => match ds with
  | [] => .ok sl h
  | _ => .stuck
def gsCons (g : MG) (gs : MGs) : MGs := fun ds sl h => match ds with
  | d :: r => (g d sl h).bind fun sl1 h1 => gs r sl1 h1
  | [] => .stuck
def gTupM (n : Nat) (gs : MGs) : MG := fun d sl h => match d with
  | .tup ds => bif Nat.beq ds.length n then gs ds sl h else .stuck
  | _ => .stuck
def gAttr (f : Nat) (mo : ME) : MG := fun d sl h => (mo sl h).bind fun o h1 => (vFset f o d h1).bind fun _ h2 => .ok sl h2
/-- xs[i] = v, d[k] = v -/
def vSet (o i v : D) (h : LH) : Res Unit := match o with
  | .obj n => match h.get n with
    | some (.lst false xs) => match i with
      | .int k => match ixN xs.length k with
        | some j => .ok () (h.put n (.lst false (xs.set j v)))
        | none => .stuck
      | _ => .stuck
    | some (.dct _ _) => vPut o i v h
    | _ => .stuck
  | _ => .stuck
def gSubM (mo mi : ME) : MG := fun d sl h => (mo sl h).bind fun o h1 => (mi sl h1).bind fun i h2 => (vSet o i d h2).bind fun _ h3 => .ok sl h3
section
variable {T : Tb} {E : XK} {X : Cx} {ρ : List Addr} {lh : LH} {σ : L2.St} {H : Hp} {v : V} {Q : L2.St → Hp → Prop}
theorem SR.set {sl : Sl} {d : D} (s : SR T ρ H sl lh σ) (i : Nat) (r : RelD T ρ H d v) : SR T ρ H (sl.set i (some d)) lh (σ.set i (some v)) := by
  refine ⟨s.hr, by rw [List.length_set, List.length_set]; exact s.len, fun j e he => ?_⟩
  by_cases hj : i = j
  · subst hj
    have hl : i < sl.length := by
      have := (List.getElem?_eq_some_iff.mp he).1
      rwa [List.length_set] at this
    rw [List.getElem?_set_self hl] at he
    cases he
    exact ⟨v, List.getElem?_set_self (by rw [← s.len]; exact hl), r⟩
  · rw [List.getElem?_set_ne hj] at he
    rw [List.getElem?_set_ne hj]
    exact s.sl j e he
theorem pgImp {tg : Expr} {g g' : TG} (h : PG X tg g) (k : ∀ v σ H Q, g' v σ H Q → g v σ H Q) : PG X tg g' := ⟨fun pins s σ H v u Q I r q => h.run pins s σ H v u Q I r (k v σ H Q q)⟩
theorem pgsImp {tg : List Expr} {g g' : TGs} (h : PGs X tg g) (k : ∀ v σ H Q, g' v σ H Q → g v σ H Q) : PGs X tg g' := ⟨fun pins s σ H v u Q I r q => h.run pins s σ H v u Q I r (k v σ H Q q)⟩
theorem rd_gN {i : Nat} (h : rdG T E (gN i) v σ H Q) : gName i v σ H Q := by
  obtain ⟨ρ, sl, lh, d, sr, rd, post⟩ := h
  exact post ρ H Le.refl sr.hr _ (sr.set i rd)
theorem rd_gsNil {vs : List V} (h : rdGs T E gsNil vs σ H Q) : gNil vs σ H Q := by
  obtain ⟨ρ, sl, lh, ds, sr, rd, post⟩ := h
  cases ds with
  | nil => exact ⟨rd, post ρ H Le.refl sr.hr σ sr⟩
  | cons d ds => exact post.elim
theorem rd_gsCons {g : MG} {gs : MGs} {vs : List V} (h : rdGs T E (gsCons g gs) vs σ H Q) : gCons (rdG T E g) (rdGs T E gs) vs σ H Q := by
  obtain ⟨ρ, sl, lh, ds, sr, rd, post⟩ := h
  cases ds with
  | nil => exact post.elim
  | cons d ds =>
    obtain ⟨w, r, ev, h1, h2⟩ := rd
    have post : PostG T E ρ lh H ((g d sl lh).bind fun sl1 h1 => gs ds sl1 h1) _ := post
    refine ⟨w, r, ev, ρ, sl, lh, d, sr, h1, (PostG.bind post).mono fun sl1 l1 ρ1 H1 le1 hr1 p1 σ1 sr1 => ?_⟩
    exact ⟨ρ1, sl1, l1, ds, sr1, h2.mono le1.toLe0, p1⟩
theorem rd_gTup {n : Nat} {gs : MGs} (hK : X.K = T.K) (h : rdG T E (gTupM n gs) v σ H Q) : gTup X.K n (rdGs T E gs) v σ H Q := by
  obtain ⟨ρ, sl, lh, d, sr, rd, post⟩ := h
  cases d with
  | tup ds =>
    obtain ⟨hb, post⟩ := cond_stuck post
    obtain ⟨a, vs, ev, sq, rv⟩ := rd
    exact ⟨a, vs, ev, by rw [hK]; exact sq, by rw [← rv.length]; exact Nat.eq_of_beq_eq_true hb, ρ, sl, lh, ds, sr, rv, post⟩
  | _ => exact post.elim
/-- o.f = v as a target -/
def gAtt (K : PySem.W.Frag) (to : TE) (f : Str) : TG := fun y σ H Q => to σ H fun x H1 => ∃ a C dx fs, x = .ref a ∧ H1 a = some (.ins C dx fs) ∧ Cls K C ∧ NoAttr K C f ∧ fs.length < 1000 ∧ Q σ (upd H1 a (.ins C dx (putF f y fs)))
theorem pg_attr {o : Expr} {to : TE} {f : Str} {pos : Pos} (ho : PE X o to) : PG X (.Attribute o f pos) (gAtt X.K to f) := by
  refine ⟨fun pins s σ H v u Q I r h => ?_⟩
  show wpAny _ _ (do
    let ov ← holding [u] (eval o X.env)
    standAt pos.atName
    holding [u, ov] (setAttr ov f u)
    release [u, ov] []) _ _ _
  refine wpAny_bind (wpAny_holding (thn (ho.run pins s σ H _ I h) fun ov s1 ⟨x, H1, I1, r1, a, C, dx, fs, ex, ea, c, n, l, q⟩ => ?_))
  subst ex
  obtain rfl : ov = Value.ref a := r1
  refine wpAny_bind (wpAny_standAt (wpAny_bind (wpAny_holding ?_)))
  exact setattr_ok I1 ea c n l r fun s3 I3 => wpAny_release ⟨σ, _, I3, q⟩
theorem fset_ok (ok : T.Ok) {f : Nat} {x : Str} {o d : D} {ov y : V} {Q : Hp → Prop} (hx : T.fn[f]? = some x) (hr : HR T ρ H lh) (ro : RelD T ρ H o ov) (ry : RelD T ρ H d y) (post : PostG T E ρ lh H (vFset f o d lh) fun _ _ _ H' => Q H') :
    ∃ a C dx fs, ov = .ref a ∧ H a = some (.ins C dx fs) ∧ Cls T.K C ∧ NoAttr T.K C x ∧ fs.length < 1000 ∧ Q (upd H a (.ins C dx (putF x y fs))) := by
  cases o with
  | obj n =>
    have post : PostG T E ρ lh H (match lh.get n with
      | some (.ins c fs) => bif Nat.ble fs.length 900 then .ok () (lh.put n (.ins c (fput fs f d))) else .stuck
      | _ => .stuck) fun _ _ _ H' => Q H' := post
    split at post
    · rename_i c fs e
      obtain ⟨hb, post⟩ := cond_stuck post
      have hb := Nat.le_of_ble_eq_true hb
      obtain ⟨a, ev, hn, z, dx, vfs, hc, hH, fr⟩ := obj_of hr ro e
      have mz := List.mem_of_getElem? hc
      have le0 : Le0 ρ H ρ (upd H a (.ins (He.ga T.K z) dx (putF x y vfs))) := Le0.upd_mut hH (fun _ q => by cases q) fun _ _ q => by cases q
      have same : ∀ b, b ≠ a → upd H a (.ins (He.ga T.K z) dx (putF x y vfs)) b = H b := fun b hb => upd_ne hb
      refine ⟨a, _, dx, vfs, ev, hH, (ok.cls z mz).cls, ok.noat z mz x (List.mem_of_getElem? hx), by rw [← fr.length]; omega, ?_⟩
      exact post ρ _ (Le.write hr hn le0 same) (hr.write hn le0 same (by rw [upd_same]; simp) ⟨z, dx, _, hc, upd_same, (fput_ok ok.fnd fr hx ry).mono le0⟩)
    · exact post.elim
  | _ => exact post.elim
theorem rd_gAttr (ok : T.Ok) (hK : X.K = T.K) {f : Nat} {x : Str} {mo : ME} (hx : T.fn[f]? = some x) (h : rdG T E (gAttr f mo) v σ H Q) : gAtt X.K (rdE T E mo) x v σ H Q := by
  obtain ⟨ρ, sl, lh, d, sr, rd, post⟩ := h
  refine ⟨ρ, sl, lh, sr, (PostG.bind post).mono fun o h1 ρ1 H1 le1 hr1 p1 ov ro => ?_⟩
  rw [hK]
  refine fset_ok (E := E) ok hx hr1 ro (rd.mono le1.toLe0) ((PostG.bind p1).mono fun _ h2 ρ2 H2 le2 hr2 p2 => ?_)
  exact p2 ρ2 H2 Le.refl hr2 σ ((sr.mono le1 hr1).mono le2 hr2)
/-- o[i] = v -/
def rdSet (T : Tb) (E : XK) : TSet := fun o i v H Q => ∃ ρ lh a b d, HR T ρ H lh ∧ RelD T ρ H a o ∧ RelD T ρ H b i ∧ RelD T ρ H d v ∧ PostG T E ρ lh H (vSet a b d lh) fun _ _ _ H' => Q H'
theorem ps_set_ok (hK : X.K = T.K) (hw : X.w = T.w) (hu : X.A.units + 65 < cLine) : PSet X (rdSet T E) := by
  intro pins s σ H o i v ov iv u Q I ro ri rv h
  obtain ⟨ρ, lh, a, b, d, hr, ra, rb, rd, post⟩ := h
  cases a with
  | obj n =>
    have post : PostG T E ρ lh H (match lh.get n with
      | some (.lst false xs) => match b with
        | .int k => match ixN xs.length k with
          | some j => .ok () (lh.put n (.lst false (xs.set j d)))
          | none => .stuck
        | _ => .stuck
      | some (.dct _ _) => vPut (.obj n) b d lh
      | _ => .stuck) fun _ _ _ H' => Q H' := post
    split at post
    · rename_i xs e
      cases b with
      | int k =>
        simp only at post
        cases e2 : ixN xs.length k with
        | none => rw [e2] at post; exact post.elim
        | some j =>
          rw [e2] at post
          obtain ⟨p, ev, hn, vs, rvs, hH⟩ := obj_of hr ra e
          rw [rvs.length] at e2
          obtain ⟨g1, g2, g3, g4⟩ := ixN_seq e2
          have le0 : Le0 ρ H ρ (upd H p (.lst (vs.set j v))) := le0_lst hH
          have same : ∀ b, b ≠ p → upd H p (.lst (vs.set j v)) b = H b := fun b hb => upd_ne hb
          have q : Q (upd H p (.lst (vs.set j v))) := post ρ _ (Le.write hr hn le0 same) (hr.write hn le0 same (by rw [upd_same]; simp) ⟨vs.set j v, (rvs.set j rd).mono le0, upd_same⟩)
          exact set_list pins s σ H o i v ov iv u Q I ro ri rv ⟨p, vs, k, j, ev, rb, hH, e2, q⟩
      | _ => exact post.elim
    · exact put_ok hK hw hu I hr ra rb rd ro ri rv post
    · exact post.elim
  | _ => exact post.elim
theorem rd_gSub {mo mi : ME} (h : rdG T E (gSubM mo mi) v σ H Q) : gSub (rdE T E mo) (rdE T E mi) (rdSet T E) v σ H Q := by
  obtain ⟨ρ, sl, lh, d, sr, rd, post⟩ := h
  refine ⟨ρ, sl, lh, sr, (PostG.bind post).mono fun o h1 ρ1 H1 le1 hr1 p1 ov ro => ?_⟩
  refine ⟨ρ1, sl, h1, sr.mono le1 hr1, (PostG.bind p1).mono fun i h2 ρ2 H2 le2 hr2 p2 iv ri => ?_⟩
  refine ⟨ρ2, h2, o, i, d, hr2, ro.mono le2.toLe0, ri, rd.mono (le1.trans le2).toLe0, (PostG.bind p2).mono fun _ h3 ρ3 H3 le3 hr3 p3 => ?_⟩
  exact p3 ρ3 H3 Le.refl hr3 σ (((sr.mono le1 hr1).mono le2 hr2).mono le3 hr3)
def sAsg (m : ME) (g : MG) : MS := fun sl h => (m sl h).toS fun d h1 => (g d sl h1).toS fun sl2 h2 => .nx sl2 h2
theorem rd_asg {m : ME} {g : MG} {Dd : Ends} (h : rdS T E (sAsg m g) Dd σ H) : tAsg (rdE T E m) (rdG T E g) Dd σ H := by
  obtain ⟨ρ, sl, lh, sr, post⟩ := h
  refine ⟨ρ, sl, lh, sr, (PostS.bind post).mono fun d h1 ρ1 H1 le1 hr1 p1 v rv => ?_⟩
  exact ⟨ρ1, sl, h1, d, sr.mono le1 hr1, rv, (PostS.bind p1).mono fun sl2 h2 ρ2 H2 le2 hr2 p2 σ' sr2 => p2 ρ2 H2 σ' Le.refl sr2⟩
/-- a, b = x, y of plain names -/
def sPar (i j : Nat) (ms : MA) : MS := fun sl h => (ms sl h).toS fun ds h1 => match ds with
  | [d, e] => .nx ((sl.set i (some d)).set j (some e)) h1
  | _ => .stuck
theorem rd_par {i j : Nat} {ms : MA} {Dd : Ends} (h : rdS T E (sPar i j ms) Dd σ H) : tPar i j (rdA T E ms) Dd σ H := by
  obtain ⟨ρ, sl, lh, sr, post⟩ := h
  refine ⟨ρ, sl, lh, sr, (PostS.bind post).mono fun ds h1 ρ1 H1 le1 hr1 p1 vs rv => ?_⟩
  match ds, rv, p1 with
  | [d, e], rv, p1 =>
    obtain ⟨v, w, ev, r1, r2⟩ := rel2 rfl rv
    exact ⟨v, w, ev, p1 ρ1 H1 _ Le.refl (((sr.mono le1 hr1).set i r1).set j r2)⟩
  | [], _, p1 => exact p1.elim
  | [_], _, p1 => exact p1.elim
  | _ :: _ :: _ :: _, _, p1 => exact p1.elim
/-- x += e -/
def sAug (i : Nat) (m : ME) : MS := fun sl h => match sl[i]? with
  | some (some d) => (m sl h).toS fun e h1 => match d, e with
    | .int a, .int b => .nx (sl.set i (some (.int (a + b)))) h1
    | _, _ => .stuck
  | _ => .stuck
theorem rd_aug {i : Nat} {m : ME} {Dd : Ends} (h : rdS T E (sAug i m) Dd σ H) : tAug i (rdE T E m) (ipI fun i j => i + j) Dd σ H := by
  obtain ⟨ρ, sl, lh, sr, post⟩ := h
  unfold sAug at post
  cases e : sl[i]? with
  | none => rw [e] at post; exact post.elim
  | some o =>
    rw [e] at post
    cases o with
    | none => exact post.elim
    | some d =>
      obtain ⟨w, hw, rw⟩ := sr.sl i d e
      refine ⟨w, hw, ρ, sl, lh, sr, (PostS.bind post).mono fun z h1 ρ1 H1 le1 hr1 p1 u ru => ?_⟩
      cases d with
      | int a =>
        cases z with
        | int b => exact ⟨a, b, rw, ru, p1 ρ1 H1 _ Le.refl ((sr.mono le1 hr1).set i (d := .int (a + b)) rfl)⟩
        | _ => exact p1.elim
      | _ => exact p1.elim
end
end TL

namespace TL
open PySem PySem.Spec PyProof.Rows L2

/-! ### what is walked: its items as they stand at the start, and which things must not have been written -/
abbrev Chk := List (Nat × Nat)
def chkOk : Chk → LH → Bool
  | [], _ => true
  | c :: r, h => Nat.beq (h.ver c.1) c.2 && chkOk r h
abbrev MI := Sl → LH → Res (List D × Chk)
structure SrcOk (T : Tb) (J : It) (ds : List D) (chk : Chk) (ρ0 : List Addr) (l0 : LH) (H0 : Hp) : Prop where
  go : ∀ i d ρ lh H, Le ρ0 l0 H0 ρ lh H → HR T ρ H lh → chkOk chk lh = true → ds[i]? = some d → J.go i H ∧ ∀ x H', J.yld i H x H' → Le ρ lh H ρ lh H' ∧ HR T ρ H' lh ∧ RelD T ρ H' d x
  stop : ∀ ρ lh H, Le ρ0 l0 H0 ρ lh H → HR T ρ H lh → chkOk chk lh = true → J.stop ds.length H
def rdI (T : Tb) (E : XK) (m : MI) : TI := fun σ H R => ∃ ρ sl lh, SR T ρ H sl lh σ ∧ PostG T E ρ lh H (m sl lh) fun p lh' ρ' H' => ∀ J, SrcOk T J p.1 p.2 ρ' lh' H' → R J H'
def srcOf (d : D) (h : LH) : Option (List D × Chk) := match d with
  | .tup xs => some (xs, [])
  | .kls xs => some (xs, [])
  | .obj n => match h.get n with
    | some (.lst _ xs) => some (xs, [(n, h.ver n)])
    | some (.dct _ kvs) => some (kvs.map (·.2.1), [(n, h.ver n)])
    | _ => none
  | _ => none
def iAny (m : ME) : MI := fun sl h => (m sl h).bind fun d h1 => match srcOf d h1 with
  | some p => .ok p h1
  | none => .stuck
section
variable {T : Tb} {E : XK} {X : Cx} {ρ ρ0 : List Addr} {lh l0 : LH} {H H0 : Hp} {σ : L2.St}
theorem kept {n : Nat} {a : Addr} {chk : Chk} (le : Le ρ0 l0 H0 ρ lh H) (hn : ρ0[n]? = some a) (hc : chkOk ((n, l0.ver n) :: chk) lh = true) : H a = H0 a :=
  le.same n a hn (Nat.eq_of_beq_eq_true (band hc).1).symm
theorem sqL_kept {K : PySem.W.Frag} {a : Addr} {xs : List V} (e : H a = H0 a) (h : SqL K H0 a xs) : SqL K H a xs := by
  rcases h with h | h
  · refine .inl ?_
    rcases h with h | ⟨o, h⟩
    · exact .inl (e.trans h)
    · exact .inr ⟨o, e.trans h⟩
  · exact .inr h
/-- a sequence's iterator -/
def ItL (K : PySem.W.Frag) (a : Addr) (vs : List V) : It := ⟨fun i H => ∃ x, SqL K H a vs ∧ vs[i]? = some x, fun i H x H' => H' = H ∧ vs[i]? = some x, fun i H => SqL K H a vs ∧ vs.length ≤ i⟩
def ItT (K : PySem.W.Frag) (a : Addr) (vs : List V) : It := ⟨fun i H => ∃ x, SqT K H a vs ∧ vs[i]? = some x, fun i H x H' => H' = H ∧ vs[i]? = some x, fun i H => SqT K H a vs ∧ vs.length ≤ i⟩
theorem src_list (hK : X.K = T.K) {n : Nat} {a : Addr} {ds : List D} {vs : List V} (hn : ρ0[n]? = some a) (rv : RelDs T ρ0 H0 ds vs) (sq : SqL X.K H0 a vs) (inj : ∀ H, SqL X.K H a vs → ∀ xs, SqL X.K H a xs → True) :
    SrcOk T (ItL X.K a vs) ds [(n, l0.ver n)] ρ0 l0 H0 where
  go := fun i d ρ lh H le hr hc e => by
    obtain ⟨x, hx, rx⟩ := rv.get e
    refine ⟨⟨x, sqL_kept (kept le hn hc) sq, hx⟩, fun y H' ⟨e1, e2⟩ => ?_⟩
    subst e1
    rw [hx] at e2
    cases e2
    exact ⟨Le.refl, hr, rx.mono le.toLe0⟩
  stop := fun ρ lh H le hr hc => ⟨sqL_kept (kept le hn hc) sq, by rw [rv.length]; exact Nat.le_refl _⟩
theorem src_tuple (hK : X.K = T.K) {a : Addr} {ds : List D} {vs : List V} (rv : RelDs T ρ0 H0 ds vs) (sq : SqT X.K H0 a vs) :
    SrcOk T (ItT X.K a vs) ds [] ρ0 l0 H0 where
  go := fun i d ρ lh H le hr hc e => by
    obtain ⟨x, hx, rx⟩ := rv.get e
    refine ⟨⟨x, le.toLe0.sqT sq, hx⟩, fun y H' ⟨e1, e2⟩ => ?_⟩
    subst e1
    rw [hx] at e2
    cases e2
    exact ⟨Le.refl, hr, rx.mono le.toLe0⟩
  stop := fun ρ lh H le hr hc => ⟨le.toLe0.sqT sq, by rw [rv.length]; exact Nat.le_refl _⟩
theorem src_kls {a : Addr} {ds : List D} {vs : List V} (rv : RelDs T ρ0 H0 ds vs) (sq : SqF X.K H0 a vs) : SrcOk T (ItL X.K a vs) ds [] ρ0 l0 H0 where
  go := fun i d ρ lh H le hr hc e => by
    obtain ⟨x, hx, rx⟩ := rv.get e
    refine ⟨⟨x, (le.toLe0.sqF sq).sqL, hx⟩, fun y H' ⟨e1, e2⟩ => ?_⟩
    subst e1
    rw [hx] at e2
    cases e2
    exact ⟨Le.refl, hr, rx.mono le.toLe0⟩
  stop := fun ρ lh H le hr hc => ⟨(le.toLe0.sqF sq).sqL, by rw [rv.length]; exact Nat.le_refl _⟩
/-- a Turn for a weaker iterator -/
theorem _root_.L2.Turn.weak {P : Program} {w : World} {K : PySem.W.Frag} {tg : Expr} {J J' : It} {fp : List Addr} {it : Addr} {tn : Nat → Heap → Prop} (t : Turn P w K tg J fp it tn)
    (g : ∀ i H, J'.go i H → J.go i H) (y : ∀ i H x H', J'.go i H → J.yld i H x H' → J'.yld i H x H') (s : ∀ i H, J'.stop i H → J.stop i H) : Turn P w K tg J' fp it tn where
  mem := t.mem
  obj := t.obj
  keep := t.keep
  item := fun X h1 h2 h3 h4 i pins s' σ H E I hf st hg => thn (t.item X h1 h2 h3 h4 i pins s' σ H E I hf st (g i H hg)) fun r s1 ⟨u, e, q⟩ => ⟨u, e, thn q fun _ s2 ⟨x, H', a, b, c, d, f⟩ => ⟨x, H', a, b, y i H x H' hg c, d, f⟩⟩
  done := fun X h1 h2 h3 h4 i pins s' σ H E I hf st hg => t.done X h1 h2 h3 h4 i pins s' σ H E I hf st (s i H hg)
  self := t.self
/-- the keys of a dict -/
def Itdk (d : Addr) (es : Array DictEntry) (ep : Nat) : It :=
  ⟨fun i H => H d = some (dictO d es ep) ∧ i < es.size, fun i H x H' => H' = H ∧ ∃ e, es[i]? = some e ∧ RelV x e.key, fun i H => H d = some (dictO d es ep) ∧ es.size ≤ i⟩
theorem relV_ex {K : PySem.W.Frag} {x : V} {u : Value} (r : RelV x u) : True := trivial
theorem turn_dk {P : Program} {w : World} {K : PySem.W.Frag} {tg : Expr} {d : Addr} {es : Array DictEntry} {ep : Nat} (it : Addr) (hv : ∀ e ∈ es.toList, ∃ v, RelV v e.key) : Turn P w K tg (Itdk d es ep) [it] it (fun i h => h.IsKeyIter it d i es.size ep) where
  mem := by simp
  obj := fun i h st b hb => by
    have e : b = it := by simpa using hb
    subst e
    obtain ⟨oi, e, c, dd⟩ := st
    exact ⟨oi, e, fun v z => by rw [dd] at z; cases z⟩
  keep := fun i h h' st k => st.at fun oi e => k it (by simp) oi e
  item := by
    intro X hP hw hK hc i pins s σ H E I hf st hg
    subst hP hw hK
    obtain ⟨hd, hi⟩ := hg
    obtain ⟨f0, f1, f2, f3, f4, f5⟩ := hf it (by simp)
    refine wpAny_pyNext_keys_item_raw st (Inv.rawD I hd) hi fun h' st' sb => ?_
    have I1 : Inv X pins σ H { s with heap := h' } := I.turned (t' := s.toks) (fun b ob hb e => (sb.2 b hb).trans e) f0 f1 f3 f4 f5
    obtain ⟨oi, e, c, dd⟩ := id st'
    obtain ⟨v, rv⟩ := hv es[i] (by simp)
    exact ⟨_, rfl, go_of (s := { s with heap := h' }) e c dd (by decide) ⟨v, H, I1, rv, ⟨rfl, es[i], by simp [hi], rv⟩, st', fun b hb => (hf b hb).1⟩⟩
  done := by
    intro X hP hw hK hc i pins s σ H E I hf st hg
    subst hP hw hK
    obtain ⟨hd, hi⟩ := hg
    obtain ⟨f0, f1, f2, f3, f4, f5⟩ := hf it (by simp)
    exact wpAny_pyNext_keys_end_raw (I.ok.hd hc) st (Inv.rawD I hd) hi fun h' eb => ⟨rfl, I.turned (t' := s.toks) (fun b ob hb e => eb b ob hb e) f0 f1 f3 f4 f5⟩
  self := fun A i s Q E st h => wpAny_pyIter_keyiter st h
theorem ents_get {kd : Bool} : ∀ {kvs : List Ent} {es : List DictEntry} {i : Nat} {x : Ent}, EntsR T ρ H kd kvs es → kvs[i]? = some x → ∃ e, es[i]? = some e ∧ EntR T ρ H kd x e
  | [], _, _, _, _, e => by simp at e
  | y :: r, es, 0, x, ⟨e, es', q, h1, h2⟩, hx => by
    simp at hx; subst hx
    exact ⟨e, by rw [q]; rfl, h1⟩
  | y :: r, es, i + 1, x, ⟨e, es', q, h1, h2⟩, hx => by
    obtain ⟨e', h3, h4⟩ := ents_get (i := i) h2 (by simpa using hx)
    exact ⟨e', by rw [q]; simpa using h3, h4⟩
theorem ents_mem {kd : Bool} : ∀ {kvs : List Ent} {es : List DictEntry} {e : DictEntry}, EntsR T ρ H kd kvs es → e ∈ es → ∃ x, EntR T ρ H kd x e
  | [], es, e, h, he => by rw [show es = [] from h] at he; cases he
  | y :: r, es, e, ⟨e', es', q, h1, h2⟩, he => by
    rw [q] at he
    rcases List.mem_cons.mp he with rfl | he
    · exact ⟨y, h1⟩
    · exact ents_mem h2 he
theorem relV_inj {x y : V} {u : Value} (a : RelV x u) (b : RelV y u) : x = y := RelV.inj a b
theorem src_dk {n : Nat} {a : Addr} {kd : Bool} {kvs : List Ent} {es : Array DictEntry} {ep : Nat} (hn : ρ0[n]? = some a) (he : EntsR T ρ0 H0 kd kvs es.toList) (hH : H0 a = some (dictO a es ep)) :
    SrcOk T (Itdk a es ep) (kvs.map (·.2.1)) [(n, l0.ver n)] ρ0 l0 H0 where
  go := fun i d ρ lh H le hr hc e => by
    rw [List.getElem?_map] at e
    obtain ⟨x, e1, e2⟩ := map_some e
    subst e2
    obtain ⟨en, h1, kv, vv, r1, r2, _⟩ := ents_get he e1
    have h1' : es[i]? = some en := by simpa using h1
    have hi : i < es.size := (Array.getElem?_eq_some_iff.mp h1').1
    refine ⟨⟨(kept le hn hc).trans hH, hi⟩, fun y H' ⟨e3, en', e4, r4⟩ => ?_⟩
    subst e3
    rw [h1'] at e4
    cases e4
    rw [relV_inj r4 r1]
    exact ⟨Le.refl, hr, r2.mono le.toLe0⟩
  stop := fun ρ lh H le hr hc => ⟨(kept le hn hc).trans hH, by rw [List.length_map, he.length]; simp⟩
theorem pi_any {tg e : Expr} {m : ME} (hK : X.K = T.K) (he : PE X e (rdE T E m)) : PI X tg e (rdI T E (iAny m)) := by
  refine ⟨fun pins s σ H R I h => ?_⟩
  obtain ⟨ρ, sl, lh, sr, post⟩ := h
  refine thn (he.run pins s σ H _ I ⟨ρ, sl, lh, sr, (PostG.bind post).mono fun d h1 ρ1 H1 le1 hr1 p1 v rv => (show ∃ (ρ1 : List Addr) (h1 : LH) (d : D), HR T ρ1 H1 h1 ∧ RelD T ρ1 H1 d v ∧ PostG T E ρ1 h1 H1 (match srcOf d h1 with
    | some p => .ok p h1
    | none => .stuck) (fun p lh' ρ' H' => ∀ J, SrcOk T J p.1 p.2 ρ' lh' H' → R J H') from ⟨ρ1, h1, d, hr1, rv, p1⟩)⟩) fun u s1 ⟨v, H1, I1, ru, ρ1, h1, d, hr1, rv, p1⟩ => ?_
  cases e1 : srcOf d h1 with
  | none => rw [e1] at p1; exact p1.elim
  | some p =>
    rw [e1] at p1
    have q := p1 ρ1 H1 Le.refl hr1
    unfold srcOf at e1
    cases d with
    | tup ds =>
      cases e1
      obtain ⟨a, vs, ev, sq, rvs⟩ := rv
      subst ev
      cases ru
      rw [← hK] at sq
      obtain ⟨its, rr, pl, hz⟩ := I1.tuple sq
      refine wpAny_pyIter_tuple (show s1.heap.IsTuple a its.toArray from pl) ?_
      refine ⟨s1.heap.objs.size, [s1.heap.objs.size], _, _, H1, rfl, I1.kept (t' := s1.toks) fun b o e => Heap.get?_push_of_some _ e,
        (turn_tuple a _).weak (J' := ItT X.K a vs) (fun i H ⟨x, h1, h2⟩ => ⟨vs, x, h1, h2⟩) (fun i H x H' ⟨_, h0, _⟩ ⟨h1, h2⟩ => ⟨h1, h2 vs h0⟩) (fun i H ⟨h1, h2⟩ => ⟨vs, h1, h2⟩), ⟨_, Heap.get?_push_size _ rfl, rfl, rfl⟩, fun b hb => ?_, q _ (src_tuple hK rvs sq)⟩
      have e : b = s1.heap.objs.size := by simpa using hb
      subst e
      exact I1.fpOk (Nat.le_refl _) (I1.hok.fresh (Nat.le_refl _))
    | kls ds =>
      cases e1
      obtain ⟨a, vs, ev, sqf, rvs⟩ := rv
      subst ev
      cases ru
      rw [← hK] at sqf
      obtain ⟨its, rr, pl, hz⟩ := I1.list sqf.sqL
      refine wpAny_pyIter_list pl.isList ?_
      refine ⟨s1.heap.objs.size, [s1.heap.objs.size], _, _, H1, rfl, I1.kept (t' := s1.toks) fun b o e => Heap.get?_push_of_some _ e,
        (turn_list a _).weak (J' := ItL X.K a vs) (fun i H ⟨x, h1, h2⟩ => ⟨vs, x, h1, h2⟩) (fun i H x H' ⟨_, h0, _⟩ ⟨h1, h2⟩ => ⟨h1, h2 vs h0⟩) (fun i H ⟨h1, h2⟩ => ⟨vs, h1, h2⟩), ⟨_, Heap.get?_push_size _ rfl, rfl, rfl⟩, fun b hb => ?_, q _ (src_kls rvs sqf)⟩
      have e : b = s1.heap.objs.size := by simpa using hb
      subst e
      exact I1.fpOk (Nat.le_refl _) (I1.hok.fresh (Nat.le_refl _))
    | obj n =>
      simp only at e1
      cases e2 : h1.get n with
      | none => rw [e2] at e1; cases e1
      | some o =>
        rw [e2] at e1
        cases o with
        | lst lk xs =>
          cases e1
          obtain ⟨a, ev, hn, ho⟩ := obj_of hr1 rv e2
          obtain ⟨vs, rvs, sq⟩ := ho.sqL
          subst ev
          cases ru
          rw [← hK] at sq
          obtain ⟨its, rr, pl, hz⟩ := I1.list sq
          refine wpAny_pyIter_list pl.isList ?_
          refine ⟨s1.heap.objs.size, [s1.heap.objs.size], _, _, H1, rfl, I1.kept (t' := s1.toks) fun b o e => Heap.get?_push_of_some _ e,
            (turn_list a _).weak (J' := ItL X.K a vs) (fun i H ⟨x, h1, h2⟩ => ⟨vs, x, h1, h2⟩) (fun i H x H' ⟨_, h0, _⟩ ⟨h1, h2⟩ => ⟨h1, h2 vs h0⟩) (fun i H ⟨h1, h2⟩ => ⟨vs, h1, h2⟩), ⟨_, Heap.get?_push_size _ rfl, rfl, rfl⟩, fun b hb => ?_, q _ (src_list hK hn rvs sq fun _ _ _ _ => trivial)⟩
          have e : b = s1.heap.objs.size := by simpa using hb
          subst e
          exact I1.fpOk (Nat.le_refl _) (I1.hok.fresh (Nat.le_refl _))
        | dct kd kvs =>
          cases e1
          obtain ⟨a, ev, hn, hsm, hlen, nd, es, ep, hes, hH⟩ := obj_of hr1 rv e2
          subst ev
          cases ru
          refine wpAny_pyIter_dict_raw hsm (Inv.rawD I1 hH) (pi_one (tk := s1.toks) I1 _ (turn_dk _ fun e he => ?_) ⟨_, Heap.get?_push_size _ rfl, rfl, rfl⟩ (q _ (src_dk hn hes hH)))
          obtain ⟨x, kv, _, r1, _⟩ := ents_mem hes he
          exact ⟨kv, r1⟩
        | ins c fs => cases e1
    | _ => cases e1
/-- range(n), range(a, b) -/
def iRange1 (ms : MA) : MI := fun sl h => (ms sl h).bind fun ds h1 => match ds with
  | [.int j] => bif decide (j ≤ 100000) && decide (-100000 ≤ j) then .ok ((List.range j.toNat).map fun (k : Nat) => D.int (0 + (k : Int)), []) h1 else .stuck
  | _ => .stuck
def iRange2 (ms : MA) : MI := fun sl h => (ms sl h).bind fun ds h1 => match ds with
  | [.int i, .int j] => bif decide (j ≤ 100000) && decide (-100000 ≤ j) && decide (i ≤ 100000) && decide (-100000 ≤ i) then .ok ((List.range (j - i).toNat).map fun (k : Nat) => D.int (i + (k : Int)), []) h1 else .stuck
  | _ => .stuck
theorem src_range {lo : Int} {n : Nat} : SrcOk T (Itr lo n) ((List.range n).map fun (k : Nat) => D.int (lo + (k : Int))) [] ρ0 l0 H0 where
  go := fun i d ρ lh H le hr hc e => by
    rw [List.getElem?_map] at e
    obtain ⟨x, e1, e2⟩ := map_some e
    obtain ⟨h1, h2⟩ := List.getElem?_eq_some_iff.mp e1
    rw [List.length_range] at h1
    rw [List.getElem_range] at h2
    subst e2 h2
    refine ⟨h1, fun y H' ⟨e3, e4⟩ => ?_⟩
    subst e3 e4
    exact ⟨Le.refl, hr, rfl⟩
  stop := fun ρ lh H le hr hc => by
    rw [List.length_map, List.length_range]
    exact Nat.le_refl _
theorem rd_range1 {ms : MA} {R : It → Hp → Prop} (h : rdI T E (iRange1 ms) σ H R) : iRng1 (rdA T E ms) σ H R := by
  obtain ⟨ρ, sl, lh, sr, post⟩ := h
  refine ⟨ρ, sl, lh, sr, (PostG.bind post).mono fun ds h1 ρ1 H1 le1 hr1 p1 vs rv => ?_⟩
  have key : ∃ j, ds = [.int j] ∧ PostG T E ρ1 h1 H1 (bif decide (j ≤ 100000) && decide (-100000 ≤ j) then .ok ((List.range j.toNat).map fun (k : Nat) => D.int (0 + (k : Int)), []) h1 else .stuck) (fun p lh' ρ' H' => ∀ J, SrcOk T J p.1 p.2 ρ' lh' H' → R J H') := by
    split at p1
    · exact ⟨_, rfl, p1⟩
    · exact p1.elim
  obtain ⟨j, e, p1⟩ := key
  subst e
  obtain ⟨hb, p1⟩ := cond_stuck p1
  obtain ⟨b1, b2⟩ := band hb
  have b1 : j ≤ 100000 := of_decide_eq_true b1
  have b2 : -100000 ≤ j := of_decide_eq_true b2
  obtain ⟨v, ev, r⟩ := rel1 rfl rv
  exact ⟨j, by rw [ev, show v = _ from r], by omega, by omega, p1 ρ1 H1 Le.refl hr1 _ src_range⟩
theorem rd_range2 {ms : MA} {R : It → Hp → Prop} (h : rdI T E (iRange2 ms) σ H R) : iRng2 (rdA T E ms) σ H R := by
  obtain ⟨ρ, sl, lh, sr, post⟩ := h
  refine ⟨ρ, sl, lh, sr, (PostG.bind post).mono fun ds h1 ρ1 H1 le1 hr1 p1 vs rv => ?_⟩
  have key : ∃ i j, ds = [.int i, .int j] ∧ PostG T E ρ1 h1 H1 (bif decide (j ≤ 100000) && decide (-100000 ≤ j) && decide (i ≤ 100000) && decide (-100000 ≤ i) then .ok ((List.range (j - i).toNat).map fun (k : Nat) => D.int (i + (k : Int)), []) h1 else .stuck) (fun p lh' ρ' H' => ∀ J, SrcOk T J p.1 p.2 ρ' lh' H' → R J H') := by
    split at p1
    · exact ⟨_, _, rfl, p1⟩
    · exact p1.elim
  obtain ⟨i, j, e, p1⟩ := key
  subst e
  obtain ⟨hb, p1⟩ := cond_stuck p1
  obtain ⟨hb, b4⟩ := band hb
  obtain ⟨hb, b3⟩ := band hb
  obtain ⟨b1, b2⟩ := band hb
  have b1 : j ≤ 100000 := of_decide_eq_true b1
  have b2 : -100000 ≤ j := of_decide_eq_true b2
  have b3 : i ≤ 100000 := of_decide_eq_true b3
  have b4 : -100000 ≤ i := of_decide_eq_true b4
  obtain ⟨v, u, ev, r, r'⟩ := rel2 rfl rv
  exact ⟨i, j, by rw [ev, show v = _ from r, show u = _ from r'], ⟨by omega, by omega, by omega, by omega⟩, p1 ρ1 H1 Le.refl hr1 _ src_range⟩
end
end TL

namespace TL
open PySem PySem.Spec PyProof.Rows L2

/-! ### zip of two (lists, tuples) -/
def SqK (K : PySem.W.Frag) (k : Bool) (H : Hp) (a : Addr) (xs : List V) : Prop := match k with
  | true => SqT K H a xs
  | false => SqL K H a xs
def SeqK (k : Bool) (h : Heap) (a : Addr) (its : Array Value) : Prop := match k with
  | true => h.IsTuple a its
  | false => h.IsList a its
def ItrK (k : Bool) (h : Heap) (it a : Addr) (i : Nat) : Prop := match k with
  | true => h.IsTupleIter it a i
  | false => h.IsListIter it a i
def objK (k : Bool) (a : Addr) : Obj := match k with
  | true => { cls := .type "tuple_iterator", data := .fields #[.ref a, .int 0 0] }
  | false => { cls := .type "list_iterator", data := .fields #[.ref a, .int 0 0] }
theorem draws_k {prog : Program} {w : World} {A : Around} (hh : A.handled = none) (k : Bool) (it l : Addr) (hne : l ≠ it) (items : Array Value) :
    Draws prog w A it [it, l] items.size (fun i v => items[i]? = some v) (fun i h => ItrK k h it l i ∧ SeqK k h l items) := by
  cases k with
  | true => exact Draws.tuple hh it l hne items
  | false => exact Draws.list hh it l hne items
theorem begins_k (k : Bool) (l : Addr) (items : Array Value) : Begins (.ref l) (objK k l) fun h => SeqK k h l items := by
  cases k with
  | true => exact begins_tuple l items
  | false => exact begins_list l items
theorem itr_at {k : Bool} {h h' : Heap} {it a : Addr} {i : Nat} (x : ItrK k h it a i) (e : ∀ o, h.get? it = some o → h'.get? it = some o) : ItrK k h' it a i := by
  cases k with
  | true => exact Heap.IsTupleIter.at x e
  | false => exact Heap.IsListIter.at x e
theorem itr_obj {k : Bool} {h : Heap} {it a : Addr} {i : Nat} (x : ItrK k h it a i) : ∃ o, h.get? it = some o ∧ ∀ v, o.data ≠ .cell v := by
  cases k with
  | true => obtain ⟨o, e, _, d⟩ := x; exact ⟨o, e, fun v q => by rw [d] at q; cases q⟩
  | false => obtain ⟨o, e, _, d⟩ := x; exact ⟨o, e, fun v q => by rw [d] at q; cases q⟩
theorem itr_new {k : Bool} {h : Heap} {it a : Addr} (e : h.get? it = some (objK k a)) : ItrK k h it a 0 := by
  cases k with
  | true => exact ⟨_, e, rfl, rfl⟩
  | false => exact ⟨_, e, rfl, rfl⟩
theorem inv_k {X : Cx} {pins : List (Addr × Obj)} {σ : L2.St} {H : Hp} {s : Shared} {k : Bool} {a : Addr} {xs : List V} (I : Inv X pins σ H s) (q : SqK X.K k H a xs) : ∃ its : List Value, Vals xs its ∧ SeqK k s.heap a its.toArray ∧ a < s.heap.objs.size := by
  cases k with
  | true =>
    obtain ⟨its, rv, p, _⟩ := I.tuple q
    obtain ⟨o, e, _⟩ := id p
    exact ⟨its, rv, p, Heap.lt_size e⟩
  | false =>
    obtain ⟨its, rv, p, _⟩ := I.list q
    exact ⟨its, rv, p.isList, p.lt⟩
def Itz2 (K : PySem.W.Frag) (k1 k2 : Bool) (a b : Addr) (xs ys : List V) : It :=
  ⟨fun i H => SqK K k1 H a xs ∧ SqK K k2 H b ys ∧ i < xs.length ∧ i < ys.length,
    fun i H v H' => ∃ T x y, v = .ref T ∧ H T = none ∧ H' = upd H T (.tup [x, y]) ∧ xs[i]? = some x ∧ ys[i]? = some y,
    fun i H => SqK K k1 H a xs ∧ SqK K k2 H b ys ∧ i ≤ xs.length ∧ i ≤ ys.length ∧ (i = xs.length ∨ i = ys.length)⟩
theorem turn_zip2 {P : Program} {w : World} {K : PySem.W.Frag} {elts : List Expr} {kk : Nat} {tpos : Pos} {k1 k2 : Bool} {a b z TI TO i1 i2 : Addr} {xs ys : List V} (S : ZipSep2 z TI TO i1 i2 [i1, a] [i2, b]) (na : a ≠ i1) (nb : b ≠ i2) :
    Turn P w K (.Tuple elts kk tpos) (Itz2 K k1 k2 a b xs ys) [z, TI, TO, i1, i2] z (fun i h => IsZip h z TI TO .none ∧ IsTupOf2 h TI (.ref i1) (.ref i2) ∧ (∃ x y, IsTupOf2 h TO x y) ∧ ItrK k1 h i1 a i ∧ ItrK k2 h i2 b i) where
  mem := by simp
  obj := fun i h st c hc => by
    obtain ⟨hz, hTI, ⟨x, y, hTO⟩, h1, h2⟩ := st
    have e' : c = z ∨ c = TI ∨ c = TO ∨ c = i1 ∨ c = i2 := by simpa using hc
    rcases e' with q | q | q | q | q
    · rw [q]; exact ⟨_, hz, fun v q => nomatch q⟩
    · rw [q]; exact ⟨_, hTI, fun v q => nomatch q⟩
    · rw [q]; exact ⟨_, hTO, fun v q => nomatch q⟩
    · rw [q]; exact itr_obj h1
    · rw [q]; exact itr_obj h2
  keep := fun i h h' st k => by
    obtain ⟨hz, hTI, ⟨x, y, hTO⟩, h1, h2⟩ := st
    exact ⟨k z (by simp) _ hz, k TI (by simp) _ hTI, ⟨x, y, k TO (by simp) _ hTO⟩, itr_at h1 fun o q => k i1 (by simp) o q, itr_at h2 fun o q => k i2 (by simp) o q⟩
  item := by
    intro X hP hw hK hc i pins s σ H E I hf st hg
    subst hP hw hK
    obtain ⟨hz, hTI, ⟨x0, y0, hTO⟩, h1, h2⟩ := st
    obtain ⟨hqx, hqy, hlx, hly⟩ := hg
    obtain ⟨its, rv, p, _⟩ := inv_k I hqx
    obtain ⟨its2, rv2, p2, _⟩ := inv_k I hqy
    have hzl : z < s.heap.objs.size := Heap.lt_size hz
    have hh : X.A.in1.handled = none := I.ok.hd hc
    refine wpAny_pyNext_zipD2_item S (draws_k hh k1 i1 a na its.toArray) (draws_k hh k2 i2 b nb its2.toArray) hz hTI hTO ⟨h1, p⟩ ⟨h2, p2⟩ (by simp; rw [← rv.length]; exact hlx) (by simp; rw [← rv2.length]; exact hly) fun u u2 h' tk hu hu2 z' TO' ⟨h1', _⟩ ⟨h2', _⟩ hT hsz hk => ?_
    refine ⟨_, rfl, wpAny_letOwnedTupleGo_zip (s := { s with heap := h', toks := tk }) z' fun h'' z'' sb => ?_⟩
    have ex : xs[i]? = some xs[i] := List.getElem?_eq_getElem hlx
    have ey : ys[i]? = some ys[i] := List.getElem?_eq_getElem hly
    obtain ⟨u', hu', ru⟩ := rv.get ex
    obtain ⟨u2', hu2', ru2⟩ := rv2.get ey
    have eu : u' = u := by simpa [hu'] using hu
    have eu2 : u2' = u2 := by simpa [hu2'] using hu2
    subst eu eu2
    have hT2 : h''.get? s.heap.objs.size = some { cls := .type "tuple", data := .seq #[u', u2'] } := (sb.2 _ (Nat.ne_of_gt hzl)).trans hT
    have new : ObjOk X.prog X.w (upd H s.heap.objs.size (.tup [xs[i], ys[i]])) h'' s.heap.objs.size (.tup [xs[i], ys[i]]) :=
      ⟨by show 2 ≤ sizeLine; decide, [u', u2'], .cons ru (.cons ru2 .nil), ⟨_, hT2, rfl, _, rfl⟩⟩
    have I1 : Inv X pins σ (upd H s.heap.objs.size (.tup [xs[i], ys[i]])) { s with heap := h'', toks := tk } :=
      I.turnedNew (ch := [z, TI, TO, i1, i2]) (fun c o hb q => (sb.2 c (fun q' => hb (by simp [q']))).trans (hk c o (fun q' => hb (by simp [q'])) (fun q' => hb (by simp [q'])) (fun q' => hb (by simp [q'])) (fun q' => hb (by simp [q'])) q)) hf (Nat.le_refl _) new
    refine ⟨.ref s.heap.objs.size, _, I1, rfl, ⟨_, xs[i], ys[i], rfl, I.hok.fresh (Nat.le_refl _), rfl, ex, ey⟩, ⟨z'', ?_, ⟨u', u2', ?_⟩, ?_, ?_⟩, fun c hcm => ?_⟩
    · exact (sb.2 _ S.TIz).trans (hk _ _ S.TIz S.TITO S.TIi1 S.TIi2 hTI)
    · exact (sb.2 _ S.TOz).trans TO'
    · exact itr_at h1' fun o q => (sb.2 _ (Ne.symm S.zi1)).trans q
    · exact itr_at h2' fun o q => (sb.2 _ (Ne.symm S.zi2)).trans q
    · have hlt : c < s.heap.objs.size := by
        have e' : c = z ∨ c = TI ∨ c = TO ∨ c = i1 ∨ c = i2 := by simpa using hcm
        rcases e' with q | q | q | q | q
        · rw [q]; exact hzl
        · rw [q]; exact Heap.lt_size hTI
        · rw [q]; exact Heap.lt_size hTO
        · rw [q]; obtain ⟨_, e1, _⟩ := itr_obj h1; exact Heap.lt_size e1
        · rw [q]; obtain ⟨_, e2, _⟩ := itr_obj h2; exact Heap.lt_size e2
      rw [upd_ne (Nat.ne_of_lt hlt)]
      exact (hf c hcm).1
  done := by
    intro X hP hw hK hc i pins s σ H E I hf st hg
    subst hP hw hK
    obtain ⟨hz, hTI, ⟨x0, y0, hTO⟩, h1, h2⟩ := st
    obtain ⟨hqx, hqy, hlx, hly, hend⟩ := hg
    obtain ⟨its, rv, p, _⟩ := inv_k I hqx
    obtain ⟨its2, rv2, p2, _⟩ := inv_k I hqy
    have l1 : xs.length = its.length := rv.length
    have l2 : ys.length = its2.length := rv2.length
    have hh : X.A.in1.handled = none := I.ok.hd hc
    exact wpAny_pyNext_zipD2_end S (draws_k hh k1 i1 a na its.toArray) (draws_k hh k2 i2 b nb its2.toArray) hz hTI hTO ⟨h1, p⟩ ⟨h2, p2⟩ (by simp; omega) (by simp; omega) (by simp; omega) fun h' tk hk => ⟨rfl, I.turnedL (ch := [z, TI, TO, i1, i2]) (fun c o hb q =>
      hk c o (fun q' => hb (by simp [q'])) (fun q' => hb (by simp [q'])) (fun q' => hb (by simp [q'])) (fun q' => hb (by simp [q'])) q) hf⟩
  self := fun A i s Q E st h => wpAny_pyIter_zip st.1 h
/-- a list or a tuple: its items, what must not have been written -/
def seqOf (d : D) (h : LH) : Option (List D × Chk) := match d with
  | .tup xs => some (xs, [])
  | .kls xs => some (xs, [])
  | .obj n => match h.get n with
    | some (.lst _ xs) => some (xs, [(n, h.ver n)])
    | _ => none
  | _ => none
def zipD : List D → List D → List D
  | x :: xs, y :: ys => .tup [x, y] :: zipD xs ys
  | _, _ => []
def iZipM (ms : MA) : MI := fun sl h => (ms sl h).bind fun ds h1 => match ds with
  | [a, b] => match seqOf a h1, seqOf b h1 with
    | some p, some q => .ok (zipD p.1 q.1, p.2 ++ q.2) h1
    | _, _ => .stuck
  | _ => .stuck
section
variable {T : Tb} {E : XK} {X : Cx} {ρ ρ0 : List Addr} {lh l0 : LH} {H H0 : Hp} {σ : L2.St}
theorem chkOk_append : ∀ {c1 c2 : Chk}, chkOk (c1 ++ c2) lh = true → chkOk c1 lh = true ∧ chkOk c2 lh = true
  | [], _, h => ⟨rfl, h⟩
  | c :: r, c2, h => by
    obtain ⟨h1, h2⟩ := band (show (Nat.beq (lh.ver c.1) c.2 && chkOk (r ++ c2) lh) = true from h)
    obtain ⟨h3, h4⟩ := chkOk_append h2
    refine ⟨?_, h4⟩
    show (Nat.beq (lh.ver c.1) c.2 && chkOk r lh) = true
    rw [h1, h3]; rfl
/-- a sequence's facts at the start, and later while it is not written -/
theorem seq_ok (hK : X.K = T.K) {d : D} {v : V} {p : List D × Chk} (hr : HR T ρ0 H0 l0) (rd : RelD T ρ0 H0 d v) (e : seqOf d l0 = some p) :
    ∃ k a vs, v = .ref a ∧ RelDs T ρ0 H0 p.1 vs ∧ SqK X.K k H0 a vs ∧ ∀ ρ lh H, Le ρ0 l0 H0 ρ lh H → chkOk p.2 lh = true → SqK X.K k H a vs := by
  unfold seqOf at e
  cases d with
  | tup ds =>
    cases e
    obtain ⟨a, vs, ev, sq, rv⟩ := rd
    rw [← hK] at sq
    exact ⟨true, a, vs, ev, rv, sq, fun ρ lh H le _ => le.toLe0.sqT sq⟩
  | kls ds =>
    cases e
    obtain ⟨a, vs, ev, sq, rv⟩ := rd
    rw [← hK] at sq
    exact ⟨false, a, vs, ev, rv, sq.sqL, fun ρ lh H le _ => (le.toLe0.sqF sq).sqL⟩
  | obj n =>
    simp only at e
    cases e2 : l0.get n with
    | none => rw [e2] at e; cases e
    | some o =>
      rw [e2] at e
      cases o with
      | lst lk xs =>
        cases e
        obtain ⟨a, ev, hn, ho⟩ := obj_of hr rd e2
        obtain ⟨vs, rvs, sq⟩ := ho.sqL
        rw [← hK] at sq
        exact ⟨false, a, vs, ev, rvs, sq, fun ρ lh H le hc => sqL_kept (kept le hn hc) sq⟩
      | dct _ _ => cases e
      | ins _ _ => cases e
  | _ => cases e
theorem zip_len : ∀ (xs ys : List D), (zipD xs ys).length = min xs.length ys.length
  | [], ys => by simp [zipD]
  | _ :: _, [] => by simp [zipD]
  | x :: xs, y :: ys => by
    rw [zipD, List.length_cons, zip_len xs ys, List.length_cons, List.length_cons]
    omega
theorem zip_get : ∀ {xs ys : List D} {i : Nat} {d : D}, (zipD xs ys)[i]? = some d → ∃ x y, xs[i]? = some x ∧ ys[i]? = some y ∧ d = .tup [x, y]
  | [], _, _, _, e => by simp [zipD] at e
  | _ :: _, [], _, _, e => by simp [zipD] at e
  | x :: xs, y :: ys, 0, d, e => ⟨x, y, rfl, rfl, by simpa [zipD] using e.symm⟩
  | x :: xs, y :: ys, i + 1, d, e => by
    obtain ⟨a, b, h1, h2, h3⟩ := zip_get (xs := xs) (ys := ys) (i := i) (by simpa [zipD] using e)
    exact ⟨a, b, by simpa using h1, by simpa using h2, h3⟩
theorem rel_pair {p : Addr} {x y : D} {v u : V} (hr : HR T ρ H lh) (hp : H p = none) (r1 : RelD T ρ H x v) (r2 : RelD T ρ H y u) :
    Le ρ lh H ρ lh (upd H p (.tup [v, u])) ∧ HR T ρ (upd H p (.tup [v, u])) lh ∧ RelD T ρ (upd H p (.tup [v, u])) (.tup [x, y]) (.ref p) :=
  ⟨Le.newTup hr hp, hr.newTup hp, p, [v, u], rfl, SqT.of upd_same, v, [u], rfl, r1.mono (Le.newTup hr hp).toLe0, u, [], rfl, r2.mono (Le.newTup hr hp).toLe0, rfl⟩
theorem src_zip {k1 k2 : Bool} {a b : Addr} {xs ys : List D} {vs us : List V} {c1 c2 : Chk} (r1 : RelDs T ρ0 H0 xs vs) (r2 : RelDs T ρ0 H0 ys us)
    (q1 : ∀ ρ lh H, Le ρ0 l0 H0 ρ lh H → chkOk c1 lh = true → SqK X.K k1 H a vs) (q2 : ∀ ρ lh H, Le ρ0 l0 H0 ρ lh H → chkOk c2 lh = true → SqK X.K k2 H b us) :
    SrcOk T (Itz2 X.K k1 k2 a b vs us) (zipD xs ys) (c1 ++ c2) ρ0 l0 H0 where
  go := fun i d ρ lh H le hr hc e => by
    obtain ⟨hc1, hc2⟩ := chkOk_append hc
    obtain ⟨x, y, e1, e2, ed⟩ := zip_get e
    obtain ⟨v, hv, rv⟩ := r1.get e1
    obtain ⟨u, hu, ru⟩ := r2.get e2
    refine ⟨⟨q1 ρ lh H le hc1, q2 ρ lh H le hc2, (List.getElem?_eq_some_iff.mp hv).1, (List.getElem?_eq_some_iff.mp hu).1⟩, fun w H' ⟨p, v', u', ew, hp, eH, ev', eu'⟩ => ?_⟩
    rw [hv] at ev'
    rw [hu] at eu'
    cases ev'
    cases eu'
    subst ed ew eH
    exact rel_pair hr hp (rv.mono le.toLe0) (ru.mono le.toLe0)
  stop := fun ρ lh H le hr hc => by
    obtain ⟨hc1, hc2⟩ := chkOk_append hc
    have l1 := r1.length
    have l2 := r2.length
    rw [zip_len, l1, l2]
    exact ⟨q1 ρ lh H le hc1, q2 ρ lh H le hc2, by omega, by omega, by omega⟩
theorem pi_zipM {e e2 : Expr} {ms : MA} {p pos tpos : Pos} {elts : List Expr} {kk : Nat} (hK : X.K = T.K) (hg : Gl X "zip") (hm : X.mg "zip" = none) (ha : PA X [e, e2] (rdA T E ms))
    (hs : starEach [e, e2] X.env = (false, eval e X.env) :: starEach [e2] X.env := by rfl) (hpl : (backTo pos (starEach [e2] X.env)).any (·.1) = false := by rfl) :
    PI X (.Tuple elts kk tpos) (.Call (.Name "zip" p) [e, e2] [] pos) (rdI T E (iZipM ms)) := by
  refine ⟨fun pins s σ H R I h => ?_⟩
  obtain ⟨ρ, sl, lh, sr, post⟩ := h
  refine Call_ (ld_blt I hg hm PyProof.Rows.boot_zip (PyProof.Rows.callWith_type1 (thn (ha.run pos pins s σ H _ I ⟨ρ, sl, lh, sr, (PostG.bind post).mono fun ds h1 ρ1 H1 le1 hr1 p1 vs rv => (show ∃ (ρ1 : List Addr) (h1 : LH) (ds : List D), HR T ρ1 H1 h1 ∧ RelDs T ρ1 H1 ds vs ∧ PostG T E ρ1 h1 H1 (match ds with
    | [a, b] => match seqOf a h1, seqOf b h1 with
      | some p, some q => .ok (zipD p.1 q.1, p.2 ++ q.2) h1
      | _, _ => .stuck
    | _ => .stuck) (fun p lh' ρ' H' => ∀ J, SrcOk T J p.1 p.2 ρ' lh' H' → R J H') from ⟨ρ1, h1, ds, hr1, rv, p1⟩)⟩) fun us s1 ⟨vs, H1, I1, r1, ρ1, h1, ds, hr1, rv, p1⟩ => ?_) hs hpl))
  have key : ∃ a b P1 P2, ds = [a, b] ∧ seqOf a h1 = some P1 ∧ seqOf b h1 = some P2 ∧ PostG T E ρ1 h1 H1 (.ok (zipD P1.1 P2.1, P1.2 ++ P2.2) h1) (fun p lh' ρ' H' => ∀ J, SrcOk T J p.1 p.2 ρ' lh' H' → R J H') := by
    split at p1
    · rename_i a b
      split at p1
      · rename_i P1 P2 z1 z2
        exact ⟨a, b, P1, P2, rfl, z1, z2, p1⟩
      · exact p1.elim
    · exact p1.elim
  obtain ⟨a, b, P1, P2, ed, z1, z2, p1⟩ := key
  obtain ⟨va, vb, ev, ra, rb⟩ := rel2 ed rv
  subst ev
  obtain ⟨k1, aa, xs, ea, rxs, sq1, st1⟩ := seq_ok hK hr1 ra z1
  obtain ⟨k2, bb, ys, eb, rys, sq2, st2⟩ := seq_ok hK hr1 rb z2
  subst ea eb
  cases r1 with
  | cons r rr =>
    cases rr with
    | cons r' rr =>
      cases rr
      cases r
      cases r'
      obtain ⟨its, rv1, pp1, la⟩ := inv_k I1 sq1
      obtain ⟨its2, rv2, pp2, lb⟩ := inv_k I1 sq2
      refine zip_begins2 (begins_k k1 aa its.toArray) (begins_k k2 bb its2.toArray) pp1 pp2 fun h' hz hTI hTO g1 g2 hsz hk => wpAny_pyIter_zip hz ?_
      have I2 : Inv X pins σ H1 { s1 with heap := h' } := I1.kept (t' := s1.toks) hk
      have S := zip_sep2 (N := s1.heap.objs.size) (fp1 := [aa]) (fp2 := [bb]) (fun c hc => by rw [show c = aa by simpa using hc]; exact la) (fun c hc => by rw [show c = bb by simpa using hc]; exact lb)
      refine ⟨s1.heap.objs.size + 4, [s1.heap.objs.size + 4, s1.heap.objs.size + 2, s1.heap.objs.size + 3, s1.heap.objs.size, s1.heap.objs.size + 1], _, _, H1, rfl, I2, turn_zip2 (k1 := k1) (k2 := k2) (xs := xs) (ys := ys) S (Nat.ne_of_lt la) (Nat.ne_of_lt (Nat.lt_succ_of_lt lb)), ⟨hz, hTI, ⟨_, _, hTO⟩, itr_new g1, itr_new g2⟩, fun c hcm => ?_, p1 ρ1 H1 Le.refl hr1 _ (src_zip rxs rys st1 st2)⟩
      have e' : c = s1.heap.objs.size + 4 ∨ c = s1.heap.objs.size + 2 ∨ c = s1.heap.objs.size + 3 ∨ c = s1.heap.objs.size ∨ c = s1.heap.objs.size + 1 := by simpa using hcm
      have hle : s1.heap.objs.size ≤ c := by
        rcases e' with z | z | z | z | z
        · rw [z]; exact Nat.le_add_right _ _
        · rw [z]; exact Nat.le_add_right _ _
        · rw [z]; exact Nat.le_add_right _ _
        · rw [z]; exact Nat.le_refl _
        · rw [z]; exact Nat.le_add_right _ _
      exact I1.fpOk hle (I1.hok.fresh hle)
/-! ### enumerate of a list -/
def enumD : Nat → List D → List D
  | _, [] => []
  | i, x :: xs => .tup [.int (i : Nat), x] :: enumD (i + 1) xs
def iEnumM (ms : MA) : MI := fun sl h => (ms sl h).bind fun ds h1 => match ds with
  | [.obj n] => match h1.get n with
    | some (.lst _ xs) => .ok (enumD 0 xs, [(n, h1.ver n)]) h1
    | _ => .stuck
  | _ => .stuck
theorem enum_len : ∀ (i : Nat) (xs : List D), (enumD i xs).length = xs.length
  | _, [] => rfl
  | i, x :: xs => by rw [enumD, List.length_cons, List.length_cons, enum_len]
theorem enum_get : ∀ {k : Nat} {xs : List D} {i : Nat} {d : D}, (enumD k xs)[i]? = some d → ∃ x, xs[i]? = some x ∧ d = .tup [.int ((k + i : Nat) : Int), x]
  | _, [], _, _, e => by simp [enumD] at e
  | k, x :: xs, 0, d, e => ⟨x, rfl, by simpa [enumD] using e.symm⟩
  | k, x :: xs, i + 1, d, e => by
    obtain ⟨y, h1, h2⟩ := enum_get (k := k + 1) (xs := xs) (i := i) (by simpa [enumD] using e)
    exact ⟨y, by simpa using h1, by rw [h2]; congr 3; omega⟩
/-- the list at a, told -/
def Ite2 (K : PySem.W.Frag) (a : Addr) (vs : List V) : It :=
  ⟨fun i H => SqL K H a vs ∧ i < vs.length, fun i H v H' => ∃ p x, v = .ref p ∧ H p = none ∧ H' = upd H p (.tup [.int (i : Nat), x]) ∧ vs[i]? = some x, fun i H => SqL K H a vs ∧ vs.length ≤ i⟩
theorem src_enum {n : Nat} {a : Addr} {ds : List D} {vs : List V} (hn : ρ0[n]? = some a) (rv : RelDs T ρ0 H0 ds vs) (sq : SqL X.K H0 a vs) : SrcOk T (Ite2 X.K a vs) (enumD 0 ds) [(n, l0.ver n)] ρ0 l0 H0 where
  go := fun i d ρ lh H le hr hc e => by
    obtain ⟨y, e1, e2⟩ := enum_get e
    obtain ⟨x, hx, rx⟩ := rv.get e1
    refine ⟨⟨sqL_kept (kept le hn hc) sq, (List.getElem?_eq_some_iff.mp hx).1⟩, fun w H' ⟨p, x', ew, hp, eH, ex⟩ => ?_⟩
    rw [hx] at ex
    cases ex
    subst e2 ew eH
    have := rel_pair (x := .int (i : Nat)) (v := .int (i : Nat)) hr hp rfl (rx.mono le.toLe0)
    simpa using this
  stop := fun ρ lh H le hr hc => ⟨sqL_kept (kept le hn hc) sq, by rw [enum_len, rv.length]; exact Nat.le_refl _⟩
theorem pi_enumM {e : Expr} {ms : MA} {p pos tpos : Pos} {elts : List Expr} {kk : Nat} (hK : X.K = T.K) (hg : Gl X "enumerate") (hm : X.mg "enumerate" = none) (ha : PA X [e] (rdA T E ms)) (hs : starEach [e] X.env = [(false, eval e X.env)] := by rfl) :
    PI X (.Tuple elts kk tpos) (.Call (.Name "enumerate" p) [e] [] pos) (rdI T E (iEnumM ms)) := by
  refine ⟨fun pins s σ H R I h => ?_⟩
  obtain ⟨ρ, sl, lh, sr, post⟩ := h
  refine Call_ (ld_blt I hg hm boot_enumerate (PyProof.Rows.callWith_type1 (thn (ha.run pos pins s σ H _ I ⟨ρ, sl, lh, sr, (PostG.bind post).mono fun ds h1 ρ1 H1 le1 hr1 p1 vs rv => (show ∃ (ρ1 : List Addr) (h1 : LH) (ds : List D), HR T ρ1 H1 h1 ∧ RelDs T ρ1 H1 ds vs ∧ PostG T E ρ1 h1 H1 (match ds with
    | [.obj n] => match h1.get n with
      | some (.lst _ xs) => .ok (enumD 0 xs, [(n, h1.ver n)]) h1
      | _ => .stuck
    | _ => .stuck) (fun p lh' ρ' H' => ∀ J, SrcOk T J p.1 p.2 ρ' lh' H' → R J H') from ⟨ρ1, h1, ds, hr1, rv, p1⟩)⟩) fun us s1 ⟨vs, H1, I1, r1, ρ1, h1, ds, hr1, rv, p1⟩ => ?_) hs rfl))
  have key : ∃ n lk xs, ds = [.obj n] ∧ h1.get n = some (.lst lk xs) ∧ PostG T E ρ1 h1 H1 (.ok (enumD 0 xs, [(n, h1.ver n)]) h1) (fun p lh' ρ' H' => ∀ J, SrcOk T J p.1 p.2 ρ' lh' H' → R J H') := by
    split at p1
    · rename_i n
      split at p1
      · rename_i lk xs z
        exact ⟨n, lk, xs, rfl, z, p1⟩
      · exact p1.elim
    · exact p1.elim
  obtain ⟨n, lk, xs, ed, z, p1⟩ := key
  obtain ⟨v, ev, ra⟩ := rel1 ed rv
  subst ev
  obtain ⟨a, ea, hn, ho⟩ := obj_of hr1 ra z
  obtain ⟨ws, rws, sq⟩ := ho.sqL
  rw [← hK] at sq
  subst ea
  cases r1 with
  | cons r rr =>
    cases rr
    cases r
    obtain ⟨its, rv, p', hz⟩ := I1.list sq
    refine call_enumerate_list p'.isList fun h' he hit hsz hk => wpAny_pyIter_enum he ?_
    have I2 : Inv X pins σ H1 { s1 with heap := h' } := I1.kept (t' := s1.toks) hk
    refine ⟨s1.heap.objs.size + 1, [s1.heap.objs.size + 1, s1.heap.objs.size], _, _, H1, rfl, I2, (turn_enum a (s1.heap.objs.size + 1) s1.heap.objs.size).weak (J' := Ite2 X.K a ws) (fun i H ⟨h1, h2⟩ => ⟨ws, ws[i], h1, List.getElem?_eq_getElem h2⟩) (fun i H x H' ⟨h0, _⟩ ⟨p, y, h1, h2, h3, h4⟩ => ⟨p, y, h1, h2, h3, h4 ws h0⟩) (fun i H ⟨h1, h2⟩ => ⟨ws, h1, h2⟩), ⟨⟨.none, he⟩, hit, Nat.succ_ne_self _⟩, fun b hb => ?_, p1 ρ1 H1 Le.refl hr1 _ (src_enum hn rws sq)⟩
    have e' : b = s1.heap.objs.size + 1 ∨ b = s1.heap.objs.size := by simpa using hb
    have hle : s1.heap.objs.size ≤ b := by
      rcases e' with z | z
      · rw [z]; exact Nat.le_add_right _ _
      · rw [z]; exact Nat.le_refl _
    exact I1.fpOk hle (I1.hok.fresh hle)
end
end TL

namespace TL
open PySem PySem.Spec PyProof.Rows L2

/-! ### d.items() -/
def Itdi (d : Addr) (es : Array DictEntry) (ep : Nat) : It :=
  ⟨fun i H => H d = some (dictO d es ep) ∧ i < es.size, fun i H x H' => ∃ p k v e, x = .ref p ∧ H p = none ∧ H' = upd H p (.tup [k, v]) ∧ es[i]? = some e ∧ RelV k e.key ∧ RelV v e.val, fun i H => H d = some (dictO d es ep) ∧ es.size ≤ i⟩
theorem turn_di {P : Program} {w : World} {K : PySem.W.Frag} {elts : List Expr} {kk : Nat} {tpos : Pos} {d : Addr} {es : Array DictEntry} {ep : Nat} (it : Addr) (hv : ∀ e ∈ es.toList, ∃ k v, RelV k e.key ∧ RelV v e.val) :
    Turn P w K (.Tuple elts kk tpos) (Itdi d es ep) [it] it (fun i h => ∃ ok ov, IsItemIter h it d i es.size ep ok ov) where
  mem := by simp
  obj := fun i h st b hb => by
    have e : b = it := by simpa using hb
    subst e
    obtain ⟨ok, ov, e⟩ := st
    exact ⟨_, e, fun v z => nomatch z⟩
  keep := fun i h h' st k => let ⟨ok, ov, e⟩ := st; ⟨ok, ov, k it (by simp) _ e⟩
  item := by
    intro X hP hw hK hc i pins s σ H E I hf st hg
    subst hP hw hK
    obtain ⟨hd, hi⟩ := hg
    obtain ⟨ok, ov, he⟩ := st
    have hlt : it < s.heap.objs.size := Heap.lt_size he
    obtain ⟨k, v, rk, rv⟩ := hv es[i] (by simp)
    refine wpAny_pyNext_items_item_raw he (Inv.rawD I hd) hi fun h' ho hT hz hk => ?_
    refine ⟨_, rfl, wpAny_letOwnedTupleGo_items (s := { s with heap := h' }) ho fun h'' he' sb => ?_⟩
    have hT2 : h''.get? s.heap.objs.size = some { cls := .type "tuple", data := .seq #[es[i].key, es[i].val] } := (sb.2 _ (Nat.ne_of_gt hlt)).trans hT
    have new : ObjOk X.prog X.w (upd H s.heap.objs.size (.tup [k, v])) h'' s.heap.objs.size (.tup [k, v]) :=
      ⟨by show 2 ≤ sizeLine; decide, [es[i].key, es[i].val], .cons rk (.cons rv .nil), ⟨_, hT2, rfl, _, rfl⟩⟩
    have I1 : Inv X pins σ (upd H s.heap.objs.size (.tup [k, v])) { s with heap := h'' } :=
      I.turnedNew (t' := s.toks) (ch := [it]) (fun b ob hb e => (sb.2 b (by simpa using hb)).trans (hk b ob (by simpa using hb) e)) hf (Nat.le_refl _) new
    refine ⟨.ref s.heap.objs.size, _, I1, rfl, ⟨_, k, v, es[i], rfl, I.hok.fresh (Nat.le_refl _), rfl, by simp [hi], rk, rv⟩, ⟨es[i].key, es[i].val, he'⟩, fun b hb => ?_⟩
    have e : b = it := by simpa using hb
    rw [e, upd_ne (Nat.ne_of_lt hlt)]
    exact (hf it (by simp)).1
  done := by
    intro X hP hw hK hc i pins s σ H E I hf st hg
    subst hP hw hK
    obtain ⟨hd, hi⟩ := hg
    obtain ⟨f0, f1, f2, f3, f4, f5⟩ := hf it (by simp)
    obtain ⟨ok, ov, he⟩ := st
    exact wpAny_pyNext_items_end_raw (I.ok.hd hc) he (Inv.rawD I hd) hi fun h' eb => ⟨rfl, I.turned (t' := s.toks) (fun b ob hb e => eb b ob hb e) f0 f1 f3 f4 f5⟩
  self := fun A i s Q E st h => let ⟨_, _, e⟩ := st; PySem.W.kcp_self e h
def iItemsM (m : ME) : MI := fun sl h => (m sl h).bind fun d h1 => match d with
  | .obj n => match h1.get n with
    | some (.dct _ kvs) => .ok (kvs.map fun x => D.tup [x.2.1, x.2.2], [(n, h1.ver n)]) h1
    | _ => .stuck
  | _ => .stuck
section
variable {T : Tb} {E : XK} {X : Cx} {ρ ρ0 : List Addr} {lh l0 : LH} {H H0 : Hp} {σ : L2.St}
theorem src_di {n : Nat} {a : Addr} {kd : Bool} {kvs : List Ent} {es : Array DictEntry} {ep : Nat} (hn : ρ0[n]? = some a) (he : EntsR T ρ0 H0 kd kvs es.toList) (hH : H0 a = some (dictO a es ep)) :
    SrcOk T (Itdi a es ep) (kvs.map fun x => D.tup [x.2.1, x.2.2]) [(n, l0.ver n)] ρ0 l0 H0 where
  go := fun i d ρ lh H le hr hc e => by
    rw [List.getElem?_map] at e
    obtain ⟨x, e1, e2⟩ := map_some e
    subst e2
    obtain ⟨en, h1, kv, vv, r1, r2, r3, r4, _⟩ := ents_get he e1
    have h1' : es[i]? = some en := by simpa using h1
    have hi : i < es.size := (Array.getElem?_eq_some_iff.mp h1').1
    refine ⟨⟨(kept le hn hc).trans hH, hi⟩, fun y H' ⟨p, k, v, en', ey, hp, eH, e4, r5, r6⟩ => ?_⟩
    subst ey eH
    rw [h1'] at e4
    cases e4
    rw [relV_inj r5 r1, relV_inj r6 r3]
    exact rel_pair hr hp (r2.mono le.toLe0) (r4.mono le.toLe0)
  stop := fun ρ lh H le hr hc => ⟨(kept le hn hc).trans hH, by rw [List.length_map, he.length]; simp⟩
theorem pi_itemsM {e : Expr} {m : ME} {apos cpos tpos : Pos} {elts : List Expr} {kk : Nat} (he : PE X e (rdE T E m)) (hbase : attributeBase e "items" X.env (eval e X.env) = eval e X.env := by rfl) (hline : (apos.endLine == cpos.line) = true := by rfl) :
    PI X (.Tuple elts kk tpos) (.Call (.Attribute e "items" apos) [] [] cpos) (rdI T E (iItemsM m)) := by
  refine ⟨fun pins s σ H R I h => ?_⟩
  obtain ⟨ρ, sl, lh, sr, post⟩ := h
  refine wpAny_Call_method (T := "dict") (id := "dict.items") hbase rfl hline F.plainAttrs_dict F.slot_dict_items F.type_dict_items (thn (he.run pins s σ H _ I ⟨ρ, sl, lh, sr, (PostG.bind post).mono fun d h1 ρ1 H1 le1 hr1 p1 v rv => (show ∃ (ρ1 : List Addr) (h1 : LH) (d : D), HR T ρ1 H1 h1 ∧ RelD T ρ1 H1 d v ∧ PostG T E ρ1 h1 H1 (match d with
    | .obj n => match h1.get n with
      | some (.dct _ kvs) => .ok (kvs.map fun x => D.tup [x.2.1, x.2.2], [(n, h1.ver n)]) h1
      | _ => .stuck
    | _ => .stuck) (fun p lh' ρ' H' => ∀ J, SrcOk T J p.1 p.2 ρ' lh' H' → R J H') from ⟨ρ1, h1, d, hr1, rv, p1⟩)⟩) fun u s1 ⟨v, H1, I1, ru, ρ1, h1, d, hr1, rv, p1⟩ => ?_)
  have key : ∃ n kd kvs, d = .obj n ∧ h1.get n = some (.dct kd kvs) ∧ PostG T E ρ1 h1 H1 (.ok (kvs.map fun x => D.tup [x.2.1, x.2.2], [(n, h1.ver n)]) h1) (fun p lh' ρ' H' => ∀ J, SrcOk T J p.1 p.2 ρ' lh' H' → R J H') := by
    split at p1
    · rename_i n
      split at p1
      · rename_i kd kvs z
        exact ⟨n, kd, kvs, rfl, z, p1⟩
      · exact p1.elim
    · exact p1.elim
  obtain ⟨n, kd, kvs, ed, z, p2⟩ := key
  clear p1
  subst ed
  obtain ⟨a, ev, hn, hsm, hlen, nd, es, ep, hes, hH⟩ := obj_of hr1 rv z
  subst ev
  cases ru
  have raw := Inv.rawD I1 hH
  obtain ⟨o, ho, hx, _⟩ := id raw
  refine ⟨raw.typeIs, fun b q => by cases q; exact ⟨o, ho, hx.2.1⟩, ?_⟩
  have I2 : Inv X pins σ H1 { s1 with heap := s1.heap.push { cls := .type "dict_items", data := .fields #[.ref a] } } := I1.kept (t' := s1.toks) fun b ob q => Heap.get?_push_of_some _ q
  have fin : wpAny (model X.prog X.w) X.A (pyIter (.ref s1.heap.objs.size)) (PIE X pins σ (.Tuple elts kk tpos) R) X.xe { s1 with heap := s1.heap.push { cls := .type "dict_items", data := .fields #[.ref a] } } := by
    refine wpAny_pyIter_items_raw (d := a) ⟨_, Heap.get?_push_size _ rfl, rfl, rfl⟩ (Inv.rawD I2 hH) (pi_one (tk := s1.toks) I2 _ (turn_di _ fun e he => ?_) ⟨.none, .none, Heap.get?_push_size _ rfl⟩ (p2 ρ1 H1 Le.refl hr1 _ (src_di hn hes hH)))
    obtain ⟨x, kv, vv, r1, _, r2, _⟩ := ents_mem hes he
    exact ⟨kv, vv, r1, r2⟩
  show wpAny _ _ (callWith cpos (.builtin "dict.items") [.ref a] [] []) _ X.xe s1
  exact method_meetsIn F.slot_dict_items F.entry_dict_items rfl (PySem.evalArgs_none ⟨rfl, raw.typeIs, F.args_dict_items_1 _, _, meets_dict_items_raw a hsm, ⟨es, ep, raw⟩, fin⟩)
end

/-! ### targets of loops and comprehensions: names -/
inductive Tg where
  | nm (i : Nat) | tp (is : List Nat)
def setAll : Sl → List Nat → List D → Sl
  | sl, i :: is, d :: ds => setAll (sl.set i (some d)) is ds
  | sl, _, _ => sl
def tgM (t : Tg) (d : D) (sl : Sl) : Option Sl := match t with
  | .nm i => some (sl.set i (some d))
  | .tp is => match d with
    | .tup ds => bif Nat.beq ds.length is.length then some (setAll sl is ds) else none
    | _ => none
def gsR : List Nat → TGs
  | [] => gNil
  | i :: is => gCons (gName i) (gsR is)
def tgR (K : PySem.W.Frag) : Tg → TG
  | .nm i => gName i
  | .tp is => gTup K is.length (gsR is)
def tgIs : Tg → List Nat
  | .nm i => [i]
  | .tp is => is
theorem wipe_get {σ : L2.St} {j : Nat} : ∀ {vs : List Nat}, (wipe σ vs)[j]? = if j ∈ vs then (if j < σ.length then some none else none) else σ[j]?
  | [] => by simp [wipe]
  | v :: vs => by
    unfold wipe
    have ih := wipe_get (σ := σ) (j := j) (vs := vs)
    by_cases h : v = j
    · subst h
      by_cases hl : v < σ.length
      · rw [List.getElem?_set_self (by rw [wipe_length]; exact hl)]
        simp [hl]
      · rw [List.getElem?_eq_none (by rw [List.length_set, wipe_length]; omega)]
        simp [hl]
    · rw [List.getElem?_set_ne h, ih]
      simp [Ne.symm h]
theorem wipe_set {σ : L2.St} {i : Nat} {x : Option V} {vs : List Nat} (h : i ∈ vs) : wipe (σ.set i x) vs = wipe σ vs := by
  refine List.ext_getElem? fun j => ?_
  rw [wipe_get, wipe_get, List.length_set]
  by_cases hj : j ∈ vs
  · rw [if_pos hj, if_pos hj]
  · rw [if_neg hj, if_neg hj, List.getElem?_set_ne (fun e => hj (by rw [← e]; exact h))]
theorem wipe_wipe {σ : L2.St} {vs : List Nat} : wipe (wipe σ vs) vs = wipe σ vs := by
  refine List.ext_getElem? fun j => ?_
  rw [wipe_get, wipe_get, wipe_length]
  by_cases hj : j ∈ vs
  · rw [if_pos hj, if_pos hj]
  · rw [if_neg hj, if_neg hj]
section
variable {T : Tb} {E : XK} {X : Cx} {ρ ρ0 : List Addr} {lh l0 : LH} {H H0 : Hp} {σ : L2.St}
theorem gsR_ok {Q : L2.St → Hp → Prop} : ∀ {is : List Nat} {ds : List D} {vs : List V} {sl : Sl} {σ : L2.St}, SR T ρ H sl lh σ → RelDs T ρ H ds vs → ds.length = is.length →
    (∀ σ', SR T ρ H (setAll sl is ds) lh σ' → (∀ us : List Nat, (∀ i ∈ is, i ∈ us) → wipe σ' us = wipe σ us) → Q σ' H) → gsR is vs σ H Q
  | [], [], vs, sl, σ, sr, rv, _, q => ⟨rv, q σ sr fun _ _ => rfl⟩
  | i :: is, d :: ds, vs, sl, σ, sr, ⟨v, r, ev, h1, h2⟩, hl, q => by
    refine ⟨v, r, ev, gsR_ok (sr.set i h1) h2 (by simpa using hl) fun σ' sr' hw => q σ' sr' fun us hu => ?_⟩
    rw [hw us fun j hj => hu j (List.mem_cons_of_mem _ hj), wipe_set (hu i List.mem_cons_self)]
  | [], _ :: _, _, _, _, _, _, hl, _ => by simp at hl
  | _ :: _, [], _, _, _, _, _, hl, _ => by simp at hl
theorem tgR_ok (hK : X.K = T.K) {t : Tg} {d : D} {v : V} {sl sl' : Sl} {Q : L2.St → Hp → Prop} (sr : SR T ρ H sl lh σ) (rd : RelD T ρ H d v) (e : tgM t d sl = some sl')
    (q : ∀ σ', SR T ρ H sl' lh σ' → (∀ us : List Nat, (∀ i ∈ tgIs t, i ∈ us) → wipe σ' us = wipe σ us) → Q σ' H) : tgR X.K t v σ H Q := by
  cases t with
  | nm i =>
    cases e
    exact q _ (sr.set i rd) fun us hu => wipe_set (hu i (by simp [tgIs]))
  | tp is =>
    cases d with
    | tup ds =>
      have e : (bif Nat.beq ds.length is.length then some (setAll sl is ds) else none) = some sl' := e
      cases hb : Nat.beq ds.length is.length with
      | false => rw [hb] at e; cases e
      | true =>
        rw [hb] at e
        cases e
        have hl := Nat.eq_of_beq_eq_true hb
        obtain ⟨a, vs, ev, sq, rv⟩ := rd
        exact ⟨a, vs, ev, by rw [hK]; exact sq, by rw [← rv.length]; exact hl, gsR_ok sr rv hl q⟩
    | _ => cases e

/-! ### for -/
def forD (chk : Chk) (t : Tg) (b : MS) : List D → MS
  | [] => fun sl h => bif chkOk chk h then .nx sl h else .stuck
  | d :: r => fun sl h => bif chkOk chk h then (match tgM t d sl with
    | some sl1 => match b sl1 h with
      | .nx sl2 h2 => forD chk t b r sl2 h2
      | .ct sl2 h2 => forD chk t b r sl2 h2
      | .bk sl2 h2 => .nx sl2 h2
      | z => z
    | none => .stuck) else .stuck
def sFor (mi : MI) (t : Tg) (b : MS) : MS := fun sl h => (mi sl h).toS fun p h1 => forD p.2 t b p.1 sl h1
theorem condS {b : Bool} {r : SRes} {Dd : Ends} (h : PostS T E ρ lh H (bif b then r else .stuck) Dd) : b = true ∧ PostS T E ρ lh H r Dd := by
  cases b with
  | true => exact ⟨rfl, h⟩
  | false => exact h.elim
theorem drop_get {α : Type} {xs : List α} {i : Nat} {x : α} {r : List α} (e : xs.drop i = x :: r) : xs[i]? = some x ∧ xs.drop (i + 1) = r ∧ i < xs.length := by
  have hl : i < xs.length := by
    by_cases h : i < xs.length
    · exact h
    · rw [List.drop_eq_nil_of_le (by omega)] at e; cases e
  rw [List.drop_eq_getElem_cons hl] at e
  cases e
  exact ⟨List.getElem?_eq_getElem hl, rfl, hl⟩
theorem drop_nil {α : Type} {xs : List α} {i : Nat} (hi : i ≤ xs.length) (e : xs.drop i = []) : i = xs.length := by
  have := List.drop_eq_nil_iff.mp e
  omega
theorem rd_for (hK : X.K = T.K) {mi : MI} {t : Tg} {b : MS} {Dd : Ends} (h : rdS T E (sFor mi t b) Dd σ H) : tFor (rdI T E mi) (tgR X.K t) (rdS T E b) Dd σ H := by
  obtain ⟨ρ, sl, lh, sr, post⟩ := h
  refine ⟨ρ, sl, lh, sr, (PostS.bind post).mono fun p h1 ρ1 H1 le1 hr1 p1 J src => ?_⟩
  refine ⟨fun i m σ H => m = p.1.length - i ∧ i ≤ p.1.length ∧ ∃ ρ2 sl2 lh2, Le ρ1 h1 H1 ρ2 lh2 H ∧ SR T ρ2 H sl2 lh2 σ ∧ PostS T E ρ2 lh2 H (forD p.2 t b (p.1.drop i) sl2 lh2) Dd,
    ⟨p.1.length, rfl, Nat.zero_le _, ρ1, sl, h1, Le.refl, sr.mono le1 hr1, p1⟩, ?_⟩
  rintro i m σ2 H2 ⟨em, hi, ρ2, sl2, lh2, le2, sr2, p2⟩
  subst em
  cases e : p.1.drop i with
  | nil =>
    rw [e] at p2
    obtain ⟨hc, p2⟩ := condS p2
    have ei := drop_nil hi e
    refine .inl ⟨?_, p2 ρ2 H2 σ2 Le.refl sr2⟩
    rw [ei]
    exact src.stop ρ2 lh2 H2 le2 sr2.hr hc
  | cons d r =>
    rw [e] at p2
    obtain ⟨hc, p2⟩ := condS p2
    obtain ⟨e1, e2, hlt⟩ := drop_get e
    obtain ⟨go, yld⟩ := src.go i d ρ2 lh2 H2 le2 sr2.hr hc e1
    refine .inr ⟨go, fun σ' H' => ∃ ρ3 sl3 lh3, Le ρ1 h1 H1 ρ3 lh3 H' ∧ SR T ρ3 H' sl3 lh3 σ' ∧ PostS T E ρ3 lh3 H' (forD p.2 t b r sl3 lh3) Dd,
      fun σ' H' ⟨ρ3, sl3, lh3, q1, q2, q3⟩ => ⟨p.1.length - (i + 1), by omega, rfl, by omega, ρ3, sl3, lh3, q1, q2, by rw [e2]; exact q3⟩, fun x H3 hy => ?_⟩
    obtain ⟨le3, hr3, rx⟩ := yld x H3 hy
    cases e3 : tgM t d sl2 with
    | none => rw [e3] at p2; exact p2.elim
    | some sl3 =>
      rw [e3] at p2
      refine tgR_ok hK (sr2.mono le3 hr3) rx e3 fun σ4 sr4 _ => ⟨ρ2, sl3, lh2, sr4, ?_⟩
      have p2 := PostS.later p2 le3
      cases e4 : b sl3 lh2 with
      | nx sl5 h5 => simp only [e4] at p2; exact fun ρ5 H5 σ5 le5 sr5 => ⟨ρ5, sl5, h5, (le2.trans le3).trans le5, sr5, PostS.later p2 le5⟩
      | ct sl5 h5 => simp only [e4] at p2; exact fun ρ5 H5 σ5 le5 sr5 => ⟨ρ5, sl5, h5, (le2.trans le3).trans le5, sr5, PostS.later p2 le5⟩
      | bk sl5 h5 => simp only [e4] at p2; exact p2
      | rt d5 h5 => simp only [e4] at p2; exact p2
      | err c5 q5 h5 => simp only [e4] at p2; exact p2
      | stuck => simp only [e4] at p2; exact p2

/-! ### [e for t in s if c] -/
def wipeL (sl : Sl) : List Nat → Sl
  | [] => sl
  | v :: vs => (wipeL sl vs).set v none
theorem SR.unset {sl : Sl} (s : SR T ρ H sl lh σ) (i : Nat) : SR T ρ H (sl.set i none) lh (σ.set i none) := by
  refine ⟨s.hr, by rw [List.length_set, List.length_set]; exact s.len, fun j e he => ?_⟩
  by_cases hj : i = j
  · subst hj
    by_cases hl : i < sl.length
    · rw [List.getElem?_set_self hl] at he; cases he
    · rw [List.getElem?_eq_none (by rw [List.length_set]; omega)] at he; cases he
  · rw [List.getElem?_set_ne hj] at he
    rw [List.getElem?_set_ne hj]
    exact s.sl j e he
theorem SR.wipe {sl : Sl} (s : SR T ρ H sl lh σ) : ∀ vs : List Nat, SR T ρ H (wipeL sl vs) lh (L2.wipe σ vs)
  | [] => s
  | v :: vs => (SR.wipe s vs).unset v
def noErr {α : Type} (r : Res α) : Res α := match r with
  | .err _ _ _ => .stuck
  | z => z
theorem noErr_post {α : Type} {r : Res α} {E' : XK} {W : α → LH → List Addr → Hp → Prop} (h : PostG T E ρ lh H (noErr r) W) : PostG T E' ρ lh H r W := by
  cases r with
  | ok a h1 => exact h
  | err c p h1 => exact h.elim
  | stuck => exact h
def lcD (chk : Chk) (t : Tg) (mt : MT) (me : ME) (sl : Sl) (n : Nat) : List D → LH → Res Unit
  | [] => fun h => bif chkOk chk h then .ok () h else .stuck
  | d :: r => fun h => bif chkOk chk h then (match tgM t d sl with
    | some sl1 => (noErr (mt sl1 h)).bind fun b h2 => match b with
      | true => (noErr (me sl1 h2)).bind fun y h3 => match h3.get n with
        | some (.lst false xs) => bif Nat.ble xs.length tooLong then lcD chk t mt me sl n r (h3.put n (.lst false (xs ++ [y]))) else .stuck
        | _ => .stuck
      | false => lcD chk t mt me sl n r h2
    | none => .stuck) else .stuck
def mLc (mi : MI) (t : Tg) (mt : MT) (me : ME) (own : List Nat) : ME := fun sl h => (mi sl h).bind fun p h1 => (lcD p.2 t mt me (wipeL sl own) h1.nx p.1 (h1.new (.lst false []))).bind fun _ h2 => .ok (.obj h1.nx) h2
theorem rd_lc (hK : X.K = T.K) {E' : XK} {mi : MI} {t : Tg} {mt : MT} {me : ME} {own : List Nat} {Q : VK} (ht : ∀ i ∈ tgIs t, i ∈ own) (h : rdE T E (mLc mi t mt me own) σ H Q) : tLc (rdI T E mi) (tgR X.K t) (rdT T E' mt) (rdE T E' me) own σ H Q := by
  obtain ⟨ρ, sl, lh, sr, post⟩ := h
  refine ⟨ρ, sl, lh, sr, (PostG.bind post).mono fun p h1 ρ1 H1 le1 hr1 p1 J src Dn hD => ?_⟩
  have sr1 := sr.mono le1 hr1
  have leN : Le ρ1 h1 H1 (ρ1 ++ [Dn]) (h1.new (.lst false [])) (upd H1 Dn (.lst [])) := Le.newObj hr1 hD (upd_old hD)
  have hrN : HR T (ρ1 ++ [Dn]) (upd H1 Dn (.lst [])) (h1.new (.lst false [])) := hr1.newObj hD (upd_old hD) (by rw [upd_same]; simp) ⟨[], rfl, upd_same⟩
  have hnx : (ρ1 ++ [Dn])[h1.nx]? = some Dn := newest hr1
  have p1 := PostG.bind (PostG.later p1 leN)
  refine ⟨fun i m H => m = p.1.length - i ∧ i ≤ p.1.length ∧ ∃ ρ2 lh2, Le (ρ1 ++ [Dn]) (h1.new (.lst false [])) (upd H1 Dn (.lst [])) ρ2 lh2 H ∧ HR T ρ2 H lh2 ∧ PostG T E ρ2 lh2 H (lcD p.2 t mt me (wipeL sl own) h1.nx (p.1.drop i) lh2) (fun _ lh' ρ' H' => PostE T E ρ' lh' H' (.ok (.obj h1.nx) lh') Q),
    ⟨p.1.length, rfl, Nat.zero_le _, _, _, Le.refl, hrN, p1⟩, ?_⟩
  rintro i m H2 ⟨em, hi, ρ2, lh2, le2, hr2, p2⟩
  subst em
  have hn2 : ρ2[h1.nx]? = some Dn := le2.toLe0.get hnx
  have leS := leN.trans le2
  cases e : p.1.drop i with
  | nil =>
    rw [e] at p2
    obtain ⟨hc, p2⟩ := cond_stuck p2
    have ei := drop_nil hi e
    refine .inl ⟨?_, PostE.ok (p2 ρ2 H2 Le.refl hr2) Le.refl hr2 ⟨Dn, hn2, rfl⟩⟩
    rw [ei]
    exact src.stop ρ2 lh2 H2 leS hr2 hc
  | cons d r =>
    rw [e] at p2
    obtain ⟨hc, p2⟩ := cond_stuck p2
    obtain ⟨e1, e2, hlt⟩ := drop_get e
    obtain ⟨go, yld⟩ := src.go i d ρ2 lh2 H2 leS hr2 hc e1
    refine .inr ⟨go, fun H' => ∃ ρ3 lh3, Le (ρ1 ++ [Dn]) (h1.new (.lst false [])) (upd H1 Dn (.lst [])) ρ3 lh3 H' ∧ HR T ρ3 H' lh3 ∧ PostG T E ρ3 lh3 H' (lcD p.2 t mt me (wipeL sl own) h1.nx r lh3) (fun _ lh' ρ' H' => PostE T E ρ' lh' H' (.ok (.obj h1.nx) lh') Q),
      fun H' ⟨ρ3, lh3, q1, q2, q3⟩ => ⟨p.1.length - (i + 1), by omega, rfl, by omega, ρ3, lh3, q1, q2, by rw [e2]; exact q3⟩, fun x H3 hy => ?_⟩
    obtain ⟨le3, hr3, rx⟩ := yld x H3 hy
    have p2 := PostG.later p2 le3
    have le23 := le2.trans le3
    cases e3 : tgM t d (wipeL sl own) with
    | none => rw [e3] at p2; exact p2.elim
    | some sl3 =>
      rw [e3] at p2
      refine tgR_ok hK ((SR.wipe sr1 own).mono (leN.trans le23) hr3) rx e3 fun σ4 sr4 hw => ⟨by rw [hw own ht, wipe_wipe], ρ2, sl3, lh2, sr4, ?_⟩
      refine (noErr_post (PostG.bind p2)).mono fun b h4 ρ4 H4 le4 hr4 p4 => ?_
      cases b with
      | false => exact ⟨ρ4, h4, le23.trans le4, hr4, p4⟩
      | true =>
        refine ⟨ρ4, sl3, h4, sr4.mono le4 hr4, (noErr_post (PostG.bind p4)).mono fun y h5 ρ5 H5 le5 hr5 p5 v rv => ?_⟩
        split at p5
        · rename_i xs e5
          obtain ⟨hb, p5⟩ := cond_stuck p5
          have le25 := (le23.trans le4).trans le5
          have hn5 : ρ5[h1.nx]? = some Dn := le25.toLe0.get hnx
          obtain ⟨a, ea, ho⟩ := hr5.obj _ _ e5
          rw [hn5] at ea
          cases ea
          obtain ⟨vs, rvs, hH⟩ := ho
          have hH : H5 Dn = some (.lst vs) := hH
          have le0 : Le0 ρ5 H5 ρ5 (upd H5 Dn (.lst (vs ++ [v]))) := le0_lst hH
          have same : ∀ c, c ≠ Dn → upd H5 Dn (.lst (vs ++ [v])) c = H5 c := fun c hc => upd_ne hc
          have leW : Le ρ5 h5 H5 ρ5 (h5.put h1.nx (.lst false (xs ++ [y]))) (upd H5 Dn (.lst (vs ++ [v]))) := Le.write hr5 hn5 le0 same
          refine ⟨vs, hH, ?_, ρ5, h5.put h1.nx (.lst false (xs ++ [y])), le25.trans leW, hr5.write hn5 le0 same (by rw [upd_same]; simp) ⟨vs ++ [v], (rvs.append (RelDs.one rv)).mono le0, upd_same⟩, PostG.later p5 leW⟩
          have := Nat.le_of_ble_eq_true hb
          rw [← rvs.length, sizeLine_eq]
          unfold tooLong at this
          omega
        · exact p5.elim
end
end TL

namespace TL
open PySem PySem.Spec PyProof.Rows L2

/-! ### dicts and sequences together: a[b], a in b, len, list -/
def dctAt (d : D) (h : LH) : Option (List Ent) := match d with
  | .obj n => match h.get n with
    | some (.dct _ kvs) => some kvs
    | _ => none
  | _ => none
def vIdx (a b : D) (h : LH) : Res D := match dctAt a h with
  | some _ => match dLook a b h with
    | some (some r) => .ok r h
    | _ => .stuck
  | none => vIdxS a b h
def vIn (neg : Bool) (a b : D) (h : LH) : Res D := match dctAt b h with
  | some _ => match dLook b a h with
    | some o => .ok (.bl (bif neg then !o.isSome else o.isSome)) h
    | none => .stuck
  | none => vInS neg a b h
def bLen (d : D) (h : LH) : Res D := match dctAt d h with
  | some kvs => .ok (.int kvs.length) h
  | none => bLenS d h
def bList (d : D) (h : LH) : Res D := match dctAt d h with
  | some kvs => .ok (.obj h.nx) (h.new (.lst false (kvs.map (·.2.1))))
  | none => bListS d h
section
variable {T : Tb} {E : XK} {X : Cx} {pins : List (Addr × Obj)} {σ : L2.St} {H : Hp} {s : Shared} {ρ : List Addr} {lh : LH}
theorem xr_ix (hK : X.K = T.K) (hw : X.w = T.w) (hu : X.A.units + 65 < cLine) : IxR X (rdOp T E vIdx) := by
  intro value slice pins s σ H x y v u Q I rx ry h hs
  obtain ⟨ρ, lh, a, b, hr, ra, rb, post⟩ := h
  unfold vIdx at post
  cases e : dctAt a lh with
  | none => rw [e] at post; exact xr_idx hK value slice pins s σ H x y v u Q I rx ry ⟨ρ, lh, a, b, hr, ra, rb, post⟩ hs
  | some kvs =>
    rw [e] at post
    simp only at post
    split at post
    · rename_i r e2
      obtain ⟨ty, go⟩ := look_get (Q := EP X pins σ Q) (E' := X.xe) hK hw hu I hr ra rb rx ry e2 fun w' s' vv I' rv rr => ⟨vv, H, I', rv, PostE.ok post Le.refl hr rr⟩
      exact tail_any ty slot_dict_getitem.lookup go hs
    · exact post.elim
theorem or_in (hK : X.K = T.K) (hw : X.w = T.w) (hu : X.A.units + 65 < cLine) (neg : Bool) : OpR X (compareOp (bif neg then .NotIn else .In)) (rdOp T E (vIn neg)) := by
  intro pins s σ H x y v u Q I rx ry h
  obtain ⟨ρ, lh, a, b, hr, ra, rb, post⟩ := h
  unfold vIn at post
  cases e : dctAt b lh with
  | none => rw [e] at post; exact or_inS hK hu neg pins s σ H x y v u Q I rx ry ⟨ρ, lh, a, b, hr, ra, rb, post⟩
  | some kvs =>
    rw [e] at post
    simp only at post
    split at post
    · rename_i o e2
      exact look_in hK hw hu I hr rb ra ry rx e2 neg fun s' I' => ⟨.bl _, H, I', rfl, PostE.ok post Le.refl hr rfl⟩
    · exact post.elim
theorem dctAt_some {d : D} {kvs : List Ent} (e : dctAt d lh = some kvs) : ∃ n kd, d = .obj n ∧ lh.get n = some (.dct kd kvs) := by
  unfold dctAt at e
  cases d with
  | obj n =>
    simp only at e
    split at e
    · rename_i kd k2 z
      cases e
      exact ⟨n, kd, rfl, z⟩
    · cases e
  | _ => cases e
theorem cr_len (hK : X.K = T.K) (hw : X.w = T.w) : CallR X (.builtin "len") (rdFn T E (f1 bLen)) := cr1 fun ρ lh d v H Q hr rd post pins s σ us I r => by
  unfold bLen at post
  cases e : dctAt d lh with
  | none => rw [e] at post; exact cr_lenS hK pins s σ H [v] us Q I r ⟨ρ, lh, [d], hr, RelDs.one rd, post⟩
  | some kvs =>
    rw [e] at post
    obtain ⟨n, kd, ed, eg⟩ := dctAt_some e
    subst ed
    obtain ⟨a, ev, hn, hsm, hlen, nd, es, ep, he, hH⟩ := obj_of hr rd eg
    subst ev
    obtain ⟨u, rfl, ru⟩ := vals1 r
    obtain rfl : u = .ref a := ru
    have raw := Inv.rawD I hH
    have q : Q (.int ((kvs.length : Nat) : Int)) H := PostE.ok post Le.refl hr rfl
    cases kd with
    | true =>
      obtain ⟨xs, dd, pr⟩ := dictH hK hw I nd he raw
      have hl : kvs.length = xs.length := Paired.length pr
      rw [hl] at q
      exact call_len_dictH hsm dd (by omega) ⟨.int _, H, (I.tok _), ⟨_, rfl⟩, q⟩
    | false =>
      obtain ⟨xs, dd, pr⟩ := dictF hw I nd he raw
      have hl : kvs.length = xs.length := Paired.length pr
      rw [hl] at q
      exact call_len_dict hsm dd (by omega) ⟨.int _, H, (I.tok _), ⟨_, rfl⟩, q⟩
theorem ents_vals : ∀ {kvs : List Ent} {kd : Bool} {es : List DictEntry} {vs : List Value}, EntsR T ρ H kd kvs es → vs = es.map (·.key) → ∃ ws, Vals ws vs ∧ RelDs T ρ H (kvs.map (·.2.1)) ws
  | [], kd, es, vs, h, e => by
    rw [show es = [] from h] at e
    subst e
    exact ⟨[], .nil, rfl⟩
  | x :: r, kd, es, vs, ⟨e0, es', q, h1, h2⟩, e => by
    subst q e
    obtain ⟨kv, vv, r1, r2, _⟩ := h1
    obtain ⟨ws, g1, g2⟩ := ents_vals h2 rfl
    exact ⟨kv :: ws, .cons r1 g1, kv, ws, rfl, r2, g2⟩
theorem cr_list (hK : X.K = T.K) (hc : X.calm = true) : CallR X (.type "list") (rdFn T E (f1 bList)) := cr1 fun ρ lh d v H Q hr rd post pins s σ us I r => by
  unfold bList at post
  cases e : dctAt d lh with
  | none => rw [e] at post; exact cr_listS hK pins s σ H [v] us Q I r ⟨ρ, lh, [d], hr, RelDs.one rd, post⟩
  | some kvs =>
    rw [e] at post
    obtain ⟨n, kd, ed, eg⟩ := dctAt_some e
    subst ed
    obtain ⟨a, ev, hn, hsm, hlen, nd, es, ep, he, hH⟩ := obj_of hr rd eg
    subst ev
    obtain ⟨u, rfl, ru⟩ := vals1 r
    obtain rfl : u = .ref a := ru
    have raw := Inv.rawD I hH
    have hsz : es.size ≤ sizeLine := by
      have := he.length
      rw [sizeLine_eq]
      simp at this
      omega
    refine PySem.W.kdl_call (PySem.KdlSrc.rawDict hsm) (I.ok.hd hc) raw hsz fun h' tk acc c' hk hS hacc => ?_
    have ea : acc.toList = es.toList.map (·.key) := by
      refine List.ext_getElem? fun j => ?_
      rw [List.getElem?_map, Array.getElem?_toList, Array.getElem?_toList]
      by_cases hj : j < es.size
      · obtain ⟨v, hv⟩ : ∃ v, acc[j]? = some v := ⟨acc[j]'(by rw [hacc.1]; exact hj), by simp [hacc.1, hj]⟩
        obtain ⟨_, ev⟩ := hacc.2 j v hv
        rw [hv, ev]
        simp [hj]
      · rw [Array.getElem?_eq_none (by rw [hacc.1]; omega), Array.getElem?_eq_none (by omega)]
        rfl
    obtain ⟨ws, g1, g2⟩ := ents_vals he ea
    have hp : H s.heap.objs.size = none := I.hok.fresh (Nat.le_refl _)
    have hwl : ws.length ≤ sizeLine := by
      have := g2.length
      rw [List.length_map] at this
      rw [sizeLine_eq]
      omega
    refine ⟨.ref s.heap.objs.size, upd H s.heap.objs.size (.lst ws), I.laid hk (Nat.le_refl _) ?_, rfl, new_lst hr g2 hp post⟩
    exact ⟨hwl, acc.toList, c', g1, by rw [hS]⟩

/-! ### dictSet, displays -/
theorem dset_ok (hK : X.K = T.K) (hw : X.w = T.w) (hu : X.A.units + 65 < cLine) (I : Inv X pins σ H s) (hr : HR T ρ H lh) {d k z : D} {x : Addr} {y t : V} {u r : Value} (rd : RelD T ρ H d (.ref x)) (rk : RelD T ρ H k y) (rz : RelD T ρ H z t) (ry : RelV y u) (rt : RelV t r)
    {Q : Hp → Prop} {E' : Value → Shared → Prop} (h : PostG T E ρ lh H (vPut d k z lh) fun _ _ _ H' => Q H') : wpAny (model X.prog X.w) X.A (dictSet x u r) (fun _ s' => ∃ H', Inv X pins σ H' s' ∧ Q H') E' s := by
  unfold vPut at h
  cases e1 : dictAt d k lh with
  | none => rw [e1] at h; exact h.elim
  | some q =>
    obtain ⟨n, nk, kk, kvs⟩ := q
    rw [e1] at h
    obtain ⟨hb0, h⟩ := cond_stuck h
    have hl := Nat.le_of_ble_eq_true hb0
    obtain ⟨kd, rfl, hg, hk, hb⟩ := dictAt_some e1
    obtain ⟨a, ex, en0, hsm, hlen, nd, es, ep, he, hH⟩ := obj_of hr rd hg
    obtain rfl : x = a := V.ref.inj ex
    have raw := Inv.rawD I hH
    have he := ents_empty he hb
    have hls := dset_length kvs nk k z
    obtain ⟨hnk, hc⟩ := key_cases hK I hk rk ry
    have fin : ∀ {h' : Heap} {tk : Nat} {es' : Array DictEntry} {ep' : Nat}, h'.DictRaw x es' ep' → Heap.SameBut x s.heap h' → ((dset kvs nk k z).map (·.1)).Nodup → EntsR T ρ H kk (dset kvs nk k z) es'.toList →
        ∃ H', Inv X pins σ H' { s with heap := h', toks := tk } ∧ Q H' := fun {h' tk es' ep'} hd hs hn hE => by
      have hmu : Mut (H x) := by rw [hH]; exact True.intro
      have le0 : Le0 ρ H ρ (upd H x (dictO x es' ep')) := Le0.upd_mut hH (fun _ q => by cases q) fun _ _ q => by cases q
      have same : ∀ b, b ≠ x → upd H x (dictO x es' ep') b = H b := fun b hb => upd_ne hb
      refine ⟨upd H x (dictO x es' ep'), I.write (x := x) (e := x) hmu (.inl rfl) (fun b o hb q => (hs.2 b hb).trans q) (let ⟨o, ho, _⟩ := hd; ⟨o, ho⟩) (obj_ext hd), ?_⟩
      refine h ρ _ (Le.write hr en0 le0 same) (hr.write en0 le0 same (by rw [upd_same]; simp) ?_)
      exact ⟨hsm, by omega, hn, es', ep', hE.mono le0, upd_same⟩
    rcases hc with ⟨ekk, p, ey, eu, hds, hdp, is⟩ | ⟨ekk, kk', ek, en, is⟩
    · subst ekk eu ey
      obtain ⟨xs, dd, pr⟩ := dictH hK hw I nd he raw
      have pr2 := nr_set (k := k) (a := p) pr ⟨rfl, hds, hnk, hdp, rk, t, rt, rz⟩ rt rz
      have lx : xs.length = kvs.length := by
        have := congrArg List.length (nr_keys pr)
        simpa using this
      refine wpAny_dictSet_heap (knd := nestedKind X.prog X.w) (by show X.A.units + 8 < cLine; omega) is dd (fun h' dd' hs => ?_) (by rw [sizeLine_eq]; omega)
      obtain ⟨o, es', ep', ho, hx, hdt, hes, his, hn⟩ := dd'
      refine fin ⟨o, ho, hx, hdt⟩ hs ?_ ?_
      · rw [← nr_keys pr2]; exact hn
      · rw [hes]; exact nr_ents hw pr2
    · subst ekk ek en
      obtain ⟨ps, dd, pr⟩ := dictF hw I nd he raw
      have pr2 := fr_set (k := kk') (d := z) pr rt rz
      have lx : ps.length = kvs.length := by
        have := congrArg List.length (fr_keys pr)
        simpa using this.symm
      refine wpAny_dictSet_pairs is dd (fun h' dd' hs => ?_) (by rw [sizeLine_eq]; omega)
      obtain ⟨o, es', ep', ho, hx, hdt, hes, his, hn⟩ := dd'
      refine fin ⟨o, ho, hx, hdt⟩ hs ?_ (fr_ents hw his (fun e he => hes e (by simpa using he)) pr2)
      rw [fr_keys pr2]
      exact nodup_kN.mpr hn
/-- {k: v, ..} -/
abbrev MP := Sl → LH → Res (List (D × D))
def pNil : MP := fun _ h => .ok [] h
def pCons (mk mv : ME) (r : MP) : MP := fun sl h => (mk sl h).bind fun k h1 => (mv sl h1).bind fun v h2 => (r sl h2).bind fun ps h3 => .ok ((k, v) :: ps) h3
def putAll (o : D) : List (D × D) → LH → Res Unit
  | [], h => .ok () h
  | p :: r, h => (vPut o p.1 p.2 h).bind fun _ h1 => putAll o r h1
def mDict0 : ME := fun _ h => .ok (.obj h.nx) (h.new (.dct false []))
def mDict (mp : MP) : ME := fun sl h => (mp sl (h.new (.dct false []))).bind fun ps h1 => (putAll (.obj h.nx) ps h1).bind fun _ h2 => .ok (.obj h.nx) h2
theorem raw_new (h : Heap) : (h.push { cls := .type "dict", data := .dict #[] }).DictRaw h.objs.size #[] 0 := ⟨_, Heap.get?_push_size _ rfl, ⟨rfl, rfl, rfl⟩, rfl⟩
theorem new_dct {p : Addr} (hr : HR T ρ H lh) (hp : H p = none) (hsm : (p == sysModules) = false) :
    Le ρ lh H (ρ ++ [p]) (lh.new (.dct false [])) (upd H p (dictO p #[] 0)) ∧ HR T (ρ ++ [p]) (upd H p (dictO p #[] 0)) (lh.new (.dct false [])) :=
  ⟨Le.newObj hr hp (upd_old hp), hr.newObj hp (upd_old hp) (by rw [upd_same]; simp) ⟨hsm, Nat.zero_le _, List.nodup_nil, #[], 0, rfl, upd_same⟩⟩
theorem big_ne (I : Inv X pins σ H s) : (s.heap.objs.size == sysModules) = false := beq_eq_false_iff_ne.mpr (Ne.symm (Nat.ne_of_lt I.big))
theorem x_dict0 {pos : Pos} : PE X (.Dict [] [] pos) (rdE T E mDict0) := by
  refine ⟨fun pins s σ H Q I h => ?_⟩
  obtain ⟨ρ, sl, lh, sr, post⟩ := h
  have hp : H s.heap.objs.size = none := I.hok.fresh (Nat.le_refl _)
  obtain ⟨le, hr⟩ := new_dct sr.hr hp (big_ne I)
  exact wpAny_Dict_empty ⟨.ref s.heap.objs.size, upd H s.heap.objs.size (dictO s.heap.objs.size #[] 0), I.laid (t' := s.toks) (fun _ _ q => Heap.get?_push_of_some _ q) (Nat.le_refl _) (obj_ext (raw_new _)), rfl, PostE.ok post le hr ⟨_, newest sr.hr, rfl⟩⟩
/-- the pairs of a display -/
structure PPm (X : Cx) (T : Tb) (E : XK) (pos : Pos) (keys : List (Option Expr)) (values : List Expr) (m : MP) : Prop where
  run : ∀ (pins : List (Addr × Obj)) (s : Shared) (σ : L2.St) (H : Hp) (Q : List (V × V) → Hp → Prop), Inv X pins σ H s → (∃ ρ sl lh, SR T ρ H sl lh σ ∧ PostG T E ρ lh H (m sl lh) fun ps _ ρ' H' => ∀ vs us, RelDs T ρ' H' (ps.map (·.1)) vs → RelDs T ρ' H' (ps.map (·.2)) us → Q (vs.zip us) H') →
    wpAny (model X.prog X.w) X.A (evalPairs (pairTrees keys values X.env pos)) (fun vs s' => ∃ ps H', Inv X pins σ H' s' ∧ VV ps vs ∧ Q ps H') X.xe s
theorem ppm_nil {pos : Pos} : PPm X T E pos [] [] pNil := ⟨fun pins s σ H Q I ⟨ρ, sl, lh, sr, post⟩ => pairTrees_nil_walk ⟨[], H, I, .nil, post ρ H Le.refl sr.hr [] [] rfl rfl⟩⟩
theorem ppm_cons {pos : Pos} {k v : Expr} {ks : List (Option Expr)} {vs : List Expr} {mk mv : ME} {mr : MP} (hk : PE X k (rdE T E mk)) (hv : PE X v (rdE T E mv)) (hr : PPm X T E pos ks vs mr) : PPm X T E pos (some k :: ks) (v :: vs) (pCons mk mv mr) := by
  refine ⟨fun pins s σ H Q I ⟨ρ, sl, lh, sr, post⟩ => ?_⟩
  refine pairTrees_cons_walk (thn (hk.run pins s σ H (fun x H1 => rdE T E mv σ H1 fun y H2 => (∃ ρ sl lh, SR T ρ H2 sl lh σ ∧ PostG T E ρ lh H2 (mr sl lh) fun ps _ ρ' H' => ∀ vs us, RelDs T ρ' H' (ps.map (·.1)) vs → RelDs T ρ' H' (ps.map (·.2)) us → Q ((x, y) :: vs.zip us) H')) I ?_) fun u s1 ⟨x, H1, I1, rx, q1⟩ => thn (hv.run pins s1 σ H1 _ I1 q1) fun w2 s2 ⟨y, H2, I2, ry, q2⟩ =>
    thn (hr.run pins s2 σ H2 (fun ps H' => Q ((x, y) :: ps) H') I2 q2) fun ws s3 ⟨ps, H3, I3, rel, q3⟩ => ⟨(x, y) :: ps, H3, I3, .cons ⟨rx, ry⟩ rel, q3⟩)
  refine ⟨ρ, sl, lh, sr, (PostG.bind post).mono fun kd h1 ρ1 H1 le1 hr1 p1 x rx => ?_⟩
  refine ⟨ρ1, sl, h1, sr.mono le1 hr1, (PostG.bind p1).mono fun vd h2 ρ2 H2 le2 hr2 p2 y ry => ?_⟩
  refine ⟨ρ2, sl, h2, (sr.mono le1 hr1).mono le2 hr2, (PostG.bind p2).mono fun ps h3 ρ3 H3 le3 hr3 p3 vs us r1 r2 => ?_⟩
  exact p3 ρ3 H3 Le.refl hr3 (x :: vs) (y :: us) ⟨x, vs, rfl, rx.mono (le2.trans le3).toLe0, r1⟩ ⟨y, us, rfl, ry.mono le3.toLe0, r2⟩
theorem store_all (hK : X.K = T.K) (hw : X.w = T.w) (hu : X.A.units + 65 < cLine) {o : D} {a : Addr} {Q : Hp → Prop} {E' : Value → Shared → Prop} : ∀ {ps : List (D × D)} {vs us : List V} {ws : List (Value × Value)} {ρ : List Addr} {lh : LH} {H : Hp} {s : Shared}, Inv X pins σ H s → HR T ρ H lh → RelD T ρ H o (.ref a) →
    RelDs T ρ H (ps.map (·.1)) vs → RelDs T ρ H (ps.map (·.2)) us → VV (vs.zip us) ws → PostG T E ρ lh H (putAll o ps lh) (fun _ _ _ H' => Q H') → wpAny (model X.prog X.w) X.A (storeAll a ws) (fun _ s' => ∃ H', Inv X pins σ H' s' ∧ Q H') E' s
  | [], vs, us, ws, ρ, lh, H, s, I, hr, ro, r1, r2, rw, post => by
    rw [show vs = [] from r1, show us = [] from r2] at rw
    cases rw
    unfold storeAll
    rw [List.forIn_nil]
    exact wpAny_pure ⟨H, I, post ρ H Le.refl hr⟩
  | p :: ps, _, _, ws, ρ, lh, H, s, I, hr, ro, ⟨v, vs, ev, h1, h2⟩, ⟨u, us, eu, g1, g2⟩, rw, post => by
    subst ev eu
    rw [List.zip_cons_cons] at rw
    cases rw with
    | @cons _ w _ ws h t =>
      unfold storeAll
      rw [List.forIn_cons]
      have post : PostG T E ρ lh H ((vPut o p.1 p.2 lh).bind fun _ h1 => putAll o ps h1) (fun _ _ _ H' => Q H') := post
      refine wpAny_bind (wpAny_bind (thn (dset_ok (E := E) (E' := E') (Q := fun H' => ∃ ρ1 l1, Le ρ lh H ρ1 l1 H' ∧ HR T ρ1 H' l1 ∧ PostG T E ρ1 l1 H' (putAll o ps l1) (fun _ _ _ H' => Q H')) hK hw hu I hr ro h1 g1 h.1 h.2 ((PostG.bind post).mono fun _ l1 ρ1 H1 le1 hr1 p1 => ⟨ρ1, l1, le1, hr1, p1⟩)) fun _ s1 ⟨H1, I1, ρ1, l1, le1, hr1, p1⟩ => wpAny_pure ?_))
      exact store_all hK hw hu I1 hr1 (ro.mono le1.toLe0) (h2.mono le1.toLe0) (g2.mono le1.toLe0) t p1
theorem x_dict {pos : Pos} {keys : List (Option Expr)} {values : List Expr} {mp : MP} (hK : X.K = T.K) (hw : X.w = T.w) (hu : X.A.units + 65 < cLine) (h : PPm X T E pos keys values mp) (hall : keys.all (·.isSome) = true := by rfl) (hl : keys.length = values.length := by rfl) (h0 : keys ≠ [] := by simp)
    (h15 : keys.length ≤ 15 := by decide) : PE X (.Dict keys values pos) (rdE T E (mDict mp)) := by
  refine ⟨fun pins s σ H Q I q => ?_⟩
  obtain ⟨ρ, sl, lh, sr, post⟩ := q
  have hp : H s.heap.objs.size = none := I.hok.fresh (Nat.le_refl _)
  obtain ⟨le, hr⟩ := new_dct sr.hr hp (big_ne I)
  have hnx := newest (p := s.heap.objs.size) sr.hr
  have I1 : Inv X pins σ (upd H s.heap.objs.size (dictO s.heap.objs.size #[] 0)) { s with heap := s.heap.push { cls := .type "dict", data := .dict #[] } } := I.laid (t' := s.toks) (fun _ _ q => Heap.get?_push_of_some _ q) (Nat.le_refl _) (obj_ext (raw_new _))
  refine wpAny_Dict_any hall hl h0 h15 (thn (h.run pins _ σ _ (fun ps H' => ∃ ρ1 l1 ds vs us, ps = List.zip vs us ∧ Le (ρ ++ [s.heap.objs.size]) (lh.new (.dct false [])) (upd H s.heap.objs.size (dictO s.heap.objs.size #[] 0)) ρ1 l1 H' ∧ HR T ρ1 H' l1 ∧ RelDs T ρ1 H' (ds.map (·.1)) vs ∧ RelDs T ρ1 H' (ds.map (·.2)) us ∧
    PostG T E ρ1 l1 H' ((putAll (.obj lh.nx) ds l1).bind fun _ h2 => .ok (.obj lh.nx) h2) (fun d _ ρ' H' => ∀ v, RelD T ρ' H' d v → Q v H')) I1 ⟨_, sl, _, sr.mono le hr, (PostG.bind (PostG.later post le)).mono fun ds l1 ρ1 H1 le1 hr1 p1 vs us r1 r2 => ⟨ρ1, l1, ds, vs, us, rfl, le1, hr1, r1, r2, p1⟩⟩) fun ws s2 ⟨ps, H2, I2, rel, ρ1, l1, ds, vs, us, eps, le1, hr1, r1, r2, p1⟩ => ?_)
  subst eps
  refine thn (store_all (E := E) (Q := fun H' => Q (.ref s.heap.objs.size) H') (o := .obj lh.nx) hK hw hu I2 hr1 (show RelD T ρ1 H2 (.obj lh.nx) (.ref s.heap.objs.size) from ⟨_, le1.toLe0.get hnx, rfl⟩) r1 r2 rel ((PostG.bind p1).mono fun _ l2 ρ2 H2 le2 hr2 p2 => PostE.ok p2 Le.refl hr2 ⟨_, (le1.trans le2).toLe0.get hnx, rfl⟩)) fun _ s3 ⟨H3, I3, q⟩ => ⟨.ref s.heap.objs.size, H3, I3, rfl, q⟩

/-! ### a dict of the module, texts to values: WORDS[k] -/
def tabLook : List (Str × D) → Str → Option D
  | [], _ => none
  | p :: r, x => bif strEq x p.1 then some p.2 else tabLook r x
def mTab (tab : List (Str × D)) (mk : ME) : ME := fun sl h => (mk sl h).bind fun k h1 => match k with
  | .str x => match tabLook tab x with
    | some d => .ok d h1
    | none => .stuck
  | _ => .stuck
def TabOk (T : Tb) (p : Addr) (tab : List (Str × D)) : Prop := ∀ q ∈ tab, ∃ v, KDct T.K T.w p q.1 v ∧ ∀ ρ H, RelD T ρ H q.2 v
theorem tab_mem : ∀ {tab : List (Str × D)} {x : Str} {d : D}, tabLook tab x = some d → (x, d) ∈ tab
  | p :: r, x, d, e => by
    have e : (bif strEq x p.1 then some p.2 else tabLook r x) = some d := e
    cases hb : strEq x p.1 with
    | true =>
      rw [hb] at e
      cases e
      have : x = p.1 := by rw [strEq_eq] at hb; simpa using hb
      subst this
      exact List.mem_cons_self
    | false =>
      rw [hb] at e
      exact List.mem_cons_of_mem _ (tab_mem e)
theorem x_tab {a k : Expr} {pos : Pos} {p : Addr} {tab : List (Str × D)} {mk : ME} (hK : X.K = T.K) (hw : X.w = T.w) (ok : TabOk T p tab) (ha : PE X a (tC (.ref p))) (hk : PE X k (rdE T E mk)) (hs : PlainIx k := by intro _ _; rfl) : PE X (.Subscript a k pos) (rdE T E (mTab tab mk)) := by
  refine (pe_ix ix_kdict ha hk hs).imp fun σ H Q h => ?_
  obtain ⟨ρ, sl, lh, sr, post⟩ := h
  refine ⟨ρ, sl, lh, sr, (PostG.bind post).mono fun d h1 ρ1 H1 le1 hr1 p1 v rv => ?_⟩
  cases d with
  | str x =>
    simp only at p1
    cases e : tabLook tab x with
    | none => rw [e] at p1; exact p1.elim
    | some d =>
      rw [e] at p1
      obtain ⟨v0, k1, k2⟩ := ok _ (tab_mem e)
      rw [hK, hw]
      exact ⟨p, x, v0, rfl, rv, k1, PostE.ok p1 Le.refl hr1 (k2 _ _)⟩
  | _ => exact p1.elim
end
end TL

namespace TL
open PySem PySem.Spec PyProof.Rows L2

/-! ### {k: v for t in s if c}, any keys -/
/-- D[y] = z, reaching N -/
def PutTo (X : Cx) (D : Addr) (y z : V) (H : Hp) (N : Hp → Prop) : Prop := ∀ (Y : Cx), Y.K = X.K → Y.w = X.w → Y.A = X.A → ∀ (pins : List (Addr × Obj)) (s : Shared) (σ : L2.St) (u r : Value) (E' : Value → Shared → Prop), Inv Y pins σ H s → RelV y u → RelV z r →
  wpAny (model Y.prog Y.w) Y.A (dictSet D u r) (fun _ s' => ∃ H', Inv Y pins σ H' s' ∧ N H') E' s
def tDr (X : Cx) (wi : TI) (g : TG) (tt : TT) (tk tv : TE) (vs : List Nat) : TE := fun σ H Q => wi σ H fun J H1 => ∀ D, H1 D = none → (D == sysModules) = false → ∃ W : Nat → Nat → Hp → Prop, (∃ m, W 0 m (upd H1 D (dictO D #[] 0))) ∧ ∀ i m H, W i m H →
  (J.stop i H ∧ Q (.ref D) H) ∨ (J.go i H ∧ ∃ Nx : Hp → Prop, (∀ H', Nx H' → ∃ m', m' < m ∧ W (i + 1) m' H') ∧ ∀ x H', J.yld i H x H' → g x (wipe σ vs) H' fun σ2 H2 => wipe σ2 vs = wipe σ vs ∧ tt σ2 H2 fun b H3 =>
    if b = true then tk σ2 H3 fun y H4 => tv σ2 H4 fun z H5 => PutTo X D y z H5 Nx else Nx H3)
section
variable {X : Cx}
theorem dcr_core {pins : List (Addr × Obj)} {s : Shared} {σ : L2.St} {H : Hp} {Q : VK} {kx vx tg iter : Expr} {ifs : List Expr} {scope : Scope} {own : List (Str × Nat)} {pos pos' : Pos} {wi : TI} {g : TG} {tt : TT} {tk tv : TE} {use : Option (Value → Sem Unit)} {Qf : Value → Shared → Prop}
    (hc : X.calm = true) (hN : X.N.Nodup) (I : Inv X pins σ H s) (hi : PI X tg iter wi) (ok : BlkOk X.N X.env.scope scope own)
    (hg : ∀ (s : Shared) (H : Hp) (C : Addr) (cl : List (Str × Addr)) (fp : List Addr), PG (X.blk s H scope (compEnvC scope cl C X.env) fp) tg g) (ht : ∀ (s : Shared) (H : Hp) (C : Addr) (cl : List (Str × Addr)) (fp : List Addr), PTs (X.blk s H scope (compEnvC scope cl C X.env) fp) ifs tt)
    (hk : ∀ (s : Shared) (H : Hp) (C : Addr) (cl : List (Str × Addr)) (fp : List Addr), PE (X.blk s H scope (compEnvC scope cl C X.env) fp) kx tk)
    (he : ∀ (s : Shared) (H : Hp) (C : Addr) (cl : List (Str × Addr)) (fp : List Addr), PE (X.blk s H scope (compEnvC scope cl C X.env) fp) vx tv) (hs : ∀ x, foldedSetIterable iter X.env x = pure x)
    (h : tDr X wi g tt tk tv (own.map (·.2)) σ H Q)
    (hRR : ∀ D C s' m H', Inv X pins σ H' s' → Q (.ref D) H' → s'.heap.Ns C m → FpOk X pins H' C → compPost (model X.prog X.w) X.A X.xe use Qf (.ref D) C (.ok .next) s') :
    wpAny (model X.prog X.w) X.A (comprehension (.DictComp kx vx [⟨tg, iter, ifs, 0⟩] scope pos) scope X.env pos' newDict false (eval iter X.env) use) Qf X.xe s := by
  have hfree : ∀ y ∈ scope.names, y.2 = .free → ∃ c, X.env.cells.lookup y.1 = some c := fun y hy e => by
    rcases ok.free y hy e with k | k
    · exact I.ok.has _ (.inl k)
    · exact I.ok.has _ (.inr k)
  refine wpAny_comprehension_free (use := use) rfl hs (closure_ok hfree) ok.kind (fun y hy e => by rw [ok.uniq y hy, e])
    (thn (hi.run pins s σ H _ I h) fun xv s1 hx => thn hx fun itv s2 h2 => ?_)
  obtain ⟨it, fp, tn, J, H2, e, I2, T, st2, f2, q⟩ := h2
  subst e
  refine wpAny_newObj_type (newEnv_comp ?_)
  generalize hD : s2.heap.objs.size = D
  have hDn : H2 D = none := I2.hok.fresh (Nat.le_of_eq hD)
  obtain ⟨W, ⟨m0, w0⟩, turn⟩ := q D hDn (by rw [← hD]; exact big_ne I2)
  -- the new list
  generalize hs3 : ({ s2 with heap := s2.heap.push { cls := .type "dict", data := .dict #[] } } : Shared) = s3
  have I3 : Inv X pins σ (upd H2 D (dictO D #[] 0)) s3 := by
    rw [← hs3]
    refine I2.laid (t' := s2.toks) (fun b o e => Heap.get?_push_of_some _ e) (Nat.le_of_eq hD) ?_
    rw [← hD]
    exact obj_ext (raw_new _)
  have h3 : s3.heap = s2.heap.push { cls := .type "dict", data := .dict #[] } := by rw [← hs3]
  have sz : ∀ b ∈ fp, b < s2.heap.objs.size := fun b hb => by
    obtain ⟨o, e, _⟩ := T.obj _ _ st2 b hb
    exact Heap.lt_size e
  have f3 : ∀ b ∈ fp, FpOk X pins (upd H2 D (dictO D #[] 0)) b ∧ b < s3.heap.objs.size := fun b hb => by
    have hlt := sz b hb
    refine ⟨⟨?_, (f2 b hb).2⟩, by rw [h3, Heap.size_push]; exact Nat.lt_succ_of_lt hlt⟩
    rw [upd_ne (by rw [← hD]; exact Nat.ne_of_lt hlt)]
    exact (f2 b hb).1
  have st3 : tn 0 s3.heap := T.keep _ _ _ st2 fun b _ o e => by rw [h3]; exact Heap.get?_push_of_some _ e
  have I4 := block_start I3 ok hN f3
  have pg := hg s3 (upd H2 D (dictO D #[] 0)) s3.heap.objs.size (cellsFrom (s3.heap.objs.size + 1) scope.names (cloFrom X.env.cells scope.names [])) fp
  have pt := ht s3 (upd H2 D (dictO D #[] 0)) s3.heap.objs.size (cellsFrom (s3.heap.objs.size + 1) scope.names (cloFrom X.env.cells scope.names [])) fp
  have pk := hk s3 (upd H2 D (dictO D #[] 0)) s3.heap.objs.size (cellsFrom (s3.heap.objs.size + 1) scope.names (cloFrom X.env.cells scope.names [])) fp
  have pe := he s3 (upd H2 D (dictO D #[] 0)) s3.heap.objs.size (cellsFrom (s3.heap.objs.size + 1) scope.names (cloFrom X.env.cells scope.names [])) fp
  show codeAny _ _ (.compStart (.DictComp kx vx [⟨tg, iter, ifs, 0⟩] scope pos) 0 (.ref it) (.ref D) (compEnvC scope (cellsFrom (s3.heap.objs.size + 1) scope.names (cloFrom X.env.cells scope.names [])) s3.heap.objs.size X.env)) (compPost (model X.prog X.w) X.A X.xe use Qf (.ref D) s3.heap.objs.size) { s3 with heap := pushCells (s3.heap.push { cls := .type "dict", data := .dict #[] }) scope.names }
  have nfp : ∀ b ∈ fp, (upd H2 D (dictO D #[] 0)) b = none := fun b hb => (f3 b hb).1.1
  generalize hce : compEnvC scope (cellsFrom (s3.heap.objs.size + 1) scope.names (cloFrom X.env.cells scope.names [])) s3.heap.objs.size X.env = ce at I4 pg pt pk pe ⊢
  have cL : ce.locals = s3.heap.objs.size := by subst hce; rfl
  generalize hH3 : upd H2 D (dictO D #[] 0) = H3 at I3 I4 pg pt pk pe w0 nfp f3
  generalize hs4 : ({ s3 with heap := pushCells (s3.heap.push { cls := .type "dict", data := .dict #[] }) scope.names } : Shared) = s4 at I4 ⊢
  have st4 : tn 0 s4.heap := T.keep _ _ _ st3 fun b _ o e => by rw [← hs4]; exact pushCells_keeps _ _ _ _ (Heap.get?_push_of_some _ e)
  have stat : ∀ {σ' : L2.St} {H' : Hp} {s' : Shared}, Inv (X.blk s3 H3 scope ce fp) [] σ' H' s' → (∀ b ∈ fp, H' b = none) → ∀ b ∈ fp, FpOk (X.blk s3 H3 scope ce fp) [] H' b := fun {σ' H' s'} I' hn b hb =>
    ⟨hn b hb, (I'.ok.exf b hb).1, I'.ok.exfs b hb, .inl hb, fun x c e => (I'.ok.exf b hb).2 x c e, fun p hp => absurd (show p ∈ ([] : List (Addr × Obj)) ++ [] from hp) (by simp)⟩
  have loop : codeAny (model X.prog X.w) X.A (.compLoop (.DictComp kx vx [⟨tg, iter, ifs, 0⟩] scope pos) 0 (.ref it) (.ref D) ce) (compPost (model X.prog X.w) X.A X.xe use Qf (.ref D) s3.heap.objs.size) s4 := by
    refine compLoop_anyD (fun n s' => ∃ i H', Inv (X.blk s3 H3 scope ce fp) [] (wipe σ (own.map (·.2))) H' s' ∧ tn i s'.heap ∧ (∀ b ∈ fp, H' b = none) ∧ W i n H') ?_ m0 ⟨0, H3, I4, st4, nfp, w0⟩
    rintro n s5 ⟨i, H5, I5, st5, n5, w5⟩
    rcases turn i n H5 w5 with ⟨stop, qq⟩ | ⟨go, Nx, hNx, step⟩
    · have td := T.done (X.blk s3 H3 scope ce fp) rfl rfl rfl hc i [] s5 _ H5 (fun _ _ => False) I5 (stat I5 n5) st5 stop
      refine thnF td fun r s6 ⟨hr, I6⟩ => ?_
      subst hr
      -- back in the def's context
      have I7 : Inv X pins σ H5 s6 := I3.call' (ch := fp) I6.os I6.base I6.hok I6.bare fun b hb => ⟨(f3 b hb).1.2.2.2.1, (f3 b hb).1.2.1, (f3 b hb).1.2.2.2.2.1, (f3 b hb).1.2.2.2.2.2⟩
      have nC : H5 s3.heap.objs.size = none := by
        have z : H5 ce.locals = none := I6.free
        rw [cL] at z
        exact z
      obtain ⟨m, hn, _⟩ := I6.loc
      have hn : s6.heap.Ns ce.locals m := hn
      rw [cL] at hn
      exact hRR D s3.heap.objs.size s6 m H5 I7 qq hn (I3.fpOk (Nat.le_refl _) nC)
    · have ti := T.item (X.blk s3 H3 scope ce fp) rfl rfl rfl hc i [] s5 _ H5 (fun _ _ => False) I5 (stat I5 n5) st5 go
      refine thnF ti fun r s6 ⟨u, hr, h6⟩ => ?_
      subst hr
      refine thnF h6 fun _ s7 ⟨x, H7, I7, r7, y7, st7, n7⟩ => ?_
      have I7' := I7.pinned (stat I7 n7) (T.obj _ _ st7)
      refine thnF (pg.run _ s7 _ H7 x u _ I7' r7 (step x H7 y7)) fun _ s8 ⟨σ8, H8, I8, hw8, q8⟩ => ?_
      refine thnF (pt.run _ s8 σ8 H8 _ I8 q8) fun b s9 ⟨H9, I9, q9⟩ => ?_
      -- the turn's end
      have fin : ∀ {s' : Shared} {H' : Hp}, Inv (X.blk s3 H3 scope ce fp) ([] ++ pinsAt fp s7.heap) σ8 H' s' → Nx H' → ∃ m, m < n ∧ ∃ i H', Inv (X.blk s3 H3 scope ce fp) [] (wipe σ (own.map (·.2))) H' s' ∧ tn i s'.heap ∧ (∀ b ∈ fp, H' b = none) ∧ W i m H' := fun {s' H'} I' nx => by
        obtain ⟨m', hm, w'⟩ := hNx H' nx
        have pin' : ∀ b ∈ fp, ∀ o, s7.heap.get? b = some o → s'.heap.get? b = some o ∧ H' b = none := fun b hb o e =>
          let z := I'.pin (b, o) (List.mem_append_right _ (List.mem_append_right _ (mem_pinsAt hb e)))
          ⟨z.1, z.2.1⟩
        have hl : (wipe σ (own.map (·.2))).length = σ8.length := by rw [← hw8, wipe_length]
        refine ⟨m', hm, i + 1, H', (I'.unpinned (pins := [])).weak hl (fun j v e => ?_), T.keep _ _ _ st7 fun b hb o e => (pin' b hb o e).1, fun b hb => ?_, w'⟩
        · rw [← hw8] at e
          exact (wipe_some e).1
        · obtain ⟨o, e, _⟩ := T.obj _ _ st7 b hb
          exact (pin' b hb o e).2
      cases b with
      | false =>
        simp only [Bool.false_eq_true, if_false] at q9 ⊢
        exact fin I9 q9
      | true =>
        simp only [if_true] at q9 ⊢
        refine thnF (pk.run _ s9 σ8 H9 _ I9 q9) fun z s10 ⟨yk, H10, I10, r10, q10⟩ => ?_
        refine thnF (pe.run _ s10 σ8 H10 _ I10 q10) fun z2 s11 ⟨yv, H11, I11, r11, nx⟩ => ?_
        exact thnF (nx (X.blk s3 H3 scope ce fp) rfl rfl rfl _ s11 σ8 z z2 _ I11 r10 r11) fun _ s12 ⟨H12, I12, n12⟩ => fin I12 n12
  exact codeAny_compStart_dict loop (T.self X.A 0 _ _ _ st4 loop)

theorem pe_dcr {kx vx tg iter : Expr} {ifs : List Expr} {scope : Scope} {own : List (Str × Nat)} {pos : Pos} {wi : TI} {g : TG} {tt : TT} {tk tv : TE} (hc : X.calm = true) (hN : X.N.Nodup) (hi : PI X tg iter wi) (ok : BlkOk X.N X.env.scope scope own)
    (hg : ∀ (s : Shared) (H : Hp) (C : Addr) (cl : List (Str × Addr)) (fp : List Addr), PG (X.blk s H scope (compEnvC scope cl C X.env) fp) tg g) (ht : ∀ (s : Shared) (H : Hp) (C : Addr) (cl : List (Str × Addr)) (fp : List Addr), PTs (X.blk s H scope (compEnvC scope cl C X.env) fp) ifs tt)
    (hk : ∀ (s : Shared) (H : Hp) (C : Addr) (cl : List (Str × Addr)) (fp : List Addr), PE (X.blk s H scope (compEnvC scope cl C X.env) fp) kx tk)
    (he : ∀ (s : Shared) (H : Hp) (C : Addr) (cl : List (Str × Addr)) (fp : List Addr), PE (X.blk s H scope (compEnvC scope cl C X.env) fp) vx tv) (hs : ∀ x, foldedSetIterable iter X.env x = pure x := by intro _; rfl) :
    PE X (.DictComp kx vx [⟨tg, iter, ifs, 0⟩] scope pos) (tDr X wi g tt tk tv (own.map (·.2))) := by
  refine ⟨fun pins s σ H Q I h => ?_⟩
  rw [arm_eval_DictComp]
  refine dcr_core hc hN I hi ok hg ht hk he hs h fun D C s' m H' I' q hn f => ⟨m, hn, fun h'' sb => ?_⟩
  obtain ⟨f0, f1, f2, f3, f4, f5⟩ := f
  exact ⟨.ref D, H', I'.turned (t' := s'.toks) (fun b o hb e => (sb.2 b hb).trans e) f0 f1 f3 f4 f5, rfl, q⟩
theorem sw_dict {kx vx : Expr} {gs : List Comprehension} {scope : Scope} {pos py : Pos} {y : Str} {l : Nat} {env : Env} (hk : env.scope.kind = .function) (hy : env.scope.names.lookup y = some .local) (hl : (py.line == pos.line) = true)
    (ha : (scope.names.any fun (n, k) => n == y && (k == .local || k == .cell)) = false) : swapsWith (.DictComp kx vx gs scope pos) (some (.Name y py)) l env = pure true := by
  have e1 : env.kindOf y = some .local := hy
  have e2 : env.blockKind = .function := by
    unfold Env.blockKind
    rw [hk]
    rfl
  unfold swapsWith
  simp only [e2, e1, ha, Expr.pos, hl]
  rfl
/-- name = {..} on one line, a local name -/
theorem ps_setDcr {i : Nat} {y : Str} {py spos pos : Pos} {kx vx tg iter : Expr} {ifs : List Expr} {scope : Scope} {own : List (Str × Nat)} {wi : TI} {g : TG} {tt : TT} {tk tv : TE} (hc : X.calm = true) (hN : X.N.Nodup) (hy : X.N[i]? = some y) (hyl : X.env.scope.names.lookup y = some .local)
    (hsw : swapsWith (.DictComp kx vx [⟨tg, iter, ifs, 0⟩] scope pos) (some (.Name y py)) spos.line X.env = pure true) (hi : PI X tg iter wi) (ok : BlkOk X.N X.env.scope scope own)
    (hg : ∀ (s : Shared) (H : Hp) (C : Addr) (cl : List (Str × Addr)) (fp : List Addr), PG (X.blk s H scope (compEnvC scope cl C X.env) fp) tg g) (ht : ∀ (s : Shared) (H : Hp) (C : Addr) (cl : List (Str × Addr)) (fp : List Addr), PTs (X.blk s H scope (compEnvC scope cl C X.env) fp) ifs tt)
    (hk : ∀ (s : Shared) (H : Hp) (C : Addr) (cl : List (Str × Addr)) (fp : List Addr), PE (X.blk s H scope (compEnvC scope cl C X.env) fp) kx tk)
    (he : ∀ (s : Shared) (H : Hp) (C : Addr) (cl : List (Str × Addr)) (fp : List Addr), PE (X.blk s H scope (compEnvC scope cl C X.env) fp) vx tv) (hs : ∀ x, foldedSetIterable iter X.env x = pure x := by intro _; rfl) :
    PS X (.Assign [.Name y py] (.DictComp kx vx [⟨tg, iter, ifs, 0⟩] scope pos) spos) (tAsg (tDr X wi g tt tk tv (own.map (·.2))) (gName i)) := by
  refine ⟨fun pins s σ H D I h => ?_⟩
  rw [exec_Assign_Name_used _ _ _ _ hsw]
  refine wpAny_bind (wpAny_standAt (wpAny_bind ?_))
  have h : tDr X wi g tt tk tv (own.map (·.2)) σ H (fun x H1 => gName i x σ H1 D.nx) := h
  have core := dcr_core (pos := pos) (pos' := firstIterPos [⟨tg, iter, ifs, 0⟩] pos) (use := some (assign (.Name y py) X.env)) (Qf := fun _ s' => SP X pins D .next s') hc hN I hi ok hg ht hk he hs h fun L C s' m H' I' q hn f => by
    show wpAny _ _ (assign (.Name y py) X.env (.ref L)) _ _ _
    refine wpAny_assign_Name (store_ok2 (v := V.ref L) I' hN hy (.inl hyl) rfl (fun s2 I2 ⟨a, sb, ha⟩ => ?_) (.inr hyl))
    obtain ⟨g0, g1, g2, g3, g4, g5⟩ := f
    have ne : C ≠ a := by
      rcases ha with z | z
      · rw [z]; exact g1
      · exact fun e => g4 y a z e.symm
    exact ⟨m, hn.sameBut sb ne, fun h3 sb3 => ⟨_, H', I2.turned (t' := s2.toks) (fun b o hb e => (sb3.2 b hb).trans e) g0 g1 g3 g4 g5, q⟩⟩
  exact wpAny_bind (thn core fun _ s' hq => wpAny_pure (wpAny_pure hq))
end
def dcD (chk : Chk) (t : Tg) (mt : MT) (mk mv : ME) (sl : Sl) (n : Nat) : List D → LH → Res Unit
  | [] => fun h => bif chkOk chk h then .ok () h else .stuck
  | d :: r => fun h => bif chkOk chk h then (match tgM t d sl with
    | some sl1 => (noErr (mt sl1 h)).bind fun b h2 => match b with
      | true => (noErr (mk sl1 h2)).bind fun k h3 => (noErr (mv sl1 h3)).bind fun v h4 => (vPut (.obj n) k v h4).bind fun _ h5 => dcD chk t mt mk mv sl n r h5
      | false => dcD chk t mt mk mv sl n r h2
    | none => .stuck) else .stuck
def mDc (mi : MI) (t : Tg) (mt : MT) (mk mv : ME) (own : List Nat) : ME := fun sl h => (mi sl h).bind fun p h1 => (dcD p.2 t mt mk mv (wipeL sl own) h1.nx p.1 (h1.new (.dct false []))).bind fun _ h2 => .ok (.obj h1.nx) h2
section
variable {T : Tb} {E : XK} {X : Cx} {ρ ρ0 : List Addr} {lh l0 : LH} {H H0 : Hp} {σ : L2.St}
theorem rd_dc (hK : X.K = T.K) (hw : X.w = T.w) (hu : X.A.units + 65 < cLine) {E' : XK} {mi : MI} {t : Tg} {mt : MT} {mk mv : ME} {own : List Nat} {Q : VK} (ht : ∀ i ∈ tgIs t, i ∈ own) (h : rdE T E (mDc mi t mt mk mv own) σ H Q) :
    tDr X (rdI T E mi) (tgR X.K t) (rdT T E' mt) (rdE T E' mk) (rdE T E' mv) own σ H Q := by
  obtain ⟨ρ, sl, lh, sr, post⟩ := h
  refine ⟨ρ, sl, lh, sr, (PostG.bind post).mono fun p h1 ρ1 H1 le1 hr1 p1 J src Dn hD hsm => ?_⟩
  have sr1 := sr.mono le1 hr1
  obtain ⟨leN, hrN⟩ := new_dct hr1 hD hsm
  have hnx : (ρ1 ++ [Dn])[h1.nx]? = some Dn := newest hr1
  have p1 := PostG.bind (PostG.later p1 leN)
  refine ⟨fun i m H => m = p.1.length - i ∧ i ≤ p.1.length ∧ ∃ ρ2 lh2, Le (ρ1 ++ [Dn]) (h1.new (.dct false [])) (upd H1 Dn (dictO Dn #[] 0)) ρ2 lh2 H ∧ HR T ρ2 H lh2 ∧ PostG T E ρ2 lh2 H (dcD p.2 t mt mk mv (wipeL sl own) h1.nx (p.1.drop i) lh2) (fun _ lh' ρ' H' => PostE T E ρ' lh' H' (.ok (.obj h1.nx) lh') Q),
    ⟨p.1.length, rfl, Nat.zero_le _, _, _, Le.refl, hrN, p1⟩, ?_⟩
  rintro i m H2 ⟨em, hi, ρ2, lh2, le2, hr2, p2⟩
  subst em
  have hn2 : ρ2[h1.nx]? = some Dn := le2.toLe0.get hnx
  have leS := leN.trans le2
  cases e : p.1.drop i with
  | nil =>
    rw [e] at p2
    obtain ⟨hc, p2⟩ := cond_stuck p2
    have ei := drop_nil hi e
    refine .inl ⟨?_, PostE.ok (p2 ρ2 H2 Le.refl hr2) Le.refl hr2 ⟨Dn, hn2, rfl⟩⟩
    rw [ei]
    exact src.stop ρ2 lh2 H2 leS hr2 hc
  | cons d r =>
    rw [e] at p2
    obtain ⟨hc, p2⟩ := cond_stuck p2
    obtain ⟨e1, e2, hlt⟩ := drop_get e
    obtain ⟨go, yld⟩ := src.go i d ρ2 lh2 H2 leS hr2 hc e1
    refine .inr ⟨go, fun H' => ∃ ρ3 lh3, Le (ρ1 ++ [Dn]) (h1.new (.dct false [])) (upd H1 Dn (dictO Dn #[] 0)) ρ3 lh3 H' ∧ HR T ρ3 H' lh3 ∧ PostG T E ρ3 lh3 H' (dcD p.2 t mt mk mv (wipeL sl own) h1.nx r lh3) (fun _ lh' ρ' H' => PostE T E ρ' lh' H' (.ok (.obj h1.nx) lh') Q),
      fun H' ⟨ρ3, lh3, q1, q2, q3⟩ => ⟨p.1.length - (i + 1), by omega, rfl, by omega, ρ3, lh3, q1, q2, by rw [e2]; exact q3⟩, fun x H3 hy => ?_⟩
    obtain ⟨le3, hr3, rx⟩ := yld x H3 hy
    have p2 := PostG.later p2 le3
    have le23 := le2.trans le3
    cases e3 : tgM t d (wipeL sl own) with
    | none => rw [e3] at p2; exact p2.elim
    | some sl3 =>
      rw [e3] at p2
      refine tgR_ok hK ((SR.wipe sr1 own).mono (leN.trans le23) hr3) rx e3 fun σ4 sr4 hw' => ⟨by rw [hw' own ht, wipe_wipe], ρ2, sl3, lh2, sr4, ?_⟩
      refine (noErr_post (PostG.bind p2)).mono fun b h4 ρ4 H4 le4 hr4 p4 => ?_
      cases b with
      | false => exact ⟨ρ4, h4, le23.trans le4, hr4, p4⟩
      | true =>
        refine ⟨ρ4, sl3, h4, sr4.mono le4 hr4, (noErr_post (PostG.bind p4)).mono fun k h5 ρ5 H5 le5 hr5 p5 y ry => ?_⟩
        refine ⟨ρ5, sl3, h5, (sr4.mono le4 hr4).mono le5 hr5, (noErr_post (PostG.bind p5)).mono fun v h6 ρ6 H6 le6 hr6 p6 z rz => ?_⟩
        have le26 := ((le23.trans le4).trans le5).trans le6
        intro Y yK yw yA pins s σ' u r' E2 I ru rr
        refine dset_ok (E := E) (d := .obj h1.nx) (x := Dn) (yK.trans hK) (yw.trans hw) (by rw [yA]; exact hu) I hr6 ⟨Dn, le26.toLe0.get hnx, rfl⟩ (ry.mono le6.toLe0) rz ru rr ((PostG.bind p6).mono fun _ h7 ρ7 H7 le7 hr7 p7 => ⟨ρ7, h7, le26.trans le7, hr7, p7⟩)
end
end TL

namespace TL
open PySem PySem.Spec PyProof.Rows L2

/-! ### the rules by which a text is read -/
structure Bd (T : Tb) (X : Cx) : Prop where
  K : X.K = T.K
  w : X.w = T.w
  u : X.A.units + 65 < cLine
  calm : X.calm = true
  ok : T.Ok
  nd : X.N.Nodup
theorem Bd.blk {T : Tb} {X : Cx} (B : Bd T X) {s : Shared} {H : Hp} {scope : Scope} {cenv : Env} {fp : List Addr} : Bd T (X.blk s H scope cenv fp) := ⟨B.K, B.w, B.u, B.calm, B.ok, B.nd⟩
/-- a constant of the module -/
def GC (T : Tb) (X : Cx) (x : Str) (d : D) : Prop := ∃ u v, X.mg x = some u ∧ RelV v u ∧ ∀ ρ H, RelD T ρ H d v
/-- a def that keeps its promise -/
structure FG (T : Tb) (P : Program) (w : World) (K : PySem.W.Frag) (mg : Str → Option Value) (base : Heap) (k : Nat) (f : Addr) (n : Nat) (g : Fn) : Prop where
  ex : ∃ fd ps, FnOk P w K mg base CX0 k f fd ps (spOf T n g) ∧ Binds K fd ps []
  kp : PySem.W.keepIn K (.ref f) = true
theorem FG.mono {T : Tb} {P : Program} {w : World} {K : PySem.W.Frag} {mg : Str → Option Value} {base : Heap} {j k : Nat} {f : Addr} {n : Nat} {g : Fn} (F : FG T P w K mg base j f n g) (h : j ≤ k) : FG T P w K mg base k f n g :=
  ⟨let ⟨fd, ps, h1, h2⟩ := F.ex; ⟨fd, ps, h1.mono h, h2⟩, F.kp⟩
theorem pass1 {X : Cx} {E : XK} : Passes CX0 X E := fun _ _ _ _ _ _ _ h => h.elim
section
variable {T : Tb} {E : XK} {X : Cx} {pos p apos : Pos} {a b c e : Expr} {es : List Expr} {ma mb mc m : ME} {ms : MA} {mt mu : MT} {x : Str} {k j n : Nat} {f C : Addr} {g : Fn}
/-! values -/
theorem xV (i : Nat) (hN : X.N[i]? = some x := by rfl) (hv : Vis X.env.scope x := by first | exact Or.inl rfl | exact Or.inr (Or.inl rfl) | exact Or.inr (Or.inr rfl)) (hd : (x == ("__debug__" : Str)) = false := by decide)
    (hcd : (x == ("__classdict__" : Str)) = false := by decide) : PE X (.Name x pos) (rdE T E (mVar i)) := (pe_var hN hv hd hcd).imp fun _ _ _ h => rd_var h
theorem xI {i : Int} {j pos} : PE X (.Constant (.int i) j pos) (rdE T E (mC (.int i))) := pe_int.imp fun _ _ _ h => rd_c (d := .int i) (fun _ _ => rfl) h
theorem xB {b : Bool} {j pos} : PE X (.Constant (.bool b) j pos) (rdE T E (mC (.bl b))) := pe_bl.imp fun _ _ _ h => rd_c (d := .bl b) (fun _ _ => rfl) h
theorem xN {j pos} : PE X (.Constant .none j pos) (rdE T E (mC .non)) := pe_non.imp fun _ _ _ h => rd_c (d := .non) (fun _ _ => rfl) h
theorem xS {x : Str} {j pos} : PE X (.Constant (.str x) j pos) (rdE T E (mC (.str x))) := pe_str.imp fun _ _ _ h => rd_c (d := .str x) (fun _ _ => rfl) h
theorem xG {d : D} (G : GC T X x d) (hg : Gl X x := by rfl) (hd : (x == ("__debug__" : Str)) = false := by decide) : PE X (.Name x pos) (rdE T E (mC d)) := by
  obtain ⟨u, v, h1, h2, h3⟩ := G
  exact (pe_glob hg h1 h2 hd).imp fun _ _ _ h => rd_c h3 h
theorem xOp (B : Bd T X) {op : Operator} (ha : PE X a (rdE T E ma)) (hb : PE X b (rdE T E mb)) : PE X (.BinOp a op b pos) (rdE T E (m2 (vBin op) ma mb)) := (pe_op (or_bin B.K op) ha hb).imp fun _ _ _ h => rd_op h
theorem xNeg (ha : PE X a (rdE T E ma)) : PE X (.UnaryOp .USub a pos) (rdE T E (m1 vNeg ma)) := (pe_un ur_neg ha).imp fun _ _ _ h => rd_un h
theorem xNot (ha : PE X a (rdE T E ma)) : PE X (.UnaryOp .Not a pos) (rdE T E (mNotV ma)) := (pe_not ha).imp fun _ _ _ h => rd_notV h
theorem xOne {op} (ha : PE X a (rdE T E ma)) : PE X (.BoolOp op [a] pos) (rdE T E ma) := pe_one ha
theorem xAnd {rest : List Expr} (ha : PE X a (rdE T E ma)) (hb : PE X (.BoolOp .And (b :: rest) pos) (rdE T E mb)) : PE X (.BoolOp .And (a :: b :: rest) pos) (rdE T E (mAndV ma mb)) := (pe_and ha hb).imp fun _ _ _ h => rd_andV h
theorem xOr {rest : List Expr} (ha : PE X a (rdE T E ma)) (hb : PE X (.BoolOp .Or (b :: rest) pos) (rdE T E mb)) : PE X (.BoolOp .Or (a :: b :: rest) pos) (rdE T E (mOrV ma mb)) := (pe_or ha hb).imp fun _ _ _ h => rd_orV h
theorem xIf (hc : PT X c (rdT T E mt)) (ha : PE X a (rdE T E ma)) (hb : PE X b (rdE T E mb)) : PE X (.IfExp c a b pos) (rdE T E (mIf mt ma mb)) := (pe_ifExp hc ha hb).imp fun _ _ _ h => rd_if h
/-- the comparisons, by their operator -/
def vCmp : CmpOp → D → D → LH → Res D
  | .Eq => vEq
  | .NotEq => vNe
  | .Lt => vCmpI fun i j => decide (i < j)
  | .LtE => vCmpI fun i j => decide (i ≤ j)
  | .Gt => vCmpI fun i j => decide (i > j)
  | .GtE => vCmpI fun i j => decide (i ≥ j)
  | .Is => vIs false
  | .IsNot => vIs true
  | .In => vIn false
  | .NotIn => vIn true
theorem or_cmp (B : Bd T X) (op : CmpOp) : OpR X (compareOp op) (rdOp T E (vCmp op)) := by
  cases op with
  | Eq => exact or_eq B.K B.u
  | NotEq => exact or_ne B.K B.u
  | Lt => exact or_cmpI op_lt
  | LtE => exact or_cmpI op_le
  | Gt => exact or_cmpI op_gt
  | GtE => exact or_cmpI op_ge
  | Is => exact or_is
  | IsNot => exact or_isnot
  | In => exact or_in B.K B.w B.u false
  | NotIn => exact or_in B.K B.w B.u true
theorem xCmp (B : Bd T X) {op : CmpOp} (ha : PE X a (rdE T E ma)) (hb : PE X b (rdE T E mb)) (hm : behindInMarks op b = false := by first | exact nobehind _ (by decide) (by decide) | rfl) : PE X (.Compare a [op] [b] pos) (rdE T E (m2 (vCmp op) ma mb)) := (pe_cmpR (or_cmp B op) ha hb hm).imp fun _ _ _ h => rd_op h
theorem xChain (B : Bd T X) {op op' : CmpOp} (ha : PE X a (rdE T E ma)) (hb : PE X b (rdE T E mb)) (hc : PE X c (rdE T E mc)) (hm : lastMarks [op, op'] [b, c] = false := by with_unfolding_all rfl) :
    PE X (.Compare a [op, op'] [b, c] pos) (rdE T E (mChain (vCmp op) (vCmp op') ma mb mc)) := (pe_chain (or_cmp B op) (or_cmp B op') ha hb hc hm).imp fun _ _ _ h => rd_chain h
/-! tests -/
theorem tV (ha : PE X a (rdE T E ma)) (he : ∀ whole, isTrue a X.env whole = (do let v ← whole; standAt a.pos; holding [v] (truthy v)) := by intro _; rfl) : PT X a (rdT T E (mB ma)) := (pt_val ha he).imp fun _ _ _ h => rd_tB h
theorem tCmp (B : Bd T X) {op : CmpOp} (ha : PE X a (rdE T E ma)) (hb : PE X b (rdE T E mb)) (hm : behindInMarks op b = false := by first | exact nobehind _ (by decide) (by decide) | rfl) : PT X (.Compare a [op] [b] pos) (rdT T E (mB (m2 (vCmp op) ma mb))) :=
  (pt_cmpR (or_cmp B op) ha hb hm).imp fun _ _ _ h => rd_op (rd_tB h)
theorem tChn (B : Bd T X) {op op' : CmpOp} (ha : PE X a (rdE T E ma)) (hb : PE X b (rdE T E mb)) (hc : PE X c (rdE T E mc)) (hm : lastMarks [op, op'] [b, c] = false := by with_unfolding_all rfl) :
    PT X (.Compare a [op, op'] [b, c] pos) (rdT T E (mB (mChain (vCmp op) (vCmp op') ma mb mc))) := (pt_chain (or_cmp B op) (or_cmp B op') ha hb hc hm).imp fun _ _ _ h => rd_chain (rd_tB h)
theorem tNot' (ha : PT X a (rdT T E mt)) : PT X (.UnaryOp .Not a pos) (rdT T E (mNot mt)) := (pt_not ha).imp fun _ _ _ h => rd_not h
theorem wAnd1 (ha : PT X a (rdT T E mt)) : PW X (.BoolOp .And [a] pos) (rdT T E mt) := pw_and1 ha
theorem wOr1 (ha : PT X a (rdT T E mt)) : PW X (.BoolOp .Or [a] pos) (rdT T E mt) := pw_or1 ha
theorem wAnd {rest : List Expr} (ha : PT X a (rdT T E mt)) (hb : PW X (.BoolOp .And (b :: rest) pos) (rdT T E mu)) : PW X (.BoolOp .And (a :: b :: rest) pos) (rdT T E (mAnd mt mu)) := (pw_and ha hb).imp fun _ _ _ h => rd_and h
theorem wOr {rest : List Expr} (ha : PT X a (rdT T E mt)) (hb : PW X (.BoolOp .Or (b :: rest) pos) (rdT T E mu)) : PW X (.BoolOp .Or (a :: b :: rest) pos) (rdT T E (mOr mt mu)) := (pw_or ha hb).imp fun _ _ _ h => rd_or h
theorem tW {t : TT} (h : PW X a t) : PT X a t := h.pt
/-! arguments, displays, subscripts, fields -/
theorem aN : PA X [] (rdA T E aNil) := pa_nil.imp fun _ _ _ h => rd_nil h
theorem aC (ha : PE X e (rdE T E m)) (hr : PA X es (rdA T E ms)) (hs : starEach (e :: es) X.env = (false, eval e X.env) :: starEach es X.env := by rfl) : PA X (e :: es) (rdA T E (aCons m ms)) := (pa_cons ha hr hs).imp fun _ _ _ h => rd_cons h
theorem aS (B : Bd T X) (ha : PE X e (rdE T E m)) (hr : PA X es (rdA T E ms)) (hs : starEach (.Starred e p :: es) X.env = (true, eval e X.env) :: starEach es X.env := by rfl) : PA X (.Starred e p :: es) (rdA T E (aStar m ms)) := (StX.pa_star ha hr hs).imp fun _ _ _ h => rd_star B.K h
theorem xTup {x1} (h : PA X es (rdA T E ms)) : PE X (.Tuple es x1 pos) (rdE T E (mTup ms)) := (pe_tup h).imp fun _ _ _ h => rd_tup h
theorem xLst (h : PA X es (rdA T E ms)) : PE X (.List es pos) (rdE T E (mLst ms)) := (pe_lst h).imp fun _ _ _ h => rd_lst h
theorem xIx (B : Bd T X) (ha : PE X a (rdE T E ma)) (hb : PE X b (rdE T E mb)) (hs : PlainIx b := by intro _ _; rfl) : PE X (.Subscript a b pos) (rdE T E (m2 vIdx ma mb)) := (pe_ix (xr_ix B.K B.w B.u) ha hb hs).imp fun _ _ _ h => rd_op h
theorem oN : PO X none (rdO T E oNone) := poImp po_none fun _ _ _ h => rd_oNone h
theorem oS (h : PE X e (rdE T E m)) : PO X (some e) (rdO T E (oSome m)) := poImp (po_some h) fun _ _ _ h => rd_oSome h
theorem xSl (B : Bd T X) {lo hi : Option Expr} {ml mh : MO} {p2 : Pos} (ha : PE X a (rdE T E ma)) (hl : PO X lo (rdO T E ml)) (hh : PO X hi (rdO T E mh)) : PE X (.Subscript a (.Slice lo hi none p2) pos) (rdE T E (mSl ma ml mh)) := (pe_slice (sr_sl B.K) ha hl hh).imp fun _ _ _ h => rd_sl h
theorem xF (B : Bd T X) (i : Nat) (ha : PE X e (rdE T E m)) (hx : T.fn[i]? = some x := by rfl) (hb : attributeBase e x X.env (eval e X.env) = eval e X.env := by rfl) : PE X (.Attribute e x pos) (rdE T E (m1 (vFld i) m)) := (pe_fld ha hb).imp fun _ _ _ h => rd_fld B.ok B.K hx h
/-! calls -/
theorem xCall (F : FG T X.prog X.w X.K X.mg X.base j f n g) (hr : Room k X.A) (hm : X.mg x = some (.ref f)) (ha : PA X (e :: es) (rdA T E ms)) (le : j ≤ k := by decide) (hg : Gl X x := by rfl) (hd : (x == ("__debug__" : Str)) = false := by decide)
    (hst : starEach (e :: es) X.env = (false, eval e X.env) :: starEach es X.env := by rfl) (hpl : (backTo pos (starEach es X.env)).any (·.1) = false := by rfl) : PE X (.Call (.Name x p) (e :: es) [] pos) (rdE T E (mCall n g ms)) := by
  obtain ⟨fd, ps, h1, h2⟩ := F.ex
  exact (pe_call h1 (hr.mono le) hg hm F.kp h2 .nil pass1 ha hd hst hpl).imp fun _ _ _ h => rd_call h
theorem xCall0 (F : FG T X.prog X.w X.K X.mg X.base j f n g) (hr : Room k X.A) (hm : X.mg x = some (.ref f)) (le : j ≤ k := by decide) (hg : Gl X x := by rfl) (hd : (x == ("__debug__" : Str)) = false := by decide) : PE X (.Call (.Name x p) [] [] pos) (rdE T E (mCall n g aNil)) := by
  obtain ⟨fd, ps, h1, h2⟩ := F.ex
  exact (pe_call0 h1 (hr.mono le) hg hm F.kp h2 .nil pass1 hd).imp fun σ H Q h => by
    obtain ⟨ρ, sl, lh, sr, post⟩ := rd_call h
    exact post ρ H Le.refl sr.hr [] rfl
/-- a class of ours, with its __init__ -/
structure CG (T : Tb) (P : Program) (w : World) (K : PySem.W.Frag) (mg : Str → Option Value) (base : Heap) (k : Nat) (c : Nat) (x : Str) (f : Addr) (n : Nat) (g : Fn) : Prop where
  nm : T.cn[c]? = some x
  gl : mg x = some (.ref (He.ga T.K x))
  mkr : Mk K (He.ga T.K x) f
  fn : FG T P w K mg base k f n g
theorem xMake {cc : Nat} (M : CG T X.prog X.w X.K X.mg X.base j cc x f n g) (hr : Room k X.A) (ha : PA X (e :: es) (rdA T E ms)) (le : j + 1 ≤ k := by decide) (hg : Gl X x := by rfl) (hd : (x == ("__debug__" : Str)) = false := by decide)
    (hst : starEach (e :: es) X.env = (false, eval e X.env) :: starEach es X.env := by rfl) (hpl : (backTo pos (starEach es X.env)).any (·.1) = false := by rfl) : PE X (.Call (.Name x p) (e :: es) [] pos) (rdE T E (mMake cc n g ms)) := by
  obtain ⟨fd, ps, h1, h2⟩ := M.fn.ex
  exact (pe_make M.mkr h1 (hr.mono le) hg M.gl h2 .nil pass1 ha hd hst hpl).imp fun _ _ _ h => rd_make M.nm h
/-- o.m(..) by the class of o -/
def MG' (T : Tb) (X : Cx) (k : Nat) (m : Str) (mt : MTab) : Prop := m ∉ T.fn ∧ MtOk T X CX0 m mt
theorem xMeth (B : Bd T X) {o : Expr} {mo : ME} {mt : MTab} {nm : Str} {pl : Sem Bool} (hm : nm ∉ T.fn) (M : MtOk T X CX0 nm mt) (ho : PE X o (rdE T E mo)) (ha : PA X (e :: es) (rdA T E ms))
    (hst : starEach (e :: es) X.env = (false, eval e X.env) :: starEach es X.env := by rfl) (hpl : (backTo pos (starEach es X.env)).any (·.1) = false := by rfl)
    (ht : eval (.Call (.Attribute o nm apos) (e :: es) [] pos) X.env = (do
      let ov ← eval o X.env
      standAt apos.atName
      let (f, first) ← holding [ov] (getMethod ov nm pl)
      callWith pos f first (backTo pos (starEach (e :: es) X.env)) (backToKw pos (keywordEach [] X.env))) := by rfl) : PE X (.Call (.Attribute o nm apos) (e :: es) [] pos) (rdE T E (mMeth mt mo ms)) :=
  (pe_methD ho pass1 ha hst hpl ht).imp fun _ _ _ h => rd_meth B.ok B.K hm M h
theorem xMeth0 (B : Bd T X) {o : Expr} {mo : ME} {mt : MTab} {nm : Str} {pl : Sem Bool} (hm : nm ∉ T.fn) (M : MtOk T X CX0 nm mt) (ho : PE X o (rdE T E mo))
    (ht : eval (.Call (.Attribute o nm apos) [] [] pos) X.env = (do
      let ov ← eval o X.env
      standAt apos.atName
      let (f, first) ← holding [ov] (getMethod ov nm pl)
      callWith pos f first (backTo pos (starEach [] X.env)) (backToKw pos (keywordEach [] X.env))) := by rfl) : PE X (.Call (.Attribute o nm apos) [] [] pos) (rdE T E (mMeth mt mo aNil)) :=
  (pe_methD0 ho pass1 ht).imp fun σ H Q h => by
    obtain ⟨ρ, sl, lh, sr, post⟩ := rd_meth B.ok B.K hm M h
    refine ⟨ρ, sl, lh, sr, post.mono fun d h1 ρ1 H1 le1 hr1 p1 v rv => ?_⟩
    obtain ⟨a, C, dx, fs, f, fd, ps, sp, k, h1, h2, h3, h4, h5, h6, h7, h8, ρ2, sl2, lh2, sr2, post2⟩ := p1 v rv
    exact ⟨a, C, dx, fs, f, fd, ps, sp, k, h1, h2, h3, h4, h5, h6, h7, h8, post2 ρ2 H1 Le.refl sr2.hr [] rfl⟩
/-- a method table by its classes -/
theorem mt_nil {nm : Str} : MtOk T X CX0 nm [] := fun c n g x e => nomatch e
theorem mt_cons {nm : Str} {cc : Nat} {y : Str} {mt : MTab} (hc : T.cn[cc]? = some y) (M : Meth X.K (He.ga T.K y) nm f) (F : FG T X.prog X.w X.K X.mg X.base j f n g) (hr : Room k X.A) (le : j ≤ k) (r : MtOk T X CX0 nm mt) : MtOk T X CX0 nm ((cc, n, g) :: mt) := by
  intro c n' g' x e hx
  unfold mtLook at e
  cases hb : Nat.beq cc c with
  | false => simp only [hb] at e; exact r c n' g' x e hx
  | true =>
    simp only [hb] at e
    cases e
    have := Nat.eq_of_beq_eq_true hb
    subst this
    rw [hc] at hx
    cases hx
    obtain ⟨fd, ps, h1, h2⟩ := F.ex
    exact ⟨f, fd, ps, j, M, h1, hr.mono le, h2⟩
/-! built-in functions: a name, its rule -/
theorem xFnB {id : String} {g : Fn} (hc : CallR X (.builtin id) (rdFn T E g)) (hm : X.mg x = none) (hv : bootBuiltins x = some (.builtin id)) (ha : PA X (e :: es) (rdA T E ms)) (hg : Gl X x := by rfl) (hn : x ≠ "__name__" := by decide) (hdb : (x == ("__debug__" : Str)) = false := by decide)
    (hst : starEach (e :: es) X.env = (false, eval e X.env) :: starEach es X.env := by rfl) (hpl : (backTo pos (starEach es X.env)).any (·.1) = false := by rfl) : PE X (.Call (.Name x p) (e :: es) [] pos) (rdE T E (mFn g ms)) :=
  (pe_callB hc hg hm hv ha hn hdb hst hpl).imp fun _ _ _ h => rd_fn h
theorem xFnT {id : String} {g : Fn} (hc : CallR X (.type id) (rdFn T E g)) (hm : X.mg x = none) (hv : bootBuiltins x = some (.type id)) (ha : PA X (e :: es) (rdA T E ms)) (hg : Gl X x := by rfl) (hn : x ≠ "__name__" := by decide) (hdb : (x == ("__debug__" : Str)) = false := by decide)
    (hst : starEach (e :: es) X.env = (false, eval e X.env) :: starEach es X.env := by rfl) (hpl : (backTo pos (starEach es X.env)).any (·.1) = false := by rfl) : PE X (.Call (.Name x p) (e :: es) [] pos) (rdE T E (mFn g ms)) :=
  (pe_callTy hc hg hm hv ha hn hdb hst hpl).imp fun _ _ _ h => rd_fn h
/-! statements -/
variable {s1 s2 : MS} {st : Stmt} {rest sa sb : List Stmt} {tg : Expr} {mg : MG}
theorem zN : PSs X [] (rdS T E sSkip) := pss_nil.imp fun _ _ _ h => rd_skip h
theorem z1 (h1 : PS X st (rdS T E s1)) : PSs X [st] (rdS T E s1) := pss_one h1
theorem zC (h1 : PS X st (rdS T E s1)) (h2 : PSs X rest (rdS T E s2)) : PSs X (st :: rest) (rdS T E (sSeq s1 s2)) := (pss_cons h1 h2).imp fun _ _ _ h => rd_seq h
def sNever : MS := fun _ _ => .stuck
theorem sNv : PS X st (rdS T E sNever) := ps_never.imp fun _ _ _ h => by obtain ⟨_, _, _, _, h⟩ := h; exact h
theorem sPs : PS X (.Pass pos) (rdS T E sSkip) := ps_pass.imp fun _ _ _ h => rd_skip h
theorem sBk : PS X (.Break pos) (rdS T E sBreak) := ps_break.imp fun _ _ _ h => rd_break h
theorem sCt : PS X (.Continue pos) (rdS T E sCont) := ps_continue.imp fun _ _ _ h => rd_cont h
theorem sEx (h : PE X e (rdE T E m)) (hs : swapsWith e none pos.line X.env = pure false := by rfl) : PS X (.Expr e pos) (rdS T E (sExpr m)) := (ps_expr h hs).imp fun _ _ _ h => rd_expr h
theorem sR (h : PE X e (rdE T E m)) : PS X (.Return (some e) pos) (rdS T E (sRet m)) := (ps_ret h).imp fun _ _ _ h => rd_ret h
theorem sR0 : PS X (.Return none pos) (rdS T E sRetN) := ps_retN.imp fun _ _ _ h => rd_retN h
theorem sI (hc : PT X c (rdT T E mt)) (ha : PSs X sa (rdS T E s1)) (hb : PSs X sb (rdS T E s2)) : PS X (.If c sa sb pos) (rdS T E (sIf mt s1 s2)) := (ps_if hc ha hb).imp fun _ _ _ h => rd_ifS h
theorem pown (hx : X.xe = fun _ _ => False) : PassesOwn (model X.prog X.w) X.A X.env X.xe := by rw [hx]; exact PassesOwn.never
theorem sW (n : Nat) (hx : X.xe = fun _ _ => False) (hc : PT X c (rdT T E mt)) (hb : PSs X sa (rdS T E s1)) : PS X (.While c sa [] pos) (rdS T E (sWhile mt s1 n)) := (ps_while (pown hx) hc hb).imp fun _ _ _ h => rd_while h
theorem gNm (B : Bd T X) (i : Nat) (hi : X.N[i]? = some x := by rfl) (hx : Loc X.env.scope x := by first | exact Or.inl rfl | exact Or.inr rfl) (hf : X.fn x = true ∨ X.env.scope.names.lookup x = some .local := by first | exact .inl rfl | exact .inr rfl) : PG X (.Name x pos) (rdG T E (gN i)) :=
  pgImp (pg_name B.nd hi hx hf) fun _ _ _ _ h => rd_gN h
theorem gNs : PGs X [] (rdGs T E gsNil) := pgsImp pgs_nil fun _ _ _ _ h => rd_gsNil h
theorem gCs {gs : MGs} (h1 : PG X e (rdG T E mg)) (h2 : PGs X es (rdGs T E gs)) (hs : (assignEach (e :: es) X.env).map (·.2) = assign e X.env :: (assignEach es X.env).map (·.2) := by rfl) : PGs X (e :: es) (rdGs T E (gsCons mg gs)) := pgsImp (pgs_cons h1 h2 hs) fun _ _ _ _ h => rd_gsCons h
theorem gTp (B : Bd T X) {gs : MGs} {kk : Nat} (h : PGs X es (rdGs T E gs)) (hn : (assignEach es X.env).length = n := by rfl) (hst : (assignEach es X.env).findIdx? (·.1) = none := by rfl) : PG X (.Tuple es kk pos) (rdG T E (gTupM n gs)) := pgImp (pg_tup B.calm h hn hst) fun _ _ _ _ h => rd_gTup B.K h
theorem gAt (B : Bd T X) (i : Nat) (ho : PE X e (rdE T E m)) (hx : T.fn[i]? = some x := by rfl) : PG X (.Attribute e x pos) (rdG T E (gAttr i m)) := pgImp (pg_attr ho) fun _ _ _ _ h => rd_gAttr B.ok B.K hx h
theorem gSb (B : Bd T X) (ho : PE X a (rdE T E ma)) (hi : PE X b (rdE T E mb)) (h3 : ∀ v, assign (.Subscript a b pos) X.env v = (do
      let ov ← holding [v] (eval a X.env)
      let iv ← holding [v, ov] (eval b X.env)
      standAt pos
      holding [v, ov, iv] (setItem ov iv v)
      release [v, ov, iv] []) := by intro _; rfl) : PG X (.Subscript a b pos) (rdG T E (gSubM ma mb)) := pgImp (pg_sub ho hi (ps_set_ok B.K B.w B.u) h3) fun _ _ _ _ h => rd_gSub h
theorem sA (h : PE X e (rdE T E m)) (hg : PG X tg (rdG T E mg)) (hs : swapsWithSole [tg] e pos.line X.env = pure false := by rfl) (hw : swappedStores [tg] e X.env = pure none := by rfl)
    (h1 : (assignEach [tg] X.env).map (·.2) = [assign tg X.env] := by rfl) : PS X (.Assign [tg] e pos) (rdS T E (sAsg m mg)) := (ps_asg h hg hs hw h1).imp fun _ _ _ h => rd_asg h
theorem sP (B : Bd T X) (i j : Nat) {y z : Str} {px py pt : Pos} {kt k2 pt2} (ha : PA X [a, b] (rdA T E ms)) (hi : X.N[i]? = some y := by rfl) (hj : X.N[j]? = some z := by rfl) (hij : i ≠ j := by decide)
    (hx : X.env.scope.names.lookup y = some .local := by rfl) (hy : X.env.scope.names.lookup z = some .local := by rfl)
    (hw : swappedStores [.Tuple [.Name y px, .Name z py] kt pt] (.Tuple [a, b] k2 pt2) X.env = pure (some [y, z]) := by rfl)
    (hs : swapsWithSole [.Tuple [.Name y px, .Name z py] kt pt] (.Tuple [a, b] k2 pt2) pos.line X.env = pure false := by rfl) :
    PS X (.Assign [.Tuple [.Name y px, .Name z py] kt pt] (.Tuple [a, b] k2 pt2) pos) (rdS T E (sPar i j ms)) := (ps_par B.calm B.nd hi hj hij hx hy ha hw hs).imp fun _ _ _ h => rd_par h
/-! loops, comprehensions -/
variable {mi : MI} {t : Tg}
theorem tgN (B : Bd T X) (i : Nat) (hi : X.N[i]? = some x := by rfl) (hx : Loc X.env.scope x := by first | exact Or.inl rfl | exact Or.inr rfl) (hf : X.fn x = true ∨ X.env.scope.names.lookup x = some .local := by first | exact .inl rfl | exact .inr rfl) : PG X (.Name x pos) (tgR X.K (.nm i)) := pg_name B.nd hi hx hf
theorem tsN : PGs X [] (gsR []) := pgs_nil
theorem tsC (B : Bd T X) (i : Nat) {is : List Nat} (h : PGs X es (gsR is)) (hi : X.N[i]? = some x := by rfl) (hx : Loc X.env.scope x := by first | exact Or.inl rfl | exact Or.inr rfl) (hf : X.fn x = true ∨ X.env.scope.names.lookup x = some .local := by first | exact .inl rfl | exact .inr rfl)
    (hs : (assignEach (.Name x pos :: es) X.env).map (·.2) = assign (.Name x pos) X.env :: (assignEach es X.env).map (·.2) := by rfl) : PGs X (.Name x pos :: es) (gsR (i :: is)) := pgs_cons (pg_name B.nd hi hx hf) h hs
theorem tgT (B : Bd T X) {is : List Nat} {kk : Nat} (h : PGs X es (gsR is)) (hn : (assignEach es X.env).length = is.length := by rfl) (hst : (assignEach es X.env).findIdx? (·.1) = none := by rfl) : PG X (.Tuple es kk pos) (tgR X.K (.tp is)) := pg_tup B.calm h hn hst
theorem sF (B : Bd T X) (hx : X.xe = fun _ _ => False) (hi : PI X tg e (rdI T E mi)) (hg : PG X tg (tgR X.K t)) (hb : PSs X sa (rdS T E s1)) (hs : ∀ x, foldedSetIterable e X.env x = pure x := by intro _; rfl) : PS X (.For tg e sa [] pos) (rdS T E (sFor mi t s1)) :=
  (ps_for (pown hx) B.calm hi hg hb hs).imp fun _ _ _ h => rd_for B.K h
theorem iA (B : Bd T X) (h : PE X e (rdE T E m)) : PI X tg e (rdI T E (iAny m)) := pi_any B.K h
theorem PI_imp {w w' : TI} (h : PI X tg e w) (k : ∀ σ H R, w' σ H R → w σ H R) : PI X tg e w' := ⟨fun pins s σ H R I q => h.run pins s σ H R I (k σ H R q)⟩
theorem iR1 (hm : X.mg "range" = none) (ha : PA X [a] (rdA T E ms)) (hg : Gl X "range" := by rfl) (hs : starEach [a] X.env = [(false, eval a X.env)] := by rfl) : PI X tg (.Call (.Name "range" p) [a] [] pos) (rdI T E (iRange1 ms)) := PI_imp (pi_range1 hg hm ha hs) fun _ _ _ h => rd_range1 h
theorem iR2 (hm : X.mg "range" = none) (ha : PA X [a, b] (rdA T E ms)) (hg : Gl X "range" := by rfl) (hs : starEach [a, b] X.env = [(false, eval a X.env), (false, eval b X.env)] := by rfl) (hs2 : starEach [b] X.env = [(false, eval b X.env)] := by rfl) :
    PI X tg (.Call (.Name "range" p) [a, b] [] pos) (rdI T E (iRange2 ms)) := PI_imp (pi_range2 hg hm ha hs hs2) fun _ _ _ h => rd_range2 h
def mYes : MT := fun _ h => .ok true h
theorem yN : PTs X [] (rdT T E mYes) := ⟨fun pins s σ H Q I h => pts_nil.run pins s σ H Q I (by obtain ⟨ρ, sl, lh, sr, post⟩ := h; exact post ρ H Le.refl sr.hr)⟩
theorem y1 (h : PT X c (rdT T E mt)) : PTs X [c] (rdT T E mt) := pts_one h
theorem xLc (B : Bd T X) {own : List (Str × Nat)} {tg iter elt : Expr} {ifs : List Expr} {scope : Scope} {me : ME} (hi : PI X tg iter (rdI T E mi)) (ok : blkC X.N X.env.scope scope own = true)
    (h : ∀ (s : Shared) (H : Hp) (C : Addr) (cl : List (Str × Addr)) (fp : List Addr), PG (X.blk s H scope (compEnvC scope cl C X.env) fp) tg (tgR X.K t) ∧ PTs (X.blk s H scope (compEnvC scope cl C X.env) fp) ifs (rdT T E0 mt) ∧ PE (X.blk s H scope (compEnvC scope cl C X.env) fp) elt (rdE T E0 me))
    (ht : (tgIs t).all (fun i => (own.map (·.2)).contains i) = true := by rfl) (hs : ∀ x, foldedSetIterable iter X.env x = pure x := by intro _; rfl) :
    PE X (.ListComp elt [⟨tg, iter, ifs, 0⟩] scope pos) (rdE T E (mLc mi t mt me (own.map (·.2)))) :=
  (pe_lc B.calm B.nd hi (blkOk_by ok) (fun s H C cl fp => (h s H C cl fp).1) (fun s H C cl fp => (h s H C cl fp).2.1) (fun s H C cl fp => (h s H C cl fp).2.2) hs).imp fun _ _ _ q => rd_lc B.K (fun i hi => by simpa using List.all_eq_true.mp ht i hi) q
theorem xDc (B : Bd T X) {own : List (Str × Nat)} {tg iter kx vx : Expr} {ifs : List Expr} {scope : Scope} {mk mv : ME} (hi : PI X tg iter (rdI T E mi)) (ok : blkC X.N X.env.scope scope own = true)
    (h : ∀ (s : Shared) (H : Hp) (C : Addr) (cl : List (Str × Addr)) (fp : List Addr), PG (X.blk s H scope (compEnvC scope cl C X.env) fp) tg (tgR X.K t) ∧ PTs (X.blk s H scope (compEnvC scope cl C X.env) fp) ifs (rdT T E0 mt) ∧ PE (X.blk s H scope (compEnvC scope cl C X.env) fp) kx (rdE T E0 mk) ∧ PE (X.blk s H scope (compEnvC scope cl C X.env) fp) vx (rdE T E0 mv))
    (ht : (tgIs t).all (fun i => (own.map (·.2)).contains i) = true := by rfl) (hs : ∀ x, foldedSetIterable iter X.env x = pure x := by intro _; rfl) :
    PE X (.DictComp kx vx [⟨tg, iter, ifs, 0⟩] scope pos) (rdE T E (mDc mi t mt mk mv (own.map (·.2)))) :=
  (pe_dcr B.calm B.nd hi (blkOk_by ok) (fun s H C cl fp => (h s H C cl fp).1) (fun s H C cl fp => (h s H C cl fp).2.1) (fun s H C cl fp => (h s H C cl fp).2.2.1) (fun s H C cl fp => (h s H C cl fp).2.2.2) hs).imp fun _ _ _ q => rd_dc B.K B.w B.u (fun i hi => by simpa using List.all_eq_true.mp ht i hi) q
/-- name = [..] on one line -/
theorem sLc (B : Bd T X) (i : Nat) {y : Str} {py spos : Pos} {own : List (Str × Nat)} {tg iter elt : Expr} {ifs : List Expr} {scope : Scope} {me : ME} (hi : PI X tg iter (rdI T E mi)) (ok : blkC X.N X.env.scope scope own = true)
    (h : ∀ (s : Shared) (H : Hp) (C : Addr) (cl : List (Str × Addr)) (fp : List Addr), PG (X.blk s H scope (compEnvC scope cl C X.env) fp) tg (tgR X.K t) ∧ PTs (X.blk s H scope (compEnvC scope cl C X.env) fp) ifs (rdT T E0 mt) ∧ PE (X.blk s H scope (compEnvC scope cl C X.env) fp) elt (rdE T E0 me))
    (hy : X.N[i]? = some y := by rfl) (hyl : X.env.scope.names.lookup y = some .local := by rfl) (hsw : swapsWith (.ListComp elt [⟨tg, iter, ifs, 0⟩] scope pos) (some (.Name y py)) spos.line X.env = pure true := by exact sw_true rfl rfl rfl rfl)
    (ht : (tgIs t).all (fun i => (own.map (·.2)).contains i) = true := by rfl) (hs : ∀ x, foldedSetIterable iter X.env x = pure x := by intro _; rfl) :
    PS X (.Assign [.Name y py] (.ListComp elt [⟨tg, iter, ifs, 0⟩] scope pos) spos) (rdS T E (sAsg (mLc mi t mt me (own.map (·.2))) (gN i))) :=
  (ps_setLc B.calm B.nd hy hyl hsw hi (blkOk_by ok) (fun s H C cl fp => (h s H C cl fp).1) (fun s H C cl fp => (h s H C cl fp).2.1) (fun s H C cl fp => (h s H C cl fp).2.2) hs).imp fun D σ H q => by
    have q := rd_asg q
    show tLc _ _ _ _ _ σ H _
    refine rd_lc (E := E) B.K (fun i hi => by simpa using List.all_eq_true.mp ht i hi) ?_
    obtain ⟨ρ, sl, lh, sr, post⟩ := q
    exact ⟨ρ, sl, lh, sr, post.mono fun d h1 ρ1 H1 le1 hr1 p1 v rv => rd_gN (p1 v rv)⟩
/-- name = {..} on one line -/
theorem sDc (B : Bd T X) (i : Nat) {y : Str} {py spos : Pos} {own : List (Str × Nat)} {tg iter kx vx : Expr} {ifs : List Expr} {scope : Scope} {mk mv : ME} (hi : PI X tg iter (rdI T E mi)) (ok : blkC X.N X.env.scope scope own = true)
    (h : ∀ (s : Shared) (H : Hp) (C : Addr) (cl : List (Str × Addr)) (fp : List Addr), PG (X.blk s H scope (compEnvC scope cl C X.env) fp) tg (tgR X.K t) ∧ PTs (X.blk s H scope (compEnvC scope cl C X.env) fp) ifs (rdT T E0 mt) ∧ PE (X.blk s H scope (compEnvC scope cl C X.env) fp) kx (rdE T E0 mk) ∧ PE (X.blk s H scope (compEnvC scope cl C X.env) fp) vx (rdE T E0 mv))
    (hy : X.N[i]? = some y := by rfl) (hyl : X.env.scope.names.lookup y = some .local := by rfl) (hsw : swapsWith (.DictComp kx vx [⟨tg, iter, ifs, 0⟩] scope pos) (some (.Name y py)) spos.line X.env = pure true := by exact sw_dict rfl rfl rfl rfl)
    (ht : (tgIs t).all (fun i => (own.map (·.2)).contains i) = true := by rfl) (hs : ∀ x, foldedSetIterable iter X.env x = pure x := by intro _; rfl) :
    PS X (.Assign [.Name y py] (.DictComp kx vx [⟨tg, iter, ifs, 0⟩] scope pos) spos) (rdS T E (sAsg (mDc mi t mt mk mv (own.map (·.2))) (gN i))) :=
  (ps_setDcr B.calm B.nd hy hyl hsw hi (blkOk_by ok) (fun s H C cl fp => (h s H C cl fp).1) (fun s H C cl fp => (h s H C cl fp).2.1) (fun s H C cl fp => (h s H C cl fp).2.2.1) (fun s H C cl fp => (h s H C cl fp).2.2.2) hs).imp fun D σ H q => by
    have q := rd_asg q
    show tDr _ _ _ _ _ _ _ σ H _
    refine rd_dc (E := E) B.K B.w B.u (fun i hi => by simpa using List.all_eq_true.mp ht i hi) ?_
    obtain ⟨ρ, sl, lh, sr, post⟩ := q
    exact ⟨ρ, sl, lh, sr, post.mono fun d h1 ρ1 H1 le1 hr1 p1 v rv => rd_gN (p1 v rv)⟩
/-! isinstance -/

end
end TL

namespace TL
open PySem PySem.Spec PyProof.Rows L2

/-! ### isinstance -/
def CV (T : Tb) (X : Cx) (c : Nat) (e : Expr) : Prop := ∃ cv, ClV T c cv ∧ PE X e (tC cv)
section
variable {T : Tb} {E : XK} {X : Cx} {pos p p2 : Pos} {a e e2 : Expr} {es : List Expr} {ma m : ME} {ms mk : MA} {x : Str} {c c2 k j n : Nat} {f C : Addr} {g : Fn}
theorem cvB {nm : String} (hv : bootBuiltins x = some (.type nm)) (hm : X.mg x = none) (hc : tyNames[c]? = some nm := by rfl) (hg : Gl X x := by rfl) (hn : x ≠ "__name__" := by decide) (hd : (x == ("__debug__" : Str)) = false := by decide) : CV T X c (.Name x pos) := by
  refine ⟨.ty nm, ⟨.type nm, ?_, rfl, fun w h => h⟩, pe_bltn hg hm hv rfl hn hd⟩
  unfold tyVal
  rw [hc]
theorem cvO (hm : X.mg x = some (.ref (He.ga T.K x))) (i : Nat) (hc : T.cn[i]? = some x := by rfl) (hg : Gl X x := by rfl) (hd : (x == ("__debug__" : Str)) = false := by decide) : CV T X (7 + i) (.Name x pos) :=
  ⟨.ref (He.ga T.K x), ⟨.ref (He.ga T.K x), tyVal_own hc, rfl, fun w h => h⟩, pe_glob hg hm rfl hd⟩
theorem xIs (B : Bd T X) (hm : X.mg "isinstance" = none) (ha : PE X a (rdE T E ma)) (hc : CV T X c e) (hg : Gl X "isinstance" := by rfl) (s1 : starEach [a, e] X.env = (false, eval a X.env) :: starEach [e] X.env := by rfl) (s2 : starEach [e] X.env = (false, eval e X.env) :: starEach [] X.env := by rfl)
    (hpl : (backTo pos (starEach [e] X.env)).any (·.1) = false := by rfl) : PE X (.Call (.Name "isinstance" p) [a, e] [] pos) (rdE T E (m1 (vIsi [c]) ma)) := by
  obtain ⟨cv, h1, h2⟩ := hc
  refine (pe_callB (cr_isi1 (E := E) B.ok B.K h1) hg hm boot_isinstance (pa_cons ha (pa_cons h2 pa_nil s2) s1) (by decide) (by decide) s1 hpl).imp fun σ H Q h => ?_
  obtain ⟨ρ, sl, lh, sr, post⟩ := rd_un h
  exact ⟨ρ, sl, lh, sr, post.mono fun d h1 ρ1 H1 le1 hr1 p1 v rv => ⟨v, rfl, p1 v rv⟩⟩
theorem xIs2 (B : Bd T X) {kk : Nat} (hm : X.mg "isinstance" = none) (ha : PE X a (rdE T E ma)) (hc : CV T X c e) (hc2 : CV T X c2 e2) (hg : Gl X "isinstance" := by rfl) (s1 : starEach [a, .Tuple [e, e2] kk p2] X.env = (false, eval a X.env) :: starEach [.Tuple [e, e2] kk p2] X.env := by rfl)
    (s2 : starEach [e, e2] X.env = (false, eval e X.env) :: starEach [e2] X.env := by rfl) (s3 : starEach [e2] X.env = (false, eval e2 X.env) :: starEach [] X.env := by rfl)
    (hpl : (backTo pos (starEach [.Tuple [e, e2] kk p2] X.env)).any (·.1) = false := by rfl) : PE X (.Call (.Name "isinstance" p) [a, .Tuple [e, e2] kk p2] [] pos) (rdE T E (m1 (vIsi [c, c2]) ma)) := by
  obtain ⟨cv, h1, h2⟩ := hc
  obtain ⟨cv2, h3, h4⟩ := hc2
  refine (pe_callB (cr_isi2 (E := E) B.ok B.K h1 h3) hg hm boot_isinstance (pa_cons ha (pa_cons (pe_tup (pa_cons h2 (pa_cons h4 pa_nil s3) s2)) pa_nil) s1) (by decide) (by decide) s1 hpl).imp fun σ H Q h => ?_
  obtain ⟨ρ, sl, lh, sr, post⟩ := rd_un h
  refine ⟨ρ, sl, lh, sr, post.mono fun d l1 ρ1 H1 le1 hr1 p1 v rv => ?_⟩
  obtain ⟨ρ2, l2, d2, hr2, rd2, post2⟩ := p1 v rv
  refine ⟨by show 2 ≤ sizeLine; decide, fun q hq => ⟨v, q, rfl, upd_same, ρ2, l2, d2, hr2.newTup hq, rd2.mono (Le.newTup hr2 hq).toLe0, PostG.later post2 (Le.newTup hr2 hq)⟩⟩
theorem xBm_append (B : Bd T X) {o : Expr} {mo : ME} {apos : Pos} (ho : PE X o (rdE T E mo)) (ha : PA X (e :: es) (rdA T E ms)) (hbase : attributeBase o "append" X.env (eval o X.env) = eval o X.env := by rfl)
    (hfew : ((backTo pos (starEach (e :: es) X.env)).all (fun x => !x.1) && (backToKw pos (keywordEach [] X.env)).all (fun x => x.1.isSome) && decide ((e :: es).length + ([] : List Keyword).length + (if ([] : List Keyword).isEmpty then 0 else 1) < 30)) = true := by rfl)
    (hline : (apos.endLine == pos.line) = true := by rfl) (hs : starEach (e :: es) X.env = (false, eval e X.env) :: starEach es X.env := by rfl) (hpl : (backTo pos (starEach es X.env)).any (·.1) = false := by rfl) : PE X (.Call (.Attribute o "append" apos) (e :: es) [] pos) (rdE T E (mBm lApp mo ms)) :=
  (pe_bm F.plainAttrs_list F.slot_list_append F.type_list_append mr_app ho ha hbase hfew hline hs hpl).imp fun _ _ _ h => rd_bm B.K h
theorem xBm_pop (B : Bd T X) {o : Expr} {mo : ME} {apos : Pos} (ho : PE X o (rdE T E mo)) (ha : PA X (e :: es) (rdA T E ms)) (hbase : attributeBase o "pop" X.env (eval o X.env) = eval o X.env := by rfl)
    (hfew : ((backTo pos (starEach (e :: es) X.env)).all (fun x => !x.1) && (backToKw pos (keywordEach [] X.env)).all (fun x => x.1.isSome) && decide ((e :: es).length + ([] : List Keyword).length + (if ([] : List Keyword).isEmpty then 0 else 1) < 30)) = true := by rfl)
    (hline : (apos.endLine == pos.line) = true := by rfl) (hs : starEach (e :: es) X.env = (false, eval e X.env) :: starEach es X.env := by rfl) (hpl : (backTo pos (starEach es X.env)).any (·.1) = false := by rfl) : PE X (.Call (.Attribute o "pop" apos) (e :: es) [] pos) (rdE T E (mBm lPop mo ms)) :=
  (pe_bm F.plainAttrs_list F.slot_list_pop F.type_list_pop mr_pop ho ha hbase hfew hline hs hpl).imp fun _ _ _ h => rd_bm B.K h
theorem xBm0_pop (B : Bd T X) {o : Expr} {mo : ME} {apos : Pos} (ho : PE X o (rdE T E mo)) (hbase : attributeBase o "pop" X.env (eval o X.env) = eval o X.env := by rfl) (hline : (apos.endLine == pos.line) = true := by rfl) : PE X (.Call (.Attribute o "pop" apos) [] [] pos) (rdE T E (mBm lPop mo aNil)) :=
  (pe_bm0 F.plainAttrs_list F.slot_list_pop F.type_list_pop mr_pop ho hbase hline).imp fun _ _ _ h => rd_bm0 B.K h
/-! ### keywords of a class's making -/
def mix {α : Type} : List Bool → List α → List α → List α
  | true :: r, mv, w :: ws => w :: mix r mv ws
  | false :: r, m :: mv, ws => m :: mix r mv ws
  | _, _, _ => []
theorem mix_rel {α β : Type} {F : α → β → Prop} : ∀ {p : List Bool} {ms ws : List α} {us vs : List β}, Paired F ms us → Paired F ws vs → Paired F (mix p ms ws) (mix p us vs)
  | true :: r, _, _, _, _, h, .cons a b => .cons a (mix_rel h b)
  | true :: r, _, _, _, _, .nil, .nil => .nil
  | true :: r, _, _, _, _, .cons _ _, .nil => .nil
  | false :: r, _, _, _, _, .cons a b, h => .cons a (mix_rel b h)
  | false :: r, _, _, _, _, .nil, .nil => .nil
  | false :: r, _, _, _, _, .nil, .cons _ _ => .nil
  | [], _, _, _, _, .nil, .nil => .nil
  | [], _, _, _, _, .nil, .cons _ _ => .nil
  | [], _, _, _, _, .cons _ _, .nil => .nil
  | [], _, _, _, _, .cons _ _, .cons _ _ => .nil
theorem Paired_append {α β : Type} {F : α → β → Prop} : ∀ {xs ys : List α} {us vs : List β}, Paired F xs us → Paired F ys vs → Paired F (xs ++ ys) (us ++ vs)
  | _, _, _, _, .nil, h => h
  | _, _, _, _, .cons a b, h => .cons a (Paired_append b h)
theorem mix_relD {ρ : List Addr} {H : Hp} : ∀ {p : List Bool} {ms ws : List D} {us vs : List V}, RelDs T ρ H ms us → RelDs T ρ H ws vs → RelDs T ρ H (mix p ms ws) (mix p us vs)
  | true :: r, ms, w :: ws, us, _, h, ⟨v, vs, e, a, b⟩ => by subst e; exact ⟨v, _, rfl, a, mix_relD h b⟩
  | true :: r, [], [], us, vs, h, h2 => by rw [show us = [] from h, show vs = [] from h2]; rfl
  | true :: r, _ :: _, [], us, vs, ⟨_, _, e, _, _⟩, h2 => by subst e; rw [show vs = [] from h2]; rfl
  | false :: r, m :: ms, ws, _, vs, ⟨u, us, e, a, b⟩, h => by subst e; exact ⟨u, _, rfl, a, mix_relD b h⟩
  | false :: r, [], ws, us, vs, h, h2 => by
    rw [show us = [] from h]
    cases ws <;> cases vs <;> rfl
  | [], ms, ws, us, vs, _, _ => by
    cases ms <;> cases ws <;> cases us <;> cases vs <;> rfl
/-- a class's making by a given set of keywords -/
structure KG (T : Tb) (P : Program) (w : World) (K : PySem.W.Frag) (mg : Str → Option Value) (base : Heap) (k : Nat) (c : Nat) (x : Str) (f : Addr) (n : Nat) (g : Fn) (m : Nat) (ks : List Str) (pat : List Bool) (dv : List D) : Prop where
  nm : T.cn[c]? = some x
  gl : mg x = some (.ref (He.ga T.K x))
  mkr : Mk K (He.ga T.K x) f
  ex : ∃ fd ps gU gV, FnOk P w K mg base CX0 k f fd ps (spOf T (n + 1) g) ∧ KBn K fd ps (m + 1) ks gU gV ∧ ∀ ρ H ds vs zs us (p : V), RelDs T ρ H ds vs → RelDs T ρ H zs us → ∃ ws, gV (p :: vs) us = p :: ws ∧ RelDs T ρ H (ds ++ mix pat dv zs) ws
theorem wN : PK X [] (rdA T E aNil) := ⟨fun pos pins s σ H Q I h => pk_nil.run pos pins s σ H Q I (rd_nil h)⟩
theorem wC {kws : List Keyword} {nm : Option Str} {kpos : Pos} (ha : PE X e (rdE T E m)) (hr : PK X kws (rdA T E ms)) : PK X (⟨nm, e, kpos⟩ :: kws) (rdA T E (aCons m ms)) := ⟨fun pos pins s σ H Q I h => (pk_cons ha hr).run pos pins s σ H Q I (rd_cons h)⟩
theorem xMakeK {cc m' : Nat} {ks : List Str} {pat : List Bool} {dv : List D} {kws : List Keyword} (M : KG T X.prog X.w X.K X.mg X.base j cc x f n g m' ks pat dv) (hr : Room k X.A) (ha : PA X (e :: es) (rdA T E ms)) (hk : PK X kws (rdA T E mk)) (le : j + 1 ≤ k := by decide) (hg : Gl X x := by rfl)
    (hall : (backToKw pos (keywordEach kws X.env)).all (·.1.isSome) = true := by rfl) (hks : (backToKw pos (keywordEach kws X.env)).filterMap (·.1) = ks := by rfl) (hd : (x == ("__debug__" : Str)) = false := by decide)
    (hst : starEach (e :: es) X.env = (false, eval e X.env) :: starEach es X.env := by rfl) (hpl : ((backTo pos (starEach (e :: es) X.env)).any (·.1) || (backToKw pos (keywordEach kws X.env)).any (·.1.isNone)) = false := by rfl) :
    PE X (.Call (.Name x p) (e :: es) kws pos) (rdE T E (mMakeK cc n m' ks.length (fun ds zs => ds ++ mix pat dv zs) g ms mk)) := by
  obtain ⟨fd, ps, gU, gV, h1, h2, h3⟩ := M.ex
  exact (pe_makeK M.mkr h1 (hr.mono le) hg M.gl h2 pass1 ha hk hall hks hd hst hpl).imp fun _ _ _ h => rd_makeK M.nm h3 h
end

/-! ### what is looked at behind the top -/
section
variable (K : PySem.W.Frag)
mutual
def constB : Value → D → Bool
  | u, .non => match u with
    | .none => true
    | _ => false
  | u, .bl b => match u with
    | .bool c => b == c
    | _ => false
  | u, .int i => match u with
    | .int j _ => decide (i = j)
    | _ => false
  | u, .str x => match u with
    | .str y _ => decide (x = y)
    | _ => false
  | u, .tup ds => match u with
    | .ref a => match K.lookup a with
      | some ⟨.type c, _, .seq its _, _⟩ => decide (c = "tuple") && (decide (its.size ≤ sizeLine) && constBs its.toList ds)
      | _ => false
    | _ => false
  | _, .obj _ => false
  | _, .kls _ => false
def constBs : List Value → List D → Bool
  | us, [] => us.isEmpty
  | us, d :: ds => match us with
    | u :: r => constB u d && constBs r ds
    | [] => false
end
end
section
variable {T : Tb}
mutual
theorem constB_ok : ∀ {d : D} {u : Value}, constB T.K u d = true → ∃ v, RelV v u ∧ ∀ ρ H, RelD T ρ H d v
  | .non, u, h => by
    cases u with
    | none => exact ⟨.non, rfl, fun _ _ => rfl⟩
    | _ => cases h
  | .bl b, u, h => by
    cases u with
    | bool c =>
      have e : b = c := eq_of_beq (show (b == c) = true from h)
      exact ⟨.bl b, by rw [e]; rfl, fun _ _ => rfl⟩
    | _ => cases h
  | .int i, u, h => by
    cases u with
    | int j t =>
      have e : i = j := of_decide_eq_true h
      exact ⟨.int i, ⟨t, by rw [e]⟩, fun _ _ => rfl⟩
    | _ => cases h
  | .str x, u, h => by
    cases u with
    | str y t =>
      have e : x = y := of_decide_eq_true h
      exact ⟨.str x, ⟨t, by rw [e]⟩, fun _ _ => rfl⟩
    | _ => cases h
  | .tup ds, u, h => by
    cases u with
    | ref a =>
      unfold constB at h
      simp only at h
      cases q : T.K.lookup a with
      | none => rw [q] at h; cases h
      | some o =>
        obtain ⟨oc, od, dt, osl⟩ := o
        rw [q] at h
        cases oc with
        | type c =>
          cases dt with
          | seq its n =>
            obtain ⟨h1, h2⟩ := band h
            obtain ⟨h3, h4⟩ := band h2
            obtain ⟨vs, r1, r2⟩ := constBs_ok h4
            exact ⟨.ref a, rfl, fun ρ H => ⟨a, vs, rfl, .inr ⟨_, its, n, q, congrArg Value.type (of_decide_eq_true h1), rfl, of_decide_eq_true h3, r1⟩, r2 ρ H⟩⟩
          | _ => cases h
        | _ => cases dt <;> cases h
    | _ => cases h
  | .obj _, _, h => by unfold constB at h; cases h
  | .kls _, _, h => by unfold constB at h; cases h
theorem constBs_ok : ∀ {ds : List D} {us : List Value}, constBs T.K us ds = true → ∃ vs, Vals vs us ∧ ∀ ρ H, RelDs T ρ H ds vs
  | [], us, h => by
    unfold constBs at h
    have : us = [] := List.isEmpty_iff.mp h
    subst this
    exact ⟨[], .nil, fun _ _ => rfl⟩
  | d :: ds, us, h => by
    unfold constBs at h
    cases us with
    | nil => cases h
    | cons u r =>
      obtain ⟨h1, h2⟩ := band h
      obtain ⟨v, g1, g2⟩ := constB_ok h1
      obtain ⟨vs, k1, k2⟩ := constBs_ok h2
      exact ⟨v :: vs, .cons g1 k1, fun ρ H => ⟨v, vs, rfl, g2 ρ H, k2 ρ H⟩⟩
end
end
def okO (a : Option Bool) (b : Bool) : Bool := match a with
  | some c => c == b
  | none => false
theorem okO_ok {a : Option Bool} {b : Bool} (h : okO a b = true) : a = some b := by
  cases a with
  | none => cases h
  | some c => rw [show c = b from eq_of_beq h]
def tbB (cn fn : List Str) (K : PySem.W.Frag) : Bool :=
  (cn.all fun x => (He.Fa.cls x).ok K && (He.eqO (PySem.W.findIn K (.ref (He.ga K x)) "__class__") (some (some (.builtin "object.__class__"))) && okO (PySem.W.mroIn K (He.ga K x) (.type "object")) true)) &&
  ((cn.isEmpty || (He.eqO (PySem.W.specialIn K (.builtin "object.__class__") "__get__") (some (some (.builtin "getset_descriptor.__get__"))) && okO (PySem.W.takesIn K (.builtin "object.__class__")) true)) &&
  ((cn.all fun x => fn.all fun f => (He.Fa.noat x f).ok K) &&
  ((tyNames.all fun a => cn.all fun x => okO (PySem.W.kitOne K (.type a) (.ref (He.ga K x))) false) &&
  ((cn.all fun x => cn.all fun y => okO (PySem.W.kitOne K (.ref (He.ga K x)) (.ref (He.ga K y))) (decide (x = y))) &&
  (cn.all fun x => tyNames.all fun a => okO (PySem.W.kitOne K (.ref (He.ga K x)) (.type a)) false)))))
theorem tbB_ok {T : Tb} (h : tbB T.cn T.fn T.K = true) (h1 : T.fn.Nodup) (h2 : T.cn.Nodup) : T.Ok := by
  obtain ⟨a1, h⟩ := band h
  obtain ⟨a2, h⟩ := band h
  obtain ⟨a3, h⟩ := band h
  obtain ⟨a4, h⟩ := band h
  obtain ⟨a5, a6⟩ := band h
  refine ⟨h1, fun x hx => ?_, fun x hx f hf => ?_, fun a ha x hx => ?_, fun x hx y hy => ?_, fun x hx a ha => ?_, h2⟩
  · obtain ⟨b1, b⟩ := band (List.all_eq_true.mp a1 x hx)
    obtain ⟨b2, b3⟩ := band b
    have hn : T.cn.isEmpty = false := by
      cases q : T.cn with
      | nil => rw [q] at hx; cases hx
      | cons _ _ => rfl
    rw [hn, Bool.false_or] at a2
    obtain ⟨c1, c2⟩ := band a2
    exact ⟨He.cls_ok b1, He.eqO_ok b2, He.eqO_ok c1, okO_ok c2, okO_ok b3⟩
  · exact He.noat_ok (List.all_eq_true.mp (List.all_eq_true.mp a3 x hx) f hf)
  · exact okO_ok (List.all_eq_true.mp (List.all_eq_true.mp a4 a ha) x hx)
  · exact okO_ok (List.all_eq_true.mp (List.all_eq_true.mp a5 x hx) y hy)
  · exact okO_ok (List.all_eq_true.mp (List.all_eq_true.mp a6 x hx) a ha)
/-- the head's facts: classes, fields, facts, constants, tables (a name, its keys and values), defs -/
structure Fx where
  cn : List Str
  fn : List Str
  fa : List He.Fa
  cs : List (Str × D)
  ts : List (Str × List (Str × D))
  df : List He.DefD
def nsB (K : PySem.W.Frag) (a : Addr) (q : Str × D) : Bool := match PySem.W.nsIn K a q.1 with
  | some (some u) => constB K u q.2
  | _ => false
def Fx.ck (F : Fx) (K : PySem.W.Frag) : Bool := tbB F.cn F.fn K && ((F.fa.all fun f => f.ok K) && ((F.cs.all (nsB K mainGlobals)) && ((F.ts.all fun t => t.2.all (nsB K (He.ga K t.1))) && F.df.all fun d => d.ok K)))
abbrev AlX : Type := Bool × List He.FnW × List (Option (List (Option (Str × Int))))
def Fx.obs (F : Fx) (K : PySem.W.Frag) : AlX := (F.ck K, F.df.map fun d => He.fnW K d.at_, F.ts.map fun t => He.dicW K (He.ga K t.1))
def Fx.val (F : Fx) (w : World) : AlX := (true, F.df.map He.DefD.val, F.ts.map fun t => some (He.keysIn w.params (t.2.map (·.1))))
def Fx.says (F : Fx) (w : World) (K : PySem.W.Frag) : Prop := F.obs K = F.val w
def Fx.obsG (n : Nat) (F : Fx) (g : Addr → Option Obj) : AlX := F.obs (He.frG g (He.asD g n))
def Fx.hook (n : Nat) (F : Fx) : PySem.W.Hook where
  α := AlX
  obs := fun s => F.obsG n s.heap.get?
  val := fun w => F.val w
  says := fun w h => ∃ K : PySem.W.Frag, K.In h ∧ F.says w K
  of := fun _ _ e => ⟨_, He.frG_in, e⟩
  keeps := fun _ _ _ ⟨K, hK, c⟩ k => ⟨K, PySem.W.Frag.In.keeps hK k, c⟩
theorem Fx.obs_eq {n : Nat} {F : Fx} {g : Addr → Option Obj} {s : Shared} (h : ∀ a, g a = s.heap.get? a) : F.obsG n g = (F.hook n).obs s := by
  have e : g = s.heap.get? := funext h
  rw [e] <;> rfl
def Fx.tb (F : Fx) (K : PySem.W.Frag) (w : World) : Tb := ⟨K, w, F.cn, F.fn, []⟩
/-- what a def's proof leans on -/
structure Ct (F : Fx) (w : World) (K : PySem.W.Frag) (mg : Str → Option Value) (base : Heap) : Prop where
  kin : K.In base
  ns : base.Ns mainGlobals mg
  say : F.says w K
  ok : (F.tb K w).Ok
section
variable {F : Fx} {w : World} {K : PySem.W.Frag} {mg : Str → Option Value} {base : Heap}
theorem says_ck (c : F.says w K) : F.ck K = true := congrArg (fun z : AlX => z.1) c
theorem says_ok (c : F.says w K) (h1 : F.fn.Nodup) (h2 : F.cn.Nodup) : (F.tb K w).Ok := tbB_ok (band (says_ck c)).1 h1 h2
theorem Ct.fact (c : Ct F w K mg base) (i : Nat) {f : He.Fa} (h : F.fa[i]? = some f := by rfl) : f.ok K = true :=
  List.all_eq_true.mp (band (band (says_ck c.say)).2).1 f (List.mem_of_getElem? h)
theorem Ct.glo (c : Ct F w K mg base) (i : Nat) {x : Str} (h : F.fa[i]? = some (.glo x) := by rfl) : mg x = some (.ref (He.ga K x)) := He.glo_ok c.kin c.ns (c.fact i h)
theorem Ct.free (c : Ct F w K mg base) (i : Nat) {x : Str} (h : F.fa[i]? = some (.free x) := by rfl) : mg x = none := He.free_ok c.kin c.ns (c.fact i h)
theorem Ct.meth (c : Ct F w K mg base) (i : Nat) {x m : Str} (h : F.fa[i]? = some (.meth x m) := by rfl) : Meth K (He.ga K x) m (He.ma K (He.ga K x) m) := He.meth_ok (c.fact i h)
theorem Ct.mkr (c : Ct F w K mg base) (i : Nat) {x : Str} (h : F.fa[i]? = some (.mkr x) := by rfl) : Mk K (He.ga K x) (He.ma K (He.ga K x) "__init__") := He.mkr_ok (c.fact i h)
theorem nsB_ok {T : Tb} {a : Addr} {q : Str × D} (h : nsB T.K a q = true) : ∃ u v, PySem.W.nsIn T.K a q.1 = some (some u) ∧ RelV v u ∧ ∀ ρ H, RelD T ρ H q.2 v := by
  unfold nsB at h
  cases e : PySem.W.nsIn T.K a q.1 with
  | none => rw [e] at h; cases h
  | some r =>
    rw [e] at h
    cases r with
    | none => cases h
    | some u =>
      obtain ⟨v, h1, h2⟩ := constB_ok h
      exact ⟨u, v, rfl, h1, h2⟩
theorem Ct.con (c : Ct F w K mg base) (i : Nat) {x : Str} {d : D} (h : F.cs[i]? = some (x, d) := by rfl) : ∃ u v, mg x = some u ∧ RelV v u ∧ ∀ ρ H, RelD (F.tb K w) ρ H d v := by
  have h1 := List.all_eq_true.mp (band (band (band (says_ck c.say)).2).2).1 _ (List.mem_of_getElem? h)
  obtain ⟨u, v, g1, g2, g3⟩ := nsB_ok (T := F.tb K w) h1
  exact ⟨u, v, PySem.W.mg_of c.kin c.ns g1, g2, g3⟩
theorem Ct.tab (c : Ct F w K mg base) (i : Nat) {x : Str} {tab : List (Str × D)} (h : F.ts[i]? = some (x, tab) := by rfl) : TabOk (F.tb K w) (He.ga K x) tab := by
  have h1 := List.all_eq_true.mp (band (band (band (band (says_ck c.say)).2).2).2).1 _ (List.mem_of_getElem? h)
  have e : F.ts.map (fun t => He.dicW K (He.ga K t.1)) = F.ts.map fun t => some (He.keysIn w.params (t.2.map (·.1))) := congrArg (fun z : AlX => z.2.2) c.say
  have e2 : (F.ts.map (fun t => He.dicW K (He.ga K t.1)))[i]? = (F.ts.map fun t => some (He.keysIn w.params (t.2.map (·.1))))[i]? := by rw [e]
  rw [List.getElem?_map, List.getElem?_map, h] at e2
  obtain ⟨es, n, D⟩ := He.dicW_ok (Option.some.inj e2)
  intro q hq
  obtain ⟨u, v, g1, g2, g3⟩ := nsB_ok (T := F.tb K w) (List.all_eq_true.mp h1 q hq)
  exact ⟨v, ⟨es, n, u, D.at_, D.lit, g1, g2⟩, g3⟩
theorem Ct.def_ (c : Ct F w K mg base) (i : Nat) {d : He.DefD} (h : F.df[i]? = some d := by rfl) : ∃ fd, FunD K d.name d.qual d.params d.body d.scope (d.dvs K) (d.kws K) (He.fAd K d.at_) fd := by
  have c2 := (band (band (band (band (says_ck c.say)).2).2).2).2
  have e : F.df.map (fun d => He.fnW K d.at_) = F.df.map He.DefD.val := congrArg (fun z : AlX => z.2.1) c.say
  have e2 : (F.df.map fun d => He.fnW K d.at_)[i]? = (F.df.map He.DefD.val)[i]? := by rw [e]
  rw [List.getElem?_map, List.getElem?_map, h] at e2
  exact He.DefD.funD (Option.some.inj e2) (List.all_eq_true.mp c2 d (List.mem_of_getElem? h))
end
/-! ### a def's promise -/
def startL (n : Nat) (ds : List D) : Sl := ds.map some ++ List.replicate (n - ds.length) none
def fnM (n : Nat) (m : MS) : Fn := fun ds h => match m (startL n ds) h with
  | .rt d h' => .ok d h'
  | .nx _ h' => .ok .non h'
  | .err c p h' => .err c p h'
  | _ => .stuck
section
variable {T : Tb} {P : Program} {w : World} {K : PySem.W.Frag} {mg : Str → Option Value} {base : Heap} {x qual : Str} {params : Arguments} {body : List Stmt} {scope : Scope} {dvs : List V} {kws : List (Str × V)} {f : Addr} {fd : FuncData}
theorem start_sr {ρ : List Addr} {H : Hp} {lh : LH} {N : List Str} {ds : List D} {vs : List V} (hr : HR T ρ H lh) (r : RelDs T ρ H ds vs) : SR T ρ H (startL N.length ds) lh (start N vs) := by
  have hl := r.length
  refine ⟨hr, by unfold startL L2.start; simp [hl], fun i d e => ?_⟩
  unfold startL at e
  unfold L2.start
  by_cases h : i < ds.length
  · rw [List.getElem?_append_left (by simpa using h), List.getElem?_map] at e
    obtain ⟨d', e1, e2⟩ := map_some e
    cases e2
    obtain ⟨v, g1, g2⟩ := r.get e1
    refine ⟨v, ?_, g2⟩
    rw [List.getElem?_append_left (by rw [List.length_map, ← hl]; exact h), List.getElem?_map, g1]
    rfl
  · rw [List.getElem?_append_right (by simpa using h)] at e
    have := List.mem_of_getElem? e
    simp at this
theorem fnok_of {N ps : List Str} {k : Nat} {m : MS} (F : FunD K x qual params body scope dvs kws f fd) (S : FnScope N ps scope) (hK : T.K = K) (hw : T.w = w) (ok : T.Ok)
    (hb : ∀ (cdv : Value) (A : Around) (outer : List Env) (s : Shared) (H : Hp) (E : XK), Room k (A.deeper (envOfC qual scope s.heap.objs.size f cdv)) → Bd T (cxOf CX0 P w K mg base N qual scope f cdv A outer s H E).nox → PSs (cxOf CX0 P w K mg base N qual scope f cdv A outer s H E).nox body (rdS T E m)) :
    FnOk P w K mg base CX0 (k + 1) f fd ps (spOf T ps.length (fnM N.length m)) := by
  refine F.ok S (fun vs H Q E h => h.1) fun cdv A outer s H vs Q E hr h => ?_
  obtain ⟨hl, ρ, lh, ds, hr2, rd, post⟩ := h
  refine ⟨rdS T E m, PSs.nox (hb cdv A outer s H E hr ⟨hK.symm, hw.symm, ?_, rfl, ok, S.nd⟩), ρ, startL N.length ds, lh, start_sr hr2 rd, ?_⟩
  · have := hr.un
    show (A.deeper _).units + 65 < cLine
    omega
  · unfold fnM at post
    cases e : m (startL N.length ds) lh with
    | rt d l1 => rw [e] at post; exact fun ρ' H' v le hr r => PostE.ok post le hr r
    | nx sl l1 => rw [e] at post; exact fun ρ' H' σ' le sr => PostE.ok post le sr.hr rfl
    | err c p l1 => rw [e] at post; exact post
    | bk sl l1 => rw [e] at post; exact post.elim
    | ct sl l1 => rw [e] at post; exact post.elim
    | stuck => rw [e] at post; exact post.elim
theorem fg_of {N ps : List Str} {k : Nat} {m : MS} (F : FunD K x qual params body scope [] kws f fd) (S : FnScope N ps scope) (hK : T.K = K) (hw : T.w = w) (ok : T.Ok)
    (hb : ∀ (cdv : Value) (A : Around) (outer : List Env) (s : Shared) (H : Hp) (E : XK), Room k (A.deeper (envOfC qual scope s.heap.objs.size f cdv)) → Bd T (cxOf CX0 P w K mg base N qual scope f cdv A outer s H E).nox → PSs (cxOf CX0 P w K mg base N qual scope f cdv A outer s H E).nox body (rdS T E m))
    (bd : ∀ (kV doc pm : Value) (an : Option Addr) (cdv ct : Value) (us : List Value), us.length = ps.length → bindArgs (PySem.W.fnOf x qual params body scope .none kV doc pm an cdv ct) ⟨us, []⟩ = pure (ps.zip us)) :
    FG T P w K mg base (k + 1) f ps.length (fnM N.length m) :=
  ⟨⟨fd, ps, fnok_of F S hK hw ok hb, F.bindsN bd⟩, F.kp⟩
/-- the law's start -/
theorem law_sp {g : Fn} {H : Hp} {a : Addr} {ns : List Int} (hO : Only H) (hS : SqL T.K H a (ns.map V.int)) (h : ∃ h', g [.kls (ns.map D.int)] ⟨0, .nil⟩ = .ok (.bl true) h') : spOf T 1 g [.ref a] H (fun v _ => v = .bl true) fun _ _ _ => False := by
  obtain ⟨h', e⟩ := h
  refine ⟨rfl, [], ⟨0, .nil⟩, [.kls (ns.map D.int)], ⟨rfl, List.nodup_nil, fun b hb => (nomatch hb), fun n o e => ?_⟩, RelDs.one ⟨a, _, rfl, SqF.of hO hS, ?_⟩, ?_⟩
  · exact (nomatch e)
  · clear hS e
    induction ns with
    | nil => rfl
    | cons n r ih => exact ⟨_, _, rfl, rfl, ih⟩
  · rw [e]
    exact fun ρ' H' le hr v rv => rv
def isT : Res D → Bool
  | .ok (.bl true) _ => true
  | _ => false
theorem isT_ok {r : Res D} (h : isT r = true) : ∃ h', r = .ok (.bl true) h' := by
  unfold isT at h
  split at h
  · exact ⟨_, rfl⟩
  · cases h
end
end TL

namespace TL
open PySem PySem.Spec PyProof.Rows L2

/-! ### the script's sum -/
theorem ints_map : ∀ ns : List Int, intsOf (ns.map D.int) = some ns
  | [] => rfl
  | n :: r => by
    show (intsOf (r.map D.int)).map (n :: ·) = _
    rw [ints_map r]
    rfl
theorem cut_map {α β : Type} (f : α → β) (xs : List α) (lo hi : Option Int) : cutL (xs.map f) lo hi = (cutL xs lo hi).map f := by
  unfold cutL
  rw [List.length_map, ← List.map_drop, ← List.map_take]
def cut63 (ns : List Int) : List Int := cutL ns none (some 63)
def mSum (i : Nat) : ME := mFn (f1 bInt) (aCons (mFn (f1 bSum) (aCons (mSl (mVar i) oNone (oSome (mC (.int 63)))) aNil)) aNil)
theorem get_new (h : LH) (o : LO) : (h.new o).get h.nx = some o := by rw [LH.get_new, if_pos rfl]
theorem m_sum {sl : Sl} {i : Nat} {h : LH} {ns : List Int} (e : sl[i]? = some (some (.kls (ns.map D.int)))) :
    mSum i sl h = .ok (.int (cut63 ns).sum) (h.new (.lst false ((cut63 ns).map D.int))) := by
  have e1 : mSl (mVar i) oNone (oSome (mC (.int 63))) sl h = .ok (.obj h.nx) (h.new (.lst false ((cut63 ns).map D.int))) := by
    unfold mSl mVar
    rw [e]
    show Res.ok (D.obj h.nx) (h.new (.lst false (cutL (ns.map D.int) none (some 63)))) = _
    rw [cut_map]
    rfl
  have e2 : mFn (f1 bSum) (aCons (mSl (mVar i) oNone (oSome (mC (.int 63)))) aNil) sl h = .ok (.int (cut63 ns).sum) (h.new (.lst false ((cut63 ns).map D.int))) := by
    unfold mFn aCons
    rw [e1]
    show bSum (.obj h.nx) (h.new (.lst false ((cut63 ns).map D.int))) = _
    unfold bSum lstAt
    simp only [get_new, ints_map]
  show ((mFn (f1 bSum) (aCons (mSl (mVar i) oNone (oSome (mC (.int 63)))) aNil) sl h).bind fun x h1 => (aNil sl h1).bind fun xs h2 => Res.ok (x :: xs) h2).bind (fun ds h1 => f1 bInt ds h1) = _
  rw [e2]
  rfl
theorem mod_cases {S n : Int} (hn : 0 < n) : 0 ≤ S % n ∧ S % n < n := ⟨Int.emod_nonneg _ (by omega), Int.emod_lt_of_pos _ hn⟩
end TL

namespace TL
open PySem PySem.Spec PyProof.Rows L2

/-! ### hashes of keys without texts; dict(d) -/
mutual
def hz : NestedKey → Option Int
  | .none => some (reduceHash 0xFCA86420)
  | .num i => some (hashInt i)
  | .text _ => none
  | .tup ks => match hzs ks with
    | some hs => some (reduceHash (Builtin.Tuple.tupleHashOf hs))
    | none => none
def hzs : List NestedKey → Option (List Int)
  | [] => some []
  | k :: ks => match hz k, hzs ks with
    | some a, some b => some (a :: b)
    | _, _ => none
end
mutual
theorem hz_ok {w : World} : ∀ {k : NestedKey} {a : Int}, hz k = some a → k.hash w = a
  | .none, _, e => by cases e; rfl
  | .num i, _, e => by cases e; rfl
  | .text _, _, e => by cases e
  | .tup ks, a, e => by
    have e : (match hzs ks with
      | some hs => some (reduceHash (Builtin.Tuple.tupleHashOf hs))
      | none => none) = some a := e
    cases q : hzs ks with
    | none => rw [q] at e; cases e
    | some hs =>
      rw [q] at e
      cases e
      show reduceHash (Builtin.Tuple.tupleHashOf (NestedKey.hashes w ks)) = _
      rw [hzs_ok q]
theorem hzs_ok {w : World} : ∀ {ks : List NestedKey} {a : List Int}, hzs ks = some a → NestedKey.hashes w ks = a
  | [], _, e => by cases e; rfl
  | k :: ks, a, e => by
    have e : (match hz k, hzs ks with
      | some a, some b => some (a :: b)
      | _, _ => none) = some a := e
    cases q1 : hz k with
    | none => rw [q1] at e; cases e
    | some x =>
      cases q2 : hzs ks with
      | none => rw [q1, q2] at e; cases e
      | some y =>
        rw [q1, q2] at e
        cases e
        show NestedKey.hash w k :: NestedKey.hashes w ks = _
        rw [hz_ok q1, hzs_ok q2]
end
def ndI : List Int → Bool
  | [] => true
  | x :: r => !(r.any fun y => decide (y = x)) && ndI r
theorem ndI_ok : ∀ {l : List Int}, ndI l = true → l.Nodup
  | [], _ => List.nodup_nil
  | x :: r, h => by
    obtain ⟨h1, h2⟩ := band h
    refine List.nodup_cons.mpr ⟨fun hm => ?_, ndI_ok h2⟩
    have : (r.any fun y => decide (y = x)) = true := List.any_eq_true.mpr ⟨x, hm, decide_eq_true rfl⟩
    rw [this] at h1
    cases h1
def hashOk (kvs : List Ent) : Bool := match hzs (kvs.map (·.1)) with
  | some hs => ndI hs
  | none => false
theorem hashes_map {w : World} : ∀ ks : List NestedKey, NestedKey.hashes w ks = ks.map (NestedKey.hash w)
  | [] => rfl
  | k :: ks => by
    show NestedKey.hash w k :: NestedKey.hashes w ks = _
    rw [hashes_map ks]
    rfl
theorem hashOk_nd {w : World} {kvs : List Ent} (h : hashOk kvs = true) : (kvs.map fun x => x.1.hash w).Nodup := by
  unfold hashOk at h
  cases e : hzs (kvs.map (·.1)) with
  | none => rw [e] at h; cases h
  | some hs =>
    rw [e] at h
    have := ndI_ok h
    rw [← hzs_ok (w := w) e, hashes_map, List.map_map] at this
    exact this
section
variable {prog : Program} {w : World} {K : Type} [DecidableEq K] {knd : HeapKind prog w K} {A : Around} {E : Value → Shared → Prop} {s : Shared}
/-- dict(d), d with tuple keys that hash apart -/
theorem call_dictH {o : Addr} {more : List (K × Addr × Value)} {Q : Value → Shared → Prop} (hu : knd.room A.in1.in1) (hoS : (o == sysModules) = false) (ho : s.heap.DictOfH knd o more) (hk : ∀ h', (∀ b ob, s.heap.get? b = some ob → h'.get? b = some ob) → ∀ x ∈ more, knd.is h' x.1 x.2.1) (hty : ∀ x ∈ more, s.TypeIs (.ref x.2.1) "tuple") (hap : (more.map fun x => knd.hash x.1).Nodup) (hsz : more.length ≤ sizeLine)
    (h : ∀ h', h'.DictOfH knd s.heap.objs.size more → Heap.SameBut s.heap.objs.size (s.heap.push { cls := .type "dict", data := .dict #[] }) h' → Q (.ref s.heap.objs.size) { s with heap := h' }) : wpAny (model prog w) A (call (.type "dict") [.ref o]) Q E s := by
  refine callType_codes (Q₁ := fun obj s₁ => obj = .ref s.heap.objs.size ∧ s₁ = { s with heap := s.heap.push { cls := .type "dict", data := .dict #[] } }) F.kt_called_dict (F.kt_typeCall_dict_1 _) F.entry_dict_init (kt_code_dict_new _ ⟨rfl, rfl⟩) ?_
  intro obj s₁ ⟨e1, e2⟩
  subst e1 e2
  have kp : ∀ b ob, s.heap.get? b = some ob → (s.heap.push { cls := .type "dict", data := .dict #[] }).get? b = some ob := fun b ob e => Heap.get?_push_of_some _ e
  have new : (s.heap.push { cls := .type "dict", data := .dict #[] }).DictOfH knd s.heap.objs.size [] := ⟨_, #[], 0, Heap.get?_push_size _ rfl, ⟨rfl, rfl, rfl⟩, rfl, rfl, fun x hx => (nomatch hx), List.nodup_nil⟩
  have old : (s.heap.push { cls := .type "dict", data := .dict #[] }).DictOfH knd o more := by
    obtain ⟨oo, es, ep, g1, g2, g3, g4, g5, g6⟩ := ho
    exact ⟨oo, es, ep, kp _ _ g1, g2, g3, g4, hk _ kp, g6⟩
  have ne : s.heap.objs.size ≠ o := by
    obtain ⟨oo, _, _, g1, _⟩ := ho
    exact fun e => absurd (Heap.lt_size g1) (by rw [e]; exact Nat.lt_irrefl _)
  refine ⟨new.typeIs, F.args_dict_init_2 _ _, ?_⟩
  unfold Builtin.«dict.__init__» Builtin.Dict.selfAndRest
  refine wpAny_bind (wpAny_bind (wpAny_notOrdered_dict new.typeIs ?_))
  refine wpAny_pure ?_
  show wpAny _ _ (Builtin.Dict.updateFrom "dict.__init__" s.heap.objs.size (.ref o) [] .none) _ _ _
  refine updateFrom_dictH (A := A.in1) (s := { s with heap := s.heap.push { cls := .type "dict", data := .dict #[] } }) (kvs := []) .none hu ne hoS new old (.inr ⟨fun x hx => ?_, hap⟩) (by simpa using hsz) fun h' g1 _ g3 => ?_
  · obtain ⟨ob, e1, e2⟩ := hty x hx
    exact ⟨ob, kp _ _ e1, e2⟩
  · rw [storedAllH_nil_of_nodup more ho.nodup] at g1
    exact ⟨rfl, h h' g1 g3⟩
end
/-- dict(d) -/
def bDict (d : D) (h : LH) : Res D := match d with
  | .obj n => match h.get n with
    | some (.dct kd kvs) => bif !kd || hashOk kvs then .ok (.obj h.nx) (h.new (.dct kd kvs)) else .stuck
    | _ => .stuck
  | _ => .stuck
section
variable {T : Tb} {E : XK} {X : Cx} {pins : List (Addr × Obj)} {σ : L2.St} {H : Hp} {s : Shared} {ρ : List Addr} {lh : LH}
theorem new_dctC {p : Addr} {kd : Bool} {kvs : List Ent} {es : Array DictEntry} {ep : Nat} (hr : HR T ρ H lh) (hp : H p = none) (hsm : (p == sysModules) = false) (hl : kvs.length ≤ 100000) (nd : (kvs.map (·.1)).Nodup) (he : EntsR T ρ H kd kvs es.toList) :
    Le ρ lh H (ρ ++ [p]) (lh.new (.dct kd kvs)) (upd H p (dictO p es ep)) ∧ HR T (ρ ++ [p]) (upd H p (dictO p es ep)) (lh.new (.dct kd kvs)) := by
  have le : Le ρ lh H (ρ ++ [p]) (lh.new (.dct kd kvs)) (upd H p (dictO p es ep)) := Le.newObj hr hp (upd_old hp)
  exact ⟨le, hr.newObj hp (upd_old hp) (by rw [upd_same]; simp) ⟨hsm, hl, nd, es, ep, he.mono le.toLe0, upd_same⟩⟩
theorem cr_dict (hK : X.K = T.K) (hw : X.w = T.w) (hu : X.A.units + 65 < cLine) : CallR X (.type "dict") (rdFn T E (f1 bDict)) := cr1 fun ρ lh d v H Q hr rd post pins s σ us I r => by
  unfold bDict at post
  cases d with
  | obj n =>
    simp only at post
    split at post
    · rename_i kd kvs e
      obtain ⟨hb, post⟩ := cond_stuck post
      obtain ⟨a, ev, hn, hsm, hlen, nd, es, ep, he, hH⟩ := obj_of hr rd e
      subst ev
      obtain ⟨u, rfl, ru⟩ := vals1 r
      obtain rfl : u = .ref a := ru
      have raw := Inv.rawD I hH
      have hp : H s.heap.objs.size = none := I.hok.fresh (Nat.le_refl _)
      have fin : ∀ {h' : Heap} {es' : Array DictEntry} {ep' : Nat}, h'.DictRaw s.heap.objs.size es' ep' → Heap.SameBut s.heap.objs.size (s.heap.push { cls := .type "dict", data := .dict #[] }) h' → EntsR T ρ H kd kvs es'.toList → EP X pins σ Q (.ref s.heap.objs.size) { s with heap := h' } := fun {h' es' ep'} g1 g2 g3 => by
        obtain ⟨le, hr2⟩ := new_dctC (ep := ep') hr hp (big_ne I) hlen nd g3
        refine ⟨.ref s.heap.objs.size, _, I.laid (t' := s.toks) (fun b o q => ?_) (Nat.le_refl _) (obj_ext g1), rfl, PostE.ok post le hr2 ⟨_, newest hr, rfl⟩⟩
        exact (g2.2 b (Nat.ne_of_lt (Heap.lt_size q))).trans (Heap.get?_push_of_some _ q)
      cases kd with
      | true =>
        obtain ⟨xs, dd, pr⟩ := dictH hK hw I nd he raw
        have lx : kvs.length = xs.length := Paired.length pr
        have hap : (xs.map fun x => (nestedKind X.prog X.w).hash x.1).Nodup := by
          have h1 : (kvs.map fun x => x.1.hash X.w).Nodup := hashOk_nd (by simpa using hb)
          have h2 : (xs.map fun x => (nestedKind X.prog X.w).hash x.1) = kvs.map fun x => x.1.hash X.w := by
            rw [show (fun x : NestedKey × Addr × Value => (nestedKind X.prog X.w).hash x.1) = (NestedKey.hash X.w) ∘ (·.1) from rfl, ← List.map_map, nr_keys pr, List.map_map]
            rfl
          rw [h2]
          exact h1
        have isAt : ∀ h', (∀ b ob, s.heap.get? b = some ob → h'.get? b = some ob) → ∀ x ∈ xs, (nestedKind X.prog X.w).is h' x.1 x.2.1 := fun h' kp x hx => by
          obtain ⟨y, h1, _, h3, h4, h5, _⟩ := nr_mem pr hx
          have := nest_is hK (I.kept (t' := s.toks) (h' := h') kp) h5 h3 rfl
          rw [← h1]
          exact ⟨this, h4⟩
        refine call_dictH (knd := nestedKind X.prog X.w) (by show X.A.units + 1 + 1 + 8 < cLine; omega) hsm dd isAt (fun x hx => ?_) hap (by rw [← lx, sizeLine_eq]; omega) fun h' g1 g2 => ?_
        · obtain ⟨y, h1, ⟨ds, h2⟩, _, _, h5, _⟩ := nr_mem pr hx
          rw [h2] at h5
          obtain ⟨b, vs, eb, sq, _⟩ := h5
          cases eb
          rw [← hK] at sq
          obtain ⟨its, _, ⟨ob, e1, e2, _⟩, _⟩ := I.tuple sq
          exact ⟨ob, e1, e2⟩
        · obtain ⟨o', es', ep', k1, k2, k3, k4, k5, k6⟩ := g1
          exact fin ⟨o', k1, k2, k3⟩ g2 (by rw [k4]; exact nr_ents hw pr)
      | false =>
        obtain ⟨ps, dd, pr⟩ := dictF hw I nd he raw
        have lx : kvs.length = ps.length := Paired.length pr
        refine kt_call_dict hsm dd (by rw [← lx, sizeLine_eq]; omega) fun h' g1 g2 => ?_
        obtain ⟨o', es', ep', k1, k2, k3, k4, k5, k6⟩ := g1
        exact fin ⟨o', k1, k2, k3⟩ g2 (fr_ents hw k5 (fun e he => k4 e (by simpa using he)) pr)
    · exact post.elim
  | _ => exact post.elim
theorem sAu (B : Bd T X) (i : Nat) {x : Str} {e : Expr} {m : ME} {pos pos' : Pos} (he : PE X e (rdE T E m)) (hi : X.N[i]? = some x := by rfl) (hx : Loc X.env.scope x := by first | exact Or.inl rfl | exact Or.inr rfl) (hf : X.fn x = true ∨ X.env.scope.names.lookup x = some .local := by first | exact .inl rfl | exact .inr rfl) :
    PS X (.AugAssign (.Name x pos') .Add e pos) (rdS T E (sAug i m)) := (ps_aug B.nd hi hx he ip_add hf).imp fun _ _ _ h => rd_aug h
end
end TL

namespace TL
open PySem PySem.Spec PyProof.Rows L2

/-! ### a stable sort by pairs of ints -/
def insK {α : Type} (k : α → Int × Int) (x : α) : List α → List α
  | [] => [x]
  | y :: r => bif SrtO.lexB (k y) (k x) then y :: insK k x r else x :: y :: r
def sortK {α : Type} (k : α → Int × Int) : List α → List α
  | [] => []
  | x :: r => insK k x (sortK k r)
abbrev ltK {α : Type} (k : α → Int × Int) (x y : α) : Bool := SrtO.lexB (k x) (k y)
section
variable {α : Type} {k : α → Int × Int}
theorem swoK : SrtO.Swo (ltK k) := by
  refine ⟨fun x y h => ?_, fun x y z h1 h2 => ?_⟩
  · have a := SrtO.lexB_iff.mp h
    exact SrtO.lexB_no.mpr (by omega)
  · have a := SrtO.lexB_no.mp h1
    have b := SrtO.lexB_no.mp h2
    exact SrtO.lexB_no.mpr (by omega)
theorem ins_mem {x z : α} : ∀ {l : List α}, z ∈ insK k x l → z = x ∨ z ∈ l
  | [], h => .inl (by simpa [insK] using h)
  | y :: r, h => by
    unfold insK at h
    cases b : SrtO.lexB (k y) (k x) with
    | true =>
      rw [b] at h
      rcases List.mem_cons.mp h with e | h
      · exact .inr (by rw [e]; exact List.mem_cons_self)
      · rcases ins_mem h with e | h
        · exact .inl e
        · exact .inr (List.mem_cons_of_mem _ h)
    | false =>
      rw [b] at h
      rcases List.mem_cons.mp h with e | h
      · exact .inl e
      · exact .inr h
theorem ins_srt {x : α} : ∀ {l : List α}, SrtO.Srtd (ltK k) l → SrtO.Srtd (ltK k) (insK k x l)
  | [], _ => SrtO.srtd_one x
  | y :: r, h => by
    unfold insK
    obtain ⟨h1, h2⟩ := List.pairwise_cons.mp h
    cases b : SrtO.lexB (k y) (k x) with
    | true =>
      refine List.pairwise_cons.mpr ⟨fun z hz => ?_, ins_srt h2⟩
      rcases ins_mem hz with e | hz
      · rw [e]; exact swoK.asym y x b
      · exact h1 z hz
    | false =>
      refine List.pairwise_cons.mpr ⟨fun z hz => ?_, h⟩
      rcases List.mem_cons.mp hz with e | hz
      · rw [e]; exact b
      · exact swoK.tr x y z b (h1 z hz)
theorem ins_stb {x : α} : ∀ {l : List α}, SrtO.Stb (ltK k) (insK k x l) (x :: l)
  | [] => SrtO.Stb.refl _
  | y :: r => by
    unfold insK
    cases b : SrtO.lexB (k y) (k x) with
    | false => exact SrtO.Stb.refl _
    | true =>
      have h1 : SrtO.Stb (ltK k) ([y] ++ insK k x r) ([y] ++ (x :: r)) := (SrtO.Stb.refl [y]).app ins_stb
      have h2 : SrtO.Stb (ltK k) (([y] ++ [x]) ++ r) (([x] ++ [y]) ++ r) := (SrtO.Stb.swap swoK (A := [y]) (B := [x]) fun a ha c hc => by
        rw [List.mem_singleton.mp ha, List.mem_singleton.mp hc]
        exact b).app (SrtO.Stb.refl r)
      exact h1.trans h2
theorem sort_srt : ∀ l : List α, SrtO.Srtd (ltK k) (sortK k l)
  | [] => List.Pairwise.nil
  | x :: r => ins_srt (sort_srt r)
theorem sort_stb : ∀ l : List α, SrtO.Stb (ltK k) (sortK k l) l
  | [] => SrtO.Stb.refl _
  | x :: r => ins_stb.trans ((SrtO.Stb.refl [x]).app (sort_stb r))
theorem stb_symm {l m : List α} (h : SrtO.Stb (ltK k) l m) : SrtO.Stb (ltK k) m l := ⟨h.perm.symm, fun x => (h.cls x).symm⟩
theorem sort_uniq {l m : List α} (h1 : SrtO.Srtd (ltK k) l) (h2 : SrtO.Stb (ltK k) l m) : l = sortK k m := SrtO.stb_uniq swoK h1 (sort_srt m) (h2.trans (stb_symm (sort_stb m)))
end
theorem ins_rel {α β : Type} {k : α → Int × Int} {j : β → Int × Int} {F : α → β → Prop} (hk : ∀ a b, F a b → k a = j b) {x : α} {y : β} (h : F x y) : ∀ {xs : List α} {ys : List β}, Paired F xs ys → Paired F (insK k x xs) (insK j y ys)
  | _, _, .nil => .cons h .nil
  | a :: xs, b :: ys, .cons r t => by
    unfold insK
    rw [hk a b r, hk x y h]
    cases SrtO.lexB (j b) (j y) with
    | true => exact .cons r (ins_rel hk h t)
    | false => exact .cons h (.cons r t)
theorem sort_rel {α β : Type} {k : α → Int × Int} {j : β → Int × Int} {F : α → β → Prop} (hk : ∀ a b, F a b → k a = j b) : ∀ {xs : List α} {ys : List β}, Paired F xs ys → Paired F (sortK k xs) (sortK j ys)
  | _, _, .nil => .nil
  | _ :: _, _ :: _, .cons r t => ins_rel hk r (sort_rel hk t)
def pairI : D → Option (Int × Int)
  | .tup [.int a, .int b] => some (a, b)
  | _ => none
def keyI (d : D) : Int × Int := (pairI d).getD (0, 0)
def bSortD (d : D) (h : LH) : Res D := match dctAt d h with
  | some kvs => bif (kvs.map (·.2.1)).all (fun d => (pairI d).isSome) then .ok (.obj h.nx) (h.new (.lst false (sortK keyI (kvs.map (·.2.1))))) else .stuck
  | none => .stuck
section
variable {T : Tb} {E : XK} {X : Cx} {pins : List (Addr × Obj)} {σ : L2.St} {H : Hp} {s : Shared} {ρ : List Addr} {lh : LH}
theorem pair_inj {h : Heap} {v : Value} {a b c d : Int} (p : Srt.IsPair h v a b) (q : Srt.IsPair h v c d) : a = c ∧ b = d := by
  obtain ⟨x, o, t, u, n, e1, e2, e3, e4⟩ := p
  obtain ⟨x', o', t', u', n', f1, f2, f3, f4⟩ := q
  rw [e1] at f1
  cases f1
  rw [e2] at f2
  cases f2
  rw [e4] at f4
  cases f4
  exact ⟨rfl, rfl⟩
theorem relDs_paired {F : D → Value → Prop} : ∀ {ds : List D} {ws : List V} {vs : List Value}, RelDs T ρ H ds ws → Vals ws vs → Paired (fun d v => ∃ w, RelD T ρ H d w ∧ RelV w v) ds vs
  | [], _, _, h, r => by
    rw [show _ = [] from h] at r
    cases r
    exact .nil
  | d :: ds, _, _, ⟨w, ws, e, h1, h2⟩, r => by
    subst e
    cases r with
    | cons r1 r2 => exact .cons ⟨w, h1, r1⟩ (relDs_paired (F := F) h2 r2)
theorem paired_relDs : ∀ {ds : List D} {vs : List Value}, Paired (fun d v => ∃ w, RelD T ρ H d w ∧ RelV w v) ds vs → ∃ ws, RelDs T ρ H ds ws ∧ Vals ws vs
  | _, _, .nil => ⟨[], rfl, .nil⟩
  | _ :: _, _ :: _, .cons ⟨w, h1, h2⟩ t => by
    obtain ⟨ws, g1, g2⟩ := paired_relDs t
    exact ⟨w :: ws, ⟨w, ws, rfl, h1, g1⟩, .cons h2 g2⟩
theorem pair_at (hK : X.K = T.K) (I : Inv X pins σ H s) {d : D} {w : V} {v : Value} (r : RelD T ρ H d w) (rv : RelV w v) {p : Int × Int} (e : pairI d = some p) : Srt.IsPair s.heap v p.1 p.2 := by
  unfold pairI at e
  split at e
  · cases e
    obtain ⟨a, vs, ew, sq, w1, r1, e1, g1, w2, r2, e2, g2, g3⟩ := r
    rw [show r2 = [] from g3] at e2
    subst e2 e1 ew
    rw [show w1 = _ from g1, show w2 = _ from g2] at sq
    obtain rfl : v = Value.ref a := rv
    rw [← hK] at sq
    obtain ⟨its, rr, ⟨o, h1, h2, n, h3⟩, _⟩ := I.tuple sq
    obtain ⟨u1, u2, rfl, ri, rj⟩ := vals2 rr
    obtain ⟨t1, rfl⟩ := ri
    obtain ⟨t2, rfl⟩ := rj
    exact ⟨a, o, t1, t2, n, rfl, h1, h2, h3⟩
  · cases e
theorem cr_sortD (hK : X.K = T.K) (hc : X.calm = true) : CallR X (.builtin "sorted") (rdFn T E (f1 bSortD)) := cr1 fun ρ lh d v H Q hr rd post pins s σ us I r => by
  unfold bSortD at post
  cases e : dctAt d lh with
  | none => rw [e] at post; exact post.elim
  | some kvs =>
    rw [e] at post
    obtain ⟨hb, post⟩ := cond_stuck post
    obtain ⟨n, kd, ed, eg⟩ := dctAt_some e
    subst ed
    obtain ⟨a, ev, hn, hsm, hlen, nd, es, ep, he, hH⟩ := obj_of hr rd eg
    subst ev
    obtain ⟨u, rfl, ru⟩ := vals1 r
    obtain rfl : u = .ref a := ru
    have raw := Inv.rawD I hH
    have hsz : es.size ≤ sizeLine := by
      have := he.length
      rw [sizeLine_eq]
      simp at this
      omega
    refine Calls.call_function_entry PyProof.Rows.kind_sorted PyProof.Rows.plain_sorted PyProof.Rows.entry_sorted (PyProof.Rows.args_sorted1 _) ?_
    unfold Builtin.«sorted»
    refine wpAny_bind (m := checkCount "sorted" 1 1 _) (wpAny_pure ?_)
    refine wpAny_bind (PySem.W.kdu_collect (A := X.A.in1) (PySem.KdlSrc.rawDict (ep := ep) (es := es) hsm) (I.ok.hd hc) raw hsz fun h1 tk acc hk hacc => ?_)
    have ea : acc.toList = es.toList.map (·.key) := by
      refine List.ext_getElem? fun j => ?_
      rw [List.getElem?_map, Array.getElem?_toList, Array.getElem?_toList]
      by_cases hj : j < es.size
      · obtain ⟨v, hv⟩ : ∃ v, acc[j]? = some v := ⟨acc[j]'(by rw [hacc.1]; exact hj), by simp [hacc.1, hj]⟩
        obtain ⟨_, ev⟩ := hacc.2 j v hv
        rw [hv, ev]
        simp [hj]
      · rw [Array.getElem?_eq_none (by rw [hacc.1]; omega), Array.getElem?_eq_none (by omega)]
        rfl
    obtain ⟨ws, g1, g2⟩ := ents_vals he ea
    have I1 : Inv X pins σ H { s with heap := h1, toks := tk } := I.kept hk
    have hal : acc.toList.length ≤ sizeLine := by rw [Array.length_toList, hacc.1]; exact hsz
    refine wpAny_bind (wpAny_newList ?_ hal)
    have hoL : (h1.push (seqObj "list" acc.toList.toArray 0)).get? h1.objs.size = some (seqObj "list" acc.toList.toArray 0) := Heap.get?_push_size _ rfl
    show wpAny _ _ _ _ _ { s with heap := h1.push (seqObj "list" acc.toList.toArray 0), toks := tk }
    have pr := relDs_paired (F := fun _ _ => True) g2 g1
    -- the key of a machine value
    let kv : Value → Int × Int := fun v => Classical.epsilon fun p : Int × Int => Srt.IsPair h1 v p.1 p.2
    have kvOk : ∀ {v : Value} {p : Int × Int}, Srt.IsPair h1 v p.1 p.2 → kv v = p := fun {v p} q => by
      have := Classical.epsilon_spec (p := fun p : Int × Int => Srt.IsPair h1 v p.1 p.2) ⟨p, q⟩
      obtain ⟨e1, e2⟩ := pair_inj this q
      exact Prod.ext e1 e2
    have each : ∀ d v, d ∈ kvs.map (·.2.1) → (∃ w, RelD T ρ H d w ∧ RelV w v) → Srt.IsPair h1 v (keyI d).1 (keyI d).2 := fun d v hd ⟨w, r1, r2⟩ => by
      have hs := List.all_eq_true.mp hb d hd
      cases q : pairI d with
      | none => rw [q] at hs; cases hs
      | some p =>
        have := pair_at hK I1 r1 r2 q
        unfold keyI
        rw [q]
        exact this
    have pr2 : Paired (fun d v => (∃ w, RelD T ρ H d w ∧ RelV w v) ∧ Srt.IsPair h1 v (keyI d).1 (keyI d).2) (kvs.map (·.2.1)) acc.toList := by
      have gen : ∀ {ds : List D} {vs : List Value}, (∀ d ∈ ds, d ∈ kvs.map (·.2.1)) → Paired (fun d v => ∃ w, RelD T ρ H d w ∧ RelV w v) ds vs → Paired (fun d v => (∃ w, RelD T ρ H d w ∧ RelV w v) ∧ Srt.IsPair h1 v (keyI d).1 (keyI d).2) ds vs := by
        intro ds vs hm p
        induction p with
        | nil => exact .nil
        | cons r t ih => exact .cons ⟨r, each _ _ (hm _ List.mem_cons_self) r⟩ (ih fun d hd => hm d (List.mem_cons_of_mem _ hd))
      exact gen (fun d hd => hd) pr
    have allP : ∀ v ∈ acc.toList, Srt.IsPair h1 v (kv v).1 (kv v).2 := fun v hv => by
      have gen : ∀ {ds : List D} {vs : List Value}, Paired (fun d v => (∃ w, RelD T ρ H d w ∧ RelV w v) ∧ Srt.IsPair h1 v (keyI d).1 (keyI d).2) ds vs → ∀ v ∈ vs, ∃ p : Int × Int, Srt.IsPair h1 v p.1 p.2 := by
        intro ds vs p
        induction p with
        | nil => intro v hv; cases hv
        | cons r t ih =>
          intro v hv
          rcases List.mem_cons.mp hv with e | hv
          · rw [e]; exact ⟨_, r.2⟩
          · exact ih v hv
      obtain ⟨p, q⟩ := gen pr2 v hv
      rw [kvOk q]
      exact q
    refine wpAny_bind (wpAny_holding (wpAny_call_entry PyProof.Rows.slot_list_sort ⟨_, hoL, rfl⟩ PyProof.Rows.entry_list_sort
      (SrtO.list_sort_ord (s := { s with heap := h1.push (seqObj "list" acc.toList.toArray 0), toks := tk }) (SrtO.swo_lex kv) hoL hal (fun h2 => ?_) fun out hs hb2 => ⟨_, rfl, ?_⟩) (PyProof.Rows.args_list_sort _)))
    · refine SrtO.pairs_sortableO (by omega) (fun v hv => (allP v hv).keeps fun b o q _ => Heap.get?_push_of_some _ q) fun o q => ?_
      have q' : some o = some (seqObj "list" acc.toList.toArray 0) := q.symm.trans hoL
      cases q'
      exact fun c => absurd (Value.type.inj c) (by decide)
    · have eo : out = sortK kv acc.toList := sort_uniq hs hb2
      obtain ⟨e', he'⟩ := PyProof.Rows.sortedHeap_at (vs := acc.toList) (out := out.toArray) hoL
      obtain ⟨ws2, k1, k2⟩ := paired_relDs (T := T) (ρ := ρ) (H := H) (ds := sortK keyI (kvs.map (·.2.1))) (vs := out) (by
        rw [eo]
        have := sort_rel (k := keyI) (j := kv) (fun a b h => (kvOk h.2).symm) pr2
        have weak : ∀ {ds : List D} {vs : List Value}, Paired (fun d v => (∃ w, RelD T ρ H d w ∧ RelV w v) ∧ Srt.IsPair h1 v (keyI d).1 (keyI d).2) ds vs → Paired (fun d v => ∃ w, RelD T ρ H d w ∧ RelV w v) ds vs := by
          intro ds vs p
          induction p with
          | nil => exact .nil
          | cons r t ih => exact .cons r.1 ih
        exact weak this)
      have hp : H h1.objs.size = none := I1.hok.fresh (Nat.le_refl _)
      have hl2 : ws2.length ≤ sizeLine := by
        rw [k2.length, hb2.len]
        exact hal
      have kpt : ∀ b u, h1.get? b = some u → (sortedHeap (h1.push (seqObj "list" acc.toList.toArray 0)) h1.objs.size acc.toList out.toArray).get? b = some u := fun b u q => by
        have lt : b < h1.objs.size := Heap.lt_size q
        rw [PyProof.Rows.sortedHeap_old (Nat.ne_of_lt lt) (Nat.lt_of_lt_of_le lt (by rw [size_push']; omega))]
        exact Heap.get?_push_of_some _ q
      exact wpAny_pure ⟨_, rfl, .ref h1.objs.size, upd H h1.objs.size (.lst ws2), I1.laid (t' := tk) kpt (Nat.le_refl _) ⟨hl2, out, e', k2, by simpa using he'⟩, rfl, new_lst hr k1 hp post⟩
/-! ### d.setdefault(k, v) -/
def vSetd (d k v : D) (h : LH) : Res D := match dLook d k h with
  | some (some r) => .ok r h
  | some none => (vPut d k v h).bind fun _ h1 => .ok v h1
  | none => .stuck
def mSetd (mo mk mv : ME) : ME := fun sl h => (mo sl h).bind fun o h1 => match dctAt o h1 with
  | some _ => (mk sl h1).bind fun k h2 => (mv sl h2).bind fun v h3 => vSetd o k v h3
  | none => .stuck
theorem setd_ok (hK : X.K = T.K) (hw : X.w = T.w) (hu : X.A.units + 65 < cLine) (I : Inv X pins σ H s) (hr : HR T ρ H lh) {d k z : D} {x : Addr} {y t : V} {u r : Value} (rd : RelD T ρ H d (.ref x)) (rk : RelD T ρ H k y) (rz : RelD T ρ H z t) (ry : RelV y u) (rt : RelV t r)
    {Q : VK} {E' : Value → Shared → Prop} (h : PostE T E ρ lh H (vSetd d k z lh) Q) : wpAny (model X.prog X.w) X.A (call (.builtin "dict.setdefault") [.ref x, u, r]) (EP X pins σ Q) E' s := by
  unfold vSetd dLook at h
  cases e1 : dictAt d k lh with
  | none => rw [e1] at h; exact h.elim
  | some q =>
    obtain ⟨n, nk, kk, kvs⟩ := q
    rw [e1] at h
    have g : PostE T E ρ lh H (match dfind kvs nk with
      | some r => .ok r lh
      | none => (vPut d k z lh).bind fun _ h1 => .ok z h1) Q := by
      cases q : dfind kvs nk with
      | none => simpa [q] using h
      | some r => simpa [q] using h
    clear h
    obtain ⟨kd, ed, hg, hk, hb⟩ := dictAt_some e1
    subst ed
    obtain ⟨a, ex, en0, hsm, hlen, nd, es, ep, he, hH⟩ := obj_of hr rd hg
    obtain rfl : x = a := V.ref.inj ex
    have raw := Inv.rawD I hH
    have he := ents_empty he hb
    have hls := dset_length kvs nk k z
    obtain ⟨hnk, hc⟩ := key_cases hK I hk rk ry
    have put : dfind kvs nk = none → ∀ {h' : Heap} {tk : Nat} {es' : Array DictEntry} {ep' : Nat}, h'.DictRaw x es' ep' → Heap.SameBut x s.heap h' → ((dset kvs nk k z).map (·.1)).Nodup → EntsR T ρ H kk (dset kvs nk k z) es'.toList →
        EP X pins σ Q r { s with heap := h', toks := tk } := fun hn {h' tk es' ep'} hd hs hnn hE => by
      rw [hn] at g
      have h : PostE T E ρ lh H ((vPut (.obj n) k z lh).bind fun _ h1 => .ok z h1) Q := g
      unfold vPut at h
      rw [e1] at h
      simp only at h
      cases b : Nat.ble kvs.length 90000 with
      | false => rw [b] at h; exact h.elim
      | true =>
        rw [b] at h
        have hl := Nat.le_of_ble_eq_true b
        have h : PostE T E ρ lh H (.ok z (lh.put n (.dct kk (dset kvs nk k z)))) Q := h
        have hmu : Mut (H x) := by rw [hH]; exact True.intro
        have le0 : Le0 ρ H ρ (upd H x (dictO x es' ep')) := Le0.upd_mut hH (fun _ q => by cases q) fun _ _ q => by cases q
        have same : ∀ b, b ≠ x → upd H x (dictO x es' ep') b = H b := fun b hb => upd_ne hb
        refine ⟨t, upd H x (dictO x es' ep'), I.write (x := x) (e := x) hmu (.inl rfl) (fun b o hb q => (hs.2 b hb).trans q) (let ⟨o, ho, _⟩ := hd; ⟨o, ho⟩) (obj_ext hd), rt, ?_⟩
        exact PostE.ok h (Le.write hr en0 le0 same) (hr.write en0 le0 same (by rw [upd_same]; simp) ⟨hsm, by omega, hnn, es', ep', hE.mono le0, upd_same⟩) (rz.mono le0)
    rcases hc with ⟨ekk, p, ey, eu, hds, hdp, is⟩ | ⟨ekk, kk', ek, en, is⟩
    · subst ekk eu ey
      obtain ⟨xs, dd, pr⟩ := dictH hK hw I nd he raw
      have lx : xs.length = kvs.length := by
        have := congrArg List.length (nr_keys pr)
        simpa using this
      refine call_setdefault_heap (knd := nestedKind X.prog X.w) (hsz := by rw [sizeLine_eq]; omega) (by show X.A.units + 1 + 8 < cLine; omega) is hsm dd (fun q hq => ?_) fun hn h' dd' hs => ?_
      · rcases atKey_find nk pr with ⟨_, z2⟩ | ⟨d', q', vv, z1, z2, z3, z4⟩
        · rw [z2] at hq; cases hq
        · rw [z2] at hq
          cases hq
          rw [z1] at g
          exact ⟨vv, H, I.tok _, z3, PostE.ok g Le.refl hr z4⟩
      · have hn2 : dfind kvs nk = none := by
          rcases atKey_find nk pr with ⟨z1, _⟩ | ⟨_, _, _, _, z2, _⟩
          · exact z1
          · rw [z2] at hn; cases hn
        have pr2 := nr_set (k := k) (a := p) pr ⟨rfl, hds, hnk, hdp, rk, t, rt, rz⟩ rt rz
        obtain ⟨o, es', ep', ho, hx, hdt, hes, his, hnn⟩ := dd'
        exact put hn2 ⟨o, ho, hx, hdt⟩ hs (by rw [← nr_keys pr2]; exact hnn) (by rw [hes]; exact nr_ents hw pr2)
    · subst ekk ek en
      obtain ⟨ps, dd, pr⟩ := dictF hw I nd he raw
      have lx : ps.length = kvs.length := by
        have := congrArg List.length (fr_keys pr)
        simpa using this.symm
      refine call_meetsIn PySem.F.slot_dict_setdefault dd.typeIs PySem.F.entry_dict_setdefault (PySem.F.args_dict_setdefault_3 _ _ _) (kt_meets_setdefault (mixKind X.prog X.w) x is hsm r) ⟨ps, dd, by rw [sizeLine_eq]; omega, fun v hv => ?_, fun hn h' dd' hs => ?_⟩
      · rcases value_find kk' pr with ⟨_, z2⟩ | ⟨d', q', vv, z1, z2, z3, z4⟩
        · rw [z2] at hv; cases hv
        · rw [z2] at hv
          cases hv
          rw [z1] at g
          exact ⟨vv, H, I.tok _, z3, PostE.ok g Le.refl hr z4⟩
      · have hn2 : dfind kvs (kN kk') = none := by
          rcases value_find kk' pr with ⟨z1, _⟩ | ⟨_, _, _, _, z2, _⟩
          · exact z1
          · rw [z2] at hn; cases hn
        have pr2 := fr_set (k := kk') (d := z) pr rt rz
        obtain ⟨o, es', ep', ho, hx, hdt, hes, his, hnn⟩ := dd'
        exact put hn2 ⟨o, ho, hx, hdt⟩ hs (by rw [fr_keys pr2]; exact nodup_kN.mpr hnn) (fr_ents hw his (fun e he => hes e (by simpa using he)) pr2)
theorem xSetd (B : Bd T X) {o e f : Expr} {mo mk mv : ME} {apos cpos : Pos} (ho : PE X o (rdE T E mo)) (he : PE X e (rdE T E mk)) (hf : PE X f (rdE T E mv)) (hbase : attributeBase o "setdefault" X.env (eval o X.env) = eval o X.env := by rfl)
    (hfew : ((backTo cpos (starEach [e, f] X.env)).all (fun x => !x.1) && (backToKw cpos (keywordEach [] X.env)).all (fun x => x.1.isSome) && decide (([e, f] : List Expr).length + ([] : List Keyword).length + (if ([] : List Keyword).isEmpty then 0 else 1) < 30)) = true := by rfl)
    (hline : (apos.endLine == cpos.line) = true := by rfl) (s1 : starEach [e, f] X.env = (false, eval e X.env) :: starEach [f] X.env := by rfl) (s2 : starEach [f] X.env = (false, eval f X.env) :: starEach [] X.env := by rfl) (s3 : (backTo cpos (starEach [f] X.env)).any (·.1) = false := by rfl) :
    PE X (.Call (.Attribute o "setdefault" apos) [e, f] [] cpos) (rdE T E (mSetd mo mk mv)) := by
  refine ⟨fun pins s σ H Q I h => ?_⟩
  obtain ⟨ρ, sl, lh, sr, post⟩ := h
  refine wpAny_Call_method hbase hfew hline PySem.F.plainAttrs_dict PySem.F.slot_dict_setdefault PySem.F.type_dict_setdefault (thn (ho.run pins s σ H (fun x H1 => ∃ (ρ1 : List Addr) (h1 : LH) (d : D), SR T ρ1 H1 sl h1 σ ∧ RelD T ρ1 H1 d x ∧ PostE T E ρ1 h1 H1 (match dctAt d h1 with
    | some _ => (mk sl h1).bind fun k h2 => (mv sl h2).bind fun v h3 => vSetd d k v h3
    | none => .stuck) Q) I ⟨ρ, sl, lh, sr, (PostG.bind post).mono fun d h1 ρ1 H1 le1 hr1 p1 v rv => ⟨ρ1, h1, d, sr.mono le1 hr1, rv, p1⟩⟩) fun u s1' ⟨x, H1, I1, rx, ρ1, h1, d, sr1, rv, p1⟩ => ?_)
  cases e1 : dctAt d h1 with
  | none => rw [e1] at p1; exact p1.elim
  | some kvs =>
    rw [e1] at p1
    simp only at p1
    obtain ⟨n, kd, ed, eg⟩ := dctAt_some e1
    subst ed
    obtain ⟨a, ev, hn, hsm, hlen, nd, es, ep, hes, hH⟩ := obj_of sr1.hr rv eg
    subst ev
    obtain rfl : u = Value.ref a := rx
    have raw := Inv.rawD I1 hH
    obtain ⟨ob, hob, hx, _⟩ := id raw
    refine ⟨raw.typeIs, fun b q => by cases q; exact ⟨ob, hob, hx.2.1⟩, ?_⟩
    have hA : PA X [e, f] (tCons (rdE T E mk) (tCons (rdE T E mv) tNil)) := pa_cons he (pa_cons hf pa_nil s2) s1
    rw [s1]
    refine Calls.callWith_builtin (by show (false || (backTo cpos (starEach [f] X.env)).any (·.1)) = false; rw [s3] <;> rfl) (Calls.evalArgs_plain ?_)
    have run := hA.run cpos pins s1' σ H1 (fun vs H2 => ∃ (ρ2 : List Addr) (h2 : LH) (k v : D) (kv vv : V), vs = [kv, vv] ∧ Le ρ1 h1 H1 ρ2 h2 H2 ∧ HR T ρ2 H2 h2 ∧ RelD T ρ2 H2 k kv ∧ RelD T ρ2 H2 v vv ∧ PostE T E ρ2 h2 H2 (vSetd (.obj n) k v h2) Q) I1 ?_
    · rw [s1] at run
      refine thn run fun us s2' ⟨vs, H2, I2, r2, ρ2, h2, k, v, kv, vv, evs, le2, hr2, rk, rvv, p2⟩ => ?_
      subst evs
      obtain ⟨u1, u2, rfl, g1, g2⟩ := vals2 r2
      exact setd_ok B.K B.w B.u I2 hr2 (show RelD T ρ2 H2 (.obj n) (.ref a) from ⟨a, le2.toLe0.get hn, rfl⟩) rk rvv g1 g2 p2
    · exact ⟨ρ1, sl, h1, sr1, (PostG.bind p1).mono fun k h2 ρ2 H2 le2 hr2 p2 kv rk => ⟨ρ2, sl, h2, sr1.mono le2 hr2, (PostG.bind p2).mono fun v h3 ρ3 H3 le3 hr3 p3 vv rv3 => ⟨ρ3, h3, k, v, kv, vv, rfl, le2.trans le3, hr3, rk.mono le3.toLe0, rv3, p3⟩⟩⟩
end
end TL

namespace TL
open PySem PySem.Spec PyProof.Rows L2

/-! ### the sum of the script's sizes: int(sum([abs(x) for x in script[:63]])) -/
/-- a heap of two things -/
def H2 (o : LO) (v : Nat) (o' : LO) : LH := ⟨2, .node (.node .nil (some (v, o')) .nil) (some (0, o)) .nil⟩
theorem H2_new (o o' : LO) : (LH.new ⟨0, .nil⟩ o).new o' = H2 o 0 o' := rfl
theorem H2_put (o : LO) (v : Nat) (o' o2 : LO) : (H2 o v o').put 1 o2 = H2 o (v + 1) o2 := rfl
theorem H2_get0 (o : LO) (v : Nat) (o' : LO) : (H2 o v o').get 0 = some o := rfl
theorem H2_get1 (o : LO) (v : Nat) (o' : LO) : (H2 o v o').get 1 = some o' := rfl
theorem H2_ver0 (o : LO) (v : Nat) (o' : LO) : (H2 o v o').ver 0 = 0 := rfl
def absI (i : Int) : Int := if i < 0 then -i else i
def mAbs (j : Nat) : ME := mFn (f1 bAbs) (aCons (mVar j) aNil)
theorem m_abs {sl : Sl} {j : Nat} {h : LH} {i : Int} (hj : j < sl.length) : mAbs j (sl.set j (some (.int i))) h = .ok (.int (absI i)) h := by
  unfold mAbs mFn aCons mVar
  rw [List.getElem?_set_self hj]
  rfl
theorem lc_abs {o : LO} {sl : Sl} {j : Nat} (hj : j < sl.length) : ∀ (ns acc : List Int) (v : Nat), acc.length + ns.length ≤ 100 →
    lcD [(0, 0)] (.nm j) mYes (mAbs j) sl 1 (ns.map D.int) (H2 o v (.lst false (acc.map D.int))) = .ok () (H2 o (v + ns.length) (.lst false ((acc ++ ns.map absI).map D.int)))
  | [], acc, v, _ => by
    show (bif chkOk [(0, 0)] (H2 o v (.lst false (acc.map D.int))) then Res.ok () (H2 o v (.lst false (acc.map D.int))) else .stuck) = _
    simp [chkOk, H2_ver0]
  | n :: r, acc, v, hl => by
    have ih := lc_abs (o := o) hj r (acc ++ [absI n]) (v + 1) (by simp at hl ⊢; omega)
    have hb : Nat.ble (acc.map D.int).length tooLong = true := by
      rw [List.length_map]
      exact Nat.ble_eq_true_of_le (by unfold tooLong; simp at hl; omega)
    show (bif chkOk [(0, 0)] (H2 o v (.lst false (acc.map D.int))) then (match tgM (.nm j) (.int n) sl with
      | some sl1 => (noErr (mYes sl1 (H2 o v (.lst false (acc.map D.int))))).bind fun b h2 => match b with
        | true => (noErr (mAbs j sl1 h2)).bind fun y h3 => match h3.get 1 with
          | some (.lst false xs) => bif Nat.ble xs.length tooLong then lcD [(0, 0)] (.nm j) mYes (mAbs j) sl 1 (r.map D.int) (h3.put 1 (.lst false (xs ++ [y]))) else .stuck
          | _ => .stuck
        | false => lcD [(0, 0)] (.nm j) mYes (mAbs j) sl 1 (r.map D.int) h2
      | none => .stuck) else .stuck) = _
    have e1 : chkOk [(0, 0)] (H2 o v (.lst false (acc.map D.int))) = true := rfl
    rw [e1]
    show ((noErr (mAbs j (sl.set j (some (.int n))) (H2 o v (.lst false (acc.map D.int))))).bind fun y h3 => match h3.get 1 with
          | some (.lst false xs) => bif Nat.ble xs.length tooLong then lcD [(0, 0)] (.nm j) mYes (mAbs j) sl 1 (r.map D.int) (h3.put 1 (.lst false (xs ++ [y]))) else .stuck
          | _ => .stuck) = _
    rw [m_abs hj]
    show (bif Nat.ble (acc.map D.int).length tooLong then lcD [(0, 0)] (.nm j) mYes (mAbs j) sl 1 (r.map D.int) (H2 o (v + 1) (.lst false (acc.map D.int ++ [.int (absI n)]))) else .stuck) = _
    rw [hb]
    show lcD [(0, 0)] (.nm j) mYes (mAbs j) sl 1 (r.map D.int) (H2 o (v + 1) (.lst false (acc.map D.int ++ [.int (absI n)]))) = _
    have e2 : acc.map D.int ++ [D.int (absI n)] = (acc ++ [absI n]).map D.int := by simp
    rw [e2, ih]
    congr 2
    · simp; omega
    · simp
def mSumA (i j : Nat) : ME := mFn (f1 bInt) (aCons (mFn (f1 bSum) (aCons (mLc (iAny (mSl (mVar i) oNone (oSome (mC (.int 63))))) (.nm j) mYes (mAbs j) [j]) aNil)) aNil)
theorem cut63_le (ns : List Int) (h : ns.length ≤ 63) : (cut63 ns).length ≤ 63 := by
  unfold cut63 cutL
  rw [List.length_take, List.length_drop]
  omega
theorem m_sumA {sl : Sl} {i j : Nat} {ns : List Int} (e : sl[i]? = some (some (.kls (ns.map D.int)))) (hj : j < sl.length) (hl : ns.length ≤ 63) :
    ∃ v, mSumA i j sl ⟨0, .nil⟩ = .ok (.int ((cut63 ns).map absI).sum) (H2 (.lst false ((cut63 ns).map D.int)) v (.lst false (((cut63 ns).map absI).map D.int))) := by
  have e1 : mSl (mVar i) oNone (oSome (mC (.int 63))) sl ⟨0, .nil⟩ = .ok (.obj 0) (LH.new ⟨0, .nil⟩ (.lst false ((cut63 ns).map D.int))) := by
    unfold mSl mVar
    rw [e]
    show Res.ok (D.obj 0) (LH.new ⟨0, .nil⟩ (.lst false (cutL (ns.map D.int) none (some 63)))) = _
    rw [cut_map]
    rfl
  have e2 : iAny (mSl (mVar i) oNone (oSome (mC (.int 63)))) sl ⟨0, .nil⟩ = .ok ((cut63 ns).map D.int, [(0, 0)]) (LH.new ⟨0, .nil⟩ (.lst false ((cut63 ns).map D.int))) := by
    unfold iAny
    rw [e1]
    rfl
  have hj2 : j < (wipeL sl [j]).length := by
    show j < (sl.set j none).length
    rw [List.length_set]
    exact hj
  have e3 := lc_abs (o := .lst false ((cut63 ns).map D.int)) hj2 (cut63 ns) [] 0 (by have := cut63_le ns hl; simp; omega)
  refine ⟨0 + (cut63 ns).length, ?_⟩
  have e4 : mLc (iAny (mSl (mVar i) oNone (oSome (mC (.int 63))))) (.nm j) mYes (mAbs j) [j] sl ⟨0, .nil⟩ = .ok (.obj 1) (H2 (.lst false ((cut63 ns).map D.int)) (0 + (cut63 ns).length) (.lst false (((cut63 ns).map absI).map D.int))) := by
    unfold mLc
    rw [e2]
    show (lcD [(0, 0)] (.nm j) mYes (mAbs j) (wipeL sl [j]) 1 ((cut63 ns).map D.int) (H2 (.lst false ((cut63 ns).map D.int)) 0 (.lst false []))).bind _ = _
    have e3' : lcD [(0, 0)] (.nm j) mYes (mAbs j) (wipeL sl [j]) 1 ((cut63 ns).map D.int) (H2 (.lst false ((cut63 ns).map D.int)) 0 (.lst false [])) = _ := e3
    rw [e3']
    rfl
  have e5 : mFn (f1 bSum) (aCons (mLc (iAny (mSl (mVar i) oNone (oSome (mC (.int 63))))) (.nm j) mYes (mAbs j) [j]) aNil) sl ⟨0, .nil⟩ = .ok (.int ((cut63 ns).map absI).sum) (H2 (.lst false ((cut63 ns).map D.int)) (0 + (cut63 ns).length) (.lst false (((cut63 ns).map absI).map D.int))) := by
    unfold mFn aCons
    rw [e4]
    show bSum (.obj 1) (H2 (.lst false ((cut63 ns).map D.int)) (0 + (cut63 ns).length) (.lst false (((cut63 ns).map absI).map D.int))) = _
    unfold bSum lstAt
    simp only [H2_get1, ints_map]
  show ((mFn (f1 bSum) (aCons (mLc (iAny (mSl (mVar i) oNone (oSome (mC (.int 63))))) (.nm j) mYes (mAbs j) [j]) aNil) sl ⟨0, .nil⟩).bind fun x h1 => (aNil sl h1).bind fun xs h2 => Res.ok (x :: xs) h2).bind (fun ds h1 => f1 bInt ds h1) = _
  rw [e5]
  rfl
end TL

namespace L_k13_known_finding
open PySem PySem.Spec PyProof.Rows L2 TL
def top (i : Nat) : Stmt := PySem.Challenge.pw_trimmedlogs_k13_known_finding.main.body.getD i (.Pass ⟨0, 0, 0, 0⟩)
def mth (i j : Nat) : Stmt := match top i with
  | .ClassDef (body := b) .. => b.getD j (.Pass ⟨0, 0, 0, 0⟩)
  | _ => .Pass ⟨0, 0, 0, 0⟩
def FX : Fx where
  cn := ["Ring", "Log", "Findable", "Doubtful"]
  fn := ["size", "lengths", "marks", "order", "check", "follow", "ring", "word", "marked", "cells", "writer", "lag", "due", "place", "standings", "one", "other"]
  fa := [(.free "abs"), (.free "sum"), (.free "int"), (.free "isinstance"), (.free "bool"), (.glo "is_number"), (.free "tuple"), (.free "len"), (.free "min"), (.free "all"), (.free "zip"), (.glo "are_lengths"), (.free "str"), (.glo "WORDS"), (.glo "is_word"), (.glo "Ring"), (.mkr "Ring"), (.glo "check_ring"), (.free "list"), (.glo "start_of"), (.glo "deeds_of"), (.glo "is_deed"), (.mkr "Log"), (.glo "Log"), (.meth "Log" "begin"), (.meth "Log" "put"), (.meth "Log" "catch_up"), (.meth "Log" "looked_at"), (.meth "Log" "mark_of"), (.free "any"), (.meth "Log" "does_fail"), (.free "range"), (.meth "Log" "take"), (.meth "Log" "read"), (.meth "Log" "do"), (.glo "done"), (.meth "Log" "state_now"), (.glo "walked"), (.glo "check_history"), (.glo "first_of"), (.glo "with_put"), (.glo "behind"), (.glo "stood"), (.glo "standing_after"), (.glo "is_cell"), (.glo "check_picture"), (.glo "writings"), (.glo "spread"), (.free "sorted"), (.glo "starts_by"), (.glo "clash_of"), (.mkr "Findable"), (.glo "Findable"), (.mkr "Doubtful"), (.glo "Doubtful"), (.glo "found_in"), (.glo "find"), (.glo "is_findable"), (.meth "Ring" "six"), (.meth "Ring" "but"), (.glo "marks_enough"), (.meth "Doubtful" "shows"), (.meth "Findable" "shows"), (.glo "_law_two_right"), (.glo "_law_three_right"), (.glo "law")]
  cs := [("MOST_SIZE", .int 5), ("LEAST_SIZE", .int 2), ("MOST_LENGTH", .int 3), ("MOST_MARKS", .int 4), ("MOST_STATES", .int 800), ("NAMES", .tup [.str "size", .str "lengths", .str "marks", .str "order", .str "check", .str "follow"])]
  ts := [("WORDS", [("order", .tup [.str "first", .str "last"]), ("check", .tup [.str "none", .str "ends", .str "all"]), ("follow", .tup [.str "strict", .str "loose"])])]
  df := [⟨("is_number", none), "is_number", "is_number", defArgs (top 14), defBody (top 14), defScope (top 14), [], []⟩,
    ⟨("are_lengths", none), "are_lengths", "are_lengths", defArgs (top 16), defBody (top 16), defScope (top 16), [], []⟩,
    ⟨("is_word", none), "is_word", "is_word", defArgs (top 15), defBody (top 15), defScope (top 15), [], []⟩,
    ⟨("Ring", some "__init__"), "__init__", "Ring.__init__", defArgs (mth 17 0), defBody (mth 17 0), defScope (mth 17 0), [], [("order", .str "first"), ("check", .str "none"), ("follow", .str "strict")]⟩,
    ⟨("check_ring", none), "check_ring", "check_ring", defArgs (top 18), defBody (top 18), defScope (top 18), [], []⟩,
    ⟨("start_of", none), "start_of", "start_of", defArgs (top 22), defBody (top 22), defScope (top 22), [], []⟩,
    ⟨("deeds_of", none), "deeds_of", "deeds_of", defArgs (top 23), defBody (top 23), defScope (top 23), [], []⟩,
    ⟨("is_deed", none), "is_deed", "is_deed", defArgs (top 25), defBody (top 25), defScope (top 25), [], []⟩,
    ⟨("Log", some "__init__"), "__init__", "Log.__init__", defArgs (mth 21 0), defBody (mth 21 0), defScope (mth 21 0), [], []⟩,
    ⟨("Log", some "begin"), "begin", "Log.begin", defArgs (mth 21 3), defBody (mth 21 3), defScope (mth 21 3), [], []⟩,
    ⟨("Log", some "put"), "put", "Log.put", defArgs (mth 21 4), defBody (mth 21 4), defScope (mth 21 4), [], []⟩,
    ⟨("Log", some "catch_up"), "catch_up", "Log.catch_up", defArgs (mth 21 5), defBody (mth 21 5), defScope (mth 21 5), [], []⟩,
    ⟨("Log", some "looked_at"), "looked_at", "Log.looked_at", defArgs (mth 21 6), defBody (mth 21 6), defScope (mth 21 6), [], []⟩,
    ⟨("Log", some "mark_of"), "mark_of", "Log.mark_of", defArgs (mth 21 2), defBody (mth 21 2), defScope (mth 21 2), [], []⟩,
    ⟨("Log", some "does_fail"), "does_fail", "Log.does_fail", defArgs (mth 21 7), defBody (mth 21 7), defScope (mth 21 7), [], []⟩,
    ⟨("Log", some "take"), "take", "Log.take", defArgs (mth 21 9), defBody (mth 21 9), defScope (mth 21 9), [], []⟩,
    ⟨("Log", some "read"), "read", "Log.read", defArgs (mth 21 8), defBody (mth 21 8), defScope (mth 21 8), [], []⟩,
    ⟨("Log", some "do"), "do", "Log.do", defArgs (mth 21 10), defBody (mth 21 10), defScope (mth 21 10), [], []⟩,
    ⟨("done", none), "done", "done", defArgs (top 24), defBody (top 24), defScope (top 24), [], []⟩,
    ⟨("Log", some "state_now"), "state_now", "Log.state_now", defArgs (mth 21 1), defBody (mth 21 1), defScope (mth 21 1), [], []⟩,
    ⟨("walked", none), "walked", "walked", defArgs (top 26), defBody (top 26), defScope (top 26), [], []⟩,
    ⟨("check_history", none), "check_history", "check_history", defArgs (top 27), defBody (top 27), defScope (top 27), [], []⟩,
    ⟨("first_of", none), "first_of", "first_of", defArgs (top 29), defBody (top 29), defScope (top 29), [], []⟩,
    ⟨("with_put", none), "with_put", "with_put", defArgs (top 30), defBody (top 30), defScope (top 30), [], []⟩,
    ⟨("behind", none), "behind", "behind", defArgs (top 31), defBody (top 31), defScope (top 31), [], []⟩,
    ⟨("stood", none), "stood", "stood", defArgs (top 35), defBody (top 35), defScope (top 35), [], []⟩,
    ⟨("standing_after", none), "standing_after", "standing_after", defArgs (top 45), defBody (top 45), defScope (top 45), [], []⟩,
    ⟨("is_cell", none), "is_cell", "is_cell", defArgs (top 36), defBody (top 36), defScope (top 36), [], []⟩,
    ⟨("check_picture", none), "check_picture", "check_picture", defArgs (top 37), defBody (top 37), defScope (top 37), [], []⟩,
    ⟨("writings", none), "writings", "writings", defArgs (top 32), defBody (top 32), defScope (top 32), [], []⟩,
    ⟨("spread", none), "spread", "spread", defArgs (top 33), defBody (top 33), defScope (top 33), [], []⟩,
    ⟨("starts_by", none), "starts_by", "starts_by", defArgs (top 44), defBody (top 44), defScope (top 44), [], []⟩,
    ⟨("clash_of", none), "clash_of", "clash_of", defArgs (top 34), defBody (top 34), defScope (top 34), [], []⟩,
    ⟨("Findable", some "__init__"), "__init__", "Findable.__init__", defArgs (mth 38 0), defBody (mth 38 0), defScope (mth 38 0), [], []⟩,
    ⟨("Doubtful", some "__init__"), "__init__", "Doubtful.__init__", defArgs (mth 39 0), defBody (mth 39 0), defScope (mth 39 0), [], []⟩,
    ⟨("found_in", none), "found_in", "found_in", defArgs (top 40), defBody (top 40), defScope (top 40), [], []⟩,
    ⟨("find", none), "find", "find", defArgs (top 41), defBody (top 41), defScope (top 41), [], []⟩,
    ⟨("is_findable", none), "is_findable", "is_findable", defArgs (top 42), defBody (top 42), defScope (top 42), [], []⟩,
    ⟨("Ring", some "six"), "six", "Ring.six", defArgs (mth 17 1), defBody (mth 17 1), defScope (mth 17 1), [], []⟩,
    ⟨("Ring", some "but"), "but", "Ring.but", defArgs (mth 17 5), defBody (mth 17 5), defScope (mth 17 5), [], []⟩,
    ⟨("marks_enough", none), "marks_enough", "marks_enough", defArgs (top 43), defBody (top 43), defScope (top 43), [], []⟩,
    ⟨("Findable", some "shows"), "shows", "Findable.shows", defArgs (mth 38 2), defBody (mth 38 2), defScope (mth 38 2), [], []⟩,
    ⟨("Doubtful", some "shows"), "shows", "Doubtful.shows", defArgs (mth 39 2), defBody (mth 39 2), defScope (mth 39 2), [], []⟩,
    ⟨("_law_two_right", none), "_law_two_right", "_law_two_right", defArgs (top 47), defBody (top 47), defScope (top 47), [], []⟩,
    ⟨("_law_three_right", none), "_law_three_right", "_law_three_right", defArgs (top 48), defBody (top 48), defScope (top 48), [], []⟩,
    ⟨("law", none), "law", "law", defArgs (top 49), defBody (top 49), defScope (top 49), [], []⟩]
def b_f_is_number : MS := (sRet (mAndV (m1 (vIsi [2]) (mVar 0)) (mAndV (mNotV (m1 (vIsi [1]) (mVar 0))) (mChain (vCmp .LtE) (vCmp .LtE) (mVar 1) (mVar 0) (mVar 2)))))
def f_is_number : Fn := fnM 3 b_f_is_number
theorem sc_f_is_number : FnScope ["thing", "low", "high"] ["thing", "low", "high"] (defScope (top 14)) := ⟨rfl, rfl, rfl, by decide +kernel, rfl, by decide +kernel, by decide +kernel⟩
theorem ok_f_is_number {P : Program} {w : World} {K : PySem.W.Frag} {mg : Str → Option Value} {base : Heap} (C : Ct FX w K mg base) : FG (FX.tb K w) P w K mg base 1 (He.fAd K ("is_number", none)) 3 f_is_number := by
  obtain ⟨fd, F⟩ := C.def_ 0
  exact fg_of (T := FX.tb K w) (N := ["thing", "low", "high"]) (ps := ["thing", "low", "high"]) (k := 0) (m := b_f_is_number) F sc_f_is_number rfl rfl C.ok (fun cdv A outer s H E hr B => (z1 (sR (xAnd (xIs B (C.free 3) (xV 0) (cvB boot_int (C.free 2))) (xAnd (xNot (xIs B (C.free 3) (xV 0) (cvB boot_bool (C.free 4)))) (xOne (xChain B (xV 1) (xV 0) (xV 2)))))))) (fun _ _ _ _ _ _ us hl => match us, hl with | [_, _, _], _ => rfl)
def b_f_are_lengths : MS := (sSeq (sIf (mOr (mNot (mB (m1 (vIsi [5]) (mVar 1)))) (mNot (mB (mChain (vCmp .LtE) (vCmp .LtE) (mC (.int 1)) (mFn (f1 bLen) (aCons (mVar 1) aNil)) (mC (.int 3)))))) (sRet (mC (.bl false))) sSkip) (sSeq (sIf (mNot (mB (mFn (f1 bAll) (aCons (mLc (iAny (mVar 1)) (.nm 2) mYes (mCall 3 f_is_number (aCons (mVar 2) (aCons (mC (.int 1)) (aCons (mFn (f2 bMin) (aCons (mVar 0) (aCons (mC (.int 3)) aNil))) aNil)))) [2]) aNil)))) (sRet (mC (.bl false))) sSkip) (sRet (mFn (f1 bAll) (aCons (mLc (iZipM (aCons (mVar 1) (aCons (mSl (mVar 1) (oSome (mC (.int 1))) oNone) aNil))) (.tp [2, 3]) mYes (m2 (vCmp .Lt) (mVar 2) (mVar 3)) [2, 3]) aNil)))))
def f_are_lengths : Fn := fnM 4 b_f_are_lengths
theorem sc_f_are_lengths : FnScope ["size", "thing", "one", "other"] ["size", "thing"] (defScope (top 16)) := ⟨rfl, rfl, rfl, by decide +kernel, rfl, by decide +kernel, by decide +kernel⟩
theorem ok_f_are_lengths {P : Program} {w : World} {K : PySem.W.Frag} {mg : Str → Option Value} {base : Heap} (C : Ct FX w K mg base) : FG (FX.tb K w) P w K mg base 2 (He.fAd K ("are_lengths", none)) 2 f_are_lengths := by
  obtain ⟨fd, F⟩ := C.def_ 1
  exact fg_of (T := FX.tb K w) (N := ["size", "thing", "one", "other"]) (ps := ["size", "thing"]) (k := 1) (m := b_f_are_lengths) F sc_f_are_lengths rfl rfl C.ok (fun cdv A outer s H E hr B => (zC (sI (tW (wOr (tNot' (tV (xIs B (C.free 3) (xV 1) (cvB boot_tuple (C.free 6))))) (wOr1 (tNot' (tChn B xI (xFnB (cr_len B.K B.w) (C.free 7) boot_len (aC (xV 1) aN)) (xG (C.con 2))))))) (z1 (sR xB)) zN) (zC (sI (tNot' (tV (xFnB (cr_allL B.K B.calm) (C.free 9) boot_all (aC (xLc B (own := [("one", 2)]) (iA B (xV 1)) rfl (fun _ _ _ _ _ => ⟨(tgN B.blk 2), yN, (xCall (ok_f_is_number C) hr (C.glo 5) (aC (xV 2) (aC xI (aC (xFnB (cr_min2 B.blk.calm) (C.free 8) boot_min (aC (xV 0) (aC (xG (C.con 2)) aN))) aN))))⟩)) aN)))) (z1 (sR xB)) zN) (z1 (sR (xFnB (cr_allL B.K B.calm) (C.free 9) boot_all (aC (xLc B (own := [("one", 2), ("other", 3)]) (pi_zipM B.K rfl (C.free 10) (aC (xV 1) (aC (xSl B (xV 1) (oS xI) oN) aN))) rfl (fun _ _ _ _ _ => ⟨(tgT B.blk (tsC B.blk 2 (tsC B.blk 3 tsN))), yN, (xCmp B.blk (xV 2) (xV 3))⟩)) aN))))))) (fun _ _ _ _ _ _ us hl => match us, hl with | [_, _], _ => rfl)
def b_f_is_word : MS := (sRet (mAndV (m1 (vIsi [3]) (mVar 0)) (m2 (vCmp .In) (mVar 0) (mVar 1))))
def f_is_word : Fn := fnM 2 b_f_is_word
theorem sc_f_is_word : FnScope ["thing", "words"] ["thing", "words"] (defScope (top 15)) := ⟨rfl, rfl, rfl, by decide +kernel, rfl, by decide +kernel, by decide +kernel⟩
theorem ok_f_is_word {P : Program} {w : World} {K : PySem.W.Frag} {mg : Str → Option Value} {base : Heap} (C : Ct FX w K mg base) : FG (FX.tb K w) P w K mg base 1 (He.fAd K ("is_word", none)) 2 f_is_word := by
  obtain ⟨fd, F⟩ := C.def_ 2
  exact fg_of (T := FX.tb K w) (N := ["thing", "words"]) (ps := ["thing", "words"]) (k := 0) (m := b_f_is_word) F sc_f_is_word rfl rfl C.ok (fun cdv A outer s H E hr B => (z1 (sR (xAnd (xIs B (C.free 3) (xV 0) (cvB boot_str (C.free 12))) (xOne (xCmp B (xV 0) (xV 1))))))) (fun _ _ _ _ _ _ us hl => match us, hl with | [_, _], _ => rfl)
def b_m_Ring_o_init_o : MS := (sSeq (sIf (mNot (mB (mCall 3 f_is_number (aCons (mVar 1) (aCons (mC (.int 2)) (aCons (mC (.int 5)) aNil)))))) sNever sSkip) (sSeq (sIf (mNot (mB (mCall 2 f_are_lengths (aCons (mVar 1) (aCons (mVar 2) aNil))))) sNever sSkip) (sSeq (sIf (mNot (mB (mCall 3 f_is_number (aCons (mVar 3) (aCons (mC (.int 1)) (aCons (mC (.int 4)) aNil)))))) sNever sSkip) (sSeq (sFor (iAny (mTup (aCons (mTup (aCons (mC (.str "order")) (aCons (mVar 4) aNil))) (aCons (mTup (aCons (mC (.str "check")) (aCons (mVar 5) aNil))) (aCons (mTup (aCons (mC (.str "follow")) (aCons (mVar 6) aNil))) aNil))))) (.tp [7, 8]) (sIf (mNot (mB (mCall 2 f_is_word (aCons (mVar 8) (aCons (mTab [("order", .tup [.str "first", .str "last"]), ("check", .tup [.str "none", .str "ends", .str "all"]), ("follow", .tup [.str "strict", .str "loose"])] (mVar 7)) aNil))))) sNever sSkip)) (sSeq (sAsg (mVar 1) (gAttr 0 (mVar 0))) (sSeq (sAsg (mVar 2) (gAttr 1 (mVar 0))) (sSeq (sAsg (mVar 3) (gAttr 2 (mVar 0))) (sSeq (sAsg (mVar 4) (gAttr 3 (mVar 0))) (sSeq (sAsg (mVar 5) (gAttr 4 (mVar 0))) (sAsg (mVar 6) (gAttr 5 (mVar 0))))))))))))
def m_Ring_o_init_o : Fn := fnM 9 b_m_Ring_o_init_o
theorem sc_m_Ring_o_init_o : FnScope ["self", "size", "lengths", "marks", "order", "check", "follow", "name", "word"] ["self", "size", "lengths", "marks", "order", "check", "follow"] (defScope (mth 17 0)) := ⟨rfl, rfl, rfl, by decide +kernel, rfl, by decide +kernel, by decide +kernel⟩
theorem ok_m_Ring_o_init_o {P : Program} {w : World} {K : PySem.W.Frag} {mg : Str → Option Value} {base : Heap} (C : Ct FX w K mg base) : ∃ fd, FunD K "__init__" "Ring.__init__" (defArgs (mth 17 0)) (defBody (mth 17 0)) (defScope (mth 17 0)) [] [("order", V.str "first"), ("check", V.str "none"), ("follow", V.str "strict")] (He.fAd K ("Ring", some "__init__")) fd ∧ FnOk P w K mg base CX0 3 (He.fAd K ("Ring", some "__init__")) fd ["self", "size", "lengths", "marks", "order", "check", "follow"] (spOf (FX.tb K w) 7 m_Ring_o_init_o) := by
  obtain ⟨fd, F⟩ := C.def_ 3
  exact ⟨fd, F, fnok_of (T := FX.tb K w) (N := ["self", "size", "lengths", "marks", "order", "check", "follow", "name", "word"]) (ps := ["self", "size", "lengths", "marks", "order", "check", "follow"]) (k := 2) (m := b_m_Ring_o_init_o) F sc_m_Ring_o_init_o rfl rfl C.ok fun cdv A outer s H E hr B => (zC (sI (tNot' (tV (xCall (ok_f_is_number C) hr (C.glo 5) (aC (xV 1) (aC (xG (C.con 1)) (aC (xG (C.con 0)) aN)))))) (z1 sNv) zN) (zC (sI (tNot' (tV (xCall (ok_f_are_lengths C) hr (C.glo 11) (aC (xV 1) (aC (xV 2) aN))))) (z1 sNv) zN) (zC (sI (tNot' (tV (xCall (ok_f_is_number C) hr (C.glo 5) (aC (xV 3) (aC xI (aC (xG (C.con 3)) aN)))))) (z1 sNv) zN) (zC (sF B rfl (iA B (xTup (aC (xTup (aC xS (aC (xV 4) aN))) (aC (xTup (aC xS (aC (xV 5) aN))) (aC (xTup (aC xS (aC (xV 6) aN))) aN))))) (tgT B (tsC B 7 (tsC B 8 tsN))) (z1 (sI (tNot' (tV (xCall (ok_f_is_word C) hr (C.glo 14) (aC (xV 8) (aC (x_tab B.K B.w (C.tab 0) (pe_glob rfl (C.glo 13) rfl) (xV 7)) aN))))) (z1 sNv) zN))) (zC (sA (xV 1) (gAt B 0 (xV 0))) (zC (sA (xV 2) (gAt B 1 (xV 0))) (zC (sA (xV 3) (gAt B 2 (xV 0))) (zC (sA (xV 4) (gAt B 3 (xV 0))) (zC (sA (xV 5) (gAt B 4 (xV 0))) (z1 (sA (xV 6) (gAt B 5 (xV 0)))))))))))))⟩
theorem kg_Ring_order {P : Program} {w : World} {K : PySem.W.Frag} {mg : Str → Option Value} {base : Heap} (C : Ct FX w K mg base) : KG (FX.tb K w) P w K mg base 3 0 "Ring" (He.ma K (He.ga K "Ring") "__init__") 6 m_Ring_o_init_o 3 ["order"] [true, false, false] [.str "none", .str "strict"] := by
  obtain ⟨fd, F, ok⟩ := ok_m_Ring_o_init_o (P := P) C
  obtain ⟨mv, kb⟩ := F.kbinds0 (ps := ["self", "size", "lengths", "marks", "order", "check", "follow"]) 4 ["order"] [("check", V.str "none"), ("follow", V.str "strict")] (fun us mv ws => us ++ mix [true, false, false] mv ws) (by intro z; cases z) (show ∀ q ∈ ([("check", V.str "none"), ("follow", V.str "strict")] : List (Str × V)), q ∈ ([("order", V.str "first"), ("check", V.str "none"), ("follow", V.str "strict")] : List (Str × V)) from by decide +kernel) (fun a b c => Paired_append a (mix_rel b c)) (fun D doc pm an cdv ct us mv ws h1 h2 h3 => match us, mv, ws, h1, h2, h3 with
    | [_, _, _, _], [_, _], [_], _, _, _ => ⟨_, _, _, _, _, _, rfl, rfl, _, _, _, _, _, _, rfl, rfl, rfl⟩)
  exact ⟨rfl, (C.glo 15), C.mkr 16, fd, _, _, _, ok, kb, fun ρ H ds vs zs us p r1 r2 => ⟨_, rfl, r1.append (mix_relD (by exact ⟨_, _, rfl, rfl, ⟨_, _, rfl, rfl, rfl⟩⟩) r2)⟩⟩
def b_f_check_ring : MS := (sIf (mNot (mB (m1 (vIsi [7]) (mVar 0)))) sNever sSkip)
def f_check_ring : Fn := fnM 1 b_f_check_ring
theorem sc_f_check_ring : FnScope ["ring"] ["ring"] (defScope (top 18)) := ⟨rfl, rfl, rfl, by decide +kernel, rfl, by decide +kernel, by decide +kernel⟩
theorem ok_f_check_ring {P : Program} {w : World} {K : PySem.W.Frag} {mg : Str → Option Value} {base : Heap} (C : Ct FX w K mg base) : FG (FX.tb K w) P w K mg base 1 (He.fAd K ("check_ring", none)) 1 f_check_ring := by
  obtain ⟨fd, F⟩ := C.def_ 4
  exact fg_of (T := FX.tb K w) (N := ["ring"]) (ps := ["ring"]) (k := 0) (m := b_f_check_ring) F sc_f_check_ring rfl rfl C.ok (fun cdv A outer s H E hr B => (z1 (sI (tNot' (tV (xIs B (C.free 3) (xV 0) (cvO (C.glo 15) 0)))) (z1 sNv) zN))) (fun _ _ _ _ _ _ us hl => match us, hl with | [_], _ => rfl)
def b_f_start_of : MS := (sRet (mTup (aCons (m2 (vBin .Mult) (mTup (aCons (mC .non) aNil)) (m1 (vFld 0) (mVar 0))) (aCons (mC .non) (aCons (mTup (aCons (mC (.int 0)) (aCons (mC (.int 0)) (aCons (m2 (vBin .Mod) (mC (.int 1)) (m1 (vFld 2) (mVar 0))) aNil)))) aNil)))))
def f_start_of : Fn := fnM 1 b_f_start_of
theorem sc_f_start_of : FnScope ["ring"] ["ring"] (defScope (top 22)) := ⟨rfl, rfl, rfl, by decide +kernel, rfl, by decide +kernel, by decide +kernel⟩
theorem ok_f_start_of {P : Program} {w : World} {K : PySem.W.Frag} {mg : Str → Option Value} {base : Heap} (C : Ct FX w K mg base) : FG (FX.tb K w) P w K mg base 1 (He.fAd K ("start_of", none)) 1 f_start_of := by
  obtain ⟨fd, F⟩ := C.def_ 5
  exact fg_of (T := FX.tb K w) (N := ["ring"]) (ps := ["ring"]) (k := 0) (m := b_f_start_of) F sc_f_start_of rfl rfl C.ok (fun cdv A outer s H E hr B => (z1 (sR (xTup (aC (xOp B (xTup (aC xN aN)) (xF B 0 (xV 0))) (aC xN (aC (xTup (aC xI (aC xI (aC (xOp B xI (xF B 2 (xV 0))) aN)))) aN))))))) (fun _ _ _ _ _ _ us hl => match us, hl with | [_], _ => rfl)
def b_f_deeds_of : MS := (sSeq (sAsg (mIf (mB (m2 (vCmp .Is) (m2 vIdx (mVar 1) (mC (.int 1))) (mC .non))) (mLc (iAny (m1 (vFld 1) (mVar 0))) (.nm 3) mYes (mTup (aCons (mC (.str "begin")) (aCons (mVar 3) aNil))) [3]) (mLst (aCons (mTup (aCons (mC (.str "put")) aNil)) aNil))) (gN 2)) (sRet (mLst (aStar (mVar 2) (aCons (mTup (aCons (mC (.str "read")) aNil)) aNil)))))
def f_deeds_of : Fn := fnM 4 b_f_deeds_of
theorem sc_f_deeds_of : FnScope ["ring", "state", "found_deeds", "length"] ["ring", "state"] (defScope (top 23)) := ⟨rfl, rfl, rfl, by decide +kernel, rfl, by decide +kernel, by decide +kernel⟩
theorem ok_f_deeds_of {P : Program} {w : World} {K : PySem.W.Frag} {mg : Str → Option Value} {base : Heap} (C : Ct FX w K mg base) : FG (FX.tb K w) P w K mg base 1 (He.fAd K ("deeds_of", none)) 2 f_deeds_of := by
  obtain ⟨fd, F⟩ := C.def_ 6
  exact fg_of (T := FX.tb K w) (N := ["ring", "state", "found_deeds", "length"]) (ps := ["ring", "state"]) (k := 0) (m := b_f_deeds_of) F sc_f_deeds_of rfl rfl C.ok (fun cdv A outer s H E hr B => (zC (sA (xIf (tCmp B (xIx B (xV 1) xI) xN) (xLc B (own := [("length", 3)]) (iA B (xF B 1 (xV 0))) rfl (fun _ _ _ _ _ => ⟨(tgN B.blk 3), yN, (xTup (aC xS (aC (xV 3) aN)))⟩)) (xLst (aC (xTup (aC xS aN)) aN))) (gNm B 2)) (z1 (sR (xLst (aS B (xV 2) (aC (xTup (aC xS aN)) aN))))))) (fun _ _ _ _ _ _ us hl => match us, hl with | [_, _], _ => rfl)
def b_f_is_deed : MS := (sSeq (sIf (mOr (mNot (mB (m1 (vIsi [5]) (mVar 2)))) (mOr (mNot (mB (mChain (vCmp .LtE) (vCmp .LtE) (mC (.int 1)) (mFn (f1 bLen) (aCons (mVar 2) aNil)) (mC (.int 2))))) (mNot (mB (m1 (vIsi [3]) (m2 vIdx (mVar 2) (mC (.int 0)))))))) (sRet (mC (.bl false))) sSkip) (sSeq (sIf (mAnd (mB (m2 (vCmp .Eq) (mFn (f1 bLen) (aCons (mVar 2) aNil)) (mC (.int 2)))) (mNot (mB (mCall 3 f_is_number (aCons (m2 vIdx (mVar 2) (mC (.int 1))) (aCons (mC (.int 0)) (aCons (m1 (vFld 0) (mVar 0)) aNil))))))) (sRet (mC (.bl false))) sSkip) (sRet (m2 (vCmp .In) (mVar 2) (mCall 2 f_deeds_of (aCons (mVar 0) (aCons (mVar 1) aNil)))))))
def f_is_deed : Fn := fnM 3 b_f_is_deed
theorem sc_f_is_deed : FnScope ["ring", "state", "thing"] ["ring", "state", "thing"] (defScope (top 25)) := ⟨rfl, rfl, rfl, by decide +kernel, rfl, by decide +kernel, by decide +kernel⟩
theorem ok_f_is_deed {P : Program} {w : World} {K : PySem.W.Frag} {mg : Str → Option Value} {base : Heap} (C : Ct FX w K mg base) : FG (FX.tb K w) P w K mg base 2 (He.fAd K ("is_deed", none)) 3 f_is_deed := by
  obtain ⟨fd, F⟩ := C.def_ 7
  exact fg_of (T := FX.tb K w) (N := ["ring", "state", "thing"]) (ps := ["ring", "state", "thing"]) (k := 1) (m := b_f_is_deed) F sc_f_is_deed rfl rfl C.ok (fun cdv A outer s H E hr B => (zC (sI (tW (wOr (tNot' (tV (xIs B (C.free 3) (xV 2) (cvB boot_tuple (C.free 6))))) (wOr (tNot' (tChn B xI (xFnB (cr_len B.K B.w) (C.free 7) boot_len (aC (xV 2) aN)) xI)) (wOr1 (tNot' (tV (xIs B (C.free 3) (xIx B (xV 2) xI) (cvB boot_str (C.free 12))))))))) (z1 (sR xB)) zN) (zC (sI (tW (wAnd (tCmp B (xFnB (cr_len B.K B.w) (C.free 7) boot_len (aC (xV 2) aN)) xI) (wAnd1 (tNot' (tV (xCall (ok_f_is_number C) hr (C.glo 5) (aC (xIx B (xV 2) xI) (aC xI (aC (xF B 0 (xV 0)) aN))))))))) (z1 (sR xB)) zN) (z1 (sR (xCmp B (xV 2) (xCall (ok_f_deeds_of C) hr (C.glo 20) (aC (xV 0) (aC (xV 1) aN))))))))) (fun _ _ _ _ _ _ us hl => match us, hl with | [_, _, _], _ => rfl)
def b_m_Log_o_init_o : MS := (sSeq (sAsg (mVar 1) (gAttr 6 (mVar 0))) (sSeq (sAsg (mVar 2) (gTupM 3 (gsCons (gAttr 9 (mVar 0)) (gsCons (gAttr 10 (mVar 0)) (gsCons (gN 3) gsNil))))) (sSeq (sAsg (mVar 3) (gTupM 3 (gsCons (gAttr 13 (mVar 0)) (gsCons (gAttr 11 (mVar 0)) (gsCons (gAttr 12 (mVar 0)) gsNil))))) (sSeq (sAsg (mC .non) (gAttr 7 (mVar 0))) (sAsg mDict0 (gAttr 8 (mVar 0)))))))
def m_Log_o_init_o : Fn := fnM 4 b_m_Log_o_init_o
theorem sc_m_Log_o_init_o : FnScope ["self", "ring", "state", "reader"] ["self", "ring", "state"] (defScope (mth 21 0)) := ⟨rfl, rfl, rfl, by decide +kernel, rfl, by decide +kernel, by decide +kernel⟩
theorem ok_m_Log_o_init_o {P : Program} {w : World} {K : PySem.W.Frag} {mg : Str → Option Value} {base : Heap} (C : Ct FX w K mg base) : FG (FX.tb K w) P w K mg base 1 (He.fAd K ("Log", some "__init__")) 3 m_Log_o_init_o := by
  obtain ⟨fd, F⟩ := C.def_ 8
  exact fg_of (T := FX.tb K w) (N := ["self", "ring", "state", "reader"]) (ps := ["self", "ring", "state"]) (k := 0) (m := b_m_Log_o_init_o) F sc_m_Log_o_init_o rfl rfl C.ok (fun cdv A outer s H E hr B => (zC (sA (xV 1) (gAt B 6 (xV 0))) (zC (sA (xV 2) (gTp B (gCs (gAt B 9 (xV 0)) (gCs (gAt B 10 (xV 0)) (gCs (gNm B 3) gNs))))) (zC (sA (xV 3) (gTp B (gCs (gAt B 13 (xV 0)) (gCs (gAt B 11 (xV 0)) (gCs (gAt B 12 (xV 0)) gNs))))) (zC (sA xN (gAt B 7 (xV 0))) (z1 (sA x_dict0 (gAt B 8 (xV 0))))))))) (fun _ _ _ _ _ _ us hl => match us, hl with | [_, _, _], _ => rfl)
def b_m_Log_begin : MS := (sSeq (sAsg (mFn (f1 bTup) (aCons (mLc (iAny (m1 (vFld 9) (mVar 0))) (.nm 2) mYes (mIf (mB (m2 (vCmp .Is) (mVar 2) (mC .non))) (mVar 2) (mTup (aCons (m2 (vBin .Add) (m2 vIdx (mVar 2) (mC (.int 0))) (mC (.int 1))) (aCons (m2 vIdx (mVar 2) (mC (.int 1))) (aCons (m2 vIdx (mVar 2) (mC (.int 2))) aNil))))) [2]) aNil)) (gAttr 9 (mVar 0))) (sSeq (sAsg (mTup (aCons (mVar 1) (aCons (mC (.int 0)) aNil))) (gAttr 10 (mVar 0))) (sSeq (sAsg (mFn (f2 bMin) (aCons (m2 (vBin .Add) (m1 (vFld 11) (mVar 0)) (mC (.int 1))) (aCons (m2 (vBin .Add) (m1 (vFld 0) (m1 (vFld 6) (mVar 0))) (mC (.int 2))) aNil))) (gAttr 11 (mVar 0))) (sAsg (m2 (vBin .Mod) (m2 (vBin .Sub) (m2 (vBin .Add) (m1 (vFld 12) (mVar 0)) (m1 (vFld 2) (m1 (vFld 6) (mVar 0)))) (mC (.int 1))) (m1 (vFld 2) (m1 (vFld 6) (mVar 0)))) (gAttr 12 (mVar 0))))))
def m_Log_begin : Fn := fnM 3 b_m_Log_begin
theorem sc_m_Log_begin : FnScope ["self", "length", "cell"] ["self", "length"] (defScope (mth 21 3)) := ⟨rfl, rfl, rfl, by decide +kernel, rfl, by decide +kernel, by decide +kernel⟩
theorem ok_m_Log_begin {P : Program} {w : World} {K : PySem.W.Frag} {mg : Str → Option Value} {base : Heap} (C : Ct FX w K mg base) : FG (FX.tb K w) P w K mg base 1 (He.fAd K ("Log", some "begin")) 2 m_Log_begin := by
  obtain ⟨fd, F⟩ := C.def_ 9
  exact fg_of (T := FX.tb K w) (N := ["self", "length", "cell"]) (ps := ["self", "length"]) (k := 0) (m := b_m_Log_begin) F sc_m_Log_begin rfl rfl C.ok (fun cdv A outer s H E hr B => (zC (sA (xFnT (cr_tup B.K) (C.free 6) boot_tuple (aC (xLc B (own := [("cell", 2)]) (iA B (xF B 9 (xV 0))) rfl (fun _ _ _ _ _ => ⟨(tgN B.blk 2), yN, (xIf (tCmp B.blk (xV 2) xN) (xV 2) (xTup (aC (xOp B.blk (xIx B.blk (xV 2) xI) xI) (aC (xIx B.blk (xV 2) xI) (aC (xIx B.blk (xV 2) xI) aN)))))⟩)) aN)) (gAt B 9 (xV 0))) (zC (sA (xTup (aC (xV 1) (aC xI aN))) (gAt B 10 (xV 0))) (zC (sA (xFnB (cr_min2 B.calm) (C.free 8) boot_min (aC (xOp B (xF B 11 (xV 0)) xI) (aC (xOp B (xF B 0 (xF B 6 (xV 0))) xI) aN))) (gAt B 11 (xV 0))) (z1 (sA (xOp B (xOp B (xOp B (xF B 12 (xV 0)) (xF B 2 (xF B 6 (xV 0)))) xI) (xF B 2 (xF B 6 (xV 0)))) (gAt B 12 (xV 0)))))))) (fun _ _ _ _ _ _ us hl => match us, hl with | [_, _], _ => rfl)
def b_m_Log_put : MS := (sSeq (sAsg (m1 (vFld 10) (mVar 0)) (gTupM 2 (gsCons (gN 1) (gsCons (gN 2) gsNil)))) (sSeq (sAsg (mIf (mB (m2 (vCmp .Eq) (m1 (vFld 3) (m1 (vFld 6) (mVar 0))) (mC (.str "first")))) (mVar 2) (m2 (vBin .Mod) (m2 (vBin .Add) (mVar 2) (mC (.int 1))) (mVar 1))) (gN 3)) (sSeq (sAsg (mTup (aStar (mSl (m1 (vFld 9) (mVar 0)) oNone (oSome (mVar 3))) (aCons (mTup (aCons (mC (.int 0)) (aCons (mVar 3) (aCons (mVar 1) aNil)))) (aStar (mSl (m1 (vFld 9) (mVar 0)) (oSome (m2 (vBin .Add) (mVar 3) (mC (.int 1)))) oNone) aNil)))) (gAttr 9 (mVar 0))) (sSeq (sAsg (mTup (aCons (mVar 1) (aCons (m2 (vBin .Add) (mVar 2) (mC (.int 1))) aNil))) (gAttr 10 (mVar 0))) (sIf (mB (m2 (vCmp .Eq) (m2 (vBin .Add) (mVar 2) (mC (.int 1))) (mVar 1))) (sSeq (sAsg (mC .non) (gAttr 10 (mVar 0))) (sSeq (sAsg (mTup (aStar (mSl (m1 (vFld 9) (mVar 0)) (oSome (mVar 1)) oNone) (aStar (mSl (m1 (vFld 9) (mVar 0)) oNone (oSome (mVar 1))) aNil))) (gAttr 9 (mVar 0))) (sAsg (m2 (vBin .Mod) (m2 (vBin .Sub) (m2 (vBin .Add) (m1 (vFld 13) (mVar 0)) (m1 (vFld 0) (m1 (vFld 6) (mVar 0)))) (mVar 1)) (m1 (vFld 0) (m1 (vFld 6) (mVar 0)))) (gAttr 13 (mVar 0))))) sSkip)))))
def m_Log_put : Fn := fnM 4 b_m_Log_put
theorem sc_m_Log_put : FnScope ["self", "length", "many", "index"] ["self"] (defScope (mth 21 4)) := ⟨rfl, rfl, rfl, by decide +kernel, rfl, by decide +kernel, by decide +kernel⟩
theorem ok_m_Log_put {P : Program} {w : World} {K : PySem.W.Frag} {mg : Str → Option Value} {base : Heap} (C : Ct FX w K mg base) : FG (FX.tb K w) P w K mg base 1 (He.fAd K ("Log", some "put")) 1 m_Log_put := by
  obtain ⟨fd, F⟩ := C.def_ 10
  exact fg_of (T := FX.tb K w) (N := ["self", "length", "many", "index"]) (ps := ["self"]) (k := 0) (m := b_m_Log_put) F sc_m_Log_put rfl rfl C.ok (fun cdv A outer s H E hr B => (zC (sA (xF B 10 (xV 0)) (gTp B (gCs (gNm B 1) (gCs (gNm B 2) gNs)))) (zC (sA (xIf (tCmp B (xF B 3 (xF B 6 (xV 0))) xS) (xV 2) (xOp B (xOp B (xV 2) xI) (xV 1))) (gNm B 3)) (zC (sA (xTup (aS B (xSl B (xF B 9 (xV 0)) oN (oS (xV 3))) (aC (xTup (aC xI (aC (xV 3) (aC (xV 1) aN)))) (aS B (xSl B (xF B 9 (xV 0)) (oS (xOp B (xV 3) xI)) oN) aN)))) (gAt B 9 (xV 0))) (zC (sA (xTup (aC (xV 1) (aC (xOp B (xV 2) xI) aN))) (gAt B 10 (xV 0))) (z1 (sI (tCmp B (xOp B (xV 2) xI) (xV 1)) (zC (sA xN (gAt B 10 (xV 0))) (zC (sA (xTup (aS B (xSl B (xF B 9 (xV 0)) (oS (xV 1)) oN) (aS B (xSl B (xF B 9 (xV 0)) oN (oS (xV 1))) aN))) (gAt B 9 (xV 0))) (z1 (sA (xOp B (xOp B (xOp B (xF B 13 (xV 0)) (xF B 0 (xF B 6 (xV 0)))) (xV 1)) (xF B 0 (xF B 6 (xV 0)))) (gAt B 13 (xV 0)))))) zN))))))) (fun _ _ _ _ _ _ us hl => match us, hl with | [_], _ => rfl)
def b_m_Log_catch_up : MS := (sSeq (sAsg (mC (.int 0)) (gAttr 13 (mVar 0))) (sSeq (sAsg (mIf (mB (m2 (vCmp .Is) (m1 (vFld 10) (mVar 0)) (mC .non))) (mC (.int 0)) (mC (.int 1))) (gAttr 11 (mVar 0))) (sAsg (mIf (mB (m2 (vCmp .Is) (m1 (vFld 10) (mVar 0)) (mC .non))) (m2 (vBin .Mod) (mC (.int 1)) (m1 (vFld 2) (m1 (vFld 6) (mVar 0)))) (mC (.int 0))) (gAttr 12 (mVar 0)))))
def m_Log_catch_up : Fn := fnM 1 b_m_Log_catch_up
theorem sc_m_Log_catch_up : FnScope ["self"] ["self"] (defScope (mth 21 5)) := ⟨rfl, rfl, rfl, by decide +kernel, rfl, by decide +kernel, by decide +kernel⟩
theorem ok_m_Log_catch_up {P : Program} {w : World} {K : PySem.W.Frag} {mg : Str → Option Value} {base : Heap} (C : Ct FX w K mg base) : FG (FX.tb K w) P w K mg base 1 (He.fAd K ("Log", some "catch_up")) 1 m_Log_catch_up := by
  obtain ⟨fd, F⟩ := C.def_ 11
  exact fg_of (T := FX.tb K w) (N := ["self"]) (ps := ["self"]) (k := 0) (m := b_m_Log_catch_up) F sc_m_Log_catch_up rfl rfl C.ok (fun cdv A outer s H E hr B => (zC (sA xI (gAt B 13 (xV 0))) (zC (sA (xIf (tCmp B (xF B 10 (xV 0)) xN) xI xI) (gAt B 11 (xV 0))) (z1 (sA (xIf (tCmp B (xF B 10 (xV 0)) xN) (xOp B xI (xF B 2 (xF B 6 (xV 0)))) xI) (gAt B 12 (xV 0))))))) (fun _ _ _ _ _ _ us hl => match us, hl with | [_], _ => rfl)
def b_m_Log_looked_at : MS := (sSeq (sAsg (mTup (aStar (m1 (vFld 9) (mVar 0)) (aStar (m1 (vFld 9) (mVar 0)) aNil))) (gN 2)) (sRet (mSl (mVar 2) (oSome (m1 (vFld 13) (mVar 0))) (oSome (m2 (vBin .Add) (m1 (vFld 13) (mVar 0)) (mVar 1))))))
def m_Log_looked_at : Fn := fnM 3 b_m_Log_looked_at
theorem sc_m_Log_looked_at : FnScope ["self", "length", "round_cells"] ["self", "length"] (defScope (mth 21 6)) := ⟨rfl, rfl, rfl, by decide +kernel, rfl, by decide +kernel, by decide +kernel⟩
theorem ok_m_Log_looked_at {P : Program} {w : World} {K : PySem.W.Frag} {mg : Str → Option Value} {base : Heap} (C : Ct FX w K mg base) : FG (FX.tb K w) P w K mg base 1 (He.fAd K ("Log", some "looked_at")) 2 m_Log_looked_at := by
  obtain ⟨fd, F⟩ := C.def_ 12
  exact fg_of (T := FX.tb K w) (N := ["self", "length", "round_cells"]) (ps := ["self", "length"]) (k := 0) (m := b_m_Log_looked_at) F sc_m_Log_looked_at rfl rfl C.ok (fun cdv A outer s H E hr B => (zC (sA (xTup (aS B (xF B 9 (xV 0)) (aS B (xF B 9 (xV 0)) aN))) (gNm B 2)) (z1 (sR (xSl B (xV 2) (oS (xF B 13 (xV 0))) (oS (xOp B (xF B 13 (xV 0)) (xV 1)))))))) (fun _ _ _ _ _ _ us hl => match us, hl with | [_, _], _ => rfl)
def b_m_Log_mark_of : MS := (sRet (m2 (vBin .Mod) (m2 (vBin .Sub) (m1 (vFld 2) (m1 (vFld 6) (mVar 0))) (m2 (vBin .Mod) (mVar 1) (m1 (vFld 2) (m1 (vFld 6) (mVar 0))))) (m1 (vFld 2) (m1 (vFld 6) (mVar 0)))))
def m_Log_mark_of : Fn := fnM 2 b_m_Log_mark_of
theorem sc_m_Log_mark_of : FnScope ["self", "age"] ["self", "age"] (defScope (mth 21 2)) := ⟨rfl, rfl, rfl, by decide +kernel, rfl, by decide +kernel, by decide +kernel⟩
theorem ok_m_Log_mark_of {P : Program} {w : World} {K : PySem.W.Frag} {mg : Str → Option Value} {base : Heap} (C : Ct FX w K mg base) : FG (FX.tb K w) P w K mg base 1 (He.fAd K ("Log", some "mark_of")) 2 m_Log_mark_of := by
  obtain ⟨fd, F⟩ := C.def_ 13
  exact fg_of (T := FX.tb K w) (N := ["self", "age"]) (ps := ["self", "age"]) (k := 0) (m := b_m_Log_mark_of) F sc_m_Log_mark_of rfl rfl C.ok (fun cdv A outer s H E hr B => (z1 (sR (xOp B (xOp B (xF B 2 (xF B 6 (xV 0))) (xOp B (xV 1) (xF B 2 (xF B 6 (xV 0))))) (xF B 2 (xF B 6 (xV 0))))))) (fun _ _ _ _ _ _ us hl => match us, hl with | [_, _], _ => rfl)
def b_m_Log_does_fail : MS := (sSeq (sIf (mB (m2 (vCmp .Eq) (m1 (vFld 4) (m1 (vFld 6) (mVar 0))) (mC (.str "none")))) (sRet (mC (.bl false))) sSkip) (sSeq (sAsg (mIf (mB (m2 (vCmp .Eq) (m1 (vFld 4) (m1 (vFld 6) (mVar 0))) (mC (.str "ends")))) (mSl (mVar 1) (oSome (m1 vNeg (mC (.int 1)))) oNone) (mVar 1)) (gN 2)) (sSeq (sAsg (mMeth [(1, 2, m_Log_mark_of)] (mVar 0) (aCons (m2 vIdx (m2 vIdx (mVar 1) (mC (.int 0))) (mC (.int 0))) aNil)) (gN 3)) (sRet (mFn (f1 bAny) (aCons (mLc (iAny (mVar 2)) (.nm 4) mYes (mOrV (m2 (vCmp .Is) (mVar 4) (mC .non)) (m2 (vCmp .NotEq) (mMeth [(1, 2, m_Log_mark_of)] (mVar 0) (aCons (m2 vIdx (mVar 4) (mC (.int 0))) aNil)) (mVar 3))) [4]) aNil))))))
def m_Log_does_fail : Fn := fnM 5 b_m_Log_does_fail
theorem sc_m_Log_does_fail : FnScope ["self", "some", "late", "mark", "cell"] ["self", "some"] (defScope (mth 21 7)) := ⟨rfl, rfl, rfl, by decide +kernel, rfl, by decide +kernel, by decide +kernel⟩
theorem ok_m_Log_does_fail {P : Program} {w : World} {K : PySem.W.Frag} {mg : Str → Option Value} {base : Heap} (C : Ct FX w K mg base) : FG (FX.tb K w) P w K mg base 2 (He.fAd K ("Log", some "does_fail")) 2 m_Log_does_fail := by
  obtain ⟨fd, F⟩ := C.def_ 14
  exact fg_of (T := FX.tb K w) (N := ["self", "some", "late", "mark", "cell"]) (ps := ["self", "some"]) (k := 1) (m := b_m_Log_does_fail) F sc_m_Log_does_fail rfl rfl C.ok (fun cdv A outer s H E hr B => (zC (sI (tCmp B (xF B 4 (xF B 6 (xV 0))) xS) (z1 (sR xB)) zN) (zC (sA (xIf (tCmp B (xF B 4 (xF B 6 (xV 0))) xS) (xSl B (xV 1) (oS (xNeg xI)) oN) (xV 1)) (gNm B 2)) (zC (sA (xMeth B (show ("mark_of" : Str) ∉ FX.fn by decide +kernel) (mt_cons (y := "Log") rfl (C.meth 28) (ok_m_Log_mark_of C) hr (by decide) mt_nil) (xV 0) (aC (xIx B (xIx B (xV 1) xI) xI) aN)) (gNm B 3)) (z1 (sR (xFnB (cr_anyL B.K B.calm) (C.free 29) boot_any (aC (xLc B (own := [("cell", 4)]) (iA B (xV 2)) rfl (fun _ _ _ _ _ => ⟨(tgN B.blk 4), yN, (xOr (xCmp B.blk (xV 4) xN) (xOne (xCmp B.blk (xMeth B.blk (show ("mark_of" : Str) ∉ FX.fn by decide +kernel) (mt_cons (y := "Log") rfl (C.meth 28) (ok_m_Log_mark_of C) hr (by decide) mt_nil) (xV 0) (aC (xIx B.blk (xV 4) xI) aN)) (xV 3))))⟩)) aN)))))))) (fun _ _ _ _ _ _ us hl => match us, hl with | [_, _], _ => rfl)
def b_m_Log_take : MS := (sSeq (sAsg (mC (.str "taken")) (gAttr 7 (mVar 0))) (sSeq (sIf (mB (m2 (vCmp .NotEq) (mVar 2) (mFn (f1 bTup) (aCons (mLc (iRange1 (aCons (m2 vIdx (mVar 1) (mC (.int 2))) aNil)) (.nm 3) mYes (mTup (aCons (m2 vIdx (mVar 1) (mC (.int 0))) (aCons (mVar 3) (aCons (m2 vIdx (mVar 1) (mC (.int 2))) aNil)))) [3]) aNil)))) (sAsg (mC (.bl true)) (gSubM (m1 (vFld 8) (mVar 0)) (mC (.str "whole")))) sSkip) (sSeq (sIf (mB (m2 (vCmp .NotEq) (m2 (vBin .Add) (m2 vIdx (mVar 1) (mC (.int 0))) (mC (.int 1))) (m1 (vFld 11) (mVar 0)))) (sAsg (mC (.bl true)) (gSubM (m1 (vFld 8) (mVar 0)) (mC (.str "next")))) sSkip) (sSeq (sAsg (m2 (vBin .Mod) (m2 (vBin .Add) (m1 (vFld 13) (mVar 0)) (m2 vIdx (mVar 1) (mC (.int 2)))) (m1 (vFld 0) (m1 (vFld 6) (mVar 0)))) (gAttr 13 (mVar 0))) (sSeq (sAsg (m2 vIdx (mVar 1) (mC (.int 0))) (gAttr 11 (mVar 0))) (sAsg (m2 (vBin .Mod) (m2 (vBin .Add) (mMeth [(1, 2, m_Log_mark_of)] (mVar 0) (aCons (m2 vIdx (mVar 1) (mC (.int 0))) aNil)) (mC (.int 1))) (m1 (vFld 2) (m1 (vFld 6) (mVar 0)))) (gAttr 12 (mVar 0))))))))
def m_Log_take : Fn := fnM 4 b_m_Log_take
theorem sc_m_Log_take : FnScope ["self", "head", "some", "index"] ["self", "head", "some"] (defScope (mth 21 9)) := ⟨rfl, rfl, rfl, by decide +kernel, rfl, by decide +kernel, by decide +kernel⟩
theorem ok_m_Log_take {P : Program} {w : World} {K : PySem.W.Frag} {mg : Str → Option Value} {base : Heap} (C : Ct FX w K mg base) : FG (FX.tb K w) P w K mg base 2 (He.fAd K ("Log", some "take")) 3 m_Log_take := by
  obtain ⟨fd, F⟩ := C.def_ 15
  exact fg_of (T := FX.tb K w) (N := ["self", "head", "some", "index"]) (ps := ["self", "head", "some"]) (k := 1) (m := b_m_Log_take) F sc_m_Log_take rfl rfl C.ok (fun cdv A outer s H E hr B => (zC (sA xS (gAt B 7 (xV 0))) (zC (sI (tCmp B (xV 2) (xFnT (cr_tup B.K) (C.free 6) boot_tuple (aC (xLc B (own := [("index", 3)]) (iR1 (C.free 31) (aC (xIx B (xV 1) xI) aN)) rfl (fun _ _ _ _ _ => ⟨(tgN B.blk 3), yN, (xTup (aC (xIx B.blk (xV 1) xI) (aC (xV 3) (aC (xIx B.blk (xV 1) xI) aN))))⟩)) aN))) (z1 (sA xB (gSb B (xF B 8 (xV 0)) xS))) zN) (zC (sI (tCmp B (xOp B (xIx B (xV 1) xI) xI) (xF B 11 (xV 0))) (z1 (sA xB (gSb B (xF B 8 (xV 0)) xS))) zN) (zC (sA (xOp B (xOp B (xF B 13 (xV 0)) (xIx B (xV 1) xI)) (xF B 0 (xF B 6 (xV 0)))) (gAt B 13 (xV 0))) (zC (sA (xIx B (xV 1) xI) (gAt B 11 (xV 0))) (z1 (sA (xOp B (xOp B (xMeth B (show ("mark_of" : Str) ∉ FX.fn by decide +kernel) (mt_cons (y := "Log") rfl (C.meth 28) (ok_m_Log_mark_of C) hr (by decide) mt_nil) (xV 0) (aC (xIx B (xV 1) xI) aN)) xI) (xF B 2 (xF B 6 (xV 0)))) (gAt B 12 (xV 0)))))))))) (fun _ _ _ _ _ _ us hl => match us, hl with | [_, _, _], _ => rfl)
def b_m_Log_read : MS := (sSeq (sAsg (m2 vIdx (m1 (vFld 9) (mVar 0)) (m1 (vFld 13) (mVar 0))) (gN 1)) (sSeq (sIf (mB (m2 (vCmp .Is) (mVar 1) (mC .non))) (sSeq (sAsg (mC (.str "nothing")) (gAttr 7 (mVar 0))) sRetN) sSkip) (sSeq (sIf (mB (m2 (vCmp .NotEq) (m2 vIdx (mVar 1) (mC (.int 1))) (mC (.int 0)))) (sSeq (sAsg (mC (.str "middle")) (gAttr 7 (mVar 0))) (sSeq (sExpr (mMeth [(1, 1, m_Log_catch_up)] (mVar 0) aNil)) sRetN)) sSkip) (sSeq (sAsg (mMeth [(1, 2, m_Log_looked_at)] (mVar 0) (aCons (m2 vIdx (mVar 1) (mC (.int 2))) aNil)) (gN 2)) (sIf (mB (mMeth [(1, 2, m_Log_does_fail)] (mVar 0) (aCons (mVar 2) aNil))) (sAsg (mC (.str "broken")) (gAttr 7 (mVar 0))) (sIf (mAnd (mB (m2 (vCmp .Eq) (m1 (vFld 5) (m1 (vFld 6) (mVar 0))) (mC (.str "strict")))) (mB (m2 (vCmp .NotEq) (mMeth [(1, 2, m_Log_mark_of)] (mVar 0) (aCons (m2 vIdx (mVar 1) (mC (.int 0))) aNil)) (m1 (vFld 12) (mVar 0))))) (sSeq (sAsg (mC (.str "other")) (gAttr 7 (mVar 0))) (sExpr (mMeth [(1, 1, m_Log_catch_up)] (mVar 0) aNil))) (sExpr (mMeth [(1, 3, m_Log_take)] (mVar 0) (aCons (mVar 1) (aCons (mVar 2) aNil))))))))))
def m_Log_read : Fn := fnM 3 b_m_Log_read
theorem sc_m_Log_read : FnScope ["self", "head", "some"] ["self"] (defScope (mth 21 8)) := ⟨rfl, rfl, rfl, by decide +kernel, rfl, by decide +kernel, by decide +kernel⟩
theorem ok_m_Log_read {P : Program} {w : World} {K : PySem.W.Frag} {mg : Str → Option Value} {base : Heap} (C : Ct FX w K mg base) : FG (FX.tb K w) P w K mg base 3 (He.fAd K ("Log", some "read")) 1 m_Log_read := by
  obtain ⟨fd, F⟩ := C.def_ 16
  exact fg_of (T := FX.tb K w) (N := ["self", "head", "some"]) (ps := ["self"]) (k := 2) (m := b_m_Log_read) F sc_m_Log_read rfl rfl C.ok (fun cdv A outer s H E hr B => (zC (sA (xIx B (xF B 9 (xV 0)) (xF B 13 (xV 0))) (gNm B 1)) (zC (sI (tCmp B (xV 1) xN) (zC (sA xS (gAt B 7 (xV 0))) (z1 sR0)) zN) (zC (sI (tCmp B (xIx B (xV 1) xI) xI) (zC (sA xS (gAt B 7 (xV 0))) (zC (sEx (xMeth0 B (show ("catch_up" : Str) ∉ FX.fn by decide +kernel) (mt_cons (y := "Log") rfl (C.meth 26) (ok_m_Log_catch_up C) hr (by decide) mt_nil) (xV 0))) (z1 sR0))) zN) (zC (sA (xMeth B (show ("looked_at" : Str) ∉ FX.fn by decide +kernel) (mt_cons (y := "Log") rfl (C.meth 27) (ok_m_Log_looked_at C) hr (by decide) mt_nil) (xV 0) (aC (xIx B (xV 1) xI) aN)) (gNm B 2)) (z1 (sI (tV (xMeth B (show ("does_fail" : Str) ∉ FX.fn by decide +kernel) (mt_cons (y := "Log") rfl (C.meth 30) (ok_m_Log_does_fail C) hr (by decide) mt_nil) (xV 0) (aC (xV 2) aN))) (z1 (sA xS (gAt B 7 (xV 0)))) (z1 (sI (tW (wAnd (tCmp B (xF B 5 (xF B 6 (xV 0))) xS) (wAnd1 (tCmp B (xMeth B (show ("mark_of" : Str) ∉ FX.fn by decide +kernel) (mt_cons (y := "Log") rfl (C.meth 28) (ok_m_Log_mark_of C) hr (by decide) mt_nil) (xV 0) (aC (xIx B (xV 1) xI) aN)) (xF B 12 (xV 0)))))) (zC (sA xS (gAt B 7 (xV 0))) (z1 (sEx (xMeth0 B (show ("catch_up" : Str) ∉ FX.fn by decide +kernel) (mt_cons (y := "Log") rfl (C.meth 26) (ok_m_Log_catch_up C) hr (by decide) mt_nil) (xV 0))))) (z1 (sEx (xMeth B (show ("take" : Str) ∉ FX.fn by decide +kernel) (mt_cons (y := "Log") rfl (C.meth 32) (ok_m_Log_take C) hr (by decide) mt_nil) (xV 0) (aC (xV 1) (aC (xV 2) aN)))))))))))))) (fun _ _ _ _ _ _ us hl => match us, hl with | [_], _ => rfl)
def b_m_Log_do : MS := (sIf (mB (m2 (vCmp .Eq) (m2 vIdx (mVar 1) (mC (.int 0))) (mC (.str "begin")))) (sExpr (mMeth [(1, 2, m_Log_begin)] (mVar 0) (aCons (m2 vIdx (mVar 1) (mC (.int 1))) aNil))) (sIf (mB (m2 (vCmp .Eq) (m2 vIdx (mVar 1) (mC (.int 0))) (mC (.str "put")))) (sExpr (mMeth [(1, 1, m_Log_put)] (mVar 0) aNil)) (sExpr (mMeth [(1, 1, m_Log_read)] (mVar 0) aNil))))
def m_Log_do : Fn := fnM 2 b_m_Log_do
theorem sc_m_Log_do : FnScope ["self", "deed"] ["self", "deed"] (defScope (mth 21 10)) := ⟨rfl, rfl, rfl, by decide +kernel, rfl, by decide +kernel, by decide +kernel⟩
theorem ok_m_Log_do {P : Program} {w : World} {K : PySem.W.Frag} {mg : Str → Option Value} {base : Heap} (C : Ct FX w K mg base) : FG (FX.tb K w) P w K mg base 4 (He.fAd K ("Log", some "do")) 2 m_Log_do := by
  obtain ⟨fd, F⟩ := C.def_ 17
  exact fg_of (T := FX.tb K w) (N := ["self", "deed"]) (ps := ["self", "deed"]) (k := 3) (m := b_m_Log_do) F sc_m_Log_do rfl rfl C.ok (fun cdv A outer s H E hr B => (z1 (sI (tCmp B (xIx B (xV 1) xI) xS) (z1 (sEx (xMeth B (show ("begin" : Str) ∉ FX.fn by decide +kernel) (mt_cons (y := "Log") rfl (C.meth 24) (ok_m_Log_begin C) hr (by decide) mt_nil) (xV 0) (aC (xIx B (xV 1) xI) aN)))) (z1 (sI (tCmp B (xIx B (xV 1) xI) xS) (z1 (sEx (xMeth0 B (show ("put" : Str) ∉ FX.fn by decide +kernel) (mt_cons (y := "Log") rfl (C.meth 25) (ok_m_Log_put C) hr (by decide) mt_nil) (xV 0)))) (z1 (sEx (xMeth0 B (show ("read" : Str) ∉ FX.fn by decide +kernel) (mt_cons (y := "Log") rfl (C.meth 33) (ok_m_Log_read C) hr (by decide) mt_nil) (xV 0))))))))) (fun _ _ _ _ _ _ us hl => match us, hl with | [_, _], _ => rfl)
def b_f_done : MS := (sSeq (sAsg (mMake 1 3 m_Log_o_init_o (aCons (mVar 0) (aCons (mVar 1) aNil))) (gN 3)) (sSeq (sExpr (mMeth [(1, 2, m_Log_do)] (mVar 3) (aCons (mVar 2) aNil))) (sRet (mVar 3))))
def f_done : Fn := fnM 4 b_f_done
theorem sc_f_done : FnScope ["ring", "state", "deed", "log"] ["ring", "state", "deed"] (defScope (top 24)) := ⟨rfl, rfl, rfl, by decide +kernel, rfl, by decide +kernel, by decide +kernel⟩
theorem ok_f_done {P : Program} {w : World} {K : PySem.W.Frag} {mg : Str → Option Value} {base : Heap} (C : Ct FX w K mg base) : FG (FX.tb K w) P w K mg base 5 (He.fAd K ("done", none)) 3 f_done := by
  obtain ⟨fd, F⟩ := C.def_ 18
  exact fg_of (T := FX.tb K w) (N := ["ring", "state", "deed", "log"]) (ps := ["ring", "state", "deed"]) (k := 4) (m := b_f_done) F sc_f_done rfl rfl C.ok (fun cdv A outer s H E hr B => (zC (sA (xMake (cc := 1) ⟨rfl, (C.glo 23), C.mkr 22, ok_m_Log_o_init_o C⟩ hr (aC (xV 0) (aC (xV 1) aN))) (gNm B 3)) (zC (sEx (xMeth B (show ("do" : Str) ∉ FX.fn by decide +kernel) (mt_cons (y := "Log") rfl (C.meth 34) (ok_m_Log_do C) hr (by decide) mt_nil) (xV 3) (aC (xV 2) aN))) (z1 (sR (xV 3)))))) (fun _ _ _ _ _ _ us hl => match us, hl with | [_, _, _], _ => rfl)
def b_m_Log_state_now : MS := (sRet (mTup (aCons (m1 (vFld 9) (mVar 0)) (aCons (m1 (vFld 10) (mVar 0)) (aCons (mTup (aCons (m1 (vFld 13) (mVar 0)) (aCons (m1 (vFld 11) (mVar 0)) (aCons (m1 (vFld 12) (mVar 0)) aNil)))) aNil)))))
def m_Log_state_now : Fn := fnM 1 b_m_Log_state_now
theorem sc_m_Log_state_now : FnScope ["self"] ["self"] (defScope (mth 21 1)) := ⟨rfl, rfl, rfl, by decide +kernel, rfl, by decide +kernel, by decide +kernel⟩
theorem ok_m_Log_state_now {P : Program} {w : World} {K : PySem.W.Frag} {mg : Str → Option Value} {base : Heap} (C : Ct FX w K mg base) : FG (FX.tb K w) P w K mg base 1 (He.fAd K ("Log", some "state_now")) 1 m_Log_state_now := by
  obtain ⟨fd, F⟩ := C.def_ 19
  exact fg_of (T := FX.tb K w) (N := ["self"]) (ps := ["self"]) (k := 0) (m := b_m_Log_state_now) F sc_m_Log_state_now rfl rfl C.ok (fun cdv A outer s H E hr B => (z1 (sR (xTup (aC (xF B 9 (xV 0)) (aC (xF B 10 (xV 0)) (aC (xTup (aC (xF B 13 (xV 0)) (aC (xF B 11 (xV 0)) (aC (xF B 12 (xV 0)) aN)))) aN))))))) (fun _ _ _ _ _ _ us hl => match us, hl with | [_], _ => rfl)
def b_f_walked : MS := (sSeq (sAsg (mLst (aCons (mCall 1 f_start_of (aCons (mVar 0) aNil)) aNil)) (gN 2)) (sSeq (sFor (iAny (mVar 1)) (.nm 3) (sSeq (sIf (mNot (mB (mCall 3 f_is_deed (aCons (mVar 0) (aCons (m2 vIdx (mVar 2) (m1 vNeg (mC (.int 1)))) (aCons (mVar 3) aNil)))))) (sRet (mVar 2)) sSkip) (sExpr (mBm lApp (mVar 2) (aCons (mMeth [(1, 1, m_Log_state_now)] (mCall 3 f_done (aCons (mVar 0) (aCons (m2 vIdx (mVar 2) (m1 vNeg (mC (.int 1)))) (aCons (mVar 3) aNil)))) aNil) aNil))))) (sRet (mVar 2))))
def f_walked : Fn := fnM 4 b_f_walked
theorem sc_f_walked : FnScope ["ring", "history", "rows", "deed"] ["ring", "history"] (defScope (top 26)) := ⟨rfl, rfl, rfl, by decide +kernel, rfl, by decide +kernel, by decide +kernel⟩
theorem ok_f_walked {P : Program} {w : World} {K : PySem.W.Frag} {mg : Str → Option Value} {base : Heap} (C : Ct FX w K mg base) : FG (FX.tb K w) P w K mg base 6 (He.fAd K ("walked", none)) 2 f_walked := by
  obtain ⟨fd, F⟩ := C.def_ 20
  exact fg_of (T := FX.tb K w) (N := ["ring", "history", "rows", "deed"]) (ps := ["ring", "history"]) (k := 5) (m := b_f_walked) F sc_f_walked rfl rfl C.ok (fun cdv A outer s H E hr B => (zC (sA (xLst (aC (xCall (ok_f_start_of C) hr (C.glo 19) (aC (xV 0) aN)) aN)) (gNm B 2)) (zC (sF B rfl (iA B (xV 1)) (tgN B 3) (zC (sI (tNot' (tV (xCall (ok_f_is_deed C) hr (C.glo 21) (aC (xV 0) (aC (xIx B (xV 2) (xNeg xI)) (aC (xV 3) aN)))))) (z1 (sR (xV 2))) zN) (z1 (sEx (xBm_append B (xV 2) (aC (xMeth0 B (show ("state_now" : Str) ∉ FX.fn by decide +kernel) (mt_cons (y := "Log") rfl (C.meth 36) (ok_m_Log_state_now C) hr (by decide) mt_nil) (xCall (ok_f_done C) hr (C.glo 35) (aC (xV 0) (aC (xIx B (xV 2) (xNeg xI)) (aC (xV 3) aN))))) aN)))))) (z1 (sR (xV 2)))))) (fun _ _ _ _ _ _ us hl => match us, hl with | [_, _], _ => rfl)
def b_f_check_history : MS := (sSeq (sExpr (mCall 1 f_check_ring (aCons (mVar 0) aNil))) (sSeq (sIf (mNot (mB (m1 (vIsi [4, 5]) (mVar 1)))) sNever sSkip) (sSeq (sAsg (mCall 2 f_walked (aCons (mVar 0) (aCons (mVar 1) aNil))) (gN 2)) (sSeq (sIf (mB (m2 (vCmp .LtE) (mFn (f1 bLen) (aCons (mVar 2) aNil)) (mFn (f1 bLen) (aCons (mVar 1) aNil)))) sNever sSkip) (sRet (mVar 2))))))
def f_check_history : Fn := fnM 3 b_f_check_history
theorem sc_f_check_history : FnScope ["ring", "history", "rows"] ["ring", "history"] (defScope (top 27)) := ⟨rfl, rfl, rfl, by decide +kernel, rfl, by decide +kernel, by decide +kernel⟩
theorem ok_f_check_history {P : Program} {w : World} {K : PySem.W.Frag} {mg : Str → Option Value} {base : Heap} (C : Ct FX w K mg base) : FG (FX.tb K w) P w K mg base 7 (He.fAd K ("check_history", none)) 2 f_check_history := by
  obtain ⟨fd, F⟩ := C.def_ 21
  exact fg_of (T := FX.tb K w) (N := ["ring", "history", "rows"]) (ps := ["ring", "history"]) (k := 6) (m := b_f_check_history) F sc_f_check_history rfl rfl C.ok (fun cdv A outer s H E hr B => (zC (sEx (xCall (ok_f_check_ring C) hr (C.glo 17) (aC (xV 0) aN))) (zC (sI (tNot' (tV (xIs2 B (C.free 3) (xV 1) (cvB boot_list (C.free 18)) (cvB boot_tuple (C.free 6))))) (z1 sNv) zN) (zC (sA (xCall (ok_f_walked C) hr (C.glo 37) (aC (xV 0) (aC (xV 1) aN))) (gNm B 2)) (zC (sI (tCmp B (xFnB (cr_len B.K B.w) (C.free 7) boot_len (aC (xV 2) aN)) (xFnB (cr_len B.K B.w) (C.free 7) boot_len (aC (xV 1) aN))) (z1 sNv) zN) (z1 (sR (xV 2)))))))) (fun _ _ _ _ _ _ us hl => match us, hl with | [_, _], _ => rfl)
def b_f_first_of : MS := (sRet (mTup (aCons (m2 (vBin .Mult) (mTup (aCons (mC .non) aNil)) (m1 (vFld 0) (mVar 0))) (aCons (mC (.int 0)) (aCons (mC (.int 0)) (aCons (mC .non) aNil))))))
def f_first_of : Fn := fnM 1 b_f_first_of
theorem sc_f_first_of : FnScope ["ring"] ["ring"] (defScope (top 29)) := ⟨rfl, rfl, rfl, by decide +kernel, rfl, by decide +kernel, by decide +kernel⟩
theorem ok_f_first_of {P : Program} {w : World} {K : PySem.W.Frag} {mg : Str → Option Value} {base : Heap} (C : Ct FX w K mg base) : FG (FX.tb K w) P w K mg base 1 (He.fAd K ("first_of", none)) 1 f_first_of := by
  obtain ⟨fd, F⟩ := C.def_ 22
  exact fg_of (T := FX.tb K w) (N := ["ring"]) (ps := ["ring"]) (k := 0) (m := b_f_first_of) F sc_f_first_of rfl rfl C.ok (fun cdv A outer s H E hr B => (z1 (sR (xTup (aC (xOp B (xTup (aC xN aN)) (xF B 0 (xV 0))) (aC xI (aC xI (aC xN aN)))))))) (fun _ _ _ _ _ _ us hl => match us, hl with | [_], _ => rfl)
def b_f_with_put : MS := (sSeq (sAsg (mVar 1) (gTupM 4 (gsCons (gN 2) (gsCons (gN 3) (gsCons (gN 4) (gsCons (gN 5) gsNil)))))) (sSeq (sAsg (mVar 5) (gTupM 2 (gsCons (gN 6) (gsCons (gN 7) gsNil)))) (sSeq (sAsg (mIf (mB (m2 (vCmp .Eq) (m1 (vFld 3) (mVar 0)) (mC (.str "first")))) (mVar 7) (m2 (vBin .Mod) (m2 (vBin .Add) (mVar 7) (mC (.int 1))) (mVar 6))) (gN 8)) (sSeq (sAsg (m2 (vBin .Mod) (m2 (vBin .Add) (mVar 3) (mVar 8)) (m1 (vFld 0) (mVar 0))) (gN 9)) (sSeq (sAsg (mTup (aStar (mSl (mVar 2) oNone (oSome (mVar 9))) (aCons (mTup (aCons (mVar 4) (aCons (mVar 8) (aCons (mVar 6) aNil)))) (aStar (mSl (mVar 2) (oSome (m2 (vBin .Add) (mVar 9) (mC (.int 1)))) oNone) aNil)))) (gN 2)) (sSeq (sIf (mB (m2 (vCmp .Lt) (m2 (vBin .Add) (mVar 7) (mC (.int 1))) (mVar 6))) (sRet (mTup (aCons (mVar 2) (aCons (mVar 3) (aCons (mVar 4) (aCons (mTup (aCons (mVar 6) (aCons (m2 (vBin .Add) (mVar 7) (mC (.int 1))) aNil))) aNil)))))) sSkip) (sRet (mTup (aCons (mVar 2) (aCons (m2 (vBin .Mod) (m2 (vBin .Add) (mVar 3) (mVar 6)) (m1 (vFld 0) (mVar 0))) (aCons (m2 (vBin .Mod) (m2 (vBin .Add) (mVar 4) (mC (.int 1))) (m1 (vFld 2) (mVar 0))) (aCons (mC .non) aNil))))))))))))
def f_with_put : Fn := fnM 10 b_f_with_put
theorem sc_f_with_put : FnScope ["ring", "standing", "picture", "start", "mark", "writer", "length", "many", "index", "at"] ["ring", "standing"] (defScope (top 30)) := ⟨rfl, rfl, rfl, by decide +kernel, rfl, by decide +kernel, by decide +kernel⟩
theorem ok_f_with_put {P : Program} {w : World} {K : PySem.W.Frag} {mg : Str → Option Value} {base : Heap} (C : Ct FX w K mg base) : FG (FX.tb K w) P w K mg base 1 (He.fAd K ("with_put", none)) 2 f_with_put := by
  obtain ⟨fd, F⟩ := C.def_ 23
  exact fg_of (T := FX.tb K w) (N := ["ring", "standing", "picture", "start", "mark", "writer", "length", "many", "index", "at"]) (ps := ["ring", "standing"]) (k := 0) (m := b_f_with_put) F sc_f_with_put rfl rfl C.ok (fun cdv A outer s H E hr B => (zC (sA (xV 1) (gTp B (gCs (gNm B 2) (gCs (gNm B 3) (gCs (gNm B 4) (gCs (gNm B 5) gNs)))))) (zC (sA (xV 5) (gTp B (gCs (gNm B 6) (gCs (gNm B 7) gNs)))) (zC (sA (xIf (tCmp B (xF B 3 (xV 0)) xS) (xV 7) (xOp B (xOp B (xV 7) xI) (xV 6))) (gNm B 8)) (zC (sA (xOp B (xOp B (xV 3) (xV 8)) (xF B 0 (xV 0))) (gNm B 9)) (zC (sA (xTup (aS B (xSl B (xV 2) oN (oS (xV 9))) (aC (xTup (aC (xV 4) (aC (xV 8) (aC (xV 6) aN)))) (aS B (xSl B (xV 2) (oS (xOp B (xV 9) xI)) oN) aN)))) (gNm B 2)) (zC (sI (tCmp B (xOp B (xV 7) xI) (xV 6)) (z1 (sR (xTup (aC (xV 2) (aC (xV 3) (aC (xV 4) (aC (xTup (aC (xV 6) (aC (xOp B (xV 7) xI) aN))) aN))))))) zN) (z1 (sR (xTup (aC (xV 2) (aC (xOp B (xOp B (xV 3) (xV 6)) (xF B 0 (xV 0))) (aC (xOp B (xOp B (xV 4) xI) (xF B 2 (xV 0))) (aC xN aN)))))))))))))) (fun _ _ _ _ _ _ us hl => match us, hl with | [_, _], _ => rfl)
def b_f_behind : MS := (sSeq (sIf (mB (m2 (vCmp .Eq) (m2 vIdx (mVar 2) (mC (.int 0))) (mC (.str "begin")))) (sRet (mTup (aStar (mSl (mVar 1) oNone (oSome (mC (.int 3)))) (aCons (mTup (aCons (m2 vIdx (mVar 2) (mC (.int 1))) (aCons (mC (.int 0)) aNil))) aNil)))) sSkip) (sRet (mIf (mB (m2 (vCmp .Eq) (m2 vIdx (mVar 2) (mC (.int 0))) (mC (.str "put")))) (mCall 2 f_with_put (aCons (mVar 0) (aCons (mVar 1) aNil))) (mVar 1))))
def f_behind : Fn := fnM 3 b_f_behind
theorem sc_f_behind : FnScope ["ring", "standing", "deed"] ["ring", "standing", "deed"] (defScope (top 31)) := ⟨rfl, rfl, rfl, by decide +kernel, rfl, by decide +kernel, by decide +kernel⟩
theorem ok_f_behind {P : Program} {w : World} {K : PySem.W.Frag} {mg : Str → Option Value} {base : Heap} (C : Ct FX w K mg base) : FG (FX.tb K w) P w K mg base 2 (He.fAd K ("behind", none)) 3 f_behind := by
  obtain ⟨fd, F⟩ := C.def_ 24
  exact fg_of (T := FX.tb K w) (N := ["ring", "standing", "deed"]) (ps := ["ring", "standing", "deed"]) (k := 1) (m := b_f_behind) F sc_f_behind rfl rfl C.ok (fun cdv A outer s H E hr B => (zC (sI (tCmp B (xIx B (xV 2) xI) xS) (z1 (sR (xTup (aS B (xSl B (xV 1) oN (oS xI)) (aC (xTup (aC (xIx B (xV 2) xI) (aC xI aN))) aN))))) zN) (z1 (sR (xIf (tCmp B (xIx B (xV 2) xI) xS) (xCall (ok_f_with_put C) hr (C.glo 40) (aC (xV 0) (aC (xV 1) aN))) (xV 1)))))) (fun _ _ _ _ _ _ us hl => match us, hl with | [_, _, _], _ => rfl)
def b_f_stood : MS := (sSeq (sIf (mB (m2 (vCmp .LtE) (mFn (f1 bLen) (aCons (mCall 2 f_walked (aCons (mVar 0) (aCons (mVar 1) aNil))) aNil)) (mFn (f1 bLen) (aCons (mVar 1) aNil)))) (sRet (mC .non)) sSkip) (sSeq (sAsg (mCall 1 f_first_of (aCons (mVar 0) aNil)) (gN 2)) (sSeq (sFor (iAny (mVar 1)) (.nm 3) (sAsg (mCall 3 f_behind (aCons (mVar 0) (aCons (mVar 2) (aCons (mVar 3) aNil)))) (gN 2))) (sRet (mVar 2)))))
def f_stood : Fn := fnM 4 b_f_stood
theorem sc_f_stood : FnScope ["ring", "history", "standing", "deed"] ["ring", "history"] (defScope (top 35)) := ⟨rfl, rfl, rfl, by decide +kernel, rfl, by decide +kernel, by decide +kernel⟩
theorem ok_f_stood {P : Program} {w : World} {K : PySem.W.Frag} {mg : Str → Option Value} {base : Heap} (C : Ct FX w K mg base) : FG (FX.tb K w) P w K mg base 7 (He.fAd K ("stood", none)) 2 f_stood := by
  obtain ⟨fd, F⟩ := C.def_ 25
  exact fg_of (T := FX.tb K w) (N := ["ring", "history", "standing", "deed"]) (ps := ["ring", "history"]) (k := 6) (m := b_f_stood) F sc_f_stood rfl rfl C.ok (fun cdv A outer s H E hr B => (zC (sI (tCmp B (xFnB (cr_len B.K B.w) (C.free 7) boot_len (aC (xCall (ok_f_walked C) hr (C.glo 37) (aC (xV 0) (aC (xV 1) aN))) aN)) (xFnB (cr_len B.K B.w) (C.free 7) boot_len (aC (xV 1) aN))) (z1 (sR xN)) zN) (zC (sA (xCall (ok_f_first_of C) hr (C.glo 39) (aC (xV 0) aN)) (gNm B 2)) (zC (sF B rfl (iA B (xV 1)) (tgN B 3) (z1 (sA (xCall (ok_f_behind C) hr (C.glo 41) (aC (xV 0) (aC (xV 2) (aC (xV 3) aN)))) (gNm B 2)))) (z1 (sR (xV 2))))))) (fun _ _ _ _ _ _ us hl => match us, hl with | [_, _], _ => rfl)
def b_f_standing_after : MS := (sSeq (sExpr (mCall 2 f_check_history (aCons (mVar 0) (aCons (mVar 1) aNil)))) (sRet (mCall 2 f_stood (aCons (mVar 0) (aCons (mVar 1) aNil)))))
def f_standing_after : Fn := fnM 2 b_f_standing_after
theorem sc_f_standing_after : FnScope ["ring", "history"] ["ring", "history"] (defScope (top 45)) := ⟨rfl, rfl, rfl, by decide +kernel, rfl, by decide +kernel, by decide +kernel⟩
theorem ok_f_standing_after {P : Program} {w : World} {K : PySem.W.Frag} {mg : Str → Option Value} {base : Heap} (C : Ct FX w K mg base) : FG (FX.tb K w) P w K mg base 8 (He.fAd K ("standing_after", none)) 2 f_standing_after := by
  obtain ⟨fd, F⟩ := C.def_ 26
  exact fg_of (T := FX.tb K w) (N := ["ring", "history"]) (ps := ["ring", "history"]) (k := 7) (m := b_f_standing_after) F sc_f_standing_after rfl rfl C.ok (fun cdv A outer s H E hr B => (zC (sEx (xCall (ok_f_check_history C) hr (C.glo 38) (aC (xV 0) (aC (xV 1) aN)))) (z1 (sR (xCall (ok_f_stood C) hr (C.glo 42) (aC (xV 0) (aC (xV 1) aN))))))) (fun _ _ _ _ _ _ us hl => match us, hl with | [_, _], _ => rfl)
def b_f_is_cell : MS := (sSeq (sIf (mB (m2 (vCmp .Is) (mVar 1) (mC .non))) (sRet (mC (.bl true))) sSkip) (sSeq (sIf (mOr (mNot (mB (m1 (vIsi [5]) (mVar 1)))) (mOr (mB (m2 (vCmp .NotEq) (mFn (f1 bLen) (aCons (mVar 1) aNil)) (mC (.int 3)))) (mNot (mB (mCall 3 f_is_number (aCons (m2 vIdx (mVar 1) (mC (.int 0))) (aCons (mC (.int 0)) (aCons (m2 (vBin .Sub) (m1 (vFld 2) (mVar 0)) (mC (.int 1))) aNil)))))))) (sRet (mC (.bl false))) sSkip) (sSeq (sIf (mOr (mNot (mB (mCall 3 f_is_number (aCons (m2 vIdx (mVar 1) (mC (.int 2))) (aCons (mC (.int 1)) (aCons (m1 (vFld 0) (mVar 0)) aNil)))))) (mB (m2 (vCmp .NotIn) (m2 vIdx (mVar 1) (mC (.int 2))) (m1 (vFld 1) (mVar 0))))) (sRet (mC (.bl false))) sSkip) (sRet (mCall 3 f_is_number (aCons (m2 vIdx (mVar 1) (mC (.int 1))) (aCons (mC (.int 0)) (aCons (m2 (vBin .Sub) (m2 vIdx (mVar 1) (mC (.int 2))) (mC (.int 1))) aNil))))))))
def f_is_cell : Fn := fnM 2 b_f_is_cell
theorem sc_f_is_cell : FnScope ["ring", "thing"] ["ring", "thing"] (defScope (top 36)) := ⟨rfl, rfl, rfl, by decide +kernel, rfl, by decide +kernel, by decide +kernel⟩
theorem ok_f_is_cell {P : Program} {w : World} {K : PySem.W.Frag} {mg : Str → Option Value} {base : Heap} (C : Ct FX w K mg base) : FG (FX.tb K w) P w K mg base 2 (He.fAd K ("is_cell", none)) 2 f_is_cell := by
  obtain ⟨fd, F⟩ := C.def_ 27
  exact fg_of (T := FX.tb K w) (N := ["ring", "thing"]) (ps := ["ring", "thing"]) (k := 1) (m := b_f_is_cell) F sc_f_is_cell rfl rfl C.ok (fun cdv A outer s H E hr B => (zC (sI (tCmp B (xV 1) xN) (z1 (sR xB)) zN) (zC (sI (tW (wOr (tNot' (tV (xIs B (C.free 3) (xV 1) (cvB boot_tuple (C.free 6))))) (wOr (tCmp B (xFnB (cr_len B.K B.w) (C.free 7) boot_len (aC (xV 1) aN)) xI) (wOr1 (tNot' (tV (xCall (ok_f_is_number C) hr (C.glo 5) (aC (xIx B (xV 1) xI) (aC xI (aC (xOp B (xF B 2 (xV 0)) xI) aN)))))))))) (z1 (sR xB)) zN) (zC (sI (tW (wOr (tNot' (tV (xCall (ok_f_is_number C) hr (C.glo 5) (aC (xIx B (xV 1) xI) (aC xI (aC (xF B 0 (xV 0)) aN)))))) (wOr1 (tCmp B (xIx B (xV 1) xI) (xF B 1 (xV 0)))))) (z1 (sR xB)) zN) (z1 (sR (xCall (ok_f_is_number C) hr (C.glo 5) (aC (xIx B (xV 1) xI) (aC xI (aC (xOp B (xIx B (xV 1) xI) xI) aN)))))))))) (fun _ _ _ _ _ _ us hl => match us, hl with | [_, _], _ => rfl)
def b_f_check_picture : MS := (sSeq (sExpr (mCall 1 f_check_ring (aCons (mVar 0) aNil))) (sSeq (sIf (mOr (mNot (mB (m1 (vIsi [5]) (mVar 1)))) (mB (m2 (vCmp .NotEq) (mFn (f1 bLen) (aCons (mVar 1) aNil)) (m1 (vFld 0) (mVar 0))))) sNever sSkip) (sIf (mNot (mB (mFn (f1 bAll) (aCons (mLc (iAny (mVar 1)) (.nm 2) mYes (mCall 2 f_is_cell (aCons (mVar 0) (aCons (mVar 2) aNil))) [2]) aNil)))) sNever sSkip)))
def f_check_picture : Fn := fnM 3 b_f_check_picture
theorem sc_f_check_picture : FnScope ["ring", "picture", "cell"] ["ring", "picture"] (defScope (top 37)) := ⟨rfl, rfl, rfl, by decide +kernel, rfl, by decide +kernel, by decide +kernel⟩
theorem ok_f_check_picture {P : Program} {w : World} {K : PySem.W.Frag} {mg : Str → Option Value} {base : Heap} (C : Ct FX w K mg base) : FG (FX.tb K w) P w K mg base 3 (He.fAd K ("check_picture", none)) 2 f_check_picture := by
  obtain ⟨fd, F⟩ := C.def_ 28
  exact fg_of (T := FX.tb K w) (N := ["ring", "picture", "cell"]) (ps := ["ring", "picture"]) (k := 2) (m := b_f_check_picture) F sc_f_check_picture rfl rfl C.ok (fun cdv A outer s H E hr B => (zC (sEx (xCall (ok_f_check_ring C) hr (C.glo 17) (aC (xV 0) aN))) (zC (sI (tW (wOr (tNot' (tV (xIs B (C.free 3) (xV 1) (cvB boot_tuple (C.free 6))))) (wOr1 (tCmp B (xFnB (cr_len B.K B.w) (C.free 7) boot_len (aC (xV 1) aN)) (xF B 0 (xV 0)))))) (z1 sNv) zN) (z1 (sI (tNot' (tV (xFnB (cr_allL B.K B.calm) (C.free 9) boot_all (aC (xLc B (own := [("cell", 2)]) (iA B (xV 1)) rfl (fun _ _ _ _ _ => ⟨(tgN B.blk 2), yN, (xCall (ok_f_is_cell C) hr (C.glo 44) (aC (xV 0) (aC (xV 2) aN)))⟩)) aN)))) (z1 sNv) zN))))) (fun _ _ _ _ _ _ us hl => match us, hl with | [_, _], _ => rfl)
def b_f_writings : MS := (sRet (mIf (mB (m2 (vCmp .Is) (m2 vIdx (mVar 1) (mC (.int 3))) (mC .non))) (mLc (iAny (m1 (vFld 1) (mVar 0))) (.nm 2) mYes (mTup (aCons (mC (.str "begin")) (aCons (mVar 2) aNil))) [2]) (mLst (aCons (mTup (aCons (mC (.str "put")) aNil)) aNil))))
def f_writings : Fn := fnM 3 b_f_writings
theorem sc_f_writings : FnScope ["ring", "standing", "length"] ["ring", "standing"] (defScope (top 32)) := ⟨rfl, rfl, rfl, by decide +kernel, rfl, by decide +kernel, by decide +kernel⟩
theorem ok_f_writings {P : Program} {w : World} {K : PySem.W.Frag} {mg : Str → Option Value} {base : Heap} (C : Ct FX w K mg base) : FG (FX.tb K w) P w K mg base 1 (He.fAd K ("writings", none)) 2 f_writings := by
  obtain ⟨fd, F⟩ := C.def_ 29
  exact fg_of (T := FX.tb K w) (N := ["ring", "standing", "length"]) (ps := ["ring", "standing"]) (k := 0) (m := b_f_writings) F sc_f_writings rfl rfl C.ok (fun cdv A outer s H E hr B => (z1 (sR (xIf (tCmp B (xIx B (xV 1) xI) xN) (xLc B (own := [("length", 2)]) (iA B (xF B 1 (xV 0))) rfl (fun _ _ _ _ _ => ⟨(tgN B.blk 2), yN, (xTup (aC xS (aC (xV 2) aN)))⟩)) (xLst (aC (xTup (aC xS aN)) aN)))))) (fun _ _ _ _ _ _ us hl => match us, hl with | [_, _], _ => rfl)
def b_f_spread : MS := (sSeq (sPar 1 2 (aCons (mDict (pCons (mCall 1 f_first_of (aCons (mVar 0) aNil)) (mTup aNil) pNil)) (aCons (mLst (aCons (mCall 1 f_first_of (aCons (mVar 0) aNil)) aNil)) aNil))) (sSeq (sWhile (mB (m2 (vCmp .NotEq) (mVar 2) (mLst aNil))) (sSeq (sAsg (mBm lPop (mVar 2) (aCons (mC (.int 0)) aNil)) (gN 3)) (sFor (iAny (mCall 2 f_writings (aCons (mVar 0) (aCons (mVar 3) aNil)))) (.nm 4) (sSeq (sAsg (mCall 3 f_behind (aCons (mVar 0) (aCons (mVar 3) (aCons (mVar 4) aNil)))) (gN 5)) (sIf (mB (m2 (vCmp .NotIn) (mVar 5) (mVar 1))) (sSeq (sIf (mB (m2 (vCmp .Eq) (mFn (f1 bLen) (aCons (mVar 1) aNil)) (mC (.int 800)))) sNever sSkip) (sSeq (sAsg (mTup (aStar (m2 vIdx (mVar 1) (mVar 3)) (aCons (mVar 4) aNil))) (gSubM (mVar 1) (mVar 5))) (sExpr (mBm lApp (mVar 2) (aCons (mVar 5) aNil))))) sSkip)))) 100000) (sRet (mVar 1))))
def f_spread : Fn := fnM 6 b_f_spread
theorem sc_f_spread : FnScope ["ring", "known", "line", "standing", "deed", "late"] ["ring"] (defScope (top 33)) := ⟨rfl, rfl, rfl, by decide +kernel, rfl, by decide +kernel, by decide +kernel⟩
theorem ok_f_spread {P : Program} {w : World} {K : PySem.W.Frag} {mg : Str → Option Value} {base : Heap} (C : Ct FX w K mg base) : FG (FX.tb K w) P w K mg base 3 (He.fAd K ("spread", none)) 1 f_spread := by
  obtain ⟨fd, F⟩ := C.def_ 30
  exact fg_of (T := FX.tb K w) (N := ["ring", "known", "line", "standing", "deed", "late"]) (ps := ["ring"]) (k := 2) (m := b_f_spread) F sc_f_spread rfl rfl C.ok (fun cdv A outer s H E hr B => (zC (sP B 1 2 (aC (x_dict B.K B.w B.u (ppm_cons (xCall (ok_f_first_of C) hr (C.glo 39) (aC (xV 0) aN)) (xTup aN) ppm_nil)) (aC (xLst (aC (xCall (ok_f_first_of C) hr (C.glo 39) (aC (xV 0) aN)) aN)) aN))) (zC (sW 100000 rfl (tCmp B (xV 2) (xLst aN)) (zC (sA (xBm_pop B (xV 2) (aC xI aN)) (gNm B 3)) (z1 (sF B rfl (iA B (xCall (ok_f_writings C) hr (C.glo 46) (aC (xV 0) (aC (xV 3) aN)))) (tgN B 4) (zC (sA (xCall (ok_f_behind C) hr (C.glo 41) (aC (xV 0) (aC (xV 3) (aC (xV 4) aN)))) (gNm B 5)) (z1 (sI (tCmp B (xV 5) (xV 1)) (zC (sI (tCmp B (xFnB (cr_len B.K B.w) (C.free 7) boot_len (aC (xV 1) aN)) (xG (C.con 4))) (z1 sNv) zN) (zC (sA (xTup (aS B (xIx B (xV 1) (xV 3)) (aC (xV 4) aN))) (gSb B (xV 1) (xV 5))) (z1 (sEx (xBm_append B (xV 2) (aC (xV 5) aN)))))) zN))))))) (z1 (sR (xV 1)))))) (fun _ _ _ _ _ _ us hl => match us, hl with | [_], _ => rfl)
def b_f_starts_by : MS := (sSeq (sExpr (mCall 2 f_check_picture (aCons (mVar 0) (aCons (mVar 1) aNil)))) (sRet (mFn (f1 bSortD) (aCons (mDc (iAny (mCall 1 f_spread (aCons (mVar 0) aNil))) (.nm 2) (mB (m2 (vCmp .Eq) (m2 vIdx (mVar 2) (mC (.int 0))) (mVar 1))) (mSl (mVar 2) (oSome (mC (.int 1))) (oSome (mC (.int 3)))) (mC (.bl true)) [2]) aNil))))
def f_starts_by : Fn := fnM 3 b_f_starts_by
theorem sc_f_starts_by : FnScope ["ring", "picture", "standing"] ["ring", "picture"] (defScope (top 44)) := ⟨rfl, rfl, rfl, by decide +kernel, rfl, by decide +kernel, by decide +kernel⟩
theorem ok_f_starts_by {P : Program} {w : World} {K : PySem.W.Frag} {mg : Str → Option Value} {base : Heap} (C : Ct FX w K mg base) : FG (FX.tb K w) P w K mg base 4 (He.fAd K ("starts_by", none)) 2 f_starts_by := by
  obtain ⟨fd, F⟩ := C.def_ 31
  exact fg_of (T := FX.tb K w) (N := ["ring", "picture", "standing"]) (ps := ["ring", "picture"]) (k := 3) (m := b_f_starts_by) F sc_f_starts_by rfl rfl C.ok (fun cdv A outer s H E hr B => (zC (sEx (xCall (ok_f_check_picture C) hr (C.glo 45) (aC (xV 0) (aC (xV 1) aN)))) (z1 (sR (xFnB (cr_sortD B.K B.calm) (C.free 48) boot_sorted (aC (xDc B (own := [("standing", 2)]) (iA B (xCall (ok_f_spread C) hr (C.glo 47) (aC (xV 0) aN))) rfl (fun _ _ _ _ _ => ⟨(tgN B.blk 2), (y1 (tCmp B.blk (xIx B.blk (xV 2) xI) (xV 1))), (xSl B.blk (xV 2) (oS xI) (oS xI)), xB⟩)) aN)))))) (fun _ _ _ _ _ _ us hl => match us, hl with | [_, _], _ => rfl)
def b_f_clash_of : MS := (sSeq (sAsg mDict0 (gN 1)) (sSeq (sFor (iAny (mVar 0)) (.nm 2) (sSeq (sAsg (mSetd (mVar 1) (m2 vIdx (mVar 2) (mC (.int 0))) (mVar 2)) (gN 3)) (sIf (mB (m2 (vCmp .NotEq) (mSl (mVar 3) (oSome (mC (.int 1))) (oSome (mC (.int 3)))) (mSl (mVar 2) (oSome (mC (.int 1))) (oSome (mC (.int 3)))))) (sRet (mTup (aCons (mVar 3) (aCons (mVar 2) aNil)))) sSkip))) (sRet (mC .non))))
def f_clash_of : Fn := fnM 4 b_f_clash_of
theorem sc_f_clash_of : FnScope ["standings", "met", "standing", "other"] ["standings"] (defScope (top 34)) := ⟨rfl, rfl, rfl, by decide +kernel, rfl, by decide +kernel, by decide +kernel⟩
theorem ok_f_clash_of {P : Program} {w : World} {K : PySem.W.Frag} {mg : Str → Option Value} {base : Heap} (C : Ct FX w K mg base) : FG (FX.tb K w) P w K mg base 1 (He.fAd K ("clash_of", none)) 1 f_clash_of := by
  obtain ⟨fd, F⟩ := C.def_ 32
  exact fg_of (T := FX.tb K w) (N := ["standings", "met", "standing", "other"]) (ps := ["standings"]) (k := 0) (m := b_f_clash_of) F sc_f_clash_of rfl rfl C.ok (fun cdv A outer s H E hr B => (zC (sA x_dict0 (gNm B 1)) (zC (sF B rfl (iA B (xV 0)) (tgN B 2) (zC (sA (xSetd B (xV 1) (xIx B (xV 2) xI) (xV 2)) (gNm B 3)) (z1 (sI (tCmp B (xSl B (xV 3) (oS xI) (oS xI)) (xSl B (xV 2) (oS xI) (oS xI))) (z1 (sR (xTup (aC (xV 3) (aC (xV 2) aN))))) zN)))) (z1 (sR xN))))) (fun _ _ _ _ _ _ us hl => match us, hl with | [_], _ => rfl)
def b_m_Findable_o_init_o : MS := (sAsg (mFn (f1 bList) (aCons (mVar 1) aNil)) (gAttr 14 (mVar 0)))
def m_Findable_o_init_o : Fn := fnM 2 b_m_Findable_o_init_o
theorem sc_m_Findable_o_init_o : FnScope ["self", "standings"] ["self", "standings"] (defScope (mth 38 0)) := ⟨rfl, rfl, rfl, by decide +kernel, rfl, by decide +kernel, by decide +kernel⟩
theorem ok_m_Findable_o_init_o {P : Program} {w : World} {K : PySem.W.Frag} {mg : Str → Option Value} {base : Heap} (C : Ct FX w K mg base) : FG (FX.tb K w) P w K mg base 1 (He.fAd K ("Findable", some "__init__")) 2 m_Findable_o_init_o := by
  obtain ⟨fd, F⟩ := C.def_ 33
  exact fg_of (T := FX.tb K w) (N := ["self", "standings"]) (ps := ["self", "standings"]) (k := 0) (m := b_m_Findable_o_init_o) F sc_m_Findable_o_init_o rfl rfl C.ok (fun cdv A outer s H E hr B => (z1 (sA (xFnT (cr_list B.K B.calm) (C.free 18) boot_list (aC (xV 1) aN)) (gAt B 14 (xV 0))))) (fun _ _ _ _ _ _ us hl => match us, hl with | [_, _], _ => rfl)
def b_m_Doubtful_o_init_o : MS := (sSeq (sAsg (mFn (f1 bTup) (aCons (mVar 1) aNil)) (gAttr 15 (mVar 0))) (sAsg (mFn (f1 bTup) (aCons (mVar 2) aNil)) (gAttr 16 (mVar 0))))
def m_Doubtful_o_init_o : Fn := fnM 3 b_m_Doubtful_o_init_o
theorem sc_m_Doubtful_o_init_o : FnScope ["self", "one", "other"] ["self", "one", "other"] (defScope (mth 39 0)) := ⟨rfl, rfl, rfl, by decide +kernel, rfl, by decide +kernel, by decide +kernel⟩
theorem ok_m_Doubtful_o_init_o {P : Program} {w : World} {K : PySem.W.Frag} {mg : Str → Option Value} {base : Heap} (C : Ct FX w K mg base) : FG (FX.tb K w) P w K mg base 1 (He.fAd K ("Doubtful", some "__init__")) 3 m_Doubtful_o_init_o := by
  obtain ⟨fd, F⟩ := C.def_ 34
  exact fg_of (T := FX.tb K w) (N := ["self", "one", "other"]) (ps := ["self", "one", "other"]) (k := 0) (m := b_m_Doubtful_o_init_o) F sc_m_Doubtful_o_init_o rfl rfl C.ok (fun cdv A outer s H E hr B => (zC (sA (xFnT (cr_tup B.K) (C.free 6) boot_tuple (aC (xV 1) aN)) (gAt B 15 (xV 0))) (z1 (sA (xFnT (cr_tup B.K) (C.free 6) boot_tuple (aC (xV 2) aN)) (gAt B 16 (xV 0)))))) (fun _ _ _ _ _ _ us hl => match us, hl with | [_, _, _], _ => rfl)
def b_f_found_in : MS := (sSeq (sAsg (mCall 1 f_spread (aCons (mVar 0) aNil)) (gN 1)) (sSeq (sAsg (mCall 1 f_clash_of (aCons (mVar 1) aNil)) (gN 2)) (sRet (mIf (mB (m2 (vCmp .Is) (mVar 2) (mC .non))) (mMake 2 2 m_Findable_o_init_o (aCons (mVar 1) aNil)) (mMake 3 3 m_Doubtful_o_init_o (aCons (m2 vIdx (mVar 1) (m2 vIdx (mVar 2) (mC (.int 0)))) (aCons (m2 vIdx (mVar 1) (m2 vIdx (mVar 2) (mC (.int 1)))) aNil)))))))
def f_found_in : Fn := fnM 3 b_f_found_in
theorem sc_f_found_in : FnScope ["ring", "known", "both"] ["ring"] (defScope (top 40)) := ⟨rfl, rfl, rfl, by decide +kernel, rfl, by decide +kernel, by decide +kernel⟩
theorem ok_f_found_in {P : Program} {w : World} {K : PySem.W.Frag} {mg : Str → Option Value} {base : Heap} (C : Ct FX w K mg base) : FG (FX.tb K w) P w K mg base 4 (He.fAd K ("found_in", none)) 1 f_found_in := by
  obtain ⟨fd, F⟩ := C.def_ 35
  exact fg_of (T := FX.tb K w) (N := ["ring", "known", "both"]) (ps := ["ring"]) (k := 3) (m := b_f_found_in) F sc_f_found_in rfl rfl C.ok (fun cdv A outer s H E hr B => (zC (sA (xCall (ok_f_spread C) hr (C.glo 47) (aC (xV 0) aN)) (gNm B 1)) (zC (sA (xCall (ok_f_clash_of C) hr (C.glo 50) (aC (xV 1) aN)) (gNm B 2)) (z1 (sR (xIf (tCmp B (xV 2) xN) (xMake (cc := 2) ⟨rfl, (C.glo 52), C.mkr 51, ok_m_Findable_o_init_o C⟩ hr (aC (xV 1) aN)) (xMake (cc := 3) ⟨rfl, (C.glo 54), C.mkr 53, ok_m_Doubtful_o_init_o C⟩ hr (aC (xIx B (xV 1) (xIx B (xV 2) xI)) (aC (xIx B (xV 1) (xIx B (xV 2) xI)) aN))))))))) (fun _ _ _ _ _ _ us hl => match us, hl with | [_], _ => rfl)
def b_f_find : MS := (sSeq (sExpr (mCall 1 f_check_ring (aCons (mVar 0) aNil))) (sRet (mCall 1 f_found_in (aCons (mVar 0) aNil))))
def f_find : Fn := fnM 1 b_f_find
theorem sc_f_find : FnScope ["ring"] ["ring"] (defScope (top 41)) := ⟨rfl, rfl, rfl, by decide +kernel, rfl, by decide +kernel, by decide +kernel⟩
theorem ok_f_find {P : Program} {w : World} {K : PySem.W.Frag} {mg : Str → Option Value} {base : Heap} (C : Ct FX w K mg base) : FG (FX.tb K w) P w K mg base 5 (He.fAd K ("find", none)) 1 f_find := by
  obtain ⟨fd, F⟩ := C.def_ 36
  exact fg_of (T := FX.tb K w) (N := ["ring"]) (ps := ["ring"]) (k := 4) (m := b_f_find) F sc_f_find rfl rfl C.ok (fun cdv A outer s H E hr B => (zC (sEx (xCall (ok_f_check_ring C) hr (C.glo 17) (aC (xV 0) aN))) (z1 (sR (xCall (ok_f_found_in C) hr (C.glo 55) (aC (xV 0) aN)))))) (fun _ _ _ _ _ _ us hl => match us, hl with | [_], _ => rfl)
def b_f_is_findable : MS := (sRet (m1 (vIsi [9]) (mCall 1 f_find (aCons (mVar 0) aNil))))
def f_is_findable : Fn := fnM 1 b_f_is_findable
theorem sc_f_is_findable : FnScope ["ring"] ["ring"] (defScope (top 42)) := ⟨rfl, rfl, rfl, by decide +kernel, rfl, by decide +kernel, by decide +kernel⟩
theorem ok_f_is_findable {P : Program} {w : World} {K : PySem.W.Frag} {mg : Str → Option Value} {base : Heap} (C : Ct FX w K mg base) : FG (FX.tb K w) P w K mg base 6 (He.fAd K ("is_findable", none)) 1 f_is_findable := by
  obtain ⟨fd, F⟩ := C.def_ 37
  exact fg_of (T := FX.tb K w) (N := ["ring"]) (ps := ["ring"]) (k := 5) (m := b_f_is_findable) F sc_f_is_findable rfl rfl C.ok (fun cdv A outer s H E hr B => (z1 (sR (xIs B (C.free 3) (xCall (ok_f_find C) hr (C.glo 56) (aC (xV 0) aN)) (cvO (C.glo 52) 2))))) (fun _ _ _ _ _ _ us hl => match us, hl with | [_], _ => rfl)
def b_m_Ring_six : MS := (sRet (mTup (aCons (m1 (vFld 0) (mVar 0)) (aCons (m1 (vFld 1) (mVar 0)) (aCons (m1 (vFld 2) (mVar 0)) (aCons (m1 (vFld 3) (mVar 0)) (aCons (m1 (vFld 4) (mVar 0)) (aCons (m1 (vFld 5) (mVar 0)) aNil))))))))
def m_Ring_six : Fn := fnM 1 b_m_Ring_six
theorem sc_m_Ring_six : FnScope ["self"] ["self"] (defScope (mth 17 1)) := ⟨rfl, rfl, rfl, by decide +kernel, rfl, by decide +kernel, by decide +kernel⟩
theorem ok_m_Ring_six {P : Program} {w : World} {K : PySem.W.Frag} {mg : Str → Option Value} {base : Heap} (C : Ct FX w K mg base) : FG (FX.tb K w) P w K mg base 1 (He.fAd K ("Ring", some "six")) 1 m_Ring_six := by
  obtain ⟨fd, F⟩ := C.def_ 38
  exact fg_of (T := FX.tb K w) (N := ["self"]) (ps := ["self"]) (k := 0) (m := b_m_Ring_six) F sc_m_Ring_six rfl rfl C.ok (fun cdv A outer s H E hr B => (z1 (sR (xTup (aC (xF B 0 (xV 0)) (aC (xF B 1 (xV 0)) (aC (xF B 2 (xV 0)) (aC (xF B 3 (xV 0)) (aC (xF B 4 (xV 0)) (aC (xF B 5 (xV 0)) aN)))))))))) (fun _ _ _ _ _ _ us hl => match us, hl with | [_], _ => rfl)
theorem kg_Ring_order_check_follow {P : Program} {w : World} {K : PySem.W.Frag} {mg : Str → Option Value} {base : Heap} (C : Ct FX w K mg base) : KG (FX.tb K w) P w K mg base 3 0 "Ring" (He.ma K (He.ga K "Ring") "__init__") 6 m_Ring_o_init_o 3 ["order", "check", "follow"] [true, true, true] [] := by
  obtain ⟨fd, F, ok⟩ := ok_m_Ring_o_init_o (P := P) C
  obtain ⟨mv, kb⟩ := F.kbinds0 (ps := ["self", "size", "lengths", "marks", "order", "check", "follow"]) 4 ["order", "check", "follow"] [] (fun us mv ws => us ++ mix [true, true, true] mv ws) (by intro z; cases z) (show ∀ q ∈ ([] : List (Str × V)), q ∈ ([("order", V.str "first"), ("check", V.str "none"), ("follow", V.str "strict")] : List (Str × V)) from by decide +kernel) (fun a b c => Paired_append a (mix_rel b c)) (fun D doc pm an cdv ct us mv ws h1 h2 h3 => match us, mv, ws, h1, h2, h3 with
    | [_, _, _, _], [], [_, _, _], _, _, _ => rfl)
  exact ⟨rfl, (C.glo 15), C.mkr 16, fd, _, _, _, ok, kb, fun ρ H ds vs zs us p r1 r2 => ⟨_, rfl, r1.append (mix_relD (by exact rfl) r2)⟩⟩
def b_m_Ring_but : MS := (sSeq (sIf (mNot (mB (mCall 2 f_is_word (aCons (mVar 1) (aCons (mC (.tup [.str "size", .str "lengths", .str "marks", .str "order", .str "check", .str "follow"])) aNil))))) sNever sSkip) (sSeq (sAsg (mLc (iZipM (aCons (mC (.tup [.str "size", .str "lengths", .str "marks", .str "order", .str "check", .str "follow"])) (aCons (mMeth [(0, 1, m_Ring_six)] (mVar 0) aNil) aNil))) (.tp [4, 5]) mYes (mIf (mB (m2 (vCmp .Eq) (mVar 4) (mVar 1))) (mVar 2) (mVar 5)) [4, 5]) (gN 3)) (sRet (mMakeK 0 6 3 3 (fun ds zs => ds ++ mix [true, true, true] [] zs) m_Ring_o_init_o (aCons (m2 vIdx (mVar 3) (mC (.int 0))) (aCons (m2 vIdx (mVar 3) (mC (.int 1))) (aCons (m2 vIdx (mVar 3) (mC (.int 2))) aNil))) (aCons (m2 vIdx (mVar 3) (mC (.int 3))) (aCons (m2 vIdx (mVar 3) (mC (.int 4))) (aCons (m2 vIdx (mVar 3) (mC (.int 5))) aNil)))))))
def m_Ring_but : Fn := fnM 6 b_m_Ring_but
theorem sc_m_Ring_but : FnScope ["self", "name", "thing", "some", "one", "old"] ["self", "name", "thing"] (defScope (mth 17 5)) := ⟨rfl, rfl, rfl, by decide +kernel, rfl, by decide +kernel, by decide +kernel⟩
theorem ok_m_Ring_but {P : Program} {w : World} {K : PySem.W.Frag} {mg : Str → Option Value} {base : Heap} (C : Ct FX w K mg base) : FG (FX.tb K w) P w K mg base 5 (He.fAd K ("Ring", some "but")) 3 m_Ring_but := by
  obtain ⟨fd, F⟩ := C.def_ 39
  exact fg_of (T := FX.tb K w) (N := ["self", "name", "thing", "some", "one", "old"]) (ps := ["self", "name", "thing"]) (k := 4) (m := b_m_Ring_but) F sc_m_Ring_but rfl rfl C.ok (fun cdv A outer s H E hr B => (zC (sI (tNot' (tV (xCall (ok_f_is_word C) hr (C.glo 14) (aC (xV 1) (aC (xG (C.con 5)) aN))))) (z1 sNv) zN) (zC (sLc B 3 (own := [("one", 4), ("old", 5)]) (pi_zipM B.K rfl (C.free 10) (aC (xG (C.con 5)) (aC (xMeth0 B (show ("six" : Str) ∉ FX.fn by decide +kernel) (mt_cons (y := "Ring") rfl (C.meth 58) (ok_m_Ring_six C) hr (by decide) mt_nil) (xV 0)) aN))) rfl (fun _ _ _ _ _ => ⟨(tgT B.blk (tsC B.blk 4 (tsC B.blk 5 tsN))), yN, (xIf (tCmp B.blk (xV 4) (xV 1)) (xV 2) (xV 5))⟩)) (z1 (sR (xMakeK (kg_Ring_order_check_follow C) hr (aC (xIx B (xV 3) xI) (aC (xIx B (xV 3) xI) (aC (xIx B (xV 3) xI) aN))) (wC (xIx B (xV 3) xI) (wC (xIx B (xV 3) xI) (wC (xIx B (xV 3) xI) wN))))))))) (fun _ _ _ _ _ _ us hl => match us, hl with | [_, _, _], _ => rfl)
def b_f_marks_enough : MS := (sSeq (sExpr (mCall 1 f_check_ring (aCons (mVar 0) aNil))) (sSeq (sAsg (mLc (iRange2 (aCons (mC (.int 1)) (aCons (m2 (vBin .Add) (mC (.int 4)) (mC (.int 1))) aNil))) (.nm 2) mYes (mTup (aCons (mVar 2) (aCons (mCall 1 f_found_in (aCons (mMeth [(0, 3, m_Ring_but)] (mVar 0) (aCons (mC (.str "marks")) (aCons (mVar 2) aNil))) aNil)) aNil))) [2]) (gN 1)) (sRet (mLc (iAny (mVar 1)) (.tp [2, 3]) (mB (m1 (vIsi [9]) (mVar 3))) (mVar 2) [2, 3]))))
def f_marks_enough : Fn := fnM 4 b_f_marks_enough
theorem sc_f_marks_enough : FnScope ["ring", "rows", "many", "found"] ["ring"] (defScope (top 43)) := ⟨rfl, rfl, rfl, by decide +kernel, rfl, by decide +kernel, by decide +kernel⟩
theorem ok_f_marks_enough {P : Program} {w : World} {K : PySem.W.Frag} {mg : Str → Option Value} {base : Heap} (C : Ct FX w K mg base) : FG (FX.tb K w) P w K mg base 6 (He.fAd K ("marks_enough", none)) 1 f_marks_enough := by
  obtain ⟨fd, F⟩ := C.def_ 40
  exact fg_of (T := FX.tb K w) (N := ["ring", "rows", "many", "found"]) (ps := ["ring"]) (k := 5) (m := b_f_marks_enough) F sc_f_marks_enough rfl rfl C.ok (fun cdv A outer s H E hr B => (zC (sEx (xCall (ok_f_check_ring C) hr (C.glo 17) (aC (xV 0) aN))) (zC (sLc B 1 (own := [("many", 2)]) (iR2 (C.free 31) (aC xI (aC (xOp B (xG (C.con 3)) xI) aN))) rfl (fun _ _ _ _ _ => ⟨(tgN B.blk 2), yN, (xTup (aC (xV 2) (aC (xCall (ok_f_found_in C) hr (C.glo 55) (aC (xMeth B.blk (show ("but" : Str) ∉ FX.fn by decide +kernel) (mt_cons (y := "Ring") rfl (C.meth 59) (ok_m_Ring_but C) hr (by decide) mt_nil) (xV 0) (aC xS (aC (xV 2) aN))) aN)) aN)))⟩)) (z1 (sR (xLc B (own := [("many", 2), ("found", 3)]) (iA B (xV 1)) rfl (fun _ _ _ _ _ => ⟨(tgT B.blk (tsC B.blk 2 (tsC B.blk 3 tsN))), (y1 (tV (xIs B.blk (C.free 3) (xV 3) (cvO (C.glo 52) 2)))), (xV 2)⟩))))))) (fun _ _ _ _ _ _ us hl => match us, hl with | [_], _ => rfl)
def b_m_Findable_shows : MS := (sSeq (sExpr (mCall 1 f_check_ring (aCons (mVar 1) aNil))) (sSeq (sAsg (mDc (iAny (m1 (vFld 14) (mVar 0))) (.nm 3) mYes (mVar 3) (mC (.bl true)) [3]) (gN 2)) (sSeq (sIf (mOr (mB (m2 (vCmp .NotIn) (mCall 1 f_first_of (aCons (mVar 1) aNil)) (mVar 2))) (mB (m2 (vCmp .IsNot) (mCall 1 f_clash_of (aCons (mVar 2) aNil)) (mC .non)))) (sRet (mC (.bl false))) sSkip) (sSeq (sFor (iAny (mVar 2)) (.nm 3) (sIf (mNot (mB (mFn (f1 bAll) (aCons (mLc (iAny (mCall 2 f_writings (aCons (mVar 1) (aCons (mVar 3) aNil)))) (.nm 4) mYes (m2 (vCmp .In) (mCall 3 f_behind (aCons (mVar 1) (aCons (mVar 3) (aCons (mVar 4) aNil)))) (mVar 2)) [4]) aNil)))) (sRet (mC (.bl false))) sSkip)) (sRet (mC (.bl true)))))))
def m_Findable_shows : Fn := fnM 5 b_m_Findable_shows
theorem sc_m_Findable_shows : FnScope ["self", "ring", "known", "standing", "deed"] ["self", "ring"] (defScope (mth 38 2)) := ⟨rfl, rfl, rfl, by decide +kernel, rfl, by decide +kernel, by decide +kernel⟩
theorem ok_m_Findable_shows {P : Program} {w : World} {K : PySem.W.Frag} {mg : Str → Option Value} {base : Heap} (C : Ct FX w K mg base) : FG (FX.tb K w) P w K mg base 3 (He.fAd K ("Findable", some "shows")) 2 m_Findable_shows := by
  obtain ⟨fd, F⟩ := C.def_ 41
  exact fg_of (T := FX.tb K w) (N := ["self", "ring", "known", "standing", "deed"]) (ps := ["self", "ring"]) (k := 2) (m := b_m_Findable_shows) F sc_m_Findable_shows rfl rfl C.ok (fun cdv A outer s H E hr B => (zC (sEx (xCall (ok_f_check_ring C) hr (C.glo 17) (aC (xV 1) aN))) (zC (sA (xDc B (own := [("standing", 3)]) (iA B (xF B 14 (xV 0))) rfl (fun _ _ _ _ _ => ⟨(tgN B.blk 3), yN, (xV 3), xB⟩)) (gNm B 2)) (zC (sI (tW (wOr (tCmp B (xCall (ok_f_first_of C) hr (C.glo 39) (aC (xV 1) aN)) (xV 2)) (wOr1 (tCmp B (xCall (ok_f_clash_of C) hr (C.glo 50) (aC (xV 2) aN)) xN)))) (z1 (sR xB)) zN) (zC (sF B rfl (iA B (xV 2)) (tgN B 3) (z1 (sI (tNot' (tV (xFnB (cr_allL B.K B.calm) (C.free 9) boot_all (aC (xLc B (own := [("deed", 4)]) (iA B (xCall (ok_f_writings C) hr (C.glo 46) (aC (xV 1) (aC (xV 3) aN)))) rfl (fun _ _ _ _ _ => ⟨(tgN B.blk 4), yN, (xCmp B.blk (xCall (ok_f_behind C) hr (C.glo 41) (aC (xV 1) (aC (xV 3) (aC (xV 4) aN)))) (xV 2))⟩)) aN)))) (z1 (sR xB)) zN))) (z1 (sR xB))))))) (fun _ _ _ _ _ _ us hl => match us, hl with | [_, _], _ => rfl)
def b_m_Doubtful_shows : MS := (sSeq (sExpr (mCall 1 f_check_ring (aCons (mVar 1) aNil))) (sSeq (sPar 2 3 (aCons (mCall 2 f_stood (aCons (mVar 1) (aCons (m1 (vFld 15) (mVar 0)) aNil))) (aCons (mCall 2 f_stood (aCons (mVar 1) (aCons (m1 (vFld 16) (mVar 0)) aNil))) aNil))) (sSeq (sIf (mOr (mB (m2 (vCmp .Is) (mVar 2) (mC .non))) (mB (m2 (vCmp .Is) (mVar 3) (mC .non)))) (sRet (mC (.bl false))) sSkip) (sRet (mAndV (m2 (vCmp .Eq) (m2 vIdx (mVar 2) (mC (.int 0))) (m2 vIdx (mVar 3) (mC (.int 0)))) (m2 (vCmp .NotEq) (mSl (mVar 2) (oSome (mC (.int 1))) (oSome (mC (.int 3)))) (mSl (mVar 3) (oSome (mC (.int 1))) (oSome (mC (.int 3))))))))))
def m_Doubtful_shows : Fn := fnM 4 b_m_Doubtful_shows
theorem sc_m_Doubtful_shows : FnScope ["self", "ring", "first", "last"] ["self", "ring"] (defScope (mth 39 2)) := ⟨rfl, rfl, rfl, by decide +kernel, rfl, by decide +kernel, by decide +kernel⟩
theorem ok_m_Doubtful_shows {P : Program} {w : World} {K : PySem.W.Frag} {mg : Str → Option Value} {base : Heap} (C : Ct FX w K mg base) : FG (FX.tb K w) P w K mg base 8 (He.fAd K ("Doubtful", some "shows")) 2 m_Doubtful_shows := by
  obtain ⟨fd, F⟩ := C.def_ 42
  exact fg_of (T := FX.tb K w) (N := ["self", "ring", "first", "last"]) (ps := ["self", "ring"]) (k := 7) (m := b_m_Doubtful_shows) F sc_m_Doubtful_shows rfl rfl C.ok (fun cdv A outer s H E hr B => (zC (sEx (xCall (ok_f_check_ring C) hr (C.glo 17) (aC (xV 1) aN))) (zC (sP B 2 3 (aC (xCall (ok_f_stood C) hr (C.glo 42) (aC (xV 1) (aC (xF B 15 (xV 0)) aN))) (aC (xCall (ok_f_stood C) hr (C.glo 42) (aC (xV 1) (aC (xF B 16 (xV 0)) aN))) aN))) (zC (sI (tW (wOr (tCmp B (xV 2) xN) (wOr1 (tCmp B (xV 3) xN)))) (z1 (sR xB)) zN) (z1 (sR (xAnd (xCmp B (xIx B (xV 2) xI) (xIx B (xV 3) xI)) (xOne (xCmp B (xSl B (xV 2) (oS xI) (oS xI)) (xSl B (xV 3) (oS xI) (oS xI))))))))))) (fun _ _ _ _ _ _ us hl => match us, hl with | [_, _], _ => rfl)
def b_f_olaw_two_right : MS := (sSeq (sAsg (mTup (aCons (mMakeK 0 6 3 1 (fun ds zs => ds ++ mix [true, false, false] [.str "none", .str "strict"] zs) m_Ring_o_init_o (aCons (mC (.int 2)) (aCons (mTup (aCons (mC (.int 1)) aNil)) (aCons (mC (.int 2)) aNil))) (aCons (mVar 0) aNil)) (aCons (mLst (aCons (mTup (aCons (mC (.str "begin")) (aCons (mC (.int 1)) aNil))) (aCons (mTup (aCons (mC (.str "put")) aNil)) aNil))) aNil))) (gTupM 2 (gsCons (gN 1) (gsCons (gN 2) gsNil)))) (sSeq (sAsg (mTup (aCons (mTup (aCons (mC (.int 0)) (aCons (mC (.int 0)) (aCons (mC (.int 1)) aNil)))) (aCons (mTup (aCons (mC (.int 1)) (aCons (mC (.int 0)) (aCons (mC (.int 1)) aNil)))) aNil))) (gN 3)) (sSeq (sIf (mB (m2 (vCmp .NotEq) (mCall 2 f_standing_after (aCons (mVar 1) (aCons (m2 (vBin .Mult) (mVar 2) (mC (.int 2))) aNil))) (mTup (aCons (mVar 3) (aCons (mC (.int 0)) (aCons (mC (.int 0)) (aCons (mC .non) aNil))))))) (sRet (mC (.bl false))) sSkip) (sSeq (sIf (mB (m2 (vCmp .NotEq) (mCall 2 f_standing_after (aCons (mVar 1) (aCons (m2 (vBin .Mult) (mVar 2) (mC (.int 3))) aNil))) (mTup (aCons (mVar 3) (aCons (mC (.int 1)) (aCons (mC (.int 1)) (aCons (mC .non) aNil))))))) (sRet (mC (.bl false))) sSkip) (sSeq (sIf (mB (m2 (vCmp .NotEq) (mCall 2 f_standing_after (aCons (mVar 1) (aCons (m2 (vBin .Add) (mVar 2) (mSl (mVar 2) oNone (oSome (mC (.int 1))))) aNil))) (mTup (aCons (mTup (aCons (mTup (aCons (mC (.int 0)) (aCons (mC (.int 0)) (aCons (mC (.int 1)) aNil)))) (aCons (mC .non) aNil))) (aCons (mC (.int 1)) (aCons (mC (.int 1)) (aCons (mTup (aCons (mC (.int 1)) (aCons (mC (.int 0)) aNil))) aNil))))))) (sRet (mC (.bl false))) sSkip) (sSeq (sIf (mOr (mB (m2 (vCmp .NotEq) (mCall 2 f_starts_by (aCons (mVar 1) (aCons (mVar 3) aNil))) (mLst (aCons (mTup (aCons (mC (.int 0)) (aCons (mC (.int 0)) aNil))) (aCons (mTup (aCons (mC (.int 1)) (aCons (mC (.int 1)) aNil))) aNil))))) (mB (m2 (vCmp .NotEq) (mCall 2 f_starts_by (aCons (mVar 1) (aCons (mTup (aCons (mC .non) (aCons (mTup (aCons (mC (.int 0)) (aCons (mC (.int 0)) (aCons (mC (.int 1)) aNil)))) aNil))) aNil))) (mLst aNil)))) (sRet (mC (.bl false))) sSkip) (sSeq (sIf (mOr (mB (mCall 1 f_is_findable (aCons (mVar 1) aNil))) (mOr (mB (m2 (vCmp .NotEq) (mCall 1 f_marks_enough (aCons (mVar 1) aNil)) (mLst (aCons (mC (.int 3)) (aCons (mC (.int 4)) aNil))))) (mB (m2 (vCmp .NotEq) (mCall 1 f_marks_enough (aCons (mMeth [(0, 3, m_Ring_but)] (mVar 1) (aCons (mC (.str "marks")) (aCons (mC (.int 4)) aNil))) aNil)) (mLst (aCons (mC (.int 3)) (aCons (mC (.int 4)) aNil))))))) (sRet (mC (.bl false))) sSkip) (sSeq (sAsg (mLst (aCons (mTup (aCons (m2 (vBin .Mult) (mVar 2) (mC (.int 2))) (aCons (m2 (vBin .Mult) (mVar 2) (mC (.int 3))) aNil))) (aCons (mTup (aCons (m2 (vBin .Mult) (mVar 2) (mC (.int 3))) (aCons (m2 (vBin .Mult) (mVar 2) (mC (.int 2))) aNil))) (aCons (mTup (aCons (m2 (vBin .Mult) (mVar 2) (mC (.int 4))) (aCons (m2 (vBin .Mult) (mVar 2) (mC (.int 5))) aNil))) aNil)))) (gN 4)) (sSeq (sIf (mNot (mB (mFn (f1 bAll) (aCons (mLc (iAny (mVar 4)) (.tp [9, 8]) mYes (mMeth [(2, 2, m_Findable_shows), (3, 2, m_Doubtful_shows)] (mMake 3 3 m_Doubtful_o_init_o (aCons (mVar 9) (aCons (mVar 8) aNil))) (aCons (mVar 1) aNil)) [9, 8]) aNil)))) (sRet (mC (.bl false))) sSkip) (sSeq (sAsg (mLst (aCons (mTup (aCons (m2 (vBin .Mult) (mVar 2) (mC (.int 2))) (aCons (m2 (vBin .Mult) (mVar 2) (mC (.int 4))) aNil))) (aCons (mTup (aCons (m2 (vBin .Mult) (mVar 2) (mC (.int 2))) (aCons (m2 (vBin .Add) (m2 (vBin .Mult) (mVar 2) (mC (.int 2))) (mSl (mVar 2) oNone (oSome (mC (.int 1))))) aNil))) (aCons (mTup (aCons (mVar 2) (aCons (m2 (vBin .Mult) (mVar 2) (mC (.int 2))) aNil))) aNil)))) (gN 4)) (sSeq (sAsg (m2 (vBin .Add) (mVar 4) (mLst (aCons (mTup (aCons (mLst aNil) (aCons (mSl (mVar 2) oNone (oSome (mC (.int 1)))) aNil))) (aCons (mTup (aCons (m2 (vBin .Mult) (mVar 2) (mC (.int 2))) (aCons (m2 (vBin .Add) (m2 (vBin .Mult) (mVar 2) (mC (.int 3))) (mLst (aCons (mTup (aCons (mC (.str "put")) aNil)) aNil))) aNil))) aNil)))) (gN 4)) (sSeq (sIf (mB (mFn (f1 bAny) (aCons (mLc (iAny (mVar 4)) (.tp [9, 8]) mYes (mMeth [(2, 2, m_Findable_shows), (3, 2, m_Doubtful_shows)] (mMake 3 3 m_Doubtful_o_init_o (aCons (mVar 9) (aCons (mVar 8) aNil))) (aCons (mVar 1) aNil)) [9, 8]) aNil))) (sRet (mC (.bl false))) sSkip) (sSeq (sPar 5 6 (aCons (mMeth [(0, 3, m_Ring_but)] (mVar 1) (aCons (mC (.str "marks")) (aCons (mC (.int 3)) aNil))) (aCons (mMeth [(0, 3, m_Ring_but)] (mVar 1) (aCons (mC (.str "marks")) (aCons (mC (.int 4)) aNil))) aNil))) (sSeq (sIf (mOr (mB (mMeth [(2, 2, m_Findable_shows), (3, 2, m_Doubtful_shows)] (mMake 3 3 m_Doubtful_o_init_o (aCons (m2 (vBin .Mult) (mVar 2) (mC (.int 2))) (aCons (m2 (vBin .Mult) (mVar 2) (mC (.int 3))) aNil))) (aCons (mVar 5) aNil))) (mB (mMeth [(2, 2, m_Findable_shows), (3, 2, m_Doubtful_shows)] (mMake 3 3 m_Doubtful_o_init_o (aCons (m2 (vBin .Mult) (mVar 2) (mC (.int 2))) (aCons (m2 (vBin .Mult) (mVar 2) (mC (.int 3))) aNil))) (aCons (mVar 6) aNil)))) (sRet (mC (.bl false))) sSkip) (sSeq (sPar 7 8 (aCons (mCall 1 f_find (aCons (mVar 5) aNil)) (aCons (mCall 1 f_find (aCons (mVar 6) aNil)) aNil))) (sSeq (sIf (mOr (mNot (mB (mMeth [(2, 2, m_Findable_shows), (3, 2, m_Doubtful_shows)] (mVar 7) (aCons (mVar 5) aNil)))) (mNot (mB (mMeth [(2, 2, m_Findable_shows), (3, 2, m_Doubtful_shows)] (mVar 8) (aCons (mVar 6) aNil))))) (sRet (mC (.bl false))) sSkip) (sRet (mAndV (mNotV (mMeth [(2, 2, m_Findable_shows), (3, 2, m_Doubtful_shows)] (mVar 7) (aCons (mVar 6) aNil))) (mNotV (mMeth [(2, 2, m_Findable_shows), (3, 2, m_Doubtful_shows)] (mMake 2 2 m_Findable_o_init_o (aCons (mLst (aCons (mTup (aCons (mTup (aCons (mC .non) (aCons (mC .non) aNil))) (aCons (mC (.int 0)) (aCons (mC (.int 0)) (aCons (mC .non) aNil))))) aNil)) aNil)) (aCons (mVar 5) aNil)))))))))))))))))))))
def f_olaw_two_right : Fn := fnM 10 b_f_olaw_two_right
theorem sc_f_olaw_two_right : FnScope ["_law_word", "_law_two", "_law_record", "_law_full", "_law_pairs", "_law_three", "_law_four", "_law_found", "_law_other", "_law_one"] ["_law_word"] (defScope (top 47)) := ⟨rfl, rfl, rfl, by decide +kernel, rfl, by decide +kernel, by decide +kernel⟩
theorem ok_f_olaw_two_right {P : Program} {w : World} {K : PySem.W.Frag} {mg : Str → Option Value} {base : Heap} (C : Ct FX w K mg base) : FG (FX.tb K w) P w K mg base 9 (He.fAd K ("_law_two_right", none)) 1 f_olaw_two_right := by
  obtain ⟨fd, F⟩ := C.def_ 43
  exact fg_of (T := FX.tb K w) (N := ["_law_word", "_law_two", "_law_record", "_law_full", "_law_pairs", "_law_three", "_law_four", "_law_found", "_law_other", "_law_one"]) (ps := ["_law_word"]) (k := 8) (m := b_f_olaw_two_right) F sc_f_olaw_two_right rfl rfl C.ok (fun cdv A outer s H E hr B => (zC (sA (xTup (aC (xMakeK (kg_Ring_order C) hr (aC xI (aC (xTup (aC xI aN)) (aC xI aN))) (wC (xV 0) wN)) (aC (xLst (aC (xTup (aC xS (aC xI aN))) (aC (xTup (aC xS aN)) aN))) aN))) (gTp B (gCs (gNm B 1) (gCs (gNm B 2) gNs)))) (zC (sA (xTup (aC (xTup (aC xI (aC xI (aC xI aN)))) (aC (xTup (aC xI (aC xI (aC xI aN)))) aN))) (gNm B 3)) (zC (sI (tCmp B (xCall (ok_f_standing_after C) hr (C.glo 43) (aC (xV 1) (aC (xOp B (xV 2) xI) aN))) (xTup (aC (xV 3) (aC xI (aC xI (aC xN aN)))))) (z1 (sR xB)) zN) (zC (sI (tCmp B (xCall (ok_f_standing_after C) hr (C.glo 43) (aC (xV 1) (aC (xOp B (xV 2) xI) aN))) (xTup (aC (xV 3) (aC xI (aC xI (aC xN aN)))))) (z1 (sR xB)) zN) (zC (sI (tCmp B (xCall (ok_f_standing_after C) hr (C.glo 43) (aC (xV 1) (aC (xOp B (xV 2) (xSl B (xV 2) oN (oS xI))) aN))) (xTup (aC (xTup (aC (xTup (aC xI (aC xI (aC xI aN)))) (aC xN aN))) (aC xI (aC xI (aC (xTup (aC xI (aC xI aN))) aN)))))) (z1 (sR xB)) zN) (zC (sI (tW (wOr (tCmp B (xCall (ok_f_starts_by C) hr (C.glo 49) (aC (xV 1) (aC (xV 3) aN))) (xLst (aC (xTup (aC xI (aC xI aN))) (aC (xTup (aC xI (aC xI aN))) aN)))) (wOr1 (tCmp B (xCall (ok_f_starts_by C) hr (C.glo 49) (aC (xV 1) (aC (xTup (aC xN (aC (xTup (aC xI (aC xI (aC xI aN)))) aN))) aN))) (xLst aN))))) (z1 (sR xB)) zN) (zC (sI (tW (wOr (tV (xCall (ok_f_is_findable C) hr (C.glo 57) (aC (xV 1) aN))) (wOr (tCmp B (xCall (ok_f_marks_enough C) hr (C.glo 60) (aC (xV 1) aN)) (xLst (aC xI (aC xI aN)))) (wOr1 (tCmp B (xCall (ok_f_marks_enough C) hr (C.glo 60) (aC (xMeth B (show ("but" : Str) ∉ FX.fn by decide +kernel) (mt_cons (y := "Ring") rfl (C.meth 59) (ok_m_Ring_but C) hr (by decide) mt_nil) (xV 1) (aC xS (aC xI aN))) aN)) (xLst (aC xI (aC xI aN)))))))) (z1 (sR xB)) zN) (zC (sA (xLst (aC (xTup (aC (xOp B (xV 2) xI) (aC (xOp B (xV 2) xI) aN))) (aC (xTup (aC (xOp B (xV 2) xI) (aC (xOp B (xV 2) xI) aN))) (aC (xTup (aC (xOp B (xV 2) xI) (aC (xOp B (xV 2) xI) aN))) aN)))) (gNm B 4)) (zC (sI (tNot' (tV (xFnB (cr_allL B.K B.calm) (C.free 9) boot_all (aC (xLc B (own := [("_law_one", 9), ("_law_other", 8)]) (iA B (xV 4)) rfl (fun _ _ _ _ _ => ⟨(tgT B.blk (tsC B.blk 9 (tsC B.blk 8 tsN))), yN, (xMeth B.blk (show ("shows" : Str) ∉ FX.fn by decide +kernel) (mt_cons (y := "Findable") rfl (C.meth 62) (ok_m_Findable_shows C) hr (by decide) (mt_cons (y := "Doubtful") rfl (C.meth 61) (ok_m_Doubtful_shows C) hr (by decide) mt_nil)) (xMake (cc := 3) ⟨rfl, (C.glo 54), C.mkr 53, ok_m_Doubtful_o_init_o C⟩ hr (aC (xV 9) (aC (xV 8) aN))) (aC (xV 1) aN))⟩)) aN)))) (z1 (sR xB)) zN) (zC (sA (xLst (aC (xTup (aC (xOp B (xV 2) xI) (aC (xOp B (xV 2) xI) aN))) (aC (xTup (aC (xOp B (xV 2) xI) (aC (xOp B (xOp B (xV 2) xI) (xSl B (xV 2) oN (oS xI))) aN))) (aC (xTup (aC (xV 2) (aC (xOp B (xV 2) xI) aN))) aN)))) (gNm B 4)) (zC (sA (xOp B (xV 4) (xLst (aC (xTup (aC (xLst aN) (aC (xSl B (xV 2) oN (oS xI)) aN))) (aC (xTup (aC (xOp B (xV 2) xI) (aC (xOp B (xOp B (xV 2) xI) (xLst (aC (xTup (aC xS aN)) aN))) aN))) aN)))) (gNm B 4)) (zC (sI (tV (xFnB (cr_anyL B.K B.calm) (C.free 29) boot_any (aC (xLc B (own := [("_law_one", 9), ("_law_other", 8)]) (iA B (xV 4)) rfl (fun _ _ _ _ _ => ⟨(tgT B.blk (tsC B.blk 9 (tsC B.blk 8 tsN))), yN, (xMeth B.blk (show ("shows" : Str) ∉ FX.fn by decide +kernel) (mt_cons (y := "Findable") rfl (C.meth 62) (ok_m_Findable_shows C) hr (by decide) (mt_cons (y := "Doubtful") rfl (C.meth 61) (ok_m_Doubtful_shows C) hr (by decide) mt_nil)) (xMake (cc := 3) ⟨rfl, (C.glo 54), C.mkr 53, ok_m_Doubtful_o_init_o C⟩ hr (aC (xV 9) (aC (xV 8) aN))) (aC (xV 1) aN))⟩)) aN))) (z1 (sR xB)) zN) (zC (sP B 5 6 (aC (xMeth B (show ("but" : Str) ∉ FX.fn by decide +kernel) (mt_cons (y := "Ring") rfl (C.meth 59) (ok_m_Ring_but C) hr (by decide) mt_nil) (xV 1) (aC xS (aC xI aN))) (aC (xMeth B (show ("but" : Str) ∉ FX.fn by decide +kernel) (mt_cons (y := "Ring") rfl (C.meth 59) (ok_m_Ring_but C) hr (by decide) mt_nil) (xV 1) (aC xS (aC xI aN))) aN))) (zC (sI (tW (wOr (tV (xMeth B (show ("shows" : Str) ∉ FX.fn by decide +kernel) (mt_cons (y := "Findable") rfl (C.meth 62) (ok_m_Findable_shows C) hr (by decide) (mt_cons (y := "Doubtful") rfl (C.meth 61) (ok_m_Doubtful_shows C) hr (by decide) mt_nil)) (xMake (cc := 3) ⟨rfl, (C.glo 54), C.mkr 53, ok_m_Doubtful_o_init_o C⟩ hr (aC (xOp B (xV 2) xI) (aC (xOp B (xV 2) xI) aN))) (aC (xV 5) aN))) (wOr1 (tV (xMeth B (show ("shows" : Str) ∉ FX.fn by decide +kernel) (mt_cons (y := "Findable") rfl (C.meth 62) (ok_m_Findable_shows C) hr (by decide) (mt_cons (y := "Doubtful") rfl (C.meth 61) (ok_m_Doubtful_shows C) hr (by decide) mt_nil)) (xMake (cc := 3) ⟨rfl, (C.glo 54), C.mkr 53, ok_m_Doubtful_o_init_o C⟩ hr (aC (xOp B (xV 2) xI) (aC (xOp B (xV 2) xI) aN))) (aC (xV 6) aN)))))) (z1 (sR xB)) zN) (zC (sP B 7 8 (aC (xCall (ok_f_find C) hr (C.glo 56) (aC (xV 5) aN)) (aC (xCall (ok_f_find C) hr (C.glo 56) (aC (xV 6) aN)) aN))) (zC (sI (tW (wOr (tNot' (tV (xMeth B (show ("shows" : Str) ∉ FX.fn by decide +kernel) (mt_cons (y := "Findable") rfl (C.meth 62) (ok_m_Findable_shows C) hr (by decide) (mt_cons (y := "Doubtful") rfl (C.meth 61) (ok_m_Doubtful_shows C) hr (by decide) mt_nil)) (xV 7) (aC (xV 5) aN)))) (wOr1 (tNot' (tV (xMeth B (show ("shows" : Str) ∉ FX.fn by decide +kernel) (mt_cons (y := "Findable") rfl (C.meth 62) (ok_m_Findable_shows C) hr (by decide) (mt_cons (y := "Doubtful") rfl (C.meth 61) (ok_m_Doubtful_shows C) hr (by decide) mt_nil)) (xV 8) (aC (xV 6) aN))))))) (z1 (sR xB)) zN) (z1 (sR (xAnd (xNot (xMeth B (show ("shows" : Str) ∉ FX.fn by decide +kernel) (mt_cons (y := "Findable") rfl (C.meth 62) (ok_m_Findable_shows C) hr (by decide) (mt_cons (y := "Doubtful") rfl (C.meth 61) (ok_m_Doubtful_shows C) hr (by decide) mt_nil)) (xV 7) (aC (xV 6) aN))) (xOne (xNot (xMeth B (show ("shows" : Str) ∉ FX.fn by decide +kernel) (mt_cons (y := "Findable") rfl (C.meth 62) (ok_m_Findable_shows C) hr (by decide) (mt_cons (y := "Doubtful") rfl (C.meth 61) (ok_m_Doubtful_shows C) hr (by decide) mt_nil)) (xMake (cc := 2) ⟨rfl, (C.glo 52), C.mkr 51, ok_m_Findable_o_init_o C⟩ hr (aC (xLst (aC (xTup (aC (xTup (aC xN (aC xN aN))) (aC xI (aC xI (aC xN aN))))) aN)) aN)) (aC (xV 5) aN)))))))))))))))))))))))) (fun _ _ _ _ _ _ us hl => match us, hl with | [_], _ => rfl)
theorem kg_Ring_ {P : Program} {w : World} {K : PySem.W.Frag} {mg : Str → Option Value} {base : Heap} (C : Ct FX w K mg base) : KG (FX.tb K w) P w K mg base 3 0 "Ring" (He.ma K (He.ga K "Ring") "__init__") 6 m_Ring_o_init_o 3 [] [false, false, false] [.str "first", .str "none", .str "strict"] := by
  obtain ⟨fd, F, ok⟩ := ok_m_Ring_o_init_o (P := P) C
  obtain ⟨mv, kb⟩ := F.kbinds0 (ps := ["self", "size", "lengths", "marks", "order", "check", "follow"]) 4 [] [("order", V.str "first"), ("check", V.str "none"), ("follow", V.str "strict")] (fun us mv ws => us ++ mix [false, false, false] mv ws) (by intro z; cases z) (show ∀ q ∈ ([("order", V.str "first"), ("check", V.str "none"), ("follow", V.str "strict")] : List (Str × V)), q ∈ ([("order", V.str "first"), ("check", V.str "none"), ("follow", V.str "strict")] : List (Str × V)) from by decide +kernel) (fun a b c => Paired_append a (mix_rel b c)) (fun D doc pm an cdv ct us mv ws h1 h2 h3 => match us, mv, ws, h1, h2, h3 with
    | [_, _, _, _], [_, _, _], [], _, _, _ => ⟨_, _, _, _, _, _, rfl, rfl, _, _, _, _, _, _, rfl, rfl, _, _, _, _, _, _, rfl, rfl, rfl⟩)
  exact ⟨rfl, (C.glo 15), C.mkr 16, fd, _, _, _, ok, kb, fun ρ H ds vs zs us p r1 r2 => ⟨_, rfl, r1.append (mix_relD (by exact ⟨_, _, rfl, rfl, ⟨_, _, rfl, rfl, ⟨_, _, rfl, rfl, rfl⟩⟩⟩) r2)⟩⟩
def b_f_olaw_three_right : MS := (sSeq (sPar 0 1 (aCons (mMakeK 0 6 3 0 (fun ds zs => ds ++ mix [false, false, false] [.str "first", .str "none", .str "strict"] zs) m_Ring_o_init_o (aCons (mC (.int 3)) (aCons (mTup (aCons (mC (.int 2)) aNil)) (aCons (mC (.int 2)) aNil))) aNil) (aCons (mMakeK 0 6 3 1 (fun ds zs => ds ++ mix [true, false, false] [.str "none", .str "strict"] zs) m_Ring_o_init_o (aCons (mC (.int 3)) (aCons (mTup (aCons (mC (.int 2)) aNil)) (aCons (mC (.int 2)) aNil))) (aCons (mC (.str "last")) aNil)) aNil))) (sSeq (sPar 2 3 (aCons (mLst (aCons (mTup (aCons (mC (.str "begin")) (aCons (mC (.int 2)) aNil))) (aCons (mTup (aCons (mC (.str "put")) aNil)) aNil))) (aCons (mLst (aCons (mTup (aCons (mC (.str "begin")) (aCons (mC (.int 2)) aNil))) (aCons (mTup (aCons (mC (.str "put")) aNil)) (aCons (mTup (aCons (mC (.str "put")) aNil)) aNil)))) aNil))) (sSeq (sIf (mB (m2 (vCmp .NotEq) (mCall 2 f_standing_after (aCons (mVar 0) (aCons (mVar 2) aNil))) (mTup (aCons (mTup (aCons (mTup (aCons (mC (.int 0)) (aCons (mC (.int 0)) (aCons (mC (.int 2)) aNil)))) (aCons (mC .non) (aCons (mC .non) aNil)))) (aCons (mC (.int 0)) (aCons (mC (.int 0)) (aCons (mTup (aCons (mC (.int 2)) (aCons (mC (.int 1)) aNil))) aNil))))))) (sRet (mC (.bl false))) sSkip) (sSeq (sIf (mB (m2 (vCmp .NotEq) (mCall 2 f_standing_after (aCons (mVar 1) (aCons (mVar 2) aNil))) (mTup (aCons (mTup (aCons (mC .non) (aCons (mTup (aCons (mC (.int 0)) (aCons (mC (.int 1)) (aCons (mC (.int 2)) aNil)))) (aCons (mC .non) aNil)))) (aCons (mC (.int 0)) (aCons (mC (.int 0)) (aCons (mTup (aCons (mC (.int 2)) (aCons (mC (.int 1)) aNil))) aNil))))))) (sRet (mC (.bl false))) sSkip) (sSeq (sFor (iAny (mTup (aCons (mVar 0) (aCons (mVar 1) aNil)))) (.nm 4) (sSeq (sIf (mB (m2 (vCmp .NotEq) (mCall 2 f_standing_after (aCons (mVar 4) (aCons (mVar 3) aNil))) (mTup (aCons (mTup (aCons (mTup (aCons (mC (.int 0)) (aCons (mC (.int 0)) (aCons (mC (.int 2)) aNil)))) (aCons (mTup (aCons (mC (.int 0)) (aCons (mC (.int 1)) (aCons (mC (.int 2)) aNil)))) (aCons (mC .non) aNil)))) (aCons (mC (.int 2)) (aCons (mC (.int 1)) (aCons (mC .non) aNil))))))) (sRet (mC (.bl false))) sSkip) (sIf (mB (m2 (vCmp .NotEq) (mCall 2 f_standing_after (aCons (mVar 4) (aCons (m2 (vBin .Mult) (mVar 3) (mC (.int 2))) aNil))) (mTup (aCons (mTup (aCons (mTup (aCons (mC (.int 1)) (aCons (mC (.int 1)) (aCons (mC (.int 2)) aNil)))) (aCons (mTup (aCons (mC (.int 0)) (aCons (mC (.int 1)) (aCons (mC (.int 2)) aNil)))) (aCons (mTup (aCons (mC (.int 1)) (aCons (mC (.int 0)) (aCons (mC (.int 2)) aNil)))) aNil)))) (aCons (mC (.int 1)) (aCons (mC (.int 0)) (aCons (mC .non) aNil))))))) (sRet (mC (.bl false))) sSkip))) (sSeq (sAsg (m2 (vBin .Add) (mVar 3) (mVar 2)) (gN 5)) (sSeq (sIf (mB (m2 (vCmp .NotEq) (mCall 2 f_standing_after (aCons (mVar 0) (aCons (mVar 5) aNil))) (mTup (aCons (mTup (aCons (mTup (aCons (mC (.int 0)) (aCons (mC (.int 0)) (aCons (mC (.int 2)) aNil)))) (aCons (mTup (aCons (mC (.int 0)) (aCons (mC (.int 1)) (aCons (mC (.int 2)) aNil)))) (aCons (mTup (aCons (mC (.int 1)) (aCons (mC (.int 0)) (aCons (mC (.int 2)) aNil)))) aNil)))) (aCons (mC (.int 2)) (aCons (mC (.int 1)) (aCons (mTup (aCons (mC (.int 2)) (aCons (mC (.int 1)) aNil))) aNil))))))) (sRet (mC (.bl false))) sSkip) (sRet (m2 (vCmp .Eq) (mCall 2 f_standing_after (aCons (mVar 1) (aCons (m2 (vBin .Add) (mVar 5) (mLst (aCons (mTup (aCons (mC (.str "read")) aNil)) aNil))) aNil))) (mTup (aCons (mTup (aCons (mTup (aCons (mC (.int 1)) (aCons (mC (.int 1)) (aCons (mC (.int 2)) aNil)))) (aCons (mTup (aCons (mC (.int 0)) (aCons (mC (.int 1)) (aCons (mC (.int 2)) aNil)))) (aCons (mC .non) aNil)))) (aCons (mC (.int 2)) (aCons (mC (.int 1)) (aCons (mTup (aCons (mC (.int 2)) (aCons (mC (.int 1)) aNil))) aNil))))))))))))))
def f_olaw_three_right : Fn := fnM 6 b_f_olaw_three_right
theorem sc_f_olaw_three_right : FnScope ["_law_early", "_law_late", "_law_past", "_law_record", "_law_ring", "_law_more"] [] (defScope (top 48)) := ⟨rfl, rfl, rfl, by decide +kernel, rfl, by decide +kernel, by decide +kernel⟩
theorem ok_f_olaw_three_right {P : Program} {w : World} {K : PySem.W.Frag} {mg : Str → Option Value} {base : Heap} (C : Ct FX w K mg base) : FG (FX.tb K w) P w K mg base 9 (He.fAd K ("_law_three_right", none)) 0 f_olaw_three_right := by
  obtain ⟨fd, F⟩ := C.def_ 44
  exact fg_of (T := FX.tb K w) (N := ["_law_early", "_law_late", "_law_past", "_law_record", "_law_ring", "_law_more"]) (ps := []) (k := 8) (m := b_f_olaw_three_right) F sc_f_olaw_three_right rfl rfl C.ok (fun cdv A outer s H E hr B => (zC (sP B 0 1 (aC (xMakeK (kg_Ring_ C) hr (aC xI (aC (xTup (aC xI aN)) (aC xI aN))) wN) (aC (xMakeK (kg_Ring_order C) hr (aC xI (aC (xTup (aC xI aN)) (aC xI aN))) (wC xS wN)) aN))) (zC (sP B 2 3 (aC (xLst (aC (xTup (aC xS (aC xI aN))) (aC (xTup (aC xS aN)) aN))) (aC (xLst (aC (xTup (aC xS (aC xI aN))) (aC (xTup (aC xS aN)) (aC (xTup (aC xS aN)) aN)))) aN))) (zC (sI (tCmp B (xCall (ok_f_standing_after C) hr (C.glo 43) (aC (xV 0) (aC (xV 2) aN))) (xTup (aC (xTup (aC (xTup (aC xI (aC xI (aC xI aN)))) (aC xN (aC xN aN)))) (aC xI (aC xI (aC (xTup (aC xI (aC xI aN))) aN)))))) (z1 (sR xB)) zN) (zC (sI (tCmp B (xCall (ok_f_standing_after C) hr (C.glo 43) (aC (xV 1) (aC (xV 2) aN))) (xTup (aC (xTup (aC xN (aC (xTup (aC xI (aC xI (aC xI aN)))) (aC xN aN)))) (aC xI (aC xI (aC (xTup (aC xI (aC xI aN))) aN)))))) (z1 (sR xB)) zN) (zC (sF B rfl (iA B (xTup (aC (xV 0) (aC (xV 1) aN)))) (tgN B 4) (zC (sI (tCmp B (xCall (ok_f_standing_after C) hr (C.glo 43) (aC (xV 4) (aC (xV 3) aN))) (xTup (aC (xTup (aC (xTup (aC xI (aC xI (aC xI aN)))) (aC (xTup (aC xI (aC xI (aC xI aN)))) (aC xN aN)))) (aC xI (aC xI (aC xN aN)))))) (z1 (sR xB)) zN) (z1 (sI (tCmp B (xCall (ok_f_standing_after C) hr (C.glo 43) (aC (xV 4) (aC (xOp B (xV 3) xI) aN))) (xTup (aC (xTup (aC (xTup (aC xI (aC xI (aC xI aN)))) (aC (xTup (aC xI (aC xI (aC xI aN)))) (aC (xTup (aC xI (aC xI (aC xI aN)))) aN)))) (aC xI (aC xI (aC xN aN)))))) (z1 (sR xB)) zN)))) (zC (sA (xOp B (xV 3) (xV 2)) (gNm B 5)) (zC (sI (tCmp B (xCall (ok_f_standing_after C) hr (C.glo 43) (aC (xV 0) (aC (xV 5) aN))) (xTup (aC (xTup (aC (xTup (aC xI (aC xI (aC xI aN)))) (aC (xTup (aC xI (aC xI (aC xI aN)))) (aC (xTup (aC xI (aC xI (aC xI aN)))) aN)))) (aC xI (aC xI (aC (xTup (aC xI (aC xI aN))) aN)))))) (z1 (sR xB)) zN) (z1 (sR (xCmp B (xCall (ok_f_standing_after C) hr (C.glo 43) (aC (xV 1) (aC (xOp B (xV 5) (xLst (aC (xTup (aC xS aN)) aN))) aN))) (xTup (aC (xTup (aC (xTup (aC xI (aC xI (aC xI aN)))) (aC (xTup (aC xI (aC xI (aC xI aN)))) (aC xN aN)))) (aC xI (aC xI (aC (xTup (aC xI (aC xI aN))) aN)))))))))))))))) (fun _ _ _ _ _ _ us hl => match us, hl with | [], _ => rfl)
def b_f_law : MS := (sSeq (sAsg (mFn (f1 bInt) (aCons (mFn (f1 bSum) (aCons (mLc (iAny (mSl (mVar 0) oNone (oSome (mC (.int 63))))) (.nm 2) mYes (mFn (f1 bAbs) (aCons (mVar 2) aNil)) [2]) aNil)) aNil)) (gN 1)) (sRet (mAndV (mCall 1 f_olaw_two_right (aCons (m2 vIdx (mTup (aCons (mC (.str "first")) (aCons (mC (.str "last")) aNil))) (m2 (vBin .Mod) (mVar 1) (mC (.int 2)))) aNil)) (mCall 0 f_olaw_three_right aNil))))
def f_law : Fn := fnM 3 b_f_law
theorem sc_f_law : FnScope ["_law_script", "_law_figure", "_law_one"] ["_law_script"] (defScope (top 49)) := ⟨rfl, rfl, rfl, by decide +kernel, rfl, by decide +kernel, by decide +kernel⟩
theorem law_ok {P : Program} {w : World} {K : PySem.W.Frag} {mg : Str → Option Value} {base : Heap} (C : Ct FX w K mg base) {fd : FuncData} (F : FunD K "law" "law" (defArgs (top 49)) (defBody (top 49)) (defScope (top 49)) [] [] (He.fAd K ("law", none)) fd) : FnOk P w K mg base CX0 10 (He.fAd K ("law", none)) fd ["_law_script"] (spOf (FX.tb K w) 1 f_law) :=
  fnok_of (T := FX.tb K w) (N := ["_law_script", "_law_figure", "_law_one"]) (ps := ["_law_script"]) (k := 9) (m := b_f_law) F sc_f_law rfl rfl C.ok (fun cdv A outer s H E hr B => (zC (sA (xFnT cr_int (C.free 2) boot_int (aC (xFnB (cr_sumL B.K B.calm) (C.free 1) boot_sum (aC (xLc B (own := [("_law_one", 2)]) (iA B (xSl B (xV 0) oN (oS xI))) rfl (fun _ _ _ _ _ => ⟨(tgN B.blk 2), yN, (xFnB cr_abs (C.free 0) boot_abs (aC (xV 2) aN))⟩)) aN)) aN)) (gNm B 1)) (z1 (sR (xAnd (xCall (ok_f_olaw_two_right C) hr (C.glo 63) (aC (xIx B (xTup (aC xS (aC xS aN))) (xOp B (xV 1) xI)) aN)) (xOne (xCall0 (ok_f_olaw_three_right C) hr (C.glo 64))))))))
theorem law_def {P : Program} {w : World} {K : PySem.W.Frag} {mg : Str → Option Value} {base : Heap} (C : Ct FX w K mg base) : ∃ fd, FunD K "law" "law" (defArgs (top 49)) (defBody (top 49)) (defScope (top 49)) [] [] (He.fAd K ("law", none)) fd := C.def_ 45
theorem fnn : FX.fn.Nodup := by decide +kernel
theorem cnn : FX.cn.Nodup := by decide +kernel
theorem law_all {P : Program} {w : World} {K : PySem.W.Frag} {h : Heap} {mg : Str → Option Value} {f : Addr} (KX : K.In h) (G : h.Ns mainGlobals mg) (hfa : mg ("law" : Str) = some (.ref f)) (c : FX.says w K) :
    ∃ fd : FuncData, (∀ (s : Shared) (v : Value), BindsTo s fd ⟨[v], []⟩ [("_law_script", v)]) ∧ ∀ base : Heap, K.In base → base.Ns mainGlobals mg → FnOk P w K mg base CX0 10 f fd ["_law_script"] (spOf (FX.tb K w) 1 f_law) := by
  have C : Ct FX w K mg h := ⟨KX, G, c, says_ok c fnn cnn⟩
  obtain ⟨fd, F⟩ := law_def (P := P) C
  have e := hfa.symm.trans (C.glo 65)
  cases e
  have b := FunD.bindsA (ps := ["_law_script"]) F fun _ _ _ _ _ _ us hl => match us, hl with | [_], _ => rfl
  exact ⟨fd, fun s v => b s [v] rfl, fun base k1 k2 => law_ok ⟨k1, k2, c, says_ok c fnn cnn⟩ F⟩
/-- what is left: the own run says True -/
def Goal : Prop := ∀ ns : List Int, ns.length ≤ 63 → ∃ h', f_law [.kls (ns.map D.int)] ⟨0, .nil⟩ = .ok (.bl true) h'
end L_k13_known_finding

namespace L_k13_known_finding
open PySem PySem.Spec PyProof.Rows L2 TL
def tailM : MS := sRet (mAndV (mCall 1 f_olaw_two_right (aCons (m2 vIdx (mTup (aCons (mC (.str "first")) (aCons (mC (.str "last")) aNil))) (m2 (vBin .Mod) (mVar 1) (mC (.int 2)))) aNil)) (mCall 0 f_olaw_three_right aNil))
def rest (x : D) (S : Int) (h : LH) : Res D := match tailM [some x, some (.int S), none] h with
  | .rt d h' => .ok d h'
  | .nx _ h' => .ok .non h'
  | .err c p h' => .err c p h'
  | _ => .stuck
theorem f_law_eq (ns : List Int) (hl : ns.length ≤ 63) : ∃ v, f_law [.kls (ns.map D.int)] ⟨0, .nil⟩ = rest (.kls (ns.map D.int)) ((cut63 ns).map absI).sum (H2 (.lst false ((cut63 ns).map D.int)) v (.lst false (((cut63 ns).map absI).map D.int))) := by
  obtain ⟨v, e⟩ := m_sumA (sl := [some (.kls (ns.map D.int)), none, none]) (i := 0) (j := 2) (ns := ns) rfl (Nat.lt_succ_self 2) hl
  refine ⟨v, ?_⟩
  show (match sSeq (sAsg (mSumA 0 2) (gN 1)) tailM [some (.kls (ns.map D.int)), none, none] ⟨0, .nil⟩ with
    | .rt d h' => Res.ok d h'
    | .nx _ h' => .ok .non h'
    | .err c p h' => .err c p h'
    | _ => .stuck) = _
  unfold rest sSeq sAsg
  rw [e]
  rfl
/-- only the rest by 2 matters -/
theorem rest_eq (x : D) (S : Int) (h : LH) : rest x S h = rest x (S % 2) h := by
  have e : m2 (vBin .Mod) (mVar 1) (mC (.int 2)) [some x, some (.int S), none] h = m2 (vBin .Mod) (mVar 1) (mC (.int 2)) [some x, some (.int (S % 2)), none] h := by
    show Res.ok (D.int (S % 2)) h = Res.ok (D.int (S % 2 % 2)) h
    rw [Int.emod_emod_of_dvd _ (Int.dvd_refl 2)]
  have e1 : m2 vIdx (mTup (aCons (mC (.str "first")) (aCons (mC (.str "last")) aNil))) (m2 (vBin .Mod) (mVar 1) (mC (.int 2))) [some x, some (.int S), none] h = m2 vIdx (mTup (aCons (mC (.str "first")) (aCons (mC (.str "last")) aNil))) (m2 (vBin .Mod) (mVar 1) (mC (.int 2))) [some x, some (.int (S % 2)), none] h := by
    show (m2 (vBin .Mod) (mVar 1) (mC (.int 2)) [some x, some (.int S), none] h).bind (fun y h2 => vIdx (.tup [.str "first", .str "last"]) y h2) = (m2 (vBin .Mod) (mVar 1) (mC (.int 2)) [some x, some (.int (S % 2)), none] h).bind (fun y h2 => vIdx (.tup [.str "first", .str "last"]) y h2)
    rw [e]
  have e2 : aCons (m2 vIdx (mTup (aCons (mC (.str "first")) (aCons (mC (.str "last")) aNil))) (m2 (vBin .Mod) (mVar 1) (mC (.int 2)))) aNil [some x, some (.int S), none] h = aCons (m2 vIdx (mTup (aCons (mC (.str "first")) (aCons (mC (.str "last")) aNil))) (m2 (vBin .Mod) (mVar 1) (mC (.int 2)))) aNil [some x, some (.int (S % 2)), none] h := by
    show (m2 vIdx (mTup (aCons (mC (.str "first")) (aCons (mC (.str "last")) aNil))) (m2 (vBin .Mod) (mVar 1) (mC (.int 2))) [some x, some (.int S), none] h).bind (fun y h1 => .ok [y] h1) = (m2 vIdx (mTup (aCons (mC (.str "first")) (aCons (mC (.str "last")) aNil))) (m2 (vBin .Mod) (mVar 1) (mC (.int 2))) [some x, some (.int (S % 2)), none] h).bind (fun y h1 => .ok [y] h1)
    rw [e1]
  unfold rest tailM sRet mAndV mCall
  rw [e2]
  rfl
theorem fin0 (x : D) (o : LO) (v : Nat) (o' : LO) : isT (rest x 0 (H2 o v o')) = true := by kernel_rfl
theorem fin1 (x : D) (o : LO) (v : Nat) (o' : LO) : isT (rest x 1 (H2 o v o')) = true := by kernel_rfl
theorem goal : Goal := by
  intro ns hl
  refine isT_ok ?_
  obtain ⟨v, e⟩ := f_law_eq ns hl
  rw [e, rest_eq]
  obtain ⟨h1, h2⟩ := mod_cases (S := ((cut63 ns).map absI).sum) (n := 2) (by omega)
  have h : ((cut63 ns).map absI).sum % 2 = 0 ∨ ((cut63 ns).map absI).sum % 2 = 1 := by omega
  rcases h with q | q <;> rw [q]
  · exact fin0 _ _ _ _
  · exact fin1 _ _ _ _
end L_k13_known_finding

namespace L_k13_known_finding
open PySem PySem.Spec PyProof.Rows L2 TL
def nms0 : List Str := ["LogError", "BadRing", "BadName", "BadHistory", "TooLarge", "BadPicture", "LEAST_SIZE", "MOST_SIZE", "MOST_LENGTH", "MOST_MARKS", "NAMES", "WORDS", "is_number", "is_word", "are_lengths", "Ring", "check_ring", "MOST_STATES", "Log", "start_of", "deeds_of", "done", "is_deed", "walked", "check_history", "first_of", "with_put", "behind", "writings", "spread"]
def nms1 : List Str := ["clash_of", "stood", "is_cell", "check_picture", "Findable", "Doubtful", "found_in", "find", "is_findable", "marks_enough", "starts_by", "standing_after", "_law_two_right", "_law_three_right"]
def nms : List Str := nms0 ++ nms1
abbrev R : PySem.W.OpenRow := PySem.W.OpenLaw.row PySem.Challenge.rw_trimmedlogs_k13_known_finding
abbrev hk : PySem.W.Hook := FX.hook 6
def ob (s : PySem.W.SharedT) : AlX := FX.obsG 6 (HandSHeadRun.getT s)
theorem ob_eq (s : PySem.W.SharedT) : ob s = hk.obs s.abs := Fx.obs_eq (HandSHeadRun.getT_eq s)
theorem runF (w : World) : HandSHeadRun.RunEq R (PySem.W.view R.prog [49]) hk ob 20000 nms (w.withFollow "special-get-raises" false) := by
  intro os
  kernel_rfl
theorem runT (w : World) : HandSHeadRun.RunEq R (PySem.W.view R.prog [49]) hk ob 20000 nms (w.withFollow "special-get-raises" true) := by
  intro os
  kernel_rfl
theorem run (w : World) : HandSHeadRun.RunEq R (PySem.W.view R.prog [49]) hk ob 20000 nms w := PySem.W.byRow2 "special-get-raises" runF runT w
end L_k13_known_finding

open PySem PySem.W PySem.Calls PyProof.Rows in
theorem PySem.Challenge.cw_trimmedlogs_k13_known_finding_holds : PySem.Challenge.rw_trimmedlogs_k13_known_finding.Holds := by
  w_on; o_law
  refine HandSHeadRun.head_any (r := OpenLaw.row PySem.Challenge.rw_trimmedlogs_k13_known_finding) (q := view (OpenLaw.row PySem.Challenge.rw_trimmedlogs_k13_known_finding).prog [49]) (H := L_k13_known_finding.hk) (ob := L_k13_known_finding.ob) (M := 20000) (loose := L_k13_known_finding.nms) (d := HandSHeadRun.topDef (OpenLaw.row PySem.Challenge.rw_trimmedlogs_k13_known_finding).prog 49) (kwd := []) L_k13_known_finding.ob_eq
    (by kernel_rfl) (fun s => by kernel_rfl) L_k13_known_finding.run (by kernel_rfl) (by kernel_rfl) (by kernel_rfl) (by rfl) (by first | assumption | decide +kernel) (by decide +kernel) ⟨rfl, rfl, rfl, rfl, rfl, by decide +kernel⟩ ?hw ?hc
  case hw => w_witness2
  case hc =>
    refine L2.walk_ofE (l := PySem.Challenge.rw_trimmedlogs_k13_known_finding) (n := 63) (k := 10) (x := "_law_script") (CX := L2.CX0) rfl (by decide) (by kernel_rfl) ⟨rfl, by decide, by decide⟩ ?F (fun _ _ _ _ z => z)
    intro w mg fa h Y G hmg0
    obtain ⟨K, KX, c⟩ := Y
    have hmg : mg ("law" : PySem.Str) = some (.ref fa) := by
      have e : (HandSHeadRun.topDef (OpenLaw.row PySem.Challenge.rw_trimmedlogs_k13_known_finding).prog 49).name = ("law" : PySem.Str) := by kernel_rfl
      rw [← e]
      exact hmg0
    obtain ⟨fd, hb, hF⟩ := L_k13_known_finding.law_all (P := (PySem.Challenge.rw_trimmedlogs_k13_known_finding).prog) (w := w) KX G hmg c
    exact ⟨K, fd, TL.spOf (L_k13_known_finding.FX.tb K w) 1 L_k13_known_finding.f_law, KX, hb, fun H a ns hl hO hS => TL.law_sp hO hS (L_k13_known_finding.goal ns hl), hF⟩
