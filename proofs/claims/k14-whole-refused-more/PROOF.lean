import PyProof.Rows.All
import Wide.All
import OpenK.AllK
import Wide.FinOn
import HandS.ForMost
import HandS.ForExc
import HandS.HeadHook1
import HandS.EndTab
import KE.KDictKeyed
import KE.KeyNested
import KE.KDictWalk
import HandS.ExcOwn
import HandS.Star
import HandS.TupAny
import HandS.TupMul
import HandS.Deep
import HandS.Wide
import HandS.WideBits
import HandS.IsInst
import HandS.Codes
import HandS.Text
import HandS.RaiseMore
import HandS.More
import HandS.Dict
import HandS.Iter
import HandS.Words
import HandS.WordsExc
import HandS.Defaults
import HandS.MakeKwOnly
import HandS.CallSlots
import HandS.MakeKw
import KE.GoesEnum
import KE.GoesMore
import HandS.DictComp
import PyProof.Rows.TupDisplay
import KE.KDictCopyH
import KE.KDictList
import HandS.TupLen
import HandS.Style
import HandS.Conv
import HandS.ExcCtx
import HandS.SuiteRaise
import HandS.ExcIs
import HandS.ExcField
import KE.KExcSuper
import HandS.ExcSuper
import HandS.Head0
import HandS.Head1
import HandS.Head2
import HandS.HeadEnd
import HandS.HeadHook2
import HandS.HeadHook3
import HandS.HeadHook4
import HandS.HeadWalk
import KE.KNest
import KE.KDictOf
import HandS.SortRule
import KE.KDictSum
import PySem.Challenge.RW_trimmedlogs_k14_whole_refused_more
set_option Elab.async false
set_option linter.all false
set_option maxRecDepth 100000
set_option maxHeartbeats 0
set_option autoImplicit false
namespace TL
open PySem PySem.Spec PyProof.Rows L2
inductive D where
  | non | bl (b : Bool) | int (i : Int) | str (x : Str) | tup (xs : List D) | obj (n : Nat) | kls (xs : List D) | lam (i : Nat)
inductive LO where
  | lst (lk : Bool) (xs : List D) | dct (kd : Bool) (es : List (NestedKey × D × D)) | ins (c : Nat) (fs : List (Nat × D)) | abs (k n m : Nat)
abbrev VO := Nat × LO
inductive Tr where
  | nil | node (l : Tr) (v : Option VO) (r : Tr)
def Tr.get : Tr → Nat → Option VO
  | .nil, _ => none
  | .node _ v _, 0 => v
  | .node l _ r, n + 1 => bif Nat.beq (n % 2) 0 then l.get (n / 2) else r.get (n / 2)
def Tr.sing : Nat → Nat → VO → Tr
  | 0, _, o => .node .nil (some o) .nil
  | _ + 1, 0, o => .node .nil (some o) .nil
  | f + 1, n + 1, o => bif Nat.beq (n % 2) 0 then .node (sing f (n / 2) o) none .nil else .node .nil none (sing f (n / 2) o)
def Tr.set : Tr → Nat → VO → Tr
  | .nil, n, o => sing n n o
  | .node l _ r, 0, o => .node l (some o) r
  | .node l v r, n + 1, o => bif Nat.beq (n % 2) 0 then .node (l.set (n / 2) o) v r else .node l v (r.set (n / 2) o)
structure LH where
  nx : Nat
  tr : Tr
def LH.get (h : LH) (n : Nat) : Option LO := match h.tr.get n with
  | some p => some p.2
  | none => none
def LH.ver (h : LH) (n : Nat) : Nat := match h.tr.get n with
  | some p => p.1
  | none => 0
def LH.put (h : LH) (n : Nat) (o : LO) : LH := ⟨h.nx, h.tr.set n (h.ver n + 1, o)⟩
def LH.new (h : LH) (o : LO) : LH := ⟨h.nx + 1, h.tr.set h.nx (0, o)⟩
inductive Res (α : Type) where
  | ok (a : α) (h : LH) | err (c : Nat) (p : D) (h : LH) | stuck | alt (l r : Res α)
def Res.bindR {α β : Type} (r : Res α) (f : α → LH → Res β) : Res β := match r with
  | .ok a h => f a h
  | .err c p h => .err c p h
  | .stuck => .stuck
  | .alt l r => .alt (l.bindR f) (r.bindR f)
/-- the same, without a recursion where nothing is drawn -/
def Res.bind {α β : Type} (r : Res α) (f : α → LH → Res β) : Res β := match r with
  | .ok a h => f a h
  | .err c p h => .err c p h
  | .stuck => .stuck
  | .alt l r => .alt (l.bindR f) (r.bindR f)
theorem Res.bindR_eq {α β : Type} {f : α → LH → Res β} : ∀ r : Res α, r.bindR f = r.bind f
  | .ok _ _ => rfl
  | .err _ _ _ => rfl
  | .stuck => rfl
  | .alt _ _ => rfl
abbrev Sl := List (Option D)
abbrev ME := Sl → LH → Res D
abbrev MT := Sl → LH → Res Bool
abbrev MA := Sl → LH → Res (List D)
inductive SRes where
  | nx (sl : Sl) (h : LH) | rt (d : D) (h : LH) | bk (sl : Sl) (h : LH) | ct (sl : Sl) (h : LH) | err (sl : Sl) (c : Nat) (p : D) (h : LH) | stuck | alt (l r : SRes)
abbrev MS := Sl → LH → SRes
/-- the written part and the names by number: classes, fields, exceptions (with their field) -/
structure LamI where
  q : Str
  ps : Arguments
  bd : Expr
  sc : Scope
/-- the error at hand: its dict, its field, the field's value -/
structure XfI where
  dd : Addr
  f : Str
  v : V
  p : D
structure Tb where
  K : PySem.W.Frag
  w : World
  cn : List Str
  fn : List Str
  xn : List (Str × Option Str)
  lm : List LamI
  tbs : List (Addr × Str)
  sp : List (Nat × V)
  xf : Option XfI
/-- the locked part -/
def frzP (H : Hp) : Hp := fun b => match H b with
  | some (.frz o u) => some (.frz o u)
  | _ => none
/-- a list that nobody writes: locked, or of the module, or not an own one -/
def SqF (K : PySem.W.Frag) (ρ : List Addr) (H : Hp) (a : Addr) (xs : List V) : Prop := SqL K (frzP H) a xs ∨ (H a = some (.lst xs) ∧ a ∉ ρ)
/-- a lambda without captured names -/
def LamR (T : Tb) (ρ : List Addr) (H : Hp) (i : Nat) (v : V) : Prop := ∃ (f c : Addr) (pm ct : Value) (u : HO) (l : LamI), v = .ref f ∧ T.lm[i]? = some l ∧
  H f = some (.frz (PySem.W.kla_obj "<lambda>" l.q l.ps l.bd l.sc [] pm c ct) u) ∧ H c = some (LamX.CodeO c l.q) ∧ c ∉ ρ
section
variable (T : Tb) (ρ : List Addr) (H : Hp)
mutual
def RelD : D → V → Prop
  | .non, v => v = .non
  | .bl b, v => v = .bl b
  | .int i, v => v = .int i
  | .str x, v => v = .str x
  | .tup ds, v => ∃ a vs, v = .ref a ∧ SqT T.K H a vs ∧ RelDs ds vs
  | .obj n, v => ∃ a, ρ[n]? = some a ∧ v = .ref a
  | .kls ds, v => ∃ a vs, v = .ref a ∧ SqF T.K ρ H a vs ∧ RelDs ds vs
  | .lam i, v => LamR T ρ H i v
def RelDs : List D → List V → Prop
  | [], vs => vs = []
  | d :: ds, vs => ∃ v r, vs = v :: r ∧ RelD d v ∧ RelDs ds r
end
end
/-- a later state: more own things, the same tuples and locked things -/
structure Le0 (ρ : List Addr) (H : Hp) (ρ' : List Addr) (H' : Hp) : Prop where
  pre : ρ <+: ρ'
  tup : ∀ a xs, H a = some (.tup xs) → H' a = some (.tup xs)
  frz : ∀ a o u, H a = some (.frz o u) → H' a = some (.frz o u)
  frm : ∀ a, a ∉ ρ → H a ≠ none → (∀ ps, H a ≠ some (.tbl ps)) → H' a = H a ∧ a ∉ ρ'
theorem Le0.trans {ρ ρ1 ρ2 : List Addr} {H H1 H2 : Hp} (a : Le0 ρ H ρ1 H1) (b : Le0 ρ1 H1 ρ2 H2) : Le0 ρ H ρ2 H2 :=
  ⟨a.pre.trans b.pre, fun c xs e => b.tup c xs (a.tup c xs e), fun c o u e => b.frz c o u (a.frz c o u e), fun c n h t =>
    let ⟨e1, n1⟩ := a.frm c n h t
    let ⟨e2, n2⟩ := b.frm c n1 (by rw [e1]; exact h) (by rw [e1]; exact t)
    ⟨e2.trans e1, n2⟩⟩
theorem Le0.get {ρ ρ' : List Addr} {H H' : Hp} (le : Le0 ρ H ρ' H') {n : Nat} {a : Addr} (h : ρ[n]? = some a) : ρ'[n]? = some a := by
  obtain ⟨t, e⟩ := le.pre
  rw [← e, List.getElem?_append_left (List.getElem?_eq_some_iff.mp h).1]
  exact h
theorem Le0.sqT {K : PySem.W.Frag} {ρ ρ' : List Addr} {H H' : Hp} (le : Le0 ρ H ρ' H') {a : Addr} {xs : List V} (h : SqT K H a xs) : SqT K H' a xs := by
  rcases h with h | h
  · refine .inl ?_
    rcases h with h | ⟨o, h⟩
    · exact .inl (le.tup _ _ h)
    · exact .inr ⟨o, le.frz _ _ _ h⟩
  · exact .inr h
theorem LamR.mono {T : Tb} {ρ ρ' : List Addr} {H H' : Hp} (le : Le0 ρ H ρ' H') {i : Nat} {v : V} : LamR T ρ H i v → LamR T ρ' H' i v
  | ⟨f, c, pm, ct, u, l, h1, h2, h3, h4, h5⟩ => by
    obtain ⟨e, n⟩ := le.frm c h5 (by rw [h4]; simp) (fun ps z => LamX.codeO_ne ps (Option.some.inj (h4.symm.trans z)))
    exact ⟨f, c, pm, ct, u, l, h1, h2, le.frz _ _ _ h3, e.trans h4, n⟩
theorem frzP_eq {H : Hp} {a : Addr} {o : Obj} {u : HO} : frzP H a = some (.frz o u) ↔ H a = some (.frz o u) := by
  unfold frzP
  split
  · rename_i h
    rw [h]
  · rename_i h
    exact ⟨fun e => (nomatch e), fun e => (h _ _ e).elim⟩
theorem frzP_lst {H : Hp} {a : Addr} {xs : List V} (h : frzP H a = some (.lst xs)) : False := by
  unfold frzP at h
  split at h <;> cases h
theorem Le0.sqF {K : PySem.W.Frag} {ρ ρ' : List Addr} {H H' : Hp} (le : Le0 ρ H ρ' H') {a : Addr} {xs : List V} (h : SqF K ρ H a xs) : SqF K ρ' H' a xs := by
  rcases h with (h | h) | ⟨h, n⟩
  · refine .inl (.inl ?_)
    rcases h with h | ⟨o, h⟩
    · exact (frzP_lst h).elim
    · exact .inr ⟨o, frzP_eq.mpr (le.frz _ _ _ (frzP_eq.mp h))⟩
  · exact .inl (.inr h)
  · obtain ⟨e, m⟩ := le.frm a n (by rw [h]; simp) (fun ps z => by rw [h] at z; cases z)
    exact .inr ⟨e.trans h, m⟩
/-- .. and what was not written is as it was -/
structure Le (ρ : List Addr) (lh : LH) (H : Hp) (ρ' : List Addr) (lh' : LH) (H' : Hp) : Prop extends Le0 ρ H ρ' H' where
  ver : ∀ n, n < ρ.length → lh.ver n ≤ lh'.ver n
  same : ∀ (n : Nat) (a : Addr), ρ[n]? = some a → lh.ver n = lh'.ver n → H' a = H a
theorem Le.trans {ρ ρ1 ρ2 : List Addr} {lh lh1 lh2 : LH} {H H1 H2 : Hp} (a : Le ρ lh H ρ1 lh1 H1) (b : Le ρ1 lh1 H1 ρ2 lh2 H2) : Le ρ lh H ρ2 lh2 H2 := by
  have hl : ρ.length ≤ ρ1.length := a.pre.length_le
  refine ⟨a.toLe0.trans b.toLe0, fun n h => Nat.le_trans (a.ver n h) (b.ver n (by omega)), fun n c e hv => ?_⟩
  have hn : n < ρ.length := (List.getElem?_eq_some_iff.mp e).1
  have h1 := a.ver n hn
  have h2 := b.ver n (by omega)
  rw [b.same n c (a.toLe0.get e) (by omega), a.same n c e (by omega)]
section
variable {T : Tb} {ρ ρ' : List Addr} {H H' : Hp}
mutual
theorem RelD.mono (le : Le0 ρ H ρ' H') : ∀ {d : D} {v : V}, RelD T ρ H d v → RelD T ρ' H' d v
  | .non, _, h => h
  | .bl _, _, h => h
  | .int _, _, h => h
  | .str _, _, h => h
  | .tup _, _, ⟨a, vs, e, s, r⟩ => ⟨a, vs, e, le.sqT s, RelDs.mono le r⟩
  | .obj _, _, ⟨a, e, h⟩ => ⟨a, le.get e, h⟩
  | .kls _, _, ⟨a, vs, e, s, r⟩ => ⟨a, vs, e, le.sqF s, RelDs.mono le r⟩
  | .lam _, _, h => LamR.mono le h
theorem RelDs.mono (le : Le0 ρ H ρ' H') : ∀ {ds : List D} {vs : List V}, RelDs T ρ H ds vs → RelDs T ρ' H' ds vs
  | [], _, h => h
  | _ :: _, _, ⟨v, r, e, h1, h2⟩ => ⟨v, r, e, RelD.mono le h1, RelDs.mono le h2⟩
end
theorem RelDs.length : ∀ {ds : List D} {vs : List V}, RelDs T ρ H ds vs → ds.length = vs.length
  | [], _, h => by rw [show _ = [] from h]; rfl
  | _ :: _, _, ⟨v, r, e, _, h2⟩ => by rw [e, List.length_cons, List.length_cons, RelDs.length h2]
theorem RelDs.get : ∀ {ds : List D} {vs : List V} {i : Nat} {d : D}, RelDs T ρ H ds vs → ds[i]? = some d → ∃ v, vs[i]? = some v ∧ RelD T ρ H d v
  | [], _, _, _, _, e => by simp at e
  | d :: ds, _, 0, _, ⟨v, r, e, h1, _⟩, q => by
    simp at q; subst q
    exact ⟨v, by rw [e]; rfl, h1⟩
  | d :: ds, _, i + 1, _, ⟨v, r, e, _, h2⟩, q => by
    obtain ⟨u, h3, h4⟩ := RelDs.get (i := i) h2 (by simpa using q)
    exact ⟨u, by rw [e]; simpa using h3, h4⟩
theorem RelDs.take : ∀ {ds : List D} {vs : List V} (n : Nat), RelDs T ρ H ds vs → RelDs T ρ H (ds.take n) (vs.take n)
  | [], _, _, h => by rw [show _ = [] from h]; simp [RelDs]
  | _ :: _, _, 0, _ => by simp [RelDs]
  | _ :: _, _, n + 1, ⟨v, r, e, h1, h2⟩ => by
    subst e
    exact ⟨v, r.take n, rfl, h1, RelDs.take n h2⟩
theorem RelDs.drop : ∀ {ds : List D} {vs : List V} (n : Nat), RelDs T ρ H ds vs → RelDs T ρ H (ds.drop n) (vs.drop n)
  | [], _, _, h => by rw [show _ = [] from h]; simp [RelDs]
  | d :: ds, _, 0, h => by simpa using h
  | _ :: _, _, n + 1, ⟨v, r, e, h1, h2⟩ => by
    subst e
    exact RelDs.drop n h2
theorem RelDs.set : ∀ {ds : List D} {vs : List V} {d : D} {v : V} (i : Nat), RelDs T ρ H ds vs → RelD T ρ H d v → RelDs T ρ H (ds.set i d) (vs.set i v)
  | [], _, _, _, _, h, _ => by rw [show _ = [] from h]; simp [RelDs]
  | _ :: _, _, _, _, 0, ⟨v, r, e, h1, h2⟩, k => by subst e; exact ⟨_, r, rfl, k, h2⟩
  | _ :: _, _, _, _, i + 1, ⟨v, r, e, h1, h2⟩, k => by subst e; exact ⟨v, r.set i _, rfl, h1, RelDs.set i h2 k⟩
theorem RelDs.eraseIdx : ∀ {ds : List D} {vs : List V} (i : Nat), RelDs T ρ H ds vs → RelDs T ρ H (ds.eraseIdx i) (vs.eraseIdx i)
  | [], _, _, h => by rw [show _ = [] from h]; simp [RelDs]
  | _ :: _, _, 0, ⟨v, r, e, h1, h2⟩ => by subst e; exact h2
  | _ :: _, _, i + 1, ⟨v, r, e, h1, h2⟩ => by subst e; exact ⟨v, r.eraseIdx i, rfl, h1, RelDs.eraseIdx i h2⟩
end
mutual
def toNK : D → Option NestedKey
  | .non => some .none
  | .bl b => some (.num (if b = true then 1 else 0))
  | .int i => some (.num i)
  | .str x => some (.text x)
  | .tup ds => (toNKs ds).map .tup
  | .obj _ => none
  | .kls _ => none
  | .lam _ => none
def toNKs : List D → Option (List NestedKey)
  | [] => some []
  | d :: ds => match toNK d, toNKs ds with
    | some k, some ks => some (k :: ks)
    | _, _ => none
end
/-- a dict by its raw entries, as a thing of the layer -/
def dictO (a : Addr) (es : Array DictEntry) (ep : Nat) : HO := .ext fun h => h.DictRaw a es ep
section
variable (T : Tb) (ρ : List Addr) (H : Hp)
/-- a key's kind: tuples, or whole numbers and texts -/
def KdOk (kd : Bool) (nk : NestedKey) (k : D) : Prop := match kd with
  | true => (∃ ds, k = .tup ds) ∧ nk.depth ≤ 8
  | false => (∃ i, k = .int i) ∨ ∃ x, k = .str x
def EntR (kd : Bool) (x : NestedKey × D × D) (e : DictEntry) : Prop := ∃ kv vv, RelV kv e.key ∧ RelD T ρ H x.2.1 kv ∧ RelV vv e.val ∧ RelD T ρ H x.2.2 vv ∧ toNK x.2.1 = some x.1 ∧ e.hash = x.1.hash T.w ∧ KdOk kd x.1 x.2.1
def EntsR (kd : Bool) : List (NestedKey × D × D) → List DictEntry → Prop
  | [], es => es = []
  | x :: r, es => ∃ e es', es = e :: es' ∧ EntR T ρ H kd x e ∧ EntsR kd r es'
def FsR : List (Nat × D) → List (Str × V) → Prop
  | [], vs => vs = []
  | fd :: r, vs => ∃ x v r', vs = (x, v) :: r' ∧ T.fn[fd.1]? = some x ∧ RelD T ρ H fd.2 v ∧ FsR r r'
def ObjR (a : Addr) : LO → Prop
  | .lst lk ds => ∃ vs, RelDs T ρ H ds vs ∧ (match lk with
    | true => ∃ o, H a = some (.frz o (.lst vs))
    | false => H a = some (.lst vs))
  | .dct kd kvs => (a == sysModules) = false ∧ kvs.length ≤ 100000 ∧ (kvs.map (·.1)).Nodup ∧ ∃ es : Array DictEntry, ∃ ep : Nat, EntsR T ρ H kd kvs es.toList ∧ H a = some (dictO a es ep)
  | .ins c fs => ∃ x dx vfs, T.cn[c]? = some x ∧ H a = some (.ins (He.ga T.K x) dx vfs) ∧ FsR T ρ H fs vfs
  | .abs k n m => match k with
    | 0 => ∃ ns : List Int, H a = some (.lst (ns.map V.int)) ∧ ns.length ≤ n ∧ ∀ z ∈ ns, Builtin.Int.intBits z ≤ 1048576
    | 1 => ∃ (p : Addr) (i : Int), ρ[n]? = some p ∧ H a = some (.lst [.ref p, .int 0, .int i]) ∧ 0 ≤ i ∧ i ≤ (m : Int)
    | _ => False
/-- a thing of the layer: there, no table, no code -/
def Tk (o : Option HO) : Prop := o ≠ none ∧ (∀ ps, o ≠ some (.tbl ps)) ∧ ∀ c q, o ≠ some (LamX.CodeO c q)
/-- a table of code objects -/
def TabR (P : Addr) (q : Str) : Prop := P ∉ ρ ∧ ∃ ps : Array Value, H P = some (.tbl ps) ∧ TriplesOk ps.toList ∧ ∀ (pos : Pos) (cv : Value), codeAmong pos ps.toList = some cv → ∃ c, cv = .ref c ∧ H c = some (LamX.CodeO c q) ∧ c ∉ ρ
structure HR (lh : LH) : Prop where
  len : ρ.length = lh.nx
  nd : ρ.Nodup
  tk : ∀ a ∈ ρ, Tk (H a)
  obj : ∀ n o, lh.get n = some o → ∃ a, ρ[n]? = some a ∧ ObjR T ρ H a o
  tab : ∀ p ∈ T.tbs, TabR ρ H p.1 p.2
structure SR (sl : Sl) (lh : LH) (σ : L2.St) : Prop where
  hr : HR T ρ H lh
  len : sl.length = σ.length
  pin : ∀ q ∈ T.sp, sl[q.1]? = some none → σ[q.1]? = some (some q.2)
  xf : ∀ q, T.xf = some q → H q.dd = some (.xd [(q.f, q.v)]) ∧ q.dd ∉ ρ ∧ RelD T ρ H q.p q.v
  sl : ∀ (i : Nat) (d : D), sl[i]? = some (some d) → ∃ v, σ[i]? = some (some v) ∧ RelD T ρ H d v
end
section
variable {T : Tb} {ρ ρ' : List Addr} {H H' : Hp}
theorem EntR.mono (le : Le0 ρ H ρ' H') {kd : Bool} {x : NestedKey × D × D} {e : DictEntry} : EntR T ρ H kd x e → EntR T ρ' H' kd x e
  | ⟨kv, vv, h1, h2, h3, h4, h5, h6, h7⟩ => ⟨kv, vv, h1, h2.mono le, h3, h4.mono le, h5, h6, h7⟩
theorem EntsR.mono (le : Le0 ρ H ρ' H') {kd : Bool} : ∀ {kvs : List (NestedKey × D × D)} {es : List DictEntry}, EntsR T ρ H kd kvs es → EntsR T ρ' H' kd kvs es
  | [], _, h => h
  | _ :: _, _, ⟨e, es', q, h1, h2⟩ => ⟨e, es', q, h1.mono le, EntsR.mono le h2⟩
theorem EntsR.length {kd : Bool} : ∀ {kvs : List (NestedKey × D × D)} {es : List DictEntry}, EntsR T ρ H kd kvs es → kvs.length = es.length
  | [], _, h => by rw [show _ = [] from h]; rfl
  | _ :: _, _, ⟨e, es', q, h1, h2⟩ => by rw [q, List.length_cons, List.length_cons, EntsR.length h2]
theorem FsR.mono (le : Le0 ρ H ρ' H') : ∀ {fs : List (Nat × D)} {vs : List (Str × V)}, FsR T ρ H fs vs → FsR T ρ' H' fs vs
  | [], _, h => h
  | _ :: _, _, ⟨x, v, r', q, h1, h2, h3⟩ => ⟨x, v, r', q, h1, h2.mono le, FsR.mono le h3⟩
theorem SR.mono {sl : Sl} {lh lh' : LH} {σ : L2.St} (s : SR T ρ H sl lh σ) (le : Le ρ lh H ρ' lh' H') (hr : HR T ρ' H' lh') : SR T ρ' H' sl lh' σ :=
  ⟨hr, s.len, s.pin, fun q e =>
    let ⟨h1, h2, h3⟩ := s.xf q e
    let ⟨e1, n1⟩ := le.toLe0.frm q.dd h2 (by rw [h1]; simp) (fun ps z => by rw [h1] at z; cases z)
    ⟨e1.trans h1, n1, h3.mono le.toLe0⟩, fun i d e => let ⟨v, h1, h2⟩ := s.sl i d e; ⟨v, h1, h2.mono le.toLe0⟩⟩
/-- an own thing is written -/
theorem HR.inj {lh : LH} {n m : Nat} {a : Addr} (h : HR T ρ H lh) (hn : ρ[n]? = some a) (hm : ρ[m]? = some a) : n = m := by
  obtain ⟨l1, e1⟩ := List.getElem?_eq_some_iff.mp hn
  obtain ⟨l2, e2⟩ := List.getElem?_eq_some_iff.mp hm
  exact (List.getElem_inj h.nd).mp (e1.trans e2.symm)
end
end TL
namespace TL
open PySem PySem.Spec PyProof.Rows L2
section
variable (T : Tb) (E : XK)
/-- how an exception of the own world lies in the layer's -/
def ExR (ρ : List Addr) (H : Hp) (c : Nat) (p : D) (cls : Value) (dd : Option Addr) : Prop :=
  ∃ x fo, T.xn[c]? = some (x, fo) ∧ cls = .ref (He.ga T.K x) ∧ match fo with
    | none => dd = none ∧ p = .non
    | some f => ∃ d v, dd = some d ∧ H d = some (.xd [(f, v)]) ∧ d ∉ ρ ∧ RelD T ρ H p v
def PostG {α : Type} (ρ : List Addr) (l0 : LH) (H : Hp) (r : Res α) (W : α → LH → List Addr → Hp → Prop) : Prop := match r with
  | .ok a lh => ∀ ρ' H', Le ρ l0 H ρ' lh H' → HR T ρ' H' lh → W a lh ρ' H'
  | .err c p lh => ∀ ρ' H' cls dd, Le ρ l0 H ρ' lh H' → HR T ρ' H' lh → ExR T ρ' H' c p cls dd → E cls dd H'
  | .stuck => False
  | .alt l r => PostG ρ l0 H l W ∧ PostG ρ l0 H r W
abbrev PostE (ρ : List Addr) (l0 : LH) (H : Hp) (r : Res D) (Q : VK) : Prop := PostG T E ρ l0 H r fun d _ ρ' H' => ∀ v, RelD T ρ' H' d v → Q v H'
end
/-- what is wished of an exception, at the slots -/
abbrev atS (W : WX) (σ : L2.St) : XK := fun cls d H => W cls d σ H
section
variable {T : Tb} {E : XK} {ρ ρ' : List Addr} {l0 l1 : LH} {H H' : Hp} {α β : Type}
theorem PostG.mono {W W' : α → LH → List Addr → Hp → Prop} : ∀ {r : Res α}, PostG T E ρ l0 H r W → (∀ a lh ρ' H', Le ρ l0 H ρ' lh H' → HR T ρ' H' lh → W a lh ρ' H' → W' a lh ρ' H') → PostG T E ρ l0 H r W'
  | .ok a lh, h, k => fun ρ' H' le hr => k a lh ρ' H' le hr (h ρ' H' le hr)
  | .err c p lh, h, _ => h
  | .stuck, h, _ => h
  | .alt l r, h, k => ⟨PostG.mono (r := l) h.1 k, PostG.mono (r := r) h.2 k⟩
theorem PostG.later {W : α → LH → List Addr → Hp → Prop} : ∀ {r : Res α}, PostG T E ρ l0 H r W → Le ρ l0 H ρ' l1 H' → PostG T E ρ' l1 H' r W
  | .ok a lh, h, le => fun ρ2 H2 le2 hr => h ρ2 H2 (le.trans le2) hr
  | .err c p lh, h, le => fun ρ2 H2 cls dd le2 hr ex => h ρ2 H2 cls dd (le.trans le2) hr ex
  | .stuck, h, _ => h
  | .alt l r, h, le => ⟨PostG.later (r := l) h.1 le, PostG.later (r := r) h.2 le⟩
theorem PostG.bind {k : α → LH → Res β} {W : β → LH → List Addr → Hp → Prop} : ∀ {r : Res α}, PostG T E ρ l0 H (r.bind k) W → PostG T E ρ l0 H r fun a lh ρ' H' => PostG T E ρ' lh H' (k a lh) W
  | .ok a lh, h => fun ρ' H' le hr => PostG.later (r := k a lh) h le
  | .err c p lh, h => h
  | .stuck, h => h
  | .alt l r, h => ⟨PostG.bind (r := l) (Res.bindR_eq l ▸ h.1), PostG.bind (r := r) (Res.bindR_eq r ▸ h.2)⟩
theorem PostE.ok {d : D} {lh : LH} {Q : VK} {v : V} (h : PostE T E ρ l0 H (.ok d lh) Q) (le : Le ρ l0 H ρ' lh H') (hr : HR T ρ' H' lh) (r : RelD T ρ' H' d v) : Q v H' := h ρ' H' le hr v r
end
def noErrR {α : Type} (r : Res α) : Res α := match r with
  | .err _ _ _ => .stuck
  | .alt l r => .alt (noErrR l) (noErrR r)
  | .ok a h => .ok a h
  | .stuck => .stuck
def noErr {α : Type} (r : Res α) : Res α := match r with
  | .err _ _ _ => .stuck
  | .alt l r => .alt (noErrR l) (noErrR r)
  | .ok a h => .ok a h
  | .stuck => .stuck
section
variable {T : Tb} {W : WX} {E : XK} {X : Cx} {σ : L2.St} {H : Hp} {Q : VK}
def mVar (i : Nat) : ME := fun sl h => match sl[i]? with
  | some (some d) => .ok d h
  | _ => .stuck
def mC (d : D) : ME := fun _ h => .ok d h
def m2 (f : D → D → LH → Res D) (ma mb : ME) : ME := fun sl h => (ma sl h).bind fun x h1 => (mb sl h1).bind fun y h2 => noErr (f x y h2)
def m1 (f : D → LH → Res D) (ma : ME) : ME := fun sl h => (ma sl h).bind fun x h1 => noErr (f x h1)
/-- truth that is known to be a bool -/
def toB (d : D) (h : LH) : Res Bool := match d with
  | .bl b => .ok b h
  | _ => .stuck
def mB (m : ME) : MT := fun sl h => (m sl h).bind toB
def mAndV (ma mb : ME) : ME := fun sl h => (ma sl h).bind fun x h1 => (toB x h1).bind fun b h2 => match b with
  | true => mb sl h2
  | false => .ok (.bl false) h2
def mOrV (ma mb : ME) : ME := fun sl h => (ma sl h).bind fun x h1 => (toB x h1).bind fun b h2 => match b with
  | true => .ok (.bl true) h2
  | false => mb sl h2
def mNotV (ma : ME) : ME := fun sl h => (ma sl h).bind fun x h1 => (toB x h1).bind fun b h2 => .ok (.bl (!b)) h2
def mAnd (ma mb : MT) : MT := fun sl h => (ma sl h).bind fun b h1 => match b with
  | true => mb sl h1
  | false => .ok false h1
def mOr (ma mb : MT) : MT := fun sl h => (ma sl h).bind fun b h1 => match b with
  | true => .ok true h1
  | false => mb sl h1
def mNot (ma : MT) : MT := fun sl h => (ma sl h).bind fun b h1 => .ok (!b) h1
def mIf (mt : MT) (ma mb : ME) : ME := fun sl h => (mt sl h).bind fun b h1 => match b with
  | true => ma sl h1
  | false => mb sl h1
/-- a op b op' c -/
def mChain (f g : D → D → LH → Res D) (ma mb mc : ME) : ME := fun sl h => (ma sl h).bind fun x h1 => (mb sl h1).bind fun y h2 => (noErr (f x y h2)).bind fun z h3 => (toB z h3).bind fun k h4 => match k with
  | true => (mc sl h4).bind fun w h5 => noErr (g y w h5)
  | false => .ok (.bl false) h4
def aNil : MA := fun _ h => .ok [] h
def aCons (m : ME) (ms : MA) : MA := fun sl h => (m sl h).bind fun x h1 => (ms sl h1).bind fun xs h2 => .ok (x :: xs) h2
/-- the items of a list or tuple -/
def itemsOf (d : D) (h : LH) : Option (List D) := match d with
  | .tup xs => some xs
  | .kls xs => some xs
  | .obj n => match h.get n with
    | some (.lst _ xs) => some xs
    | _ => none
  | _ => none
def aStar (m : ME) (ms : MA) : MA := fun sl h => (m sl h).bind fun x h1 => match itemsOf x h1 with
  | some xs => (ms sl h1).bind fun ys h2 => .ok (xs ++ ys) h2
  | none => .stuck
def tooLong : Nat := 100000
def mTup (ms : MA) : ME := fun sl h => (ms sl h).bind fun xs h1 => bif Nat.ble xs.length tooLong then .ok (.tup xs) h1 else .stuck
def mLst (ms : MA) : ME := fun sl h => (ms sl h).bind fun xs h1 => bif Nat.ble xs.length tooLong then .ok (.obj h1.nx) (h1.new (.lst false xs)) else .stuck
end
end TL
namespace TL
open PySem PySem.Spec PyProof.Rows L2
def strEq (x y : Str) : Bool := x.cps.toList == y.cps.toList
def vAdd (a b : D) (h : LH) : Res D := match a, b with
  | .int i, .int j => .ok (.int (i + j)) h
  | .str x, .str y => bif Nat.ble (x.length + y.length) tooLong then .ok (.str (x ++ y)) h else .stuck
  | .tup xs, .tup ys => bif Nat.ble (xs.length + ys.length) tooLong then .ok (.tup (xs ++ ys)) h else .stuck
  | .obj n, .obj m => match h.get n, h.get m with
    | some (.lst false xs), some (.lst false ys) => bif Nat.ble (xs.length + ys.length) tooLong then .ok (.obj h.nx) (h.new (.lst false (xs ++ ys))) else .stuck
    | _, _ => .stuck
  | _, _ => .stuck
def vSub (a b : D) (h : LH) : Res D := match a, b with
  | .int i, .int j => .ok (.int (i - j)) h
  | _, _ => .stuck
def vMul (a b : D) (h : LH) : Res D := match a, b with
  | .int i, .int j => bif Nat.ble (i.natAbs.log2 + j.natAbs.log2) 100000000 then .ok (.int (i * j)) h else .stuck
  | .tup xs, .int k => bif Nat.ble 1 xs.length && Nat.ble xs.length 1000 && decide (2 ≤ k) && decide (k ≤ 1000) then .ok (.tup (List.replicate k.toNat xs).flatten) h else .stuck
  | .obj n, .int k => match h.get n with
    | some (.lst false xs) => bif decide (0 ≤ k) && decide (k ≤ 1000) && Nat.ble xs.length 1000 then .ok (.obj h.nx) (h.new (.lst false (List.replicate k.toNat xs).flatten)) else .stuck
    | _ => .stuck
  | _, _ => .stuck
def vDiv (a b : D) (h : LH) : Res D := match a, b with
  | .int i, .int j => bif decide (0 < j) && Nat.blt j.natAbs.log2 9000 then .ok (.int (i / j)) h else .stuck
  | _, _ => .stuck
def vMod (a b : D) (h : LH) : Res D := match a, b with
  | .int i, .int j => bif decide (0 < j) then .ok (.int (i % j)) h else .stuck
  | _, _ => .stuck
def vPow (a b : D) (h : LH) : Res D := match a, b with
  | .int i, .int j => bif decide (0 ≤ j) && decide (j ≤ 1000) && Nat.blt i.natAbs 1000000 then .ok (.int (i ^ j.toNat)) h else .stuck
  | _, _ => .stuck
def vNeg (a : D) (h : LH) : Res D := match a with
  | .int i => .ok (.int (-i)) h
  | _ => .stuck
def vBin : Operator → D → D → LH → Res D
  | .Add => vAdd
  | .Sub => vSub
  | .Mult => vMul
  | .FloorDiv => vDiv
  | .Mod => vMod
  | .Pow => vPow
  | _ => fun _ _ _ => .stuck
section
variable {T : Tb} {E : XK} {X : Cx}
theorem band {a b : Bool} (h : (a && b) = true) : a = true ∧ b = true := Bool.and_eq_true_iff.mp h
end
def sOk (x : Str) : Bool := PyData.strOk x
def pyOf : Nat → LH → D → Option PyData
  | 0, _, _ => none
  | n + 1, h, d => match d with
    | .non => some .none
    | .bl b => some (.bool b)
    | .int i => some (.int i)
    | .str x => bif sOk x then some (.str x) else none
    | .tup ds => (ds.mapM (pyOf n h)).map .tuple
    | .obj k => match h.get k with
      | some (.lst _ ds) => (ds.mapM (pyOf n h)).map .list
      | _ => none
    | .kls _ => none
    | .lam _ => none
/-- == of flat values of kinds that the layer tells apart -/
def feq : D → D → Option Bool
  | .int i, .int j => some (decide (i = j))
  | .str x, .str y => some (strEq x y)
  | .non, .non => some true
  | .bl a, .bl b => some (a == b)
  | .non, .int _ => some false | .int _, .non => some false | .non, .bl _ => some false | .bl _, .non => some false | .non, .str _ => some false | .str _, .non => some false
  | .int _, .str _ => some false | .str _, .int _ => some false | .bl _, .str _ => some false | .str _, .bl _ => some false
  | _, _ => none
/-- two lists that are told apart by their lengths, or are both empty -/
def leq (a b : D) (h : LH) : Option Bool := match a, b with
  | .obj n, .obj m => match h.get n, h.get m with
    | some (.lst _ []), some (.lst _ []) => some true
    | some (.lst _ []), some (.lst _ (_ :: _)) => some false
    | some (.lst _ (_ :: _)), some (.lst _ []) => some false
    | _, _ => none
  | _, _ => none
def deq (a b : D) (h : LH) : Option Bool := match feq a b with
  | some k => some k
  | none => match leq a b h with
    | some k => some k
    | none => match pyOf 60 h a, pyOf 60 h b with
      | some x, some y => some (PyData.eqv x y)
      | _, _ => none
def okB (o : Option Bool) (h : LH) : Res D := match o with
  | some k => .ok (.bl k) h
  | none => .stuck
def vEq (a b : D) (h : LH) : Res D := okB (deq a b h) h
def vNe (a b : D) (h : LH) : Res D := okB ((deq a b h).map fun k => !k) h
def vCmpI (p : Int → Int → Bool) (a b : D) (h : LH) : Res D := match a, b with
  | .int i, .int j => .ok (.bl (p i j)) h
  | _, _ => .stuck
def isNon : D → Bool
  | .non => true
  | _ => false
def vIs (neg : Bool) (a b : D) (h : LH) : Res D := match b with
  | .non => .ok (.bl (bif neg then !isNon a else isNon a)) h
  | _ => .stuck
def flatOf : D → Option V
  | .non => some .non
  | .bl b => some (.bl b)
  | .int i => some (.int i)
  | .str x => some (.str x)
  | _ => none
def flatsOf : List D → Option (List V)
  | [] => some []
  | d :: ds => match flatOf d, flatsOf ds with
    | some v, some vs => some (v :: vs)
    | _, _ => none
end TL
namespace TL
open PySem PySem.Spec PyProof.Rows L2
def vIdxS (a b : D) (h : LH) : Res D := match b with
  | .int i => match itemsOf a h with
    | some xs => match atI xs i with
      | some d => .ok d h
      | none => .stuck
    | none => .stuck
  | _ => .stuck
def cutL {α : Type} (xs : List α) (lo hi : Option Int) : List α := (xs.drop (HT.sIx xs.length 0 lo)).take (HT.sIx xs.length xs.length hi - HT.sIx xs.length 0 lo)
def vSl (a : D) (lo hi : Option Int) (h : LH) : Res D := match a with
  | .tup xs => .ok (.tup (cutL xs lo hi)) h
  | .kls xs => .ok (.obj h.nx) (h.new (.lst false (cutL xs lo hi)))
  | .str x => bif Nat.ble x.length tooLong then .ok (.str (Txt.slice x lo hi)) h else .stuck
  | .obj n => match h.get n with
    | some (.lst _ xs) => .ok (.obj h.nx) (h.new (.lst false (cutL xs lo hi)))
    | _ => .stuck
  | _ => .stuck
section
variable {T : Tb} {E : XK} {X : Cx} {ρ : List Addr} {H : Hp} {lh : LH} {σ : L2.St} {Q : VK}
/-- an optional bound of a slice -/
abbrev MO := Sl → LH → Res (Option Int)
def oNone : MO := fun _ h => .ok none h
def oSome (m : ME) : MO := fun sl h => (m sl h).bind fun d h1 => match d with
  | .int i => .ok (some i) h1
  | _ => .stuck
def mSl (m : ME) (ml mh : MO) : ME := fun sl h => (m sl h).bind fun d h1 => (ml sl h1).bind fun lo h2 => (mh sl h2).bind fun hi h3 => noErr (vSl d lo hi h3)
end
def vInS (neg : Bool) (a b : D) (h : LH) : Res D := match b with
  | .str y => match a with
    | .str x => .ok (.bl (bif neg then !(!(Builtin.Str.occurrences y x 0 y.length 1).isEmpty) else !(Builtin.Str.occurrences y x 0 y.length 1).isEmpty)) h
    | _ => .stuck
  | .tup ys => match flatOf a, flatsOf ys with
    | some x, some zs => .ok (.bl (bif neg then !inV x zs else inV x zs)) h
    | _, _ => .stuck
  | .obj n => match h.get n with
    | some (.lst _ ys) => match pyOf 60 h a, ys.mapM (pyOf 59 h) with
      | some x, some zs => .ok (.bl (bif neg then !(zs.any fun z => PyData.eqv z x) else zs.any fun z => PyData.eqv z x)) h
      | _, _ => .stuck
    | _ => .stuck
  | _ => .stuck
def boolsOf : List D → Option (List Bool)
  | [] => some []
  | .bl i :: r => (boolsOf r).map (i :: ·)
  | _ :: _ => none
def lstAt (d : D) (h : LH) : Option (List D) := match d with
  | .kls xs => some xs
  | .obj n => match h.get n with
    | some (.lst _ xs) => some xs
    | _ => none
  | _ => none
def f1 (f : D → LH → Res D) (ds : List D) (h : LH) : Res D := match ds with
  | [d] => f d h
  | _ => .stuck
def f2 (f : D → D → LH → Res D) (ds : List D) (h : LH) : Res D := match ds with
  | [d, e] => f d e h
  | _ => .stuck
def bMin : D → D → LH → Res D
  | .int i, .int j, h => .ok (.int (if j < i then j else i)) h
  | _, _, _ => .stuck
def bAll (d : D) (h : LH) : Res D := match lstAt d h with
  | some xs => match boolsOf xs with
    | some is => .ok (.bl (is.all id)) h
    | none => .stuck
  | none => .stuck
def bAny (d : D) (h : LH) : Res D := match lstAt d h with
  | some xs => match boolsOf xs with
    | some is => .ok (.bl (is.any id)) h
    | none => .stuck
  | none => .stuck
def bLenS (d : D) (h : LH) : Res D := match d with
  | .str x => bif Nat.ble x.length tooLong then .ok (.int x.length) h else .stuck
  | d => match itemsOf d h with
    | some xs => .ok (.int xs.length) h
    | none => .stuck
def bTup (d : D) (h : LH) : Res D := match itemsOf d h with
  | some xs => .ok (.tup xs) h
  | none => .stuck
end TL
namespace TL
open PySem PySem.Spec PyProof.Rows L2
abbrev Ent := NestedKey × D × D
def dfind : List Ent → NestedKey → Option D
  | [], _ => none
  | x :: r, nk => bif NestedKey.beq x.1 nk then some x.2.2 else dfind r nk
def dset (kvs : List Ent) (nk : NestedKey) (k v : D) : List Ent :=
  bif kvs.any (fun x => NestedKey.beq x.1 nk) then kvs.map (fun x => bif NestedKey.beq x.1 nk then (x.1, x.2.1, v) else x) else kvs ++ [(nk, k, v)]
/-- a key: its kind, what it is up to == -/
def keyOf : D → Option (Bool × NestedKey)
  | .int i => some (false, .num i)
  | .str x => some (false, .text x)
  | .tup ds => match toNKs ds with
    | some ks => bif Nat.ble (NestedKey.depthAll ks) 7 then some (true, .tup ks) else none
    | none => none
  | _ => none
/-- the dict at d, asked by a key of its kind -/
def dictAt (d k : D) (h : LH) : Option (Nat × NestedKey × Bool × List Ent) := match d with
  | .obj n => match h.get n with
    | some (.dct kd kvs) => match keyOf k with
      | some (kk, nk) => bif kvs.isEmpty || (kd == kk) then some (n, nk, kk, kvs) else none
      | none => none
    | _ => none
  | _ => none
def dLook (d k : D) (h : LH) : Option (Option D) := (dictAt d k h).map fun z => dfind z.2.2.2 z.2.1
section
variable {T : Tb} {E : XK} {X : Cx} {pins : List (Addr × Obj)} {σ : L2.St} {H : Hp} {s : Shared} {ρ : List Addr} {lh : LH}
/-- d[k] = v -/
def vPut (d k v : D) (h : LH) : Res Unit := match dictAt d k h with
  | some (n, nk, kk, kvs) => bif Nat.ble kvs.length 90000 then .ok () (h.put n (.dct kk (dset kvs nk k v))) else .stuck
  | none => .stuck
end
end TL
namespace TL
open PySem PySem.Spec PyProof.Rows L2
def tyNames : List String := ["NoneType", "bool", "int", "str", "list", "tuple", "dict"]
structure ClsF (K : PySem.W.Frag) (C : Addr) : Prop where
  cls : Cls K C
  ha : PySem.W.findIn K (.ref C) "__class__" = some (some (.builtin "object.__class__"))
  hn : PySem.W.specialIn K (.builtin "object.__class__") "__get__" = some (some (.builtin "getset_descriptor.__get__"))
  htk : PySem.W.takesIn K (.builtin "object.__class__") = some true
  hm : PySem.W.mroIn K C (.type "object") = some true
structure Tb.Ok (T : Tb) : Prop where
  fnd : T.fn.Nodup
  cls : ∀ x ∈ T.cn, ClsF T.K (He.ga T.K x)
  noat : ∀ x ∈ T.cn, ∀ f ∈ T.fn, NoAttr T.K (He.ga T.K x) f
  isT : ∀ a ∈ tyNames, ∀ x ∈ T.cn, PySem.W.kitOne T.K (.type a) (.ref (He.ga T.K x)) = some false
  isO : ∀ x ∈ T.cn, ∀ y ∈ T.cn, PySem.W.kitOne T.K (.ref (He.ga T.K x)) (.ref (He.ga T.K y)) = some (decide (x = y))
  isB : ∀ x ∈ T.cn, ∀ a ∈ tyNames, PySem.W.kitOne T.K (.ref (He.ga T.K x)) (.type a) = some false
  cnd : T.cn.Nodup
def flook : List (Nat × D) → Nat → Option D
  | [], _ => none
  | x :: r, f => bif Nat.beq x.1 f then some x.2 else flook r f
def fput : List (Nat × D) → Nat → D → List (Nat × D)
  | [], f, d => [(f, d)]
  | x :: r, f, d => bif Nat.beq x.1 f then (x.1, d) :: r else x :: fput r f d
def vFld (f : Nat) (d : D) (h : LH) : Res D := match d with
  | .obj n => match h.get n with
    | some (.ins _ fs) => match flook fs f with
      | some v => .ok v h
      | none => .stuck
    | _ => .stuck
  | _ => .stuck
def vFset (f : Nat) (d v : D) (h : LH) : Res Unit := match d with
  | .obj n => match h.get n with
    | some (.ins c fs) => bif Nat.ble fs.length 900 then .ok () (h.put n (.ins c (fput fs f v))) else .stuck
    | _ => .stuck
  | _ => .stuck
section
variable {T : Tb} {E : XK} {X : Cx} {ρ : List Addr} {H : Hp} {lh : LH} {σ : L2.St} {Q : VK}
theorem FsR.length : ∀ {fs : List (Nat × D)} {vs : List (Str × V)}, FsR T ρ H fs vs → fs.length = vs.length
  | [], vs, h => by rw [show vs = [] from h]; rfl
  | _ :: _, _, ⟨_, _, _, ev, _, _, h3⟩ => by rw [ev, List.length_cons, List.length_cons, FsR.length h3]
end
def lApp (d : D) (ds : List D) (h : LH) : Res D := match d, ds with
  | .obj n, [y] => match h.get n with
    | some (.lst false xs) => bif Nat.ble xs.length tooLong then .ok .non (h.put n (.lst false (xs ++ [y]))) else .stuck
    | _ => .stuck
  | _, _ => .stuck
def lPop (d : D) (ds : List D) (h : LH) : Res D := match d, ds with
  | .obj n, [.int i] => match h.get n with
    | some (.lst false xs) => match ixN xs.length i with
      | some k => match xs[k]? with
        | some y => .ok y (h.put n (.lst false (xs.eraseIdx k)))
        | none => .stuck
      | none => .stuck
    | _ => .stuck
  | .obj n, [] => match h.get n with
    | some (.lst false xs) => match xs[xs.length - 1]? with
      | some y => .ok y (h.put n (.lst false xs.dropLast))
      | none => .stuck
    | _ => .stuck
  | _, _ => .stuck
end TL
namespace TL
open PySem PySem.Spec PyProof.Rows L2
def tyCode (d : D) (h : LH) : Option Nat := match d with
  | .non => some 0
  | .bl _ => some 1
  | .int _ => some 2
  | .str _ => some 3
  | .tup _ => some 5
  | .obj n => match h.get n with
    | some (.lst _ _) => some 4
    | some (.dct _ _) => some 6
    | some (.ins c _) => some (7 + c)
    | _ => none
  | .kls _ => none
  | .lam _ => none
def isiR (t c : Nat) : Bool := Nat.beq t c || (Nat.beq t 1 && Nat.beq c 2)
def vIsi (cs : List Nat) (d : D) (h : LH) : Res D := match tyCode d h with
  | some t => .ok (.bl (cs.any (isiR t))) h
  | none => .stuck
abbrev Fn := List D → LH → Res D
def spOf (T : Tb) (n : Nat) (g : Fn) : Sp := fun vs H Q E => vs.length = n ∧ ∃ ρ lh ds, HR T ρ H lh ∧ RelDs T ρ H ds vs ∧ PostE T E ρ lh H (g ds lh) Q
def mCall (n : Nat) (g : Fn) (ms : MA) : ME := fun sl h => (ms sl h).bind fun ds h1 => bif Nat.beq ds.length n then g ds h1 else .stuck
def mMake (c n : Nat) (g : Fn) (ms : MA) : ME := fun sl h => (ms sl h).bind fun ds h1 => bif Nat.beq (ds.length + 1) n then (g (.obj h1.nx :: ds) (h1.new (.ins c []))).bind fun r h2 => match r with
  | .non => .ok (.obj h1.nx) h2
  | _ => .stuck else .stuck
section
variable {T : Tb} {E : XK} {X : Cx} {ρ : List Addr} {H : Hp} {lh : LH} {σ : L2.St} {Q : VK}
/-- keywords: f puts the positional arguments and the keywords' in the parameters' order -/
def mMakeK (c n m l : Nat) (f : List D → List D → List D) (g : Fn) (ms mk : MA) : ME := fun sl h => (ms sl h).bind fun ds h1 => (mk sl h1).bind fun zs h2 => bif Nat.beq ds.length m && Nat.beq zs.length l && Nat.beq (f ds zs).length n then (g (.obj h2.nx :: f ds zs) (h2.new (.ins c []))).bind fun r h3 => match r with
  | .non => .ok (.obj h2.nx) h3
  | _ => .stuck else .stuck
end
/-- the def for a class: its number of parameters, the def -/
abbrev MTab := List (Nat × Nat × Fn)
def mtLook : MTab → Nat → Option (Nat × Fn)
  | [], _ => none
  | x :: r, c => bif Nat.beq x.1 c then some x.2 else mtLook r c
def clsAt (d : D) (h : LH) : Option Nat := match d with
  | .obj n => match h.get n with
    | some (.ins c _) => some c
    | _ => none
  | _ => none
def mMeth (mt : MTab) (mo : ME) (ms : MA) : ME := fun sl h => (mo sl h).bind fun o h1 => match clsAt o h1 with
  | some c => match mtLook mt c with
    | some (n, g) => (ms sl h1).bind fun ds h2 => bif Nat.beq (ds.length + 1) n then g (o :: ds) h2 else .stuck
    | none => .stuck
  | none => .stuck
section
variable {T : Tb} {E : XK} {X : Cx} {ρ : List Addr} {H : Hp} {lh : LH} {σ : L2.St} {Q : VK} {CX : CXT}
/-- a built-in method of a list -/
def mBm (f : D → List D → LH → Res D) (mo : ME) (ms : MA) : ME := fun sl h => (mo sl h).bind fun o h1 => match lstAt o h1 with
  | some _ => (ms sl h1).bind fun ds h2 => noErr (f o ds h2)
  | none => .stuck
/-- a built-in function -/
def mFn (f : Fn) (ms : MA) : ME := fun sl h => (ms sl h).bind fun ds h1 => noErr (f ds h1)
end
end TL
namespace TL
open PySem PySem.Spec PyProof.Rows L2
section
variable (T : Tb) (W : WX)
def PostS (ρ : List Addr) (l0 : LH) (H : Hp) (r : SRes) (Dd : Ends) : Prop := match r with
  | .nx sl lh => ∀ ρ' H' σ', Le ρ l0 H ρ' lh H' → SR T ρ' H' sl lh σ' → Dd.nx σ' H'
  | .bk sl lh => ∀ ρ' H' σ', Le ρ l0 H ρ' lh H' → SR T ρ' H' sl lh σ' → Dd.bk σ' H'
  | .ct sl lh => ∀ ρ' H' σ', Le ρ l0 H ρ' lh H' → SR T ρ' H' sl lh σ' → Dd.ct σ' H'
  | .rt d lh => ∀ ρ' H' v, Le ρ l0 H ρ' lh H' → HR T ρ' H' lh → RelD T ρ' H' d v → Dd.rt v H'
  | .err sl c p lh => ∀ ρ' H' σ' cls dd, Le ρ l0 H ρ' lh H' → SR T ρ' H' sl lh σ' → ExR T ρ' H' c p cls dd → W cls dd σ' H'
  | .stuck => False
  | .alt l r => PostS ρ l0 H l Dd ∧ PostS ρ l0 H r Dd
end
def Res.toSR {α : Type} (r : Res α) (sl : Sl) (f : α → LH → SRes) : SRes := match r with
  | .ok a h => f a h
  | .err c p h => .err sl c p h
  | .stuck => .stuck
  | .alt l r => .alt (l.toSR sl f) (r.toSR sl f)
def Res.toS {α : Type} (r : Res α) (sl : Sl) (f : α → LH → SRes) : SRes := match r with
  | .ok a h => f a h
  | .err c p h => .err sl c p h
  | .stuck => .stuck
  | .alt l r => .alt (l.toSR sl f) (r.toSR sl f)
theorem Res.toSR_eq {α : Type} {sl : Sl} {f : α → LH → SRes} : ∀ r : Res α, r.toSR sl f = r.toS sl f
  | .ok _ _ => rfl
  | .err _ _ _ => rfl
  | .stuck => rfl
  | .alt _ _ => rfl
/-- what goes on behind a statement: at its end, at a break, at a continue -/
def SRes.onR (r : SRes) (n b c : Sl → LH → SRes) : SRes := match r with
  | .nx sl h => n sl h
  | .bk sl h => b sl h
  | .ct sl h => c sl h
  | .rt d h => .rt d h
  | .err sl c p h => .err sl c p h
  | .stuck => .stuck
  | .alt l r => .alt (l.onR n b c) (r.onR n b c)
def SRes.on (r : SRes) (n b c : Sl → LH → SRes) : SRes := match r with
  | .nx sl h => n sl h
  | .bk sl h => b sl h
  | .ct sl h => c sl h
  | .rt d h => .rt d h
  | .err sl c p h => .err sl c p h
  | .stuck => .stuck
  | .alt l r => .alt (l.onR n b c) (r.onR n b c)
theorem SRes.onR_eq {n b c : Sl → LH → SRes} : ∀ r : SRes, r.onR n b c = r.on n b c
  | .nx _ _ => rfl
  | .bk _ _ => rfl
  | .ct _ _ => rfl
  | .rt _ _ => rfl
  | .err _ _ _ _ => rfl
  | .stuck => rfl
  | .alt _ _ => rfl
section
variable {T : Tb} {W : WX} {E : XK} {ρ ρ' : List Addr} {l0 l1 : LH} {H H' : Hp} {α : Type} {Dd : Ends}
theorem PostS.later : ∀ {r : SRes}, PostS T W ρ l0 H r Dd → Le ρ l0 H ρ' l1 H' → PostS T W ρ' l1 H' r Dd
  | .nx sl lh, h, le => fun ρ2 H2 σ2 le2 s => h ρ2 H2 σ2 (le.trans le2) s
  | .bk sl lh, h, le => fun ρ2 H2 σ2 le2 s => h ρ2 H2 σ2 (le.trans le2) s
  | .ct sl lh, h, le => fun ρ2 H2 σ2 le2 s => h ρ2 H2 σ2 (le.trans le2) s
  | .rt d lh, h, le => fun ρ2 H2 v le2 s r => h ρ2 H2 v (le.trans le2) s r
  | .err sl c p lh, h, le => fun ρ2 H2 σ2 cls dd le2 s r => h ρ2 H2 σ2 cls dd (le.trans le2) s r
  | .stuck, h, _ => h
  | .alt l r, h, le => ⟨PostS.later (r := l) h.1 le, PostS.later (r := r) h.2 le⟩
theorem PostS.bind {σ : L2.St} {sl : Sl} {k : α → LH → SRes} (sr : SR T ρ H sl l0 σ) : ∀ {r : Res α}, PostS T W ρ l0 H (r.toS sl k) Dd → PostG T (atS W σ) ρ l0 H r fun a lh ρ' H' => PostS T W ρ' lh H' (k a lh) Dd
  | .ok a lh, h => fun ρ' H' le hr => PostS.later (r := k a lh) h le
  | .err c p lh, h => fun ρ' H' cls dd le hr ex => h ρ' H' σ cls dd le (sr.mono le hr) ex
  | .stuck, h => h
  | .alt l r, h => ⟨PostS.bind sr (r := l) (Res.toSR_eq l ▸ h.1), PostS.bind sr (r := r) (Res.toSR_eq r ▸ h.2)⟩
/-- one statement behind another: what is wished of the first -/
theorem PostS.on {n b c : Sl → LH → SRes} {Dd' : Ends} (hn : ∀ sl lh ρ1 H1 σ1, SR T ρ1 H1 sl lh σ1 → PostS T W ρ1 lh H1 (n sl lh) Dd → Dd'.nx σ1 H1) (hb : ∀ sl lh ρ1 H1 σ1, SR T ρ1 H1 sl lh σ1 → PostS T W ρ1 lh H1 (b sl lh) Dd → Dd'.bk σ1 H1)
    (hc : ∀ sl lh ρ1 H1 σ1, SR T ρ1 H1 sl lh σ1 → PostS T W ρ1 lh H1 (c sl lh) Dd → Dd'.ct σ1 H1) (hr : ∀ v H, Dd.rt v H → Dd'.rt v H) : ∀ {r : SRes}, PostS T W ρ l0 H (r.on n b c) Dd → PostS T W ρ l0 H r Dd'
  | .nx sl lh, h => fun ρ1 H1 σ1 le s => hn sl lh ρ1 H1 σ1 s (PostS.later (r := n sl lh) h le)
  | .bk sl lh, h => fun ρ1 H1 σ1 le s => hb sl lh ρ1 H1 σ1 s (PostS.later (r := b sl lh) h le)
  | .ct sl lh, h => fun ρ1 H1 σ1 le s => hc sl lh ρ1 H1 σ1 s (PostS.later (r := c sl lh) h le)
  | .rt d lh, h => fun ρ1 H1 v le s r => hr v H1 (h ρ1 H1 v le s r)
  | .err sl c p lh, h => h
  | .stuck, h => h
  | .alt l r, h => ⟨PostS.on hn hb hc hr (r := l) (SRes.onR_eq l ▸ h.1), PostS.on hn hb hc hr (r := r) (SRes.onR_eq r ▸ h.2)⟩
end
def sSkip : MS := fun sl h => .nx sl h
def sSeq (a b : MS) : MS := fun sl h => (a sl h).on b (fun sl h => .bk sl h) fun sl h => .ct sl h
def sExpr (m : ME) : MS := fun sl h => (m sl h).toS sl fun _ h1 => .nx sl h1
def sRet (m : ME) : MS := fun sl h => (m sl h).toS sl fun d h1 => .rt d h1
def sRetN : MS := fun _ h => .rt .non h
def sIf (t : MT) (a b : MS) : MS := fun sl h => (t sl h).toS sl fun k h1 => match k with
  | true => a sl h1
  | false => b sl h1
def sWhile (t : MT) (b : MS) : Nat → MS
  | 0 => fun _ _ => .stuck
  | n + 1 => fun sl h => (t sl h).toS sl fun k h1 => match k with
    | true => (b sl h1).on (sWhile t b n) (fun sl2 h2 => .nx sl2 h2) (sWhile t b n)
    | false => .nx sl h1
abbrev MG := D → Sl → LH → Res Sl
abbrev MGs := List D → Sl → LH → Res Sl
def gN (i : Nat) : MG := fun d sl h => .ok (sl.set i (some d)) h
def gsNil : MGs := fun ds sl h => match ds with
  | [] => .ok sl h
  | _ => .stuck
def gsCons (g : MG) (gs : MGs) : MGs := fun ds sl h => match ds with
  | d :: r => (g d sl h).bind fun sl1 h1 => gs r sl1 h1
  | [] => .stuck
def gTupM (n : Nat) (gs : MGs) : MG := fun d sl h => match d with
  | .tup ds => bif Nat.beq ds.length n then gs ds sl h else .stuck
  | _ => .stuck
def gAttr (f : Nat) (mo : ME) : MG := fun d sl h => (noErr (mo sl h)).bind fun o h1 => (vFset f o d h1).bind fun _ h2 => .ok sl h2
/-- xs[i] = v, d[k] = v -/
def vSet (o i v : D) (h : LH) : Res Unit := match o with
  | .obj n => match h.get n with
    | some (.lst false xs) => match i with
      | .int k => match ixN xs.length k with
        | some j => .ok () (h.put n (.lst false (xs.set j v)))
        | none => .stuck
      | _ => .stuck
    | some (.dct _ _) => vPut o i v h
    | _ => .stuck
  | _ => .stuck
def gSubM (mo mi : ME) : MG := fun d sl h => (noErr (mo sl h)).bind fun o h1 => (noErr (mi sl h1)).bind fun i h2 => (vSet o i d h2).bind fun _ h3 => .ok sl h3
section
variable {T : Tb} {W : WX} {E : XK} {X : Cx} {ρ : List Addr} {lh : LH} {σ : L2.St} {H : Hp} {v : V} {Q : L2.St → Hp → Prop}
theorem SR.set {sl : Sl} {d : D} (s : SR T ρ H sl lh σ) (i : Nat) (r : RelD T ρ H d v) : SR T ρ H (sl.set i (some d)) lh (σ.set i (some v)) := by
  refine ⟨s.hr, by rw [List.length_set, List.length_set]; exact s.len, fun q hq e => ?_, s.xf, fun j e he => ?_⟩
  · by_cases hj : i = q.1
    · rw [← hj] at e
      have hl : i < sl.length := by
        have := (List.getElem?_eq_some_iff.mp e).1
        rwa [List.length_set] at this
      rw [List.getElem?_set_self hl] at e
      cases e
    · rw [List.getElem?_set_ne hj] at e ⊢
      exact s.pin q hq e
  by_cases hj : i = j
  · subst hj
    have hl : i < sl.length := by
      have := (List.getElem?_eq_some_iff.mp he).1
      rwa [List.length_set] at this
    rw [List.getElem?_set_self hl] at he
    cases he
    exact ⟨v, List.getElem?_set_self (by rw [← s.len]; exact hl), r⟩
  · rw [List.getElem?_set_ne hj] at he
    rw [List.getElem?_set_ne hj]
    exact s.sl j e he
def sAsg (m : ME) (g : MG) : MS := fun sl h => (m sl h).toS sl fun d h1 => (noErr (g d sl h1)).toS sl fun sl2 h2 => .nx sl2 h2
/-- a, b = x, y of plain names -/
def sPar (i j : Nat) (ms : MA) : MS := fun sl h => (ms sl h).toS sl fun ds h1 => match ds with
  | [d, e] => .nx ((sl.set i (some d)).set j (some e)) h1
  | _ => .stuck
/-- x += e -/
def sAug (i : Nat) (m : ME) : MS := fun sl h => match sl[i]? with
  | some (some d) => (m sl h).toS sl fun e h1 => match d, e with
    | .int a, .int b => .nx (sl.set i (some (.int (a + b)))) h1
    | _, _ => .stuck
  | _ => .stuck
end
end TL
namespace TL
open PySem PySem.Spec PyProof.Rows L2
abbrev Chk := List (Nat × Nat)
def chkOk : Chk → LH → Bool
  | [], _ => true
  | c :: r, h => Nat.beq (h.ver c.1) c.2 && chkOk r h
abbrev MI := Sl → LH → Res (List D × Chk)
def srcOf (d : D) (h : LH) : Option (List D × Chk) := match d with
  | .tup xs => some (xs, [])
  | .kls xs => some (xs, [])
  | .obj n => match h.get n with
    | some (.lst _ xs) => some (xs, [(n, h.ver n)])
    | some (.dct _ kvs) => some (kvs.map (·.2.1), [(n, h.ver n)])
    | _ => none
  | _ => none
def iAny (m : ME) : MI := fun sl h => (m sl h).bind fun d h1 => match srcOf d h1 with
  | some p => .ok p h1
  | none => .stuck
section
variable {T : Tb} {W : WX} {E : XK} {X : Cx} {ρ ρ0 : List Addr} {lh l0 : LH} {H H0 : Hp} {σ : L2.St}
/-- range(n), range(a, b) -/
def iRange1 (ms : MA) : MI := fun sl h => (ms sl h).bind fun ds h1 => match ds with
  | [.int j] => bif decide (j ≤ 100000) && decide (-100000 ≤ j) then .ok ((List.range j.toNat).map fun (k : Nat) => D.int (0 + (k : Int)), []) h1 else .stuck
  | _ => .stuck
end
end TL
namespace TL
open PySem PySem.Spec PyProof.Rows L2
/-- a list or a tuple: its items, what must not have been written -/
def seqOf (d : D) (h : LH) : Option (List D × Chk) := match d with
  | .tup xs => some (xs, [])
  | .kls xs => some (xs, [])
  | .obj n => match h.get n with
    | some (.lst _ xs) => some (xs, [(n, h.ver n)])
    | _ => none
  | _ => none
def zipD : List D → List D → List D
  | x :: xs, y :: ys => .tup [x, y] :: zipD xs ys
  | _, _ => []
def iZipM (ms : MA) : MI := fun sl h => (ms sl h).bind fun ds h1 => match ds with
  | [a, b] => match seqOf a h1, seqOf b h1 with
    | some p, some q => .ok (zipD p.1 q.1, p.2 ++ q.2) h1
    | _, _ => .stuck
  | _ => .stuck
end TL
namespace TL
open PySem PySem.Spec PyProof.Rows L2
def iItemsM (m : ME) : MI := fun sl h => (m sl h).bind fun d h1 => match d with
  | .obj n => match h1.get n with
    | some (.dct _ kvs) => .ok (kvs.map fun x => D.tup [x.2.1, x.2.2], [(n, h1.ver n)]) h1
    | _ => .stuck
  | _ => .stuck
inductive Tg where
  | nm (i : Nat) | tp (is : List Nat)
def setAll : Sl → List Nat → List D → Sl
  | sl, i :: is, d :: ds => setAll (sl.set i (some d)) is ds
  | sl, _, _ => sl
def tgM (t : Tg) (d : D) (sl : Sl) : Option Sl := match t with
  | .nm i => some (sl.set i (some d))
  | .tp is => match d with
    | .tup ds => bif Nat.beq ds.length is.length then some (setAll sl is ds) else none
    | _ => none
section
variable {T : Tb} {W : WX} {E : XK} {X : Cx} {ρ ρ0 : List Addr} {lh l0 : LH} {H H0 : Hp} {σ : L2.St}
def forD (chk : Chk) (t : Tg) (b : MS) : List D → MS
  | [] => fun sl h => bif chkOk chk h then .nx sl h else .stuck
  | d :: r => fun sl h => bif chkOk chk h then (match tgM t d sl with
    | some sl1 => (b sl1 h).on (forD chk t b r) (fun sl2 h2 => .nx sl2 h2) (forD chk t b r)
    | none => .stuck) else .stuck
def sFor (mi : MI) (t : Tg) (b : MS) : MS := fun sl h => (mi sl h).toS sl fun p h1 => forD p.2 t b p.1 sl h1
def wipeL (sl : Sl) : List Nat → Sl
  | [] => sl
  | v :: vs => (wipeL sl vs).set v none
def lcD (chk : Chk) (t : Tg) (mt : MT) (me : ME) (sl : Sl) (n : Nat) : List D → LH → Res Unit
  | [] => fun h => bif chkOk chk h then .ok () h else .stuck
  | d :: r => fun h => bif chkOk chk h then (match tgM t d sl with
    | some sl1 => (noErr (mt sl1 h)).bind fun b h2 => match b with
      | true => (noErr (me sl1 h2)).bind fun y h3 => match h3.get n with
        | some (.lst false xs) => bif Nat.ble xs.length tooLong then lcD chk t mt me sl n r (h3.put n (.lst false (xs ++ [y]))) else .stuck
        | _ => .stuck
      | false => lcD chk t mt me sl n r h2
    | none => .stuck) else .stuck
def mLc (mi : MI) (t : Tg) (mt : MT) (me : ME) (own : List Nat) : ME := fun sl h => (mi sl h).bind fun p h1 => (lcD p.2 t mt me (wipeL sl own) h1.nx p.1 (h1.new (.lst false []))).bind fun _ h2 => .ok (.obj h1.nx) h2
end
end TL
namespace TL
open PySem PySem.Spec PyProof.Rows L2
def dctAt (d : D) (h : LH) : Option (List Ent) := match d with
  | .obj n => match h.get n with
    | some (.dct _ kvs) => some kvs
    | _ => none
  | _ => none
def vIdx (a b : D) (h : LH) : Res D := match dctAt a h with
  | some _ => match dLook a b h with
    | some (some r) => .ok r h
    | _ => .stuck
  | none => vIdxS a b h
def vIn (neg : Bool) (a b : D) (h : LH) : Res D := match dctAt b h with
  | some _ => match dLook b a h with
    | some o => .ok (.bl (bif neg then !o.isSome else o.isSome)) h
    | none => .stuck
  | none => vInS neg a b h
def bLen (d : D) (h : LH) : Res D := match dctAt d h with
  | some kvs => .ok (.int kvs.length) h
  | none => bLenS d h
section
variable {T : Tb} {W : WX} {E : XK} {X : Cx} {pins : List (Addr × Obj)} {σ : L2.St} {H : Hp} {s : Shared} {ρ : List Addr} {lh : LH}
/-- {k: v, ..} -/
abbrev MP := Sl → LH → Res (List (D × D))
def pNil : MP := fun _ h => .ok [] h
def pCons (mk mv : ME) (r : MP) : MP := fun sl h => (mk sl h).bind fun k h1 => (mv sl h1).bind fun v h2 => (r sl h2).bind fun ps h3 => .ok ((k, v) :: ps) h3
def putAll (o : D) : List (D × D) → LH → Res Unit
  | [], h => .ok () h
  | p :: r, h => (vPut o p.1 p.2 h).bind fun _ h1 => putAll o r h1
def mDict0 : ME := fun _ h => .ok (.obj h.nx) (h.new (.dct false []))
def mDict (mp : MP) : ME := fun sl h => (mp sl (h.new (.dct false []))).bind fun ps h1 => (putAll (.obj h.nx) ps h1).bind fun _ h2 => .ok (.obj h.nx) h2
def tabLook : List (Str × D) → Str → Option D
  | [], _ => none
  | p :: r, x => bif strEq x p.1 then some p.2 else tabLook r x
def mTab (tab : List (Str × D)) (mk : ME) : ME := fun sl h => (mk sl h).bind fun k h1 => match k with
  | .str x => match tabLook tab x with
    | some d => .ok d h1
    | none => .stuck
  | _ => .stuck
end
end TL
namespace TL
open PySem PySem.Spec PyProof.Rows L2
end TL
namespace TL
open PySem PySem.Spec PyProof.Rows L2
structure Bs (T : Tb) (X : Cx) : Prop where
  K : X.K = T.K
  w : X.w = T.w
  u : X.A.units + 65 < cLine
  ok : T.Ok
  nd : X.N.Nodup
structure Bd (T : Tb) (X : Cx) : Prop extends Bs T X where
  calm : X.calm = true
theorem Bd.tr {T : Tb} {X : Cx} (B : Bd T X) {pn : List (Addr × Obj)} {xe : Value → Shared → Prop} : Bd T (X.tr pn xe) := ⟨⟨B.K, B.w, B.u, B.ok, B.nd⟩, B.calm⟩
/-- a def that keeps its promise -/
structure FG (T : Tb) (P : Program) (w : World) (K : PySem.W.Frag) (mg : Str → Option Value) (base : Heap) (k : Nat) (f : Addr) (n : Nat) (g : Fn) : Prop where
  ex : ∃ fd ps, FnOk P w K mg base (L2N.CX P w) k f fd ps (spOf T n g) ∧ Binds K fd ps []
  kp : PySem.W.keepIn K (.ref f) = true
theorem FG.mono {T : Tb} {P : Program} {w : World} {K : PySem.W.Frag} {mg : Str → Option Value} {base : Heap} {j k : Nat} {f : Addr} {n : Nat} {g : Fn} (F : FG T P w K mg base j f n g) (h : j ≤ k) : FG T P w K mg base k f n g :=
  ⟨let ⟨fd, ps, h1, h2⟩ := F.ex; ⟨fd, ps, h1.mono h, h2⟩, F.kp⟩
section
variable {T : Tb} {W : WX} {E : XK} {X : Cx} {pos p apos : Pos} {a b c e : Expr} {es : List Expr} {ma mb mc m : ME} {ms : MA} {mt mu : MT} {x : Str} {k j n : Nat} {f C : Addr} {g : Fn}
/-- the comparisons, by their operator -/
def vCmp : CmpOp → D → D → LH → Res D
  | .Eq => vEq
  | .NotEq => vNe
  | .Lt => vCmpI fun i j => decide (i < j)
  | .LtE => vCmpI fun i j => decide (i ≤ j)
  | .Gt => vCmpI fun i j => decide (i > j)
  | .GtE => vCmpI fun i j => decide (i ≥ j)
  | .Is => vIs false
  | .IsNot => vIs true
  | .In => vIn false
  | .NotIn => vIn true
variable {s1 s2 : MS} {st : Stmt} {rest sa sb : List Stmt} {tg : Expr} {mg : MG}
variable {mi : MI} {t : Tg}
def mYes : MT := fun _ h => .ok true h
end
end TL
namespace TL
open PySem PySem.Spec PyProof.Rows L2
structure Cl where
  c : Value
  nm : Option Nat
  ts : Addr → Value → Option Addr → TS
def dropI (i : Nat) (D : Ends) : Ends := ⟨fun σ H => D.nx (σ.set i none) H, D.rt, fun σ H => D.bk (σ.set i none) H, fun σ H => D.ct (σ.set i none) H⟩
def Cl.take (k : Cl) (D : Ends) (a : Addr) (cls : Value) (d : Option Addr) (σ : L2.St) (H : Hp) : Prop := match k.nm with
  | none => k.ts a cls d D σ H
  | some i => k.ts a cls d (dropI i D) (σ.set i (some (.ref a))) H
section
variable {T : Tb} {W : WX} {ρ : List Addr} {H : Hp} {lh : LH} {X : Cx} {σ : L2.St}
/-- raise X('..'), raise X(e) with e kept in a field -/
def sRaise0 (c : Nat) : MS := fun sl h => .err sl c .non h
def sRaise (c : Nat) (ms : MA) : MS := fun sl h => (ms sl h).toS sl fun ds h1 => match ds with
  | [d] => .err sl c d h1
  | _ => .stuck
structure Hc where
  y : Nat
  nm : Option Nat
  m : Nat → D → MS
def xsub (xb : List (List Bool)) (c y : Nat) : Option Bool := match xb[c]? with
  | some r => r[y]?
  | none => none
def noErrSR (r : SRes) : SRes := match r with
  | .err _ _ _ _ => .stuck
  | .alt l r => .alt (noErrSR l) (noErrSR r)
  | .nx sl h => .nx sl h
  | .bk sl h => .bk sl h
  | .ct sl h => .ct sl h
  | .rt d h => .rt d h
  | .stuck => .stuck
def hcGo (xb : List (List Bool)) : List Hc → Sl → Nat → D → LH → SRes
  | [], sl, c, p, h => .err sl c p h
  | k :: r, sl, c, p, h => match xsub xb c k.y with
    | some true => match k.nm with
      | none => noErrSR (k.m c p sl h)
      | some i => (noErrSR (k.m c p (sl.set i none) h)).onR (fun sl h => .nx (sl.set i none) h) (fun sl h => .bk (sl.set i none) h) fun sl h => .ct (sl.set i none) h
    | some false => hcGo xb r sl c p h
    | none => .stuck
def SRes.catchR (r : SRes) (k : Sl → Nat → D → LH → SRes) : SRes := match r with
  | .err sl c p h => k sl c p h
  | .alt l r => .alt (l.catchR k) (r.catchR k)
  | .nx sl h => .nx sl h
  | .bk sl h => .bk sl h
  | .ct sl h => .ct sl h
  | .rt d h => .rt d h
  | .stuck => .stuck
def sTry (xb : List (List Bool)) (b : MS) (hs : List Hc) : MS := fun sl h => (b sl h).catchR (hcGo xb hs)
/-- which class is under which -/
def XbOk (T : Tb) (xb : List (List Bool)) : Prop := ∀ c y b x z fo go, xsub xb c y = some b → T.xn[c]? = some (x, fo) → T.xn[y]? = some (z, go) → PySem.W.exmOne T.K (.ref (He.ga T.K x)) (.ref (He.ga T.K z)) = some b
end
end TL
namespace TL
open PySem PySem.Spec PyProof.Rows L2 PySem.W PySem.HandSPX PySem.Calls
end TL
namespace TL
open PySem PySem.Spec PyProof.Rows L2
section
variable {T : Tb} {W : WX} {E : XK} {X : Cx} {pos p p2 : Pos} {a e e2 : Expr} {es : List Expr} {ma m : ME} {ms mk : MA} {x : Str} {c c2 k j n : Nat} {f C : Addr} {g : Fn}
def mix {α : Type} : List Bool → List α → List α → List α
  | true :: r, mv, w :: ws => w :: mix r mv ws
  | false :: r, m :: mv, ws => m :: mix r mv ws
  | _, _, _ => []
end
end TL
namespace TL
open PySem PySem.Spec PyProof.Rows L2
theorem _root_.L2.PSs.ex {X : Cx} {ss : List Stmt} {α : Type} {t : α → TS} (h : ∀ q, PSs X ss (t q)) : PSs X ss (fun D σ H => ∃ q, t q D σ H) := ⟨fun pins s σ H D I ⟨q, z⟩ => (h q).run pins s σ H D I z⟩
def mXf (ci i c : Nat) (p : D) : ME := fun sl h => bif Nat.beq c ci then (match sl[i]? with
  | some none => .ok p h
  | _ => .stuck) else .stuck
end TL
namespace TL
open PySem PySem.Spec PyProof.Rows L2
section
variable (K : PySem.W.Frag)
mutual
def constB : Value → D → Bool
  | u, .non => match u with
    | .none => true
    | _ => false
  | u, .bl b => match u with
    | .bool c => b == c
    | _ => false
  | u, .int i => match u with
    | .int j _ => decide (i = j)
    | _ => false
  | u, .str x => match u with
    | .str y _ => decide (x = y)
    | _ => false
  | u, .tup ds => match u with
    | .ref a => match K.lookup a with
      | some ⟨.type c, _, .seq its _, _⟩ => decide (c = "tuple") && (decide (its.size ≤ sizeLine) && constBs its.toList ds)
      | _ => false
    | _ => false
  | _, .obj _ => false
  | _, .kls _ => false
  | _, .lam _ => false
def constBs : List Value → List D → Bool
  | us, [] => us.isEmpty
  | us, d :: ds => match us with
    | u :: r => constB u d && constBs r ds
    | [] => false
end
end
def okO (a : Option Bool) (b : Bool) : Bool := match a with
  | some c => c == b
  | none => false
theorem okO_ok {a : Option Bool} {b : Bool} (h : okO a b = true) : a = some b := by
  cases a with
  | none => cases h
  | some c => rw [show c = b from eq_of_beq h]
def tbB (cn fn : List Str) (K : PySem.W.Frag) : Bool :=
  (cn.all fun x => (He.Fa.cls x).ok K && (He.eqO (PySem.W.findIn K (.ref (He.ga K x)) "__class__") (some (some (.builtin "object.__class__"))) && okO (PySem.W.mroIn K (He.ga K x) (.type "object")) true)) &&
  ((cn.isEmpty || (He.eqO (PySem.W.specialIn K (.builtin "object.__class__") "__get__") (some (some (.builtin "getset_descriptor.__get__"))) && okO (PySem.W.takesIn K (.builtin "object.__class__")) true)) &&
  ((cn.all fun x => fn.all fun f => (He.Fa.noat x f).ok K) &&
  ((tyNames.all fun a => cn.all fun x => okO (PySem.W.kitOne K (.type a) (.ref (He.ga K x))) false) &&
  ((cn.all fun x => cn.all fun y => okO (PySem.W.kitOne K (.ref (He.ga K x)) (.ref (He.ga K y))) (decide (x = y))) &&
  (cn.all fun x => tyNames.all fun a => okO (PySem.W.kitOne K (.ref (He.ga K x)) (.type a)) false)))))
/-- an __init__ of such a class: the class, its field, the def's parts -/
structure XD where
  x : Str
  f : Str
  qual : Str
  params : Arguments
  body : List Stmt
  scope : Scope
abbrev XnW : Type := Option (Str × Str × Arguments × FuncBody × Scope × Addr × List Str × Addr × Bool × Bool)
def isNonV (v : Value) : Bool := match v with
  | .none => true
  | _ => false
def xnW (K : PySem.W.Frag) (x : Str) : XnW := match K.lookup (He.ma K (He.ga K x) "__init__") with
  | some ⟨_, _, .func fd, _⟩ => some (fd.name, fd.qualname, fd.params, fd.body, fd.scope, fd.globals, fd.closure.map (·.1), fd.builtins, isNonV fd.defaults, isNonV fd.kwdefaults)
  | _ => none
def XD.val (d : XD) : XnW := some ("__init__", d.qual, d.params, .stmts d.body, d.scope, mainGlobals, ["__class__"], builtinsNs, true, true)
def xclB (K : PySem.W.Frag) (C : Addr) : Bool := match K.lookup C with
  | some ⟨.type "type", _, .cls cd, sl⟩ => (match cd.mro, sl.toList with
    | .ref C' :: bm, [_, _, _, _, some (.builtin n), _] => decide (C' = C) && (decide (n = "ValueError.__new__") && (!cd.hasDel && (cd.hasDict && PySem.HandSPX.refsVE bm)))
    | _, _ => false)
  | _ => false
def cfB (K : PySem.W.Frag) (file : Str) (v : Value) : Bool := match v with
  | .ref c => (match K.lookup c with
    | some ⟨_, _, .fields vs, _⟩ => (match (vs[2]? : Option Value) with
      | some (.str z _) => file == z
      | _ => false)
    | _ => false)
  | _ => false
def clB (K : PySem.W.Frag) (C : Addr) (l : List (Str × Addr)) : Bool := match l with
  | [q] => (match K.lookup q.2 with
    | some ⟨_, _, .cell (some (.ref D)), _⟩ => decide (D = C)
    | _ => false)
  | _ => false
def xfnB (K : PySem.W.Frag) (file : Str) (d : XD) : Bool := match K.lookup (He.ma K (He.ga K d.x) "__init__") with
  | some ⟨_, _, .func fd, _⟩ => PySem.W.codeIn K fd.code d.qual && (cfB K file fd.code && clB K (He.ga K d.x) fd.closure)
  | _ => false
def xdB (K : PySem.W.Frag) (file : Str) (d : XD) : Bool :=
  xclB K (He.ga K d.x) && (He.eqO (PySem.W.nsIn K mainGlobals d.x) (some (some (.ref (He.ga K d.x)))) && (He.eqO (PySem.W.findIn K (.ref (He.ga K d.x)) "__setattr__") (some (some (.builtin "object.__setattr__"))) && (He.eqO (PySem.W.findIn K (.ref (He.ga K d.x)) d.f) (some none) &&
  (He.eqO (PySem.W.findIn K (.ref (He.ga K d.x)) "__init__") (some (some (.ref (He.ma K (He.ga K d.x) "__init__")))) && (decide (PySem.W.typeIn K (.ref (He.ma K (He.ga K d.x) "__init__")) = some (.type "function")) && (PySem.W.keepIn K (.ref (He.ga K d.x)) &&
  (okO (PySem.W.subIn K (.ref (He.ga K d.x)) (.type "BaseException")) true && (okO (PySem.W.subIn K (.ref (He.ga K d.x)) (.type "ValueError")) true && (decide (PySem.W.typeIn K (.ref (He.ga K d.x)) = some (.type "type")) && (okO (PySem.W.mroIn K (He.ga K d.x) (.ref (He.ga K d.x))) true &&
  (He.eqO (PySem.W.ks_superIn K (He.ga K d.x) (He.ga K d.x) "__init__") (some (some (.builtin "ValueError.__init__"))) && (He.eqO (PySem.W.nsIn K cStatics "thirdparty.any") (some none) && (He.eqO (PySem.W.nsIn K mainGlobals "super") (some none) && (xfnB K file d && L2.xfB K (He.ga K d.x)))))))))))))))
/-- errors without a field; which class is under which -/
def excCB (K : PySem.W.Frag) (C : Addr) : Bool :=
  He.eqO (PySem.W.findIn K (.ref C) "__getattribute__") (some (some (.builtin "BaseException.__getattribute__"))) && (He.eqO (PySem.W.findIn K (.ref C) "__getattr__") (some none) && (okO (PySem.W.subIn K (.ref C) (.type "BaseException")) true && (PySem.W.hasDictIn K C &&
  (He.eqO (PySem.W.findIn K (.ref C) "__class__") (some (some (.builtin "object.__class__"))) && (He.eqO (PySem.W.specialIn K (.builtin "object.__class__") "__get__") (some (some (.builtin "getset_descriptor.__get__"))) && (okO (PySem.W.takesIn K (.builtin "object.__class__")) true && okO (PySem.W.mroIn K C (.type "object")) true))))))
def xOneB (K : PySem.W.Frag) (xn : List (Str × Option Str)) (xb : List (List Bool)) (c : Nat) (q : Str × Option Str) : Bool :=
  He.eqO (PySem.W.nsIn K mainGlobals q.1) (some (some (.ref (He.ga K q.1)))) && ((match q.2 with
  | none => excCB K (He.ga K q.1) && (He.Fa.exc q.1).ok K
  | some _ => true) && (okO (PySem.W.kitOne K (.ref (He.ga K q.1)) (.type "ValueError")) true &&
  (List.range xn.length).all fun y => match xn[y]? with
    | some z => (match xsub xb c y with
      | some b => okO (PySem.W.exmOne K (.ref (He.ga K q.1)) (.ref (He.ga K z.1))) b && okO (PySem.W.kitOne K (.ref (He.ga K q.1)) (.ref (He.ga K z.1))) b
      | none => true)
    | none => true))
def xAllB (K : PySem.W.Frag) (xn : List (Str × Option Str)) (xb : List (List Bool)) : Bool := (List.range xn.length).all fun c => match xn[c]? with
  | some q => xOneB K xn xb c q
  | none => true
theorem xAll_one {K : PySem.W.Frag} {xn : List (Str × Option Str)} {xb : List (List Bool)} (h : xAllB K xn xb = true) {c : Nat} {q : Str × Option Str} (e : xn[c]? = some q) : xOneB K xn xb c q = true := by
  have := List.all_eq_true.mp h c (List.mem_range.mpr (List.getElem?_eq_some_iff.mp e).1)
  rw [e] at this
  exact this
theorem xAll_two {K : PySem.W.Frag} {xn : List (Str × Option Str)} {xb : List (List Bool)} (h : xAllB K xn xb = true) {c y : Nat} {q z : Str × Option Str} {b : Bool} (e : xn[c]? = some q) (e2 : xn[y]? = some z) (e3 : xsub xb c y = some b) :
    PySem.W.exmOne K (.ref (He.ga K q.1)) (.ref (He.ga K z.1)) = some b ∧ PySem.W.kitOne K (.ref (He.ga K q.1)) (.ref (He.ga K z.1)) = some b := by
  have h1 := (band (band (band (xAll_one h e)).2).2).2
  have h2 := List.all_eq_true.mp h1 y (List.mem_range.mpr (List.getElem?_eq_some_iff.mp e2).1)
  rw [e2] at h2
  simp only [e3] at h2
  obtain ⟨g1, g2⟩ := band h2
  exact ⟨okO_ok g1, okO_ok g2⟩
/-- the head's facts: classes, fields, facts, constants, tables (a name, its keys and values), defs; errors, which is under which, the errors' __init__; lambdas, the defs that make some (with the lambdas' qualified name); the file -/
structure Fx where
  cn : List Str
  fn : List Str
  fa : List He.Fa
  cs : List (Str × D)
  ts : List (Str × List (Str × D))
  df : List He.DefD
  xn : List (Str × Option Str)
  xb : List (List Bool)
  xd : List XD
  lm : List LamI
  tf : List (He.Defn × Str)
  file : Str
def nsB (K : PySem.W.Frag) (a : Addr) (q : Str × D) : Bool := match PySem.W.nsIn K a q.1 with
  | some (some u) => constB K u q.2
  | _ => false
def ndB : List Nat → Bool
  | [] => true
  | a :: r => (r.all fun b => !Nat.beq a b) && ndB r
def Fx.ck (F : Fx) (K : PySem.W.Frag) : Bool := tbB F.cn F.fn K && ((F.fa.all fun f => f.ok K) && ((F.cs.all (nsB K mainGlobals)) && ((F.ts.all fun t => t.2.all (nsB K (He.ga K t.1))) && (F.df.all (fun d => d.ok K) &&
  (xAllB K F.xn F.xb && ((F.xd.all (xdB K F.file)) && ndB (F.tf.map fun p => (He.cT K p.1).2)))))))
abbrev AlX : Type := Bool × List He.FnW × List (Option (List (Option (Str × Int)))) × List XnW
def Fx.val (F : Fx) (w : World) : AlX := (true, F.df.map He.DefD.val, F.ts.map fun t => some (He.keysIn w.params (t.2.map (·.1))), F.xd.map XD.val)
/-- the part that speaks of K alone -/
structure Fx.says (F : Fx) (w : World) (K : PySem.W.Frag) : Prop where
  ck : F.ck K = true
  df : F.df.map (fun d => He.fnW K d.at_) = F.df.map He.DefD.val
  ts : F.ts.map (fun t => He.dicW K (He.ga K t.1)) = F.ts.map fun t => some (He.keysIn w.params (t.2.map (·.1)))
  xd : F.xd.map (fun d => xnW K d.x) = F.xd.map XD.val
def Fx.tb (F : Fx) (K : PySem.W.Frag) (w : World) : Tb := ⟨K, w, F.cn, F.fn, F.xn, F.lm, F.tf.map (fun p => ((He.cT K p.1).2, p.2)), [], none⟩
/-- what a def's proof leans on -/
structure Ct (F : Fx) (P : Program) (w : World) (K : PySem.W.Frag) (mg : Str → Option Value) (base : Heap) : Prop where
  kin : K.In base
  ns : base.Ns mainGlobals mg
  say : F.says w K
  ok : (F.tb K w).Ok
  fl : P.main.file = F.file
  su : (P.main.scope.names.lookup ("super" : Str)).isSome = false
  tab : ∀ p ∈ F.tf, LamX.TabB base mg (He.cT K p.1).1 (He.cT K p.1).2
section
variable {F : Fx} {P : Program} {w : World} {K : PySem.W.Frag} {mg : Str → Option Value} {base : Heap}
theorem says_ck (c : F.says w K) : F.ck K = true := c.ck
theorem Ct.fact (c : Ct F P w K mg base) (i : Nat) {f : He.Fa} (h : F.fa[i]? = some f := by rfl) : f.ok K = true :=
  List.all_eq_true.mp (band (band (says_ck c.say)).2).1 f (List.mem_of_getElem? h)
theorem Ct.glo (c : Ct F P w K mg base) (i : Nat) {x : Str} (h : F.fa[i]? = some (.glo x) := by rfl) : mg x = some (.ref (He.ga K x)) := He.glo_ok c.kin c.ns (c.fact i h)
theorem Ct.free (c : Ct F P w K mg base) (i : Nat) {x : Str} (h : F.fa[i]? = some (.free x) := by rfl) : mg x = none := He.free_ok c.kin c.ns (c.fact i h)
theorem Ct.meth (c : Ct F P w K mg base) (i : Nat) {x m : Str} (h : F.fa[i]? = some (.meth x m) := by rfl) : Meth K (He.ga K x) m (He.ma K (He.ga K x) m) := He.meth_ok (c.fact i h)
theorem Ct.mkr (c : Ct F P w K mg base) (i : Nat) {x : Str} (h : F.fa[i]? = some (.mkr x) := by rfl) : Mk K (He.ga K x) (He.ma K (He.ga K x) "__init__") := He.mkr_ok (c.fact i h)
theorem Ct.xall (c : Ct F P w K mg base) : xAllB K F.xn F.xb = true := (band (band (band (band (band (band (says_ck c.say)).2).2).2).2).2).1
theorem Ct.xb (c : Ct F P w K mg base) : XbOk (F.tb K w) F.xb := fun _ _ _ _ _ _ _ e h1 h2 => (xAll_two c.xall h1 h2 e).1
end
def startL (n : Nat) (ds : List D) : Sl := ds.map some ++ List.replicate (n - ds.length) none
def fnR (r : SRes) : Res D := match r with
  | .rt d h' => .ok d h'
  | .nx _ h' => .ok .non h'
  | .err _ c p h' => .err c p h'
  | .bk _ _ => .stuck
  | .ct _ _ => .stuck
  | .stuck => .stuck
  | .alt l r => .alt (fnR l) (fnR r)
def fnM (n : Nat) (m : MS) : Fn := fun ds h => match m (startL n ds) h with
  | .rt d h' => .ok d h'
  | .nx _ h' => .ok .non h'
  | .err _ c p h' => .err c p h'
  | .bk _ _ => .stuck
  | .ct _ _ => .stuck
  | .stuck => .stuck
  | .alt l r => .alt (fnR l) (fnR r)
section
variable {T : Tb} {P : Program} {w : World} {K : PySem.W.Frag} {mg : Str → Option Value} {base : Heap} {x qual : Str} {params : Arguments} {body : List Stmt} {scope : Scope} {dvs : List V} {kws : List (Str × V)} {f : Addr} {fd : FuncData}
def isT : Res D → Bool
  | .ok (.bl true) _ => true
  | _ => false
end
end TL
namespace TL
open PySem PySem.Spec PyProof.Rows L2
def lamFn (n : Nat) (m : ME) : Fn := fun ds h => m (startL n ds) h
def mCallV (lt : MTab) (i : Nat) (ms : MA) : ME := fun sl h => match sl[i]? with
  | some (some (.lam k)) => match mtLook lt k with
    | some (n, g) => (ms sl h).bind fun ds h1 => bif Nat.beq ds.length n then g ds h1 else .stuck
    | none => .stuck
  | _ => .stuck
end TL
namespace TL
open PySem PySem.Spec PyProof.Rows L2
end TL
namespace TL
open PySem PySem.Spec PyProof.Rows L2
mutual
def hz : NestedKey → Option Int
  | .none => some (reduceHash 0xFCA86420)
  | .num i => some (hashInt i)
  | .text _ => none
  | .tup ks => match hzs ks with
    | some hs => some (reduceHash (Builtin.Tuple.tupleHashOf hs))
    | none => none
def hzs : List NestedKey → Option (List Int)
  | [] => some []
  | k :: ks => match hz k, hzs ks with
    | some a, some b => some (a :: b)
    | _, _ => none
end
def ndI : List Int → Bool
  | [] => true
  | x :: r => !(r.any fun y => decide (y = x)) && ndI r
def hashOk (kvs : List Ent) : Bool := match hzs (kvs.map (·.1)) with
  | some hs => ndI hs
  | none => false
/-- dict(d) -/
def bDict (d : D) (h : LH) : Res D := match d with
  | .obj n => match h.get n with
    | some (.dct kd kvs) => bif !kd || hashOk kvs then .ok (.obj h.nx) (h.new (.dct kd kvs)) else .stuck
    | _ => .stuck
  | _ => .stuck
end TL
namespace TL
open PySem PySem.Spec PyProof.Rows L2
end TL
namespace TL
open PySem PySem.Spec PyProof.Rows L2
/-- a heap of two things -/
def H2 (o : LO) (v : Nat) (o' : LO) : LH := ⟨2, .node (.node .nil (some (v, o')) .nil) (some (0, o)) .nil⟩
end TL
namespace TL
open PySem PySem.Spec PyProof.Rows L2
def exKids : Expr → List Expr
  | .BoolOp _ vs _ => vs
  | .BinOp l _ r _ => [l, r]
  | .UnaryOp _ o _ => [o]
  | .Lambda _ b _ _ => [b]
  | .IfExp t a b _ => [t, a, b]
  | .Dict ks vs _ => ks.filterMap id ++ vs
  | .Compare l _ cs _ => l :: cs
  | .Call f as ks _ => f :: (as ++ ks.map (fun k => k.value))
  | .Attribute v _ _ => [v]
  | .Subscript a b _ => [a, b]
  | .Starred e _ => [e]
  | .List es _ => es
  | .Tuple es _ _ => es
  | _ => []
def exAt : Expr → List Nat → Expr
  | e, [] => e
  | e, i :: r => exAt ((exKids e).getD i e) r
def stEx : Stmt → Expr
  | .Expr e _ => e
  | .Return (some e) _ => e
  | .Assign _ e _ => e
  | .AugAssign _ _ e _ => e
  | .If t _ _ _ => t
  | .For _ i _ _ _ => i
  | .While t _ _ _ => t
  | _ => .Constant .none 0 ⟨0, 0, 0, 0⟩
def stKids : Stmt → List Stmt
  | .If _ a b _ => a ++ b
  | .For _ _ a b _ => a ++ b
  | .While _ a b _ => a ++ b
  | .Try a _ b c _ => a ++ b ++ c
  | _ => []
def stAt : List Stmt → List Nat → Stmt
  | l, [] => l.getD 0 (.Pass ⟨0, 0, 0, 0⟩)
  | l, [i] => l.getD i (.Pass ⟨0, 0, 0, 0⟩)
  | l, i :: r => stAt (stKids (l.getD i (.Pass ⟨0, 0, 0, 0⟩))) r
/-- the lambda in a def's body at a statement's place and an expression's -/
def lamAt (q : Str) (b : List Stmt) (ss es : List Nat) : LamI := match exAt (stEx (stAt b ss)) es with
  | .Lambda ps bd sc _ => ⟨q, ps, bd, sc⟩
  | e => ⟨q, { posonlyargs := [], args := [], vararg := none, kwonlyargs := [], kw_defaults := [], kwarg := none, defaults := [] }, e, { kind := .function, names := [], isGenerator := false, isCoroutine := false, more := [] }⟩
end TL
namespace TL
open PySem PySem.Spec PyProof.Rows L2
mutual
def dEq : D → D → Bool
  | .non, .non => true
  | .bl a, .bl b => a == b
  | .int a, .int b => decide (a = b)
  | .str a, .str b => decide (a = b)
  | .tup a, .tup b => dEqs a b
  | .obj a, .obj b => Nat.beq a b
  | .lam a, .lam b => Nat.beq a b
  | .kls a, .kls b => dEqs a b
  | _, _ => false
def dEqs : List D → List D → Bool
  | [], [] => true
  | a :: r, b :: t => dEq a b && dEqs r t
  | _, _ => false
end
def leqW {α : Type} (f : α → α → Bool) : List α → List α → Bool
  | [], [] => true
  | a :: r, b :: t => f a b && leqW f r t
  | _, _ => false
def oeq {α : Type} (f : α → α → Bool) : Option α → Option α → Bool
  | none, none => true
  | some a, some b => f a b
  | _, _ => false
def enteq (a b : NestedKey × D × D) : Bool := NestedKey.beq a.1 b.1 && (dEq a.2.1 b.2.1 && dEq a.2.2 b.2.2)
def fldeq (a b : Nat × D) : Bool := Nat.beq a.1 b.1 && dEq a.2 b.2
def loeq : LO → LO → Bool
  | .lst k xs, .lst l ys => (k == l) && dEqs xs ys
  | .dct k xs, .dct l ys => (k == l) && leqW enteq xs ys
  | .ins k xs, .ins l ys => Nat.beq k l && leqW fldeq xs ys
  | .abs a b c, .abs x y z => Nat.beq a x && (Nat.beq b y && Nat.beq c z)
  | _, _ => false
def voeq (a b : VO) : Bool := Nat.beq a.1 b.1 && loeq a.2 b.2
def treq : Tr → Tr → Bool
  | .nil, .nil => true
  | .node l v r, .node l' v' r' => treq l l' && (oeq voeq v v' && treq r r')
  | _, _ => false
def lheq (a b : LH) : Bool := Nat.beq a.nx b.nx && treq a.tr b.tr
abbrev sleq : Sl → Sl → Bool := leqW (oeq dEq)
def sreq : SRes → SRes → Bool
  | .nx s h, .nx s' h' => sleq s s' && lheq h h'
  | .ct s h, .ct s' h' => sleq s s' && lheq h h'
  | .bk s h, .bk s' h' => sleq s s' && lheq h h'
  | .rt d h, .rt d' h' => dEq d d' && lheq h h'
  | _, _ => false
def addL (r : SRes) (acc : List SRes) : List SRes := bif acc.any (sreq r) then acc else r :: acc
def leaves : SRes → List SRes → List SRes
  | .alt l r, acc => leaves r (leaves l acc)
  | .nx s h, acc => addL (.nx s h) acc
  | .ct s h, acc => addL (.ct s h) acc
  | .bk s h, acc => addL (.bk s h) acc
  | .rt s h, acc => addL (.rt s h) acc
  | .err s c p h, acc => .err s c p h :: acc
  | .stuck, acc => .stuck :: acc
def altL : List SRes → SRes
  | [] => .stuck
  | [r] => r
  | r :: t => .alt r (altL t)
def merge (r : SRes) : SRes := altL (leaves r [])
mutual
def refsOk (n : Nat) : D → Bool
  | .obj k => Nat.blt k n
  | .tup ds => refsOks n ds
  | .kls _ => false
  | _ => true
def refsOks (n : Nat) : List D → Bool
  | [] => true
  | d :: r => refsOk n d && refsOks n r
end
def loRefs (n : Nat) : LO → Bool
  | .lst _ xs => refsOks n xs
  | .dct _ es => es.all fun x => refsOk n x.2.1 && refsOk n x.2.2
  | .ins _ fs => fs.all fun x => refsOk n x.2
  | .abs k p _ => Nat.beq k 0 || Nat.blt p n
/-- how often was drawn: told in steps of 64 -/
def nrm : LO → LO
  | .abs k p m => bif Nat.beq k 1 then .abs 1 p (64 * (m / 64 + 1)) else .abs k p m
  | .lst k xs => .lst k xs
  | .dct k xs => .dct k xs
  | .ins k xs => .ins k xs
def keepS (ks : List Nat) (n : Nat) : Sl → Nat → Option Sl
  | [], _ => some []
  | x :: r, i => match keepS ks n r (i + 1) with
    | none => none
    | some t => bif ks.any (Nat.beq i) then (match x with
      | some d => bif refsOk n d then some (some d :: t) else none
      | none => some (none :: t)) else some (none :: t)
def addB (b : Bool) (h : LH) (acc : List (Bool × LH)) : List (Bool × LH) := bif acc.any (fun x => (x.1 == b) && lheq h x.2) then acc else (b, h) :: acc
def leavesB : Res Bool → List (Bool × LH) → Option (List (Bool × LH))
  | .alt l r, acc => match leavesB l acc with
    | some a => leavesB r a
    | none => none
  | .ok b h, acc => some (addB b h acc)
  | _, _ => none
def altB : List (Bool × LH) → Res Bool
  | [] => .stuck
  | [x] => .ok x.1 x.2
  | x :: t => .alt (.ok x.1 x.2) (altB t)
def mergeB (r : Res Bool) : Res Bool := match leavesB r [] with
  | some l => altB l
  | none => r
def mJT (m : MT) : MT := fun sl h => mergeB (m sl h)
/-- one of b numbers -/
def altN (f : Nat → Res D) : Nat → Res D
  | 0 => .stuck
  | 1 => f 0
  | n + 1 => .alt (f n) (altN f n)
/-- the same versions, another thing -/
def LH.rep (h : LH) (n : Nat) (o : LO) : LH := ⟨h.nx, h.tr.set n (h.ver n, o)⟩
/-- all ways end in True -/
def allT : SRes → Bool
  | .rt (.bl true) _ => true
  | .alt l r => allT l && allT r
  | _ => false
end TL
namespace TL
open PySem PySem.Spec PyProof.Rows L2
end TL
namespace TL
open PySem PySem.Spec PyProof.Rows L2
def slOf : SRes → Sl
  | .nx s _ => s
  | _ => []
def lhOf : SRes → LH
  | .nx _ h => h
  | _ => ⟨0, .nil⟩
/-- the state behind the first statement, told -/
def lhD (m1 : MS) (n p q : Nat) : LH := ((lhOf (m1 (startL n [.kls []]) ⟨0, .nil⟩)).rep p (.abs 0 63 0)).rep q (.abs 1 p 0)
def slD (m1 : MS) (n : Nat) : Sl := none :: (slOf (m1 (startL n [.kls []]) ⟨0, .nil⟩)).tail
end TL
namespace TL
open PySem PySem.Spec PyProof.Rows L2
def fNat {α : Type} (n : Nat) (k : Nat → α) : α := match n with
  | 0 => k 0
  | m + 1 => k (Nat.succ m)
def fInt {α : Type} (z : Int) (k : Int → α) : α := match z with
  | .ofNat n => fNat n fun n => k (.ofNat n)
  | .negSucc n => fNat n fun n => k (.negSucc n)
def fBool {α : Type} (b : Bool) (k : Bool → α) : α := match b with
  | true => k true
  | false => k false
mutual
def fD {α : Type} : D → (D → α) → α
  | .non, k => k .non
  | .bl b, k => fBool b fun b => k (.bl b)
  | .int i, k => fInt i fun i => k (.int i)
  | .str x, k => k (.str x)
  | .tup xs, k => fDs xs fun xs => k (.tup xs)
  | .obj n, k => fNat n fun n => k (.obj n)
  | .kls xs, k => k (.kls xs)
  | .lam i, k => fNat i fun i => k (.lam i)
def fDs {α : Type} : List D → (List D → α) → α
  | [], k => k []
  | d :: r, k => fD d fun d => fDs r fun r => k (d :: r)
end
mutual
def fK {α : Type} : NestedKey → (NestedKey → α) → α
  | .none, k => k .none
  | .num i, k => fInt i fun i => k (.num i)
  | .text x, k => k (.text x)
  | .tup xs, k => fKs xs fun xs => k (.tup xs)
def fKs {α : Type} : List NestedKey → (List NestedKey → α) → α
  | [], k => k []
  | d :: r, k => fK d fun d => fKs r fun r => k (d :: r)
end
/-- a list's cells; of the things the last alone -/
def fSpine {α β : Type} (f : β → (β → α) → α) : List β → (List β → α) → α
  | [], k => k []
  | x :: r, k => match r with
    | [] => f x fun x => k [x]
    | _ :: _ => fSpine f r fun r => k (x :: r)
def fEnt {α : Type} (e : NestedKey × D × D) (k : NestedKey × D × D → α) : α := fK e.1 fun a => fD e.2.1 fun b => fD e.2.2 fun c => k (a, b, c)
def fFs {α : Type} : List (Nat × D) → (List (Nat × D) → α) → α
  | [], k => k []
  | x :: r, k => fNat x.1 fun a => fD x.2 fun b => fFs r fun r => k ((a, b) :: r)
def fLO {α : Type} (o : LO) (k : LO → α) : α := match o with
  | .lst b xs => fBool b fun b => fSpine fD xs fun xs => k (.lst b xs)
  | .dct b es => fBool b fun b => fSpine fEnt es fun es => k (.dct b es)
  | .ins c fs => fNat c fun c => fFs fs fun fs => k (.ins c fs)
  | .abs a b c => fNat a fun a => fNat b fun b => fNat c fun c => k (.abs a b c)
def fVO {α : Type} (v : Option VO) (k : Option VO → α) : α := match v with
  | none => k none
  | some x => fNat x.1 fun a => fLO x.2 fun b => k (some (a, b))
def fTr {α : Type} : Tr → (Tr → α) → α
  | .nil, k => k .nil
  | .node l v r, k => fTr l fun l => fVO v fun v => fTr r fun r => k (.node l v r)
def fLH {α : Type} (h : LH) (k : LH → α) : α := fNat h.nx fun n => fTr h.tr fun t => k ⟨n, t⟩
def fOD {α : Type} (o : Option D) (k : Option D → α) : α := match o with
  | none => k none
  | some d => fD d fun d => k (some d)
def fSl {α : Type} : Sl → (Sl → α) → α
  | [], k => k []
  | x :: r, k => fOD x fun x => fSl r fun r => k (x :: r)
def fSR : SRes → SRes
  | .nx s h => fSl s fun s => fLH h fun h => .nx s h
  | .ct s h => fSl s fun s => fLH h fun h => .ct s h
  | .bk s h => fSl s fun s => fLH h fun h => .bk s h
  | .rt d h => fD d fun d => fLH h fun h => .rt d h
  | .err s c p h => .err s c p h
  | .stuck => .stuck
  | .alt l r => .alt (fSR l) (fSR r)
def truncN (n : Nat) (h h' : LH) : Nat → Option Tr
  | 0 => some .nil
  | k + 1 => match truncN n h h' k with
    | none => none
    | some t => match h'.tr.get k with
      | none => some t
      | some (v, o) => bif loRefs n o then some (t.set k (bif Nat.beq v (h.ver k) then v else h.ver k + 1, nrm o)) else none
def trunc1 (n : Nat) (h h' : LH) : Option LH := match truncN n h h' n with
  | some t => some ⟨n, t⟩
  | none => none
def tr1N (n : Nat) (ks : List Nat) (h : LH) : SRes → SRes
  | .nx sl h' => match keepS ks n sl 0, trunc1 n h h' with
    | some s, some t => .nx s t
    | _, _ => .stuck
  | .ct sl h' => match keepS ks n sl 0, trunc1 n h h' with
    | some s, some t => .ct s t
    | _, _ => .stuck
  | .bk sl h' => match keepS ks n sl 0, trunc1 n h h' with
    | some s, some t => .bk s t
    | _, _ => .stuck
  | .rt d h' => match refsOk n d, trunc1 n h h' with
    | true, some t => .rt d t
    | _, _ => .stuck
  | .err sl c p h' => .err sl c p h'
  | .stuck => .stuck
  | .alt l r => .alt (tr1N n ks h l) (tr1N n ks h r)
def merge1 (r : SRes) : SRes := match r with
  | .alt _ _ => merge r
  | _ => r
def sJoinF (ks : List Nat) (m : MS) : MS := fun sl h => fNat h.nx fun n => fSR (merge1 (tr1N n ks h (m sl h)))
end TL
namespace TL
open PySem PySem.Spec PyProof.Rows L2
def prune (h : LH) : List Nat → Tr
  | [] => .nil
  | i :: r => match h.tr.get i with
    | some x => (prune h r).set i x
    | none => prune h r
def topRef : D → List Nat
  | .obj n => [n]
  | _ => []
def loTop : LO → List Nat
  | .lst _ xs => xs.flatMap topRef
  | .dct _ es => es.flatMap fun x => topRef x.2.2
  | .ins _ fs => fs.flatMap fun x => topRef x.2
  | .abs k p _ => bif Nat.beq k 1 then [p] else []
def foot : Nat → LH → List Nat → List Nat
  | 0, _, _ => []
  | k + 1, h, ns => ns ++ foot k h (ns.flatMap fun n => match h.tr.get n with
    | some x => loTop x.2
    | none => [])
def onlyS (ks : List Nat) : Sl → Nat → Sl
  | [], _ => []
  | x :: r, i => (bif ks.any (Nat.beq i) then x else none) :: onlyS ks r (i + 1)
def rootsS : Sl → List Nat
  | [] => []
  | none :: r => rootsS r
  | some d :: r => topRef d ++ rootsS r
/-- the versions of the old things are as they were -/
def chkV (nx : Nat) (t : LH) (v : Option VO) (b : Nat) : Bool := match v with
  | none => true
  | some x => Nat.ble nx b || Nat.beq x.1 (t.ver b)
def chk (nx : Nat) (t : LH) : Tr → Nat → Nat → Bool
  | .nil, _, _ => true
  | .node l v r, a, b => chkV nx t v b && (chk nx t l (2 * a) (a + b) && chk nx t r (2 * a) (2 * a + b))
def sandR (h t : LH) : Res D → Res D
  | .ok d h2 => bif refsOk h.nx d && chk h.nx t h2.tr 1 0 then fD d (fun d => .ok d h) else .stuck
  | .err _ _ _ => .stuck
  | .stuck => .stuck
  | .alt l r => .alt (sandR h t l) (sandR h t r)
def mSand (ks : List Nat) (m : ME) : ME := fun sl h => fNat h.nx fun n => fSl (onlyS ks sl 0) fun s => fLH ⟨n, prune h (foot 4 h (rootsS s))⟩ fun t => sandR h t (m s t)
end TL
namespace TL
open PySem PySem.Spec PyProof.Rows L2
def agreeB (objs : List (Nat × LO)) (h : LH) : Bool := objs.all fun x => match h.get x.1 with
  | some o => loeq o x.2
  | none => false
inductive Bt where
  | lf | nd (l : Bt) (k : Nat) (s : Sl) (d : D) (r : Bt)
def Bt.find : Bt → Nat → Option (Sl × D)
  | .lf, _ => none
  | .nd l k s d r, n => bif Nat.beq n k then some (s, d) else bif Nat.blt n k then l.find n else r.find n
def tabF (fs : List Bt) (n : Nat) (enc : Sl → Nat) (s : Sl) : Option D := fNat (enc s) fun k => match (fs.getD (k % n) .lf).find k with
  | some e => bif sleq s e.1 then some e.2 else none
  | none => none
def mTbl (m : Nat) (objs : List (Nat × LO)) (ks : List Nat) (tab : Sl → Option D) (me : ME) : ME := fun sl h => fSl (onlyS ks sl 0) fun s => bif Nat.ble m h.nx && agreeB objs h then (match tab s with
  | some d => .ok d h
  | none => mSand ks me sl h) else mSand ks me sl h
end TL
namespace L_k14_whole_refused_more
open PySem PySem.Spec PyProof.Rows L2 TL
def top (i : Nat) : Stmt := PySem.Challenge.pw_trimmedlogs_k14_whole_refused_more.main.body.getD i (.Pass ⟨0, 0, 0, 0⟩)
def mth (i j : Nat) : Stmt := match top i with
  | .ClassDef (body := b) .. => b.getD j (.Pass ⟨0, 0, 0, 0⟩)
  | _ => .Pass ⟨0, 0, 0, 0⟩
def lam_0 : LamI := lamAt (("_law_doors" : Str) ++ ".<locals>." ++ "<lambda>") (defBody (top 44)) [1] [0, 1]
def lam_1 : LamI := lamAt (("_law_doors" : Str) ++ ".<locals>." ++ "<lambda>") (defBody (top 44)) [1] [1, 1]
def lam_2 : LamI := lamAt (("_law_doors" : Str) ++ ".<locals>." ++ "<lambda>") (defBody (top 44)) [2] [1, 0, 1]
def lam_3 : LamI := lamAt (("_law_doors" : Str) ++ ".<locals>." ++ "<lambda>") (defBody (top 44)) [2] [1, 1, 1]
def xd_BadRing : XD := ⟨"BadRing", "part", "BadRing.__init__", defArgs (mth 3 0), defBody (mth 3 0), defScope (mth 3 0)⟩
def xd_BadHistory : XD := ⟨"BadHistory", "index", "BadHistory.__init__", defArgs (mth 4 0), defBody (mth 4 0), defScope (mth 4 0)⟩
def FX : Fx where
  cn := ["Ring", "Log", "Slowest"]
  fn := ["size", "lengths", "marks", "order", "check", "follow", "ring", "word", "marked", "cells", "writer", "lag", "due", "place", "number", "history", "levels"]
  fa := [(.free "int"), (.free "isinstance"), (.free "bool"), (.glo "is_number"), (.free "tuple"), (.free "len"), (.free "min"), (.free "all"), (.free "zip"), (.glo "are_lengths"), (.free "str"), (.glo "WORDS"), (.glo "is_word"), (.glo "Ring"), (.mkr "Ring"), (.glo "_law_good"), (.glo "_law_doors"), (.glo "_law_cell_at"), (.free "range"), (.glo "_law_draw"), (.glo "_law_number"), (.glo "_law_next"), (.glo "_law_wrong"), (.glo "_law_pick"), (.glo "is_there"), (.mkr "Log"), (.glo "Log"), (.meth "Log" "begin"), (.meth "Log" "put"), (.meth "Log" "catch_up"), (.meth "Log" "looked_at"), (.meth "Log" "mark_of"), (.free "any"), (.meth "Log" "does_fail"), (.meth "Log" "take"), (.meth "Log" "read"), (.meth "Log" "do"), (.glo "done"), (.meth "Log" "state_now"), (.glo "check_ring"), (.free "list"), (.glo "start_of"), (.glo "deeds_of"), (.glo "is_deed"), (.glo "walked"), (.glo "check_history"), (.glo "delay_of"), (.glo "delay"), (.glo "kept_deeds"), (.glo "reach"), (.free "dict"), (.mkr "Slowest"), (.glo "Slowest"), (.glo "slowest"), (.glo "greatest_delay"), (.meth "Slowest" "does_hold"), (.meth "Slowest" "shows"), (.glo "_law_word_of"), (.glo "law")]
  cs := [("MOST_SIZE", .int 5), ("LEAST_SIZE", .int 2), ("MOST_LENGTH", .int 3), ("MOST_MARKS", .int 4), ("READ", .tup [.str "read"]), ("MOST_STATES", .int 800)]
  ts := [("WORDS", [("order", .tup [.str "first", .str "last"]), ("check", .tup [.str "none", .str "ends", .str "all"]), ("follow", .tup [.str "strict", .str "loose"])])]
  df := [⟨("is_number", none), "is_number", "is_number", defArgs (top 12), defBody (top 12), defScope (top 12), [], []⟩,
    ⟨("are_lengths", none), "are_lengths", "are_lengths", defArgs (top 14), defBody (top 14), defScope (top 14), [], []⟩,
    ⟨("is_word", none), "is_word", "is_word", defArgs (top 13), defBody (top 13), defScope (top 13), [], []⟩,
    ⟨("Ring", some "__init__"), "__init__", "Ring.__init__", defArgs (mth 15 0), defBody (mth 15 0), defScope (mth 15 0), [], [("order", .str "first"), ("check", .str "none"), ("follow", .str "strict")]⟩,
    ⟨("_law_good", none), "_law_good", "_law_good", defArgs (top 42), defBody (top 42), defScope (top 42), [], []⟩,
    ⟨("_law_doors", none), "_law_doors", "_law_doors", defArgs (top 44), defBody (top 44), defScope (top 44), [], []⟩,
    ⟨("_law_cell_at", none), "_law_cell_at", "_law_cell_at", defArgs (top 37), defBody (top 37), defScope (top 37), [], []⟩,
    ⟨("_law_draw", none), "_law_draw", "_law_draw", defArgs (top 38), defBody (top 38), defScope (top 38), [], []⟩,
    ⟨("_law_number", none), "_law_number", "_law_number", defArgs (top 39), defBody (top 39), defScope (top 39), [], []⟩,
    ⟨("_law_next", none), "_law_next", "_law_next", defArgs (top 40), defBody (top 40), defScope (top 40), [], []⟩,
    ⟨("_law_pick", none), "_law_pick", "_law_pick", defArgs (top 41), defBody (top 41), defScope (top 41), [], []⟩,
    ⟨("_law_wrong", none), "_law_wrong", "_law_wrong", defArgs (top 43), defBody (top 43), defScope (top 43), [], []⟩,
    ⟨("is_there", none), "is_there", "is_there", defArgs (top 30), defBody (top 30), defScope (top 30), [], []⟩,
    ⟨("Log", some "__init__"), "__init__", "Log.__init__", defArgs (mth 19 0), defBody (mth 19 0), defScope (mth 19 0), [], []⟩,
    ⟨("Log", some "begin"), "begin", "Log.begin", defArgs (mth 19 3), defBody (mth 19 3), defScope (mth 19 3), [], []⟩,
    ⟨("Log", some "put"), "put", "Log.put", defArgs (mth 19 4), defBody (mth 19 4), defScope (mth 19 4), [], []⟩,
    ⟨("Log", some "catch_up"), "catch_up", "Log.catch_up", defArgs (mth 19 5), defBody (mth 19 5), defScope (mth 19 5), [], []⟩,
    ⟨("Log", some "looked_at"), "looked_at", "Log.looked_at", defArgs (mth 19 6), defBody (mth 19 6), defScope (mth 19 6), [], []⟩,
    ⟨("Log", some "mark_of"), "mark_of", "Log.mark_of", defArgs (mth 19 2), defBody (mth 19 2), defScope (mth 19 2), [], []⟩,
    ⟨("Log", some "does_fail"), "does_fail", "Log.does_fail", defArgs (mth 19 7), defBody (mth 19 7), defScope (mth 19 7), [], []⟩,
    ⟨("Log", some "take"), "take", "Log.take", defArgs (mth 19 9), defBody (mth 19 9), defScope (mth 19 9), [], []⟩,
    ⟨("Log", some "read"), "read", "Log.read", defArgs (mth 19 8), defBody (mth 19 8), defScope (mth 19 8), [], []⟩,
    ⟨("Log", some "do"), "do", "Log.do", defArgs (mth 19 10), defBody (mth 19 10), defScope (mth 19 10), [], []⟩,
    ⟨("done", none), "done", "done", defArgs (top 23), defBody (top 23), defScope (top 23), [], []⟩,
    ⟨("Log", some "state_now"), "state_now", "Log.state_now", defArgs (mth 19 1), defBody (mth 19 1), defScope (mth 19 1), [], []⟩,
    ⟨("delay_of", none), "delay_of", "delay_of", defArgs (top 31), defBody (top 31), defScope (top 31), [], []⟩,
    ⟨("check_ring", none), "check_ring", "check_ring", defArgs (top 16), defBody (top 16), defScope (top 16), [], []⟩,
    ⟨("start_of", none), "start_of", "start_of", defArgs (top 20), defBody (top 20), defScope (top 20), [], []⟩,
    ⟨("deeds_of", none), "deeds_of", "deeds_of", defArgs (top 21), defBody (top 21), defScope (top 21), [], []⟩,
    ⟨("is_deed", none), "is_deed", "is_deed", defArgs (top 24), defBody (top 24), defScope (top 24), [], []⟩,
    ⟨("walked", none), "walked", "walked", defArgs (top 25), defBody (top 25), defScope (top 25), [], []⟩,
    ⟨("check_history", none), "check_history", "check_history", defArgs (top 26), defBody (top 26), defScope (top 26), [], []⟩,
    ⟨("delay", none), "delay", "delay", defArgs (top 35), defBody (top 35), defScope (top 35), [], []⟩,
    ⟨("kept_deeds", none), "kept_deeds", "kept_deeds", defArgs (top 22), defBody (top 22), defScope (top 22), [], []⟩,
    ⟨("reach", none), "reach", "reach", defArgs (top 27), defBody (top 27), defScope (top 27), [], []⟩,
    ⟨("Slowest", some "__init__"), "__init__", "Slowest.__init__", defArgs (mth 32 0), defBody (mth 32 0), defScope (mth 32 0), [], []⟩,
    ⟨("slowest", none), "slowest", "slowest", defArgs (top 33), defBody (top 33), defScope (top 33), [], []⟩,
    ⟨("greatest_delay", none), "greatest_delay", "greatest_delay", defArgs (top 34), defBody (top 34), defScope (top 34), [], []⟩,
    ⟨("Slowest", some "does_hold"), "does_hold", "Slowest.does_hold", defArgs (mth 32 4), defBody (mth 32 4), defScope (mth 32 4), [], []⟩,
    ⟨("Slowest", some "shows"), "shows", "Slowest.shows", defArgs (mth 32 3), defBody (mth 32 3), defScope (mth 32 3), [], []⟩,
    ⟨("_law_word_of", none), "_law_word_of", "_law_word_of", defArgs (top 45), defBody (top 45), defScope (top 45), [], []⟩,
    ⟨("law", none), "law", "law", defArgs (top 46), defBody (top 46), defScope (top 46), [], []⟩]
  xn := [("LogError", none), ("BadRing", some "part"), ("BadHistory", some "index"), ("TooLarge", none)]
  xb := [[true, false, false, false], [true, true, false, false], [true, false, true, false], [true, false, false, true]]
  xd := [xd_BadRing, xd_BadHistory]
  lm := [lam_0, lam_1, lam_2, lam_3]
  tf := [(("_law_doors", none), (("_law_doors" : Str) ++ ".<locals>." ++ "<lambda>"))]
  file := "/claim/cut.py"
def encC (d : D) : Nat := match d with
  | .tup [.int a, .int b, .int c] => 1 + a.toNat + 16 * (b.toNat + 4 * c.toNat)
  | _ => 0
def encL : List D → Nat
  | [] => 0
  | d :: r => encC d + 512 * encL r
def encW (d : D) : Nat := match d with
  | .tup [.int a, .int b] => 1 + a.toNat + 8 * b.toNat
  | _ => 0
def encS (d : D) : Nat := match d with
  | .tup [.tup cs, w, .tup [.int a, .int b, .int c]] => ((a.toNat * 16 + b.toNat) * 16 + c.toNat) * 64 + encW w + 262144 * encL cs
  | _ => 0
def encDd (d : D) : Nat := match d with
  | .tup [.str x] => bif decide (x = "put") then 0 else 7
  | .tup [.str _, .int n] => n.toNat
  | _ => 9
def encAt (i : Nat) (s : Sl) : Nat := match s[i]? with
  | some (some d) => encS d
  | _ => 0
def encAt2 (i j : Nat) (s : Sl) : Nat := match s[i]?, s[j]? with
  | some (some d), some (some e) => encS d * 8 + encDd e
  | _, _ => 0
def b_f_is_number : MS := (sRet (mAndV (m1 (vIsi [2]) (mVar 0)) (mAndV (mNotV (m1 (vIsi [1]) (mVar 0))) (mChain (vCmp .LtE) (vCmp .LtE) (mVar 1) (mVar 0) (mVar 2)))))
def f_is_number : Fn := fnM 3 b_f_is_number
def b_f_are_lengths : MS := (sSeq (sIf (mOr (mNot (mB (m1 (vIsi [5]) (mVar 1)))) (mNot (mB (mChain (vCmp .LtE) (vCmp .LtE) (mC (.int 1)) (mFn (f1 bLen) (aCons (mVar 1) aNil)) (mC (.int 3)))))) (sRet (mC (.bl false))) sSkip) (sSeq (sIf (mNot (mB (mFn (f1 bAll) (aCons (mLc (iAny (mVar 1)) (.nm 2) mYes (mCall 3 f_is_number (aCons (mVar 2) (aCons (mC (.int 1)) (aCons (mFn (f2 bMin) (aCons (mVar 0) (aCons (mC (.int 3)) aNil))) aNil)))) [2]) aNil)))) (sRet (mC (.bl false))) sSkip) (sRet (mFn (f1 bAll) (aCons (mLc (iZipM (aCons (mVar 1) (aCons (mSl (mVar 1) (oSome (mC (.int 1))) oNone) aNil))) (.tp [2, 3]) mYes (m2 (vCmp .Lt) (mVar 2) (mVar 3)) [2, 3]) aNil)))))
def f_are_lengths : Fn := fnM 4 b_f_are_lengths
def b_f_is_word : MS := (sRet (mAndV (m1 (vIsi [3]) (mVar 0)) (m2 (vCmp .In) (mVar 0) (mVar 1))))
def f_is_word : Fn := fnM 2 b_f_is_word
def b_m_Ring_o_init_o : MS := (sSeq (sIf (mNot (mB (mCall 3 f_is_number (aCons (mVar 1) (aCons (mC (.int 2)) (aCons (mC (.int 5)) aNil)))))) (sRaise 1 (aCons (mC (.str "size")) aNil)) sSkip) (sSeq (sIf (mNot (mB (mCall 2 f_are_lengths (aCons (mVar 1) (aCons (mVar 2) aNil))))) (sRaise 1 (aCons (mC (.str "lengths")) aNil)) sSkip) (sSeq (sIf (mNot (mB (mCall 3 f_is_number (aCons (mVar 3) (aCons (mC (.int 1)) (aCons (mC (.int 4)) aNil)))))) (sRaise 1 (aCons (mC (.str "marks")) aNil)) sSkip) (sSeq (sFor (iAny (mTup (aCons (mTup (aCons (mC (.str "order")) (aCons (mVar 4) aNil))) (aCons (mTup (aCons (mC (.str "check")) (aCons (mVar 5) aNil))) (aCons (mTup (aCons (mC (.str "follow")) (aCons (mVar 6) aNil))) aNil))))) (.tp [7, 8]) (sIf (mNot (mB (mCall 2 f_is_word (aCons (mVar 8) (aCons (mTab [("order", .tup [.str "first", .str "last"]), ("check", .tup [.str "none", .str "ends", .str "all"]), ("follow", .tup [.str "strict", .str "loose"])] (mVar 7)) aNil))))) (sRaise 1 (aCons (mVar 7) aNil)) sSkip)) (sSeq (sAsg (mVar 1) (gAttr 0 (mVar 0))) (sSeq (sAsg (mVar 2) (gAttr 1 (mVar 0))) (sSeq (sAsg (mVar 3) (gAttr 2 (mVar 0))) (sSeq (sAsg (mVar 4) (gAttr 3 (mVar 0))) (sSeq (sAsg (mVar 5) (gAttr 4 (mVar 0))) (sAsg (mVar 6) (gAttr 5 (mVar 0))))))))))))
def m_Ring_o_init_o : Fn := fnM 9 b_m_Ring_o_init_o
def b_f_olaw_good : MS := (sRet (mDict (pCons (mC (.str "ring")) (mMakeK 0 6 3 0 (fun ds zs => ds ++ mix [false, false, false] [.str "first", .str "none", .str "strict"] zs) m_Ring_o_init_o (aCons (mC (.int 3)) (aCons (mTup (aCons (mC (.int 1)) (aCons (mC (.int 2)) aNil))) (aCons (mC (.int 2)) aNil))) aNil) (pCons (mC (.str "history")) (mLst (aCons (mTup (aCons (mC (.str "begin")) (aCons (mC (.int 2)) aNil))) (aCons (mTup (aCons (mC (.str "put")) aNil)) (aCons (mTup (aCons (mC (.str "read")) aNil)) aNil)))) pNil))))
def f_olaw_good : Fn := fnM 0 b_f_olaw_good
def b_f_olaw_doors : MS := (sSeq (sAsg (mTup (aCons (mTup (aCons (mC (.str "ring")) aNil)) (aCons (mTup (aCons (mC (.str "ring")) (aCons (mC (.str "history")) aNil))) aNil))) (gTupM 2 (gsCons (gN 0) (gsCons (gN 1) gsNil)))) (sSeq (sAsg (mLst (aCons (mTup (aCons (mVar 1) (aCons (mC (.lam 0)) aNil))) (aCons (mTup (aCons (mVar 0) (aCons (mC (.lam 1)) aNil))) aNil))) (gN 2)) (sRet (m2 (vBin .Add) (mVar 2) (mLst (aCons (mTup (aCons (mVar 0) (aCons (mC (.lam 2)) aNil))) (aCons (mTup (aCons (mVar 0) (aCons (mC (.lam 3)) aNil))) aNil)))))))
def f_olaw_doors : Fn := fnM 3 b_f_olaw_doors
/-- what is told of a draw -/
def sp_f_olaw_next : Fn := fun ds h => match ds with
  | [.obj n, .int b] => match h.get n with
    | some (.abs 1 p m) => match h.get p with
      | some (.abs 0 _ _) => bif decide (0 < b) && (decide (b ≤ 1000) && (Nat.ble m 100000 && !Nat.beq n p)) then altN (fun r => .ok (.int (r : Int)) (h.put n (.abs 1 p (m + 1)))) b.toNat else .stuck
      | _ => .stuck
    | _ => .stuck
  | _ => .stuck
def b_f_olaw_pick : MS := (sRet (m2 vIdx (mVar 1) (mCall 2 sp_f_olaw_next (aCons (mVar 0) (aCons (mFn (f1 bLen) (aCons (mVar 1) aNil)) aNil)))))
def f_olaw_pick : Fn := fnM 2 b_f_olaw_pick
def b_f_olaw_wrong : MS := (sSeq (sIf (mB (m2 (vCmp .Eq) (mVar 0) (mC (.str "ring")))) (sAsg (mLst (aCons (mC .non) (aCons (mC (.int 5)) (aCons (mTup (aCons (mC (.int 3)) (aCons (mTup (aCons (mC (.int 1)) (aCons (mC (.int 2)) aNil))) (aCons (mC (.int 2)) aNil)))) (aCons (mC (.str "ring")) (aCons (mLst aNil) aNil)))))) (gN 1)) (sSeq (sAsg (mLst (aCons (mTup (aCons (mC .non) (aCons (mC .non) aNil))) (aCons (mTup (aCons (mC (.str "read")) (aCons (mC .non) aNil))) (aCons (mTup (aCons (mLst (aCons (mTup (aCons (mC (.str "put")) aNil)) aNil)) (aCons (mC (.int 0)) aNil))) (aCons (mTup (aCons (mLst (aCons (mTup (aCons (mC (.str "begin")) (aCons (mC (.int 1)) aNil))) (aCons (mTup (aCons (mC (.str "begin")) (aCons (mC (.int 1)) aNil))) aNil))) (aCons (mC (.int 1)) aNil))) aNil))))) (gN 1)) (sSeq (sAsg (m2 (vBin .Add) (mVar 1) (mLst (aCons (mTup (aCons (mLst (aCons (mTup (aCons (mC (.str "begin")) (aCons (mC (.int 3)) aNil))) aNil)) (aCons (mC (.int 0)) aNil))) (aCons (mTup (aCons (mLst (aCons (mTup (aCons (mC (.str "begin")) (aCons (mC (.bl true)) aNil))) aNil)) (aCons (mC (.int 0)) aNil))) (aCons (mTup (aCons (mLst (aCons (mLst (aCons (mC (.str "read")) aNil)) aNil)) (aCons (mC (.int 0)) aNil))) (aCons (mTup (aCons (mLst (aCons (mTup (aCons (mC (.str "read")) (aCons (mC (.int 1)) aNil))) aNil)) (aCons (mC (.int 0)) aNil))) (aCons (mTup (aCons (mLst (aCons (mTup aNil) aNil)) (aCons (mC (.int 0)) aNil))) aNil))))))) (gN 1)) (sRet (mLc (iAny (mVar 1)) (.tp [2, 3]) mYes (mTup (aCons (mVar 2) (aCons (mTup (aCons (mC (.str "history")) (aCons (mVar 3) aNil))) aNil))) [2, 3]))))) (sRet (mLc (iAny (mVar 1)) (.nm 2) mYes (mTup (aCons (mVar 2) (aCons (mVar 0) aNil))) [2])))
def f_olaw_wrong : Fn := fnM 4 b_f_olaw_wrong
def b_f_is_there : MS := (sRet (m2 (vCmp .Eq) (mSl (m2 vIdx (mVar 0) (mC (.int 2))) oNone (oSome (mC (.int 2)))) (mTup (aCons (mC (.int 0)) (aCons (mC (.int 0)) aNil)))))
def f_is_there : Fn := fnM 1 b_f_is_there
def b_m_Log_o_init_o : MS := (sSeq (sAsg (mVar 1) (gAttr 6 (mVar 0))) (sSeq (sAsg (mVar 2) (gTupM 3 (gsCons (gAttr 9 (mVar 0)) (gsCons (gAttr 10 (mVar 0)) (gsCons (gN 3) gsNil))))) (sSeq (sAsg (mVar 3) (gTupM 3 (gsCons (gAttr 13 (mVar 0)) (gsCons (gAttr 11 (mVar 0)) (gsCons (gAttr 12 (mVar 0)) gsNil))))) (sSeq (sAsg (mC .non) (gAttr 7 (mVar 0))) (sAsg mDict0 (gAttr 8 (mVar 0)))))))
def m_Log_o_init_o : Fn := fnM 4 b_m_Log_o_init_o
def b_m_Log_begin : MS := (sSeq (sAsg (mFn (f1 bTup) (aCons (mLc (iAny (m1 (vFld 9) (mVar 0))) (.nm 2) mYes (mIf (mB (m2 (vCmp .Is) (mVar 2) (mC .non))) (mVar 2) (mTup (aCons (m2 (vBin .Add) (m2 vIdx (mVar 2) (mC (.int 0))) (mC (.int 1))) (aCons (m2 vIdx (mVar 2) (mC (.int 1))) (aCons (m2 vIdx (mVar 2) (mC (.int 2))) aNil))))) [2]) aNil)) (gAttr 9 (mVar 0))) (sSeq (sAsg (mTup (aCons (mVar 1) (aCons (mC (.int 0)) aNil))) (gAttr 10 (mVar 0))) (sSeq (sAsg (mFn (f2 bMin) (aCons (m2 (vBin .Add) (m1 (vFld 11) (mVar 0)) (mC (.int 1))) (aCons (m2 (vBin .Add) (m1 (vFld 0) (m1 (vFld 6) (mVar 0))) (mC (.int 2))) aNil))) (gAttr 11 (mVar 0))) (sAsg (m2 (vBin .Mod) (m2 (vBin .Sub) (m2 (vBin .Add) (m1 (vFld 12) (mVar 0)) (m1 (vFld 2) (m1 (vFld 6) (mVar 0)))) (mC (.int 1))) (m1 (vFld 2) (m1 (vFld 6) (mVar 0)))) (gAttr 12 (mVar 0))))))
def m_Log_begin : Fn := fnM 3 b_m_Log_begin
def b_m_Log_put : MS := (sSeq (sAsg (m1 (vFld 10) (mVar 0)) (gTupM 2 (gsCons (gN 1) (gsCons (gN 2) gsNil)))) (sSeq (sAsg (mIf (mB (m2 (vCmp .Eq) (m1 (vFld 3) (m1 (vFld 6) (mVar 0))) (mC (.str "first")))) (mVar 2) (m2 (vBin .Mod) (m2 (vBin .Add) (mVar 2) (mC (.int 1))) (mVar 1))) (gN 3)) (sSeq (sAsg (mTup (aStar (mSl (m1 (vFld 9) (mVar 0)) oNone (oSome (mVar 3))) (aCons (mTup (aCons (mC (.int 0)) (aCons (mVar 3) (aCons (mVar 1) aNil)))) (aStar (mSl (m1 (vFld 9) (mVar 0)) (oSome (m2 (vBin .Add) (mVar 3) (mC (.int 1)))) oNone) aNil)))) (gAttr 9 (mVar 0))) (sSeq (sAsg (mTup (aCons (mVar 1) (aCons (m2 (vBin .Add) (mVar 2) (mC (.int 1))) aNil))) (gAttr 10 (mVar 0))) (sIf (mB (m2 (vCmp .Eq) (m2 (vBin .Add) (mVar 2) (mC (.int 1))) (mVar 1))) (sSeq (sAsg (mC .non) (gAttr 10 (mVar 0))) (sSeq (sAsg (mTup (aStar (mSl (m1 (vFld 9) (mVar 0)) (oSome (mVar 1)) oNone) (aStar (mSl (m1 (vFld 9) (mVar 0)) oNone (oSome (mVar 1))) aNil))) (gAttr 9 (mVar 0))) (sAsg (m2 (vBin .Mod) (m2 (vBin .Sub) (m2 (vBin .Add) (m1 (vFld 13) (mVar 0)) (m1 (vFld 0) (m1 (vFld 6) (mVar 0)))) (mVar 1)) (m1 (vFld 0) (m1 (vFld 6) (mVar 0)))) (gAttr 13 (mVar 0))))) sSkip)))))
def m_Log_put : Fn := fnM 4 b_m_Log_put
def b_m_Log_catch_up : MS := (sSeq (sAsg (mC (.int 0)) (gAttr 13 (mVar 0))) (sSeq (sAsg (mIf (mB (m2 (vCmp .Is) (m1 (vFld 10) (mVar 0)) (mC .non))) (mC (.int 0)) (mC (.int 1))) (gAttr 11 (mVar 0))) (sAsg (mIf (mB (m2 (vCmp .Is) (m1 (vFld 10) (mVar 0)) (mC .non))) (m2 (vBin .Mod) (mC (.int 1)) (m1 (vFld 2) (m1 (vFld 6) (mVar 0)))) (mC (.int 0))) (gAttr 12 (mVar 0)))))
def m_Log_catch_up : Fn := fnM 1 b_m_Log_catch_up
def b_m_Log_looked_at : MS := (sSeq (sAsg (mTup (aStar (m1 (vFld 9) (mVar 0)) (aStar (m1 (vFld 9) (mVar 0)) aNil))) (gN 2)) (sRet (mSl (mVar 2) (oSome (m1 (vFld 13) (mVar 0))) (oSome (m2 (vBin .Add) (m1 (vFld 13) (mVar 0)) (mVar 1))))))
def m_Log_looked_at : Fn := fnM 3 b_m_Log_looked_at
def b_m_Log_mark_of : MS := (sRet (m2 (vBin .Mod) (m2 (vBin .Sub) (m1 (vFld 2) (m1 (vFld 6) (mVar 0))) (m2 (vBin .Mod) (mVar 1) (m1 (vFld 2) (m1 (vFld 6) (mVar 0))))) (m1 (vFld 2) (m1 (vFld 6) (mVar 0)))))
def m_Log_mark_of : Fn := fnM 2 b_m_Log_mark_of
def b_m_Log_does_fail : MS := (sSeq (sIf (mB (m2 (vCmp .Eq) (m1 (vFld 4) (m1 (vFld 6) (mVar 0))) (mC (.str "none")))) (sRet (mC (.bl false))) sSkip) (sSeq (sAsg (mIf (mB (m2 (vCmp .Eq) (m1 (vFld 4) (m1 (vFld 6) (mVar 0))) (mC (.str "ends")))) (mSl (mVar 1) (oSome (m1 vNeg (mC (.int 1)))) oNone) (mVar 1)) (gN 2)) (sSeq (sAsg (mMeth [(1, 2, m_Log_mark_of)] (mVar 0) (aCons (m2 vIdx (m2 vIdx (mVar 1) (mC (.int 0))) (mC (.int 0))) aNil)) (gN 3)) (sRet (mFn (f1 bAny) (aCons (mLc (iAny (mVar 2)) (.nm 4) mYes (mOrV (m2 (vCmp .Is) (mVar 4) (mC .non)) (m2 (vCmp .NotEq) (mMeth [(1, 2, m_Log_mark_of)] (mVar 0) (aCons (m2 vIdx (mVar 4) (mC (.int 0))) aNil)) (mVar 3))) [4]) aNil))))))
def m_Log_does_fail : Fn := fnM 5 b_m_Log_does_fail
def b_m_Log_take : MS := (sSeq (sAsg (mC (.str "taken")) (gAttr 7 (mVar 0))) (sSeq (sIf (mB (m2 (vCmp .NotEq) (mVar 2) (mFn (f1 bTup) (aCons (mLc (iRange1 (aCons (m2 vIdx (mVar 1) (mC (.int 2))) aNil)) (.nm 3) mYes (mTup (aCons (m2 vIdx (mVar 1) (mC (.int 0))) (aCons (mVar 3) (aCons (m2 vIdx (mVar 1) (mC (.int 2))) aNil)))) [3]) aNil)))) (sAsg (mC (.bl true)) (gSubM (m1 (vFld 8) (mVar 0)) (mC (.str "whole")))) sSkip) (sSeq (sIf (mB (m2 (vCmp .NotEq) (m2 (vBin .Add) (m2 vIdx (mVar 1) (mC (.int 0))) (mC (.int 1))) (m1 (vFld 11) (mVar 0)))) (sAsg (mC (.bl true)) (gSubM (m1 (vFld 8) (mVar 0)) (mC (.str "next")))) sSkip) (sSeq (sAsg (m2 (vBin .Mod) (m2 (vBin .Add) (m1 (vFld 13) (mVar 0)) (m2 vIdx (mVar 1) (mC (.int 2)))) (m1 (vFld 0) (m1 (vFld 6) (mVar 0)))) (gAttr 13 (mVar 0))) (sSeq (sAsg (m2 vIdx (mVar 1) (mC (.int 0))) (gAttr 11 (mVar 0))) (sAsg (m2 (vBin .Mod) (m2 (vBin .Add) (mMeth [(1, 2, m_Log_mark_of)] (mVar 0) (aCons (m2 vIdx (mVar 1) (mC (.int 0))) aNil)) (mC (.int 1))) (m1 (vFld 2) (m1 (vFld 6) (mVar 0)))) (gAttr 12 (mVar 0))))))))
def m_Log_take : Fn := fnM 4 b_m_Log_take
def b_m_Log_read : MS := (sSeq (sAsg (m2 vIdx (m1 (vFld 9) (mVar 0)) (m1 (vFld 13) (mVar 0))) (gN 1)) (sSeq (sIf (mB (m2 (vCmp .Is) (mVar 1) (mC .non))) (sSeq (sAsg (mC (.str "nothing")) (gAttr 7 (mVar 0))) sRetN) sSkip) (sSeq (sIf (mB (m2 (vCmp .NotEq) (m2 vIdx (mVar 1) (mC (.int 1))) (mC (.int 0)))) (sSeq (sAsg (mC (.str "middle")) (gAttr 7 (mVar 0))) (sSeq (sExpr (mMeth [(1, 1, m_Log_catch_up)] (mVar 0) aNil)) sRetN)) sSkip) (sSeq (sAsg (mMeth [(1, 2, m_Log_looked_at)] (mVar 0) (aCons (m2 vIdx (mVar 1) (mC (.int 2))) aNil)) (gN 2)) (sIf (mB (mMeth [(1, 2, m_Log_does_fail)] (mVar 0) (aCons (mVar 2) aNil))) (sAsg (mC (.str "broken")) (gAttr 7 (mVar 0))) (sIf (mAnd (mB (m2 (vCmp .Eq) (m1 (vFld 5) (m1 (vFld 6) (mVar 0))) (mC (.str "strict")))) (mB (m2 (vCmp .NotEq) (mMeth [(1, 2, m_Log_mark_of)] (mVar 0) (aCons (m2 vIdx (mVar 1) (mC (.int 0))) aNil)) (m1 (vFld 12) (mVar 0))))) (sSeq (sAsg (mC (.str "other")) (gAttr 7 (mVar 0))) (sExpr (mMeth [(1, 1, m_Log_catch_up)] (mVar 0) aNil))) (sExpr (mMeth [(1, 3, m_Log_take)] (mVar 0) (aCons (mVar 1) (aCons (mVar 2) aNil))))))))))
def m_Log_read : Fn := fnM 3 b_m_Log_read
def b_m_Log_do : MS := (sIf (mB (m2 (vCmp .Eq) (m2 vIdx (mVar 1) (mC (.int 0))) (mC (.str "begin")))) (sExpr (mMeth [(1, 2, m_Log_begin)] (mVar 0) (aCons (m2 vIdx (mVar 1) (mC (.int 1))) aNil))) (sIf (mB (m2 (vCmp .Eq) (m2 vIdx (mVar 1) (mC (.int 0))) (mC (.str "put")))) (sExpr (mMeth [(1, 1, m_Log_put)] (mVar 0) aNil)) (sExpr (mMeth [(1, 1, m_Log_read)] (mVar 0) aNil))))
def m_Log_do : Fn := fnM 2 b_m_Log_do
def b_f_done : MS := (sSeq (sAsg (mMake 1 3 m_Log_o_init_o (aCons (mVar 0) (aCons (mVar 1) aNil))) (gN 3)) (sSeq (sExpr (mMeth [(1, 2, m_Log_do)] (mVar 3) (aCons (mVar 2) aNil))) (sRet (mVar 3))))
def f_done : Fn := fnM 4 b_f_done
def b_m_Log_state_now : MS := (sRet (mTup (aCons (m1 (vFld 9) (mVar 0)) (aCons (m1 (vFld 10) (mVar 0)) (aCons (mTup (aCons (m1 (vFld 13) (mVar 0)) (aCons (m1 (vFld 11) (mVar 0)) (aCons (m1 (vFld 12) (mVar 0)) aNil)))) aNil)))))
def m_Log_state_now : Fn := fnM 1 b_m_Log_state_now
def me_delay : ME := (mMeth [(1, 1, m_Log_state_now)] (mCall 3 f_done (aCons (mVar 0) (aCons (mVar 1) (aCons (mC (.tup [.str "read"])) aNil)))) aNil)
def bt_delay_0 : Bt := (.nd (.nd (.nd (.nd (.nd .lf 4466765987904 [some (.obj 3), some (.tup [.tup [.non, .non, .tup [.int 0, .int 0, .int 1]], .non, .tup [.int 0, .int 0, .int 1]]), none] (.tup [.tup [.non, .non, .tup [.int 0, .int 0, .int 1]], .non, .tup [.int 0, .int 0, .int 1]]) .lf) 4475624357952 [some (.obj 3), some (.tup [.tup [.non, .tup [.int 1, .int 0, .int 1], .tup [.int 0, .int 0, .int 1]], .non, .tup [.int 0, .int 0, .int 1]]), none] (.tup [.tup [.non, .tup [.int 1, .int 0, .int 1], .tup [.int 0, .int 0, .int 1]], .non, .tup [.int 0, .int 0, .int 1]]) .lf) 4475662914624 [some (.obj 3), some (.tup [.tup [.tup [.int 2, .int 1, .int 2], .tup [.int 1, .int 0, .int 1], .tup [.int 0, .int 0, .int 1]], .non, .tup [.int 1, .int 5, .int 1]]), none] (.tup [.tup [.tup [.int 2, .int 1, .int 2], .tup [.int 1, .int 0, .int 1], .tup [.int 0, .int 0, .int 1]], .non, .tup [.int 2, .int 1, .int 0]]) (.nd (.nd .lf 4486395859968 [some (.obj 3), some (.tup [.tup [.tup [.int 1, .int 0, .int 2], .tup [.int 1, .int 1, .int 2], .tup [.int 0, .int 0, .int 1]], .non, .tup [.int 0, .int 5, .int 0]]), none] (.tup [.tup [.tup [.int 1, .int 0, .int 2], .tup [.int 1, .int 1, .int 2], .tup [.int 0, .int 0, .int 1]], .non, .tup [.int 0, .int 0, .int 1]]) .lf) 4544478053379 [some (.obj 3), some (.tup [.tup [.non, .tup [.int 2, .int 0, .int 1], .tup [.int 1, .int 0, .int 1]], .tup [.int 2, .int 0], .tup [.int 0, .int 1, .int 0]]), none] (.tup [.tup [.non, .tup [.int 2, .int 0, .int 1], .tup [.int 1, .int 0, .int 1]], .tup [.int 2, .int 0], .tup [.int 0, .int 1, .int 0]]) .lf)) 4544511873099 [some (.obj 3), some (.tup [.tup [.tup [.int 0, .int 0, .int 2], .tup [.int 2, .int 0, .int 1], .tup [.int 1, .int 0, .int 1]], .tup [.int 2, .int 1], .tup [.int 0, .int 4, .int 1]]), none] (.tup [.tup [.tup [.int 0, .int 0, .int 2], .tup [.int 2, .int 0, .int 1], .tup [.int 1, .int 0, .int 1]], .tup [.int 2, .int 1], .tup [.int 0, .int 1, .int 0]]) (.nd (.nd (.nd .lf 4544511906891 [some (.obj 3), some (.tup [.tup [.tup [.int 0, .int 0, .int 2], .tup [.int 2, .int 0, .int 1], .tup [.int 1, .int 0, .int 1]], .tup [.int 2, .int 1], .tup [.int 2, .int 5, .int 1]]), none] (.tup [.tup [.tup [.int 0, .int 0, .int 2], .tup [.int 2, .int 0, .int 1], .tup [.int 1, .int 0, .int 1]], .tup [.int 2, .int 1], .tup [.int 0, .int 1, .int 0]]) .lf) 4544516869123 [some (.obj 3), some (.tup [.tup [.tup [.int 3, .int 1, .int 2], .tup [.int 2, .int 0, .int 1], .tup [.int 1, .int 0, .int 1]], .tup [.int 2, .int 0], .tup [.int 1, .int 3, .int 0]]), none] (.tup [.tup [.tup [.int 3, .int 1, .int 2], .tup [.int 2, .int 0, .int 1], .tup [.int 1, .int 0, .int 1]], .tup [.int 2, .int 0], .tup [.int 2, .int 2, .int 1]]) .lf) 4544516871235 [some (.obj 3), some (.tup [.tup [.tup [.int 3, .int 1, .int 2], .tup [.int 2, .int 0, .int 1], .tup [.int 1, .int 0, .int 1]], .tup [.int 2, .int 0], .tup [.int 1, .int 5, .int 1]]), none] (.tup [.tup [.tup [.int 3, .int 1, .int 2], .tup [.int 2, .int 0, .int 1], .tup [.int 1, .int 0, .int 1]], .tup [.int 2, .int 0], .tup [.int 0, .int 1, .int 0]]) (.nd .lf 4555249290251 [some (.obj 3), some (.tup [.tup [.tup [.int 0, .int 0, .int 2], .tup [.int 2, .int 1, .int 2], .tup [.int 1, .int 0, .int 1]], .tup [.int 2, .int 1], .tup [.int 0, .int 3, .int 0]]), none] (.tup [.tup [.tup [.int 0, .int 0, .int 2], .tup [.int 2, .int 1, .int 2], .tup [.int 1, .int 0, .int 1]], .tup [.int 2, .int 1], .tup [.int 2, .int 0, .int 1]]) .lf))) 4555249292363 [some (.obj 3), some (.tup [.tup [.tup [.int 0, .int 0, .int 2], .tup [.int 2, .int 1, .int 2], .tup [.int 1, .int 0, .int 1]], .tup [.int 2, .int 1], .tup [.int 0, .int 5, .int 1]]), none] (.tup [.tup [.tup [.int 0, .int 0, .int 2], .tup [.int 2, .int 1, .int 2], .tup [.int 1, .int 0, .int 1]], .tup [.int 2, .int 1], .tup [.int 0, .int 1, .int 0]]) (.nd (.nd (.nd (.nd .lf 4555249816579 [some (.obj 3), some (.tup [.tup [.tup [.int 2, .int 0, .int 2], .tup [.int 2, .int 1, .int 2], .tup [.int 1, .int 0, .int 1]], .tup [.int 2, .int 0], .tup [.int 0, .int 5, .int 0]]), none] (.tup [.tup [.tup [.int 2, .int 0, .int 2], .tup [.int 2, .int 1, .int 2], .tup [.int 1, .int 0, .int 1]], .tup [.int 2, .int 0], .tup [.int 2, .int 2, .int 1]]) .lf) 9981655520320 [some (.obj 3), some (.tup [.tup [.tup [.int 1, .int 0, .int 1], .tup [.int 0, .int 0, .int 2], .tup [.int 0, .int 1, .int 2]], .non, .tup [.int 0, .int 5, .int 1]]), none] (.tup [.tup [.tup [.int 1, .int 0, .int 1], .tup [.int 0, .int 0, .int 2], .tup [.int 0, .int 1, .int 2]], .non, .tup [.int 1, .int 1, .int 0]]) .lf) 9981676491776 [some (.obj 3), some (.tup [.tup [.tup [.int 1, .int 1, .int 2], .tup [.int 0, .int 0, .int 2], .tup [.int 0, .int 1, .int 2]], .non, .tup [.int 0, .int 5, .int 0]]), none] (.tup [.tup [.tup [.int 1, .int 1, .int 2], .tup [.int 0, .int 0, .int 2], .tup [.int 0, .int 1, .int 2]], .non, .tup [.int 0, .int 0, .int 1]]) (.nd .lf 10050509474819 [some (.obj 3), some (.tup [.tup [.tup [.int 2, .int 0, .int 1], .tup [.int 1, .int 0, .int 2], .tup [.int 1, .int 1, .int 2]], .tup [.int 2, .int 0], .tup [.int 0, .int 3, .int 0]]), none] (.tup [.tup [.tup [.int 2, .int 0, .int 1], .tup [.int 1, .int 0, .int 2], .tup [.int 1, .int 1, .int 2]], .tup [.int 2, .int 0], .tup [.int 1, .int 2, .int 1]]) .lf)) 10050509476931 [some (.obj 3), some (.tup [.tup [.tup [.int 2, .int 0, .int 1], .tup [.int 1, .int 0, .int 2], .tup [.int 1, .int 1, .int 2]], .tup [.int 2, .int 0], .tup [.int 0, .int 5, .int 1]]), none] (.tup [.tup [.tup [.int 2, .int 0, .int 1], .tup [.int 1, .int 0, .int 2], .tup [.int 1, .int 1, .int 2]], .tup [.int 2, .int 0], .tup [.int 0, .int 1, .int 0]]) (.nd (.nd (.nd .lf 10050509509634 [some (.obj 3), some (.tup [.tup [.tup [.int 2, .int 0, .int 1], .tup [.int 1, .int 0, .int 2], .tup [.int 1, .int 1, .int 2]], .tup [.int 1, .int 0], .tup [.int 2, .int 5, .int 0]]), none] (.tup [.tup [.tup [.int 2, .int 0, .int 1], .tup [.int 1, .int 0, .int 2], .tup [.int 1, .int 1, .int 2]], .tup [.int 1, .int 0], .tup [.int 0, .int 1, .int 0]]) .lf) 10050525745227 [some (.obj 3), some (.tup [.tup [.tup [.int 0, .int 0, .int 2], .tup [.int 1, .int 0, .int 2], .tup [.int 1, .int 1, .int 2]], .tup [.int 2, .int 1], .tup [.int 1, .int 4, .int 1]]), none] (.tup [.tup [.tup [.int 0, .int 0, .int 2], .tup [.int 1, .int 0, .int 2], .tup [.int 1, .int 1, .int 2]], .tup [.int 2, .int 1], .tup [.int 0, .int 1, .int 0]]) .lf) 10050530448387 [some (.obj 3), some (.tup [.tup [.tup [.int 2, .int 1, .int 2], .tup [.int 1, .int 0, .int 2], .tup [.int 1, .int 1, .int 2]], .tup [.int 2, .int 0], .tup [.int 0, .int 5, .int 0]]), none] (.tup [.tup [.tup [.int 2, .int 1, .int 2], .tup [.int 1, .int 0, .int 2], .tup [.int 1, .int 1, .int 2]], .tup [.int 2, .int 0], .tup [.int 0, .int 1, .int 0]]) (.nd .lf 10050530461763 [some (.obj 3), some (.tup [.tup [.tup [.int 2, .int 1, .int 2], .tup [.int 1, .int 0, .int 2], .tup [.int 1, .int 1, .int 2]], .tup [.int 2, .int 0], .tup [.int 1, .int 2, .int 1]]), none] (.tup [.tup [.tup [.int 2, .int 1, .int 2], .tup [.int 1, .int 0, .int 2], .tup [.int 1, .int 1, .int 2]], .tup [.int 2, .int 0], .tup [.int 0, .int 1, .int 0]]) .lf))))
def bt_delay_1 : Bt := (.nd (.nd (.nd (.nd (.nd .lf 4475641942080 [some (.obj 3), some (.tup [.tup [.tup [.int 2, .int 0, .int 1], .tup [.int 1, .int 0, .int 1], .tup [.int 0, .int 0, .int 1]], .non, .tup [.int 1, .int 4, .int 1]]), none] (.tup [.tup [.tup [.int 2, .int 0, .int 1], .tup [.int 1, .int 0, .int 1], .tup [.int 0, .int 0, .int 1]], .non, .tup [.int 2, .int 1, .int 0]]) .lf) 4475662893120 [some (.obj 3), some (.tup [.tup [.tup [.int 2, .int 1, .int 2], .tup [.int 1, .int 0, .int 1], .tup [.int 0, .int 0, .int 1]], .non, .tup [.int 0, .int 0, .int 1]]), none] (.tup [.tup [.tup [.int 2, .int 1, .int 2], .tup [.int 1, .int 0, .int 1], .tup [.int 0, .int 0, .int 1]], .non, .tup [.int 0, .int 0, .int 1]]) .lf) 4535485499458 [some (.obj 3), some (.tup [.tup [.non, .non, .tup [.int 1, .int 0, .int 1]], .tup [.int 1, .int 0], .tup [.int 2, .int 2, .int 1]]), none] (.tup [.tup [.non, .non, .tup [.int 1, .int 0, .int 1]], .tup [.int 1, .int 0], .tup [.int 0, .int 1, .int 0]]) (.nd .lf 4535519316043 [some (.obj 3), some (.tup [.tup [.tup [.int 0, .int 0, .int 2], .non, .tup [.int 1, .int 0, .int 1]], .tup [.int 2, .int 1], .tup [.int 2, .int 2, .int 1]]), none] (.tup [.tup [.tup [.int 0, .int 0, .int 2], .non, .tup [.int 1, .int 0, .int 1]], .tup [.int 2, .int 1], .tup [.int 0, .int 1, .int 0]]) .lf)) 4544495897602 [some (.obj 3), some (.tup [.tup [.tup [.int 3, .int 0, .int 1], .tup [.int 2, .int 0, .int 1], .tup [.int 1, .int 0, .int 1]], .tup [.int 1, .int 0], .tup [.int 1, .int 3, .int 0]]), none] (.tup [.tup [.tup [.int 3, .int 0, .int 1], .tup [.int 2, .int 0, .int 1], .tup [.int 1, .int 0, .int 1]], .tup [.int 1, .int 0], .tup [.int 2, .int 2, .int 1]]) (.nd (.nd (.nd .lf 4544495899714 [some (.obj 3), some (.tup [.tup [.tup [.int 3, .int 0, .int 1], .tup [.int 2, .int 0, .int 1], .tup [.int 1, .int 0, .int 1]], .tup [.int 1, .int 0], .tup [.int 1, .int 5, .int 1]]), none] (.tup [.tup [.tup [.int 3, .int 0, .int 1], .tup [.int 2, .int 0, .int 1], .tup [.int 1, .int 0, .int 1]], .tup [.int 1, .int 0], .tup [.int 0, .int 1, .int 0]]) .lf) 4544511874123 [some (.obj 3), some (.tup [.tup [.tup [.int 0, .int 0, .int 2], .tup [.int 2, .int 0, .int 1], .tup [.int 1, .int 0, .int 1]], .tup [.int 2, .int 1], .tup [.int 0, .int 5, .int 1]]), none] (.tup [.tup [.tup [.int 0, .int 0, .int 2], .tup [.int 2, .int 0, .int 1], .tup [.int 1, .int 0, .int 1]], .tup [.int 2, .int 1], .tup [.int 0, .int 1, .int 0]]) .lf) 4544516871170 [some (.obj 3), some (.tup [.tup [.tup [.int 3, .int 1, .int 2], .tup [.int 2, .int 0, .int 1], .tup [.int 1, .int 0, .int 1]], .tup [.int 1, .int 0], .tup [.int 1, .int 5, .int 0]]), none] (.tup [.tup [.tup [.int 3, .int 1, .int 2], .tup [.int 2, .int 0, .int 1], .tup [.int 1, .int 0, .int 1]], .tup [.int 1, .int 0], .tup [.int 2, .int 2, .int 1]]) (.nd .lf 4544516884546 [some (.obj 3), some (.tup [.tup [.tup [.int 3, .int 1, .int 2], .tup [.int 2, .int 0, .int 1], .tup [.int 1, .int 0, .int 1]], .tup [.int 1, .int 0], .tup [.int 2, .int 2, .int 1]]), none] (.tup [.tup [.tup [.int 3, .int 1, .int 2], .tup [.int 2, .int 0, .int 1], .tup [.int 1, .int 0, .int 1]], .tup [.int 1, .int 0], .tup [.int 0, .int 1, .int 0]]) .lf))) 4555249325067 [some (.obj 3), some (.tup [.tup [.tup [.int 0, .int 0, .int 2], .tup [.int 2, .int 1, .int 2], .tup [.int 1, .int 0, .int 1]], .tup [.int 2, .int 1], .tup [.int 2, .int 5, .int 0]]), none] (.tup [.tup [.tup [.int 0, .int 0, .int 2], .tup [.int 2, .int 1, .int 2], .tup [.int 1, .int 0, .int 1]], .tup [.int 2, .int 1], .tup [.int 0, .int 1, .int 0]]) (.nd (.nd (.nd (.nd .lf 4555249832002 [some (.obj 3), some (.tup [.tup [.tup [.int 2, .int 0, .int 2], .tup [.int 2, .int 1, .int 2], .tup [.int 1, .int 0, .int 1]], .tup [.int 1, .int 0], .tup [.int 1, .int 4, .int 1]]), none] (.tup [.tup [.tup [.int 2, .int 0, .int 2], .tup [.int 2, .int 1, .int 2], .tup [.int 1, .int 0, .int 1]], .tup [.int 1, .int 0], .tup [.int 0, .int 1, .int 0]]) .lf) 9981655553024 [some (.obj 3), some (.tup [.tup [.tup [.int 1, .int 0, .int 1], .tup [.int 0, .int 0, .int 2], .tup [.int 0, .int 1, .int 2]], .non, .tup [.int 2, .int 5, .int 0]]), none] (.tup [.tup [.tup [.int 1, .int 0, .int 1], .tup [.int 0, .int 0, .int 2], .tup [.int 0, .int 1, .int 2]], .non, .tup [.int 0, .int 0, .int 1]]) .lf) 9981676504064 [some (.obj 3), some (.tup [.tup [.tup [.int 1, .int 1, .int 2], .tup [.int 0, .int 0, .int 2], .tup [.int 0, .int 1, .int 2]], .non, .tup [.int 1, .int 1, .int 0]]), none] (.tup [.tup [.tup [.int 1, .int 1, .int 2], .tup [.int 0, .int 0, .int 2], .tup [.int 0, .int 1, .int 2]], .non, .tup [.int 0, .int 0, .int 1]]) (.nd .lf 10050509476866 [some (.obj 3), some (.tup [.tup [.tup [.int 2, .int 0, .int 1], .tup [.int 1, .int 0, .int 2], .tup [.int 1, .int 1, .int 2]], .tup [.int 1, .int 0], .tup [.int 0, .int 5, .int 0]]), none] (.tup [.tup [.tup [.int 2, .int 0, .int 1], .tup [.int 1, .int 0, .int 2], .tup [.int 1, .int 1, .int 2]], .tup [.int 1, .int 0], .tup [.int 1, .int 2, .int 1]]) .lf)) 10050509490242 [some (.obj 3), some (.tup [.tup [.tup [.int 2, .int 0, .int 1], .tup [.int 1, .int 0, .int 2], .tup [.int 1, .int 1, .int 2]], .tup [.int 1, .int 0], .tup [.int 1, .int 2, .int 1]]), none] (.tup [.tup [.tup [.int 2, .int 0, .int 1], .tup [.int 1, .int 0, .int 2], .tup [.int 1, .int 1, .int 2]], .tup [.int 1, .int 0], .tup [.int 0, .int 1, .int 0]]) (.nd (.nd (.nd .lf 10050509509635 [some (.obj 3), some (.tup [.tup [.tup [.int 2, .int 0, .int 1], .tup [.int 1, .int 0, .int 2], .tup [.int 1, .int 1, .int 2]], .tup [.int 2, .int 0], .tup [.int 2, .int 5, .int 0]]), none] (.tup [.tup [.tup [.int 2, .int 0, .int 1], .tup [.int 1, .int 0, .int 2], .tup [.int 1, .int 1, .int 2]], .tup [.int 2, .int 0], .tup [.int 0, .int 1, .int 0]]) .lf) 10050525746251 [some (.obj 3), some (.tup [.tup [.tup [.int 0, .int 0, .int 2], .tup [.int 1, .int 0, .int 2], .tup [.int 1, .int 1, .int 2]], .tup [.int 2, .int 1], .tup [.int 1, .int 5, .int 1]]), none] (.tup [.tup [.tup [.int 0, .int 0, .int 2], .tup [.int 1, .int 0, .int 2], .tup [.int 1, .int 1, .int 2]], .tup [.int 2, .int 1], .tup [.int 0, .int 1, .int 0]]) .lf) 10050525757515 [some (.obj 3), some (.tup [.tup [.tup [.int 0, .int 0, .int 2], .tup [.int 1, .int 0, .int 2], .tup [.int 1, .int 1, .int 2]], .tup [.int 2, .int 1], .tup [.int 2, .int 0, .int 1]]), none] (.tup [.tup [.tup [.int 0, .int 0, .int 2], .tup [.int 1, .int 0, .int 2], .tup [.int 1, .int 1, .int 2]], .tup [.int 2, .int 1], .tup [.int 0, .int 1, .int 0]]) (.nd .lf 10050530463810 [some (.obj 3), some (.tup [.tup [.tup [.int 2, .int 1, .int 2], .tup [.int 1, .int 0, .int 2], .tup [.int 1, .int 1, .int 2]], .tup [.int 1, .int 0], .tup [.int 1, .int 4, .int 1]]), none] (.tup [.tup [.tup [.int 2, .int 1, .int 2], .tup [.int 1, .int 0, .int 2], .tup [.int 1, .int 1, .int 2]], .tup [.int 1, .int 0], .tup [.int 0, .int 1, .int 0]]) .lf))))
def bt_delay_2 : Bt := (.nd (.nd (.nd (.nd (.nd .lf 4466766021632 [some (.obj 3), some (.tup [.tup [.non, .non, .tup [.int 0, .int 0, .int 1]], .non, .tup [.int 2, .int 1, .int 0]]), none] (.tup [.tup [.non, .non, .tup [.int 0, .int 0, .int 1]], .non, .tup [.int 0, .int 0, .int 1]]) .lf) 4475624391680 [some (.obj 3), some (.tup [.tup [.non, .tup [.int 1, .int 0, .int 1], .tup [.int 0, .int 0, .int 1]], .non, .tup [.int 2, .int 1, .int 0]]), none] (.tup [.tup [.non, .tup [.int 1, .int 0, .int 1], .tup [.int 0, .int 0, .int 1]], .non, .tup [.int 0, .int 0, .int 1]]) .lf) 4475641943104 [some (.obj 3), some (.tup [.tup [.tup [.int 2, .int 0, .int 1], .tup [.int 1, .int 0, .int 1], .tup [.int 0, .int 0, .int 1]], .non, .tup [.int 1, .int 5, .int 1]]), none] (.tup [.tup [.tup [.int 2, .int 0, .int 1], .tup [.int 1, .int 0, .int 1], .tup [.int 0, .int 0, .int 1]], .non, .tup [.int 2, .int 1, .int 0]]) (.nd (.nd .lf 4475662914560 [some (.obj 3), some (.tup [.tup [.tup [.int 2, .int 1, .int 2], .tup [.int 1, .int 0, .int 1], .tup [.int 0, .int 0, .int 1]], .non, .tup [.int 1, .int 5, .int 0]]), none] (.tup [.tup [.tup [.int 2, .int 1, .int 2], .tup [.int 1, .int 0, .int 1], .tup [.int 0, .int 0, .int 1]], .non, .tup [.int 0, .int 0, .int 1]]) .lf) 4486395875392 [some (.obj 3), some (.tup [.tup [.tup [.int 1, .int 0, .int 2], .tup [.int 1, .int 1, .int 2], .tup [.int 0, .int 0, .int 1]], .non, .tup [.int 1, .int 4, .int 1]]), none] (.tup [.tup [.tup [.int 1, .int 0, .int 2], .tup [.int 1, .int 1, .int 2], .tup [.int 0, .int 0, .int 1]], .non, .tup [.int 0, .int 0, .int 1]]) .lf)) 4535485499459 [some (.obj 3), some (.tup [.tup [.non, .non, .tup [.int 1, .int 0, .int 1]], .tup [.int 2, .int 0], .tup [.int 2, .int 2, .int 1]]), none] (.tup [.tup [.non, .non, .tup [.int 1, .int 0, .int 1]], .tup [.int 2, .int 0], .tup [.int 0, .int 1, .int 0]]) (.nd (.nd (.nd .lf 4544495897603 [some (.obj 3), some (.tup [.tup [.tup [.int 3, .int 0, .int 1], .tup [.int 2, .int 0, .int 1], .tup [.int 1, .int 0, .int 1]], .tup [.int 2, .int 0], .tup [.int 1, .int 3, .int 0]]), none] (.tup [.tup [.tup [.int 3, .int 0, .int 1], .tup [.int 2, .int 0, .int 1], .tup [.int 1, .int 0, .int 1]], .tup [.int 2, .int 0], .tup [.int 2, .int 2, .int 1]]) .lf) 4544495899715 [some (.obj 3), some (.tup [.tup [.tup [.int 3, .int 0, .int 1], .tup [.int 2, .int 0, .int 1], .tup [.int 1, .int 0, .int 1]], .tup [.int 2, .int 0], .tup [.int 1, .int 5, .int 1]]), none] (.tup [.tup [.tup [.int 3, .int 0, .int 1], .tup [.int 2, .int 0, .int 1], .tup [.int 1, .int 0, .int 1]], .tup [.int 2, .int 0], .tup [.int 0, .int 1, .int 0]]) .lf) 4544511906827 [some (.obj 3), some (.tup [.tup [.tup [.int 0, .int 0, .int 2], .tup [.int 2, .int 0, .int 1], .tup [.int 1, .int 0, .int 1]], .tup [.int 2, .int 1], .tup [.int 2, .int 5, .int 0]]), none] (.tup [.tup [.tup [.int 0, .int 0, .int 2], .tup [.int 2, .int 0, .int 1], .tup [.int 1, .int 0, .int 1]], .tup [.int 2, .int 1], .tup [.int 0, .int 1, .int 0]]) (.nd .lf 4544516871171 [some (.obj 3), some (.tup [.tup [.tup [.int 3, .int 1, .int 2], .tup [.int 2, .int 0, .int 1], .tup [.int 1, .int 0, .int 1]], .tup [.int 2, .int 0], .tup [.int 1, .int 5, .int 0]]), none] (.tup [.tup [.tup [.int 3, .int 1, .int 2], .tup [.int 2, .int 0, .int 1], .tup [.int 1, .int 0, .int 1]], .tup [.int 2, .int 0], .tup [.int 2, .int 2, .int 1]]) .lf))) 4544516884547 [some (.obj 3), some (.tup [.tup [.tup [.int 3, .int 1, .int 2], .tup [.int 2, .int 0, .int 1], .tup [.int 1, .int 0, .int 1]], .tup [.int 2, .int 0], .tup [.int 2, .int 2, .int 1]]), none] (.tup [.tup [.tup [.int 3, .int 1, .int 2], .tup [.int 2, .int 0, .int 1], .tup [.int 1, .int 0, .int 1]], .tup [.int 2, .int 0], .tup [.int 0, .int 1, .int 0]]) (.nd (.nd (.nd (.nd .lf 4555249292299 [some (.obj 3), some (.tup [.tup [.tup [.int 0, .int 0, .int 2], .tup [.int 2, .int 1, .int 2], .tup [.int 1, .int 0, .int 1]], .tup [.int 2, .int 1], .tup [.int 0, .int 5, .int 0]]), none] (.tup [.tup [.tup [.int 0, .int 0, .int 2], .tup [.int 2, .int 1, .int 2], .tup [.int 1, .int 0, .int 1]], .tup [.int 2, .int 1], .tup [.int 2, .int 0, .int 1]]) .lf) 4555249832003 [some (.obj 3), some (.tup [.tup [.tup [.int 2, .int 0, .int 2], .tup [.int 2, .int 1, .int 2], .tup [.int 1, .int 0, .int 1]], .tup [.int 2, .int 0], .tup [.int 1, .int 4, .int 1]]), none] (.tup [.tup [.tup [.int 2, .int 0, .int 2], .tup [.int 2, .int 1, .int 2], .tup [.int 1, .int 0, .int 1]], .tup [.int 2, .int 0], .tup [.int 0, .int 1, .int 0]]) .lf) 4555249833026 [some (.obj 3), some (.tup [.tup [.tup [.int 2, .int 0, .int 2], .tup [.int 2, .int 1, .int 2], .tup [.int 1, .int 0, .int 1]], .tup [.int 1, .int 0], .tup [.int 1, .int 5, .int 1]]), none] (.tup [.tup [.tup [.int 2, .int 0, .int 2], .tup [.int 2, .int 1, .int 2], .tup [.int 1, .int 0, .int 1]], .tup [.int 1, .int 0], .tup [.int 0, .int 1, .int 0]]) (.nd .lf 9981655520256 [some (.obj 3), some (.tup [.tup [.tup [.int 1, .int 0, .int 1], .tup [.int 0, .int 0, .int 2], .tup [.int 0, .int 1, .int 2]], .non, .tup [.int 0, .int 5, .int 0]]), none] (.tup [.tup [.tup [.int 1, .int 0, .int 1], .tup [.int 0, .int 0, .int 2], .tup [.int 0, .int 1, .int 2]], .non, .tup [.int 0, .int 0, .int 1]]) .lf)) 9981676507200 [some (.obj 3), some (.tup [.tup [.tup [.int 1, .int 1, .int 2], .tup [.int 0, .int 0, .int 2], .tup [.int 0, .int 1, .int 2]], .non, .tup [.int 1, .int 4, .int 1]]), none] (.tup [.tup [.tup [.int 1, .int 1, .int 2], .tup [.int 0, .int 0, .int 2], .tup [.int 0, .int 1, .int 2]], .non, .tup [.int 0, .int 0, .int 1]]) (.nd (.nd (.nd .lf 10050509476867 [some (.obj 3), some (.tup [.tup [.tup [.int 2, .int 0, .int 1], .tup [.int 1, .int 0, .int 2], .tup [.int 1, .int 1, .int 2]], .tup [.int 2, .int 0], .tup [.int 0, .int 5, .int 0]]), none] (.tup [.tup [.tup [.int 2, .int 0, .int 1], .tup [.int 1, .int 0, .int 2], .tup [.int 1, .int 1, .int 2]], .tup [.int 2, .int 0], .tup [.int 1, .int 2, .int 1]]) .lf) 10050509490243 [some (.obj 3), some (.tup [.tup [.tup [.int 2, .int 0, .int 1], .tup [.int 1, .int 0, .int 2], .tup [.int 1, .int 1, .int 2]], .tup [.int 2, .int 0], .tup [.int 1, .int 2, .int 1]]), none] (.tup [.tup [.tup [.int 2, .int 0, .int 1], .tup [.int 1, .int 0, .int 2], .tup [.int 1, .int 1, .int 2]], .tup [.int 2, .int 0], .tup [.int 0, .int 1, .int 0]]) .lf) 10050530463811 [some (.obj 3), some (.tup [.tup [.tup [.int 2, .int 1, .int 2], .tup [.int 1, .int 0, .int 2], .tup [.int 1, .int 1, .int 2]], .tup [.int 2, .int 0], .tup [.int 1, .int 4, .int 1]]), none] (.tup [.tup [.tup [.int 2, .int 1, .int 2], .tup [.int 1, .int 0, .int 2], .tup [.int 1, .int 1, .int 2]], .tup [.int 2, .int 0], .tup [.int 0, .int 1, .int 0]]) (.nd .lf 10050530464834 [some (.obj 3), some (.tup [.tup [.tup [.int 2, .int 1, .int 2], .tup [.int 1, .int 0, .int 2], .tup [.int 1, .int 1, .int 2]], .tup [.int 1, .int 0], .tup [.int 1, .int 5, .int 1]]), none] (.tup [.tup [.tup [.int 2, .int 1, .int 2], .tup [.int 1, .int 0, .int 2], .tup [.int 1, .int 1, .int 2]], .tup [.int 1, .int 0], .tup [.int 0, .int 1, .int 0]]) .lf))))
def bt_delay_3 : Bt := (.nd (.nd (.nd (.nd (.nd .lf 1026 [some (.obj 3), some (.tup [.tup [.non, .non, .non], .tup [.int 1, .int 0], .tup [.int 0, .int 1, .int 0]]), none] (.tup [.tup [.non, .non, .non], .tup [.int 1, .int 0], .tup [.int 0, .int 1, .int 0]]) .lf) 33817611 [some (.obj 3), some (.tup [.tup [.tup [.int 0, .int 0, .int 2], .non, .non], .tup [.int 2, .int 1], .tup [.int 0, .int 1, .int 0]]), none] (.tup [.tup [.tup [.int 0, .int 0, .int 2], .non, .non], .tup [.int 2, .int 1], .tup [.int 2, .int 0, .int 1]]) .lf) 4475641921600 [some (.obj 3), some (.tup [.tup [.tup [.int 2, .int 0, .int 1], .tup [.int 1, .int 0, .int 1], .tup [.int 0, .int 0, .int 1]], .non, .tup [.int 0, .int 0, .int 1]]), none] (.tup [.tup [.tup [.int 2, .int 0, .int 1], .tup [.int 1, .int 0, .int 1], .tup [.int 0, .int 0, .int 1]], .non, .tup [.int 0, .int 0, .int 1]]) (.nd (.nd .lf 4475662926848 [some (.obj 3), some (.tup [.tup [.tup [.int 2, .int 1, .int 2], .tup [.int 1, .int 0, .int 1], .tup [.int 0, .int 0, .int 1]], .non, .tup [.int 2, .int 1, .int 0]]), none] (.tup [.tup [.tup [.int 2, .int 1, .int 2], .tup [.int 1, .int 0, .int 1], .tup [.int 0, .int 0, .int 1]], .non, .tup [.int 0, .int 0, .int 1]]) .lf) 4486395874304 [some (.obj 3), some (.tup [.tup [.tup [.int 1, .int 0, .int 2], .tup [.int 1, .int 1, .int 2], .tup [.int 0, .int 0, .int 1]], .non, .tup [.int 1, .int 3, .int 0]]), none] (.tup [.tup [.tup [.int 1, .int 0, .int 2], .tup [.int 1, .int 1, .int 2], .tup [.int 0, .int 0, .int 1]], .non, .tup [.int 0, .int 0, .int 1]]) .lf)) 4486395876416 [some (.obj 3), some (.tup [.tup [.tup [.int 1, .int 0, .int 2], .tup [.int 1, .int 1, .int 2], .tup [.int 0, .int 0, .int 1]], .non, .tup [.int 1, .int 5, .int 1]]), none] (.tup [.tup [.tup [.int 1, .int 0, .int 2], .tup [.int 1, .int 1, .int 2], .tup [.int 0, .int 0, .int 1]], .non, .tup [.int 0, .int 0, .int 1]]) (.nd (.nd (.nd .lf 4535485465602 [some (.obj 3), some (.tup [.tup [.non, .non, .tup [.int 1, .int 0, .int 1]], .tup [.int 1, .int 0], .tup [.int 0, .int 1, .int 0]]), none] (.tup [.tup [.non, .non, .tup [.int 1, .int 0, .int 1]], .tup [.int 1, .int 0], .tup [.int 0, .int 1, .int 0]]) .lf) 4535519282187 [some (.obj 3), some (.tup [.tup [.tup [.int 0, .int 0, .int 2], .non, .tup [.int 1, .int 0, .int 1]], .tup [.int 2, .int 1], .tup [.int 0, .int 1, .int 0]]), none] (.tup [.tup [.tup [.int 0, .int 0, .int 2], .non, .tup [.int 1, .int 0, .int 1]], .tup [.int 2, .int 1], .tup [.int 2, .int 0, .int 1]]) .lf) 4544495899650 [some (.obj 3), some (.tup [.tup [.tup [.int 3, .int 0, .int 1], .tup [.int 2, .int 0, .int 1], .tup [.int 1, .int 0, .int 1]], .tup [.int 1, .int 0], .tup [.int 1, .int 5, .int 0]]), none] (.tup [.tup [.tup [.int 3, .int 0, .int 1], .tup [.int 2, .int 0, .int 1], .tup [.int 1, .int 0, .int 1]], .tup [.int 1, .int 0], .tup [.int 2, .int 2, .int 1]]) (.nd .lf 4544495913026 [some (.obj 3), some (.tup [.tup [.tup [.int 3, .int 0, .int 1], .tup [.int 2, .int 0, .int 1], .tup [.int 1, .int 0, .int 1]], .tup [.int 1, .int 0], .tup [.int 2, .int 2, .int 1]]), none] (.tup [.tup [.tup [.int 3, .int 0, .int 1], .tup [.int 2, .int 0, .int 1], .tup [.int 1, .int 0, .int 1]], .tup [.int 1, .int 0], .tup [.int 0, .int 1, .int 0]]) .lf))) 4544511874059 [some (.obj 3), some (.tup [.tup [.tup [.int 0, .int 0, .int 2], .tup [.int 2, .int 0, .int 1], .tup [.int 1, .int 0, .int 1]], .tup [.int 2, .int 1], .tup [.int 0, .int 5, .int 0]]), none] (.tup [.tup [.tup [.int 0, .int 0, .int 2], .tup [.int 2, .int 0, .int 1], .tup [.int 1, .int 0, .int 1]], .tup [.int 2, .int 1], .tup [.int 2, .int 0, .int 1]]) (.nd (.nd (.nd (.nd .lf 4544516850690 [some (.obj 3), some (.tup [.tup [.tup [.int 3, .int 1, .int 2], .tup [.int 2, .int 0, .int 1], .tup [.int 1, .int 0, .int 1]], .tup [.int 1, .int 0], .tup [.int 0, .int 1, .int 0]]), none] (.tup [.tup [.tup [.int 3, .int 1, .int 2], .tup [.int 2, .int 0, .int 1], .tup [.int 1, .int 0, .int 1]], .tup [.int 1, .int 0], .tup [.int 0, .int 1, .int 0]]) .lf) 4544516886594 [some (.obj 3), some (.tup [.tup [.tup [.int 3, .int 1, .int 2], .tup [.int 2, .int 0, .int 1], .tup [.int 1, .int 0, .int 1]], .tup [.int 1, .int 0], .tup [.int 2, .int 4, .int 1]]), none] (.tup [.tup [.tup [.int 3, .int 1, .int 2], .tup [.int 2, .int 0, .int 1], .tup [.int 1, .int 0, .int 1]], .tup [.int 1, .int 0], .tup [.int 0, .int 1, .int 0]]) .lf) 4555249833027 [some (.obj 3), some (.tup [.tup [.tup [.int 2, .int 0, .int 2], .tup [.int 2, .int 1, .int 2], .tup [.int 1, .int 0, .int 1]], .tup [.int 2, .int 0], .tup [.int 1, .int 5, .int 1]]), none] (.tup [.tup [.tup [.int 2, .int 0, .int 2], .tup [.int 2, .int 1, .int 2], .tup [.int 1, .int 0, .int 1]], .tup [.int 2, .int 0], .tup [.int 0, .int 1, .int 0]]) (.nd (.nd .lf 9981638231040 [some (.obj 3), some (.tup [.tup [.non, .tup [.int 0, .int 0, .int 2], .tup [.int 0, .int 1, .int 2]], .non, .tup [.int 1, .int 1, .int 0]]), none] (.tup [.tup [.non, .tup [.int 0, .int 0, .int 2], .tup [.int 0, .int 1, .int 2]], .non, .tup [.int 0, .int 0, .int 1]]) .lf) 9981655532544 [some (.obj 3), some (.tup [.tup [.tup [.int 1, .int 0, .int 1], .tup [.int 0, .int 0, .int 2], .tup [.int 0, .int 1, .int 2]], .non, .tup [.int 1, .int 1, .int 0]]), none] (.tup [.tup [.tup [.int 1, .int 0, .int 1], .tup [.int 0, .int 0, .int 2], .tup [.int 0, .int 1, .int 2]], .non, .tup [.int 0, .int 0, .int 1]]) .lf)) 9981676506112 [some (.obj 3), some (.tup [.tup [.tup [.int 1, .int 1, .int 2], .tup [.int 0, .int 0, .int 2], .tup [.int 0, .int 1, .int 2]], .non, .tup [.int 1, .int 3, .int 0]]), none] (.tup [.tup [.tup [.int 1, .int 1, .int 2], .tup [.int 0, .int 0, .int 2], .tup [.int 0, .int 1, .int 2]], .non, .tup [.int 0, .int 0, .int 1]]) (.nd (.nd (.nd .lf 9981676508224 [some (.obj 3), some (.tup [.tup [.tup [.int 1, .int 1, .int 2], .tup [.int 0, .int 0, .int 2], .tup [.int 0, .int 1, .int 2]], .non, .tup [.int 1, .int 5, .int 1]]), none] (.tup [.tup [.tup [.int 1, .int 1, .int 2], .tup [.int 0, .int 0, .int 2], .tup [.int 0, .int 1, .int 2]], .non, .tup [.int 0, .int 0, .int 1]]) .lf) 10050509492290 [some (.obj 3), some (.tup [.tup [.tup [.int 2, .int 0, .int 1], .tup [.int 1, .int 0, .int 2], .tup [.int 1, .int 1, .int 2]], .tup [.int 1, .int 0], .tup [.int 1, .int 4, .int 1]]), none] (.tup [.tup [.tup [.int 2, .int 0, .int 1], .tup [.int 1, .int 0, .int 2], .tup [.int 1, .int 1, .int 2]], .tup [.int 1, .int 0], .tup [.int 0, .int 1, .int 0]]) .lf) 10050525746187 [some (.obj 3), some (.tup [.tup [.tup [.int 0, .int 0, .int 2], .tup [.int 1, .int 0, .int 2], .tup [.int 1, .int 1, .int 2]], .tup [.int 2, .int 1], .tup [.int 1, .int 5, .int 0]]), none] (.tup [.tup [.tup [.int 0, .int 0, .int 2], .tup [.int 1, .int 0, .int 2], .tup [.int 1, .int 1, .int 2]], .tup [.int 2, .int 1], .tup [.int 0, .int 1, .int 0]]) (.nd .lf 10050530464835 [some (.obj 3), some (.tup [.tup [.tup [.int 2, .int 1, .int 2], .tup [.int 1, .int 0, .int 2], .tup [.int 1, .int 1, .int 2]], .tup [.int 2, .int 0], .tup [.int 1, .int 5, .int 1]]), none] (.tup [.tup [.tup [.int 2, .int 1, .int 2], .tup [.int 1, .int 0, .int 2], .tup [.int 1, .int 1, .int 2]], .tup [.int 2, .int 0], .tup [.int 0, .int 1, .int 0]]) .lf))))
def bt_delay_4 : Bt := (.nd (.nd (.nd (.nd (.nd .lf 1027 [some (.obj 3), some (.tup [.tup [.non, .non, .non], .tup [.int 2, .int 0], .tup [.int 0, .int 1, .int 0]]), none] (.tup [.tup [.non, .non, .non], .tup [.int 2, .int 0], .tup [.int 0, .int 1, .int 0]]) .lf) 4475641943040 [some (.obj 3), some (.tup [.tup [.tup [.int 2, .int 0, .int 1], .tup [.int 1, .int 0, .int 1], .tup [.int 0, .int 0, .int 1]], .non, .tup [.int 1, .int 5, .int 0]]), none] (.tup [.tup [.tup [.int 2, .int 0, .int 1], .tup [.int 1, .int 0, .int 1], .tup [.int 0, .int 0, .int 1]], .non, .tup [.int 0, .int 0, .int 1]]) .lf) 4486395854912 [some (.obj 3), some (.tup [.tup [.tup [.int 1, .int 0, .int 2], .tup [.int 1, .int 1, .int 2], .tup [.int 0, .int 0, .int 1]], .non, .tup [.int 0, .int 0, .int 1]]), none] (.tup [.tup [.tup [.int 1, .int 0, .int 2], .tup [.int 1, .int 1, .int 2], .tup [.int 0, .int 0, .int 1]], .non, .tup [.int 2, .int 1, .int 0]]) (.nd .lf 4535485465603 [some (.obj 3), some (.tup [.tup [.non, .non, .tup [.int 1, .int 0, .int 1]], .tup [.int 2, .int 0], .tup [.int 0, .int 1, .int 0]]), none] (.tup [.tup [.non, .non, .tup [.int 1, .int 0, .int 1]], .tup [.int 2, .int 0], .tup [.int 0, .int 1, .int 0]]) .lf)) 4544495899651 [some (.obj 3), some (.tup [.tup [.tup [.int 3, .int 0, .int 1], .tup [.int 2, .int 0, .int 1], .tup [.int 1, .int 0, .int 1]], .tup [.int 2, .int 0], .tup [.int 1, .int 5, .int 0]]), none] (.tup [.tup [.tup [.int 3, .int 0, .int 1], .tup [.int 2, .int 0, .int 1], .tup [.int 1, .int 0, .int 1]], .tup [.int 2, .int 0], .tup [.int 2, .int 2, .int 1]]) (.nd (.nd .lf 4544495913027 [some (.obj 3), some (.tup [.tup [.tup [.int 3, .int 0, .int 1], .tup [.int 2, .int 0, .int 1], .tup [.int 1, .int 0, .int 1]], .tup [.int 2, .int 0], .tup [.int 2, .int 2, .int 1]]), none] (.tup [.tup [.tup [.int 3, .int 0, .int 1], .tup [.int 2, .int 0, .int 1], .tup [.int 1, .int 0, .int 1]], .tup [.int 2, .int 0], .tup [.int 0, .int 1, .int 0]]) .lf) 4544516850691 [some (.obj 3), some (.tup [.tup [.tup [.int 3, .int 1, .int 2], .tup [.int 2, .int 0, .int 1], .tup [.int 1, .int 0, .int 1]], .tup [.int 2, .int 0], .tup [.int 0, .int 1, .int 0]]), none] (.tup [.tup [.tup [.int 3, .int 1, .int 2], .tup [.int 2, .int 0, .int 1], .tup [.int 1, .int 0, .int 1]], .tup [.int 2, .int 0], .tup [.int 0, .int 1, .int 0]]) (.nd .lf 4544516886595 [some (.obj 3), some (.tup [.tup [.tup [.int 3, .int 1, .int 2], .tup [.int 2, .int 0, .int 1], .tup [.int 1, .int 0, .int 1]], .tup [.int 2, .int 0], .tup [.int 2, .int 4, .int 1]]), none] (.tup [.tup [.tup [.int 3, .int 1, .int 2], .tup [.int 2, .int 0, .int 1], .tup [.int 1, .int 0, .int 1]], .tup [.int 2, .int 0], .tup [.int 0, .int 1, .int 0]]) .lf))) 4544516887618 [some (.obj 3), some (.tup [.tup [.tup [.int 3, .int 1, .int 2], .tup [.int 2, .int 0, .int 1], .tup [.int 1, .int 0, .int 1]], .tup [.int 1, .int 0], .tup [.int 2, .int 5, .int 1]]), none] (.tup [.tup [.tup [.int 3, .int 1, .int 2], .tup [.int 2, .int 0, .int 1], .tup [.int 1, .int 0, .int 1]], .tup [.int 1, .int 0], .tup [.int 0, .int 1, .int 0]]) (.nd (.nd (.nd (.nd .lf 4555249307723 [some (.obj 3), some (.tup [.tup [.tup [.int 0, .int 0, .int 2], .tup [.int 2, .int 1, .int 2], .tup [.int 1, .int 0, .int 1]], .tup [.int 2, .int 1], .tup [.int 1, .int 4, .int 1]]), none] (.tup [.tup [.tup [.int 0, .int 0, .int 2], .tup [.int 2, .int 1, .int 2], .tup [.int 1, .int 0, .int 1]], .tup [.int 2, .int 1], .tup [.int 0, .int 1, .int 0]]) .lf) 4555249832962 [some (.obj 3), some (.tup [.tup [.tup [.int 2, .int 0, .int 2], .tup [.int 2, .int 1, .int 2], .tup [.int 1, .int 0, .int 1]], .tup [.int 1, .int 0], .tup [.int 1, .int 5, .int 0]]), none] (.tup [.tup [.tup [.int 2, .int 0, .int 2], .tup [.int 2, .int 1, .int 2], .tup [.int 1, .int 0, .int 1]], .tup [.int 1, .int 0], .tup [.int 0, .int 1, .int 0]]) .lf) 4555249846338 [some (.obj 3), some (.tup [.tup [.tup [.int 2, .int 0, .int 2], .tup [.int 2, .int 1, .int 2], .tup [.int 1, .int 0, .int 1]], .tup [.int 1, .int 0], .tup [.int 2, .int 2, .int 1]]), none] (.tup [.tup [.tup [.int 2, .int 0, .int 2], .tup [.int 2, .int 1, .int 2], .tup [.int 1, .int 0, .int 1]], .tup [.int 1, .int 0], .tup [.int 0, .int 1, .int 0]]) (.nd .lf 9981655535680 [some (.obj 3), some (.tup [.tup [.tup [.int 1, .int 0, .int 1], .tup [.int 0, .int 0, .int 2], .tup [.int 0, .int 1, .int 2]], .non, .tup [.int 1, .int 4, .int 1]]), none] (.tup [.tup [.tup [.int 1, .int 0, .int 1], .tup [.int 0, .int 0, .int 2], .tup [.int 0, .int 1, .int 2]], .non, .tup [.int 0, .int 0, .int 1]]) .lf)) 9981676486720 [some (.obj 3), some (.tup [.tup [.tup [.int 1, .int 1, .int 2], .tup [.int 0, .int 0, .int 2], .tup [.int 0, .int 1, .int 2]], .non, .tup [.int 0, .int 0, .int 1]]), none] (.tup [.tup [.tup [.int 1, .int 1, .int 2], .tup [.int 0, .int 0, .int 2], .tup [.int 0, .int 1, .int 2]], .non, .tup [.int 0, .int 0, .int 1]]) (.nd (.nd .lf 10050509492291 [some (.obj 3), some (.tup [.tup [.tup [.int 2, .int 0, .int 1], .tup [.int 1, .int 0, .int 2], .tup [.int 1, .int 1, .int 2]], .tup [.int 2, .int 0], .tup [.int 1, .int 4, .int 1]]), none] (.tup [.tup [.tup [.int 2, .int 0, .int 1], .tup [.int 1, .int 0, .int 2], .tup [.int 1, .int 1, .int 2]], .tup [.int 2, .int 0], .tup [.int 0, .int 1, .int 0]]) .lf) 10050509493314 [some (.obj 3), some (.tup [.tup [.tup [.int 2, .int 0, .int 1], .tup [.int 1, .int 0, .int 2], .tup [.int 1, .int 1, .int 2]], .tup [.int 1, .int 0], .tup [.int 1, .int 5, .int 1]]), none] (.tup [.tup [.tup [.int 2, .int 0, .int 1], .tup [.int 1, .int 0, .int 2], .tup [.int 1, .int 1, .int 2]], .tup [.int 1, .int 0], .tup [.int 0, .int 1, .int 0]]) (.nd .lf 10050530464770 [some (.obj 3), some (.tup [.tup [.tup [.int 2, .int 1, .int 2], .tup [.int 1, .int 0, .int 2], .tup [.int 1, .int 1, .int 2]], .tup [.int 1, .int 0], .tup [.int 1, .int 5, .int 0]]), none] (.tup [.tup [.tup [.int 2, .int 1, .int 2], .tup [.int 1, .int 0, .int 2], .tup [.int 1, .int 1, .int 2]], .tup [.int 1, .int 0], .tup [.int 0, .int 1, .int 0]]) .lf))))
def bt_delay_5 : Bt := (.nd (.nd (.nd (.nd (.nd .lf 4475641955328 [some (.obj 3), some (.tup [.tup [.tup [.int 2, .int 0, .int 1], .tup [.int 1, .int 0, .int 1], .tup [.int 0, .int 0, .int 1]], .non, .tup [.int 2, .int 1, .int 0]]), none] (.tup [.tup [.tup [.int 2, .int 0, .int 1], .tup [.int 1, .int 0, .int 1], .tup [.int 0, .int 0, .int 1]], .non, .tup [.int 0, .int 0, .int 1]]) .lf) 4475662897216 [some (.obj 3), some (.tup [.tup [.tup [.int 2, .int 1, .int 2], .tup [.int 1, .int 0, .int 1], .tup [.int 0, .int 0, .int 1]], .non, .tup [.int 0, .int 4, .int 1]]), none] (.tup [.tup [.tup [.int 2, .int 1, .int 2], .tup [.int 1, .int 0, .int 1], .tup [.int 0, .int 0, .int 1]], .non, .tup [.int 0, .int 0, .int 1]]) .lf) 4475662928896 [some (.obj 3), some (.tup [.tup [.tup [.int 2, .int 1, .int 2], .tup [.int 1, .int 0, .int 1], .tup [.int 0, .int 0, .int 1]], .non, .tup [.int 2, .int 3, .int 0]]), none] (.tup [.tup [.tup [.int 2, .int 1, .int 2], .tup [.int 1, .int 0, .int 1], .tup [.int 0, .int 0, .int 1]], .non, .tup [.int 0, .int 0, .int 1]]) (.nd (.nd .lf 4475662931008 [some (.obj 3), some (.tup [.tup [.tup [.int 2, .int 1, .int 2], .tup [.int 1, .int 0, .int 1], .tup [.int 0, .int 0, .int 1]], .non, .tup [.int 2, .int 5, .int 1]]), none] (.tup [.tup [.tup [.int 2, .int 1, .int 2], .tup [.int 1, .int 0, .int 1], .tup [.int 0, .int 0, .int 1]], .non, .tup [.int 0, .int 0, .int 1]]) .lf) 4486395876352 [some (.obj 3), some (.tup [.tup [.tup [.int 1, .int 0, .int 2], .tup [.int 1, .int 1, .int 2], .tup [.int 0, .int 0, .int 1]], .non, .tup [.int 1, .int 5, .int 0]]), none] (.tup [.tup [.tup [.int 1, .int 0, .int 2], .tup [.int 1, .int 1, .int 2], .tup [.int 0, .int 0, .int 1]], .non, .tup [.int 0, .int 0, .int 1]]) .lf)) 4544495879170 [some (.obj 3), some (.tup [.tup [.tup [.int 3, .int 0, .int 1], .tup [.int 2, .int 0, .int 1], .tup [.int 1, .int 0, .int 1]], .tup [.int 1, .int 0], .tup [.int 0, .int 1, .int 0]]), none] (.tup [.tup [.tup [.int 3, .int 0, .int 1], .tup [.int 2, .int 0, .int 1], .tup [.int 1, .int 0, .int 1]], .tup [.int 1, .int 0], .tup [.int 0, .int 1, .int 0]]) (.nd (.nd (.nd .lf 4544516854850 [some (.obj 3), some (.tup [.tup [.tup [.int 3, .int 1, .int 2], .tup [.int 2, .int 0, .int 1], .tup [.int 1, .int 0, .int 1]], .tup [.int 1, .int 0], .tup [.int 0, .int 5, .int 1]]), none] (.tup [.tup [.tup [.int 3, .int 1, .int 2], .tup [.int 2, .int 0, .int 1], .tup [.int 1, .int 0, .int 1]], .tup [.int 1, .int 0], .tup [.int 0, .int 1, .int 0]]) .lf) 4544516887619 [some (.obj 3), some (.tup [.tup [.tup [.int 3, .int 1, .int 2], .tup [.int 2, .int 0, .int 1], .tup [.int 1, .int 0, .int 1]], .tup [.int 2, .int 0], .tup [.int 2, .int 5, .int 1]]), none] (.tup [.tup [.tup [.int 3, .int 1, .int 2], .tup [.int 2, .int 0, .int 1], .tup [.int 1, .int 0, .int 1]], .tup [.int 2, .int 0], .tup [.int 0, .int 1, .int 0]]) .lf) 4555249308747 [some (.obj 3), some (.tup [.tup [.tup [.int 0, .int 0, .int 2], .tup [.int 2, .int 1, .int 2], .tup [.int 1, .int 0, .int 1]], .tup [.int 2, .int 1], .tup [.int 1, .int 5, .int 1]]), none] (.tup [.tup [.tup [.int 0, .int 0, .int 2], .tup [.int 2, .int 1, .int 2], .tup [.int 1, .int 0, .int 1]], .tup [.int 2, .int 1], .tup [.int 0, .int 1, .int 0]]) (.nd .lf 4555249320011 [some (.obj 3), some (.tup [.tup [.tup [.int 0, .int 0, .int 2], .tup [.int 2, .int 1, .int 2], .tup [.int 1, .int 0, .int 1]], .tup [.int 2, .int 1], .tup [.int 2, .int 0, .int 1]]), none] (.tup [.tup [.tup [.int 0, .int 0, .int 2], .tup [.int 2, .int 1, .int 2], .tup [.int 1, .int 0, .int 1]], .tup [.int 2, .int 1], .tup [.int 0, .int 1, .int 0]]) .lf))) 4555249832963 [some (.obj 3), some (.tup [.tup [.tup [.int 2, .int 0, .int 2], .tup [.int 2, .int 1, .int 2], .tup [.int 1, .int 0, .int 1]], .tup [.int 2, .int 0], .tup [.int 1, .int 5, .int 0]]), none] (.tup [.tup [.tup [.int 2, .int 0, .int 2], .tup [.int 2, .int 1, .int 2], .tup [.int 1, .int 0, .int 1]], .tup [.int 2, .int 0], .tup [.int 0, .int 1, .int 0]]) (.nd (.nd (.nd (.nd .lf 4555249846339 [some (.obj 3), some (.tup [.tup [.tup [.int 2, .int 0, .int 2], .tup [.int 2, .int 1, .int 2], .tup [.int 1, .int 0, .int 1]], .tup [.int 2, .int 0], .tup [.int 2, .int 2, .int 1]]), none] (.tup [.tup [.tup [.int 2, .int 0, .int 2], .tup [.int 2, .int 1, .int 2], .tup [.int 1, .int 0, .int 1]], .tup [.int 2, .int 0], .tup [.int 0, .int 1, .int 0]]) .lf) 9981655534592 [some (.obj 3), some (.tup [.tup [.tup [.int 1, .int 0, .int 1], .tup [.int 0, .int 0, .int 2], .tup [.int 0, .int 1, .int 2]], .non, .tup [.int 1, .int 3, .int 0]]), none] (.tup [.tup [.tup [.int 1, .int 0, .int 1], .tup [.int 0, .int 0, .int 2], .tup [.int 0, .int 1, .int 2]], .non, .tup [.int 0, .int 0, .int 1]]) .lf) 9981655536704 [some (.obj 3), some (.tup [.tup [.tup [.int 1, .int 0, .int 1], .tup [.int 0, .int 0, .int 2], .tup [.int 0, .int 1, .int 2]], .non, .tup [.int 1, .int 5, .int 1]]), none] (.tup [.tup [.tup [.int 1, .int 0, .int 1], .tup [.int 0, .int 0, .int 2], .tup [.int 0, .int 1, .int 2]], .non, .tup [.int 0, .int 0, .int 1]]) (.nd (.nd .lf 9981676508160 [some (.obj 3), some (.tup [.tup [.tup [.int 1, .int 1, .int 2], .tup [.int 0, .int 0, .int 2], .tup [.int 0, .int 1, .int 2]], .non, .tup [.int 1, .int 5, .int 0]]), none] (.tup [.tup [.tup [.int 1, .int 1, .int 2], .tup [.int 0, .int 0, .int 2], .tup [.int 0, .int 1, .int 2]], .non, .tup [.int 0, .int 0, .int 1]]) .lf) 9981676521536 [some (.obj 3), some (.tup [.tup [.tup [.int 1, .int 1, .int 2], .tup [.int 0, .int 0, .int 2], .tup [.int 0, .int 1, .int 2]], .non, .tup [.int 2, .int 2, .int 1]]), none] (.tup [.tup [.tup [.int 1, .int 1, .int 2], .tup [.int 0, .int 0, .int 2], .tup [.int 0, .int 1, .int 2]], .non, .tup [.int 0, .int 0, .int 1]]) .lf)) 10050491909122 [some (.obj 3), some (.tup [.tup [.non, .tup [.int 1, .int 0, .int 2], .tup [.int 1, .int 1, .int 2]], .tup [.int 1, .int 0], .tup [.int 0, .int 1, .int 0]]), none] (.tup [.tup [.non, .tup [.int 1, .int 0, .int 2], .tup [.int 1, .int 1, .int 2]], .tup [.int 1, .int 0], .tup [.int 0, .int 1, .int 0]]) (.nd (.nd (.nd .lf 10050509493315 [some (.obj 3), some (.tup [.tup [.tup [.int 2, .int 0, .int 1], .tup [.int 1, .int 0, .int 2], .tup [.int 1, .int 1, .int 2]], .tup [.int 2, .int 0], .tup [.int 1, .int 5, .int 1]]), none] (.tup [.tup [.tup [.int 2, .int 0, .int 1], .tup [.int 1, .int 0, .int 2], .tup [.int 1, .int 1, .int 2]], .tup [.int 2, .int 0], .tup [.int 0, .int 1, .int 0]]) .lf) 10050525725707 [some (.obj 3), some (.tup [.tup [.tup [.int 0, .int 0, .int 2], .tup [.int 1, .int 0, .int 2], .tup [.int 1, .int 1, .int 2]], .tup [.int 2, .int 1], .tup [.int 0, .int 1, .int 0]]), none] (.tup [.tup [.tup [.int 0, .int 0, .int 2], .tup [.int 1, .int 0, .int 2], .tup [.int 1, .int 1, .int 2]], .tup [.int 2, .int 1], .tup [.int 2, .int 0, .int 1]]) .lf) 10050525761611 [some (.obj 3), some (.tup [.tup [.tup [.int 0, .int 0, .int 2], .tup [.int 1, .int 0, .int 2], .tup [.int 1, .int 1, .int 2]], .tup [.int 2, .int 1], .tup [.int 2, .int 4, .int 1]]), none] (.tup [.tup [.tup [.int 0, .int 0, .int 2], .tup [.int 1, .int 0, .int 2], .tup [.int 1, .int 1, .int 2]], .tup [.int 2, .int 1], .tup [.int 0, .int 1, .int 0]]) (.nd .lf 10050530464771 [some (.obj 3), some (.tup [.tup [.tup [.int 2, .int 1, .int 2], .tup [.int 1, .int 0, .int 2], .tup [.int 1, .int 1, .int 2]], .tup [.int 2, .int 0], .tup [.int 1, .int 5, .int 0]]), none] (.tup [.tup [.tup [.int 2, .int 1, .int 2], .tup [.int 1, .int 0, .int 2], .tup [.int 1, .int 1, .int 2]], .tup [.int 2, .int 0], .tup [.int 0, .int 1, .int 0]]) .lf))))
def bt_delay_6 : Bt := (.nd (.nd (.nd (.nd (.nd .lf 4475641958464 [some (.obj 3), some (.tup [.tup [.tup [.int 2, .int 0, .int 1], .tup [.int 1, .int 0, .int 1], .tup [.int 0, .int 0, .int 1]], .non, .tup [.int 2, .int 4, .int 1]]), none] (.tup [.tup [.tup [.int 2, .int 0, .int 1], .tup [.int 1, .int 0, .int 1], .tup [.int 0, .int 0, .int 1]], .non, .tup [.int 0, .int 0, .int 1]]) .lf) 4475662898240 [some (.obj 3), some (.tup [.tup [.tup [.int 2, .int 1, .int 2], .tup [.int 1, .int 0, .int 1], .tup [.int 0, .int 0, .int 1]], .non, .tup [.int 0, .int 5, .int 1]]), none] (.tup [.tup [.tup [.int 2, .int 1, .int 2], .tup [.int 1, .int 0, .int 1], .tup [.int 0, .int 0, .int 1]], .non, .tup [.int 0, .int 0, .int 1]]) .lf) 4486395856960 [some (.obj 3), some (.tup [.tup [.tup [.int 1, .int 0, .int 2], .tup [.int 1, .int 1, .int 2], .tup [.int 0, .int 0, .int 1]], .non, .tup [.int 0, .int 2, .int 1]]), none] (.tup [.tup [.tup [.int 1, .int 0, .int 2], .tup [.int 1, .int 1, .int 2], .tup [.int 0, .int 0, .int 1]], .non, .tup [.int 2, .int 1, .int 0]]) (.nd (.nd .lf 4486395888640 [some (.obj 3), some (.tup [.tup [.tup [.int 1, .int 0, .int 2], .tup [.int 1, .int 1, .int 2], .tup [.int 0, .int 0, .int 1]], .non, .tup [.int 2, .int 1, .int 0]]), none] (.tup [.tup [.tup [.int 1, .int 0, .int 2], .tup [.int 1, .int 1, .int 2], .tup [.int 0, .int 0, .int 1]], .non, .tup [.int 0, .int 0, .int 1]]) .lf) 4544478071810 [some (.obj 3), some (.tup [.tup [.non, .tup [.int 2, .int 0, .int 1], .tup [.int 1, .int 0, .int 1]], .tup [.int 1, .int 0], .tup [.int 1, .int 3, .int 0]]), none] (.tup [.tup [.non, .tup [.int 2, .int 0, .int 1], .tup [.int 1, .int 0, .int 1]], .tup [.int 1, .int 0], .tup [.int 2, .int 2, .int 1]]) .lf)) 4544495879171 [some (.obj 3), some (.tup [.tup [.tup [.int 3, .int 0, .int 1], .tup [.int 2, .int 0, .int 1], .tup [.int 1, .int 0, .int 1]], .tup [.int 2, .int 0], .tup [.int 0, .int 1, .int 0]]), none] (.tup [.tup [.tup [.int 3, .int 0, .int 1], .tup [.int 2, .int 0, .int 1], .tup [.int 1, .int 0, .int 1]], .tup [.int 2, .int 0], .tup [.int 0, .int 1, .int 0]]) (.nd (.nd (.nd .lf 4544495882306 [some (.obj 3), some (.tup [.tup [.tup [.int 3, .int 0, .int 1], .tup [.int 2, .int 0, .int 1], .tup [.int 1, .int 0, .int 1]], .tup [.int 1, .int 0], .tup [.int 0, .int 4, .int 1]]), none] (.tup [.tup [.tup [.int 3, .int 0, .int 1], .tup [.int 2, .int 0, .int 1], .tup [.int 1, .int 0, .int 1]], .tup [.int 1, .int 0], .tup [.int 1, .int 3, .int 0]]) .lf) 4544495916098 [some (.obj 3), some (.tup [.tup [.tup [.int 3, .int 0, .int 1], .tup [.int 2, .int 0, .int 1], .tup [.int 1, .int 0, .int 1]], .tup [.int 1, .int 0], .tup [.int 2, .int 5, .int 1]]), none] (.tup [.tup [.tup [.int 3, .int 0, .int 1], .tup [.int 2, .int 0, .int 1], .tup [.int 1, .int 0, .int 1]], .tup [.int 1, .int 0], .tup [.int 0, .int 1, .int 0]]) .lf) 4544511888395 [some (.obj 3), some (.tup [.tup [.tup [.int 0, .int 0, .int 2], .tup [.int 2, .int 0, .int 1], .tup [.int 1, .int 0, .int 1]], .tup [.int 2, .int 1], .tup [.int 1, .int 3, .int 0]]), none] (.tup [.tup [.tup [.int 0, .int 0, .int 2], .tup [.int 2, .int 0, .int 1], .tup [.int 1, .int 0, .int 1]], .tup [.int 2, .int 1], .tup [.int 2, .int 2, .int 1]]) (.nd (.nd .lf 4544511890507 [some (.obj 3), some (.tup [.tup [.tup [.int 0, .int 0, .int 2], .tup [.int 2, .int 0, .int 1], .tup [.int 1, .int 0, .int 1]], .tup [.int 2, .int 1], .tup [.int 1, .int 5, .int 1]]), none] (.tup [.tup [.tup [.int 0, .int 0, .int 2], .tup [.int 2, .int 0, .int 1], .tup [.int 1, .int 0, .int 1]], .tup [.int 2, .int 1], .tup [.int 0, .int 1, .int 0]]) .lf) 4544511901771 [some (.obj 3), some (.tup [.tup [.tup [.int 0, .int 0, .int 2], .tup [.int 2, .int 0, .int 1], .tup [.int 1, .int 0, .int 1]], .tup [.int 2, .int 1], .tup [.int 2, .int 0, .int 1]]), none] (.tup [.tup [.tup [.int 0, .int 0, .int 2], .tup [.int 2, .int 0, .int 1], .tup [.int 1, .int 0, .int 1]], .tup [.int 2, .int 1], .tup [.int 0, .int 1, .int 0]]) .lf))) 4544516854851 [some (.obj 3), some (.tup [.tup [.tup [.int 3, .int 1, .int 2], .tup [.int 2, .int 0, .int 1], .tup [.int 1, .int 0, .int 1]], .tup [.int 2, .int 0], .tup [.int 0, .int 5, .int 1]]), none] (.tup [.tup [.tup [.int 3, .int 1, .int 2], .tup [.int 2, .int 0, .int 1], .tup [.int 1, .int 0, .int 1]], .tup [.int 2, .int 0], .tup [.int 0, .int 1, .int 0]]) (.nd (.nd (.nd (.nd .lf 4544516887554 [some (.obj 3), some (.tup [.tup [.tup [.int 3, .int 1, .int 2], .tup [.int 2, .int 0, .int 1], .tup [.int 1, .int 0, .int 1]], .tup [.int 1, .int 0], .tup [.int 2, .int 5, .int 0]]), none] (.tup [.tup [.tup [.int 3, .int 1, .int 2], .tup [.int 2, .int 0, .int 1], .tup [.int 1, .int 0, .int 1]], .tup [.int 1, .int 0], .tup [.int 0, .int 1, .int 0]]) .lf) 4555249812482 [some (.obj 3), some (.tup [.tup [.tup [.int 2, .int 0, .int 2], .tup [.int 2, .int 1, .int 2], .tup [.int 1, .int 0, .int 1]], .tup [.int 1, .int 0], .tup [.int 0, .int 1, .int 0]]), none] (.tup [.tup [.tup [.int 2, .int 0, .int 2], .tup [.int 2, .int 1, .int 2], .tup [.int 1, .int 0, .int 1]], .tup [.int 1, .int 0], .tup [.int 2, .int 2, .int 1]]) .lf) 4555249848386 [some (.obj 3), some (.tup [.tup [.tup [.int 2, .int 0, .int 2], .tup [.int 2, .int 1, .int 2], .tup [.int 1, .int 0, .int 1]], .tup [.int 1, .int 0], .tup [.int 2, .int 4, .int 1]]), none] (.tup [.tup [.tup [.int 2, .int 0, .int 2], .tup [.int 2, .int 1, .int 2], .tup [.int 1, .int 0, .int 1]], .tup [.int 1, .int 0], .tup [.int 0, .int 1, .int 0]]) (.nd (.nd .lf 9981638213696 [some (.obj 3), some (.tup [.tup [.non, .tup [.int 0, .int 0, .int 2], .tup [.int 0, .int 1, .int 2]], .non, .tup [.int 0, .int 0, .int 1]]), none] (.tup [.tup [.non, .tup [.int 0, .int 0, .int 2], .tup [.int 0, .int 1, .int 2]], .non, .tup [.int 0, .int 0, .int 1]]) .lf) 9981655515200 [some (.obj 3), some (.tup [.tup [.tup [.int 1, .int 0, .int 1], .tup [.int 0, .int 0, .int 2], .tup [.int 0, .int 1, .int 2]], .non, .tup [.int 0, .int 0, .int 1]]), none] (.tup [.tup [.tup [.int 1, .int 0, .int 1], .tup [.int 0, .int 0, .int 2], .tup [.int 0, .int 1, .int 2]], .non, .tup [.int 1, .int 1, .int 0]]) .lf)) 10050491909123 [some (.obj 3), some (.tup [.tup [.non, .tup [.int 1, .int 0, .int 2], .tup [.int 1, .int 1, .int 2]], .tup [.int 2, .int 0], .tup [.int 0, .int 1, .int 0]]), none] (.tup [.tup [.non, .tup [.int 1, .int 0, .int 2], .tup [.int 1, .int 1, .int 2]], .tup [.int 2, .int 0], .tup [.int 0, .int 1, .int 0]]) (.nd (.nd (.nd .lf 10050509493250 [some (.obj 3), some (.tup [.tup [.tup [.int 2, .int 0, .int 1], .tup [.int 1, .int 0, .int 2], .tup [.int 1, .int 1, .int 2]], .tup [.int 1, .int 0], .tup [.int 1, .int 5, .int 0]]), none] (.tup [.tup [.tup [.int 2, .int 0, .int 1], .tup [.int 1, .int 0, .int 2], .tup [.int 1, .int 1, .int 2]], .tup [.int 1, .int 0], .tup [.int 0, .int 1, .int 0]]) .lf) 10050525728843 [some (.obj 3), some (.tup [.tup [.tup [.int 0, .int 0, .int 2], .tup [.int 1, .int 0, .int 2], .tup [.int 1, .int 1, .int 2]], .tup [.int 2, .int 1], .tup [.int 0, .int 4, .int 1]]), none] (.tup [.tup [.tup [.int 0, .int 0, .int 2], .tup [.int 1, .int 0, .int 2], .tup [.int 1, .int 1, .int 2]], .tup [.int 2, .int 1], .tup [.int 0, .int 1, .int 0]]) .lf) 10050525760523 [some (.obj 3), some (.tup [.tup [.tup [.int 0, .int 0, .int 2], .tup [.int 1, .int 0, .int 2], .tup [.int 1, .int 1, .int 2]], .tup [.int 2, .int 1], .tup [.int 2, .int 3, .int 0]]), none] (.tup [.tup [.tup [.int 0, .int 0, .int 2], .tup [.int 1, .int 0, .int 2], .tup [.int 1, .int 1, .int 2]], .tup [.int 2, .int 1], .tup [.int 0, .int 1, .int 0]]) (.nd (.nd .lf 10050525762635 [some (.obj 3), some (.tup [.tup [.tup [.int 0, .int 0, .int 2], .tup [.int 1, .int 0, .int 2], .tup [.int 1, .int 1, .int 2]], .tup [.int 2, .int 1], .tup [.int 2, .int 5, .int 1]]), none] (.tup [.tup [.tup [.int 0, .int 0, .int 2], .tup [.int 1, .int 0, .int 2], .tup [.int 1, .int 1, .int 2]], .tup [.int 2, .int 1], .tup [.int 0, .int 1, .int 0]]) .lf) 10050530444290 [some (.obj 3), some (.tup [.tup [.tup [.int 2, .int 1, .int 2], .tup [.int 1, .int 0, .int 2], .tup [.int 1, .int 1, .int 2]], .tup [.int 1, .int 0], .tup [.int 0, .int 1, .int 0]]), none] (.tup [.tup [.tup [.int 2, .int 1, .int 2], .tup [.int 1, .int 0, .int 2], .tup [.int 1, .int 1, .int 2]], .tup [.int 1, .int 0], .tup [.int 0, .int 1, .int 0]]) .lf))))
def bt_delay_7 : Bt := (.nd (.nd (.nd (.nd (.nd .lf 4475624376384 [some (.obj 3), some (.tup [.tup [.non, .tup [.int 1, .int 0, .int 1], .tup [.int 0, .int 0, .int 1]], .non, .tup [.int 1, .int 2, .int 1]]), none] (.tup [.tup [.non, .tup [.int 1, .int 0, .int 1], .tup [.int 0, .int 0, .int 1]], .non, .tup [.int 2, .int 1, .int 0]]) .lf) 4475641959488 [some (.obj 3), some (.tup [.tup [.tup [.int 2, .int 0, .int 1], .tup [.int 1, .int 0, .int 1], .tup [.int 0, .int 0, .int 1]], .non, .tup [.int 2, .int 5, .int 1]]), none] (.tup [.tup [.tup [.int 2, .int 0, .int 1], .tup [.int 1, .int 0, .int 1], .tup [.int 0, .int 0, .int 1]], .non, .tup [.int 0, .int 0, .int 1]]) (.nd .lf 4475662930944 [some (.obj 3), some (.tup [.tup [.tup [.int 2, .int 1, .int 2], .tup [.int 1, .int 0, .int 1], .tup [.int 0, .int 0, .int 1]], .non, .tup [.int 2, .int 5, .int 0]]), none] (.tup [.tup [.tup [.int 2, .int 1, .int 2], .tup [.int 1, .int 0, .int 1], .tup [.int 0, .int 0, .int 1]], .non, .tup [.int 0, .int 0, .int 1]]) .lf)) 4486395891776 [some (.obj 3), some (.tup [.tup [.tup [.int 1, .int 0, .int 2], .tup [.int 1, .int 1, .int 2], .tup [.int 0, .int 0, .int 1]], .non, .tup [.int 2, .int 4, .int 1]]), none] (.tup [.tup [.tup [.int 1, .int 0, .int 2], .tup [.int 1, .int 1, .int 2], .tup [.int 0, .int 0, .int 1]], .non, .tup [.int 0, .int 0, .int 1]]) (.nd (.nd .lf 4544478071811 [some (.obj 3), some (.tup [.tup [.non, .tup [.int 2, .int 0, .int 1], .tup [.int 1, .int 0, .int 1]], .tup [.int 2, .int 0], .tup [.int 1, .int 3, .int 0]]), none] (.tup [.tup [.non, .tup [.int 2, .int 0, .int 1], .tup [.int 1, .int 0, .int 1]], .tup [.int 2, .int 0], .tup [.int 2, .int 2, .int 1]]) .lf) 4544495882307 [some (.obj 3), some (.tup [.tup [.tup [.int 3, .int 0, .int 1], .tup [.int 2, .int 0, .int 1], .tup [.int 1, .int 0, .int 1]], .tup [.int 2, .int 0], .tup [.int 0, .int 4, .int 1]]), none] (.tup [.tup [.tup [.int 3, .int 0, .int 1], .tup [.int 2, .int 0, .int 1], .tup [.int 1, .int 0, .int 1]], .tup [.int 2, .int 0], .tup [.int 1, .int 3, .int 0]]) .lf)) 4544495883330 [some (.obj 3), some (.tup [.tup [.tup [.int 3, .int 0, .int 1], .tup [.int 2, .int 0, .int 1], .tup [.int 1, .int 0, .int 1]], .tup [.int 1, .int 0], .tup [.int 0, .int 5, .int 1]]), none] (.tup [.tup [.tup [.int 3, .int 0, .int 1], .tup [.int 2, .int 0, .int 1], .tup [.int 1, .int 0, .int 1]], .tup [.int 1, .int 0], .tup [.int 1, .int 3, .int 0]]) (.nd (.nd (.nd .lf 4544495916099 [some (.obj 3), some (.tup [.tup [.tup [.int 3, .int 0, .int 1], .tup [.int 2, .int 0, .int 1], .tup [.int 1, .int 0, .int 1]], .tup [.int 2, .int 0], .tup [.int 2, .int 5, .int 1]]), none] (.tup [.tup [.tup [.int 3, .int 0, .int 1], .tup [.int 2, .int 0, .int 1], .tup [.int 1, .int 0, .int 1]], .tup [.int 2, .int 0], .tup [.int 0, .int 1, .int 0]]) .lf) 4544516854786 [some (.obj 3), some (.tup [.tup [.tup [.int 3, .int 1, .int 2], .tup [.int 2, .int 0, .int 1], .tup [.int 1, .int 0, .int 1]], .tup [.int 1, .int 0], .tup [.int 0, .int 5, .int 0]]), none] (.tup [.tup [.tup [.int 3, .int 1, .int 2], .tup [.int 2, .int 0, .int 1], .tup [.int 1, .int 0, .int 1]], .tup [.int 1, .int 0], .tup [.int 0, .int 1, .int 0]]) .lf) 4544516887555 [some (.obj 3), some (.tup [.tup [.tup [.int 3, .int 1, .int 2], .tup [.int 2, .int 0, .int 1], .tup [.int 1, .int 0, .int 1]], .tup [.int 2, .int 0], .tup [.int 2, .int 5, .int 0]]), none] (.tup [.tup [.tup [.int 3, .int 1, .int 2], .tup [.int 2, .int 0, .int 1], .tup [.int 1, .int 0, .int 1]], .tup [.int 2, .int 0], .tup [.int 0, .int 1, .int 0]]) (.nd (.nd .lf 4555249308683 [some (.obj 3), some (.tup [.tup [.tup [.int 0, .int 0, .int 2], .tup [.int 2, .int 1, .int 2], .tup [.int 1, .int 0, .int 1]], .tup [.int 2, .int 1], .tup [.int 1, .int 5, .int 0]]), none] (.tup [.tup [.tup [.int 0, .int 0, .int 2], .tup [.int 2, .int 1, .int 2], .tup [.int 1, .int 0, .int 1]], .tup [.int 2, .int 1], .tup [.int 0, .int 1, .int 0]]) .lf) 4555249322059 [some (.obj 3), some (.tup [.tup [.tup [.int 0, .int 0, .int 2], .tup [.int 2, .int 1, .int 2], .tup [.int 1, .int 0, .int 1]], .tup [.int 2, .int 1], .tup [.int 2, .int 2, .int 1]]), none] (.tup [.tup [.tup [.int 0, .int 0, .int 2], .tup [.int 2, .int 1, .int 2], .tup [.int 1, .int 0, .int 1]], .tup [.int 2, .int 1], .tup [.int 0, .int 1, .int 0]]) .lf))) 4555249812483 [some (.obj 3), some (.tup [.tup [.tup [.int 2, .int 0, .int 2], .tup [.int 2, .int 1, .int 2], .tup [.int 1, .int 0, .int 1]], .tup [.int 2, .int 0], .tup [.int 0, .int 1, .int 0]]), none] (.tup [.tup [.tup [.int 2, .int 0, .int 2], .tup [.int 2, .int 1, .int 2], .tup [.int 1, .int 0, .int 1]], .tup [.int 2, .int 0], .tup [.int 2, .int 2, .int 1]]) (.nd (.nd (.nd (.nd .lf 4555249848387 [some (.obj 3), some (.tup [.tup [.tup [.int 2, .int 0, .int 2], .tup [.int 2, .int 1, .int 2], .tup [.int 1, .int 0, .int 1]], .tup [.int 2, .int 0], .tup [.int 2, .int 4, .int 1]]), none] (.tup [.tup [.tup [.int 2, .int 0, .int 2], .tup [.int 2, .int 1, .int 2], .tup [.int 1, .int 0, .int 1]], .tup [.int 2, .int 0], .tup [.int 0, .int 1, .int 0]]) .lf) 4555249849410 [some (.obj 3), some (.tup [.tup [.tup [.int 2, .int 0, .int 2], .tup [.int 2, .int 1, .int 2], .tup [.int 1, .int 0, .int 1]], .tup [.int 1, .int 0], .tup [.int 2, .int 5, .int 1]]), none] (.tup [.tup [.tup [.int 2, .int 0, .int 2], .tup [.int 2, .int 1, .int 2], .tup [.int 1, .int 0, .int 1]], .tup [.int 1, .int 0], .tup [.int 0, .int 1, .int 0]]) .lf) 9981655536640 [some (.obj 3), some (.tup [.tup [.tup [.int 1, .int 0, .int 1], .tup [.int 0, .int 0, .int 2], .tup [.int 0, .int 1, .int 2]], .non, .tup [.int 1, .int 5, .int 0]]), none] (.tup [.tup [.tup [.int 1, .int 0, .int 1], .tup [.int 0, .int 0, .int 2], .tup [.int 0, .int 1, .int 2]], .non, .tup [.int 0, .int 0, .int 1]]) (.nd (.nd .lf 9981676523584 [some (.obj 3), some (.tup [.tup [.tup [.int 1, .int 1, .int 2], .tup [.int 0, .int 0, .int 2], .tup [.int 0, .int 1, .int 2]], .non, .tup [.int 2, .int 4, .int 1]]), none] (.tup [.tup [.tup [.int 1, .int 1, .int 2], .tup [.int 0, .int 0, .int 2], .tup [.int 0, .int 1, .int 2]], .non, .tup [.int 0, .int 0, .int 1]]) .lf) 10050509493251 [some (.obj 3), some (.tup [.tup [.tup [.int 2, .int 0, .int 1], .tup [.int 1, .int 0, .int 2], .tup [.int 1, .int 1, .int 2]], .tup [.int 2, .int 0], .tup [.int 1, .int 5, .int 0]]), none] (.tup [.tup [.tup [.int 2, .int 0, .int 1], .tup [.int 1, .int 0, .int 2], .tup [.int 1, .int 1, .int 2]], .tup [.int 2, .int 0], .tup [.int 0, .int 1, .int 0]]) .lf)) 10050525727755 [some (.obj 3), some (.tup [.tup [.tup [.int 0, .int 0, .int 2], .tup [.int 1, .int 0, .int 2], .tup [.int 1, .int 1, .int 2]], .tup [.int 2, .int 1], .tup [.int 0, .int 3, .int 0]]), none] (.tup [.tup [.tup [.int 0, .int 0, .int 2], .tup [.int 1, .int 0, .int 2], .tup [.int 1, .int 1, .int 2]], .tup [.int 2, .int 1], .tup [.int 2, .int 0, .int 1]]) (.nd (.nd (.nd .lf 10050525729867 [some (.obj 3), some (.tup [.tup [.tup [.int 0, .int 0, .int 2], .tup [.int 1, .int 0, .int 2], .tup [.int 1, .int 1, .int 2]], .tup [.int 2, .int 1], .tup [.int 0, .int 5, .int 1]]), none] (.tup [.tup [.tup [.int 0, .int 0, .int 2], .tup [.int 1, .int 0, .int 2], .tup [.int 1, .int 1, .int 2]], .tup [.int 2, .int 1], .tup [.int 0, .int 1, .int 0]]) .lf) 10050530444291 [some (.obj 3), some (.tup [.tup [.tup [.int 2, .int 1, .int 2], .tup [.int 1, .int 0, .int 2], .tup [.int 1, .int 1, .int 2]], .tup [.int 2, .int 0], .tup [.int 0, .int 1, .int 0]]), none] (.tup [.tup [.tup [.int 2, .int 1, .int 2], .tup [.int 1, .int 0, .int 2], .tup [.int 1, .int 1, .int 2]], .tup [.int 2, .int 0], .tup [.int 0, .int 1, .int 0]]) .lf) 10050530447426 [some (.obj 3), some (.tup [.tup [.tup [.int 2, .int 1, .int 2], .tup [.int 1, .int 0, .int 2], .tup [.int 1, .int 1, .int 2]], .tup [.int 1, .int 0], .tup [.int 0, .int 4, .int 1]]), none] (.tup [.tup [.tup [.int 2, .int 1, .int 2], .tup [.int 1, .int 0, .int 2], .tup [.int 1, .int 1, .int 2]], .tup [.int 1, .int 0], .tup [.int 0, .int 1, .int 0]]) (.nd (.nd .lf 10050530479106 [some (.obj 3), some (.tup [.tup [.tup [.int 2, .int 1, .int 2], .tup [.int 1, .int 0, .int 2], .tup [.int 1, .int 1, .int 2]], .tup [.int 1, .int 0], .tup [.int 2, .int 3, .int 0]]), none] (.tup [.tup [.tup [.int 2, .int 1, .int 2], .tup [.int 1, .int 0, .int 2], .tup [.int 1, .int 1, .int 2]], .tup [.int 1, .int 0], .tup [.int 0, .int 1, .int 0]]) .lf) 10050530481218 [some (.obj 3), some (.tup [.tup [.tup [.int 2, .int 1, .int 2], .tup [.int 1, .int 0, .int 2], .tup [.int 1, .int 1, .int 2]], .tup [.int 1, .int 0], .tup [.int 2, .int 5, .int 1]]), none] (.tup [.tup [.tup [.int 2, .int 1, .int 2], .tup [.int 1, .int 0, .int 2], .tup [.int 1, .int 1, .int 2]], .tup [.int 1, .int 0], .tup [.int 0, .int 1, .int 0]]) .lf))))
def bt_delay_8 : Bt := (.nd (.nd (.nd (.nd (.nd .lf 4475641924608 [some (.obj 3), some (.tup [.tup [.tup [.int 2, .int 0, .int 1], .tup [.int 1, .int 0, .int 1], .tup [.int 0, .int 0, .int 1]], .non, .tup [.int 0, .int 3, .int 0]]), none] (.tup [.tup [.tup [.int 2, .int 0, .int 1], .tup [.int 1, .int 0, .int 1], .tup [.int 0, .int 0, .int 1]], .non, .tup [.int 1, .int 2, .int 1]]) .lf) 4475641926720 [some (.obj 3), some (.tup [.tup [.tup [.int 2, .int 0, .int 1], .tup [.int 1, .int 0, .int 1], .tup [.int 0, .int 0, .int 1]], .non, .tup [.int 0, .int 5, .int 1]]), none] (.tup [.tup [.tup [.int 2, .int 0, .int 1], .tup [.int 1, .int 0, .int 1], .tup [.int 0, .int 0, .int 1]], .non, .tup [.int 0, .int 0, .int 1]]) (.nd .lf 4475662898176 [some (.obj 3), some (.tup [.tup [.tup [.int 2, .int 1, .int 2], .tup [.int 1, .int 0, .int 1], .tup [.int 0, .int 0, .int 1]], .non, .tup [.int 0, .int 5, .int 0]]), none] (.tup [.tup [.tup [.int 2, .int 1, .int 2], .tup [.int 1, .int 0, .int 1], .tup [.int 0, .int 0, .int 1]], .non, .tup [.int 0, .int 0, .int 1]]) .lf)) 4475662911552 [some (.obj 3), some (.tup [.tup [.tup [.int 2, .int 1, .int 2], .tup [.int 1, .int 0, .int 1], .tup [.int 0, .int 0, .int 1]], .non, .tup [.int 1, .int 2, .int 1]]), none] (.tup [.tup [.tup [.int 2, .int 1, .int 2], .tup [.int 1, .int 0, .int 1], .tup [.int 0, .int 0, .int 1]], .non, .tup [.int 2, .int 1, .int 0]]) (.nd (.nd .lf 4486395859008 [some (.obj 3), some (.tup [.tup [.tup [.int 1, .int 0, .int 2], .tup [.int 1, .int 1, .int 2], .tup [.int 0, .int 0, .int 1]], .non, .tup [.int 0, .int 4, .int 1]]), none] (.tup [.tup [.tup [.int 1, .int 0, .int 2], .tup [.int 1, .int 1, .int 2], .tup [.int 0, .int 0, .int 1]], .non, .tup [.int 2, .int 1, .int 0]]) .lf) 4486395890688 [some (.obj 3), some (.tup [.tup [.tup [.int 1, .int 0, .int 2], .tup [.int 1, .int 1, .int 2], .tup [.int 0, .int 0, .int 1]], .non, .tup [.int 2, .int 3, .int 0]]), none] (.tup [.tup [.tup [.int 1, .int 0, .int 2], .tup [.int 1, .int 1, .int 2], .tup [.int 0, .int 0, .int 1]], .non, .tup [.int 0, .int 0, .int 1]]) .lf)) 4486395892800 [some (.obj 3), some (.tup [.tup [.tup [.int 1, .int 0, .int 2], .tup [.int 1, .int 1, .int 2], .tup [.int 0, .int 0, .int 1]], .non, .tup [.int 2, .int 5, .int 1]]), none] (.tup [.tup [.tup [.int 1, .int 0, .int 2], .tup [.int 1, .int 1, .int 2], .tup [.int 0, .int 0, .int 1]], .non, .tup [.int 0, .int 0, .int 1]]) (.nd (.nd (.nd .lf 4544478087234 [some (.obj 3), some (.tup [.tup [.non, .tup [.int 2, .int 0, .int 1], .tup [.int 1, .int 0, .int 1]], .tup [.int 1, .int 0], .tup [.int 2, .int 2, .int 1]]), none] (.tup [.tup [.non, .tup [.int 2, .int 0, .int 1], .tup [.int 1, .int 0, .int 1]], .tup [.int 1, .int 0], .tup [.int 0, .int 1, .int 0]]) .lf) 4544495883331 [some (.obj 3), some (.tup [.tup [.tup [.int 3, .int 0, .int 1], .tup [.int 2, .int 0, .int 1], .tup [.int 1, .int 0, .int 1]], .tup [.int 2, .int 0], .tup [.int 0, .int 5, .int 1]]), none] (.tup [.tup [.tup [.int 3, .int 0, .int 1], .tup [.int 2, .int 0, .int 1], .tup [.int 1, .int 0, .int 1]], .tup [.int 2, .int 0], .tup [.int 1, .int 3, .int 0]]) (.nd .lf 4544495916034 [some (.obj 3), some (.tup [.tup [.tup [.int 3, .int 0, .int 1], .tup [.int 2, .int 0, .int 1], .tup [.int 1, .int 0, .int 1]], .tup [.int 1, .int 0], .tup [.int 2, .int 5, .int 0]]), none] (.tup [.tup [.tup [.int 3, .int 0, .int 1], .tup [.int 2, .int 0, .int 1], .tup [.int 1, .int 0, .int 1]], .tup [.int 1, .int 0], .tup [.int 0, .int 1, .int 0]]) .lf)) 4544511890443 [some (.obj 3), some (.tup [.tup [.tup [.int 0, .int 0, .int 2], .tup [.int 2, .int 0, .int 1], .tup [.int 1, .int 0, .int 1]], .tup [.int 2, .int 1], .tup [.int 1, .int 5, .int 0]]), none] (.tup [.tup [.tup [.int 0, .int 0, .int 2], .tup [.int 2, .int 0, .int 1], .tup [.int 1, .int 0, .int 1]], .tup [.int 2, .int 1], .tup [.int 2, .int 2, .int 1]]) (.nd (.nd .lf 4544511903819 [some (.obj 3), some (.tup [.tup [.tup [.int 0, .int 0, .int 2], .tup [.int 2, .int 0, .int 1], .tup [.int 1, .int 0, .int 1]], .tup [.int 2, .int 1], .tup [.int 2, .int 2, .int 1]]), none] (.tup [.tup [.tup [.int 0, .int 0, .int 2], .tup [.int 2, .int 0, .int 1], .tup [.int 1, .int 0, .int 1]], .tup [.int 2, .int 1], .tup [.int 0, .int 1, .int 0]]) .lf) 4544516854787 [some (.obj 3), some (.tup [.tup [.tup [.int 3, .int 1, .int 2], .tup [.int 2, .int 0, .int 1], .tup [.int 1, .int 0, .int 1]], .tup [.int 2, .int 0], .tup [.int 0, .int 5, .int 0]]), none] (.tup [.tup [.tup [.int 3, .int 1, .int 2], .tup [.int 2, .int 0, .int 1], .tup [.int 1, .int 0, .int 1]], .tup [.int 2, .int 0], .tup [.int 0, .int 1, .int 0]]) .lf))) 4555249814530 [some (.obj 3), some (.tup [.tup [.tup [.int 2, .int 0, .int 2], .tup [.int 2, .int 1, .int 2], .tup [.int 1, .int 0, .int 1]], .tup [.int 1, .int 0], .tup [.int 0, .int 3, .int 0]]), none] (.tup [.tup [.tup [.int 2, .int 0, .int 2], .tup [.int 2, .int 1, .int 2], .tup [.int 1, .int 0, .int 1]], .tup [.int 1, .int 0], .tup [.int 2, .int 2, .int 1]]) (.nd (.nd (.nd (.nd .lf 4555249816642 [some (.obj 3), some (.tup [.tup [.tup [.int 2, .int 0, .int 2], .tup [.int 2, .int 1, .int 2], .tup [.int 1, .int 0, .int 1]], .tup [.int 1, .int 0], .tup [.int 0, .int 5, .int 1]]), none] (.tup [.tup [.tup [.int 2, .int 0, .int 2], .tup [.int 2, .int 1, .int 2], .tup [.int 1, .int 0, .int 1]], .tup [.int 1, .int 0], .tup [.int 0, .int 1, .int 0]]) .lf) 4555249849411 [some (.obj 3), some (.tup [.tup [.tup [.int 2, .int 0, .int 2], .tup [.int 2, .int 1, .int 2], .tup [.int 1, .int 0, .int 1]], .tup [.int 2, .int 0], .tup [.int 2, .int 5, .int 1]]), none] (.tup [.tup [.tup [.int 2, .int 0, .int 2], .tup [.int 2, .int 1, .int 2], .tup [.int 1, .int 0, .int 1]], .tup [.int 2, .int 0], .tup [.int 0, .int 1, .int 0]]) (.nd .lf 9981655517248 [some (.obj 3), some (.tup [.tup [.tup [.int 1, .int 0, .int 1], .tup [.int 0, .int 0, .int 2], .tup [.int 0, .int 1, .int 2]], .non, .tup [.int 0, .int 2, .int 1]]), none] (.tup [.tup [.tup [.int 1, .int 0, .int 1], .tup [.int 0, .int 0, .int 2], .tup [.int 0, .int 1, .int 2]], .non, .tup [.int 1, .int 1, .int 0]]) .lf)) 9981676490816 [some (.obj 3), some (.tup [.tup [.tup [.int 1, .int 1, .int 2], .tup [.int 0, .int 0, .int 2], .tup [.int 0, .int 1, .int 2]], .non, .tup [.int 0, .int 4, .int 1]]), none] (.tup [.tup [.tup [.int 1, .int 1, .int 2], .tup [.int 0, .int 0, .int 2], .tup [.int 0, .int 1, .int 2]], .non, .tup [.int 0, .int 0, .int 1]]) (.nd (.nd .lf 9981676524608 [some (.obj 3), some (.tup [.tup [.tup [.int 1, .int 1, .int 2], .tup [.int 0, .int 0, .int 2], .tup [.int 0, .int 1, .int 2]], .non, .tup [.int 2, .int 5, .int 1]]), none] (.tup [.tup [.tup [.int 1, .int 1, .int 2], .tup [.int 0, .int 0, .int 2], .tup [.int 0, .int 1, .int 2]], .non, .tup [.int 0, .int 0, .int 1]]) .lf) 10050509472770 [some (.obj 3), some (.tup [.tup [.tup [.int 2, .int 0, .int 1], .tup [.int 1, .int 0, .int 2], .tup [.int 1, .int 1, .int 2]], .tup [.int 1, .int 0], .tup [.int 0, .int 1, .int 0]]), none] (.tup [.tup [.tup [.int 2, .int 0, .int 1], .tup [.int 1, .int 0, .int 2], .tup [.int 1, .int 1, .int 2]], .tup [.int 1, .int 0], .tup [.int 1, .int 2, .int 1]]) .lf)) 10050509508674 [some (.obj 3), some (.tup [.tup [.tup [.int 2, .int 0, .int 1], .tup [.int 1, .int 0, .int 2], .tup [.int 1, .int 1, .int 2]], .tup [.int 1, .int 0], .tup [.int 2, .int 4, .int 1]]), none] (.tup [.tup [.tup [.int 2, .int 0, .int 1], .tup [.int 1, .int 0, .int 2], .tup [.int 1, .int 1, .int 2]], .tup [.int 1, .int 0], .tup [.int 0, .int 1, .int 0]]) (.nd (.nd (.nd .lf 10050525762571 [some (.obj 3), some (.tup [.tup [.tup [.int 0, .int 0, .int 2], .tup [.int 1, .int 0, .int 2], .tup [.int 1, .int 1, .int 2]], .tup [.int 2, .int 1], .tup [.int 2, .int 5, .int 0]]), none] (.tup [.tup [.tup [.int 0, .int 0, .int 2], .tup [.int 1, .int 0, .int 2], .tup [.int 1, .int 1, .int 2]], .tup [.int 2, .int 1], .tup [.int 0, .int 1, .int 0]]) .lf) 10050530447427 [some (.obj 3), some (.tup [.tup [.tup [.int 2, .int 1, .int 2], .tup [.int 1, .int 0, .int 2], .tup [.int 1, .int 1, .int 2]], .tup [.int 2, .int 0], .tup [.int 0, .int 4, .int 1]]), none] (.tup [.tup [.tup [.int 2, .int 1, .int 2], .tup [.int 1, .int 0, .int 2], .tup [.int 1, .int 1, .int 2]], .tup [.int 2, .int 0], .tup [.int 0, .int 1, .int 0]]) .lf) 10050530448450 [some (.obj 3), some (.tup [.tup [.tup [.int 2, .int 1, .int 2], .tup [.int 1, .int 0, .int 2], .tup [.int 1, .int 1, .int 2]], .tup [.int 1, .int 0], .tup [.int 0, .int 5, .int 1]]), none] (.tup [.tup [.tup [.int 2, .int 1, .int 2], .tup [.int 1, .int 0, .int 2], .tup [.int 1, .int 1, .int 2]], .tup [.int 1, .int 0], .tup [.int 0, .int 1, .int 0]]) (.nd (.nd .lf 10050530479107 [some (.obj 3), some (.tup [.tup [.tup [.int 2, .int 1, .int 2], .tup [.int 1, .int 0, .int 2], .tup [.int 1, .int 1, .int 2]], .tup [.int 2, .int 0], .tup [.int 2, .int 3, .int 0]]), none] (.tup [.tup [.tup [.int 2, .int 1, .int 2], .tup [.int 1, .int 0, .int 2], .tup [.int 1, .int 1, .int 2]], .tup [.int 2, .int 0], .tup [.int 0, .int 1, .int 0]]) .lf) 10050530481219 [some (.obj 3), some (.tup [.tup [.tup [.int 2, .int 1, .int 2], .tup [.int 1, .int 0, .int 2], .tup [.int 1, .int 1, .int 2]], .tup [.int 2, .int 0], .tup [.int 2, .int 5, .int 1]]), none] (.tup [.tup [.tup [.int 2, .int 1, .int 2], .tup [.int 1, .int 0, .int 2], .tup [.int 1, .int 1, .int 2]], .tup [.int 2, .int 0], .tup [.int 0, .int 1, .int 0]]) .lf))))
def bt_delay_9 : Bt := (.nd (.nd (.nd (.nd (.nd .lf 64 [some (.obj 3), some (.tup [.tup [.non, .non, .non], .non, .tup [.int 0, .int 0, .int 1]]), none] (.tup [.tup [.non, .non, .non], .non, .tup [.int 0, .int 0, .int 1]]) .lf) 4475641959424 [some (.obj 3), some (.tup [.tup [.tup [.int 2, .int 0, .int 1], .tup [.int 1, .int 0, .int 1], .tup [.int 0, .int 0, .int 1]], .non, .tup [.int 2, .int 5, .int 0]]), none] (.tup [.tup [.tup [.int 2, .int 0, .int 1], .tup [.int 1, .int 0, .int 1], .tup [.int 0, .int 0, .int 1]], .non, .tup [.int 0, .int 0, .int 1]]) .lf) 4486395860032 [some (.obj 3), some (.tup [.tup [.tup [.int 1, .int 0, .int 2], .tup [.int 1, .int 1, .int 2], .tup [.int 0, .int 0, .int 1]], .non, .tup [.int 0, .int 5, .int 1]]), none] (.tup [.tup [.tup [.int 1, .int 0, .int 2], .tup [.int 1, .int 1, .int 2], .tup [.int 0, .int 0, .int 1]], .non, .tup [.int 2, .int 1, .int 0]]) (.nd (.nd .lf 4544478087235 [some (.obj 3), some (.tup [.tup [.non, .tup [.int 2, .int 0, .int 1], .tup [.int 1, .int 0, .int 1]], .tup [.int 2, .int 0], .tup [.int 2, .int 2, .int 1]]), none] (.tup [.tup [.non, .tup [.int 2, .int 0, .int 1], .tup [.int 1, .int 0, .int 1]], .tup [.int 2, .int 0], .tup [.int 0, .int 1, .int 0]]) .lf) 4544495883266 [some (.obj 3), some (.tup [.tup [.tup [.int 3, .int 0, .int 1], .tup [.int 2, .int 0, .int 1], .tup [.int 1, .int 0, .int 1]], .tup [.int 1, .int 0], .tup [.int 0, .int 5, .int 0]]), none] (.tup [.tup [.tup [.int 3, .int 0, .int 1], .tup [.int 2, .int 0, .int 1], .tup [.int 1, .int 0, .int 1]], .tup [.int 1, .int 0], .tup [.int 0, .int 1, .int 0]]) .lf)) 4544495916035 [some (.obj 3), some (.tup [.tup [.tup [.int 3, .int 0, .int 1], .tup [.int 2, .int 0, .int 1], .tup [.int 1, .int 0, .int 1]], .tup [.int 2, .int 0], .tup [.int 2, .int 5, .int 0]]), none] (.tup [.tup [.tup [.int 3, .int 0, .int 1], .tup [.int 2, .int 0, .int 1], .tup [.int 1, .int 0, .int 1]], .tup [.int 2, .int 0], .tup [.int 0, .int 1, .int 0]]) (.nd (.nd (.nd .lf 4555249288203 [some (.obj 3), some (.tup [.tup [.tup [.int 0, .int 0, .int 2], .tup [.int 2, .int 1, .int 2], .tup [.int 1, .int 0, .int 1]], .tup [.int 2, .int 1], .tup [.int 0, .int 1, .int 0]]), none] (.tup [.tup [.tup [.int 0, .int 0, .int 2], .tup [.int 2, .int 1, .int 2], .tup [.int 1, .int 0, .int 1]], .tup [.int 2, .int 1], .tup [.int 2, .int 0, .int 1]]) .lf) 4555249324107 [some (.obj 3), some (.tup [.tup [.tup [.int 0, .int 0, .int 2], .tup [.int 2, .int 1, .int 2], .tup [.int 1, .int 0, .int 1]], .tup [.int 2, .int 1], .tup [.int 2, .int 4, .int 1]]), none] (.tup [.tup [.tup [.int 0, .int 0, .int 2], .tup [.int 2, .int 1, .int 2], .tup [.int 1, .int 0, .int 1]], .tup [.int 2, .int 1], .tup [.int 0, .int 1, .int 0]]) .lf) 4555249814531 [some (.obj 3), some (.tup [.tup [.tup [.int 2, .int 0, .int 2], .tup [.int 2, .int 1, .int 2], .tup [.int 1, .int 0, .int 1]], .tup [.int 2, .int 0], .tup [.int 0, .int 3, .int 0]]), none] (.tup [.tup [.tup [.int 2, .int 0, .int 2], .tup [.int 2, .int 1, .int 2], .tup [.int 1, .int 0, .int 1]], .tup [.int 2, .int 0], .tup [.int 2, .int 2, .int 1]]) (.nd (.nd .lf 4555249816643 [some (.obj 3), some (.tup [.tup [.tup [.int 2, .int 0, .int 2], .tup [.int 2, .int 1, .int 2], .tup [.int 1, .int 0, .int 1]], .tup [.int 2, .int 0], .tup [.int 0, .int 5, .int 1]]), none] (.tup [.tup [.tup [.int 2, .int 0, .int 2], .tup [.int 2, .int 1, .int 2], .tup [.int 1, .int 0, .int 1]], .tup [.int 2, .int 0], .tup [.int 0, .int 1, .int 0]]) .lf) 4555249849346 [some (.obj 3), some (.tup [.tup [.tup [.int 2, .int 0, .int 2], .tup [.int 2, .int 1, .int 2], .tup [.int 1, .int 0, .int 1]], .tup [.int 1, .int 0], .tup [.int 2, .int 5, .int 0]]), none] (.tup [.tup [.tup [.int 2, .int 0, .int 2], .tup [.int 2, .int 1, .int 2], .tup [.int 1, .int 0, .int 1]], .tup [.int 1, .int 0], .tup [.int 0, .int 1, .int 0]]) .lf))) 9981655552064 [some (.obj 3), some (.tup [.tup [.tup [.int 1, .int 0, .int 1], .tup [.int 0, .int 0, .int 2], .tup [.int 0, .int 1, .int 2]], .non, .tup [.int 2, .int 4, .int 1]]), none] (.tup [.tup [.tup [.int 1, .int 0, .int 1], .tup [.int 0, .int 0, .int 2], .tup [.int 0, .int 1, .int 2]], .non, .tup [.int 0, .int 0, .int 1]]) (.nd (.nd (.nd (.nd .lf 9981676489728 [some (.obj 3), some (.tup [.tup [.tup [.int 1, .int 1, .int 2], .tup [.int 0, .int 0, .int 2], .tup [.int 0, .int 1, .int 2]], .non, .tup [.int 0, .int 3, .int 0]]), none] (.tup [.tup [.tup [.int 1, .int 1, .int 2], .tup [.int 0, .int 0, .int 2], .tup [.int 0, .int 1, .int 2]], .non, .tup [.int 0, .int 0, .int 1]]) .lf) 9981676491840 [some (.obj 3), some (.tup [.tup [.tup [.int 1, .int 1, .int 2], .tup [.int 0, .int 0, .int 2], .tup [.int 0, .int 1, .int 2]], .non, .tup [.int 0, .int 5, .int 1]]), none] (.tup [.tup [.tup [.int 1, .int 1, .int 2], .tup [.int 0, .int 0, .int 2], .tup [.int 0, .int 1, .int 2]], .non, .tup [.int 0, .int 0, .int 1]]) .lf) 10050491926594 [some (.obj 3), some (.tup [.tup [.non, .tup [.int 1, .int 0, .int 2], .tup [.int 1, .int 1, .int 2]], .tup [.int 1, .int 0], .tup [.int 1, .int 2, .int 1]]), none] (.tup [.tup [.non, .tup [.int 1, .int 0, .int 2], .tup [.int 1, .int 1, .int 2]], .tup [.int 1, .int 0], .tup [.int 0, .int 1, .int 0]]) (.nd (.nd .lf 10050509472771 [some (.obj 3), some (.tup [.tup [.tup [.int 2, .int 0, .int 1], .tup [.int 1, .int 0, .int 2], .tup [.int 1, .int 1, .int 2]], .tup [.int 2, .int 0], .tup [.int 0, .int 1, .int 0]]), none] (.tup [.tup [.tup [.int 2, .int 0, .int 1], .tup [.int 1, .int 0, .int 2], .tup [.int 1, .int 1, .int 2]], .tup [.int 2, .int 0], .tup [.int 1, .int 2, .int 1]]) .lf) 10050509508675 [some (.obj 3), some (.tup [.tup [.tup [.int 2, .int 0, .int 1], .tup [.int 1, .int 0, .int 2], .tup [.int 1, .int 1, .int 2]], .tup [.int 2, .int 0], .tup [.int 2, .int 4, .int 1]]), none] (.tup [.tup [.tup [.int 2, .int 0, .int 1], .tup [.int 1, .int 0, .int 2], .tup [.int 1, .int 1, .int 2]], .tup [.int 2, .int 0], .tup [.int 0, .int 1, .int 0]]) .lf)) 10050509509698 [some (.obj 3), some (.tup [.tup [.tup [.int 2, .int 0, .int 1], .tup [.int 1, .int 0, .int 2], .tup [.int 1, .int 1, .int 2]], .tup [.int 1, .int 0], .tup [.int 2, .int 5, .int 1]]), none] (.tup [.tup [.tup [.int 2, .int 0, .int 1], .tup [.int 1, .int 0, .int 2], .tup [.int 1, .int 1, .int 2]], .tup [.int 1, .int 0], .tup [.int 0, .int 1, .int 0]]) (.nd (.nd (.nd .lf 10050525729803 [some (.obj 3), some (.tup [.tup [.tup [.int 0, .int 0, .int 2], .tup [.int 1, .int 0, .int 2], .tup [.int 1, .int 1, .int 2]], .tup [.int 2, .int 1], .tup [.int 0, .int 5, .int 0]]), none] (.tup [.tup [.tup [.int 0, .int 0, .int 2], .tup [.int 1, .int 0, .int 2], .tup [.int 1, .int 1, .int 2]], .tup [.int 2, .int 1], .tup [.int 2, .int 0, .int 1]]) .lf) 10050525743179 [some (.obj 3), some (.tup [.tup [.tup [.int 0, .int 0, .int 2], .tup [.int 1, .int 0, .int 2], .tup [.int 1, .int 1, .int 2]], .tup [.int 2, .int 1], .tup [.int 1, .int 2, .int 1]]), none] (.tup [.tup [.tup [.int 0, .int 0, .int 2], .tup [.int 1, .int 0, .int 2], .tup [.int 1, .int 1, .int 2]], .tup [.int 2, .int 1], .tup [.int 0, .int 1, .int 0]]) .lf) 10050530448451 [some (.obj 3), some (.tup [.tup [.tup [.int 2, .int 1, .int 2], .tup [.int 1, .int 0, .int 2], .tup [.int 1, .int 1, .int 2]], .tup [.int 2, .int 0], .tup [.int 0, .int 5, .int 1]]), none] (.tup [.tup [.tup [.int 2, .int 1, .int 2], .tup [.int 1, .int 0, .int 2], .tup [.int 1, .int 1, .int 2]], .tup [.int 2, .int 0], .tup [.int 0, .int 1, .int 0]]) (.nd .lf 10050530481154 [some (.obj 3), some (.tup [.tup [.tup [.int 2, .int 1, .int 2], .tup [.int 1, .int 0, .int 2], .tup [.int 1, .int 1, .int 2]], .tup [.int 1, .int 0], .tup [.int 2, .int 5, .int 0]]), none] (.tup [.tup [.tup [.int 2, .int 1, .int 2], .tup [.int 1, .int 0, .int 2], .tup [.int 1, .int 1, .int 2]], .tup [.int 1, .int 0], .tup [.int 0, .int 1, .int 0]]) .lf))))
def bt_delay_10 : Bt := (.nd (.nd (.nd (.nd (.nd .lf 33849419 [some (.obj 3), some (.tup [.tup [.tup [.int 0, .int 0, .int 2], .non, .non], .tup [.int 2, .int 1], .tup [.int 2, .int 0, .int 1]]), none] (.tup [.tup [.tup [.int 0, .int 0, .int 2], .non, .non], .tup [.int 2, .int 1], .tup [.int 2, .int 0, .int 1]]) .lf) 4475641926656 [some (.obj 3), some (.tup [.tup [.tup [.int 2, .int 0, .int 1], .tup [.int 1, .int 0, .int 1], .tup [.int 0, .int 0, .int 1]], .non, .tup [.int 0, .int 5, .int 0]]), none] (.tup [.tup [.tup [.int 2, .int 0, .int 1], .tup [.int 1, .int 0, .int 1], .tup [.int 0, .int 0, .int 1]], .non, .tup [.int 1, .int 2, .int 1]]) (.nd .lf 4475641940032 [some (.obj 3), some (.tup [.tup [.tup [.int 2, .int 0, .int 1], .tup [.int 1, .int 0, .int 1], .tup [.int 0, .int 0, .int 1]], .non, .tup [.int 1, .int 2, .int 1]]), none] (.tup [.tup [.tup [.int 2, .int 0, .int 1], .tup [.int 1, .int 0, .int 1], .tup [.int 0, .int 0, .int 1]], .non, .tup [.int 2, .int 1, .int 0]]) .lf)) 4475662913600 [some (.obj 3), some (.tup [.tup [.tup [.int 2, .int 1, .int 2], .tup [.int 1, .int 0, .int 1], .tup [.int 0, .int 0, .int 1]], .non, .tup [.int 1, .int 4, .int 1]]), none] (.tup [.tup [.tup [.int 2, .int 1, .int 2], .tup [.int 1, .int 0, .int 1], .tup [.int 0, .int 0, .int 1]], .non, .tup [.int 2, .int 1, .int 0]]) (.nd (.nd .lf 4486395892736 [some (.obj 3), some (.tup [.tup [.tup [.int 1, .int 0, .int 2], .tup [.int 1, .int 1, .int 2], .tup [.int 0, .int 0, .int 1]], .non, .tup [.int 2, .int 5, .int 0]]), none] (.tup [.tup [.tup [.int 1, .int 0, .int 2], .tup [.int 1, .int 1, .int 2], .tup [.int 0, .int 0, .int 1]], .non, .tup [.int 0, .int 0, .int 1]]) .lf) 4535519313995 [some (.obj 3), some (.tup [.tup [.tup [.int 0, .int 0, .int 2], .non, .tup [.int 1, .int 0, .int 1]], .tup [.int 2, .int 1], .tup [.int 2, .int 0, .int 1]]), none] (.tup [.tup [.tup [.int 0, .int 0, .int 2], .non, .tup [.int 1, .int 0, .int 1]], .tup [.int 2, .int 1], .tup [.int 0, .int 1, .int 0]]) .lf)) 4544478053378 [some (.obj 3), some (.tup [.tup [.non, .tup [.int 2, .int 0, .int 1], .tup [.int 1, .int 0, .int 1]], .tup [.int 1, .int 0], .tup [.int 0, .int 1, .int 0]]), none] (.tup [.tup [.non, .tup [.int 2, .int 0, .int 1], .tup [.int 1, .int 0, .int 1]], .tup [.int 1, .int 0], .tup [.int 0, .int 1, .int 0]]) (.nd (.nd (.nd .lf 4544495883267 [some (.obj 3), some (.tup [.tup [.tup [.int 3, .int 0, .int 1], .tup [.int 2, .int 0, .int 1], .tup [.int 1, .int 0, .int 1]], .tup [.int 2, .int 0], .tup [.int 0, .int 5, .int 0]]), none] (.tup [.tup [.tup [.int 3, .int 0, .int 1], .tup [.int 2, .int 0, .int 1], .tup [.int 1, .int 0, .int 1]], .tup [.int 2, .int 0], .tup [.int 0, .int 1, .int 0]]) .lf) 4544511869963 [some (.obj 3), some (.tup [.tup [.tup [.int 0, .int 0, .int 2], .tup [.int 2, .int 0, .int 1], .tup [.int 1, .int 0, .int 1]], .tup [.int 2, .int 1], .tup [.int 0, .int 1, .int 0]]), none] (.tup [.tup [.tup [.int 0, .int 0, .int 2], .tup [.int 2, .int 0, .int 1], .tup [.int 1, .int 0, .int 1]], .tup [.int 2, .int 1], .tup [.int 2, .int 0, .int 1]]) (.nd .lf 4544511905867 [some (.obj 3), some (.tup [.tup [.tup [.int 0, .int 0, .int 2], .tup [.int 2, .int 0, .int 1], .tup [.int 1, .int 0, .int 1]], .tup [.int 2, .int 1], .tup [.int 2, .int 4, .int 1]]), none] (.tup [.tup [.tup [.int 0, .int 0, .int 2], .tup [.int 2, .int 0, .int 1], .tup [.int 1, .int 0, .int 1]], .tup [.int 2, .int 1], .tup [.int 0, .int 1, .int 0]]) .lf)) 4544516869122 [some (.obj 3), some (.tup [.tup [.tup [.int 3, .int 1, .int 2], .tup [.int 2, .int 0, .int 1], .tup [.int 1, .int 0, .int 1]], .tup [.int 1, .int 0], .tup [.int 1, .int 3, .int 0]]), none] (.tup [.tup [.tup [.int 3, .int 1, .int 2], .tup [.int 2, .int 0, .int 1], .tup [.int 1, .int 0, .int 1]], .tup [.int 1, .int 0], .tup [.int 2, .int 2, .int 1]]) (.nd (.nd .lf 4544516871234 [some (.obj 3), some (.tup [.tup [.tup [.int 3, .int 1, .int 2], .tup [.int 2, .int 0, .int 1], .tup [.int 1, .int 0, .int 1]], .tup [.int 1, .int 0], .tup [.int 1, .int 5, .int 1]]), none] (.tup [.tup [.tup [.int 3, .int 1, .int 2], .tup [.int 2, .int 0, .int 1], .tup [.int 1, .int 0, .int 1]], .tup [.int 1, .int 0], .tup [.int 0, .int 1, .int 0]]) .lf) 4555249325131 [some (.obj 3), some (.tup [.tup [.tup [.int 0, .int 0, .int 2], .tup [.int 2, .int 1, .int 2], .tup [.int 1, .int 0, .int 1]], .tup [.int 2, .int 1], .tup [.int 2, .int 5, .int 1]]), none] (.tup [.tup [.tup [.int 0, .int 0, .int 2], .tup [.int 2, .int 1, .int 2], .tup [.int 1, .int 0, .int 1]], .tup [.int 2, .int 1], .tup [.int 0, .int 1, .int 0]]) .lf))) 4555249816578 [some (.obj 3), some (.tup [.tup [.tup [.int 2, .int 0, .int 2], .tup [.int 2, .int 1, .int 2], .tup [.int 1, .int 0, .int 1]], .tup [.int 1, .int 0], .tup [.int 0, .int 5, .int 0]]), none] (.tup [.tup [.tup [.int 2, .int 0, .int 2], .tup [.int 2, .int 1, .int 2], .tup [.int 1, .int 0, .int 1]], .tup [.int 1, .int 0], .tup [.int 2, .int 2, .int 1]]) (.nd (.nd (.nd (.nd .lf 4555249849347 [some (.obj 3), some (.tup [.tup [.tup [.int 2, .int 0, .int 2], .tup [.int 2, .int 1, .int 2], .tup [.int 1, .int 0, .int 1]], .tup [.int 2, .int 0], .tup [.int 2, .int 5, .int 0]]), none] (.tup [.tup [.tup [.int 2, .int 0, .int 2], .tup [.int 2, .int 1, .int 2], .tup [.int 1, .int 0, .int 1]], .tup [.int 2, .int 0], .tup [.int 0, .int 1, .int 0]]) .lf) 9981655519296 [some (.obj 3), some (.tup [.tup [.tup [.int 1, .int 0, .int 1], .tup [.int 0, .int 0, .int 2], .tup [.int 0, .int 1, .int 2]], .non, .tup [.int 0, .int 4, .int 1]]), none] (.tup [.tup [.tup [.int 1, .int 0, .int 1], .tup [.int 0, .int 0, .int 2], .tup [.int 0, .int 1, .int 2]], .non, .tup [.int 1, .int 1, .int 0]]) (.nd .lf 9981655550976 [some (.obj 3), some (.tup [.tup [.tup [.int 1, .int 0, .int 1], .tup [.int 0, .int 0, .int 2], .tup [.int 0, .int 1, .int 2]], .non, .tup [.int 2, .int 3, .int 0]]), none] (.tup [.tup [.tup [.int 1, .int 0, .int 1], .tup [.int 0, .int 0, .int 2], .tup [.int 0, .int 1, .int 2]], .non, .tup [.int 0, .int 0, .int 1]]) .lf)) 9981655553088 [some (.obj 3), some (.tup [.tup [.tup [.int 1, .int 0, .int 1], .tup [.int 0, .int 0, .int 2], .tup [.int 0, .int 1, .int 2]], .non, .tup [.int 2, .int 5, .int 1]]), none] (.tup [.tup [.tup [.int 1, .int 0, .int 1], .tup [.int 0, .int 0, .int 2], .tup [.int 0, .int 1, .int 2]], .non, .tup [.int 0, .int 0, .int 1]]) (.nd (.nd .lf 9981676524544 [some (.obj 3), some (.tup [.tup [.tup [.int 1, .int 1, .int 2], .tup [.int 0, .int 0, .int 2], .tup [.int 0, .int 1, .int 2]], .non, .tup [.int 2, .int 5, .int 0]]), none] (.tup [.tup [.tup [.int 1, .int 1, .int 2], .tup [.int 0, .int 0, .int 2], .tup [.int 0, .int 1, .int 2]], .non, .tup [.int 0, .int 0, .int 1]]) .lf) 10050491926595 [some (.obj 3), some (.tup [.tup [.non, .tup [.int 1, .int 0, .int 2], .tup [.int 1, .int 1, .int 2]], .tup [.int 2, .int 0], .tup [.int 1, .int 2, .int 1]]), none] (.tup [.tup [.non, .tup [.int 1, .int 0, .int 2], .tup [.int 1, .int 1, .int 2]], .tup [.int 2, .int 0], .tup [.int 0, .int 1, .int 0]]) .lf)) 10050509474818 [some (.obj 3), some (.tup [.tup [.tup [.int 2, .int 0, .int 1], .tup [.int 1, .int 0, .int 2], .tup [.int 1, .int 1, .int 2]], .tup [.int 1, .int 0], .tup [.int 0, .int 3, .int 0]]), none] (.tup [.tup [.tup [.int 2, .int 0, .int 1], .tup [.int 1, .int 0, .int 2], .tup [.int 1, .int 1, .int 2]], .tup [.int 1, .int 0], .tup [.int 1, .int 2, .int 1]]) (.nd (.nd (.nd .lf 10050509476930 [some (.obj 3), some (.tup [.tup [.tup [.int 2, .int 0, .int 1], .tup [.int 1, .int 0, .int 2], .tup [.int 1, .int 1, .int 2]], .tup [.int 1, .int 0], .tup [.int 0, .int 5, .int 1]]), none] (.tup [.tup [.tup [.int 2, .int 0, .int 1], .tup [.int 1, .int 0, .int 2], .tup [.int 1, .int 1, .int 2]], .tup [.int 1, .int 0], .tup [.int 0, .int 1, .int 0]]) .lf) 10050509509699 [some (.obj 3), some (.tup [.tup [.tup [.int 2, .int 0, .int 1], .tup [.int 1, .int 0, .int 2], .tup [.int 1, .int 1, .int 2]], .tup [.int 2, .int 0], .tup [.int 2, .int 5, .int 1]]), none] (.tup [.tup [.tup [.int 2, .int 0, .int 1], .tup [.int 1, .int 0, .int 2], .tup [.int 1, .int 1, .int 2]], .tup [.int 2, .int 0], .tup [.int 0, .int 1, .int 0]]) .lf) 10050530448386 [some (.obj 3), some (.tup [.tup [.tup [.int 2, .int 1, .int 2], .tup [.int 1, .int 0, .int 2], .tup [.int 1, .int 1, .int 2]], .tup [.int 1, .int 0], .tup [.int 0, .int 5, .int 0]]), none] (.tup [.tup [.tup [.int 2, .int 1, .int 2], .tup [.int 1, .int 0, .int 2], .tup [.int 1, .int 1, .int 2]], .tup [.int 1, .int 0], .tup [.int 0, .int 1, .int 0]]) (.nd (.nd .lf 10050530461762 [some (.obj 3), some (.tup [.tup [.tup [.int 2, .int 1, .int 2], .tup [.int 1, .int 0, .int 2], .tup [.int 1, .int 1, .int 2]], .tup [.int 1, .int 0], .tup [.int 1, .int 2, .int 1]]), none] (.tup [.tup [.tup [.int 2, .int 1, .int 2], .tup [.int 1, .int 0, .int 2], .tup [.int 1, .int 1, .int 2]], .tup [.int 1, .int 0], .tup [.int 0, .int 1, .int 0]]) .lf) 10050530481155 [some (.obj 3), some (.tup [.tup [.tup [.int 2, .int 1, .int 2], .tup [.int 1, .int 0, .int 2], .tup [.int 1, .int 1, .int 2]], .tup [.int 2, .int 0], .tup [.int 2, .int 5, .int 0]]), none] (.tup [.tup [.tup [.int 2, .int 1, .int 2], .tup [.int 1, .int 0, .int 2], .tup [.int 1, .int 1, .int 2]], .tup [.int 2, .int 0], .tup [.int 0, .int 1, .int 0]]) .lf))))
def ob_delay : List (Nat × LO) := [(3, .ins 0 [(0, .int 3), (1, .tup [.int 1, .int 2]), (2, .int 2), (3, .str "first"), (4, .str "none"), (5, .str "strict")])]
def tab_delay : Sl → Option D := tabF [bt_delay_0, bt_delay_1, bt_delay_2, bt_delay_3, bt_delay_4, bt_delay_5, bt_delay_6, bt_delay_7, bt_delay_8, bt_delay_9, bt_delay_10] 11 (encAt 1)
def b_f_delay_of : MS := (sSeq (sIf (mB (m2 (vCmp .IsNot) (m2 vIdx (mVar 1) (mC (.int 1))) (mC .non))) (sRet (mC .non)) sSkip) (sSeq (sAsg (mC (.int 0)) (gN 2)) (sSeq (sWhile (mNot (mB (mCall 1 f_is_there (aCons (mVar 1) aNil)))) (sSeq (sAsg (mTbl 4 ob_delay [0, 1] tab_delay me_delay) (gN 1)) (sAug 2 (mC (.int 1)))) 100000) (sRet (mVar 2)))))
def f_delay_of : Fn := fnM 3 b_f_delay_of
def b_f_check_ring : MS := (sIf (mNot (mB (m1 (vIsi [7]) (mVar 0)))) (sRaise 1 (aCons (mC .non) aNil)) sSkip)
def f_check_ring : Fn := fnM 1 b_f_check_ring
def b_f_start_of : MS := (sRet (mTup (aCons (m2 (vBin .Mult) (mTup (aCons (mC .non) aNil)) (m1 (vFld 0) (mVar 0))) (aCons (mC .non) (aCons (mTup (aCons (mC (.int 0)) (aCons (mC (.int 0)) (aCons (m2 (vBin .Mod) (mC (.int 1)) (m1 (vFld 2) (mVar 0))) aNil)))) aNil)))))
def f_start_of : Fn := fnM 1 b_f_start_of
def b_f_deeds_of : MS := (sSeq (sAsg (mIf (mB (m2 (vCmp .Is) (m2 vIdx (mVar 1) (mC (.int 1))) (mC .non))) (mLc (iAny (m1 (vFld 1) (mVar 0))) (.nm 3) mYes (mTup (aCons (mC (.str "begin")) (aCons (mVar 3) aNil))) [3]) (mLst (aCons (mTup (aCons (mC (.str "put")) aNil)) aNil))) (gN 2)) (sRet (mLst (aStar (mVar 2) (aCons (mTup (aCons (mC (.str "read")) aNil)) aNil)))))
def f_deeds_of : Fn := fnM 4 b_f_deeds_of
def b_f_is_deed : MS := (sSeq (sIf (mOr (mNot (mB (m1 (vIsi [5]) (mVar 2)))) (mOr (mNot (mB (mChain (vCmp .LtE) (vCmp .LtE) (mC (.int 1)) (mFn (f1 bLen) (aCons (mVar 2) aNil)) (mC (.int 2))))) (mNot (mB (m1 (vIsi [3]) (m2 vIdx (mVar 2) (mC (.int 0)))))))) (sRet (mC (.bl false))) sSkip) (sSeq (sIf (mAnd (mB (m2 (vCmp .Eq) (mFn (f1 bLen) (aCons (mVar 2) aNil)) (mC (.int 2)))) (mNot (mB (mCall 3 f_is_number (aCons (m2 vIdx (mVar 2) (mC (.int 1))) (aCons (mC (.int 0)) (aCons (m1 (vFld 0) (mVar 0)) aNil))))))) (sRet (mC (.bl false))) sSkip) (sRet (m2 (vCmp .In) (mVar 2) (mCall 2 f_deeds_of (aCons (mVar 0) (aCons (mVar 1) aNil)))))))
def f_is_deed : Fn := fnM 3 b_f_is_deed
def b_f_walked : MS := (sSeq (sAsg (mLst (aCons (mCall 1 f_start_of (aCons (mVar 0) aNil)) aNil)) (gN 2)) (sSeq (sFor (iAny (mVar 1)) (.nm 3) (sSeq (sIf (mNot (mB (mCall 3 f_is_deed (aCons (mVar 0) (aCons (m2 vIdx (mVar 2) (m1 vNeg (mC (.int 1)))) (aCons (mVar 3) aNil)))))) (sRet (mVar 2)) sSkip) (sExpr (mBm lApp (mVar 2) (aCons (mMeth [(1, 1, m_Log_state_now)] (mCall 3 f_done (aCons (mVar 0) (aCons (m2 vIdx (mVar 2) (m1 vNeg (mC (.int 1)))) (aCons (mVar 3) aNil)))) aNil) aNil))))) (sRet (mVar 2))))
def f_walked : Fn := fnM 4 b_f_walked
def b_f_check_history : MS := (sSeq (sExpr (mCall 1 f_check_ring (aCons (mVar 0) aNil))) (sSeq (sIf (mNot (mB (m1 (vIsi [4, 5]) (mVar 1)))) (sRaise 2 (aCons (mC .non) aNil)) sSkip) (sSeq (sAsg (mCall 2 f_walked (aCons (mVar 0) (aCons (mVar 1) aNil))) (gN 2)) (sSeq (sIf (mB (m2 (vCmp .LtE) (mFn (f1 bLen) (aCons (mVar 2) aNil)) (mFn (f1 bLen) (aCons (mVar 1) aNil)))) (sRaise 2 (aCons (m2 (vBin .Sub) (mFn (f1 bLen) (aCons (mVar 2) aNil)) (mC (.int 1))) aNil)) sSkip) (sRet (mVar 2))))))
def f_check_history : Fn := fnM 3 b_f_check_history
def b_f_delay : MS := (sRet (mCall 2 f_delay_of (aCons (mVar 0) (aCons (m2 vIdx (mCall 2 f_check_history (aCons (mVar 0) (aCons (mVar 1) aNil))) (m1 vNeg (mC (.int 1)))) aNil))))
def f_delay : Fn := fnM 2 b_f_delay
def b_lamF_0 : ME := (mCall 2 f_delay (aCons (m2 vIdx (mVar 0) (mC (.int 0))) (aCons (m2 vIdx (mVar 0) (mC (.int 1))) aNil)))
def lamF_0 : Fn := lamFn 1 b_lamF_0
def b_f_kept_deeds : MS := (sSeq (sAsg (mCall 2 f_deeds_of (aCons (mVar 0) (aCons (mVar 1) aNil))) (gN 3)) (sSeq (sIf (mOr (mB (m2 (vCmp .Is) (mVar 2) (mC .non))) (mB (m2 (vCmp .Lt) (m2 vIdx (m2 vIdx (mVar 1) (mC (.int 2))) (mC (.int 1))) (mVar 2)))) (sRet (mVar 3)) sSkip) (sRet (mLc (iAny (mVar 3)) (.nm 4) (mB (m2 (vCmp .NotEq) (m2 vIdx (mVar 4) (mC (.int 0))) (mC (.str "begin")))) (mVar 4) [4]))))
def f_kept_deeds : Fn := fnM 5 b_f_kept_deeds
def me_reach : ME := (mMeth [(1, 1, m_Log_state_now)] (mCall 3 f_done (aCons (mVar 0) (aCons (mVar 4) (aCons (mVar 5) aNil)))) aNil)
def bt_reach_0 : Bt := (.nd (.nd (.nd (.nd (.nd .lf 35805135372807 [some (.obj 3), none, none, none, some (.tup [.tup [.tup [.int 2, .int 0, .int 1], .tup [.int 1, .int 0, .int 1], .tup [.int 0, .int 0, .int 1]], .non, .tup [.int 0, .int 0, .int 1]]), some (.tup [.str "read"]), none] (.tup [.tup [.tup [.int 2, .int 0, .int 1], .tup [.int 1, .int 0, .int 1], .tup [.int 0, .int 0, .int 1]], .non, .tup [.int 0, .int 0, .int 1]]) .lf) 35805135396865 [some (.obj 3), none, none, none, some (.tup [.tup [.tup [.int 2, .int 0, .int 1], .tup [.int 1, .int 0, .int 1], .tup [.int 0, .int 0, .int 1]], .non, .tup [.int 0, .int 3, .int 0]]), some (.tup [.str "begin", .int 1]), none] (.tup [.tup [.tup [.int 3, .int 0, .int 1], .tup [.int 2, .int 0, .int 1], .tup [.int 1, .int 0, .int 1]], .tup [.int 1, .int 0], .tup [.int 0, .int 4, .int 1]]) .lf) 35805135667713 [some (.obj 3), none, none, none, some (.tup [.tup [.tup [.int 2, .int 0, .int 1], .tup [.int 1, .int 0, .int 1], .tup [.int 0, .int 0, .int 1]], .non, .tup [.int 2, .int 4, .int 1]]), some (.tup [.str "begin", .int 1]), none] (.tup [.tup [.tup [.int 3, .int 0, .int 1], .tup [.int 2, .int 0, .int 1], .tup [.int 1, .int 0, .int 1]], .tup [.int 1, .int 0], .tup [.int 2, .int 5, .int 0]]) (.nd (.nd .lf 35805303308802 [some (.obj 3), none, none, none, some (.tup [.tup [.tup [.int 2, .int 1, .int 2], .tup [.int 1, .int 0, .int 1], .tup [.int 0, .int 0, .int 1]], .non, .tup [.int 1, .int 4, .int 1]]), some (.tup [.str "begin", .int 2]), none] (.tup [.tup [.tup [.int 3, .int 1, .int 2], .tup [.int 2, .int 0, .int 1], .tup [.int 1, .int 0, .int 1]], .tup [.int 2, .int 0], .tup [.int 1, .int 5, .int 0]]) .lf) 35805303414786 [some (.obj 3), none, none, none, some (.tup [.tup [.tup [.int 2, .int 1, .int 2], .tup [.int 1, .int 0, .int 1], .tup [.int 0, .int 0, .int 1]], .non, .tup [.int 2, .int 1, .int 0]]), some (.tup [.str "begin", .int 2]), none] (.tup [.tup [.tup [.int 3, .int 1, .int 2], .tup [.int 2, .int 0, .int 1], .tup [.int 1, .int 0, .int 1]], .tup [.int 2, .int 0], .tup [.int 2, .int 2, .int 1]]) .lf)) 35891166872071 [some (.obj 3), none, none, none, some (.tup [.tup [.tup [.int 1, .int 0, .int 2], .tup [.int 1, .int 1, .int 2], .tup [.int 0, .int 0, .int 1]], .non, .tup [.int 0, .int 4, .int 1]]), some (.tup [.str "read"]), none] (.tup [.tup [.tup [.int 1, .int 0, .int 2], .tup [.int 1, .int 1, .int 2], .tup [.int 0, .int 0, .int 1]], .non, .tup [.int 2, .int 1, .int 0]]) (.nd (.nd (.nd .lf 36355967066647 [some (.obj 3), none, none, none, some (.tup [.tup [.tup [.int 3, .int 0, .int 1], .tup [.int 2, .int 0, .int 1], .tup [.int 1, .int 0, .int 1]], .tup [.int 1, .int 0], .tup [.int 0, .int 5, .int 1]]), some (.tup [.str "read"]), none] (.tup [.tup [.tup [.int 3, .int 0, .int 1], .tup [.int 2, .int 0, .int 1], .tup [.int 1, .int 0, .int 1]], .tup [.int 1, .int 0], .tup [.int 1, .int 3, .int 0]]) .lf) 36355967328272 [some (.obj 3), none, none, none, some (.tup [.tup [.tup [.int 3, .int 0, .int 1], .tup [.int 2, .int 0, .int 1], .tup [.int 1, .int 0, .int 1]], .tup [.int 1, .int 0], .tup [.int 2, .int 5, .int 0]]), some (.tup [.str "put"]), none] (.tup [.tup [.tup [.int 2, .int 0, .int 1], .tup [.int 1, .int 0, .int 1], .tup [.int 0, .int 0, .int 1]], .non, .tup [.int 1, .int 5, .int 0]]) .lf) 36356094959711 [some (.obj 3), none, none, none, some (.tup [.tup [.tup [.int 0, .int 0, .int 2], .tup [.int 2, .int 0, .int 1], .tup [.int 1, .int 0, .int 1]], .tup [.int 2, .int 1], .tup [.int 0, .int 1, .int 0]]), some (.tup [.str "read"]), none] (.tup [.tup [.tup [.int 0, .int 0, .int 2], .tup [.int 2, .int 0, .int 1], .tup [.int 1, .int 0, .int 1]], .tup [.int 2, .int 1], .tup [.int 2, .int 0, .int 1]]) (.nd .lf 36356095230559 [some (.obj 3), none, none, none, some (.tup [.tup [.tup [.int 0, .int 0, .int 2], .tup [.int 2, .int 0, .int 1], .tup [.int 1, .int 0, .int 1]], .tup [.int 2, .int 1], .tup [.int 2, .int 2, .int 1]]), some (.tup [.str "read"]), none] (.tup [.tup [.tup [.int 0, .int 0, .int 2], .tup [.int 2, .int 0, .int 1], .tup [.int 1, .int 0, .int 1]], .tup [.int 2, .int 1], .tup [.int 0, .int 1, .int 0]]) .lf))) 36356135100944 [some (.obj 3), none, none, none, some (.tup [.tup [.tup [.int 3, .int 1, .int 2], .tup [.int 2, .int 0, .int 1], .tup [.int 1, .int 0, .int 1]], .tup [.int 1, .int 0], .tup [.int 2, .int 5, .int 1]]), some (.tup [.str "put"]), none] (.tup [.tup [.tup [.int 2, .int 0, .int 1], .tup [.int 1, .int 0, .int 1], .tup [.int 0, .int 0, .int 1]], .non, .tup [.int 1, .int 5, .int 1]]) (.nd (.nd (.nd (.nd .lf 36441994461791 [some (.obj 3), none, none, none, some (.tup [.tup [.tup [.int 0, .int 0, .int 2], .tup [.int 2, .int 1, .int 2], .tup [.int 1, .int 0, .int 1]], .tup [.int 2, .int 1], .tup [.int 1, .int 4, .int 1]]), some (.tup [.str "read"]), none] (.tup [.tup [.tup [.int 0, .int 0, .int 2], .tup [.int 2, .int 1, .int 2], .tup [.int 1, .int 0, .int 1]], .tup [.int 2, .int 1], .tup [.int 0, .int 1, .int 0]]) .lf) 36441998533136 [some (.obj 3), none, none, none, some (.tup [.tup [.tup [.int 2, .int 0, .int 2], .tup [.int 2, .int 1, .int 2], .tup [.int 1, .int 0, .int 1]], .tup [.int 1, .int 0], .tup [.int 0, .int 5, .int 1]]), some (.tup [.str "put"]), none] (.tup [.tup [.tup [.int 2, .int 1, .int 2], .tup [.int 1, .int 0, .int 1], .tup [.int 0, .int 0, .int 1]], .non, .tup [.int 2, .int 5, .int 1]]) .lf) 79853244154375 [some (.obj 3), none, none, none, some (.tup [.tup [.tup [.int 1, .int 0, .int 1], .tup [.int 0, .int 0, .int 2], .tup [.int 0, .int 1, .int 2]], .non, .tup [.int 0, .int 4, .int 1]]), some (.tup [.str "read"]), none] (.tup [.tup [.tup [.int 1, .int 0, .int 1], .tup [.int 0, .int 0, .int 2], .tup [.int 0, .int 1, .int 2]], .non, .tup [.int 1, .int 1, .int 0]]) (.nd (.nd .lf 79853244260359 [some (.obj 3), none, none, none, some (.tup [.tup [.tup [.int 1, .int 0, .int 1], .tup [.int 0, .int 0, .int 2], .tup [.int 0, .int 1, .int 2]], .non, .tup [.int 1, .int 1, .int 0]]), some (.tup [.str "read"]), none] (.tup [.tup [.tup [.int 1, .int 0, .int 1], .tup [.int 0, .int 0, .int 2], .tup [.int 0, .int 1, .int 2]], .non, .tup [.int 0, .int 0, .int 1]]) .lf) 79853412196354 [some (.obj 3), none, none, none, some (.tup [.tup [.tup [.int 1, .int 1, .int 2], .tup [.int 0, .int 0, .int 2], .tup [.int 0, .int 1, .int 2]], .non, .tup [.int 2, .int 5, .int 0]]), some (.tup [.str "begin", .int 2]), none] (.tup [.tup [.tup [.int 2, .int 1, .int 2], .tup [.int 1, .int 0, .int 2], .tup [.int 1, .int 1, .int 2]], .tup [.int 2, .int 0], .tup [.int 2, .int 5, .int 1]]) .lf)) 80404075815440 [some (.obj 3), none, none, none, some (.tup [.tup [.tup [.int 2, .int 0, .int 1], .tup [.int 1, .int 0, .int 2], .tup [.int 1, .int 1, .int 2]], .tup [.int 1, .int 0], .tup [.int 0, .int 5, .int 1]]), some (.tup [.str "put"]), none] (.tup [.tup [.tup [.int 1, .int 0, .int 2], .tup [.int 1, .int 1, .int 2], .tup [.int 0, .int 0, .int 1]], .non, .tup [.int 2, .int 5, .int 1]]) (.nd (.nd (.nd .lf 80404205969496 [some (.obj 3), none, none, none, some (.tup [.tup [.tup [.int 0, .int 0, .int 2], .tup [.int 1, .int 0, .int 2], .tup [.int 1, .int 1, .int 2]], .tup [.int 2, .int 1], .tup [.int 1, .int 5, .int 0]]), some (.tup [.str "put"]), none] (.tup [.tup [.tup [.int 1, .int 1, .int 2], .tup [.int 0, .int 0, .int 2], .tup [.int 0, .int 1, .int 2]], .non, .tup [.int 2, .int 5, .int 0]]) .lf) 80404243694096 [some (.obj 3), none, none, none, some (.tup [.tup [.tup [.int 2, .int 1, .int 2], .tup [.int 1, .int 0, .int 2], .tup [.int 1, .int 1, .int 2]], .tup [.int 1, .int 0], .tup [.int 1, .int 2, .int 1]]), some (.tup [.str "put"]), none] (.tup [.tup [.tup [.int 1, .int 0, .int 2], .tup [.int 1, .int 1, .int 2], .tup [.int 0, .int 0, .int 1]], .non, .tup [.int 0, .int 2, .int 1]]) .lf) 80404243710495 [some (.obj 3), none, none, none, some (.tup [.tup [.tup [.int 2, .int 1, .int 2], .tup [.int 1, .int 0, .int 2], .tup [.int 1, .int 1, .int 2]], .tup [.int 2, .int 0], .tup [.int 1, .int 4, .int 1]]), some (.tup [.str "read"]), none] (.tup [.tup [.tup [.int 2, .int 1, .int 2], .tup [.int 1, .int 0, .int 2], .tup [.int 1, .int 1, .int 2]], .tup [.int 2, .int 0], .tup [.int 0, .int 1, .int 0]]) (.nd .lf 80404243832855 [some (.obj 3), none, none, none, some (.tup [.tup [.tup [.int 2, .int 1, .int 2], .tup [.int 1, .int 0, .int 2], .tup [.int 1, .int 1, .int 2]], .tup [.int 1, .int 0], .tup [.int 2, .int 3, .int 0]]), some (.tup [.str "read"]), none] (.tup [.tup [.tup [.int 2, .int 1, .int 2], .tup [.int 1, .int 0, .int 2], .tup [.int 1, .int 1, .int 2]], .tup [.int 1, .int 0], .tup [.int 0, .int 1, .int 0]]) .lf))))
def bt_reach_1 : Bt := (.nd (.nd (.nd (.nd (.nd .lf 35804994863623 [some (.obj 3), none, none, none, some (.tup [.tup [.non, .tup [.int 1, .int 0, .int 1], .tup [.int 0, .int 0, .int 1]], .non, .tup [.int 0, .int 0, .int 1]]), some (.tup [.str "read"]), none] (.tup [.tup [.non, .tup [.int 1, .int 0, .int 1], .tup [.int 0, .int 0, .int 1]], .non, .tup [.int 0, .int 0, .int 1]]) .lf) 35805135396866 [some (.obj 3), none, none, none, some (.tup [.tup [.tup [.int 2, .int 0, .int 1], .tup [.int 1, .int 0, .int 1], .tup [.int 0, .int 0, .int 1]], .non, .tup [.int 0, .int 3, .int 0]]), some (.tup [.str "begin", .int 2]), none] (.tup [.tup [.tup [.int 3, .int 0, .int 1], .tup [.int 2, .int 0, .int 1], .tup [.int 1, .int 0, .int 1]], .tup [.int 2, .int 0], .tup [.int 0, .int 4, .int 1]]) (.nd .lf 35805135667714 [some (.obj 3), none, none, none, some (.tup [.tup [.tup [.int 2, .int 0, .int 1], .tup [.int 1, .int 0, .int 1], .tup [.int 0, .int 0, .int 1]], .non, .tup [.int 2, .int 4, .int 1]]), some (.tup [.str "begin", .int 2]), none] (.tup [.tup [.tup [.int 3, .int 0, .int 1], .tup [.int 2, .int 0, .int 1], .tup [.int 1, .int 0, .int 1]], .tup [.int 2, .int 0], .tup [.int 2, .int 5, .int 0]]) .lf)) 35891166839297 [some (.obj 3), none, none, none, some (.tup [.tup [.tup [.int 1, .int 0, .int 2], .tup [.int 1, .int 1, .int 2], .tup [.int 0, .int 0, .int 1]], .non, .tup [.int 0, .int 0, .int 1]]), some (.tup [.str "begin", .int 1]), none] (.tup [.tup [.tup [.int 2, .int 0, .int 2], .tup [.int 2, .int 1, .int 2], .tup [.int 1, .int 0, .int 1]], .tup [.int 1, .int 0], .tup [.int 0, .int 1, .int 0]]) (.nd (.nd .lf 36355824574495 [some (.obj 3), none, none, none, some (.tup [.tup [.non, .tup [.int 2, .int 0, .int 1], .tup [.int 1, .int 0, .int 1]], .tup [.int 2, .int 0], .tup [.int 1, .int 3, .int 0]]), some (.tup [.str "read"]), none] (.tup [.tup [.non, .tup [.int 2, .int 0, .int 1], .tup [.int 1, .int 0, .int 1]], .tup [.int 2, .int 0], .tup [.int 2, .int 2, .int 1]]) .lf) 36355967033367 [some (.obj 3), none, none, none, some (.tup [.tup [.tup [.int 3, .int 0, .int 1], .tup [.int 2, .int 0, .int 1], .tup [.int 1, .int 0, .int 1]], .tup [.int 1, .int 0], .tup [.int 0, .int 1, .int 0]]), some (.tup [.str "read"]), none] (.tup [.tup [.tup [.int 3, .int 0, .int 1], .tup [.int 2, .int 0, .int 1], .tup [.int 1, .int 0, .int 1]], .tup [.int 1, .int 0], .tup [.int 0, .int 1, .int 0]]) (.nd .lf 36355967066648 [some (.obj 3), none, none, none, some (.tup [.tup [.tup [.int 3, .int 0, .int 1], .tup [.int 2, .int 0, .int 1], .tup [.int 1, .int 0, .int 1]], .tup [.int 2, .int 0], .tup [.int 0, .int 5, .int 1]]), some (.tup [.str "put"]), none] (.tup [.tup [.tup [.int 0, .int 0, .int 2], .tup [.int 2, .int 0, .int 1], .tup [.int 1, .int 0, .int 1]], .tup [.int 2, .int 1], .tup [.int 0, .int 5, .int 1]]) .lf))) 36355967304215 [some (.obj 3), none, none, none, some (.tup [.tup [.tup [.int 3, .int 0, .int 1], .tup [.int 2, .int 0, .int 1], .tup [.int 1, .int 0, .int 1]], .tup [.int 1, .int 0], .tup [.int 2, .int 2, .int 1]]), some (.tup [.str "read"]), none] (.tup [.tup [.tup [.int 3, .int 0, .int 1], .tup [.int 2, .int 0, .int 1], .tup [.int 1, .int 0, .int 1]], .tup [.int 1, .int 0], .tup [.int 0, .int 1, .int 0]]) (.nd (.nd (.nd .lf 36356095246936 [some (.obj 3), none, none, none, some (.tup [.tup [.tup [.int 0, .int 0, .int 2], .tup [.int 2, .int 0, .int 1], .tup [.int 1, .int 0, .int 1]], .tup [.int 2, .int 1], .tup [.int 2, .int 4, .int 1]]), some (.tup [.str "put"]), none] (.tup [.tup [.tup [.int 1, .int 0, .int 1], .tup [.int 0, .int 0, .int 2], .tup [.int 0, .int 1, .int 2]], .non, .tup [.int 0, .int 4, .int 1]]) .lf) 36356135100439 [some (.obj 3), none, none, none, some (.tup [.tup [.tup [.int 3, .int 1, .int 2], .tup [.int 2, .int 0, .int 1], .tup [.int 1, .int 0, .int 1]], .tup [.int 1, .int 0], .tup [.int 2, .int 5, .int 0]]), some (.tup [.str "read"]), none] (.tup [.tup [.tup [.int 3, .int 1, .int 2], .tup [.int 2, .int 0, .int 1], .tup [.int 1, .int 0, .int 1]], .tup [.int 1, .int 0], .tup [.int 0, .int 1, .int 0]]) (.nd .lf 36441998499856 [some (.obj 3), none, none, none, some (.tup [.tup [.tup [.int 2, .int 0, .int 2], .tup [.int 2, .int 1, .int 2], .tup [.int 1, .int 0, .int 1]], .tup [.int 1, .int 0], .tup [.int 0, .int 1, .int 0]]), some (.tup [.str "put"]), none] (.tup [.tup [.tup [.int 2, .int 1, .int 2], .tup [.int 1, .int 0, .int 1], .tup [.int 0, .int 0, .int 1]], .non, .tup [.int 2, .int 1, .int 0]]) .lf)) 36441998516255 [some (.obj 3), none, none, none, some (.tup [.tup [.tup [.int 2, .int 0, .int 2], .tup [.int 2, .int 1, .int 2], .tup [.int 1, .int 0, .int 1]], .tup [.int 2, .int 0], .tup [.int 0, .int 3, .int 0]]), some (.tup [.str "read"]), none] (.tup [.tup [.tup [.int 2, .int 0, .int 2], .tup [.int 2, .int 1, .int 2], .tup [.int 1, .int 0, .int 1]], .tup [.int 2, .int 0], .tup [.int 2, .int 2, .int 1]]) (.nd (.nd .lf 36441998532631 [some (.obj 3), none, none, none, some (.tup [.tup [.tup [.int 2, .int 0, .int 2], .tup [.int 2, .int 1, .int 2], .tup [.int 1, .int 0, .int 1]], .tup [.int 1, .int 0], .tup [.int 0, .int 5, .int 0]]), some (.tup [.str "read"]), none] (.tup [.tup [.tup [.int 2, .int 0, .int 2], .tup [.int 2, .int 1, .int 2], .tup [.int 1, .int 0, .int 1]], .tup [.int 1, .int 0], .tup [.int 2, .int 2, .int 1]]) .lf) 36441998770704 [some (.obj 3), none, none, none, some (.tup [.tup [.tup [.int 2, .int 0, .int 2], .tup [.int 2, .int 1, .int 2], .tup [.int 1, .int 0, .int 1]], .tup [.int 1, .int 0], .tup [.int 2, .int 2, .int 1]]), some (.tup [.str "put"]), none] (.tup [.tup [.tup [.int 2, .int 1, .int 2], .tup [.int 1, .int 0, .int 1], .tup [.int 0, .int 0, .int 1]], .non, .tup [.int 1, .int 2, .int 1]]) .lf))) 36441998787103 [some (.obj 3), none, none, none, some (.tup [.tup [.tup [.int 2, .int 0, .int 2], .tup [.int 2, .int 1, .int 2], .tup [.int 1, .int 0, .int 1]], .tup [.int 2, .int 0], .tup [.int 2, .int 4, .int 1]]), some (.tup [.str "read"]), none] (.tup [.tup [.tup [.int 2, .int 0, .int 2], .tup [.int 2, .int 1, .int 2], .tup [.int 1, .int 0, .int 1]], .tup [.int 2, .int 0], .tup [.int 0, .int 1, .int 0]]) (.nd (.nd (.nd (.nd .lf 79853244121601 [some (.obj 3), none, none, none, some (.tup [.tup [.tup [.int 1, .int 0, .int 1], .tup [.int 0, .int 0, .int 2], .tup [.int 0, .int 1, .int 2]], .non, .tup [.int 0, .int 0, .int 1]]), some (.tup [.str "begin", .int 1]), none] (.tup [.tup [.tup [.int 2, .int 0, .int 1], .tup [.int 1, .int 0, .int 2], .tup [.int 1, .int 1, .int 2]], .tup [.int 1, .int 0], .tup [.int 0, .int 1, .int 0]]) .lf) 79853411893767 [some (.obj 3), none, none, none, some (.tup [.tup [.tup [.int 1, .int 1, .int 2], .tup [.int 0, .int 0, .int 2], .tup [.int 0, .int 1, .int 2]], .non, .tup [.int 0, .int 0, .int 1]]), some (.tup [.str "read"]), none] (.tup [.tup [.tup [.int 1, .int 1, .int 2], .tup [.int 0, .int 0, .int 2], .tup [.int 0, .int 1, .int 2]], .non, .tup [.int 0, .int 0, .int 1]]) (.nd .lf 79853411917825 [some (.obj 3), none, none, none, some (.tup [.tup [.tup [.int 1, .int 1, .int 2], .tup [.int 0, .int 0, .int 2], .tup [.int 0, .int 1, .int 2]], .non, .tup [.int 0, .int 3, .int 0]]), some (.tup [.str "begin", .int 1]), none] (.tup [.tup [.tup [.int 2, .int 1, .int 2], .tup [.int 1, .int 0, .int 2], .tup [.int 1, .int 1, .int 2]], .tup [.int 1, .int 0], .tup [.int 0, .int 4, .int 1]]) .lf)) 79853412188673 [some (.obj 3), none, none, none, some (.tup [.tup [.tup [.int 1, .int 1, .int 2], .tup [.int 0, .int 0, .int 2], .tup [.int 0, .int 1, .int 2]], .non, .tup [.int 2, .int 4, .int 1]]), some (.tup [.str "begin", .int 1]), none] (.tup [.tup [.tup [.int 2, .int 1, .int 2], .tup [.int 1, .int 0, .int 2], .tup [.int 1, .int 1, .int 2]], .tup [.int 1, .int 0], .tup [.int 2, .int 5, .int 0]]) (.nd (.nd .lf 80404075782160 [some (.obj 3), none, none, none, some (.tup [.tup [.tup [.int 2, .int 0, .int 1], .tup [.int 1, .int 0, .int 2], .tup [.int 1, .int 1, .int 2]], .tup [.int 1, .int 0], .tup [.int 0, .int 1, .int 0]]), some (.tup [.str "put"]), none] (.tup [.tup [.tup [.int 1, .int 0, .int 2], .tup [.int 1, .int 1, .int 2], .tup [.int 0, .int 0, .int 1]], .non, .tup [.int 2, .int 1, .int 0]]) .lf) 80404075798559 [some (.obj 3), none, none, none, some (.tup [.tup [.tup [.int 2, .int 0, .int 1], .tup [.int 1, .int 0, .int 2], .tup [.int 1, .int 1, .int 2]], .tup [.int 2, .int 0], .tup [.int 0, .int 3, .int 0]]), some (.tup [.str "read"]), none] (.tup [.tup [.tup [.int 2, .int 0, .int 1], .tup [.int 1, .int 0, .int 2], .tup [.int 1, .int 1, .int 2]], .tup [.int 2, .int 0], .tup [.int 1, .int 2, .int 1]]) .lf)) 80404075814935 [some (.obj 3), none, none, none, some (.tup [.tup [.tup [.int 2, .int 0, .int 1], .tup [.int 1, .int 0, .int 2], .tup [.int 1, .int 1, .int 2]], .tup [.int 1, .int 0], .tup [.int 0, .int 5, .int 0]]), some (.tup [.str "read"]), none] (.tup [.tup [.tup [.int 2, .int 0, .int 1], .tup [.int 1, .int 0, .int 2], .tup [.int 1, .int 1, .int 2]], .tup [.int 1, .int 0], .tup [.int 1, .int 2, .int 1]]) (.nd (.nd (.nd .lf 80404076069407 [some (.obj 3), none, none, none, some (.tup [.tup [.tup [.int 2, .int 0, .int 1], .tup [.int 1, .int 0, .int 2], .tup [.int 1, .int 1, .int 2]], .tup [.int 2, .int 0], .tup [.int 2, .int 4, .int 1]]), some (.tup [.str "read"]), none] (.tup [.tup [.tup [.int 2, .int 0, .int 1], .tup [.int 1, .int 0, .int 2], .tup [.int 1, .int 1, .int 2]], .tup [.int 2, .int 0], .tup [.int 0, .int 1, .int 0]]) .lf) 80404205945439 [some (.obj 3), none, none, none, some (.tup [.tup [.tup [.int 0, .int 0, .int 2], .tup [.int 1, .int 0, .int 2], .tup [.int 1, .int 1, .int 2]], .tup [.int 2, .int 1], .tup [.int 1, .int 2, .int 1]]), some (.tup [.str "read"]), none] (.tup [.tup [.tup [.int 0, .int 0, .int 2], .tup [.int 1, .int 0, .int 2], .tup [.int 1, .int 1, .int 2]], .tup [.int 2, .int 1], .tup [.int 0, .int 1, .int 0]]) (.nd .lf 80404206101080 [some (.obj 3), none, none, none, some (.tup [.tup [.tup [.int 0, .int 0, .int 2], .tup [.int 1, .int 0, .int 2], .tup [.int 1, .int 1, .int 2]], .tup [.int 2, .int 1], .tup [.int 2, .int 5, .int 1]]), some (.tup [.str "put"]), none] (.tup [.tup [.tup [.int 1, .int 1, .int 2], .tup [.int 0, .int 0, .int 2], .tup [.int 0, .int 1, .int 2]], .non, .tup [.int 0, .int 5, .int 1]]) .lf)) 80404243587607 [some (.obj 3), none, none, none, some (.tup [.tup [.tup [.int 2, .int 1, .int 2], .tup [.int 1, .int 0, .int 2], .tup [.int 1, .int 1, .int 2]], .tup [.int 1, .int 0], .tup [.int 0, .int 5, .int 1]]), some (.tup [.str "read"]), none] (.tup [.tup [.tup [.int 2, .int 1, .int 2], .tup [.int 1, .int 0, .int 2], .tup [.int 1, .int 1, .int 2]], .tup [.int 1, .int 0], .tup [.int 0, .int 1, .int 0]]) (.nd (.nd .lf 80404243832856 [some (.obj 3), none, none, none, some (.tup [.tup [.tup [.int 2, .int 1, .int 2], .tup [.int 1, .int 0, .int 2], .tup [.int 1, .int 1, .int 2]], .tup [.int 2, .int 0], .tup [.int 2, .int 3, .int 0]]), some (.tup [.str "put"]), none] (.tup [.tup [.tup [.int 0, .int 0, .int 2], .tup [.int 1, .int 0, .int 2], .tup [.int 1, .int 1, .int 2]], .tup [.int 2, .int 1], .tup [.int 2, .int 3, .int 0]]) .lf) 80404243849232 [some (.obj 3), none, none, none, some (.tup [.tup [.tup [.int 2, .int 1, .int 2], .tup [.int 1, .int 0, .int 2], .tup [.int 1, .int 1, .int 2]], .tup [.int 1, .int 0], .tup [.int 2, .int 5, .int 0]]), some (.tup [.str "put"]), none] (.tup [.tup [.tup [.int 1, .int 0, .int 2], .tup [.int 1, .int 1, .int 2], .tup [.int 0, .int 0, .int 1]], .non, .tup [.int 1, .int 5, .int 0]]) .lf))))
def bt_reach_2 : Bt := (.nd (.nd (.nd (.nd (.nd .lf 35805303185409 [some (.obj 3), none, none, none, some (.tup [.tup [.tup [.int 2, .int 1, .int 2], .tup [.int 1, .int 0, .int 1], .tup [.int 0, .int 0, .int 1]], .non, .tup [.int 0, .int 5, .int 0]]), some (.tup [.str "begin", .int 1]), none] (.tup [.tup [.tup [.int 3, .int 1, .int 2], .tup [.int 2, .int 0, .int 1], .tup [.int 1, .int 0, .int 1]], .tup [.int 1, .int 0], .tup [.int 0, .int 5, .int 1]]) .lf) 35891166839298 [some (.obj 3), none, none, none, some (.tup [.tup [.tup [.int 1, .int 0, .int 2], .tup [.int 1, .int 1, .int 2], .tup [.int 0, .int 0, .int 1]], .non, .tup [.int 0, .int 0, .int 1]]), some (.tup [.str "begin", .int 2]), none] (.tup [.tup [.tup [.int 2, .int 0, .int 2], .tup [.int 2, .int 1, .int 2], .tup [.int 1, .int 0, .int 1]], .tup [.int 2, .int 0], .tup [.int 0, .int 1, .int 0]]) (.nd .lf 35891166994433 [some (.obj 3), none, none, none, some (.tup [.tup [.tup [.int 1, .int 0, .int 2], .tup [.int 1, .int 1, .int 2], .tup [.int 0, .int 0, .int 1]], .non, .tup [.int 1, .int 3, .int 0]]), some (.tup [.str "begin", .int 1]), none] (.tup [.tup [.tup [.int 2, .int 0, .int 2], .tup [.int 2, .int 1, .int 2], .tup [.int 1, .int 0, .int 1]], .tup [.int 1, .int 0], .tup [.int 1, .int 4, .int 1]]) .lf)) 36355967033368 [some (.obj 3), none, none, none, some (.tup [.tup [.tup [.int 3, .int 0, .int 1], .tup [.int 2, .int 0, .int 1], .tup [.int 1, .int 0, .int 1]], .tup [.int 2, .int 0], .tup [.int 0, .int 1, .int 0]]), some (.tup [.str "put"]), none] (.tup [.tup [.tup [.int 0, .int 0, .int 2], .tup [.int 2, .int 0, .int 1], .tup [.int 1, .int 0, .int 1]], .tup [.int 2, .int 1], .tup [.int 0, .int 1, .int 0]]) (.nd (.nd .lf 36355967066143 [some (.obj 3), none, none, none, some (.tup [.tup [.tup [.int 3, .int 0, .int 1], .tup [.int 2, .int 0, .int 1], .tup [.int 1, .int 0, .int 1]], .tup [.int 2, .int 0], .tup [.int 0, .int 5, .int 0]]), some (.tup [.str "read"]), none] (.tup [.tup [.tup [.int 3, .int 0, .int 1], .tup [.int 2, .int 0, .int 1], .tup [.int 1, .int 0, .int 1]], .tup [.int 2, .int 0], .tup [.int 0, .int 1, .int 0]]) .lf) 36355967304216 [some (.obj 3), none, none, none, some (.tup [.tup [.tup [.int 3, .int 0, .int 1], .tup [.int 2, .int 0, .int 1], .tup [.int 1, .int 0, .int 1]], .tup [.int 2, .int 0], .tup [.int 2, .int 2, .int 1]]), some (.tup [.str "put"]), none] (.tup [.tup [.tup [.int 0, .int 0, .int 2], .tup [.int 2, .int 0, .int 1], .tup [.int 1, .int 0, .int 1]], .tup [.int 2, .int 1], .tup [.int 2, .int 2, .int 1]]) .lf)) 36356134838815 [some (.obj 3), none, none, none, some (.tup [.tup [.tup [.int 3, .int 1, .int 2], .tup [.int 2, .int 0, .int 1], .tup [.int 1, .int 0, .int 1]], .tup [.int 2, .int 0], .tup [.int 0, .int 5, .int 1]]), some (.tup [.str "read"]), none] (.tup [.tup [.tup [.int 3, .int 1, .int 2], .tup [.int 2, .int 0, .int 1], .tup [.int 1, .int 0, .int 1]], .tup [.int 2, .int 0], .tup [.int 0, .int 1, .int 0]]) (.nd (.nd (.nd .lf 36356135100440 [some (.obj 3), none, none, none, some (.tup [.tup [.tup [.int 3, .int 1, .int 2], .tup [.int 2, .int 0, .int 1], .tup [.int 1, .int 0, .int 1]], .tup [.int 2, .int 0], .tup [.int 2, .int 5, .int 0]]), some (.tup [.str "put"]), none] (.tup [.tup [.tup [.int 0, .int 0, .int 2], .tup [.int 2, .int 0, .int 1], .tup [.int 1, .int 0, .int 1]], .tup [.int 2, .int 1], .tup [.int 2, .int 5, .int 0]]) .lf) 36441994338904 [some (.obj 3), none, none, none, some (.tup [.tup [.tup [.int 0, .int 0, .int 2], .tup [.int 2, .int 1, .int 2], .tup [.int 1, .int 0, .int 1]], .tup [.int 2, .int 1], .tup [.int 0, .int 5, .int 1]]), some (.tup [.str "put"]), none] (.tup [.tup [.tup [.int 1, .int 0, .int 1], .tup [.int 0, .int 0, .int 2], .tup [.int 0, .int 1, .int 2]], .non, .tup [.int 1, .int 5, .int 1]]) .lf) 36441994560095 [some (.obj 3), none, none, none, some (.tup [.tup [.tup [.int 0, .int 0, .int 2], .tup [.int 2, .int 1, .int 2], .tup [.int 1, .int 0, .int 1]], .tup [.int 2, .int 1], .tup [.int 2, .int 0, .int 1]]), some (.tup [.str "read"]), none] (.tup [.tup [.tup [.int 0, .int 0, .int 2], .tup [.int 2, .int 1, .int 2], .tup [.int 1, .int 0, .int 1]], .tup [.int 2, .int 1], .tup [.int 0, .int 1, .int 0]]) (.nd (.nd .lf 36441998532632 [some (.obj 3), none, none, none, some (.tup [.tup [.tup [.int 2, .int 0, .int 2], .tup [.int 2, .int 1, .int 2], .tup [.int 1, .int 0, .int 1]], .tup [.int 2, .int 0], .tup [.int 0, .int 5, .int 0]]), some (.tup [.str "put"]), none] (.tup [.tup [.tup [.int 0, .int 0, .int 2], .tup [.int 2, .int 1, .int 2], .tup [.int 1, .int 0, .int 1]], .tup [.int 2, .int 1], .tup [.int 0, .int 5, .int 0]]) .lf) 36441998664215 [some (.obj 3), none, none, none, some (.tup [.tup [.tup [.int 2, .int 0, .int 2], .tup [.int 2, .int 1, .int 2], .tup [.int 1, .int 0, .int 1]], .tup [.int 1, .int 0], .tup [.int 1, .int 5, .int 1]]), some (.tup [.str "read"]), none] (.tup [.tup [.tup [.int 2, .int 0, .int 2], .tup [.int 2, .int 1, .int 2], .tup [.int 1, .int 0, .int 1]], .tup [.int 1, .int 0], .tup [.int 0, .int 1, .int 0]]) .lf))) 79853244121602 [some (.obj 3), none, none, none, some (.tup [.tup [.tup [.int 1, .int 0, .int 1], .tup [.int 0, .int 0, .int 2], .tup [.int 0, .int 1, .int 2]], .non, .tup [.int 0, .int 0, .int 1]]), some (.tup [.str "begin", .int 2]), none] (.tup [.tup [.tup [.int 2, .int 0, .int 1], .tup [.int 1, .int 0, .int 2], .tup [.int 1, .int 1, .int 2]], .tup [.int 2, .int 0], .tup [.int 0, .int 1, .int 0]]) (.nd (.nd (.nd (.nd .lf 79853244276737 [some (.obj 3), none, none, none, some (.tup [.tup [.tup [.int 1, .int 0, .int 1], .tup [.int 0, .int 0, .int 2], .tup [.int 0, .int 1, .int 2]], .non, .tup [.int 1, .int 3, .int 0]]), some (.tup [.str "begin", .int 1]), none] (.tup [.tup [.tup [.int 2, .int 0, .int 1], .tup [.int 1, .int 0, .int 2], .tup [.int 1, .int 1, .int 2]], .tup [.int 1, .int 0], .tup [.int 1, .int 4, .int 1]]) .lf) 79853411917826 [some (.obj 3), none, none, none, some (.tup [.tup [.tup [.int 1, .int 1, .int 2], .tup [.int 0, .int 0, .int 2], .tup [.int 0, .int 1, .int 2]], .non, .tup [.int 0, .int 3, .int 0]]), some (.tup [.str "begin", .int 2]), none] (.tup [.tup [.tup [.int 2, .int 1, .int 2], .tup [.int 1, .int 0, .int 2], .tup [.int 1, .int 1, .int 2]], .tup [.int 2, .int 0], .tup [.int 0, .int 4, .int 1]]) .lf) 79853412048903 [some (.obj 3), none, none, none, some (.tup [.tup [.tup [.int 1, .int 1, .int 2], .tup [.int 0, .int 0, .int 2], .tup [.int 0, .int 1, .int 2]], .non, .tup [.int 1, .int 3, .int 0]]), some (.tup [.str "read"]), none] (.tup [.tup [.tup [.int 1, .int 1, .int 2], .tup [.int 0, .int 0, .int 2], .tup [.int 0, .int 1, .int 2]], .non, .tup [.int 0, .int 0, .int 1]]) (.nd (.nd .lf 79853412188674 [some (.obj 3), none, none, none, some (.tup [.tup [.tup [.int 1, .int 1, .int 2], .tup [.int 0, .int 0, .int 2], .tup [.int 0, .int 1, .int 2]], .non, .tup [.int 2, .int 4, .int 1]]), some (.tup [.str "begin", .int 2]), none] (.tup [.tup [.tup [.int 2, .int 1, .int 2], .tup [.int 1, .int 0, .int 2], .tup [.int 1, .int 1, .int 2]], .tup [.int 2, .int 0], .tup [.int 2, .int 5, .int 0]]) .lf) 80403935272976 [some (.obj 3), none, none, none, some (.tup [.tup [.non, .tup [.int 1, .int 0, .int 2], .tup [.int 1, .int 1, .int 2]], .tup [.int 1, .int 0], .tup [.int 0, .int 1, .int 0]]), some (.tup [.str "put"]), none] (.tup [.tup [.tup [.int 1, .int 0, .int 2], .tup [.int 1, .int 1, .int 2], .tup [.int 0, .int 0, .int 1]], .non, .tup [.int 2, .int 1, .int 0]]) .lf)) 80404075814936 [some (.obj 3), none, none, none, some (.tup [.tup [.tup [.int 2, .int 0, .int 1], .tup [.int 1, .int 0, .int 2], .tup [.int 1, .int 1, .int 2]], .tup [.int 2, .int 0], .tup [.int 0, .int 5, .int 0]]), some (.tup [.str "put"]), none] (.tup [.tup [.tup [.int 0, .int 0, .int 2], .tup [.int 1, .int 0, .int 2], .tup [.int 1, .int 1, .int 2]], .tup [.int 2, .int 1], .tup [.int 0, .int 5, .int 0]]) (.nd (.nd (.nd .lf 80404075946519 [some (.obj 3), none, none, none, some (.tup [.tup [.tup [.int 2, .int 0, .int 1], .tup [.int 1, .int 0, .int 2], .tup [.int 1, .int 1, .int 2]], .tup [.int 1, .int 0], .tup [.int 1, .int 5, .int 1]]), some (.tup [.str "read"]), none] (.tup [.tup [.tup [.int 2, .int 0, .int 1], .tup [.int 1, .int 0, .int 2], .tup [.int 1, .int 1, .int 2]], .tup [.int 1, .int 0], .tup [.int 0, .int 1, .int 0]]) .lf) 80404205961816 [some (.obj 3), none, none, none, some (.tup [.tup [.tup [.int 0, .int 0, .int 2], .tup [.int 1, .int 0, .int 2], .tup [.int 1, .int 1, .int 2]], .tup [.int 2, .int 1], .tup [.int 1, .int 4, .int 1]]), some (.tup [.str "put"]), none] (.tup [.tup [.tup [.int 1, .int 1, .int 2], .tup [.int 0, .int 0, .int 2], .tup [.int 0, .int 1, .int 2]], .non, .tup [.int 2, .int 4, .int 1]]) .lf) 80404206100575 [some (.obj 3), none, none, none, some (.tup [.tup [.tup [.int 0, .int 0, .int 2], .tup [.int 1, .int 0, .int 2], .tup [.int 1, .int 1, .int 2]], .tup [.int 2, .int 1], .tup [.int 2, .int 5, .int 0]]), some (.tup [.str "read"]), none] (.tup [.tup [.tup [.int 0, .int 0, .int 2], .tup [.int 1, .int 0, .int 2], .tup [.int 1, .int 1, .int 2]], .tup [.int 2, .int 1], .tup [.int 0, .int 1, .int 0]]) (.nd (.nd .lf 80404243554327 [some (.obj 3), none, none, none, some (.tup [.tup [.tup [.int 2, .int 1, .int 2], .tup [.int 1, .int 0, .int 2], .tup [.int 1, .int 1, .int 2]], .tup [.int 1, .int 0], .tup [.int 0, .int 1, .int 0]]), some (.tup [.str "read"]), none] (.tup [.tup [.tup [.int 2, .int 1, .int 2], .tup [.int 1, .int 0, .int 2], .tup [.int 1, .int 1, .int 2]], .tup [.int 1, .int 0], .tup [.int 0, .int 1, .int 0]]) .lf) 80404243587608 [some (.obj 3), none, none, none, some (.tup [.tup [.tup [.int 2, .int 1, .int 2], .tup [.int 1, .int 0, .int 2], .tup [.int 1, .int 1, .int 2]], .tup [.int 2, .int 0], .tup [.int 0, .int 5, .int 1]]), some (.tup [.str "put"]), none] (.tup [.tup [.tup [.int 0, .int 0, .int 2], .tup [.int 1, .int 0, .int 2], .tup [.int 1, .int 1, .int 2]], .tup [.int 2, .int 1], .tup [.int 0, .int 5, .int 1]]) .lf))))
def bt_reach_3 : Bt := (.nd (.nd (.nd (.nd (.nd .lf 35805135520263 [some (.obj 3), none, none, none, some (.tup [.tup [.tup [.int 2, .int 0, .int 1], .tup [.int 1, .int 0, .int 1], .tup [.int 0, .int 0, .int 1]], .non, .tup [.int 1, .int 2, .int 1]]), some (.tup [.str "read"]), none] (.tup [.tup [.tup [.int 2, .int 0, .int 1], .tup [.int 1, .int 0, .int 1], .tup [.int 0, .int 0, .int 1]], .non, .tup [.int 2, .int 1, .int 0]]) .lf) 35805135544321 [some (.obj 3), none, none, none, some (.tup [.tup [.tup [.int 2, .int 0, .int 1], .tup [.int 1, .int 0, .int 1], .tup [.int 0, .int 0, .int 1]], .non, .tup [.int 1, .int 5, .int 0]]), some (.tup [.str "begin", .int 1]), none] (.tup [.tup [.tup [.int 3, .int 0, .int 1], .tup [.int 2, .int 0, .int 1], .tup [.int 1, .int 0, .int 1]], .tup [.int 1, .int 0], .tup [.int 1, .int 5, .int 1]]) .lf) 35805303185410 [some (.obj 3), none, none, none, some (.tup [.tup [.tup [.int 2, .int 1, .int 2], .tup [.int 1, .int 0, .int 1], .tup [.int 0, .int 0, .int 1]], .non, .tup [.int 0, .int 5, .int 0]]), some (.tup [.str "begin", .int 2]), none] (.tup [.tup [.tup [.int 3, .int 1, .int 2], .tup [.int 2, .int 0, .int 1], .tup [.int 1, .int 0, .int 1]], .tup [.int 2, .int 0], .tup [.int 0, .int 5, .int 1]]) (.nd (.nd .lf 35805303316487 [some (.obj 3), none, none, none, some (.tup [.tup [.tup [.int 2, .int 1, .int 2], .tup [.int 1, .int 0, .int 1], .tup [.int 0, .int 0, .int 1]], .non, .tup [.int 1, .int 5, .int 0]]), some (.tup [.str "read"]), none] (.tup [.tup [.tup [.int 2, .int 1, .int 2], .tup [.int 1, .int 0, .int 1], .tup [.int 0, .int 0, .int 1]], .non, .tup [.int 0, .int 0, .int 1]]) .lf) 35805303316993 [some (.obj 3), none, none, none, some (.tup [.tup [.tup [.int 2, .int 1, .int 2], .tup [.int 1, .int 0, .int 1], .tup [.int 0, .int 0, .int 1]], .non, .tup [.int 1, .int 5, .int 1]]), some (.tup [.str "begin", .int 1]), none] (.tup [.tup [.tup [.int 3, .int 1, .int 2], .tup [.int 2, .int 0, .int 1], .tup [.int 1, .int 0, .int 1]], .tup [.int 1, .int 0], .tup [.int 1, .int 5, .int 0]]) .lf)) 35891166994434 [some (.obj 3), none, none, none, some (.tup [.tup [.tup [.int 1, .int 0, .int 2], .tup [.int 1, .int 1, .int 2], .tup [.int 0, .int 0, .int 1]], .non, .tup [.int 1, .int 3, .int 0]]), some (.tup [.str "begin", .int 2]), none] (.tup [.tup [.tup [.int 2, .int 0, .int 2], .tup [.int 2, .int 1, .int 2], .tup [.int 1, .int 0, .int 1]], .tup [.int 2, .int 0], .tup [.int 1, .int 4, .int 1]]) (.nd (.nd (.nd .lf 35891167125511 [some (.obj 3), none, none, none, some (.tup [.tup [.tup [.int 1, .int 0, .int 2], .tup [.int 1, .int 1, .int 2], .tup [.int 0, .int 0, .int 1]], .non, .tup [.int 2, .int 3, .int 0]]), some (.tup [.str "read"]), none] (.tup [.tup [.tup [.int 1, .int 0, .int 2], .tup [.int 1, .int 1, .int 2], .tup [.int 0, .int 0, .int 1]], .non, .tup [.int 0, .int 0, .int 1]]) .lf) 36355967197727 [some (.obj 3), none, none, none, some (.tup [.tup [.tup [.int 3, .int 0, .int 1], .tup [.int 2, .int 0, .int 1], .tup [.int 1, .int 0, .int 1]], .tup [.int 2, .int 0], .tup [.int 1, .int 5, .int 1]]), some (.tup [.str "read"]), none] (.tup [.tup [.tup [.int 3, .int 0, .int 1], .tup [.int 2, .int 0, .int 1], .tup [.int 1, .int 0, .int 1]], .tup [.int 2, .int 0], .tup [.int 0, .int 1, .int 0]]) .lf) 36356095107167 [some (.obj 3), none, none, none, some (.tup [.tup [.tup [.int 0, .int 0, .int 2], .tup [.int 2, .int 0, .int 1], .tup [.int 1, .int 0, .int 1]], .tup [.int 2, .int 1], .tup [.int 1, .int 3, .int 0]]), some (.tup [.str "read"]), none] (.tup [.tup [.tup [.int 0, .int 0, .int 2], .tup [.int 2, .int 0, .int 1], .tup [.int 1, .int 0, .int 1]], .tup [.int 2, .int 1], .tup [.int 2, .int 2, .int 1]]) (.nd .lf 36356134805535 [some (.obj 3), none, none, none, some (.tup [.tup [.tup [.int 3, .int 1, .int 2], .tup [.int 2, .int 0, .int 1], .tup [.int 1, .int 0, .int 1]], .tup [.int 2, .int 0], .tup [.int 0, .int 1, .int 0]]), some (.tup [.str "read"]), none] (.tup [.tup [.tup [.int 3, .int 1, .int 2], .tup [.int 2, .int 0, .int 1], .tup [.int 1, .int 0, .int 1]], .tup [.int 2, .int 0], .tup [.int 0, .int 1, .int 0]]) .lf))) 36356135076383 [some (.obj 3), none, none, none, some (.tup [.tup [.tup [.int 3, .int 1, .int 2], .tup [.int 2, .int 0, .int 1], .tup [.int 1, .int 0, .int 1]], .tup [.int 2, .int 0], .tup [.int 2, .int 2, .int 1]]), some (.tup [.str "read"]), none] (.tup [.tup [.tup [.int 3, .int 1, .int 2], .tup [.int 2, .int 0, .int 1], .tup [.int 1, .int 0, .int 1]], .tup [.int 2, .int 0], .tup [.int 0, .int 1, .int 0]]) (.nd (.nd (.nd (.nd .lf 36356135092759 [some (.obj 3), none, none, none, some (.tup [.tup [.tup [.int 3, .int 1, .int 2], .tup [.int 2, .int 0, .int 1], .tup [.int 1, .int 0, .int 1]], .tup [.int 1, .int 0], .tup [.int 2, .int 4, .int 1]]), some (.tup [.str "read"]), none] (.tup [.tup [.tup [.int 3, .int 1, .int 2], .tup [.int 2, .int 0, .int 1], .tup [.int 1, .int 0, .int 1]], .tup [.int 1, .int 0], .tup [.int 0, .int 1, .int 0]]) .lf) 36441994305624 [some (.obj 3), none, none, none, some (.tup [.tup [.tup [.int 0, .int 0, .int 2], .tup [.int 2, .int 1, .int 2], .tup [.int 1, .int 0, .int 1]], .tup [.int 2, .int 1], .tup [.int 0, .int 1, .int 0]]), some (.tup [.str "put"]), none] (.tup [.tup [.tup [.int 1, .int 0, .int 1], .tup [.int 0, .int 0, .int 2], .tup [.int 0, .int 1, .int 2]], .non, .tup [.int 1, .int 1, .int 0]]) .lf) 36441994338399 [some (.obj 3), none, none, none, some (.tup [.tup [.tup [.int 0, .int 0, .int 2], .tup [.int 2, .int 1, .int 2], .tup [.int 1, .int 0, .int 1]], .tup [.int 2, .int 1], .tup [.int 0, .int 5, .int 0]]), some (.tup [.str "read"]), none] (.tup [.tup [.tup [.int 0, .int 0, .int 2], .tup [.int 2, .int 1, .int 2], .tup [.int 1, .int 0, .int 1]], .tup [.int 2, .int 1], .tup [.int 2, .int 0, .int 1]]) (.nd (.nd .lf 36441994576472 [some (.obj 3), none, none, none, some (.tup [.tup [.tup [.int 0, .int 0, .int 2], .tup [.int 2, .int 1, .int 2], .tup [.int 1, .int 0, .int 1]], .tup [.int 2, .int 1], .tup [.int 2, .int 2, .int 1]]), some (.tup [.str "put"]), none] (.tup [.tup [.tup [.int 1, .int 0, .int 1], .tup [.int 0, .int 0, .int 2], .tup [.int 0, .int 1, .int 2]], .non, .tup [.int 0, .int 2, .int 1]]) .lf) 36441998664216 [some (.obj 3), none, none, none, some (.tup [.tup [.tup [.int 2, .int 0, .int 2], .tup [.int 2, .int 1, .int 2], .tup [.int 1, .int 0, .int 1]], .tup [.int 2, .int 0], .tup [.int 1, .int 5, .int 1]]), some (.tup [.str "put"]), none] (.tup [.tup [.tup [.int 0, .int 0, .int 2], .tup [.int 2, .int 1, .int 2], .tup [.int 1, .int 0, .int 1]], .tup [.int 2, .int 1], .tup [.int 1, .int 5, .int 1]]) .lf)) 79853244276738 [some (.obj 3), none, none, none, some (.tup [.tup [.tup [.int 1, .int 0, .int 1], .tup [.int 0, .int 0, .int 2], .tup [.int 0, .int 1, .int 2]], .non, .tup [.int 1, .int 3, .int 0]]), some (.tup [.str "begin", .int 2]), none] (.tup [.tup [.tup [.int 2, .int 0, .int 1], .tup [.int 1, .int 0, .int 2], .tup [.int 1, .int 1, .int 2]], .tup [.int 2, .int 0], .tup [.int 1, .int 4, .int 1]]) (.nd (.nd (.nd .lf 79853244407815 [some (.obj 3), none, none, none, some (.tup [.tup [.tup [.int 1, .int 0, .int 1], .tup [.int 0, .int 0, .int 2], .tup [.int 0, .int 1, .int 2]], .non, .tup [.int 2, .int 3, .int 0]]), some (.tup [.str "read"]), none] (.tup [.tup [.tup [.int 1, .int 0, .int 1], .tup [.int 0, .int 0, .int 2], .tup [.int 0, .int 1, .int 2]], .non, .tup [.int 0, .int 0, .int 1]]) .lf) 80404075946520 [some (.obj 3), none, none, none, some (.tup [.tup [.tup [.int 2, .int 0, .int 1], .tup [.int 1, .int 0, .int 2], .tup [.int 1, .int 1, .int 2]], .tup [.int 2, .int 0], .tup [.int 1, .int 5, .int 1]]), some (.tup [.str "put"]), none] (.tup [.tup [.tup [.int 0, .int 0, .int 2], .tup [.int 1, .int 0, .int 2], .tup [.int 1, .int 1, .int 2]], .tup [.int 2, .int 1], .tup [.int 1, .int 5, .int 1]]) .lf) 80404243554328 [some (.obj 3), none, none, none, some (.tup [.tup [.tup [.int 2, .int 1, .int 2], .tup [.int 1, .int 0, .int 2], .tup [.int 1, .int 1, .int 2]], .tup [.int 2, .int 0], .tup [.int 0, .int 1, .int 0]]), some (.tup [.str "put"]), none] (.tup [.tup [.tup [.int 0, .int 0, .int 2], .tup [.int 1, .int 0, .int 2], .tup [.int 1, .int 1, .int 2]], .tup [.int 2, .int 1], .tup [.int 0, .int 1, .int 0]]) (.nd .lf 80404243587103 [some (.obj 3), none, none, none, some (.tup [.tup [.tup [.int 2, .int 1, .int 2], .tup [.int 1, .int 0, .int 2], .tup [.int 1, .int 1, .int 2]], .tup [.int 2, .int 0], .tup [.int 0, .int 5, .int 0]]), some (.tup [.str "read"]), none] (.tup [.tup [.tup [.int 2, .int 1, .int 2], .tup [.int 1, .int 0, .int 2], .tup [.int 1, .int 1, .int 2]], .tup [.int 2, .int 0], .tup [.int 0, .int 1, .int 0]]) .lf))))
def bt_reach_4 : Bt := (.nd (.nd (.nd (.nd (.nd .lf 8215 [some (.obj 3), none, none, none, some (.tup [.tup [.non, .non, .non], .tup [.int 1, .int 0], .tup [.int 0, .int 1, .int 0]]), some (.tup [.str "read"]), none] (.tup [.tup [.non, .non, .non], .tup [.int 1, .int 0], .tup [.int 0, .int 1, .int 0]]) .lf) 35734127903233 [some (.obj 3), none, none, none, some (.tup [.tup [.non, .non, .tup [.int 0, .int 0, .int 1]], .non, .tup [.int 0, .int 0, .int 1]]), some (.tup [.str "begin", .int 1]), none] (.tup [.tup [.non, .non, .tup [.int 1, .int 0, .int 1]], .tup [.int 1, .int 0], .tup [.int 0, .int 1, .int 0]]) (.nd .lf 35804995011079 [some (.obj 3), none, none, none, some (.tup [.tup [.non, .tup [.int 1, .int 0, .int 1], .tup [.int 0, .int 0, .int 1]], .non, .tup [.int 1, .int 2, .int 1]]), some (.tup [.str "read"]), none] (.tup [.tup [.non, .tup [.int 1, .int 0, .int 1], .tup [.int 0, .int 0, .int 1]], .non, .tup [.int 2, .int 1, .int 0]]) .lf)) 35805135544322 [some (.obj 3), none, none, none, some (.tup [.tup [.tup [.int 2, .int 0, .int 1], .tup [.int 1, .int 0, .int 1], .tup [.int 0, .int 0, .int 1]], .non, .tup [.int 1, .int 5, .int 0]]), some (.tup [.str "begin", .int 2]), none] (.tup [.tup [.tup [.int 3, .int 0, .int 1], .tup [.int 2, .int 0, .int 1], .tup [.int 1, .int 0, .int 1]], .tup [.int 2, .int 0], .tup [.int 1, .int 5, .int 1]]) (.nd (.nd .lf 35805135675399 [some (.obj 3), none, none, none, some (.tup [.tup [.tup [.int 2, .int 0, .int 1], .tup [.int 1, .int 0, .int 1], .tup [.int 0, .int 0, .int 1]], .non, .tup [.int 2, .int 5, .int 0]]), some (.tup [.str "read"]), none] (.tup [.tup [.tup [.int 2, .int 0, .int 1], .tup [.int 1, .int 0, .int 1], .tup [.int 0, .int 0, .int 1]], .non, .tup [.int 0, .int 0, .int 1]]) .lf) 35805135675905 [some (.obj 3), none, none, none, some (.tup [.tup [.tup [.int 2, .int 0, .int 1], .tup [.int 1, .int 0, .int 1], .tup [.int 0, .int 0, .int 1]], .non, .tup [.int 2, .int 5, .int 1]]), some (.tup [.str "begin", .int 1]), none] (.tup [.tup [.tup [.int 3, .int 0, .int 1], .tup [.int 2, .int 0, .int 1], .tup [.int 1, .int 0, .int 1]], .tup [.int 1, .int 0], .tup [.int 2, .int 5, .int 0]]) .lf)) 35805303177729 [some (.obj 3), none, none, none, some (.tup [.tup [.tup [.int 2, .int 1, .int 2], .tup [.int 1, .int 0, .int 1], .tup [.int 0, .int 0, .int 1]], .non, .tup [.int 0, .int 4, .int 1]]), some (.tup [.str "begin", .int 1]), none] (.tup [.tup [.tup [.int 3, .int 1, .int 2], .tup [.int 2, .int 0, .int 1], .tup [.int 1, .int 0, .int 1]], .tup [.int 1, .int 0], .tup [.int 0, .int 5, .int 0]]) (.nd (.nd (.nd .lf 35805303316994 [some (.obj 3), none, none, none, some (.tup [.tup [.tup [.int 2, .int 1, .int 2], .tup [.int 1, .int 0, .int 1], .tup [.int 0, .int 0, .int 1]], .non, .tup [.int 1, .int 5, .int 1]]), some (.tup [.str "begin", .int 2]), none] (.tup [.tup [.tup [.int 3, .int 1, .int 2], .tup [.int 2, .int 0, .int 1], .tup [.int 1, .int 0, .int 1]], .tup [.int 2, .int 0], .tup [.int 1, .int 5, .int 0]]) .lf) 35805303448071 [some (.obj 3), none, none, none, some (.tup [.tup [.tup [.int 2, .int 1, .int 2], .tup [.int 1, .int 0, .int 1], .tup [.int 0, .int 0, .int 1]], .non, .tup [.int 2, .int 5, .int 1]]), some (.tup [.str "read"]), none] (.tup [.tup [.tup [.int 2, .int 1, .int 2], .tup [.int 1, .int 0, .int 1], .tup [.int 0, .int 0, .int 1]], .non, .tup [.int 0, .int 0, .int 1]]) (.nd .lf 35891166880263 [some (.obj 3), none, none, none, some (.tup [.tup [.tup [.int 1, .int 0, .int 2], .tup [.int 1, .int 1, .int 2], .tup [.int 0, .int 0, .int 1]], .non, .tup [.int 0, .int 5, .int 1]]), some (.tup [.str "read"]), none] (.tup [.tup [.tup [.int 1, .int 0, .int 2], .tup [.int 1, .int 1, .int 2], .tup [.int 0, .int 0, .int 1]], .non, .tup [.int 2, .int 1, .int 0]]) .lf)) 36283883724831 [some (.obj 3), none, none, none, some (.tup [.tup [.non, .non, .tup [.int 1, .int 0, .int 1]], .tup [.int 2, .int 0], .tup [.int 0, .int 1, .int 0]]), some (.tup [.str "read"]), none] (.tup [.tup [.non, .non, .tup [.int 1, .int 0, .int 1]], .tup [.int 2, .int 0], .tup [.int 0, .int 1, .int 0]]) (.nd (.nd .lf 36283883995679 [some (.obj 3), none, none, none, some (.tup [.tup [.non, .non, .tup [.int 1, .int 0, .int 1]], .tup [.int 2, .int 0], .tup [.int 2, .int 2, .int 1]]), some (.tup [.str "read"]), none] (.tup [.tup [.non, .non, .tup [.int 1, .int 0, .int 1]], .tup [.int 2, .int 0], .tup [.int 0, .int 1, .int 0]]) .lf) 36355967058463 [some (.obj 3), none, none, none, some (.tup [.tup [.tup [.int 3, .int 0, .int 1], .tup [.int 2, .int 0, .int 1], .tup [.int 1, .int 0, .int 1]], .tup [.int 2, .int 0], .tup [.int 0, .int 4, .int 1]]), some (.tup [.str "read"]), none] (.tup [.tup [.tup [.int 3, .int 0, .int 1], .tup [.int 2, .int 0, .int 1], .tup [.int 1, .int 0, .int 1]], .tup [.int 2, .int 0], .tup [.int 1, .int 3, .int 0]]) .lf))) 36355967180823 [some (.obj 3), none, none, none, some (.tup [.tup [.tup [.int 3, .int 0, .int 1], .tup [.int 2, .int 0, .int 1], .tup [.int 1, .int 0, .int 1]], .tup [.int 1, .int 0], .tup [.int 1, .int 3, .int 0]]), some (.tup [.str "read"]), none] (.tup [.tup [.tup [.int 3, .int 0, .int 1], .tup [.int 2, .int 0, .int 1], .tup [.int 1, .int 0, .int 1]], .tup [.int 1, .int 0], .tup [.int 2, .int 2, .int 1]]) (.nd (.nd (.nd (.nd .lf 36356095123544 [some (.obj 3), none, none, none, some (.tup [.tup [.tup [.int 0, .int 0, .int 2], .tup [.int 2, .int 0, .int 1], .tup [.int 1, .int 0, .int 1]], .tup [.int 2, .int 1], .tup [.int 1, .int 5, .int 0]]), some (.tup [.str "put"]), none] (.tup [.tup [.tup [.int 1, .int 0, .int 1], .tup [.int 0, .int 0, .int 2], .tup [.int 0, .int 1, .int 2]], .non, .tup [.int 2, .int 5, .int 0]]) .lf) 36356134838288 [some (.obj 3), none, none, none, some (.tup [.tup [.tup [.int 3, .int 1, .int 2], .tup [.int 2, .int 0, .int 1], .tup [.int 1, .int 0, .int 1]], .tup [.int 1, .int 0], .tup [.int 0, .int 5, .int 0]]), some (.tup [.str "put"]), none] (.tup [.tup [.tup [.int 2, .int 0, .int 1], .tup [.int 1, .int 0, .int 1], .tup [.int 0, .int 0, .int 1]], .non, .tup [.int 2, .int 5, .int 0]]) (.nd .lf 36356135092760 [some (.obj 3), none, none, none, some (.tup [.tup [.tup [.int 3, .int 1, .int 2], .tup [.int 2, .int 0, .int 1], .tup [.int 1, .int 0, .int 1]], .tup [.int 2, .int 0], .tup [.int 2, .int 4, .int 1]]), some (.tup [.str "put"]), none] (.tup [.tup [.tup [.int 0, .int 0, .int 2], .tup [.int 2, .int 0, .int 1], .tup [.int 1, .int 0, .int 1]], .tup [.int 2, .int 1], .tup [.int 2, .int 4, .int 1]]) .lf)) 36441994469983 [some (.obj 3), none, none, none, some (.tup [.tup [.tup [.int 0, .int 0, .int 2], .tup [.int 2, .int 1, .int 2], .tup [.int 1, .int 0, .int 1]], .tup [.int 2, .int 1], .tup [.int 1, .int 5, .int 1]]), some (.tup [.str "read"]), none] (.tup [.tup [.tup [.int 0, .int 0, .int 2], .tup [.int 2, .int 1, .int 2], .tup [.int 1, .int 0, .int 1]], .tup [.int 2, .int 1], .tup [.int 0, .int 1, .int 0]]) (.nd (.nd .lf 36441998663711 [some (.obj 3), none, none, none, some (.tup [.tup [.tup [.int 2, .int 0, .int 2], .tup [.int 2, .int 1, .int 2], .tup [.int 1, .int 0, .int 1]], .tup [.int 2, .int 0], .tup [.int 1, .int 5, .int 0]]), some (.tup [.str "read"]), none] (.tup [.tup [.tup [.int 2, .int 0, .int 2], .tup [.int 2, .int 1, .int 2], .tup [.int 1, .int 0, .int 1]], .tup [.int 2, .int 0], .tup [.int 0, .int 1, .int 0]]) .lf) 79853244162567 [some (.obj 3), none, none, none, some (.tup [.tup [.tup [.int 1, .int 0, .int 1], .tup [.int 0, .int 0, .int 2], .tup [.int 0, .int 1, .int 2]], .non, .tup [.int 0, .int 5, .int 1]]), some (.tup [.str "read"]), none] (.tup [.tup [.tup [.int 1, .int 0, .int 1], .tup [.int 0, .int 0, .int 2], .tup [.int 0, .int 1, .int 2]], .non, .tup [.int 1, .int 1, .int 0]]) .lf)) 79853412065281 [some (.obj 3), none, none, none, some (.tup [.tup [.tup [.int 1, .int 1, .int 2], .tup [.int 0, .int 0, .int 2], .tup [.int 0, .int 1, .int 2]], .non, .tup [.int 1, .int 5, .int 0]]), some (.tup [.str "begin", .int 1]), none] (.tup [.tup [.tup [.int 2, .int 1, .int 2], .tup [.int 1, .int 0, .int 2], .tup [.int 1, .int 1, .int 2]], .tup [.int 1, .int 0], .tup [.int 1, .int 5, .int 1]]) (.nd (.nd (.nd .lf 80404075946015 [some (.obj 3), none, none, none, some (.tup [.tup [.tup [.int 2, .int 0, .int 1], .tup [.int 1, .int 0, .int 2], .tup [.int 1, .int 1, .int 2]], .tup [.int 2, .int 0], .tup [.int 1, .int 5, .int 0]]), some (.tup [.str "read"]), none] (.tup [.tup [.tup [.int 2, .int 0, .int 1], .tup [.int 1, .int 0, .int 2], .tup [.int 1, .int 1, .int 2]], .tup [.int 2, .int 0], .tup [.int 0, .int 1, .int 0]]) .lf) 80404205822047 [some (.obj 3), none, none, none, some (.tup [.tup [.tup [.int 0, .int 0, .int 2], .tup [.int 1, .int 0, .int 2], .tup [.int 1, .int 1, .int 2]], .tup [.int 2, .int 1], .tup [.int 0, .int 3, .int 0]]), some (.tup [.str "read"]), none] (.tup [.tup [.tup [.int 0, .int 0, .int 2], .tup [.int 1, .int 0, .int 2], .tup [.int 1, .int 1, .int 2]], .tup [.int 2, .int 1], .tup [.int 2, .int 0, .int 1]]) .lf) 80404206060120 [some (.obj 3), none, none, none, some (.tup [.tup [.tup [.int 0, .int 0, .int 2], .tup [.int 1, .int 0, .int 2], .tup [.int 1, .int 1, .int 2]], .tup [.int 2, .int 1], .tup [.int 2, .int 0, .int 1]]), some (.tup [.str "put"]), none] (.tup [.tup [.tup [.int 1, .int 1, .int 2], .tup [.int 0, .int 0, .int 2], .tup [.int 0, .int 1, .int 2]], .non, .tup [.int 0, .int 0, .int 1]]) (.nd (.nd .lf 80404206092895 [some (.obj 3), none, none, none, some (.tup [.tup [.tup [.int 0, .int 0, .int 2], .tup [.int 1, .int 0, .int 2], .tup [.int 1, .int 1, .int 2]], .tup [.int 2, .int 1], .tup [.int 2, .int 4, .int 1]]), some (.tup [.str "read"]), none] (.tup [.tup [.tup [.int 0, .int 0, .int 2], .tup [.int 1, .int 0, .int 2], .tup [.int 1, .int 1, .int 2]], .tup [.int 2, .int 1], .tup [.int 0, .int 1, .int 0]]) .lf) 80404243718687 [some (.obj 3), none, none, none, some (.tup [.tup [.tup [.int 2, .int 1, .int 2], .tup [.int 1, .int 0, .int 2], .tup [.int 1, .int 1, .int 2]], .tup [.int 2, .int 0], .tup [.int 1, .int 5, .int 1]]), some (.tup [.str "read"]), none] (.tup [.tup [.tup [.int 2, .int 1, .int 2], .tup [.int 1, .int 0, .int 2], .tup [.int 1, .int 1, .int 2]], .tup [.int 2, .int 0], .tup [.int 0, .int 1, .int 0]]) .lf))))
def bt_reach_5 : Bt := (.nd (.nd (.nd (.nd (.nd .lf 8216 [some (.obj 3), none, none, none, some (.tup [.tup [.non, .non, .non], .tup [.int 2, .int 0], .tup [.int 0, .int 1, .int 0]]), some (.tup [.str "put"]), none] (.tup [.tup [.tup [.int 0, .int 0, .int 2], .non, .non], .tup [.int 2, .int 1], .tup [.int 0, .int 1, .int 0]]) .lf) 35734127903234 [some (.obj 3), none, none, none, some (.tup [.tup [.non, .non, .tup [.int 0, .int 0, .int 1]], .non, .tup [.int 0, .int 0, .int 1]]), some (.tup [.str "begin", .int 2]), none] (.tup [.tup [.non, .non, .tup [.int 1, .int 0, .int 1]], .tup [.int 2, .int 0], .tup [.int 0, .int 1, .int 0]]) .lf) 35805135536641 [some (.obj 3), none, none, none, some (.tup [.tup [.tup [.int 2, .int 0, .int 1], .tup [.int 1, .int 0, .int 1], .tup [.int 0, .int 0, .int 1]], .non, .tup [.int 1, .int 4, .int 1]]), some (.tup [.str "begin", .int 1]), none] (.tup [.tup [.tup [.int 3, .int 0, .int 1], .tup [.int 2, .int 0, .int 1], .tup [.int 1, .int 0, .int 1]], .tup [.int 1, .int 0], .tup [.int 1, .int 5, .int 0]]) (.nd (.nd .lf 35805135642625 [some (.obj 3), none, none, none, some (.tup [.tup [.tup [.int 2, .int 0, .int 1], .tup [.int 1, .int 0, .int 1], .tup [.int 0, .int 0, .int 1]], .non, .tup [.int 2, .int 1, .int 0]]), some (.tup [.str "begin", .int 1]), none] (.tup [.tup [.tup [.int 3, .int 0, .int 1], .tup [.int 2, .int 0, .int 1], .tup [.int 1, .int 0, .int 1]], .tup [.int 1, .int 0], .tup [.int 2, .int 2, .int 1]]) .lf) 35805135675906 [some (.obj 3), none, none, none, some (.tup [.tup [.tup [.int 2, .int 0, .int 1], .tup [.int 1, .int 0, .int 1], .tup [.int 0, .int 0, .int 1]], .non, .tup [.int 2, .int 5, .int 1]]), some (.tup [.str "begin", .int 2]), none] (.tup [.tup [.tup [.int 3, .int 0, .int 1], .tup [.int 2, .int 0, .int 1], .tup [.int 1, .int 0, .int 1]], .tup [.int 2, .int 0], .tup [.int 2, .int 5, .int 0]]) .lf)) 35805303177730 [some (.obj 3), none, none, none, some (.tup [.tup [.tup [.int 2, .int 1, .int 2], .tup [.int 1, .int 0, .int 1], .tup [.int 0, .int 0, .int 1]], .non, .tup [.int 0, .int 4, .int 1]]), some (.tup [.str "begin", .int 2]), none] (.tup [.tup [.tup [.int 3, .int 1, .int 2], .tup [.int 2, .int 0, .int 1], .tup [.int 1, .int 0, .int 1]], .tup [.int 2, .int 0], .tup [.int 0, .int 5, .int 0]]) (.nd (.nd (.nd .lf 35805303308807 [some (.obj 3), none, none, none, some (.tup [.tup [.tup [.int 2, .int 1, .int 2], .tup [.int 1, .int 0, .int 1], .tup [.int 0, .int 0, .int 1]], .non, .tup [.int 1, .int 4, .int 1]]), some (.tup [.str "read"]), none] (.tup [.tup [.tup [.int 2, .int 1, .int 2], .tup [.int 1, .int 0, .int 1], .tup [.int 0, .int 0, .int 1]], .non, .tup [.int 2, .int 1, .int 0]]) .lf) 35805303414791 [some (.obj 3), none, none, none, some (.tup [.tup [.tup [.int 2, .int 1, .int 2], .tup [.int 1, .int 0, .int 1], .tup [.int 0, .int 0, .int 1]], .non, .tup [.int 2, .int 1, .int 0]]), some (.tup [.str "read"]), none] (.tup [.tup [.tup [.int 2, .int 1, .int 2], .tup [.int 1, .int 0, .int 1], .tup [.int 0, .int 0, .int 1]], .non, .tup [.int 0, .int 0, .int 1]]) .lf) 35891167141889 [some (.obj 3), none, none, none, some (.tup [.tup [.tup [.int 1, .int 0, .int 2], .tup [.int 1, .int 1, .int 2], .tup [.int 0, .int 0, .int 1]], .non, .tup [.int 2, .int 5, .int 0]]), some (.tup [.str "begin", .int 1]), none] (.tup [.tup [.tup [.int 2, .int 0, .int 2], .tup [.int 2, .int 1, .int 2], .tup [.int 1, .int 0, .int 1]], .tup [.int 1, .int 0], .tup [.int 2, .int 5, .int 1]]) (.nd .lf 36355967180824 [some (.obj 3), none, none, none, some (.tup [.tup [.tup [.int 3, .int 0, .int 1], .tup [.int 2, .int 0, .int 1], .tup [.int 1, .int 0, .int 1]], .tup [.int 2, .int 0], .tup [.int 1, .int 3, .int 0]]), some (.tup [.str "put"]), none] (.tup [.tup [.tup [.int 0, .int 0, .int 2], .tup [.int 2, .int 0, .int 1], .tup [.int 1, .int 0, .int 1]], .tup [.int 2, .int 1], .tup [.int 1, .int 3, .int 0]]) .lf))) 36355967197200 [some (.obj 3), none, none, none, some (.tup [.tup [.tup [.int 3, .int 0, .int 1], .tup [.int 2, .int 0, .int 1], .tup [.int 1, .int 0, .int 1]], .tup [.int 1, .int 0], .tup [.int 1, .int 5, .int 0]]), some (.tup [.str "put"]), none] (.tup [.tup [.tup [.int 2, .int 0, .int 1], .tup [.int 1, .int 0, .int 1], .tup [.int 0, .int 0, .int 1]], .non, .tup [.int 0, .int 5, .int 0]]) (.nd (.nd (.nd (.nd .lf 36356095255128 [some (.obj 3), none, none, none, some (.tup [.tup [.tup [.int 0, .int 0, .int 2], .tup [.int 2, .int 0, .int 1], .tup [.int 1, .int 0, .int 1]], .tup [.int 2, .int 1], .tup [.int 2, .int 5, .int 1]]), some (.tup [.str "put"]), none] (.tup [.tup [.tup [.int 1, .int 0, .int 1], .tup [.int 0, .int 0, .int 2], .tup [.int 0, .int 1, .int 2]], .non, .tup [.int 0, .int 5, .int 1]]) .lf) 36356134969872 [some (.obj 3), none, none, none, some (.tup [.tup [.tup [.int 3, .int 1, .int 2], .tup [.int 2, .int 0, .int 1], .tup [.int 1, .int 0, .int 1]], .tup [.int 1, .int 0], .tup [.int 1, .int 5, .int 1]]), some (.tup [.str "put"]), none] (.tup [.tup [.tup [.int 2, .int 0, .int 1], .tup [.int 1, .int 0, .int 1], .tup [.int 0, .int 0, .int 1]], .non, .tup [.int 0, .int 5, .int 1]]) .lf) 36441998795295 [some (.obj 3), none, none, none, some (.tup [.tup [.tup [.int 2, .int 0, .int 2], .tup [.int 2, .int 1, .int 2], .tup [.int 1, .int 0, .int 1]], .tup [.int 2, .int 0], .tup [.int 2, .int 5, .int 1]]), some (.tup [.str "read"]), none] (.tup [.tup [.tup [.int 2, .int 0, .int 2], .tup [.int 2, .int 1, .int 2], .tup [.int 1, .int 0, .int 1]], .tup [.int 2, .int 0], .tup [.int 0, .int 1, .int 0]]) (.nd (.nd .lf 79853244424193 [some (.obj 3), none, none, none, some (.tup [.tup [.tup [.int 1, .int 0, .int 1], .tup [.int 0, .int 0, .int 2], .tup [.int 0, .int 1, .int 2]], .non, .tup [.int 2, .int 5, .int 0]]), some (.tup [.str "begin", .int 1]), none] (.tup [.tup [.tup [.int 2, .int 0, .int 1], .tup [.int 1, .int 0, .int 2], .tup [.int 1, .int 1, .int 2]], .tup [.int 1, .int 0], .tup [.int 2, .int 5, .int 1]]) .lf) 79853412065282 [some (.obj 3), none, none, none, some (.tup [.tup [.tup [.int 1, .int 1, .int 2], .tup [.int 0, .int 0, .int 2], .tup [.int 0, .int 1, .int 2]], .non, .tup [.int 1, .int 5, .int 0]]), some (.tup [.str "begin", .int 2]), none] (.tup [.tup [.tup [.int 2, .int 1, .int 2], .tup [.int 1, .int 0, .int 2], .tup [.int 1, .int 1, .int 2]], .tup [.int 2, .int 0], .tup [.int 1, .int 5, .int 1]]) .lf)) 79853412196359 [some (.obj 3), none, none, none, some (.tup [.tup [.tup [.int 1, .int 1, .int 2], .tup [.int 0, .int 0, .int 2], .tup [.int 0, .int 1, .int 2]], .non, .tup [.int 2, .int 5, .int 0]]), some (.tup [.str "read"]), none] (.tup [.tup [.tup [.int 1, .int 1, .int 2], .tup [.int 0, .int 0, .int 2], .tup [.int 0, .int 1, .int 2]], .non, .tup [.int 0, .int 0, .int 1]]) (.nd (.nd (.nd .lf 79853412196865 [some (.obj 3), none, none, none, some (.tup [.tup [.tup [.int 1, .int 1, .int 2], .tup [.int 0, .int 0, .int 2], .tup [.int 0, .int 1, .int 2]], .non, .tup [.int 2, .int 5, .int 1]]), some (.tup [.str "begin", .int 1]), none] (.tup [.tup [.tup [.int 2, .int 1, .int 2], .tup [.int 1, .int 0, .int 2], .tup [.int 1, .int 1, .int 2]], .tup [.int 1, .int 0], .tup [.int 2, .int 5, .int 0]]) .lf) 80404076077599 [some (.obj 3), none, none, none, some (.tup [.tup [.tup [.int 2, .int 0, .int 1], .tup [.int 1, .int 0, .int 2], .tup [.int 1, .int 1, .int 2]], .tup [.int 2, .int 0], .tup [.int 2, .int 5, .int 1]]), some (.tup [.str "read"]), none] (.tup [.tup [.tup [.int 2, .int 0, .int 1], .tup [.int 1, .int 0, .int 2], .tup [.int 1, .int 1, .int 2]], .tup [.int 2, .int 0], .tup [.int 0, .int 1, .int 0]]) .lf) 80404205838424 [some (.obj 3), none, none, none, some (.tup [.tup [.tup [.int 0, .int 0, .int 2], .tup [.int 1, .int 0, .int 2], .tup [.int 1, .int 1, .int 2]], .tup [.int 2, .int 1], .tup [.int 0, .int 5, .int 0]]), some (.tup [.str "put"]), none] (.tup [.tup [.tup [.int 1, .int 1, .int 2], .tup [.int 0, .int 0, .int 2], .tup [.int 0, .int 1, .int 2]], .non, .tup [.int 1, .int 5, .int 0]]) (.nd .lf 80404243579423 [some (.obj 3), none, none, none, some (.tup [.tup [.tup [.int 2, .int 1, .int 2], .tup [.int 1, .int 0, .int 2], .tup [.int 1, .int 1, .int 2]], .tup [.int 2, .int 0], .tup [.int 0, .int 4, .int 1]]), some (.tup [.str "read"]), none] (.tup [.tup [.tup [.int 2, .int 1, .int 2], .tup [.int 1, .int 0, .int 2], .tup [.int 1, .int 1, .int 2]], .tup [.int 2, .int 0], .tup [.int 0, .int 1, .int 0]]) .lf))))
def bt_reach_6 : Bt := (.nd (.nd (.nd (.nd (.nd .lf 270795359 [some (.obj 3), none, none, none, some (.tup [.tup [.tup [.int 0, .int 0, .int 2], .non, .non], .tup [.int 2, .int 1], .tup [.int 2, .int 0, .int 1]]), some (.tup [.str "read"]), none] (.tup [.tup [.tup [.int 0, .int 0, .int 2], .non, .non], .tup [.int 2, .int 1], .tup [.int 2, .int 0, .int 1]]) .lf) 35804995133441 [some (.obj 3), none, none, none, some (.tup [.tup [.non, .tup [.int 1, .int 0, .int 1], .tup [.int 0, .int 0, .int 1]], .non, .tup [.int 2, .int 1, .int 0]]), some (.tup [.str "begin", .int 1]), none] (.tup [.tup [.non, .tup [.int 2, .int 0, .int 1], .tup [.int 1, .int 0, .int 1]], .tup [.int 1, .int 0], .tup [.int 2, .int 2, .int 1]]) .lf) 35805135396871 [some (.obj 3), none, none, none, some (.tup [.tup [.tup [.int 2, .int 0, .int 1], .tup [.int 1, .int 0, .int 1], .tup [.int 0, .int 0, .int 1]], .non, .tup [.int 0, .int 3, .int 0]]), some (.tup [.str "read"]), none] (.tup [.tup [.tup [.int 2, .int 0, .int 1], .tup [.int 1, .int 0, .int 1], .tup [.int 0, .int 0, .int 1]], .non, .tup [.int 1, .int 2, .int 1]]) (.nd (.nd .lf 35805135536642 [some (.obj 3), none, none, none, some (.tup [.tup [.tup [.int 2, .int 0, .int 1], .tup [.int 1, .int 0, .int 1], .tup [.int 0, .int 0, .int 1]], .non, .tup [.int 1, .int 4, .int 1]]), some (.tup [.str "begin", .int 2]), none] (.tup [.tup [.tup [.int 3, .int 0, .int 1], .tup [.int 2, .int 0, .int 1], .tup [.int 1, .int 0, .int 1]], .tup [.int 2, .int 0], .tup [.int 1, .int 5, .int 0]]) .lf) 35805135642626 [some (.obj 3), none, none, none, some (.tup [.tup [.tup [.int 2, .int 0, .int 1], .tup [.int 1, .int 0, .int 1], .tup [.int 0, .int 0, .int 1]], .non, .tup [.int 2, .int 1, .int 0]]), some (.tup [.str "begin", .int 2]), none] (.tup [.tup [.tup [.int 3, .int 0, .int 1], .tup [.int 2, .int 0, .int 1], .tup [.int 1, .int 0, .int 1]], .tup [.int 2, .int 0], .tup [.int 2, .int 2, .int 1]]) .lf)) 35805135667719 [some (.obj 3), none, none, none, some (.tup [.tup [.tup [.int 2, .int 0, .int 1], .tup [.int 1, .int 0, .int 1], .tup [.int 0, .int 0, .int 1]], .non, .tup [.int 2, .int 4, .int 1]]), some (.tup [.str "read"]), none] (.tup [.tup [.tup [.int 2, .int 0, .int 1], .tup [.int 1, .int 0, .int 1], .tup [.int 0, .int 0, .int 1]], .non, .tup [.int 0, .int 0, .int 1]]) (.nd (.nd (.nd .lf 35891167141890 [some (.obj 3), none, none, none, some (.tup [.tup [.tup [.int 1, .int 0, .int 2], .tup [.int 1, .int 1, .int 2], .tup [.int 0, .int 0, .int 1]], .non, .tup [.int 2, .int 5, .int 0]]), some (.tup [.str "begin", .int 2]), none] (.tup [.tup [.tup [.int 2, .int 0, .int 2], .tup [.int 2, .int 1, .int 2], .tup [.int 1, .int 0, .int 1]], .tup [.int 2, .int 0], .tup [.int 2, .int 5, .int 1]]) .lf) 36284154257503 [some (.obj 3), none, none, none, some (.tup [.tup [.tup [.int 0, .int 0, .int 2], .non, .tup [.int 1, .int 0, .int 1]], .tup [.int 2, .int 1], .tup [.int 0, .int 1, .int 0]]), some (.tup [.str "read"]), none] (.tup [.tup [.tup [.int 0, .int 0, .int 2], .non, .tup [.int 1, .int 0, .int 1]], .tup [.int 2, .int 1], .tup [.int 2, .int 0, .int 1]]) .lf) 36284154528351 [some (.obj 3), none, none, none, some (.tup [.tup [.tup [.int 0, .int 0, .int 2], .non, .tup [.int 1, .int 0, .int 1]], .tup [.int 2, .int 1], .tup [.int 2, .int 2, .int 1]]), some (.tup [.str "read"]), none] (.tup [.tup [.tup [.int 0, .int 0, .int 2], .non, .tup [.int 1, .int 0, .int 1]], .tup [.int 2, .int 1], .tup [.int 0, .int 1, .int 0]]) (.nd (.nd .lf 36355824427024 [some (.obj 3), none, none, none, some (.tup [.tup [.non, .tup [.int 2, .int 0, .int 1], .tup [.int 1, .int 0, .int 1]], .tup [.int 1, .int 0], .tup [.int 0, .int 1, .int 0]]), some (.tup [.str "put"]), none] (.tup [.tup [.tup [.int 2, .int 0, .int 1], .tup [.int 1, .int 0, .int 1], .tup [.int 0, .int 0, .int 1]], .non, .tup [.int 2, .int 1, .int 0]]) .lf) 36355824697872 [some (.obj 3), none, none, none, some (.tup [.tup [.non, .tup [.int 2, .int 0, .int 1], .tup [.int 1, .int 0, .int 1]], .tup [.int 1, .int 0], .tup [.int 2, .int 2, .int 1]]), some (.tup [.str "put"]), none] (.tup [.tup [.tup [.int 2, .int 0, .int 1], .tup [.int 1, .int 0, .int 1], .tup [.int 0, .int 0, .int 1]], .non, .tup [.int 1, .int 2, .int 1]]) .lf))) 36355967328784 [some (.obj 3), none, none, none, some (.tup [.tup [.tup [.int 3, .int 0, .int 1], .tup [.int 2, .int 0, .int 1], .tup [.int 1, .int 0, .int 1]], .tup [.int 1, .int 0], .tup [.int 2, .int 5, .int 1]]), some (.tup [.str "put"]), none] (.tup [.tup [.tup [.int 2, .int 0, .int 1], .tup [.int 1, .int 0, .int 1], .tup [.int 0, .int 0, .int 1]], .non, .tup [.int 1, .int 5, .int 1]]) (.nd (.nd (.nd (.nd .lf 36356095254623 [some (.obj 3), none, none, none, some (.tup [.tup [.tup [.int 0, .int 0, .int 2], .tup [.int 2, .int 0, .int 1], .tup [.int 1, .int 0, .int 1]], .tup [.int 2, .int 1], .tup [.int 2, .int 5, .int 0]]), some (.tup [.str "read"]), none] (.tup [.tup [.tup [.int 0, .int 0, .int 2], .tup [.int 2, .int 0, .int 1], .tup [.int 1, .int 0, .int 1]], .tup [.int 2, .int 1], .tup [.int 0, .int 1, .int 0]]) .lf) 36356134952991 [some (.obj 3), none, none, none, some (.tup [.tup [.tup [.int 3, .int 1, .int 2], .tup [.int 2, .int 0, .int 1], .tup [.int 1, .int 0, .int 1]], .tup [.int 2, .int 0], .tup [.int 1, .int 3, .int 0]]), some (.tup [.str "read"]), none] (.tup [.tup [.tup [.int 3, .int 1, .int 2], .tup [.int 2, .int 0, .int 1], .tup [.int 1, .int 0, .int 1]], .tup [.int 2, .int 0], .tup [.int 2, .int 2, .int 1]]) .lf) 36356134969367 [some (.obj 3), none, none, none, some (.tup [.tup [.tup [.int 3, .int 1, .int 2], .tup [.int 2, .int 0, .int 1], .tup [.int 1, .int 0, .int 1]], .tup [.int 1, .int 0], .tup [.int 1, .int 5, .int 0]]), some (.tup [.str "read"]), none] (.tup [.tup [.tup [.int 3, .int 1, .int 2], .tup [.int 2, .int 0, .int 1], .tup [.int 1, .int 0, .int 1]], .tup [.int 1, .int 0], .tup [.int 2, .int 2, .int 1]]) (.nd (.nd .lf 36441998656031 [some (.obj 3), none, none, none, some (.tup [.tup [.tup [.int 2, .int 0, .int 2], .tup [.int 2, .int 1, .int 2], .tup [.int 1, .int 0, .int 1]], .tup [.int 2, .int 0], .tup [.int 1, .int 4, .int 1]]), some (.tup [.str "read"]), none] (.tup [.tup [.tup [.int 2, .int 0, .int 2], .tup [.int 2, .int 1, .int 2], .tup [.int 1, .int 0, .int 1]], .tup [.int 2, .int 0], .tup [.int 0, .int 1, .int 0]]) .lf) 79853244424194 [some (.obj 3), none, none, none, some (.tup [.tup [.tup [.int 1, .int 0, .int 1], .tup [.int 0, .int 0, .int 2], .tup [.int 0, .int 1, .int 2]], .non, .tup [.int 2, .int 5, .int 0]]), some (.tup [.str "begin", .int 2]), none] (.tup [.tup [.tup [.int 2, .int 0, .int 1], .tup [.int 1, .int 0, .int 2], .tup [.int 1, .int 1, .int 2]], .tup [.int 2, .int 0], .tup [.int 2, .int 5, .int 1]]) .lf)) 79853412057601 [some (.obj 3), none, none, none, some (.tup [.tup [.tup [.int 1, .int 1, .int 2], .tup [.int 0, .int 0, .int 2], .tup [.int 0, .int 1, .int 2]], .non, .tup [.int 1, .int 4, .int 1]]), some (.tup [.str "begin", .int 1]), none] (.tup [.tup [.tup [.int 2, .int 1, .int 2], .tup [.int 1, .int 0, .int 2], .tup [.int 1, .int 1, .int 2]], .tup [.int 1, .int 0], .tup [.int 1, .int 5, .int 0]]) (.nd (.nd (.nd .lf 79853412196866 [some (.obj 3), none, none, none, some (.tup [.tup [.tup [.int 1, .int 1, .int 2], .tup [.int 0, .int 0, .int 2], .tup [.int 0, .int 1, .int 2]], .non, .tup [.int 2, .int 5, .int 1]]), some (.tup [.str "begin", .int 2]), none] (.tup [.tup [.tup [.int 2, .int 1, .int 2], .tup [.int 1, .int 0, .int 2], .tup [.int 1, .int 1, .int 2]], .tup [.int 2, .int 0], .tup [.int 2, .int 5, .int 0]]) .lf) 80404075921936 [some (.obj 3), none, none, none, some (.tup [.tup [.tup [.int 2, .int 0, .int 1], .tup [.int 1, .int 0, .int 2], .tup [.int 1, .int 1, .int 2]], .tup [.int 1, .int 0], .tup [.int 1, .int 2, .int 1]]), some (.tup [.str "put"]), none] (.tup [.tup [.tup [.int 1, .int 0, .int 2], .tup [.int 1, .int 1, .int 2], .tup [.int 0, .int 0, .int 1]], .non, .tup [.int 0, .int 2, .int 1]]) .lf) 80404075938335 [some (.obj 3), none, none, none, some (.tup [.tup [.tup [.int 2, .int 0, .int 1], .tup [.int 1, .int 0, .int 2], .tup [.int 1, .int 1, .int 2]], .tup [.int 2, .int 0], .tup [.int 1, .int 4, .int 1]]), some (.tup [.str "read"]), none] (.tup [.tup [.tup [.int 2, .int 0, .int 1], .tup [.int 1, .int 0, .int 2], .tup [.int 1, .int 1, .int 2]], .tup [.int 2, .int 0], .tup [.int 0, .int 1, .int 0]]) (.nd (.nd .lf 80404205970008 [some (.obj 3), none, none, none, some (.tup [.tup [.tup [.int 0, .int 0, .int 2], .tup [.int 1, .int 0, .int 2], .tup [.int 1, .int 1, .int 2]], .tup [.int 2, .int 1], .tup [.int 1, .int 5, .int 1]]), some (.tup [.str "put"]), none] (.tup [.tup [.tup [.int 1, .int 1, .int 2], .tup [.int 0, .int 0, .int 2], .tup [.int 0, .int 1, .int 2]], .non, .tup [.int 2, .int 5, .int 1]]) .lf) 80404243718160 [some (.obj 3), none, none, none, some (.tup [.tup [.tup [.int 2, .int 1, .int 2], .tup [.int 1, .int 0, .int 2], .tup [.int 1, .int 1, .int 2]], .tup [.int 1, .int 0], .tup [.int 1, .int 5, .int 0]]), some (.tup [.str "put"]), none] (.tup [.tup [.tup [.int 1, .int 0, .int 2], .tup [.int 1, .int 1, .int 2], .tup [.int 0, .int 0, .int 1]], .non, .tup [.int 0, .int 5, .int 0]]) .lf))))
def bt_reach_7 : Bt := (.nd (.nd (.nd (.nd (.nd .lf 513 [some (.obj 3), none, none, none, some (.tup [.tup [.non, .non, .non], .non, .tup [.int 0, .int 0, .int 1]]), some (.tup [.str "begin", .int 1]), none] (.tup [.tup [.non, .non, .non], .tup [.int 1, .int 0], .tup [.int 0, .int 1, .int 0]]) .lf) 270540888 [some (.obj 3), none, none, none, some (.tup [.tup [.tup [.int 0, .int 0, .int 2], .non, .non], .tup [.int 2, .int 1], .tup [.int 0, .int 1, .int 0]]), some (.tup [.str "put"]), none] (.tup [.tup [.non, .tup [.int 0, .int 0, .int 2], .tup [.int 0, .int 1, .int 2]], .non, .tup [.int 1, .int 1, .int 0]]) (.nd .lf 35804995133442 [some (.obj 3), none, none, none, some (.tup [.tup [.non, .tup [.int 1, .int 0, .int 1], .tup [.int 0, .int 0, .int 1]], .non, .tup [.int 2, .int 1, .int 0]]), some (.tup [.str "begin", .int 2]), none] (.tup [.tup [.non, .tup [.int 2, .int 0, .int 1], .tup [.int 1, .int 0, .int 1]], .tup [.int 2, .int 0], .tup [.int 2, .int 2, .int 1]]) .lf)) 35805303431169 [some (.obj 3), none, none, none, some (.tup [.tup [.tup [.int 2, .int 1, .int 2], .tup [.int 1, .int 0, .int 1], .tup [.int 0, .int 0, .int 1]], .non, .tup [.int 2, .int 3, .int 0]]), some (.tup [.str "begin", .int 1]), none] (.tup [.tup [.tup [.int 3, .int 1, .int 2], .tup [.int 2, .int 0, .int 1], .tup [.int 1, .int 0, .int 1]], .tup [.int 1, .int 0], .tup [.int 2, .int 4, .int 1]]) (.nd (.nd .lf 35891166839303 [some (.obj 3), none, none, none, some (.tup [.tup [.tup [.int 1, .int 0, .int 2], .tup [.int 1, .int 1, .int 2], .tup [.int 0, .int 0, .int 1]], .non, .tup [.int 0, .int 0, .int 1]]), some (.tup [.str "read"]), none] (.tup [.tup [.tup [.int 1, .int 0, .int 2], .tup [.int 1, .int 1, .int 2], .tup [.int 0, .int 0, .int 1]], .non, .tup [.int 2, .int 1, .int 0]]) .lf) 35891167134209 [some (.obj 3), none, none, none, some (.tup [.tup [.tup [.int 1, .int 0, .int 2], .tup [.int 1, .int 1, .int 2], .tup [.int 0, .int 0, .int 1]], .non, .tup [.int 2, .int 4, .int 1]]), some (.tup [.str "begin", .int 1]), none] (.tup [.tup [.tup [.int 2, .int 0, .int 2], .tup [.int 2, .int 1, .int 2], .tup [.int 1, .int 0, .int 1]], .tup [.int 1, .int 0], .tup [.int 2, .int 5, .int 0]]) .lf)) 36355967328279 [some (.obj 3), none, none, none, some (.tup [.tup [.tup [.int 3, .int 0, .int 1], .tup [.int 2, .int 0, .int 1], .tup [.int 1, .int 0, .int 1]], .tup [.int 1, .int 0], .tup [.int 2, .int 5, .int 0]]), some (.tup [.str "read"]), none] (.tup [.tup [.tup [.int 3, .int 0, .int 1], .tup [.int 2, .int 0, .int 1], .tup [.int 1, .int 0, .int 1]], .tup [.int 1, .int 0], .tup [.int 0, .int 1, .int 0]]) (.nd (.nd (.nd .lf 36356134969368 [some (.obj 3), none, none, none, some (.tup [.tup [.tup [.int 3, .int 1, .int 2], .tup [.int 2, .int 0, .int 1], .tup [.int 1, .int 0, .int 1]], .tup [.int 2, .int 0], .tup [.int 1, .int 5, .int 0]]), some (.tup [.str "put"]), none] (.tup [.tup [.tup [.int 0, .int 0, .int 2], .tup [.int 2, .int 0, .int 1], .tup [.int 1, .int 0, .int 1]], .tup [.int 2, .int 1], .tup [.int 1, .int 5, .int 0]]) .lf) 36356135100951 [some (.obj 3), none, none, none, some (.tup [.tup [.tup [.int 3, .int 1, .int 2], .tup [.int 2, .int 0, .int 1], .tup [.int 1, .int 0, .int 1]], .tup [.int 1, .int 0], .tup [.int 2, .int 5, .int 1]]), some (.tup [.str "read"]), none] (.tup [.tup [.tup [.int 3, .int 1, .int 2], .tup [.int 2, .int 0, .int 1], .tup [.int 1, .int 0, .int 1]], .tup [.int 1, .int 0], .tup [.int 0, .int 1, .int 0]]) .lf) 36441998533143 [some (.obj 3), none, none, none, some (.tup [.tup [.tup [.int 2, .int 0, .int 2], .tup [.int 2, .int 1, .int 2], .tup [.int 1, .int 0, .int 1]], .tup [.int 1, .int 0], .tup [.int 0, .int 5, .int 1]]), some (.tup [.str "read"]), none] (.tup [.tup [.tup [.int 2, .int 0, .int 2], .tup [.int 2, .int 1, .int 2], .tup [.int 1, .int 0, .int 1]], .tup [.int 1, .int 0], .tup [.int 0, .int 1, .int 0]]) (.nd (.nd .lf 36441998794768 [some (.obj 3), none, none, none, some (.tup [.tup [.tup [.int 2, .int 0, .int 2], .tup [.int 2, .int 1, .int 2], .tup [.int 1, .int 0, .int 1]], .tup [.int 1, .int 0], .tup [.int 2, .int 5, .int 0]]), some (.tup [.str "put"]), none] (.tup [.tup [.tup [.int 2, .int 1, .int 2], .tup [.int 1, .int 0, .int 1], .tup [.int 0, .int 0, .int 1]], .non, .tup [.int 1, .int 5, .int 0]]) .lf) 79853105848321 [some (.obj 3), none, none, none, some (.tup [.tup [.non, .tup [.int 0, .int 0, .int 2], .tup [.int 0, .int 1, .int 2]], .non, .tup [.int 1, .int 1, .int 0]]), some (.tup [.str "begin", .int 1]), none] (.tup [.tup [.non, .tup [.int 1, .int 0, .int 2], .tup [.int 1, .int 1, .int 2]], .tup [.int 1, .int 0], .tup [.int 1, .int 2, .int 1]]) .lf))) 79853244121607 [some (.obj 3), none, none, none, some (.tup [.tup [.tup [.int 1, .int 0, .int 1], .tup [.int 0, .int 0, .int 2], .tup [.int 0, .int 1, .int 2]], .non, .tup [.int 0, .int 0, .int 1]]), some (.tup [.str "read"]), none] (.tup [.tup [.tup [.int 1, .int 0, .int 1], .tup [.int 0, .int 0, .int 2], .tup [.int 0, .int 1, .int 2]], .non, .tup [.int 1, .int 1, .int 0]]) (.nd (.nd (.nd (.nd .lf 79853244416513 [some (.obj 3), none, none, none, some (.tup [.tup [.tup [.int 1, .int 0, .int 1], .tup [.int 0, .int 0, .int 2], .tup [.int 0, .int 1, .int 2]], .non, .tup [.int 2, .int 4, .int 1]]), some (.tup [.str "begin", .int 1]), none] (.tup [.tup [.tup [.int 2, .int 0, .int 1], .tup [.int 1, .int 0, .int 2], .tup [.int 1, .int 1, .int 2]], .tup [.int 1, .int 0], .tup [.int 2, .int 5, .int 0]]) .lf) 79853411917831 [some (.obj 3), none, none, none, some (.tup [.tup [.tup [.int 1, .int 1, .int 2], .tup [.int 0, .int 0, .int 2], .tup [.int 0, .int 1, .int 2]], .non, .tup [.int 0, .int 3, .int 0]]), some (.tup [.str "read"]), none] (.tup [.tup [.tup [.int 1, .int 1, .int 2], .tup [.int 0, .int 0, .int 2], .tup [.int 0, .int 1, .int 2]], .non, .tup [.int 0, .int 0, .int 1]]) .lf) 79853412057602 [some (.obj 3), none, none, none, some (.tup [.tup [.tup [.int 1, .int 1, .int 2], .tup [.int 0, .int 0, .int 2], .tup [.int 0, .int 1, .int 2]], .non, .tup [.int 1, .int 4, .int 1]]), some (.tup [.str "begin", .int 2]), none] (.tup [.tup [.tup [.int 2, .int 1, .int 2], .tup [.int 1, .int 0, .int 2], .tup [.int 1, .int 1, .int 2]], .tup [.int 2, .int 0], .tup [.int 1, .int 5, .int 0]]) (.nd (.nd .lf 79853412188679 [some (.obj 3), none, none, none, some (.tup [.tup [.tup [.int 1, .int 1, .int 2], .tup [.int 0, .int 0, .int 2], .tup [.int 0, .int 1, .int 2]], .non, .tup [.int 2, .int 4, .int 1]]), some (.tup [.str "read"]), none] (.tup [.tup [.tup [.int 1, .int 1, .int 2], .tup [.int 0, .int 0, .int 2], .tup [.int 0, .int 1, .int 2]], .non, .tup [.int 0, .int 0, .int 1]]) .lf) 80403935412752 [some (.obj 3), none, none, none, some (.tup [.tup [.non, .tup [.int 1, .int 0, .int 2], .tup [.int 1, .int 1, .int 2]], .tup [.int 1, .int 0], .tup [.int 1, .int 2, .int 1]]), some (.tup [.str "put"]), none] (.tup [.tup [.tup [.int 1, .int 0, .int 2], .tup [.int 1, .int 1, .int 2], .tup [.int 0, .int 0, .int 1]], .non, .tup [.int 0, .int 2, .int 1]]) .lf)) 80404075815447 [some (.obj 3), none, none, none, some (.tup [.tup [.tup [.int 2, .int 0, .int 1], .tup [.int 1, .int 0, .int 2], .tup [.int 1, .int 1, .int 2]], .tup [.int 1, .int 0], .tup [.int 0, .int 5, .int 1]]), some (.tup [.str "read"]), none] (.tup [.tup [.tup [.int 2, .int 0, .int 1], .tup [.int 1, .int 0, .int 2], .tup [.int 1, .int 1, .int 2]], .tup [.int 1, .int 0], .tup [.int 0, .int 1, .int 0]]) (.nd (.nd (.nd .lf 80404076077072 [some (.obj 3), none, none, none, some (.tup [.tup [.tup [.int 2, .int 0, .int 1], .tup [.int 1, .int 0, .int 2], .tup [.int 1, .int 1, .int 2]], .tup [.int 1, .int 0], .tup [.int 2, .int 5, .int 0]]), some (.tup [.str "put"]), none] (.tup [.tup [.tup [.int 1, .int 0, .int 2], .tup [.int 1, .int 1, .int 2], .tup [.int 0, .int 0, .int 1]], .non, .tup [.int 1, .int 5, .int 0]]) .lf) 80404205830744 [some (.obj 3), none, none, none, some (.tup [.tup [.tup [.int 0, .int 0, .int 2], .tup [.int 1, .int 0, .int 2], .tup [.int 1, .int 1, .int 2]], .tup [.int 2, .int 1], .tup [.int 0, .int 4, .int 1]]), some (.tup [.str "put"]), none] (.tup [.tup [.tup [.int 1, .int 1, .int 2], .tup [.int 0, .int 0, .int 2], .tup [.int 0, .int 1, .int 2]], .non, .tup [.int 1, .int 4, .int 1]]) .lf) 80404205969503 [some (.obj 3), none, none, none, some (.tup [.tup [.tup [.int 0, .int 0, .int 2], .tup [.int 1, .int 0, .int 2], .tup [.int 1, .int 1, .int 2]], .tup [.int 2, .int 1], .tup [.int 1, .int 5, .int 0]]), some (.tup [.str "read"]), none] (.tup [.tup [.tup [.int 0, .int 0, .int 2], .tup [.int 1, .int 0, .int 2], .tup [.int 1, .int 1, .int 2]], .tup [.int 2, .int 1], .tup [.int 0, .int 1, .int 0]]) (.nd (.nd .lf 80404243694103 [some (.obj 3), none, none, none, some (.tup [.tup [.tup [.int 2, .int 1, .int 2], .tup [.int 1, .int 0, .int 2], .tup [.int 1, .int 1, .int 2]], .tup [.int 1, .int 0], .tup [.int 1, .int 2, .int 1]]), some (.tup [.str "read"]), none] (.tup [.tup [.tup [.int 2, .int 1, .int 2], .tup [.int 1, .int 0, .int 2], .tup [.int 1, .int 1, .int 2]], .tup [.int 1, .int 0], .tup [.int 0, .int 1, .int 0]]) .lf) 80404243849744 [some (.obj 3), none, none, none, some (.tup [.tup [.tup [.int 2, .int 1, .int 2], .tup [.int 1, .int 0, .int 2], .tup [.int 1, .int 1, .int 2]], .tup [.int 1, .int 0], .tup [.int 2, .int 5, .int 1]]), some (.tup [.str "put"]), none] (.tup [.tup [.tup [.int 1, .int 0, .int 2], .tup [.int 1, .int 1, .int 2], .tup [.int 0, .int 0, .int 1]], .non, .tup [.int 1, .int 5, .int 1]]) .lf))))
def bt_reach_8 : Bt := (.nd (.nd (.nd (.nd (.nd .lf 514 [some (.obj 3), none, none, none, some (.tup [.tup [.non, .non, .non], .non, .tup [.int 0, .int 0, .int 1]]), some (.tup [.str "begin", .int 2]), none] (.tup [.tup [.non, .non, .non], .tup [.int 2, .int 0], .tup [.int 0, .int 1, .int 0]]) .lf) 35805135413249 [some (.obj 3), none, none, none, some (.tup [.tup [.tup [.int 2, .int 0, .int 1], .tup [.int 1, .int 0, .int 1], .tup [.int 0, .int 0, .int 1]], .non, .tup [.int 0, .int 5, .int 0]]), some (.tup [.str "begin", .int 1]), none] (.tup [.tup [.tup [.int 3, .int 0, .int 1], .tup [.int 2, .int 0, .int 1], .tup [.int 1, .int 0, .int 1]], .tup [.int 1, .int 0], .tup [.int 0, .int 5, .int 1]]) (.nd .lf 35805303185415 [some (.obj 3), none, none, none, some (.tup [.tup [.tup [.int 2, .int 1, .int 2], .tup [.int 1, .int 0, .int 1], .tup [.int 0, .int 0, .int 1]], .non, .tup [.int 0, .int 5, .int 0]]), some (.tup [.str "read"]), none] (.tup [.tup [.tup [.int 2, .int 1, .int 2], .tup [.int 1, .int 0, .int 1], .tup [.int 0, .int 0, .int 1]], .non, .tup [.int 0, .int 0, .int 1]]) .lf)) 35805303185921 [some (.obj 3), none, none, none, some (.tup [.tup [.tup [.int 2, .int 1, .int 2], .tup [.int 1, .int 0, .int 1], .tup [.int 0, .int 0, .int 1]], .non, .tup [.int 0, .int 5, .int 1]]), some (.tup [.str "begin", .int 1]), none] (.tup [.tup [.tup [.int 3, .int 1, .int 2], .tup [.int 2, .int 0, .int 1], .tup [.int 1, .int 0, .int 1]], .tup [.int 1, .int 0], .tup [.int 0, .int 5, .int 0]]) (.nd (.nd .lf 35805303431170 [some (.obj 3), none, none, none, some (.tup [.tup [.tup [.int 2, .int 1, .int 2], .tup [.int 1, .int 0, .int 1], .tup [.int 0, .int 0, .int 1]], .non, .tup [.int 2, .int 3, .int 0]]), some (.tup [.str "begin", .int 2]), none] (.tup [.tup [.tup [.int 3, .int 1, .int 2], .tup [.int 2, .int 0, .int 1], .tup [.int 1, .int 0, .int 1]], .tup [.int 2, .int 0], .tup [.int 2, .int 4, .int 1]]) .lf) 35891166994439 [some (.obj 3), none, none, none, some (.tup [.tup [.tup [.int 1, .int 0, .int 2], .tup [.int 1, .int 1, .int 2], .tup [.int 0, .int 0, .int 1]], .non, .tup [.int 1, .int 3, .int 0]]), some (.tup [.str "read"]), none] (.tup [.tup [.tup [.int 1, .int 0, .int 2], .tup [.int 1, .int 1, .int 2], .tup [.int 0, .int 0, .int 1]], .non, .tup [.int 0, .int 0, .int 1]]) .lf)) 35891167134210 [some (.obj 3), none, none, none, some (.tup [.tup [.tup [.int 1, .int 0, .int 2], .tup [.int 1, .int 1, .int 2], .tup [.int 0, .int 0, .int 1]], .non, .tup [.int 2, .int 4, .int 1]]), some (.tup [.str "begin", .int 2]), none] (.tup [.tup [.tup [.int 2, .int 0, .int 2], .tup [.int 2, .int 1, .int 2], .tup [.int 1, .int 0, .int 1]], .tup [.int 2, .int 0], .tup [.int 2, .int 5, .int 0]]) (.nd (.nd (.nd .lf 36355967066655 [some (.obj 3), none, none, none, some (.tup [.tup [.tup [.int 3, .int 0, .int 1], .tup [.int 2, .int 0, .int 1], .tup [.int 1, .int 0, .int 1]], .tup [.int 2, .int 0], .tup [.int 0, .int 5, .int 1]]), some (.tup [.str "read"]), none] (.tup [.tup [.tup [.int 3, .int 0, .int 1], .tup [.int 2, .int 0, .int 1], .tup [.int 1, .int 0, .int 1]], .tup [.int 2, .int 0], .tup [.int 1, .int 3, .int 0]]) .lf) 36355967328280 [some (.obj 3), none, none, none, some (.tup [.tup [.tup [.int 3, .int 0, .int 1], .tup [.int 2, .int 0, .int 1], .tup [.int 1, .int 0, .int 1]], .tup [.int 2, .int 0], .tup [.int 2, .int 5, .int 0]]), some (.tup [.str "put"]), none] (.tup [.tup [.tup [.int 0, .int 0, .int 2], .tup [.int 2, .int 0, .int 1], .tup [.int 1, .int 0, .int 1]], .tup [.int 2, .int 1], .tup [.int 2, .int 5, .int 0]]) .lf) 36356095214168 [some (.obj 3), none, none, none, some (.tup [.tup [.tup [.int 0, .int 0, .int 2], .tup [.int 2, .int 0, .int 1], .tup [.int 1, .int 0, .int 1]], .tup [.int 2, .int 1], .tup [.int 2, .int 0, .int 1]]), some (.tup [.str "put"]), none] (.tup [.tup [.tup [.int 1, .int 0, .int 1], .tup [.int 0, .int 0, .int 2], .tup [.int 0, .int 1, .int 2]], .non, .tup [.int 0, .int 0, .int 1]]) (.nd (.nd .lf 36356095246943 [some (.obj 3), none, none, none, some (.tup [.tup [.tup [.int 0, .int 0, .int 2], .tup [.int 2, .int 0, .int 1], .tup [.int 1, .int 0, .int 1]], .tup [.int 2, .int 1], .tup [.int 2, .int 4, .int 1]]), some (.tup [.str "read"]), none] (.tup [.tup [.tup [.int 0, .int 0, .int 2], .tup [.int 2, .int 0, .int 1], .tup [.int 1, .int 0, .int 1]], .tup [.int 2, .int 1], .tup [.int 0, .int 1, .int 0]]) .lf) 36356135100952 [some (.obj 3), none, none, none, some (.tup [.tup [.tup [.int 3, .int 1, .int 2], .tup [.int 2, .int 0, .int 1], .tup [.int 1, .int 0, .int 1]], .tup [.int 2, .int 0], .tup [.int 2, .int 5, .int 1]]), some (.tup [.str "put"]), none] (.tup [.tup [.tup [.int 0, .int 0, .int 2], .tup [.int 2, .int 0, .int 1], .tup [.int 1, .int 0, .int 1]], .tup [.int 2, .int 1], .tup [.int 2, .int 5, .int 1]]) .lf))) 36441998499863 [some (.obj 3), none, none, none, some (.tup [.tup [.tup [.int 2, .int 0, .int 2], .tup [.int 2, .int 1, .int 2], .tup [.int 1, .int 0, .int 1]], .tup [.int 1, .int 0], .tup [.int 0, .int 1, .int 0]]), some (.tup [.str "read"]), none] (.tup [.tup [.tup [.int 2, .int 0, .int 2], .tup [.int 2, .int 1, .int 2], .tup [.int 1, .int 0, .int 1]], .tup [.int 1, .int 0], .tup [.int 2, .int 2, .int 1]]) (.nd (.nd (.nd (.nd .lf 36441998533144 [some (.obj 3), none, none, none, some (.tup [.tup [.tup [.int 2, .int 0, .int 2], .tup [.int 2, .int 1, .int 2], .tup [.int 1, .int 0, .int 1]], .tup [.int 2, .int 0], .tup [.int 0, .int 5, .int 1]]), some (.tup [.str "put"]), none] (.tup [.tup [.tup [.int 0, .int 0, .int 2], .tup [.int 2, .int 1, .int 2], .tup [.int 1, .int 0, .int 1]], .tup [.int 2, .int 1], .tup [.int 0, .int 5, .int 1]]) .lf) 36441998770711 [some (.obj 3), none, none, none, some (.tup [.tup [.tup [.int 2, .int 0, .int 2], .tup [.int 2, .int 1, .int 2], .tup [.int 1, .int 0, .int 1]], .tup [.int 1, .int 0], .tup [.int 2, .int 2, .int 1]]), some (.tup [.str "read"]), none] (.tup [.tup [.tup [.int 2, .int 0, .int 2], .tup [.int 2, .int 1, .int 2], .tup [.int 1, .int 0, .int 1]], .tup [.int 1, .int 0], .tup [.int 0, .int 1, .int 0]]) (.nd .lf 79853105848322 [some (.obj 3), none, none, none, some (.tup [.tup [.non, .tup [.int 0, .int 0, .int 2], .tup [.int 0, .int 1, .int 2]], .non, .tup [.int 1, .int 1, .int 0]]), some (.tup [.str "begin", .int 2]), none] (.tup [.tup [.non, .tup [.int 1, .int 0, .int 2], .tup [.int 1, .int 1, .int 2]], .tup [.int 2, .int 0], .tup [.int 1, .int 2, .int 1]]) .lf)) 79853244276743 [some (.obj 3), none, none, none, some (.tup [.tup [.tup [.int 1, .int 0, .int 1], .tup [.int 0, .int 0, .int 2], .tup [.int 0, .int 1, .int 2]], .non, .tup [.int 1, .int 3, .int 0]]), some (.tup [.str "read"]), none] (.tup [.tup [.tup [.int 1, .int 0, .int 1], .tup [.int 0, .int 0, .int 2], .tup [.int 0, .int 1, .int 2]], .non, .tup [.int 0, .int 0, .int 1]]) (.nd (.nd .lf 79853244416514 [some (.obj 3), none, none, none, some (.tup [.tup [.tup [.int 1, .int 0, .int 1], .tup [.int 0, .int 0, .int 2], .tup [.int 0, .int 1, .int 2]], .non, .tup [.int 2, .int 4, .int 1]]), some (.tup [.str "begin", .int 2]), none] (.tup [.tup [.tup [.int 2, .int 0, .int 1], .tup [.int 1, .int 0, .int 2], .tup [.int 1, .int 1, .int 2]], .tup [.int 2, .int 0], .tup [.int 2, .int 5, .int 0]]) .lf) 80404075782167 [some (.obj 3), none, none, none, some (.tup [.tup [.tup [.int 2, .int 0, .int 1], .tup [.int 1, .int 0, .int 2], .tup [.int 1, .int 1, .int 2]], .tup [.int 1, .int 0], .tup [.int 0, .int 1, .int 0]]), some (.tup [.str "read"]), none] (.tup [.tup [.tup [.int 2, .int 0, .int 1], .tup [.int 1, .int 0, .int 2], .tup [.int 1, .int 1, .int 2]], .tup [.int 1, .int 0], .tup [.int 1, .int 2, .int 1]]) .lf)) 80404075815448 [some (.obj 3), none, none, none, some (.tup [.tup [.tup [.int 2, .int 0, .int 1], .tup [.int 1, .int 0, .int 2], .tup [.int 1, .int 1, .int 2]], .tup [.int 2, .int 0], .tup [.int 0, .int 5, .int 1]]), some (.tup [.str "put"]), none] (.tup [.tup [.tup [.int 0, .int 0, .int 2], .tup [.int 1, .int 0, .int 2], .tup [.int 1, .int 1, .int 2]], .tup [.int 2, .int 1], .tup [.int 0, .int 5, .int 1]]) (.nd (.nd (.nd .lf 80404206101087 [some (.obj 3), none, none, none, some (.tup [.tup [.tup [.int 0, .int 0, .int 2], .tup [.int 1, .int 0, .int 2], .tup [.int 1, .int 1, .int 2]], .tup [.int 2, .int 1], .tup [.int 2, .int 5, .int 1]]), some (.tup [.str "read"]), none] (.tup [.tup [.tup [.int 0, .int 0, .int 2], .tup [.int 1, .int 0, .int 2], .tup [.int 1, .int 1, .int 2]], .tup [.int 2, .int 1], .tup [.int 0, .int 1, .int 0]]) .lf) 80404243694104 [some (.obj 3), none, none, none, some (.tup [.tup [.tup [.int 2, .int 1, .int 2], .tup [.int 1, .int 0, .int 2], .tup [.int 1, .int 1, .int 2]], .tup [.int 2, .int 0], .tup [.int 1, .int 2, .int 1]]), some (.tup [.str "put"]), none] (.tup [.tup [.tup [.int 0, .int 0, .int 2], .tup [.int 1, .int 0, .int 2], .tup [.int 1, .int 1, .int 2]], .tup [.int 2, .int 1], .tup [.int 1, .int 2, .int 1]]) .lf) 80404243710480 [some (.obj 3), none, none, none, some (.tup [.tup [.tup [.int 2, .int 1, .int 2], .tup [.int 1, .int 0, .int 2], .tup [.int 1, .int 1, .int 2]], .tup [.int 1, .int 0], .tup [.int 1, .int 4, .int 1]]), some (.tup [.str "put"]), none] (.tup [.tup [.tup [.int 1, .int 0, .int 2], .tup [.int 1, .int 1, .int 2], .tup [.int 0, .int 0, .int 1]], .non, .tup [.int 0, .int 4, .int 1]]) (.nd (.nd .lf 80404243832863 [some (.obj 3), none, none, none, some (.tup [.tup [.tup [.int 2, .int 1, .int 2], .tup [.int 1, .int 0, .int 2], .tup [.int 1, .int 1, .int 2]], .tup [.int 2, .int 0], .tup [.int 2, .int 3, .int 0]]), some (.tup [.str "read"]), none] (.tup [.tup [.tup [.int 2, .int 1, .int 2], .tup [.int 1, .int 0, .int 2], .tup [.int 1, .int 1, .int 2]], .tup [.int 2, .int 0], .tup [.int 0, .int 1, .int 0]]) .lf) 80404243849239 [some (.obj 3), none, none, none, some (.tup [.tup [.tup [.int 2, .int 1, .int 2], .tup [.int 1, .int 0, .int 2], .tup [.int 1, .int 1, .int 2]], .tup [.int 1, .int 0], .tup [.int 2, .int 5, .int 0]]), some (.tup [.str "read"]), none] (.tup [.tup [.tup [.int 2, .int 1, .int 2], .tup [.int 1, .int 0, .int 2], .tup [.int 1, .int 1, .int 2]], .tup [.int 1, .int 0], .tup [.int 0, .int 1, .int 0]]) .lf))))
def bt_reach_9 : Bt := (.nd (.nd (.nd (.nd (.nd .lf 35805135413250 [some (.obj 3), none, none, none, some (.tup [.tup [.tup [.int 2, .int 0, .int 1], .tup [.int 1, .int 0, .int 1], .tup [.int 0, .int 0, .int 1]], .non, .tup [.int 0, .int 5, .int 0]]), some (.tup [.str "begin", .int 2]), none] (.tup [.tup [.tup [.int 3, .int 0, .int 1], .tup [.int 2, .int 0, .int 1], .tup [.int 1, .int 0, .int 1]], .tup [.int 2, .int 0], .tup [.int 0, .int 5, .int 1]]) .lf) 35805135544327 [some (.obj 3), none, none, none, some (.tup [.tup [.tup [.int 2, .int 0, .int 1], .tup [.int 1, .int 0, .int 1], .tup [.int 0, .int 0, .int 1]], .non, .tup [.int 1, .int 5, .int 0]]), some (.tup [.str "read"]), none] (.tup [.tup [.tup [.int 2, .int 0, .int 1], .tup [.int 1, .int 0, .int 1], .tup [.int 0, .int 0, .int 1]], .non, .tup [.int 0, .int 0, .int 1]]) (.nd .lf 35805135544833 [some (.obj 3), none, none, none, some (.tup [.tup [.tup [.int 2, .int 0, .int 1], .tup [.int 1, .int 0, .int 1], .tup [.int 0, .int 0, .int 1]], .non, .tup [.int 1, .int 5, .int 1]]), some (.tup [.str "begin", .int 1]), none] (.tup [.tup [.tup [.int 3, .int 0, .int 1], .tup [.int 2, .int 0, .int 1], .tup [.int 1, .int 0, .int 1]], .tup [.int 1, .int 0], .tup [.int 1, .int 5, .int 0]]) .lf)) 35805303185922 [some (.obj 3), none, none, none, some (.tup [.tup [.tup [.int 2, .int 1, .int 2], .tup [.int 1, .int 0, .int 1], .tup [.int 0, .int 0, .int 1]], .non, .tup [.int 0, .int 5, .int 1]]), some (.tup [.str "begin", .int 2]), none] (.tup [.tup [.tup [.int 3, .int 1, .int 2], .tup [.int 2, .int 0, .int 1], .tup [.int 1, .int 0, .int 1]], .tup [.int 2, .int 0], .tup [.int 0, .int 5, .int 0]]) (.nd (.nd .lf 35805303316999 [some (.obj 3), none, none, none, some (.tup [.tup [.tup [.int 2, .int 1, .int 2], .tup [.int 1, .int 0, .int 1], .tup [.int 0, .int 0, .int 1]], .non, .tup [.int 1, .int 5, .int 1]]), some (.tup [.str "read"]), none] (.tup [.tup [.tup [.int 2, .int 1, .int 2], .tup [.int 1, .int 0, .int 1], .tup [.int 0, .int 0, .int 1]], .non, .tup [.int 2, .int 1, .int 0]]) .lf) 35891166855681 [some (.obj 3), none, none, none, some (.tup [.tup [.tup [.int 1, .int 0, .int 2], .tup [.int 1, .int 1, .int 2], .tup [.int 0, .int 0, .int 1]], .non, .tup [.int 0, .int 2, .int 1]]), some (.tup [.str "begin", .int 1]), none] (.tup [.tup [.tup [.int 2, .int 0, .int 2], .tup [.int 2, .int 1, .int 2], .tup [.int 1, .int 0, .int 1]], .tup [.int 1, .int 0], .tup [.int 0, .int 3, .int 0]]) (.nd .lf 36355824574480 [some (.obj 3), none, none, none, some (.tup [.tup [.non, .tup [.int 2, .int 0, .int 1], .tup [.int 1, .int 0, .int 1]], .tup [.int 1, .int 0], .tup [.int 1, .int 3, .int 0]]), some (.tup [.str "put"]), none] (.tup [.tup [.tup [.int 2, .int 0, .int 1], .tup [.int 1, .int 0, .int 1], .tup [.int 0, .int 0, .int 1]], .non, .tup [.int 0, .int 3, .int 0]]) .lf))) 36355967033375 [some (.obj 3), none, none, none, some (.tup [.tup [.tup [.int 3, .int 0, .int 1], .tup [.int 2, .int 0, .int 1], .tup [.int 1, .int 0, .int 1]], .tup [.int 2, .int 0], .tup [.int 0, .int 1, .int 0]]), some (.tup [.str "read"]), none] (.tup [.tup [.tup [.int 3, .int 0, .int 1], .tup [.int 2, .int 0, .int 1], .tup [.int 1, .int 0, .int 1]], .tup [.int 2, .int 0], .tup [.int 0, .int 1, .int 0]]) (.nd (.nd (.nd .lf 36355967304223 [some (.obj 3), none, none, none, some (.tup [.tup [.tup [.int 3, .int 0, .int 1], .tup [.int 2, .int 0, .int 1], .tup [.int 1, .int 0, .int 1]], .tup [.int 2, .int 0], .tup [.int 2, .int 2, .int 1]]), some (.tup [.str "read"]), none] (.tup [.tup [.tup [.int 3, .int 0, .int 1], .tup [.int 2, .int 0, .int 1], .tup [.int 1, .int 0, .int 1]], .tup [.int 2, .int 0], .tup [.int 0, .int 1, .int 0]]) .lf) 36356094992472 [some (.obj 3), none, none, none, some (.tup [.tup [.tup [.int 0, .int 0, .int 2], .tup [.int 2, .int 0, .int 1], .tup [.int 1, .int 0, .int 1]], .tup [.int 2, .int 1], .tup [.int 0, .int 5, .int 0]]), some (.tup [.str "put"]), none] (.tup [.tup [.tup [.int 1, .int 0, .int 1], .tup [.int 0, .int 0, .int 2], .tup [.int 0, .int 1, .int 2]], .non, .tup [.int 1, .int 5, .int 0]]) (.nd .lf 36356135100447 [some (.obj 3), none, none, none, some (.tup [.tup [.tup [.int 3, .int 1, .int 2], .tup [.int 2, .int 0, .int 1], .tup [.int 1, .int 0, .int 1]], .tup [.int 2, .int 0], .tup [.int 2, .int 5, .int 0]]), some (.tup [.str "read"]), none] (.tup [.tup [.tup [.int 3, .int 1, .int 2], .tup [.int 2, .int 0, .int 1], .tup [.int 1, .int 0, .int 1]], .tup [.int 2, .int 0], .tup [.int 0, .int 1, .int 0]]) .lf)) 36441994338911 [some (.obj 3), none, none, none, some (.tup [.tup [.tup [.int 0, .int 0, .int 2], .tup [.int 2, .int 1, .int 2], .tup [.int 1, .int 0, .int 1]], .tup [.int 2, .int 1], .tup [.int 0, .int 5, .int 1]]), some (.tup [.str "read"]), none] (.tup [.tup [.tup [.int 0, .int 0, .int 2], .tup [.int 2, .int 1, .int 2], .tup [.int 1, .int 0, .int 1]], .tup [.int 2, .int 1], .tup [.int 0, .int 1, .int 0]]) (.nd (.nd .lf 36441994600536 [some (.obj 3), none, none, none, some (.tup [.tup [.tup [.int 0, .int 0, .int 2], .tup [.int 2, .int 1, .int 2], .tup [.int 1, .int 0, .int 1]], .tup [.int 2, .int 1], .tup [.int 2, .int 5, .int 0]]), some (.tup [.str "put"]), none] (.tup [.tup [.tup [.int 1, .int 0, .int 1], .tup [.int 0, .int 0, .int 2], .tup [.int 0, .int 1, .int 2]], .non, .tup [.int 0, .int 5, .int 0]]) .lf) 36441998499864 [some (.obj 3), none, none, none, some (.tup [.tup [.tup [.int 2, .int 0, .int 2], .tup [.int 2, .int 1, .int 2], .tup [.int 1, .int 0, .int 1]], .tup [.int 2, .int 0], .tup [.int 0, .int 1, .int 0]]), some (.tup [.str "put"]), none] (.tup [.tup [.tup [.int 0, .int 0, .int 2], .tup [.int 2, .int 1, .int 2], .tup [.int 1, .int 0, .int 1]], .tup [.int 2, .int 1], .tup [.int 0, .int 1, .int 0]]) .lf))) 36441998516240 [some (.obj 3), none, none, none, some (.tup [.tup [.tup [.int 2, .int 0, .int 2], .tup [.int 2, .int 1, .int 2], .tup [.int 1, .int 0, .int 1]], .tup [.int 1, .int 0], .tup [.int 0, .int 3, .int 0]]), some (.tup [.str "put"]), none] (.tup [.tup [.tup [.int 2, .int 1, .int 2], .tup [.int 1, .int 0, .int 1], .tup [.int 0, .int 0, .int 1]], .non, .tup [.int 2, .int 3, .int 0]]) (.nd (.nd (.nd (.nd .lf 36441998532639 [some (.obj 3), none, none, none, some (.tup [.tup [.tup [.int 2, .int 0, .int 2], .tup [.int 2, .int 1, .int 2], .tup [.int 1, .int 0, .int 1]], .tup [.int 2, .int 0], .tup [.int 0, .int 5, .int 0]]), some (.tup [.str "read"]), none] (.tup [.tup [.tup [.int 2, .int 0, .int 2], .tup [.int 2, .int 1, .int 2], .tup [.int 1, .int 0, .int 1]], .tup [.int 2, .int 0], .tup [.int 2, .int 2, .int 1]]) .lf) 36441998770712 [some (.obj 3), none, none, none, some (.tup [.tup [.tup [.int 2, .int 0, .int 2], .tup [.int 2, .int 1, .int 2], .tup [.int 1, .int 0, .int 1]], .tup [.int 2, .int 0], .tup [.int 2, .int 2, .int 1]]), some (.tup [.str "put"]), none] (.tup [.tup [.tup [.int 0, .int 0, .int 2], .tup [.int 2, .int 1, .int 2], .tup [.int 1, .int 0, .int 1]], .tup [.int 2, .int 1], .tup [.int 2, .int 2, .int 1]]) (.nd .lf 36441998787088 [some (.obj 3), none, none, none, some (.tup [.tup [.tup [.int 2, .int 0, .int 2], .tup [.int 2, .int 1, .int 2], .tup [.int 1, .int 0, .int 1]], .tup [.int 1, .int 0], .tup [.int 2, .int 4, .int 1]]), some (.tup [.str "put"]), none] (.tup [.tup [.tup [.int 2, .int 1, .int 2], .tup [.int 1, .int 0, .int 1], .tup [.int 0, .int 0, .int 1]], .non, .tup [.int 1, .int 4, .int 1]]) .lf)) 79853244137985 [some (.obj 3), none, none, none, some (.tup [.tup [.tup [.int 1, .int 0, .int 1], .tup [.int 0, .int 0, .int 2], .tup [.int 0, .int 1, .int 2]], .non, .tup [.int 0, .int 2, .int 1]]), some (.tup [.str "begin", .int 1]), none] (.tup [.tup [.tup [.int 2, .int 0, .int 1], .tup [.int 1, .int 0, .int 2], .tup [.int 1, .int 1, .int 2]], .tup [.int 1, .int 0], .tup [.int 0, .int 3, .int 0]]) (.nd (.nd .lf 79853411934209 [some (.obj 3), none, none, none, some (.tup [.tup [.tup [.int 1, .int 1, .int 2], .tup [.int 0, .int 0, .int 2], .tup [.int 0, .int 1, .int 2]], .non, .tup [.int 0, .int 5, .int 0]]), some (.tup [.str "begin", .int 1]), none] (.tup [.tup [.tup [.int 2, .int 1, .int 2], .tup [.int 1, .int 0, .int 2], .tup [.int 1, .int 1, .int 2]], .tup [.int 1, .int 0], .tup [.int 0, .int 5, .int 1]]) .lf) 80403935272983 [some (.obj 3), none, none, none, some (.tup [.tup [.non, .tup [.int 1, .int 0, .int 2], .tup [.int 1, .int 1, .int 2]], .tup [.int 1, .int 0], .tup [.int 0, .int 1, .int 0]]), some (.tup [.str "read"]), none] (.tup [.tup [.non, .tup [.int 1, .int 0, .int 2], .tup [.int 1, .int 1, .int 2]], .tup [.int 1, .int 0], .tup [.int 0, .int 1, .int 0]]) .lf)) 80404075782168 [some (.obj 3), none, none, none, some (.tup [.tup [.tup [.int 2, .int 0, .int 1], .tup [.int 1, .int 0, .int 2], .tup [.int 1, .int 1, .int 2]], .tup [.int 2, .int 0], .tup [.int 0, .int 1, .int 0]]), some (.tup [.str "put"]), none] (.tup [.tup [.tup [.int 0, .int 0, .int 2], .tup [.int 1, .int 0, .int 2], .tup [.int 1, .int 1, .int 2]], .tup [.int 2, .int 1], .tup [.int 0, .int 1, .int 0]]) (.nd (.nd (.nd .lf 80404075798544 [some (.obj 3), none, none, none, some (.tup [.tup [.tup [.int 2, .int 0, .int 1], .tup [.int 1, .int 0, .int 2], .tup [.int 1, .int 1, .int 2]], .tup [.int 1, .int 0], .tup [.int 0, .int 3, .int 0]]), some (.tup [.str "put"]), none] (.tup [.tup [.tup [.int 1, .int 0, .int 2], .tup [.int 1, .int 1, .int 2], .tup [.int 0, .int 0, .int 1]], .non, .tup [.int 2, .int 3, .int 0]]) .lf) 80404075814943 [some (.obj 3), none, none, none, some (.tup [.tup [.tup [.int 2, .int 0, .int 1], .tup [.int 1, .int 0, .int 2], .tup [.int 1, .int 1, .int 2]], .tup [.int 2, .int 0], .tup [.int 0, .int 5, .int 0]]), some (.tup [.str "read"]), none] (.tup [.tup [.tup [.int 2, .int 0, .int 1], .tup [.int 1, .int 0, .int 2], .tup [.int 1, .int 1, .int 2]], .tup [.int 2, .int 0], .tup [.int 1, .int 2, .int 1]]) (.nd .lf 80404076069392 [some (.obj 3), none, none, none, some (.tup [.tup [.tup [.int 2, .int 0, .int 1], .tup [.int 1, .int 0, .int 2], .tup [.int 1, .int 1, .int 2]], .tup [.int 1, .int 0], .tup [.int 2, .int 4, .int 1]]), some (.tup [.str "put"]), none] (.tup [.tup [.tup [.int 1, .int 0, .int 2], .tup [.int 1, .int 1, .int 2], .tup [.int 0, .int 0, .int 1]], .non, .tup [.int 1, .int 4, .int 1]]) .lf)) 80404205961823 [some (.obj 3), none, none, none, some (.tup [.tup [.tup [.int 0, .int 0, .int 2], .tup [.int 1, .int 0, .int 2], .tup [.int 1, .int 1, .int 2]], .tup [.int 2, .int 1], .tup [.int 1, .int 4, .int 1]]), some (.tup [.str "read"]), none] (.tup [.tup [.tup [.int 0, .int 0, .int 2], .tup [.int 1, .int 0, .int 2], .tup [.int 1, .int 1, .int 2]], .tup [.int 2, .int 1], .tup [.int 0, .int 1, .int 0]]) (.nd (.nd .lf 80404243587615 [some (.obj 3), none, none, none, some (.tup [.tup [.tup [.int 2, .int 1, .int 2], .tup [.int 1, .int 0, .int 2], .tup [.int 1, .int 1, .int 2]], .tup [.int 2, .int 0], .tup [.int 0, .int 5, .int 1]]), some (.tup [.str "read"]), none] (.tup [.tup [.tup [.int 2, .int 1, .int 2], .tup [.int 1, .int 0, .int 2], .tup [.int 1, .int 1, .int 2]], .tup [.int 2, .int 0], .tup [.int 0, .int 1, .int 0]]) .lf) 80404243849240 [some (.obj 3), none, none, none, some (.tup [.tup [.tup [.int 2, .int 1, .int 2], .tup [.int 1, .int 0, .int 2], .tup [.int 1, .int 1, .int 2]], .tup [.int 2, .int 0], .tup [.int 2, .int 5, .int 0]]), some (.tup [.str "put"]), none] (.tup [.tup [.tup [.int 0, .int 0, .int 2], .tup [.int 1, .int 0, .int 2], .tup [.int 1, .int 1, .int 2]], .tup [.int 2, .int 1], .tup [.int 2, .int 5, .int 0]]) .lf))))
def bt_reach_10 : Bt := (.nd (.nd (.nd (.nd (.nd .lf 35734127903239 [some (.obj 3), none, none, none, some (.tup [.tup [.non, .non, .tup [.int 0, .int 0, .int 1]], .non, .tup [.int 0, .int 0, .int 1]]), some (.tup [.str "read"]), none] (.tup [.tup [.non, .non, .tup [.int 0, .int 0, .int 1]], .non, .tup [.int 0, .int 0, .int 1]]) .lf) 35805135544834 [some (.obj 3), none, none, none, some (.tup [.tup [.tup [.int 2, .int 0, .int 1], .tup [.int 1, .int 0, .int 1], .tup [.int 0, .int 0, .int 1]], .non, .tup [.int 1, .int 5, .int 1]]), some (.tup [.str "begin", .int 2]), none] (.tup [.tup [.tup [.int 3, .int 0, .int 1], .tup [.int 2, .int 0, .int 1], .tup [.int 1, .int 0, .int 1]], .tup [.int 2, .int 0], .tup [.int 1, .int 5, .int 0]]) .lf) 35805135675911 [some (.obj 3), none, none, none, some (.tup [.tup [.tup [.int 2, .int 0, .int 1], .tup [.int 1, .int 0, .int 1], .tup [.int 0, .int 0, .int 1]], .non, .tup [.int 2, .int 5, .int 1]]), some (.tup [.str "read"]), none] (.tup [.tup [.tup [.int 2, .int 0, .int 1], .tup [.int 1, .int 0, .int 1], .tup [.int 0, .int 0, .int 1]], .non, .tup [.int 0, .int 0, .int 1]]) (.nd (.nd .lf 35805303177735 [some (.obj 3), none, none, none, some (.tup [.tup [.tup [.int 2, .int 1, .int 2], .tup [.int 1, .int 0, .int 1], .tup [.int 0, .int 0, .int 1]], .non, .tup [.int 0, .int 4, .int 1]]), some (.tup [.str "read"]), none] (.tup [.tup [.tup [.int 2, .int 1, .int 2], .tup [.int 1, .int 0, .int 1], .tup [.int 0, .int 0, .int 1]], .non, .tup [.int 0, .int 0, .int 1]]) .lf) 35891166855682 [some (.obj 3), none, none, none, some (.tup [.tup [.tup [.int 1, .int 0, .int 2], .tup [.int 1, .int 1, .int 2], .tup [.int 0, .int 0, .int 1]], .non, .tup [.int 0, .int 2, .int 1]]), some (.tup [.str "begin", .int 2]), none] (.tup [.tup [.tup [.int 2, .int 0, .int 2], .tup [.int 2, .int 1, .int 2], .tup [.int 1, .int 0, .int 1]], .tup [.int 2, .int 0], .tup [.int 0, .int 3, .int 0]]) .lf)) 35891167010817 [some (.obj 3), none, none, none, some (.tup [.tup [.tup [.int 1, .int 0, .int 2], .tup [.int 1, .int 1, .int 2], .tup [.int 0, .int 0, .int 1]], .non, .tup [.int 1, .int 5, .int 0]]), some (.tup [.str "begin", .int 1]), none] (.tup [.tup [.tup [.int 2, .int 0, .int 2], .tup [.int 2, .int 1, .int 2], .tup [.int 1, .int 0, .int 1]], .tup [.int 1, .int 0], .tup [.int 1, .int 5, .int 1]]) (.nd (.nd (.nd .lf 36355967066128 [some (.obj 3), none, none, none, some (.tup [.tup [.tup [.int 3, .int 0, .int 1], .tup [.int 2, .int 0, .int 1], .tup [.int 1, .int 0, .int 1]], .tup [.int 1, .int 0], .tup [.int 0, .int 5, .int 0]]), some (.tup [.str "put"]), none] (.tup [.tup [.tup [.int 2, .int 0, .int 1], .tup [.int 1, .int 0, .int 1], .tup [.int 0, .int 0, .int 1]], .non, .tup [.int 2, .int 5, .int 0]]) .lf) 36356095124056 [some (.obj 3), none, none, none, some (.tup [.tup [.tup [.int 0, .int 0, .int 2], .tup [.int 2, .int 0, .int 1], .tup [.int 1, .int 0, .int 1]], .tup [.int 2, .int 1], .tup [.int 1, .int 5, .int 1]]), some (.tup [.str "put"]), none] (.tup [.tup [.tup [.int 1, .int 0, .int 1], .tup [.int 0, .int 0, .int 2], .tup [.int 0, .int 1, .int 2]], .non, .tup [.int 2, .int 5, .int 1]]) .lf) 36356134838800 [some (.obj 3), none, none, none, some (.tup [.tup [.tup [.int 3, .int 1, .int 2], .tup [.int 2, .int 0, .int 1], .tup [.int 1, .int 0, .int 1]], .tup [.int 1, .int 0], .tup [.int 0, .int 5, .int 1]]), some (.tup [.str "put"]), none] (.tup [.tup [.tup [.int 2, .int 0, .int 1], .tup [.int 1, .int 0, .int 1], .tup [.int 0, .int 0, .int 1]], .non, .tup [.int 2, .int 5, .int 1]]) (.nd .lf 36441994305631 [some (.obj 3), none, none, none, some (.tup [.tup [.tup [.int 0, .int 0, .int 2], .tup [.int 2, .int 1, .int 2], .tup [.int 1, .int 0, .int 1]], .tup [.int 2, .int 1], .tup [.int 0, .int 1, .int 0]]), some (.tup [.str "read"]), none] (.tup [.tup [.tup [.int 0, .int 0, .int 2], .tup [.int 2, .int 1, .int 2], .tup [.int 1, .int 0, .int 1]], .tup [.int 2, .int 1], .tup [.int 2, .int 0, .int 1]]) .lf))) 36441994576479 [some (.obj 3), none, none, none, some (.tup [.tup [.tup [.int 0, .int 0, .int 2], .tup [.int 2, .int 1, .int 2], .tup [.int 1, .int 0, .int 1]], .tup [.int 2, .int 1], .tup [.int 2, .int 2, .int 1]]), some (.tup [.str "read"]), none] (.tup [.tup [.tup [.int 0, .int 0, .int 2], .tup [.int 2, .int 1, .int 2], .tup [.int 1, .int 0, .int 1]], .tup [.int 2, .int 1], .tup [.int 0, .int 1, .int 0]]) (.nd (.nd (.nd (.nd .lf 36441998664223 [some (.obj 3), none, none, none, some (.tup [.tup [.tup [.int 2, .int 0, .int 2], .tup [.int 2, .int 1, .int 2], .tup [.int 1, .int 0, .int 1]], .tup [.int 2, .int 0], .tup [.int 1, .int 5, .int 1]]), some (.tup [.str "read"]), none] (.tup [.tup [.tup [.int 2, .int 0, .int 2], .tup [.int 2, .int 1, .int 2], .tup [.int 1, .int 0, .int 1]], .tup [.int 2, .int 0], .tup [.int 0, .int 1, .int 0]]) .lf) 79853244137986 [some (.obj 3), none, none, none, some (.tup [.tup [.tup [.int 1, .int 0, .int 1], .tup [.int 0, .int 0, .int 2], .tup [.int 0, .int 1, .int 2]], .non, .tup [.int 0, .int 2, .int 1]]), some (.tup [.str "begin", .int 2]), none] (.tup [.tup [.tup [.int 2, .int 0, .int 1], .tup [.int 1, .int 0, .int 2], .tup [.int 1, .int 1, .int 2]], .tup [.int 2, .int 0], .tup [.int 0, .int 3, .int 0]]) .lf) 79853244293121 [some (.obj 3), none, none, none, some (.tup [.tup [.tup [.int 1, .int 0, .int 1], .tup [.int 0, .int 0, .int 2], .tup [.int 0, .int 1, .int 2]], .non, .tup [.int 1, .int 5, .int 0]]), some (.tup [.str "begin", .int 1]), none] (.tup [.tup [.tup [.int 2, .int 0, .int 1], .tup [.int 1, .int 0, .int 2], .tup [.int 1, .int 1, .int 2]], .tup [.int 1, .int 0], .tup [.int 1, .int 5, .int 1]]) (.nd (.nd .lf 79853411934210 [some (.obj 3), none, none, none, some (.tup [.tup [.tup [.int 1, .int 1, .int 2], .tup [.int 0, .int 0, .int 2], .tup [.int 0, .int 1, .int 2]], .non, .tup [.int 0, .int 5, .int 0]]), some (.tup [.str "begin", .int 2]), none] (.tup [.tup [.tup [.int 2, .int 1, .int 2], .tup [.int 1, .int 0, .int 2], .tup [.int 1, .int 1, .int 2]], .tup [.int 2, .int 0], .tup [.int 0, .int 5, .int 1]]) .lf) 79853412065287 [some (.obj 3), none, none, none, some (.tup [.tup [.tup [.int 1, .int 1, .int 2], .tup [.int 0, .int 0, .int 2], .tup [.int 0, .int 1, .int 2]], .non, .tup [.int 1, .int 5, .int 0]]), some (.tup [.str "read"]), none] (.tup [.tup [.tup [.int 1, .int 1, .int 2], .tup [.int 0, .int 0, .int 2], .tup [.int 0, .int 1, .int 2]], .non, .tup [.int 0, .int 0, .int 1]]) .lf)) 79853412065793 [some (.obj 3), none, none, none, some (.tup [.tup [.tup [.int 1, .int 1, .int 2], .tup [.int 0, .int 0, .int 2], .tup [.int 0, .int 1, .int 2]], .non, .tup [.int 1, .int 5, .int 1]]), some (.tup [.str "begin", .int 1]), none] (.tup [.tup [.tup [.int 2, .int 1, .int 2], .tup [.int 1, .int 0, .int 2], .tup [.int 1, .int 1, .int 2]], .tup [.int 1, .int 0], .tup [.int 1, .int 5, .int 0]]) (.nd (.nd (.nd .lf 80403935272984 [some (.obj 3), none, none, none, some (.tup [.tup [.non, .tup [.int 1, .int 0, .int 2], .tup [.int 1, .int 1, .int 2]], .tup [.int 2, .int 0], .tup [.int 0, .int 1, .int 0]]), some (.tup [.str "put"]), none] (.tup [.tup [.tup [.int 0, .int 0, .int 2], .tup [.int 1, .int 0, .int 2], .tup [.int 1, .int 1, .int 2]], .tup [.int 2, .int 1], .tup [.int 0, .int 1, .int 0]]) .lf) 80404075946527 [some (.obj 3), none, none, none, some (.tup [.tup [.tup [.int 2, .int 0, .int 1], .tup [.int 1, .int 0, .int 2], .tup [.int 1, .int 1, .int 2]], .tup [.int 2, .int 0], .tup [.int 1, .int 5, .int 1]]), some (.tup [.str "read"]), none] (.tup [.tup [.tup [.int 2, .int 0, .int 1], .tup [.int 1, .int 0, .int 2], .tup [.int 1, .int 1, .int 2]], .tup [.int 2, .int 0], .tup [.int 0, .int 1, .int 0]]) .lf) 80404206084184 [some (.obj 3), none, none, none, some (.tup [.tup [.tup [.int 0, .int 0, .int 2], .tup [.int 1, .int 0, .int 2], .tup [.int 1, .int 1, .int 2]], .tup [.int 2, .int 1], .tup [.int 2, .int 3, .int 0]]), some (.tup [.str "put"]), none] (.tup [.tup [.tup [.int 1, .int 1, .int 2], .tup [.int 0, .int 0, .int 2], .tup [.int 0, .int 1, .int 2]], .non, .tup [.int 0, .int 3, .int 0]]) (.nd .lf 80404243554335 [some (.obj 3), none, none, none, some (.tup [.tup [.tup [.int 2, .int 1, .int 2], .tup [.int 1, .int 0, .int 2], .tup [.int 1, .int 1, .int 2]], .tup [.int 2, .int 0], .tup [.int 0, .int 1, .int 0]]), some (.tup [.str "read"]), none] (.tup [.tup [.tup [.int 2, .int 1, .int 2], .tup [.int 1, .int 0, .int 2], .tup [.int 1, .int 1, .int 2]], .tup [.int 2, .int 0], .tup [.int 0, .int 1, .int 0]]) .lf))))
def bt_reach_11 : Bt := (.nd (.nd (.nd (.nd (.nd .lf 35805135536647 [some (.obj 3), none, none, none, some (.tup [.tup [.tup [.int 2, .int 0, .int 1], .tup [.int 1, .int 0, .int 1], .tup [.int 0, .int 0, .int 1]], .non, .tup [.int 1, .int 4, .int 1]]), some (.tup [.str "read"]), none] (.tup [.tup [.tup [.int 2, .int 0, .int 1], .tup [.int 1, .int 0, .int 1], .tup [.int 0, .int 0, .int 1]], .non, .tup [.int 2, .int 1, .int 0]]) .lf) 35805135642631 [some (.obj 3), none, none, none, some (.tup [.tup [.tup [.int 2, .int 0, .int 1], .tup [.int 1, .int 0, .int 1], .tup [.int 0, .int 0, .int 1]], .non, .tup [.int 2, .int 1, .int 0]]), some (.tup [.str "read"]), none] (.tup [.tup [.tup [.int 2, .int 0, .int 1], .tup [.int 1, .int 0, .int 1], .tup [.int 0, .int 0, .int 1]], .non, .tup [.int 0, .int 0, .int 1]]) (.nd .lf 35805303144961 [some (.obj 3), none, none, none, some (.tup [.tup [.tup [.int 2, .int 1, .int 2], .tup [.int 1, .int 0, .int 1], .tup [.int 0, .int 0, .int 1]], .non, .tup [.int 0, .int 0, .int 1]]), some (.tup [.str "begin", .int 1]), none] (.tup [.tup [.tup [.int 3, .int 1, .int 2], .tup [.int 2, .int 0, .int 1], .tup [.int 1, .int 0, .int 1]], .tup [.int 1, .int 0], .tup [.int 0, .int 1, .int 0]]) .lf)) 35891167010818 [some (.obj 3), none, none, none, some (.tup [.tup [.tup [.int 1, .int 0, .int 2], .tup [.int 1, .int 1, .int 2], .tup [.int 0, .int 0, .int 1]], .non, .tup [.int 1, .int 5, .int 0]]), some (.tup [.str "begin", .int 2]), none] (.tup [.tup [.tup [.int 2, .int 0, .int 2], .tup [.int 2, .int 1, .int 2], .tup [.int 1, .int 0, .int 1]], .tup [.int 2, .int 0], .tup [.int 1, .int 5, .int 1]]) (.nd (.nd .lf 35891167141895 [some (.obj 3), none, none, none, some (.tup [.tup [.tup [.int 1, .int 0, .int 2], .tup [.int 1, .int 1, .int 2], .tup [.int 0, .int 0, .int 1]], .non, .tup [.int 2, .int 5, .int 0]]), some (.tup [.str "read"]), none] (.tup [.tup [.tup [.int 1, .int 0, .int 2], .tup [.int 1, .int 1, .int 2], .tup [.int 0, .int 0, .int 1]], .non, .tup [.int 0, .int 0, .int 1]]) .lf) 35891167142401 [some (.obj 3), none, none, none, some (.tup [.tup [.tup [.int 1, .int 0, .int 2], .tup [.int 1, .int 1, .int 2], .tup [.int 0, .int 0, .int 1]], .non, .tup [.int 2, .int 5, .int 1]]), some (.tup [.str "begin", .int 1]), none] (.tup [.tup [.tup [.int 2, .int 0, .int 2], .tup [.int 2, .int 1, .int 2], .tup [.int 1, .int 0, .int 1]], .tup [.int 1, .int 0], .tup [.int 2, .int 5, .int 0]]) .lf)) 36355967197712 [some (.obj 3), none, none, none, some (.tup [.tup [.tup [.int 3, .int 0, .int 1], .tup [.int 2, .int 0, .int 1], .tup [.int 1, .int 0, .int 1]], .tup [.int 1, .int 0], .tup [.int 1, .int 5, .int 1]]), some (.tup [.str "put"]), none] (.tup [.tup [.tup [.int 2, .int 0, .int 1], .tup [.int 1, .int 0, .int 1], .tup [.int 0, .int 0, .int 1]], .non, .tup [.int 0, .int 5, .int 1]]) (.nd (.nd (.nd .lf 36356094984792 [some (.obj 3), none, none, none, some (.tup [.tup [.tup [.int 0, .int 0, .int 2], .tup [.int 2, .int 0, .int 1], .tup [.int 1, .int 0, .int 1]], .tup [.int 2, .int 1], .tup [.int 0, .int 4, .int 1]]), some (.tup [.str "put"]), none] (.tup [.tup [.tup [.int 1, .int 0, .int 1], .tup [.int 0, .int 0, .int 2], .tup [.int 0, .int 1, .int 2]], .non, .tup [.int 1, .int 4, .int 1]]) .lf) 36356095123551 [some (.obj 3), none, none, none, some (.tup [.tup [.tup [.int 0, .int 0, .int 2], .tup [.int 2, .int 0, .int 1], .tup [.int 1, .int 0, .int 1]], .tup [.int 2, .int 1], .tup [.int 1, .int 5, .int 0]]), some (.tup [.str "read"]), none] (.tup [.tup [.tup [.int 0, .int 0, .int 2], .tup [.int 2, .int 0, .int 1], .tup [.int 1, .int 0, .int 1]], .tup [.int 2, .int 1], .tup [.int 2, .int 2, .int 1]]) .lf) 36356134805520 [some (.obj 3), none, none, none, some (.tup [.tup [.tup [.int 3, .int 1, .int 2], .tup [.int 2, .int 0, .int 1], .tup [.int 1, .int 0, .int 1]], .tup [.int 1, .int 0], .tup [.int 0, .int 1, .int 0]]), some (.tup [.str "put"]), none] (.tup [.tup [.tup [.int 2, .int 0, .int 1], .tup [.int 1, .int 0, .int 1], .tup [.int 0, .int 0, .int 1]], .non, .tup [.int 2, .int 1, .int 0]]) (.nd (.nd .lf 36356134838295 [some (.obj 3), none, none, none, some (.tup [.tup [.tup [.int 3, .int 1, .int 2], .tup [.int 2, .int 0, .int 1], .tup [.int 1, .int 0, .int 1]], .tup [.int 1, .int 0], .tup [.int 0, .int 5, .int 0]]), some (.tup [.str "read"]), none] (.tup [.tup [.tup [.int 3, .int 1, .int 2], .tup [.int 2, .int 0, .int 1], .tup [.int 1, .int 0, .int 1]], .tup [.int 1, .int 0], .tup [.int 0, .int 1, .int 0]]) .lf) 36356135076368 [some (.obj 3), none, none, none, some (.tup [.tup [.tup [.int 3, .int 1, .int 2], .tup [.int 2, .int 0, .int 1], .tup [.int 1, .int 0, .int 1]], .tup [.int 1, .int 0], .tup [.int 2, .int 2, .int 1]]), some (.tup [.str "put"]), none] (.tup [.tup [.tup [.int 2, .int 0, .int 1], .tup [.int 1, .int 0, .int 1], .tup [.int 0, .int 0, .int 1]], .non, .tup [.int 1, .int 2, .int 1]]) .lf))) 36356135092767 [some (.obj 3), none, none, none, some (.tup [.tup [.tup [.int 3, .int 1, .int 2], .tup [.int 2, .int 0, .int 1], .tup [.int 1, .int 0, .int 1]], .tup [.int 2, .int 0], .tup [.int 2, .int 4, .int 1]]), some (.tup [.str "read"]), none] (.tup [.tup [.tup [.int 3, .int 1, .int 2], .tup [.int 2, .int 0, .int 1], .tup [.int 1, .int 0, .int 1]], .tup [.int 2, .int 0], .tup [.int 0, .int 1, .int 0]]) (.nd (.nd (.nd (.nd .lf 36441994322008 [some (.obj 3), none, none, none, some (.tup [.tup [.tup [.int 0, .int 0, .int 2], .tup [.int 2, .int 1, .int 2], .tup [.int 1, .int 0, .int 1]], .tup [.int 2, .int 1], .tup [.int 0, .int 3, .int 0]]), some (.tup [.str "put"]), none] (.tup [.tup [.tup [.int 1, .int 0, .int 1], .tup [.int 0, .int 0, .int 2], .tup [.int 0, .int 1, .int 2]], .non, .tup [.int 1, .int 3, .int 0]]) .lf) 36441994592856 [some (.obj 3), none, none, none, some (.tup [.tup [.tup [.int 0, .int 0, .int 2], .tup [.int 2, .int 1, .int 2], .tup [.int 1, .int 0, .int 1]], .tup [.int 2, .int 1], .tup [.int 2, .int 4, .int 1]]), some (.tup [.str "put"]), none] (.tup [.tup [.tup [.int 1, .int 0, .int 1], .tup [.int 0, .int 0, .int 2], .tup [.int 0, .int 1, .int 2]], .non, .tup [.int 0, .int 4, .int 1]]) (.nd .lf 79853244293122 [some (.obj 3), none, none, none, some (.tup [.tup [.tup [.int 1, .int 0, .int 1], .tup [.int 0, .int 0, .int 2], .tup [.int 0, .int 1, .int 2]], .non, .tup [.int 1, .int 5, .int 0]]), some (.tup [.str "begin", .int 2]), none] (.tup [.tup [.tup [.int 2, .int 0, .int 1], .tup [.int 1, .int 0, .int 2], .tup [.int 1, .int 1, .int 2]], .tup [.int 2, .int 0], .tup [.int 1, .int 5, .int 1]]) .lf)) 79853244424199 [some (.obj 3), none, none, none, some (.tup [.tup [.tup [.int 1, .int 0, .int 1], .tup [.int 0, .int 0, .int 2], .tup [.int 0, .int 1, .int 2]], .non, .tup [.int 2, .int 5, .int 0]]), some (.tup [.str "read"]), none] (.tup [.tup [.tup [.int 1, .int 0, .int 1], .tup [.int 0, .int 0, .int 2], .tup [.int 0, .int 1, .int 2]], .non, .tup [.int 0, .int 0, .int 1]]) (.nd (.nd .lf 79853244424705 [some (.obj 3), none, none, none, some (.tup [.tup [.tup [.int 1, .int 0, .int 1], .tup [.int 0, .int 0, .int 2], .tup [.int 0, .int 1, .int 2]], .non, .tup [.int 2, .int 5, .int 1]]), some (.tup [.str "begin", .int 1]), none] (.tup [.tup [.tup [.int 2, .int 0, .int 1], .tup [.int 1, .int 0, .int 2], .tup [.int 1, .int 1, .int 2]], .tup [.int 1, .int 0], .tup [.int 2, .int 5, .int 0]]) .lf) 79853411926529 [some (.obj 3), none, none, none, some (.tup [.tup [.tup [.int 1, .int 1, .int 2], .tup [.int 0, .int 0, .int 2], .tup [.int 0, .int 1, .int 2]], .non, .tup [.int 0, .int 4, .int 1]]), some (.tup [.str "begin", .int 1]), none] (.tup [.tup [.tup [.int 2, .int 1, .int 2], .tup [.int 1, .int 0, .int 2], .tup [.int 1, .int 1, .int 2]], .tup [.int 1, .int 0], .tup [.int 0, .int 5, .int 0]]) .lf)) 79853412032513 [some (.obj 3), none, none, none, some (.tup [.tup [.tup [.int 1, .int 1, .int 2], .tup [.int 0, .int 0, .int 2], .tup [.int 0, .int 1, .int 2]], .non, .tup [.int 1, .int 1, .int 0]]), some (.tup [.str "begin", .int 1]), none] (.tup [.tup [.tup [.int 2, .int 1, .int 2], .tup [.int 1, .int 0, .int 2], .tup [.int 1, .int 1, .int 2]], .tup [.int 1, .int 0], .tup [.int 1, .int 2, .int 1]]) (.nd (.nd (.nd .lf 79853412065794 [some (.obj 3), none, none, none, some (.tup [.tup [.tup [.int 1, .int 1, .int 2], .tup [.int 0, .int 0, .int 2], .tup [.int 0, .int 1, .int 2]], .non, .tup [.int 1, .int 5, .int 1]]), some (.tup [.str "begin", .int 2]), none] (.tup [.tup [.tup [.int 2, .int 1, .int 2], .tup [.int 1, .int 0, .int 2], .tup [.int 1, .int 1, .int 2]], .tup [.int 2, .int 0], .tup [.int 1, .int 5, .int 0]]) .lf) 79853412196871 [some (.obj 3), none, none, none, some (.tup [.tup [.tup [.int 1, .int 1, .int 2], .tup [.int 0, .int 0, .int 2], .tup [.int 0, .int 1, .int 2]], .non, .tup [.int 2, .int 5, .int 1]]), some (.tup [.str "read"]), none] (.tup [.tup [.tup [.int 1, .int 1, .int 2], .tup [.int 0, .int 0, .int 2], .tup [.int 0, .int 1, .int 2]], .non, .tup [.int 0, .int 0, .int 1]]) .lf) 80404205838936 [some (.obj 3), none, none, none, some (.tup [.tup [.tup [.int 0, .int 0, .int 2], .tup [.int 1, .int 0, .int 2], .tup [.int 1, .int 1, .int 2]], .tup [.int 2, .int 1], .tup [.int 0, .int 5, .int 1]]), some (.tup [.str "put"]), none] (.tup [.tup [.tup [.int 1, .int 1, .int 2], .tup [.int 0, .int 0, .int 2], .tup [.int 0, .int 1, .int 2]], .non, .tup [.int 1, .int 5, .int 1]]) (.nd (.nd .lf 80404206060127 [some (.obj 3), none, none, none, some (.tup [.tup [.tup [.int 0, .int 0, .int 2], .tup [.int 1, .int 0, .int 2], .tup [.int 1, .int 1, .int 2]], .tup [.int 2, .int 1], .tup [.int 2, .int 0, .int 1]]), some (.tup [.str "read"]), none] (.tup [.tup [.tup [.int 0, .int 0, .int 2], .tup [.int 1, .int 0, .int 2], .tup [.int 1, .int 1, .int 2]], .tup [.int 2, .int 1], .tup [.int 0, .int 1, .int 0]]) .lf) 80404243587088 [some (.obj 3), none, none, none, some (.tup [.tup [.tup [.int 2, .int 1, .int 2], .tup [.int 1, .int 0, .int 2], .tup [.int 1, .int 1, .int 2]], .tup [.int 1, .int 0], .tup [.int 0, .int 5, .int 0]]), some (.tup [.str "put"]), none] (.tup [.tup [.tup [.int 1, .int 0, .int 2], .tup [.int 1, .int 1, .int 2], .tup [.int 0, .int 0, .int 1]], .non, .tup [.int 2, .int 5, .int 0]]) .lf))))
def bt_reach_12 : Bt := (.nd (.nd (.nd (.nd (.nd .lf 8223 [some (.obj 3), none, none, none, some (.tup [.tup [.non, .non, .non], .tup [.int 2, .int 0], .tup [.int 0, .int 1, .int 0]]), some (.tup [.str "read"]), none] (.tup [.tup [.non, .non, .non], .tup [.int 2, .int 0], .tup [.int 0, .int 1, .int 0]]) .lf) 35804995133447 [some (.obj 3), none, none, none, some (.tup [.tup [.non, .tup [.int 1, .int 0, .int 1], .tup [.int 0, .int 0, .int 1]], .non, .tup [.int 2, .int 1, .int 0]]), some (.tup [.str "read"]), none] (.tup [.tup [.non, .tup [.int 1, .int 0, .int 1], .tup [.int 0, .int 0, .int 1]], .non, .tup [.int 0, .int 0, .int 1]]) (.nd .lf 35805303144962 [some (.obj 3), none, none, none, some (.tup [.tup [.tup [.int 2, .int 1, .int 2], .tup [.int 1, .int 0, .int 1], .tup [.int 0, .int 0, .int 1]], .non, .tup [.int 0, .int 0, .int 1]]), some (.tup [.str "begin", .int 2]), none] (.tup [.tup [.tup [.int 3, .int 1, .int 2], .tup [.int 2, .int 0, .int 1], .tup [.int 1, .int 0, .int 1]], .tup [.int 2, .int 0], .tup [.int 0, .int 1, .int 0]]) .lf)) 35891167003137 [some (.obj 3), none, none, none, some (.tup [.tup [.tup [.int 1, .int 0, .int 2], .tup [.int 1, .int 1, .int 2], .tup [.int 0, .int 0, .int 1]], .non, .tup [.int 1, .int 4, .int 1]]), some (.tup [.str "begin", .int 1]), none] (.tup [.tup [.tup [.int 2, .int 0, .int 2], .tup [.int 2, .int 1, .int 2], .tup [.int 1, .int 0, .int 1]], .tup [.int 1, .int 0], .tup [.int 1, .int 5, .int 0]]) (.nd (.nd .lf 35891167109121 [some (.obj 3), none, none, none, some (.tup [.tup [.tup [.int 1, .int 0, .int 2], .tup [.int 1, .int 1, .int 2], .tup [.int 0, .int 0, .int 1]], .non, .tup [.int 2, .int 1, .int 0]]), some (.tup [.str "begin", .int 1]), none] (.tup [.tup [.tup [.int 2, .int 0, .int 2], .tup [.int 2, .int 1, .int 2], .tup [.int 1, .int 0, .int 1]], .tup [.int 1, .int 0], .tup [.int 2, .int 2, .int 1]]) .lf) 35891167142402 [some (.obj 3), none, none, none, some (.tup [.tup [.tup [.int 1, .int 0, .int 2], .tup [.int 1, .int 1, .int 2], .tup [.int 0, .int 0, .int 1]], .non, .tup [.int 2, .int 5, .int 1]]), some (.tup [.str "begin", .int 2]), none] (.tup [.tup [.tup [.int 2, .int 0, .int 2], .tup [.int 2, .int 1, .int 2], .tup [.int 1, .int 0, .int 1]], .tup [.int 2, .int 0], .tup [.int 2, .int 5, .int 0]]) .lf)) 36283883724816 [some (.obj 3), none, none, none, some (.tup [.tup [.non, .non, .tup [.int 1, .int 0, .int 1]], .tup [.int 1, .int 0], .tup [.int 0, .int 1, .int 0]]), some (.tup [.str "put"]), none] (.tup [.tup [.non, .tup [.int 1, .int 0, .int 1], .tup [.int 0, .int 0, .int 1]], .non, .tup [.int 2, .int 1, .int 0]]) (.nd (.nd (.nd .lf 36283883995664 [some (.obj 3), none, none, none, some (.tup [.tup [.non, .non, .tup [.int 1, .int 0, .int 1]], .tup [.int 1, .int 0], .tup [.int 2, .int 2, .int 1]]), some (.tup [.str "put"]), none] (.tup [.tup [.non, .tup [.int 1, .int 0, .int 1], .tup [.int 0, .int 0, .int 1]], .non, .tup [.int 1, .int 2, .int 1]]) .lf) 36355967058448 [some (.obj 3), none, none, none, some (.tup [.tup [.tup [.int 3, .int 0, .int 1], .tup [.int 2, .int 0, .int 1], .tup [.int 1, .int 0, .int 1]], .tup [.int 1, .int 0], .tup [.int 0, .int 4, .int 1]]), some (.tup [.str "put"]), none] (.tup [.tup [.tup [.int 2, .int 0, .int 1], .tup [.int 1, .int 0, .int 1], .tup [.int 0, .int 0, .int 1]], .non, .tup [.int 2, .int 4, .int 1]]) .lf) 36355967180831 [some (.obj 3), none, none, none, some (.tup [.tup [.tup [.int 3, .int 0, .int 1], .tup [.int 2, .int 0, .int 1], .tup [.int 1, .int 0, .int 1]], .tup [.int 2, .int 0], .tup [.int 1, .int 3, .int 0]]), some (.tup [.str "read"]), none] (.tup [.tup [.tup [.int 3, .int 0, .int 1], .tup [.int 2, .int 0, .int 1], .tup [.int 1, .int 0, .int 1]], .tup [.int 2, .int 0], .tup [.int 2, .int 2, .int 1]]) (.nd (.nd .lf 36355967197207 [some (.obj 3), none, none, none, some (.tup [.tup [.tup [.int 3, .int 0, .int 1], .tup [.int 2, .int 0, .int 1], .tup [.int 1, .int 0, .int 1]], .tup [.int 1, .int 0], .tup [.int 1, .int 5, .int 0]]), some (.tup [.str "read"]), none] (.tup [.tup [.tup [.int 3, .int 0, .int 1], .tup [.int 2, .int 0, .int 1], .tup [.int 1, .int 0, .int 1]], .tup [.int 1, .int 0], .tup [.int 2, .int 2, .int 1]]) .lf) 36356095255135 [some (.obj 3), none, none, none, some (.tup [.tup [.tup [.int 0, .int 0, .int 2], .tup [.int 2, .int 0, .int 1], .tup [.int 1, .int 0, .int 1]], .tup [.int 2, .int 1], .tup [.int 2, .int 5, .int 1]]), some (.tup [.str "read"]), none] (.tup [.tup [.tup [.int 0, .int 0, .int 2], .tup [.int 2, .int 0, .int 1], .tup [.int 1, .int 0, .int 1]], .tup [.int 2, .int 1], .tup [.int 0, .int 1, .int 0]]) .lf))) 36356134838296 [some (.obj 3), none, none, none, some (.tup [.tup [.tup [.int 3, .int 1, .int 2], .tup [.int 2, .int 0, .int 1], .tup [.int 1, .int 0, .int 1]], .tup [.int 2, .int 0], .tup [.int 0, .int 5, .int 0]]), some (.tup [.str "put"]), none] (.tup [.tup [.tup [.int 0, .int 0, .int 2], .tup [.int 2, .int 0, .int 1], .tup [.int 1, .int 0, .int 1]], .tup [.int 2, .int 1], .tup [.int 0, .int 5, .int 0]]) (.nd (.nd (.nd (.nd .lf 36356134969879 [some (.obj 3), none, none, none, some (.tup [.tup [.tup [.int 3, .int 1, .int 2], .tup [.int 2, .int 0, .int 1], .tup [.int 1, .int 0, .int 1]], .tup [.int 1, .int 0], .tup [.int 1, .int 5, .int 1]]), some (.tup [.str "read"]), none] (.tup [.tup [.tup [.int 3, .int 1, .int 2], .tup [.int 2, .int 0, .int 1], .tup [.int 1, .int 0, .int 1]], .tup [.int 1, .int 0], .tup [.int 0, .int 1, .int 0]]) .lf) 36441998663696 [some (.obj 3), none, none, none, some (.tup [.tup [.tup [.int 2, .int 0, .int 2], .tup [.int 2, .int 1, .int 2], .tup [.int 1, .int 0, .int 1]], .tup [.int 1, .int 0], .tup [.int 1, .int 5, .int 0]]), some (.tup [.str "put"]), none] (.tup [.tup [.tup [.int 2, .int 1, .int 2], .tup [.int 1, .int 0, .int 1], .tup [.int 0, .int 0, .int 1]], .non, .tup [.int 0, .int 5, .int 0]]) .lf) 79853244285441 [some (.obj 3), none, none, none, some (.tup [.tup [.tup [.int 1, .int 0, .int 1], .tup [.int 0, .int 0, .int 2], .tup [.int 0, .int 1, .int 2]], .non, .tup [.int 1, .int 4, .int 1]]), some (.tup [.str "begin", .int 1]), none] (.tup [.tup [.tup [.int 2, .int 0, .int 1], .tup [.int 1, .int 0, .int 2], .tup [.int 1, .int 1, .int 2]], .tup [.int 1, .int 0], .tup [.int 1, .int 5, .int 0]]) (.nd (.nd .lf 79853244424706 [some (.obj 3), none, none, none, some (.tup [.tup [.tup [.int 1, .int 0, .int 1], .tup [.int 0, .int 0, .int 2], .tup [.int 0, .int 1, .int 2]], .non, .tup [.int 2, .int 5, .int 1]]), some (.tup [.str "begin", .int 2]), none] (.tup [.tup [.tup [.int 2, .int 0, .int 1], .tup [.int 1, .int 0, .int 2], .tup [.int 1, .int 1, .int 2]], .tup [.int 2, .int 0], .tup [.int 2, .int 5, .int 0]]) .lf) 79853411926530 [some (.obj 3), none, none, none, some (.tup [.tup [.tup [.int 1, .int 1, .int 2], .tup [.int 0, .int 0, .int 2], .tup [.int 0, .int 1, .int 2]], .non, .tup [.int 0, .int 4, .int 1]]), some (.tup [.str "begin", .int 2]), none] (.tup [.tup [.tup [.int 2, .int 1, .int 2], .tup [.int 1, .int 0, .int 2], .tup [.int 1, .int 1, .int 2]], .tup [.int 2, .int 0], .tup [.int 0, .int 5, .int 0]]) .lf)) 79853412032514 [some (.obj 3), none, none, none, some (.tup [.tup [.tup [.int 1, .int 1, .int 2], .tup [.int 0, .int 0, .int 2], .tup [.int 0, .int 1, .int 2]], .non, .tup [.int 1, .int 1, .int 0]]), some (.tup [.str "begin", .int 2]), none] (.tup [.tup [.tup [.int 2, .int 1, .int 2], .tup [.int 1, .int 0, .int 2], .tup [.int 1, .int 1, .int 2]], .tup [.int 2, .int 0], .tup [.int 1, .int 2, .int 1]]) (.nd (.nd (.nd .lf 79853412057607 [some (.obj 3), none, none, none, some (.tup [.tup [.tup [.int 1, .int 1, .int 2], .tup [.int 0, .int 0, .int 2], .tup [.int 0, .int 1, .int 2]], .non, .tup [.int 1, .int 4, .int 1]]), some (.tup [.str "read"]), none] (.tup [.tup [.tup [.int 1, .int 1, .int 2], .tup [.int 0, .int 0, .int 2], .tup [.int 0, .int 1, .int 2]], .non, .tup [.int 0, .int 0, .int 1]]) .lf) 80404075946000 [some (.obj 3), none, none, none, some (.tup [.tup [.tup [.int 2, .int 0, .int 1], .tup [.int 1, .int 0, .int 2], .tup [.int 1, .int 1, .int 2]], .tup [.int 1, .int 0], .tup [.int 1, .int 5, .int 0]]), some (.tup [.str "put"]), none] (.tup [.tup [.tup [.int 1, .int 0, .int 2], .tup [.int 1, .int 1, .int 2], .tup [.int 0, .int 0, .int 1]], .non, .tup [.int 0, .int 5, .int 0]]) .lf) 80404205805656 [some (.obj 3), none, none, none, some (.tup [.tup [.tup [.int 0, .int 0, .int 2], .tup [.int 1, .int 0, .int 2], .tup [.int 1, .int 1, .int 2]], .tup [.int 2, .int 1], .tup [.int 0, .int 1, .int 0]]), some (.tup [.str "put"]), none] (.tup [.tup [.tup [.int 1, .int 1, .int 2], .tup [.int 0, .int 0, .int 2], .tup [.int 0, .int 1, .int 2]], .non, .tup [.int 1, .int 1, .int 0]]) (.nd (.nd .lf 80404205838431 [some (.obj 3), none, none, none, some (.tup [.tup [.tup [.int 0, .int 0, .int 2], .tup [.int 1, .int 0, .int 2], .tup [.int 1, .int 1, .int 2]], .tup [.int 2, .int 1], .tup [.int 0, .int 5, .int 0]]), some (.tup [.str "read"]), none] (.tup [.tup [.tup [.int 0, .int 0, .int 2], .tup [.int 1, .int 0, .int 2], .tup [.int 1, .int 1, .int 2]], .tup [.int 2, .int 1], .tup [.int 2, .int 0, .int 1]]) .lf) 80404243718672 [some (.obj 3), none, none, none, some (.tup [.tup [.tup [.int 2, .int 1, .int 2], .tup [.int 1, .int 0, .int 2], .tup [.int 1, .int 1, .int 2]], .tup [.int 1, .int 0], .tup [.int 1, .int 5, .int 1]]), some (.tup [.str "put"]), none] (.tup [.tup [.tup [.int 1, .int 0, .int 2], .tup [.int 1, .int 1, .int 2], .tup [.int 0, .int 0, .int 1]], .non, .tup [.int 0, .int 5, .int 1]]) .lf))))
def bt_reach_13 : Bt := (.nd (.nd (.nd (.nd (.nd .lf 519 [some (.obj 3), none, none, none, some (.tup [.tup [.non, .non, .non], .non, .tup [.int 0, .int 0, .int 1]]), some (.tup [.str "read"]), none] (.tup [.tup [.non, .non, .non], .non, .tup [.int 0, .int 0, .int 1]]) .lf) 35805303431175 [some (.obj 3), none, none, none, some (.tup [.tup [.tup [.int 2, .int 1, .int 2], .tup [.int 1, .int 0, .int 1], .tup [.int 0, .int 0, .int 1]], .non, .tup [.int 2, .int 3, .int 0]]), some (.tup [.str "read"]), none] (.tup [.tup [.tup [.int 2, .int 1, .int 2], .tup [.int 1, .int 0, .int 1], .tup [.int 0, .int 0, .int 1]], .non, .tup [.int 0, .int 0, .int 1]]) .lf) 35891167003138 [some (.obj 3), none, none, none, some (.tup [.tup [.tup [.int 1, .int 0, .int 2], .tup [.int 1, .int 1, .int 2], .tup [.int 0, .int 0, .int 1]], .non, .tup [.int 1, .int 4, .int 1]]), some (.tup [.str "begin", .int 2]), none] (.tup [.tup [.tup [.int 2, .int 0, .int 2], .tup [.int 2, .int 1, .int 2], .tup [.int 1, .int 0, .int 1]], .tup [.int 2, .int 0], .tup [.int 1, .int 5, .int 0]]) (.nd .lf 35891167109122 [some (.obj 3), none, none, none, some (.tup [.tup [.tup [.int 1, .int 0, .int 2], .tup [.int 1, .int 1, .int 2], .tup [.int 0, .int 0, .int 1]], .non, .tup [.int 2, .int 1, .int 0]]), some (.tup [.str "begin", .int 2]), none] (.tup [.tup [.tup [.int 2, .int 0, .int 2], .tup [.int 2, .int 1, .int 2], .tup [.int 1, .int 0, .int 1]], .tup [.int 2, .int 0], .tup [.int 2, .int 2, .int 1]]) .lf)) 35891167134215 [some (.obj 3), none, none, none, some (.tup [.tup [.tup [.int 1, .int 0, .int 2], .tup [.int 1, .int 1, .int 2], .tup [.int 0, .int 0, .int 1]], .non, .tup [.int 2, .int 4, .int 1]]), some (.tup [.str "read"]), none] (.tup [.tup [.tup [.int 1, .int 0, .int 2], .tup [.int 1, .int 1, .int 2], .tup [.int 0, .int 0, .int 1]], .non, .tup [.int 0, .int 0, .int 1]]) (.nd (.nd (.nd .lf 36355824427031 [some (.obj 3), none, none, none, some (.tup [.tup [.non, .tup [.int 2, .int 0, .int 1], .tup [.int 1, .int 0, .int 1]], .tup [.int 1, .int 0], .tup [.int 0, .int 1, .int 0]]), some (.tup [.str "read"]), none] (.tup [.tup [.non, .tup [.int 2, .int 0, .int 1], .tup [.int 1, .int 0, .int 1]], .tup [.int 1, .int 0], .tup [.int 0, .int 1, .int 0]]) .lf) 36355824697879 [some (.obj 3), none, none, none, some (.tup [.tup [.non, .tup [.int 2, .int 0, .int 1], .tup [.int 1, .int 0, .int 1]], .tup [.int 1, .int 0], .tup [.int 2, .int 2, .int 1]]), some (.tup [.str "read"]), none] (.tup [.tup [.non, .tup [.int 2, .int 0, .int 1], .tup [.int 1, .int 0, .int 1]], .tup [.int 1, .int 0], .tup [.int 0, .int 1, .int 0]]) .lf) 36355967197208 [some (.obj 3), none, none, none, some (.tup [.tup [.tup [.int 3, .int 0, .int 1], .tup [.int 2, .int 0, .int 1], .tup [.int 1, .int 0, .int 1]], .tup [.int 2, .int 0], .tup [.int 1, .int 5, .int 0]]), some (.tup [.str "put"]), none] (.tup [.tup [.tup [.int 0, .int 0, .int 2], .tup [.int 2, .int 0, .int 1], .tup [.int 1, .int 0, .int 1]], .tup [.int 2, .int 1], .tup [.int 1, .int 5, .int 0]]) (.nd .lf 36355967328791 [some (.obj 3), none, none, none, some (.tup [.tup [.tup [.int 3, .int 0, .int 1], .tup [.int 2, .int 0, .int 1], .tup [.int 1, .int 0, .int 1]], .tup [.int 1, .int 0], .tup [.int 2, .int 5, .int 1]]), some (.tup [.str "read"]), none] (.tup [.tup [.tup [.int 3, .int 0, .int 1], .tup [.int 2, .int 0, .int 1], .tup [.int 1, .int 0, .int 1]], .tup [.int 1, .int 0], .tup [.int 0, .int 1, .int 0]]) .lf))) 36356134969880 [some (.obj 3), none, none, none, some (.tup [.tup [.tup [.int 3, .int 1, .int 2], .tup [.int 2, .int 0, .int 1], .tup [.int 1, .int 0, .int 1]], .tup [.int 2, .int 0], .tup [.int 1, .int 5, .int 1]]), some (.tup [.str "put"]), none] (.tup [.tup [.tup [.int 0, .int 0, .int 2], .tup [.int 2, .int 0, .int 1], .tup [.int 1, .int 0, .int 1]], .tup [.int 2, .int 1], .tup [.int 1, .int 5, .int 1]]) (.nd (.nd (.nd (.nd .lf 36441998795280 [some (.obj 3), none, none, none, some (.tup [.tup [.tup [.int 2, .int 0, .int 2], .tup [.int 2, .int 1, .int 2], .tup [.int 1, .int 0, .int 1]], .tup [.int 1, .int 0], .tup [.int 2, .int 5, .int 1]]), some (.tup [.str "put"]), none] (.tup [.tup [.tup [.int 2, .int 1, .int 2], .tup [.int 1, .int 0, .int 1], .tup [.int 0, .int 0, .int 1]], .non, .tup [.int 1, .int 5, .int 1]]) .lf) 79853105848327 [some (.obj 3), none, none, none, some (.tup [.tup [.non, .tup [.int 0, .int 0, .int 2], .tup [.int 0, .int 1, .int 2]], .non, .tup [.int 1, .int 1, .int 0]]), some (.tup [.str "read"]), none] (.tup [.tup [.non, .tup [.int 0, .int 0, .int 2], .tup [.int 0, .int 1, .int 2]], .non, .tup [.int 0, .int 0, .int 1]]) .lf) 79853244285442 [some (.obj 3), none, none, none, some (.tup [.tup [.tup [.int 1, .int 0, .int 1], .tup [.int 0, .int 0, .int 2], .tup [.int 0, .int 1, .int 2]], .non, .tup [.int 1, .int 4, .int 1]]), some (.tup [.str "begin", .int 2]), none] (.tup [.tup [.tup [.int 2, .int 0, .int 1], .tup [.int 1, .int 0, .int 2], .tup [.int 1, .int 1, .int 2]], .tup [.int 2, .int 0], .tup [.int 1, .int 5, .int 0]]) (.nd .lf 79853244416519 [some (.obj 3), none, none, none, some (.tup [.tup [.tup [.int 1, .int 0, .int 1], .tup [.int 0, .int 0, .int 2], .tup [.int 0, .int 1, .int 2]], .non, .tup [.int 2, .int 4, .int 1]]), some (.tup [.str "read"]), none] (.tup [.tup [.tup [.int 1, .int 0, .int 1], .tup [.int 0, .int 0, .int 2], .tup [.int 0, .int 1, .int 2]], .non, .tup [.int 0, .int 0, .int 1]]) .lf)) 80404075921943 [some (.obj 3), none, none, none, some (.tup [.tup [.tup [.int 2, .int 0, .int 1], .tup [.int 1, .int 0, .int 2], .tup [.int 1, .int 1, .int 2]], .tup [.int 1, .int 0], .tup [.int 1, .int 2, .int 1]]), some (.tup [.str "read"]), none] (.tup [.tup [.tup [.int 2, .int 0, .int 1], .tup [.int 1, .int 0, .int 2], .tup [.int 1, .int 1, .int 2]], .tup [.int 1, .int 0], .tup [.int 0, .int 1, .int 0]]) (.nd (.nd (.nd .lf 80404076077584 [some (.obj 3), none, none, none, some (.tup [.tup [.tup [.int 2, .int 0, .int 1], .tup [.int 1, .int 0, .int 2], .tup [.int 1, .int 1, .int 2]], .tup [.int 1, .int 0], .tup [.int 2, .int 5, .int 1]]), some (.tup [.str "put"]), none] (.tup [.tup [.tup [.int 1, .int 0, .int 2], .tup [.int 1, .int 1, .int 2], .tup [.int 0, .int 0, .int 1]], .non, .tup [.int 1, .int 5, .int 1]]) .lf) 80404205970015 [some (.obj 3), none, none, none, some (.tup [.tup [.tup [.int 0, .int 0, .int 2], .tup [.int 1, .int 0, .int 2], .tup [.int 1, .int 1, .int 2]], .tup [.int 2, .int 1], .tup [.int 1, .int 5, .int 1]]), some (.tup [.str "read"]), none] (.tup [.tup [.tup [.int 0, .int 0, .int 2], .tup [.int 1, .int 0, .int 2], .tup [.int 1, .int 1, .int 2]], .tup [.int 2, .int 1], .tup [.int 0, .int 1, .int 0]]) .lf) 80404243579408 [some (.obj 3), none, none, none, some (.tup [.tup [.tup [.int 2, .int 1, .int 2], .tup [.int 1, .int 0, .int 2], .tup [.int 1, .int 1, .int 2]], .tup [.int 1, .int 0], .tup [.int 0, .int 4, .int 1]]), some (.tup [.str "put"]), none] (.tup [.tup [.tup [.int 1, .int 0, .int 2], .tup [.int 1, .int 1, .int 2], .tup [.int 0, .int 0, .int 1]], .non, .tup [.int 2, .int 4, .int 1]]) (.nd .lf 80404243718167 [some (.obj 3), none, none, none, some (.tup [.tup [.tup [.int 2, .int 1, .int 2], .tup [.int 1, .int 0, .int 2], .tup [.int 1, .int 1, .int 2]], .tup [.int 1, .int 0], .tup [.int 1, .int 5, .int 0]]), some (.tup [.str "read"]), none] (.tup [.tup [.tup [.int 2, .int 1, .int 2], .tup [.int 1, .int 0, .int 2], .tup [.int 1, .int 1, .int 2]], .tup [.int 1, .int 0], .tup [.int 0, .int 1, .int 0]]) .lf))))
def bt_reach_14 : Bt := (.nd (.nd (.nd (.nd (.nd .lf 270540895 [some (.obj 3), none, none, none, some (.tup [.tup [.tup [.int 0, .int 0, .int 2], .non, .non], .tup [.int 2, .int 1], .tup [.int 0, .int 1, .int 0]]), some (.tup [.str "read"]), none] (.tup [.tup [.tup [.int 0, .int 0, .int 2], .non, .non], .tup [.int 2, .int 1], .tup [.int 2, .int 0, .int 1]]) .lf) 35805135413255 [some (.obj 3), none, none, none, some (.tup [.tup [.tup [.int 2, .int 0, .int 1], .tup [.int 1, .int 0, .int 1], .tup [.int 0, .int 0, .int 1]], .non, .tup [.int 0, .int 5, .int 0]]), some (.tup [.str "read"]), none] (.tup [.tup [.tup [.int 2, .int 0, .int 1], .tup [.int 1, .int 0, .int 1], .tup [.int 0, .int 0, .int 1]], .non, .tup [.int 1, .int 2, .int 1]]) .lf) 35805135413761 [some (.obj 3), none, none, none, some (.tup [.tup [.tup [.int 2, .int 0, .int 1], .tup [.int 1, .int 0, .int 1], .tup [.int 0, .int 0, .int 1]], .non, .tup [.int 0, .int 5, .int 1]]), some (.tup [.str "begin", .int 1]), none] (.tup [.tup [.tup [.int 3, .int 0, .int 1], .tup [.int 2, .int 0, .int 1], .tup [.int 1, .int 0, .int 1]], .tup [.int 1, .int 0], .tup [.int 0, .int 5, .int 0]]) (.nd (.nd .lf 35805303185927 [some (.obj 3), none, none, none, some (.tup [.tup [.tup [.int 2, .int 1, .int 2], .tup [.int 1, .int 0, .int 1], .tup [.int 0, .int 0, .int 1]], .non, .tup [.int 0, .int 5, .int 1]]), some (.tup [.str "read"]), none] (.tup [.tup [.tup [.int 2, .int 1, .int 2], .tup [.int 1, .int 0, .int 1], .tup [.int 0, .int 0, .int 1]], .non, .tup [.int 0, .int 0, .int 1]]) .lf) 35805303292417 [some (.obj 3), none, none, none, some (.tup [.tup [.tup [.int 2, .int 1, .int 2], .tup [.int 1, .int 0, .int 1], .tup [.int 0, .int 0, .int 1]], .non, .tup [.int 1, .int 2, .int 1]]), some (.tup [.str "begin", .int 1]), none] (.tup [.tup [.tup [.int 3, .int 1, .int 2], .tup [.int 2, .int 0, .int 1], .tup [.int 1, .int 0, .int 1]], .tup [.int 1, .int 0], .tup [.int 1, .int 3, .int 0]]) .lf)) 36284154511960 [some (.obj 3), none, none, none, some (.tup [.tup [.tup [.int 0, .int 0, .int 2], .non, .tup [.int 1, .int 0, .int 1]], .tup [.int 2, .int 1], .tup [.int 2, .int 0, .int 1]]), some (.tup [.str "put"]), none] (.tup [.tup [.tup [.int 1, .int 0, .int 1], .tup [.int 0, .int 0, .int 2], .tup [.int 0, .int 1, .int 2]], .non, .tup [.int 0, .int 0, .int 1]]) (.nd (.nd (.nd .lf 36355824427032 [some (.obj 3), none, none, none, some (.tup [.tup [.non, .tup [.int 2, .int 0, .int 1], .tup [.int 1, .int 0, .int 1]], .tup [.int 2, .int 0], .tup [.int 0, .int 1, .int 0]]), some (.tup [.str "put"]), none] (.tup [.tup [.tup [.int 0, .int 0, .int 2], .tup [.int 2, .int 0, .int 1], .tup [.int 1, .int 0, .int 1]], .tup [.int 2, .int 1], .tup [.int 0, .int 1, .int 0]]) .lf) 36355824697880 [some (.obj 3), none, none, none, some (.tup [.tup [.non, .tup [.int 2, .int 0, .int 1], .tup [.int 1, .int 0, .int 1]], .tup [.int 2, .int 0], .tup [.int 2, .int 2, .int 1]]), some (.tup [.str "put"]), none] (.tup [.tup [.tup [.int 0, .int 0, .int 2], .tup [.int 2, .int 0, .int 1], .tup [.int 1, .int 0, .int 1]], .tup [.int 2, .int 1], .tup [.int 2, .int 2, .int 1]]) .lf) 36355967328792 [some (.obj 3), none, none, none, some (.tup [.tup [.tup [.int 3, .int 0, .int 1], .tup [.int 2, .int 0, .int 1], .tup [.int 1, .int 0, .int 1]], .tup [.int 2, .int 0], .tup [.int 2, .int 5, .int 1]]), some (.tup [.str "put"]), none] (.tup [.tup [.tup [.int 0, .int 0, .int 2], .tup [.int 2, .int 0, .int 1], .tup [.int 1, .int 0, .int 1]], .tup [.int 2, .int 1], .tup [.int 2, .int 5, .int 1]]) (.nd (.nd .lf 36356134952976 [some (.obj 3), none, none, none, some (.tup [.tup [.tup [.int 3, .int 1, .int 2], .tup [.int 2, .int 0, .int 1], .tup [.int 1, .int 0, .int 1]], .tup [.int 1, .int 0], .tup [.int 1, .int 3, .int 0]]), some (.tup [.str "put"]), none] (.tup [.tup [.tup [.int 2, .int 0, .int 1], .tup [.int 1, .int 0, .int 1], .tup [.int 0, .int 0, .int 1]], .non, .tup [.int 0, .int 3, .int 0]]) .lf) 36356134969375 [some (.obj 3), none, none, none, some (.tup [.tup [.tup [.int 3, .int 1, .int 2], .tup [.int 2, .int 0, .int 1], .tup [.int 1, .int 0, .int 1]], .tup [.int 2, .int 0], .tup [.int 1, .int 5, .int 0]]), some (.tup [.str "read"]), none] (.tup [.tup [.tup [.int 3, .int 1, .int 2], .tup [.int 2, .int 0, .int 1], .tup [.int 1, .int 0, .int 1]], .tup [.int 2, .int 0], .tup [.int 2, .int 2, .int 1]]) .lf))) 36441994469464 [some (.obj 3), none, none, none, some (.tup [.tup [.tup [.int 0, .int 0, .int 2], .tup [.int 2, .int 1, .int 2], .tup [.int 1, .int 0, .int 1]], .tup [.int 2, .int 1], .tup [.int 1, .int 5, .int 0]]), some (.tup [.str "put"]), none] (.tup [.tup [.tup [.int 1, .int 0, .int 1], .tup [.int 0, .int 0, .int 2], .tup [.int 0, .int 1, .int 2]], .non, .tup [.int 2, .int 5, .int 0]]) (.nd (.nd (.nd (.nd .lf 36441998656016 [some (.obj 3), none, none, none, some (.tup [.tup [.tup [.int 2, .int 0, .int 2], .tup [.int 2, .int 1, .int 2], .tup [.int 1, .int 0, .int 1]], .tup [.int 1, .int 0], .tup [.int 1, .int 4, .int 1]]), some (.tup [.str "put"]), none] (.tup [.tup [.tup [.int 2, .int 1, .int 2], .tup [.int 1, .int 0, .int 1], .tup [.int 0, .int 0, .int 1]], .non, .tup [.int 0, .int 4, .int 1]]) .lf) 36441998794775 [some (.obj 3), none, none, none, some (.tup [.tup [.tup [.int 2, .int 0, .int 2], .tup [.int 2, .int 1, .int 2], .tup [.int 1, .int 0, .int 1]], .tup [.int 1, .int 0], .tup [.int 2, .int 5, .int 0]]), some (.tup [.str "read"]), none] (.tup [.tup [.tup [.int 2, .int 0, .int 2], .tup [.int 2, .int 1, .int 2], .tup [.int 1, .int 0, .int 1]], .tup [.int 1, .int 0], .tup [.int 0, .int 1, .int 0]]) .lf) 79853105709569 [some (.obj 3), none, none, none, some (.tup [.tup [.non, .tup [.int 0, .int 0, .int 2], .tup [.int 0, .int 1, .int 2]], .non, .tup [.int 0, .int 0, .int 1]]), some (.tup [.str "begin", .int 1]), none] (.tup [.tup [.non, .tup [.int 1, .int 0, .int 2], .tup [.int 1, .int 1, .int 2]], .tup [.int 1, .int 0], .tup [.int 0, .int 1, .int 0]]) (.nd (.nd .lf 80403935412759 [some (.obj 3), none, none, none, some (.tup [.tup [.non, .tup [.int 1, .int 0, .int 2], .tup [.int 1, .int 1, .int 2]], .tup [.int 1, .int 0], .tup [.int 1, .int 2, .int 1]]), some (.tup [.str "read"]), none] (.tup [.tup [.non, .tup [.int 1, .int 0, .int 2], .tup [.int 1, .int 1, .int 2]], .tup [.int 1, .int 0], .tup [.int 0, .int 1, .int 0]]) .lf) 80404075921944 [some (.obj 3), none, none, none, some (.tup [.tup [.tup [.int 2, .int 0, .int 1], .tup [.int 1, .int 0, .int 2], .tup [.int 1, .int 1, .int 2]], .tup [.int 2, .int 0], .tup [.int 1, .int 2, .int 1]]), some (.tup [.str "put"]), none] (.tup [.tup [.tup [.int 0, .int 0, .int 2], .tup [.int 1, .int 0, .int 2], .tup [.int 1, .int 1, .int 2]], .tup [.int 2, .int 1], .tup [.int 1, .int 2, .int 1]]) .lf)) 80404075938320 [some (.obj 3), none, none, none, some (.tup [.tup [.tup [.int 2, .int 0, .int 1], .tup [.int 1, .int 0, .int 2], .tup [.int 1, .int 1, .int 2]], .tup [.int 1, .int 0], .tup [.int 1, .int 4, .int 1]]), some (.tup [.str "put"]), none] (.tup [.tup [.tup [.int 1, .int 0, .int 2], .tup [.int 1, .int 1, .int 2], .tup [.int 0, .int 0, .int 1]], .non, .tup [.int 0, .int 4, .int 1]]) (.nd (.nd (.nd .lf 80404076077079 [some (.obj 3), none, none, none, some (.tup [.tup [.tup [.int 2, .int 0, .int 1], .tup [.int 1, .int 0, .int 2], .tup [.int 1, .int 1, .int 2]], .tup [.int 1, .int 0], .tup [.int 2, .int 5, .int 0]]), some (.tup [.str "read"]), none] (.tup [.tup [.tup [.int 2, .int 0, .int 1], .tup [.int 1, .int 0, .int 2], .tup [.int 1, .int 1, .int 2]], .tup [.int 1, .int 0], .tup [.int 0, .int 1, .int 0]]) .lf) 80404205830751 [some (.obj 3), none, none, none, some (.tup [.tup [.tup [.int 0, .int 0, .int 2], .tup [.int 1, .int 0, .int 2], .tup [.int 1, .int 1, .int 2]], .tup [.int 2, .int 1], .tup [.int 0, .int 4, .int 1]]), some (.tup [.str "read"]), none] (.tup [.tup [.tup [.int 0, .int 0, .int 2], .tup [.int 1, .int 0, .int 2], .tup [.int 1, .int 1, .int 2]], .tup [.int 2, .int 1], .tup [.int 0, .int 1, .int 0]]) .lf) 80404243718168 [some (.obj 3), none, none, none, some (.tup [.tup [.tup [.int 2, .int 1, .int 2], .tup [.int 1, .int 0, .int 2], .tup [.int 1, .int 1, .int 2]], .tup [.int 2, .int 0], .tup [.int 1, .int 5, .int 0]]), some (.tup [.str "put"]), none] (.tup [.tup [.tup [.int 0, .int 0, .int 2], .tup [.int 1, .int 0, .int 2], .tup [.int 1, .int 1, .int 2]], .tup [.int 2, .int 1], .tup [.int 1, .int 5, .int 0]]) (.nd .lf 80404243849751 [some (.obj 3), none, none, none, some (.tup [.tup [.tup [.int 2, .int 1, .int 2], .tup [.int 1, .int 0, .int 2], .tup [.int 1, .int 1, .int 2]], .tup [.int 1, .int 0], .tup [.int 2, .int 5, .int 1]]), some (.tup [.str "read"]), none] (.tup [.tup [.tup [.int 2, .int 1, .int 2], .tup [.int 1, .int 0, .int 2], .tup [.int 1, .int 1, .int 2]], .tup [.int 1, .int 0], .tup [.int 0, .int 1, .int 0]]) .lf))))
def bt_reach_15 : Bt := (.nd (.nd (.nd (.nd (.nd .lf 35734128173057 [some (.obj 3), none, none, none, some (.tup [.tup [.non, .non, .tup [.int 0, .int 0, .int 1]], .non, .tup [.int 2, .int 1, .int 0]]), some (.tup [.str "begin", .int 1]), none] (.tup [.tup [.non, .non, .tup [.int 1, .int 0, .int 1]], .tup [.int 1, .int 0], .tup [.int 2, .int 2, .int 1]]) .lf) 35805135413762 [some (.obj 3), none, none, none, some (.tup [.tup [.tup [.int 2, .int 0, .int 1], .tup [.int 1, .int 0, .int 1], .tup [.int 0, .int 0, .int 1]], .non, .tup [.int 0, .int 5, .int 1]]), some (.tup [.str "begin", .int 2]), none] (.tup [.tup [.tup [.int 3, .int 0, .int 1], .tup [.int 2, .int 0, .int 1], .tup [.int 1, .int 0, .int 1]], .tup [.int 2, .int 0], .tup [.int 0, .int 5, .int 0]]) (.nd .lf 35805135544839 [some (.obj 3), none, none, none, some (.tup [.tup [.tup [.int 2, .int 0, .int 1], .tup [.int 1, .int 0, .int 1], .tup [.int 0, .int 0, .int 1]], .non, .tup [.int 1, .int 5, .int 1]]), some (.tup [.str "read"]), none] (.tup [.tup [.tup [.int 2, .int 0, .int 1], .tup [.int 1, .int 0, .int 1], .tup [.int 0, .int 0, .int 1]], .non, .tup [.int 2, .int 1, .int 0]]) .lf)) 35805303292418 [some (.obj 3), none, none, none, some (.tup [.tup [.tup [.int 2, .int 1, .int 2], .tup [.int 1, .int 0, .int 1], .tup [.int 0, .int 0, .int 1]], .non, .tup [.int 1, .int 2, .int 1]]), some (.tup [.str "begin", .int 2]), none] (.tup [.tup [.tup [.int 3, .int 1, .int 2], .tup [.int 2, .int 0, .int 1], .tup [.int 1, .int 0, .int 1]], .tup [.int 2, .int 0], .tup [.int 1, .int 3, .int 0]]) (.nd (.nd .lf 35805303447553 [some (.obj 3), none, none, none, some (.tup [.tup [.tup [.int 2, .int 1, .int 2], .tup [.int 1, .int 0, .int 1], .tup [.int 0, .int 0, .int 1]], .non, .tup [.int 2, .int 5, .int 0]]), some (.tup [.str "begin", .int 1]), none] (.tup [.tup [.tup [.int 3, .int 1, .int 2], .tup [.int 2, .int 0, .int 1], .tup [.int 1, .int 0, .int 1]], .tup [.int 1, .int 0], .tup [.int 2, .int 5, .int 1]]) .lf) 35891166855687 [some (.obj 3), none, none, none, some (.tup [.tup [.tup [.int 1, .int 0, .int 2], .tup [.int 1, .int 1, .int 2], .tup [.int 0, .int 0, .int 1]], .non, .tup [.int 0, .int 2, .int 1]]), some (.tup [.str "read"]), none] (.tup [.tup [.tup [.int 1, .int 0, .int 2], .tup [.int 1, .int 1, .int 2], .tup [.int 0, .int 0, .int 1]], .non, .tup [.int 2, .int 1, .int 0]]) .lf)) 35891166879745 [some (.obj 3), none, none, none, some (.tup [.tup [.tup [.int 1, .int 0, .int 2], .tup [.int 1, .int 1, .int 2], .tup [.int 0, .int 0, .int 1]], .non, .tup [.int 0, .int 5, .int 0]]), some (.tup [.str "begin", .int 1]), none] (.tup [.tup [.tup [.int 2, .int 0, .int 2], .tup [.int 2, .int 1, .int 2], .tup [.int 1, .int 0, .int 1]], .tup [.int 1, .int 0], .tup [.int 0, .int 5, .int 1]]) (.nd (.nd (.nd .lf 36355967328287 [some (.obj 3), none, none, none, some (.tup [.tup [.tup [.int 3, .int 0, .int 1], .tup [.int 2, .int 0, .int 1], .tup [.int 1, .int 0, .int 1]], .tup [.int 2, .int 0], .tup [.int 2, .int 5, .int 0]]), some (.tup [.str "read"]), none] (.tup [.tup [.tup [.int 3, .int 0, .int 1], .tup [.int 2, .int 0, .int 1], .tup [.int 1, .int 0, .int 1]], .tup [.int 2, .int 0], .tup [.int 0, .int 1, .int 0]]) .lf) 36356094992984 [some (.obj 3), none, none, none, some (.tup [.tup [.tup [.int 0, .int 0, .int 2], .tup [.int 2, .int 0, .int 1], .tup [.int 1, .int 0, .int 1]], .tup [.int 2, .int 1], .tup [.int 0, .int 5, .int 1]]), some (.tup [.str "put"]), none] (.tup [.tup [.tup [.int 1, .int 0, .int 1], .tup [.int 0, .int 0, .int 2], .tup [.int 0, .int 1, .int 2]], .non, .tup [.int 1, .int 5, .int 1]]) .lf) 36356095214175 [some (.obj 3), none, none, none, some (.tup [.tup [.tup [.int 0, .int 0, .int 2], .tup [.int 2, .int 0, .int 1], .tup [.int 1, .int 0, .int 1]], .tup [.int 2, .int 1], .tup [.int 2, .int 0, .int 1]]), some (.tup [.str "read"]), none] (.tup [.tup [.tup [.int 0, .int 0, .int 2], .tup [.int 2, .int 0, .int 1], .tup [.int 1, .int 0, .int 1]], .tup [.int 2, .int 1], .tup [.int 0, .int 1, .int 0]]) (.nd (.nd .lf 36356135100959 [some (.obj 3), none, none, none, some (.tup [.tup [.tup [.int 3, .int 1, .int 2], .tup [.int 2, .int 0, .int 1], .tup [.int 1, .int 0, .int 1]], .tup [.int 2, .int 0], .tup [.int 2, .int 5, .int 1]]), some (.tup [.str "read"]), none] (.tup [.tup [.tup [.int 3, .int 1, .int 2], .tup [.int 2, .int 0, .int 1], .tup [.int 1, .int 0, .int 1]], .tup [.int 2, .int 0], .tup [.int 0, .int 1, .int 0]]) .lf) 36441994601048 [some (.obj 3), none, none, none, some (.tup [.tup [.tup [.int 0, .int 0, .int 2], .tup [.int 2, .int 1, .int 2], .tup [.int 1, .int 0, .int 1]], .tup [.int 2, .int 1], .tup [.int 2, .int 5, .int 1]]), some (.tup [.str "put"]), none] (.tup [.tup [.tup [.int 1, .int 0, .int 1], .tup [.int 0, .int 0, .int 2], .tup [.int 0, .int 1, .int 2]], .non, .tup [.int 0, .int 5, .int 1]]) .lf))) 36441998533151 [some (.obj 3), none, none, none, some (.tup [.tup [.tup [.int 2, .int 0, .int 2], .tup [.int 2, .int 1, .int 2], .tup [.int 1, .int 0, .int 1]], .tup [.int 2, .int 0], .tup [.int 0, .int 5, .int 1]]), some (.tup [.str "read"]), none] (.tup [.tup [.tup [.int 2, .int 0, .int 2], .tup [.int 2, .int 1, .int 2], .tup [.int 1, .int 0, .int 1]], .tup [.int 2, .int 0], .tup [.int 0, .int 1, .int 0]]) (.nd (.nd (.nd (.nd .lf 36441998794776 [some (.obj 3), none, none, none, some (.tup [.tup [.tup [.int 2, .int 0, .int 2], .tup [.int 2, .int 1, .int 2], .tup [.int 1, .int 0, .int 1]], .tup [.int 2, .int 0], .tup [.int 2, .int 5, .int 0]]), some (.tup [.str "put"]), none] (.tup [.tup [.tup [.int 0, .int 0, .int 2], .tup [.int 2, .int 1, .int 2], .tup [.int 1, .int 0, .int 1]], .tup [.int 2, .int 1], .tup [.int 2, .int 5, .int 0]]) .lf) 79853105709570 [some (.obj 3), none, none, none, some (.tup [.tup [.non, .tup [.int 0, .int 0, .int 2], .tup [.int 0, .int 1, .int 2]], .non, .tup [.int 0, .int 0, .int 1]]), some (.tup [.str "begin", .int 2]), none] (.tup [.tup [.non, .tup [.int 1, .int 0, .int 2], .tup [.int 1, .int 1, .int 2]], .tup [.int 2, .int 0], .tup [.int 0, .int 1, .int 0]]) (.nd .lf 79853244137991 [some (.obj 3), none, none, none, some (.tup [.tup [.tup [.int 1, .int 0, .int 1], .tup [.int 0, .int 0, .int 2], .tup [.int 0, .int 1, .int 2]], .non, .tup [.int 0, .int 2, .int 1]]), some (.tup [.str "read"]), none] (.tup [.tup [.tup [.int 1, .int 0, .int 1], .tup [.int 0, .int 0, .int 2], .tup [.int 0, .int 1, .int 2]], .non, .tup [.int 1, .int 1, .int 0]]) .lf)) 79853244162049 [some (.obj 3), none, none, none, some (.tup [.tup [.tup [.int 1, .int 0, .int 1], .tup [.int 0, .int 0, .int 2], .tup [.int 0, .int 1, .int 2]], .non, .tup [.int 0, .int 5, .int 0]]), some (.tup [.str "begin", .int 1]), none] (.tup [.tup [.tup [.int 2, .int 0, .int 1], .tup [.int 1, .int 0, .int 2], .tup [.int 1, .int 1, .int 2]], .tup [.int 1, .int 0], .tup [.int 0, .int 5, .int 1]]) (.nd (.nd .lf 79853411934215 [some (.obj 3), none, none, none, some (.tup [.tup [.tup [.int 1, .int 1, .int 2], .tup [.int 0, .int 0, .int 2], .tup [.int 0, .int 1, .int 2]], .non, .tup [.int 0, .int 5, .int 0]]), some (.tup [.str "read"]), none] (.tup [.tup [.tup [.int 1, .int 1, .int 2], .tup [.int 0, .int 0, .int 2], .tup [.int 0, .int 1, .int 2]], .non, .tup [.int 0, .int 0, .int 1]]) .lf) 79853411934721 [some (.obj 3), none, none, none, some (.tup [.tup [.tup [.int 1, .int 1, .int 2], .tup [.int 0, .int 0, .int 2], .tup [.int 0, .int 1, .int 2]], .non, .tup [.int 0, .int 5, .int 1]]), some (.tup [.str "begin", .int 1]), none] (.tup [.tup [.tup [.int 2, .int 1, .int 2], .tup [.int 1, .int 0, .int 2], .tup [.int 1, .int 1, .int 2]], .tup [.int 1, .int 0], .tup [.int 0, .int 5, .int 0]]) .lf)) 80403935412760 [some (.obj 3), none, none, none, some (.tup [.tup [.non, .tup [.int 1, .int 0, .int 2], .tup [.int 1, .int 1, .int 2]], .tup [.int 2, .int 0], .tup [.int 1, .int 2, .int 1]]), some (.tup [.str "put"]), none] (.tup [.tup [.tup [.int 0, .int 0, .int 2], .tup [.int 1, .int 0, .int 2], .tup [.int 1, .int 1, .int 2]], .tup [.int 2, .int 1], .tup [.int 1, .int 2, .int 1]]) (.nd (.nd (.nd .lf 80404075815455 [some (.obj 3), none, none, none, some (.tup [.tup [.tup [.int 2, .int 0, .int 1], .tup [.int 1, .int 0, .int 2], .tup [.int 1, .int 1, .int 2]], .tup [.int 2, .int 0], .tup [.int 0, .int 5, .int 1]]), some (.tup [.str "read"]), none] (.tup [.tup [.tup [.int 2, .int 0, .int 1], .tup [.int 1, .int 0, .int 2], .tup [.int 1, .int 1, .int 2]], .tup [.int 2, .int 0], .tup [.int 0, .int 1, .int 0]]) .lf) 80404076077080 [some (.obj 3), none, none, none, some (.tup [.tup [.tup [.int 2, .int 0, .int 1], .tup [.int 1, .int 0, .int 2], .tup [.int 1, .int 1, .int 2]], .tup [.int 2, .int 0], .tup [.int 2, .int 5, .int 0]]), some (.tup [.str "put"]), none] (.tup [.tup [.tup [.int 0, .int 0, .int 2], .tup [.int 1, .int 0, .int 2], .tup [.int 1, .int 1, .int 2]], .tup [.int 2, .int 1], .tup [.int 2, .int 5, .int 0]]) .lf) 80404243694111 [some (.obj 3), none, none, none, some (.tup [.tup [.tup [.int 2, .int 1, .int 2], .tup [.int 1, .int 0, .int 2], .tup [.int 1, .int 1, .int 2]], .tup [.int 2, .int 0], .tup [.int 1, .int 2, .int 1]]), some (.tup [.str "read"]), none] (.tup [.tup [.tup [.int 2, .int 1, .int 2], .tup [.int 1, .int 0, .int 2], .tup [.int 1, .int 1, .int 2]], .tup [.int 2, .int 0], .tup [.int 0, .int 1, .int 0]]) (.nd (.nd .lf 80404243710487 [some (.obj 3), none, none, none, some (.tup [.tup [.tup [.int 2, .int 1, .int 2], .tup [.int 1, .int 0, .int 2], .tup [.int 1, .int 1, .int 2]], .tup [.int 1, .int 0], .tup [.int 1, .int 4, .int 1]]), some (.tup [.str "read"]), none] (.tup [.tup [.tup [.int 2, .int 1, .int 2], .tup [.int 1, .int 0, .int 2], .tup [.int 1, .int 1, .int 2]], .tup [.int 1, .int 0], .tup [.int 0, .int 1, .int 0]]) .lf) 80404243849752 [some (.obj 3), none, none, none, some (.tup [.tup [.tup [.int 2, .int 1, .int 2], .tup [.int 1, .int 0, .int 2], .tup [.int 1, .int 1, .int 2]], .tup [.int 2, .int 0], .tup [.int 2, .int 5, .int 1]]), some (.tup [.str "put"]), none] (.tup [.tup [.tup [.int 0, .int 0, .int 2], .tup [.int 1, .int 0, .int 2], .tup [.int 1, .int 1, .int 2]], .tup [.int 2, .int 1], .tup [.int 2, .int 5, .int 1]]) .lf))))
def bt_reach_16 : Bt := (.nd (.nd (.nd (.nd (.nd .lf 35734128173058 [some (.obj 3), none, none, none, some (.tup [.tup [.non, .non, .tup [.int 0, .int 0, .int 1]], .non, .tup [.int 2, .int 1, .int 0]]), some (.tup [.str "begin", .int 2]), none] (.tup [.tup [.non, .non, .tup [.int 1, .int 0, .int 1]], .tup [.int 2, .int 0], .tup [.int 2, .int 2, .int 1]]) .lf) 35805303447554 [some (.obj 3), none, none, none, some (.tup [.tup [.tup [.int 2, .int 1, .int 2], .tup [.int 1, .int 0, .int 1], .tup [.int 0, .int 0, .int 1]], .non, .tup [.int 2, .int 5, .int 0]]), some (.tup [.str "begin", .int 2]), none] (.tup [.tup [.tup [.int 3, .int 1, .int 2], .tup [.int 2, .int 0, .int 1], .tup [.int 1, .int 0, .int 1]], .tup [.int 2, .int 0], .tup [.int 2, .int 5, .int 1]]) (.nd .lf 35891166879746 [some (.obj 3), none, none, none, some (.tup [.tup [.tup [.int 1, .int 0, .int 2], .tup [.int 1, .int 1, .int 2], .tup [.int 0, .int 0, .int 1]], .non, .tup [.int 0, .int 5, .int 0]]), some (.tup [.str "begin", .int 2]), none] (.tup [.tup [.tup [.int 2, .int 0, .int 2], .tup [.int 2, .int 1, .int 2], .tup [.int 1, .int 0, .int 1]], .tup [.int 2, .int 0], .tup [.int 0, .int 5, .int 1]]) .lf)) 35891167010823 [some (.obj 3), none, none, none, some (.tup [.tup [.tup [.int 1, .int 0, .int 2], .tup [.int 1, .int 1, .int 2], .tup [.int 0, .int 0, .int 1]], .non, .tup [.int 1, .int 5, .int 0]]), some (.tup [.str "read"]), none] (.tup [.tup [.tup [.int 1, .int 0, .int 2], .tup [.int 1, .int 1, .int 2], .tup [.int 0, .int 0, .int 1]], .non, .tup [.int 0, .int 0, .int 1]]) (.nd (.nd .lf 35891167011329 [some (.obj 3), none, none, none, some (.tup [.tup [.tup [.int 1, .int 0, .int 2], .tup [.int 1, .int 1, .int 2], .tup [.int 0, .int 0, .int 1]], .non, .tup [.int 1, .int 5, .int 1]]), some (.tup [.str "begin", .int 1]), none] (.tup [.tup [.tup [.int 2, .int 0, .int 2], .tup [.int 2, .int 1, .int 2], .tup [.int 1, .int 0, .int 1]], .tup [.int 1, .int 0], .tup [.int 1, .int 5, .int 0]]) .lf) 36355824574487 [some (.obj 3), none, none, none, some (.tup [.tup [.non, .tup [.int 2, .int 0, .int 1], .tup [.int 1, .int 0, .int 1]], .tup [.int 1, .int 0], .tup [.int 1, .int 3, .int 0]]), some (.tup [.str "read"]), none] (.tup [.tup [.non, .tup [.int 2, .int 0, .int 1], .tup [.int 1, .int 0, .int 1]], .tup [.int 1, .int 0], .tup [.int 2, .int 2, .int 1]]) (.nd .lf 36355967066640 [some (.obj 3), none, none, none, some (.tup [.tup [.tup [.int 3, .int 0, .int 1], .tup [.int 2, .int 0, .int 1], .tup [.int 1, .int 0, .int 1]], .tup [.int 1, .int 0], .tup [.int 0, .int 5, .int 1]]), some (.tup [.str "put"]), none] (.tup [.tup [.tup [.int 2, .int 0, .int 1], .tup [.int 1, .int 0, .int 1], .tup [.int 0, .int 0, .int 1]], .non, .tup [.int 2, .int 5, .int 1]]) .lf))) 36356094959704 [some (.obj 3), none, none, none, some (.tup [.tup [.tup [.int 0, .int 0, .int 2], .tup [.int 2, .int 0, .int 1], .tup [.int 1, .int 0, .int 1]], .tup [.int 2, .int 1], .tup [.int 0, .int 1, .int 0]]), some (.tup [.str "put"]), none] (.tup [.tup [.tup [.int 1, .int 0, .int 1], .tup [.int 0, .int 0, .int 2], .tup [.int 0, .int 1, .int 2]], .non, .tup [.int 1, .int 1, .int 0]]) (.nd (.nd (.nd .lf 36356094992479 [some (.obj 3), none, none, none, some (.tup [.tup [.tup [.int 0, .int 0, .int 2], .tup [.int 2, .int 0, .int 1], .tup [.int 1, .int 0, .int 1]], .tup [.int 2, .int 1], .tup [.int 0, .int 5, .int 0]]), some (.tup [.str "read"]), none] (.tup [.tup [.tup [.int 0, .int 0, .int 2], .tup [.int 2, .int 0, .int 1], .tup [.int 1, .int 0, .int 1]], .tup [.int 2, .int 1], .tup [.int 2, .int 0, .int 1]]) .lf) 36356095230552 [some (.obj 3), none, none, none, some (.tup [.tup [.tup [.int 0, .int 0, .int 2], .tup [.int 2, .int 0, .int 1], .tup [.int 1, .int 0, .int 1]], .tup [.int 2, .int 1], .tup [.int 2, .int 2, .int 1]]), some (.tup [.str "put"]), none] (.tup [.tup [.tup [.int 1, .int 0, .int 1], .tup [.int 0, .int 0, .int 2], .tup [.int 0, .int 1, .int 2]], .non, .tup [.int 0, .int 2, .int 1]]) (.nd .lf 36441994461784 [some (.obj 3), none, none, none, some (.tup [.tup [.tup [.int 0, .int 0, .int 2], .tup [.int 2, .int 1, .int 2], .tup [.int 1, .int 0, .int 1]], .tup [.int 2, .int 1], .tup [.int 1, .int 4, .int 1]]), some (.tup [.str "put"]), none] (.tup [.tup [.tup [.int 1, .int 0, .int 1], .tup [.int 0, .int 0, .int 2], .tup [.int 0, .int 1, .int 2]], .non, .tup [.int 2, .int 4, .int 1]]) .lf)) 36441994600543 [some (.obj 3), none, none, none, some (.tup [.tup [.tup [.int 0, .int 0, .int 2], .tup [.int 2, .int 1, .int 2], .tup [.int 1, .int 0, .int 1]], .tup [.int 2, .int 1], .tup [.int 2, .int 5, .int 0]]), some (.tup [.str "read"]), none] (.tup [.tup [.tup [.int 0, .int 0, .int 2], .tup [.int 2, .int 1, .int 2], .tup [.int 1, .int 0, .int 1]], .tup [.int 2, .int 1], .tup [.int 0, .int 1, .int 0]]) (.nd (.nd .lf 36441998499871 [some (.obj 3), none, none, none, some (.tup [.tup [.tup [.int 2, .int 0, .int 2], .tup [.int 2, .int 1, .int 2], .tup [.int 1, .int 0, .int 1]], .tup [.int 2, .int 0], .tup [.int 0, .int 1, .int 0]]), some (.tup [.str "read"]), none] (.tup [.tup [.tup [.int 2, .int 0, .int 2], .tup [.int 2, .int 1, .int 2], .tup [.int 1, .int 0, .int 1]], .tup [.int 2, .int 0], .tup [.int 2, .int 2, .int 1]]) .lf) 36441998516247 [some (.obj 3), none, none, none, some (.tup [.tup [.tup [.int 2, .int 0, .int 2], .tup [.int 2, .int 1, .int 2], .tup [.int 1, .int 0, .int 1]], .tup [.int 1, .int 0], .tup [.int 0, .int 3, .int 0]]), some (.tup [.str "read"]), none] (.tup [.tup [.tup [.int 2, .int 0, .int 2], .tup [.int 2, .int 1, .int 2], .tup [.int 1, .int 0, .int 1]], .tup [.int 1, .int 0], .tup [.int 2, .int 2, .int 1]]) .lf))) 36441998770719 [some (.obj 3), none, none, none, some (.tup [.tup [.tup [.int 2, .int 0, .int 2], .tup [.int 2, .int 1, .int 2], .tup [.int 1, .int 0, .int 1]], .tup [.int 2, .int 0], .tup [.int 2, .int 2, .int 1]]), some (.tup [.str "read"]), none] (.tup [.tup [.tup [.int 2, .int 0, .int 2], .tup [.int 2, .int 1, .int 2], .tup [.int 1, .int 0, .int 1]], .tup [.int 2, .int 0], .tup [.int 0, .int 1, .int 0]]) (.nd (.nd (.nd (.nd .lf 36441998787095 [some (.obj 3), none, none, none, some (.tup [.tup [.tup [.int 2, .int 0, .int 2], .tup [.int 2, .int 1, .int 2], .tup [.int 1, .int 0, .int 1]], .tup [.int 1, .int 0], .tup [.int 2, .int 4, .int 1]]), some (.tup [.str "read"]), none] (.tup [.tup [.tup [.int 2, .int 0, .int 2], .tup [.int 2, .int 1, .int 2], .tup [.int 1, .int 0, .int 1]], .tup [.int 1, .int 0], .tup [.int 0, .int 1, .int 0]]) .lf) 79853244162050 [some (.obj 3), none, none, none, some (.tup [.tup [.tup [.int 1, .int 0, .int 1], .tup [.int 0, .int 0, .int 2], .tup [.int 0, .int 1, .int 2]], .non, .tup [.int 0, .int 5, .int 0]]), some (.tup [.str "begin", .int 2]), none] (.tup [.tup [.tup [.int 2, .int 0, .int 1], .tup [.int 1, .int 0, .int 2], .tup [.int 1, .int 1, .int 2]], .tup [.int 2, .int 0], .tup [.int 0, .int 5, .int 1]]) (.nd .lf 79853244293127 [some (.obj 3), none, none, none, some (.tup [.tup [.tup [.int 1, .int 0, .int 1], .tup [.int 0, .int 0, .int 2], .tup [.int 0, .int 1, .int 2]], .non, .tup [.int 1, .int 5, .int 0]]), some (.tup [.str "read"]), none] (.tup [.tup [.tup [.int 1, .int 0, .int 1], .tup [.int 0, .int 0, .int 2], .tup [.int 0, .int 1, .int 2]], .non, .tup [.int 0, .int 0, .int 1]]) .lf)) 79853244293633 [some (.obj 3), none, none, none, some (.tup [.tup [.tup [.int 1, .int 0, .int 1], .tup [.int 0, .int 0, .int 2], .tup [.int 0, .int 1, .int 2]], .non, .tup [.int 1, .int 5, .int 1]]), some (.tup [.str "begin", .int 1]), none] (.tup [.tup [.tup [.int 2, .int 0, .int 1], .tup [.int 1, .int 0, .int 2], .tup [.int 1, .int 1, .int 2]], .tup [.int 1, .int 0], .tup [.int 1, .int 5, .int 0]]) (.nd (.nd .lf 79853411934722 [some (.obj 3), none, none, none, some (.tup [.tup [.tup [.int 1, .int 1, .int 2], .tup [.int 0, .int 0, .int 2], .tup [.int 0, .int 1, .int 2]], .non, .tup [.int 0, .int 5, .int 1]]), some (.tup [.str "begin", .int 2]), none] (.tup [.tup [.tup [.int 2, .int 1, .int 2], .tup [.int 1, .int 0, .int 2], .tup [.int 1, .int 1, .int 2]], .tup [.int 2, .int 0], .tup [.int 0, .int 5, .int 0]]) .lf) 79853412065799 [some (.obj 3), none, none, none, some (.tup [.tup [.tup [.int 1, .int 1, .int 2], .tup [.int 0, .int 0, .int 2], .tup [.int 0, .int 1, .int 2]], .non, .tup [.int 1, .int 5, .int 1]]), some (.tup [.str "read"]), none] (.tup [.tup [.tup [.int 1, .int 1, .int 2], .tup [.int 0, .int 0, .int 2], .tup [.int 0, .int 1, .int 2]], .non, .tup [.int 0, .int 0, .int 1]]) .lf)) 79853412172289 [some (.obj 3), none, none, none, some (.tup [.tup [.tup [.int 1, .int 1, .int 2], .tup [.int 0, .int 0, .int 2], .tup [.int 0, .int 1, .int 2]], .non, .tup [.int 2, .int 2, .int 1]]), some (.tup [.str "begin", .int 1]), none] (.tup [.tup [.tup [.int 2, .int 1, .int 2], .tup [.int 1, .int 0, .int 2], .tup [.int 1, .int 1, .int 2]], .tup [.int 1, .int 0], .tup [.int 2, .int 3, .int 0]]) (.nd (.nd (.nd .lf 80404075782175 [some (.obj 3), none, none, none, some (.tup [.tup [.tup [.int 2, .int 0, .int 1], .tup [.int 1, .int 0, .int 2], .tup [.int 1, .int 1, .int 2]], .tup [.int 2, .int 0], .tup [.int 0, .int 1, .int 0]]), some (.tup [.str "read"]), none] (.tup [.tup [.tup [.int 2, .int 0, .int 1], .tup [.int 1, .int 0, .int 2], .tup [.int 1, .int 1, .int 2]], .tup [.int 2, .int 0], .tup [.int 1, .int 2, .int 1]]) .lf) 80404075798551 [some (.obj 3), none, none, none, some (.tup [.tup [.tup [.int 2, .int 0, .int 1], .tup [.int 1, .int 0, .int 2], .tup [.int 1, .int 1, .int 2]], .tup [.int 1, .int 0], .tup [.int 0, .int 3, .int 0]]), some (.tup [.str "read"]), none] (.tup [.tup [.tup [.int 2, .int 0, .int 1], .tup [.int 1, .int 0, .int 2], .tup [.int 1, .int 1, .int 2]], .tup [.int 1, .int 0], .tup [.int 1, .int 2, .int 1]]) (.nd .lf 80404076069399 [some (.obj 3), none, none, none, some (.tup [.tup [.tup [.int 2, .int 0, .int 1], .tup [.int 1, .int 0, .int 2], .tup [.int 1, .int 1, .int 2]], .tup [.int 1, .int 0], .tup [.int 2, .int 4, .int 1]]), some (.tup [.str "read"]), none] (.tup [.tup [.tup [.int 2, .int 0, .int 1], .tup [.int 1, .int 0, .int 2], .tup [.int 1, .int 1, .int 2]], .tup [.int 1, .int 0], .tup [.int 0, .int 1, .int 0]]) .lf)) 80404243710488 [some (.obj 3), none, none, none, some (.tup [.tup [.tup [.int 2, .int 1, .int 2], .tup [.int 1, .int 0, .int 2], .tup [.int 1, .int 1, .int 2]], .tup [.int 2, .int 0], .tup [.int 1, .int 4, .int 1]]), some (.tup [.str "put"]), none] (.tup [.tup [.tup [.int 0, .int 0, .int 2], .tup [.int 1, .int 0, .int 2], .tup [.int 1, .int 1, .int 2]], .tup [.int 2, .int 1], .tup [.int 1, .int 4, .int 1]]) (.nd (.nd .lf 80404243832848 [some (.obj 3), none, none, none, some (.tup [.tup [.tup [.int 2, .int 1, .int 2], .tup [.int 1, .int 0, .int 2], .tup [.int 1, .int 1, .int 2]], .tup [.int 1, .int 0], .tup [.int 2, .int 3, .int 0]]), some (.tup [.str "put"]), none] (.tup [.tup [.tup [.int 1, .int 0, .int 2], .tup [.int 1, .int 1, .int 2], .tup [.int 0, .int 0, .int 1]], .non, .tup [.int 1, .int 3, .int 0]]) .lf) 80404243849247 [some (.obj 3), none, none, none, some (.tup [.tup [.tup [.int 2, .int 1, .int 2], .tup [.int 1, .int 0, .int 2], .tup [.int 1, .int 1, .int 2]], .tup [.int 2, .int 0], .tup [.int 2, .int 5, .int 0]]), some (.tup [.str "read"]), none] (.tup [.tup [.tup [.int 2, .int 1, .int 2], .tup [.int 1, .int 0, .int 2], .tup [.int 1, .int 1, .int 2]], .tup [.int 2, .int 0], .tup [.int 0, .int 1, .int 0]]) .lf))))
def bt_reach_17 : Bt := (.nd (.nd (.nd (.nd (.nd .lf 35805135372801 [some (.obj 3), none, none, none, some (.tup [.tup [.tup [.int 2, .int 0, .int 1], .tup [.int 1, .int 0, .int 1], .tup [.int 0, .int 0, .int 1]], .non, .tup [.int 0, .int 0, .int 1]]), some (.tup [.str "begin", .int 1]), none] (.tup [.tup [.tup [.int 3, .int 0, .int 1], .tup [.int 2, .int 0, .int 1], .tup [.int 1, .int 0, .int 1]], .tup [.int 1, .int 0], .tup [.int 0, .int 1, .int 0]]) .lf) 35805303144967 [some (.obj 3), none, none, none, some (.tup [.tup [.tup [.int 2, .int 1, .int 2], .tup [.int 1, .int 0, .int 1], .tup [.int 0, .int 0, .int 1]], .non, .tup [.int 0, .int 0, .int 1]]), some (.tup [.str "read"]), none] (.tup [.tup [.tup [.int 2, .int 1, .int 2], .tup [.int 1, .int 0, .int 1], .tup [.int 0, .int 0, .int 1]], .non, .tup [.int 0, .int 0, .int 1]]) (.nd .lf 35891166872065 [some (.obj 3), none, none, none, some (.tup [.tup [.tup [.int 1, .int 0, .int 2], .tup [.int 1, .int 1, .int 2], .tup [.int 0, .int 0, .int 1]], .non, .tup [.int 0, .int 4, .int 1]]), some (.tup [.str "begin", .int 1]), none] (.tup [.tup [.tup [.int 2, .int 0, .int 2], .tup [.int 2, .int 1, .int 2], .tup [.int 1, .int 0, .int 1]], .tup [.int 1, .int 0], .tup [.int 0, .int 5, .int 0]]) .lf)) 35891167011330 [some (.obj 3), none, none, none, some (.tup [.tup [.tup [.int 1, .int 0, .int 2], .tup [.int 1, .int 1, .int 2], .tup [.int 0, .int 0, .int 1]], .non, .tup [.int 1, .int 5, .int 1]]), some (.tup [.str "begin", .int 2]), none] (.tup [.tup [.tup [.int 2, .int 0, .int 2], .tup [.int 2, .int 1, .int 2], .tup [.int 1, .int 0, .int 1]], .tup [.int 2, .int 0], .tup [.int 1, .int 5, .int 0]]) (.nd (.nd .lf 35891167142407 [some (.obj 3), none, none, none, some (.tup [.tup [.tup [.int 1, .int 0, .int 2], .tup [.int 1, .int 1, .int 2], .tup [.int 0, .int 0, .int 1]], .non, .tup [.int 2, .int 5, .int 1]]), some (.tup [.str "read"]), none] (.tup [.tup [.tup [.int 1, .int 0, .int 2], .tup [.int 1, .int 1, .int 2], .tup [.int 0, .int 0, .int 1]], .non, .tup [.int 0, .int 0, .int 1]]) .lf) 36355824574488 [some (.obj 3), none, none, none, some (.tup [.tup [.non, .tup [.int 2, .int 0, .int 1], .tup [.int 1, .int 0, .int 1]], .tup [.int 2, .int 0], .tup [.int 1, .int 3, .int 0]]), some (.tup [.str "put"]), none] (.tup [.tup [.tup [.int 0, .int 0, .int 2], .tup [.int 2, .int 0, .int 1], .tup [.int 1, .int 0, .int 1]], .tup [.int 2, .int 1], .tup [.int 1, .int 3, .int 0]]) (.nd .lf 36355967033360 [some (.obj 3), none, none, none, some (.tup [.tup [.tup [.int 3, .int 0, .int 1], .tup [.int 2, .int 0, .int 1], .tup [.int 1, .int 0, .int 1]], .tup [.int 1, .int 0], .tup [.int 0, .int 1, .int 0]]), some (.tup [.str "put"]), none] (.tup [.tup [.tup [.int 2, .int 0, .int 1], .tup [.int 1, .int 0, .int 1], .tup [.int 0, .int 0, .int 1]], .non, .tup [.int 2, .int 1, .int 0]]) .lf))) 36355967066135 [some (.obj 3), none, none, none, some (.tup [.tup [.tup [.int 3, .int 0, .int 1], .tup [.int 2, .int 0, .int 1], .tup [.int 1, .int 0, .int 1]], .tup [.int 1, .int 0], .tup [.int 0, .int 5, .int 0]]), some (.tup [.str "read"]), none] (.tup [.tup [.tup [.int 3, .int 0, .int 1], .tup [.int 2, .int 0, .int 1], .tup [.int 1, .int 0, .int 1]], .tup [.int 1, .int 0], .tup [.int 0, .int 1, .int 0]]) (.nd (.nd (.nd .lf 36355967304208 [some (.obj 3), none, none, none, some (.tup [.tup [.tup [.int 3, .int 0, .int 1], .tup [.int 2, .int 0, .int 1], .tup [.int 1, .int 0, .int 1]], .tup [.int 1, .int 0], .tup [.int 2, .int 2, .int 1]]), some (.tup [.str "put"]), none] (.tup [.tup [.tup [.int 2, .int 0, .int 1], .tup [.int 1, .int 0, .int 1], .tup [.int 0, .int 0, .int 1]], .non, .tup [.int 1, .int 2, .int 1]]) .lf) 36356095124063 [some (.obj 3), none, none, none, some (.tup [.tup [.tup [.int 0, .int 0, .int 2], .tup [.int 2, .int 0, .int 1], .tup [.int 1, .int 0, .int 1]], .tup [.int 2, .int 1], .tup [.int 1, .int 5, .int 1]]), some (.tup [.str "read"]), none] (.tup [.tup [.tup [.int 0, .int 0, .int 2], .tup [.int 2, .int 0, .int 1], .tup [.int 1, .int 0, .int 1]], .tup [.int 2, .int 1], .tup [.int 0, .int 1, .int 0]]) (.nd .lf 36356134838807 [some (.obj 3), none, none, none, some (.tup [.tup [.tup [.int 3, .int 1, .int 2], .tup [.int 2, .int 0, .int 1], .tup [.int 1, .int 0, .int 1]], .tup [.int 1, .int 0], .tup [.int 0, .int 5, .int 1]]), some (.tup [.str "read"]), none] (.tup [.tup [.tup [.int 3, .int 1, .int 2], .tup [.int 2, .int 0, .int 1], .tup [.int 1, .int 0, .int 1]], .tup [.int 1, .int 0], .tup [.int 0, .int 1, .int 0]]) .lf)) 36356135100432 [some (.obj 3), none, none, none, some (.tup [.tup [.tup [.int 3, .int 1, .int 2], .tup [.int 2, .int 0, .int 1], .tup [.int 1, .int 0, .int 1]], .tup [.int 1, .int 0], .tup [.int 2, .int 5, .int 0]]), some (.tup [.str "put"]), none] (.tup [.tup [.tup [.int 2, .int 0, .int 1], .tup [.int 1, .int 0, .int 1], .tup [.int 0, .int 0, .int 1]], .non, .tup [.int 1, .int 5, .int 0]]) (.nd (.nd .lf 36441998516248 [some (.obj 3), none, none, none, some (.tup [.tup [.tup [.int 2, .int 0, .int 2], .tup [.int 2, .int 1, .int 2], .tup [.int 1, .int 0, .int 1]], .tup [.int 2, .int 0], .tup [.int 0, .int 3, .int 0]]), some (.tup [.str "put"]), none] (.tup [.tup [.tup [.int 0, .int 0, .int 2], .tup [.int 2, .int 1, .int 2], .tup [.int 1, .int 0, .int 1]], .tup [.int 2, .int 1], .tup [.int 0, .int 3, .int 0]]) .lf) 36441998532624 [some (.obj 3), none, none, none, some (.tup [.tup [.tup [.int 2, .int 0, .int 2], .tup [.int 2, .int 1, .int 2], .tup [.int 1, .int 0, .int 1]], .tup [.int 1, .int 0], .tup [.int 0, .int 5, .int 0]]), some (.tup [.str "put"]), none] (.tup [.tup [.tup [.int 2, .int 1, .int 2], .tup [.int 1, .int 0, .int 1], .tup [.int 0, .int 0, .int 1]], .non, .tup [.int 2, .int 5, .int 0]]) .lf))) 36441998787096 [some (.obj 3), none, none, none, some (.tup [.tup [.tup [.int 2, .int 0, .int 2], .tup [.int 2, .int 1, .int 2], .tup [.int 1, .int 0, .int 1]], .tup [.int 2, .int 0], .tup [.int 2, .int 4, .int 1]]), some (.tup [.str "put"]), none] (.tup [.tup [.tup [.int 0, .int 0, .int 2], .tup [.int 2, .int 1, .int 2], .tup [.int 1, .int 0, .int 1]], .tup [.int 2, .int 1], .tup [.int 2, .int 4, .int 1]]) (.nd (.nd (.nd (.nd .lf 79853244154369 [some (.obj 3), none, none, none, some (.tup [.tup [.tup [.int 1, .int 0, .int 1], .tup [.int 0, .int 0, .int 2], .tup [.int 0, .int 1, .int 2]], .non, .tup [.int 0, .int 4, .int 1]]), some (.tup [.str "begin", .int 1]), none] (.tup [.tup [.tup [.int 2, .int 0, .int 1], .tup [.int 1, .int 0, .int 2], .tup [.int 1, .int 1, .int 2]], .tup [.int 1, .int 0], .tup [.int 0, .int 5, .int 0]]) .lf) 79853244260353 [some (.obj 3), none, none, none, some (.tup [.tup [.tup [.int 1, .int 0, .int 1], .tup [.int 0, .int 0, .int 2], .tup [.int 0, .int 1, .int 2]], .non, .tup [.int 1, .int 1, .int 0]]), some (.tup [.str "begin", .int 1]), none] (.tup [.tup [.tup [.int 2, .int 0, .int 1], .tup [.int 1, .int 0, .int 2], .tup [.int 1, .int 1, .int 2]], .tup [.int 1, .int 0], .tup [.int 1, .int 2, .int 1]]) (.nd .lf 79853244293634 [some (.obj 3), none, none, none, some (.tup [.tup [.tup [.int 1, .int 0, .int 1], .tup [.int 0, .int 0, .int 2], .tup [.int 0, .int 1, .int 2]], .non, .tup [.int 1, .int 5, .int 1]]), some (.tup [.str "begin", .int 2]), none] (.tup [.tup [.tup [.int 2, .int 0, .int 1], .tup [.int 1, .int 0, .int 2], .tup [.int 1, .int 1, .int 2]], .tup [.int 2, .int 0], .tup [.int 1, .int 5, .int 0]]) .lf)) 79853244424711 [some (.obj 3), none, none, none, some (.tup [.tup [.tup [.int 1, .int 0, .int 1], .tup [.int 0, .int 0, .int 2], .tup [.int 0, .int 1, .int 2]], .non, .tup [.int 2, .int 5, .int 1]]), some (.tup [.str "read"]), none] (.tup [.tup [.tup [.int 1, .int 0, .int 1], .tup [.int 0, .int 0, .int 2], .tup [.int 0, .int 1, .int 2]], .non, .tup [.int 0, .int 0, .int 1]]) (.nd (.nd .lf 79853411926535 [some (.obj 3), none, none, none, some (.tup [.tup [.tup [.int 1, .int 1, .int 2], .tup [.int 0, .int 0, .int 2], .tup [.int 0, .int 1, .int 2]], .non, .tup [.int 0, .int 4, .int 1]]), some (.tup [.str "read"]), none] (.tup [.tup [.tup [.int 1, .int 1, .int 2], .tup [.int 0, .int 0, .int 2], .tup [.int 0, .int 1, .int 2]], .non, .tup [.int 0, .int 0, .int 1]]) .lf) 79853412032519 [some (.obj 3), none, none, none, some (.tup [.tup [.tup [.int 1, .int 1, .int 2], .tup [.int 0, .int 0, .int 2], .tup [.int 0, .int 1, .int 2]], .non, .tup [.int 1, .int 1, .int 0]]), some (.tup [.str "read"]), none] (.tup [.tup [.tup [.int 1, .int 1, .int 2], .tup [.int 0, .int 0, .int 2], .tup [.int 0, .int 1, .int 2]], .non, .tup [.int 0, .int 0, .int 1]]) (.nd .lf 79853412172290 [some (.obj 3), none, none, none, some (.tup [.tup [.tup [.int 1, .int 1, .int 2], .tup [.int 0, .int 0, .int 2], .tup [.int 0, .int 1, .int 2]], .non, .tup [.int 2, .int 2, .int 1]]), some (.tup [.str "begin", .int 2]), none] (.tup [.tup [.tup [.int 2, .int 1, .int 2], .tup [.int 1, .int 0, .int 2], .tup [.int 1, .int 1, .int 2]], .tup [.int 2, .int 0], .tup [.int 2, .int 3, .int 0]]) .lf))) 80403935272991 [some (.obj 3), none, none, none, some (.tup [.tup [.non, .tup [.int 1, .int 0, .int 2], .tup [.int 1, .int 1, .int 2]], .tup [.int 2, .int 0], .tup [.int 0, .int 1, .int 0]]), some (.tup [.str "read"]), none] (.tup [.tup [.non, .tup [.int 1, .int 0, .int 2], .tup [.int 1, .int 1, .int 2]], .tup [.int 2, .int 0], .tup [.int 0, .int 1, .int 0]]) (.nd (.nd (.nd .lf 80404075798552 [some (.obj 3), none, none, none, some (.tup [.tup [.tup [.int 2, .int 0, .int 1], .tup [.int 1, .int 0, .int 2], .tup [.int 1, .int 1, .int 2]], .tup [.int 2, .int 0], .tup [.int 0, .int 3, .int 0]]), some (.tup [.str "put"]), none] (.tup [.tup [.tup [.int 0, .int 0, .int 2], .tup [.int 1, .int 0, .int 2], .tup [.int 1, .int 1, .int 2]], .tup [.int 2, .int 1], .tup [.int 0, .int 3, .int 0]]) .lf) 80404075814928 [some (.obj 3), none, none, none, some (.tup [.tup [.tup [.int 2, .int 0, .int 1], .tup [.int 1, .int 0, .int 2], .tup [.int 1, .int 1, .int 2]], .tup [.int 1, .int 0], .tup [.int 0, .int 5, .int 0]]), some (.tup [.str "put"]), none] (.tup [.tup [.tup [.int 1, .int 0, .int 2], .tup [.int 1, .int 1, .int 2], .tup [.int 0, .int 0, .int 1]], .non, .tup [.int 2, .int 5, .int 0]]) (.nd .lf 80404076069400 [some (.obj 3), none, none, none, some (.tup [.tup [.tup [.int 2, .int 0, .int 1], .tup [.int 1, .int 0, .int 2], .tup [.int 1, .int 1, .int 2]], .tup [.int 2, .int 0], .tup [.int 2, .int 4, .int 1]]), some (.tup [.str "put"]), none] (.tup [.tup [.tup [.int 0, .int 0, .int 2], .tup [.int 1, .int 0, .int 2], .tup [.int 1, .int 1, .int 2]], .tup [.int 2, .int 1], .tup [.int 2, .int 4, .int 1]]) .lf)) 80404205945432 [some (.obj 3), none, none, none, some (.tup [.tup [.tup [.int 0, .int 0, .int 2], .tup [.int 1, .int 0, .int 2], .tup [.int 1, .int 1, .int 2]], .tup [.int 2, .int 1], .tup [.int 1, .int 2, .int 1]]), some (.tup [.str "put"]), none] (.tup [.tup [.tup [.int 1, .int 1, .int 2], .tup [.int 0, .int 0, .int 2], .tup [.int 0, .int 1, .int 2]], .non, .tup [.int 2, .int 2, .int 1]]) (.nd (.nd .lf 80404206084191 [some (.obj 3), none, none, none, some (.tup [.tup [.tup [.int 0, .int 0, .int 2], .tup [.int 1, .int 0, .int 2], .tup [.int 1, .int 1, .int 2]], .tup [.int 2, .int 1], .tup [.int 2, .int 3, .int 0]]), some (.tup [.str "read"]), none] (.tup [.tup [.tup [.int 0, .int 0, .int 2], .tup [.int 1, .int 0, .int 2], .tup [.int 1, .int 1, .int 2]], .tup [.int 2, .int 1], .tup [.int 0, .int 1, .int 0]]) .lf) 80404243587600 [some (.obj 3), none, none, none, some (.tup [.tup [.tup [.int 2, .int 1, .int 2], .tup [.int 1, .int 0, .int 2], .tup [.int 1, .int 1, .int 2]], .tup [.int 1, .int 0], .tup [.int 0, .int 5, .int 1]]), some (.tup [.str "put"]), none] (.tup [.tup [.tup [.int 1, .int 0, .int 2], .tup [.int 1, .int 1, .int 2], .tup [.int 0, .int 0, .int 1]], .non, .tup [.int 2, .int 5, .int 1]]) .lf))))
def bt_reach_18 : Bt := (.nd (.nd (.nd (.nd (.nd .lf 35804994863617 [some (.obj 3), none, none, none, some (.tup [.tup [.non, .tup [.int 1, .int 0, .int 1], .tup [.int 0, .int 0, .int 1]], .non, .tup [.int 0, .int 0, .int 1]]), some (.tup [.str "begin", .int 1]), none] (.tup [.tup [.non, .tup [.int 2, .int 0, .int 1], .tup [.int 1, .int 0, .int 1]], .tup [.int 1, .int 0], .tup [.int 0, .int 1, .int 0]]) .lf) 35805135372802 [some (.obj 3), none, none, none, some (.tup [.tup [.tup [.int 2, .int 0, .int 1], .tup [.int 1, .int 0, .int 1], .tup [.int 0, .int 0, .int 1]], .non, .tup [.int 0, .int 0, .int 1]]), some (.tup [.str "begin", .int 2]), none] (.tup [.tup [.tup [.int 3, .int 0, .int 1], .tup [.int 2, .int 0, .int 1], .tup [.int 1, .int 0, .int 1]], .tup [.int 2, .int 0], .tup [.int 0, .int 1, .int 0]]) (.nd .lf 35891166872066 [some (.obj 3), none, none, none, some (.tup [.tup [.tup [.int 1, .int 0, .int 2], .tup [.int 1, .int 1, .int 2], .tup [.int 0, .int 0, .int 1]], .non, .tup [.int 0, .int 4, .int 1]]), some (.tup [.str "begin", .int 2]), none] (.tup [.tup [.tup [.int 2, .int 0, .int 2], .tup [.int 2, .int 1, .int 2], .tup [.int 1, .int 0, .int 1]], .tup [.int 2, .int 0], .tup [.int 0, .int 5, .int 0]]) .lf)) 35891167003143 [some (.obj 3), none, none, none, some (.tup [.tup [.tup [.int 1, .int 0, .int 2], .tup [.int 1, .int 1, .int 2], .tup [.int 0, .int 0, .int 1]], .non, .tup [.int 1, .int 4, .int 1]]), some (.tup [.str "read"]), none] (.tup [.tup [.tup [.int 1, .int 0, .int 2], .tup [.int 1, .int 1, .int 2], .tup [.int 0, .int 0, .int 1]], .non, .tup [.int 0, .int 0, .int 1]]) (.nd (.nd .lf 35891167109127 [some (.obj 3), none, none, none, some (.tup [.tup [.tup [.int 1, .int 0, .int 2], .tup [.int 1, .int 1, .int 2], .tup [.int 0, .int 0, .int 1]], .non, .tup [.int 2, .int 1, .int 0]]), some (.tup [.str "read"]), none] (.tup [.tup [.tup [.int 1, .int 0, .int 2], .tup [.int 1, .int 1, .int 2], .tup [.int 0, .int 0, .int 1]], .non, .tup [.int 0, .int 0, .int 1]]) .lf) 36355967066136 [some (.obj 3), none, none, none, some (.tup [.tup [.tup [.int 3, .int 0, .int 1], .tup [.int 2, .int 0, .int 1], .tup [.int 1, .int 0, .int 1]], .tup [.int 2, .int 0], .tup [.int 0, .int 5, .int 0]]), some (.tup [.str "put"]), none] (.tup [.tup [.tup [.int 0, .int 0, .int 2], .tup [.int 2, .int 0, .int 1], .tup [.int 1, .int 0, .int 1]], .tup [.int 2, .int 1], .tup [.int 0, .int 5, .int 0]]) .lf)) 36355967197719 [some (.obj 3), none, none, none, some (.tup [.tup [.tup [.int 3, .int 0, .int 1], .tup [.int 2, .int 0, .int 1], .tup [.int 1, .int 0, .int 1]], .tup [.int 1, .int 0], .tup [.int 1, .int 5, .int 1]]), some (.tup [.str "read"]), none] (.tup [.tup [.tup [.int 3, .int 0, .int 1], .tup [.int 2, .int 0, .int 1], .tup [.int 1, .int 0, .int 1]], .tup [.int 1, .int 0], .tup [.int 0, .int 1, .int 0]]) (.nd (.nd (.nd .lf 36356094984799 [some (.obj 3), none, none, none, some (.tup [.tup [.tup [.int 0, .int 0, .int 2], .tup [.int 2, .int 0, .int 1], .tup [.int 1, .int 0, .int 1]], .tup [.int 2, .int 1], .tup [.int 0, .int 4, .int 1]]), some (.tup [.str "read"]), none] (.tup [.tup [.tup [.int 0, .int 0, .int 2], .tup [.int 2, .int 0, .int 1], .tup [.int 1, .int 0, .int 1]], .tup [.int 2, .int 1], .tup [.int 0, .int 1, .int 0]]) .lf) 36356134805527 [some (.obj 3), none, none, none, some (.tup [.tup [.tup [.int 3, .int 1, .int 2], .tup [.int 2, .int 0, .int 1], .tup [.int 1, .int 0, .int 1]], .tup [.int 1, .int 0], .tup [.int 0, .int 1, .int 0]]), some (.tup [.str "read"]), none] (.tup [.tup [.tup [.int 3, .int 1, .int 2], .tup [.int 2, .int 0, .int 1], .tup [.int 1, .int 0, .int 1]], .tup [.int 1, .int 0], .tup [.int 0, .int 1, .int 0]]) .lf) 36356134838808 [some (.obj 3), none, none, none, some (.tup [.tup [.tup [.int 3, .int 1, .int 2], .tup [.int 2, .int 0, .int 1], .tup [.int 1, .int 0, .int 1]], .tup [.int 2, .int 0], .tup [.int 0, .int 5, .int 1]]), some (.tup [.str "put"]), none] (.tup [.tup [.tup [.int 0, .int 0, .int 2], .tup [.int 2, .int 0, .int 1], .tup [.int 1, .int 0, .int 1]], .tup [.int 2, .int 1], .tup [.int 0, .int 5, .int 1]]) (.nd (.nd .lf 36356135076375 [some (.obj 3), none, none, none, some (.tup [.tup [.tup [.int 3, .int 1, .int 2], .tup [.int 2, .int 0, .int 1], .tup [.int 1, .int 0, .int 1]], .tup [.int 1, .int 0], .tup [.int 2, .int 2, .int 1]]), some (.tup [.str "read"]), none] (.tup [.tup [.tup [.int 3, .int 1, .int 2], .tup [.int 2, .int 0, .int 1], .tup [.int 1, .int 0, .int 1]], .tup [.int 1, .int 0], .tup [.int 0, .int 1, .int 0]]) .lf) 36441994322015 [some (.obj 3), none, none, none, some (.tup [.tup [.tup [.int 0, .int 0, .int 2], .tup [.int 2, .int 1, .int 2], .tup [.int 1, .int 0, .int 1]], .tup [.int 2, .int 1], .tup [.int 0, .int 3, .int 0]]), some (.tup [.str "read"]), none] (.tup [.tup [.tup [.int 0, .int 0, .int 2], .tup [.int 2, .int 1, .int 2], .tup [.int 1, .int 0, .int 1]], .tup [.int 2, .int 1], .tup [.int 2, .int 0, .int 1]]) .lf))) 36441994560088 [some (.obj 3), none, none, none, some (.tup [.tup [.tup [.int 0, .int 0, .int 2], .tup [.int 2, .int 1, .int 2], .tup [.int 1, .int 0, .int 1]], .tup [.int 2, .int 1], .tup [.int 2, .int 0, .int 1]]), some (.tup [.str "put"]), none] (.tup [.tup [.tup [.int 1, .int 0, .int 1], .tup [.int 0, .int 0, .int 2], .tup [.int 0, .int 1, .int 2]], .non, .tup [.int 0, .int 0, .int 1]]) (.nd (.nd (.nd (.nd .lf 36441994592863 [some (.obj 3), none, none, none, some (.tup [.tup [.tup [.int 0, .int 0, .int 2], .tup [.int 2, .int 1, .int 2], .tup [.int 1, .int 0, .int 1]], .tup [.int 2, .int 1], .tup [.int 2, .int 4, .int 1]]), some (.tup [.str "read"]), none] (.tup [.tup [.tup [.int 0, .int 0, .int 2], .tup [.int 2, .int 1, .int 2], .tup [.int 1, .int 0, .int 1]], .tup [.int 2, .int 1], .tup [.int 0, .int 1, .int 0]]) .lf) 36441998664208 [some (.obj 3), none, none, none, some (.tup [.tup [.tup [.int 2, .int 0, .int 2], .tup [.int 2, .int 1, .int 2], .tup [.int 1, .int 0, .int 1]], .tup [.int 1, .int 0], .tup [.int 1, .int 5, .int 1]]), some (.tup [.str "put"]), none] (.tup [.tup [.tup [.int 2, .int 1, .int 2], .tup [.int 1, .int 0, .int 1], .tup [.int 0, .int 0, .int 1]], .non, .tup [.int 0, .int 5, .int 1]]) .lf) 79853244154370 [some (.obj 3), none, none, none, some (.tup [.tup [.tup [.int 1, .int 0, .int 1], .tup [.int 0, .int 0, .int 2], .tup [.int 0, .int 1, .int 2]], .non, .tup [.int 0, .int 4, .int 1]]), some (.tup [.str "begin", .int 2]), none] (.tup [.tup [.tup [.int 2, .int 0, .int 1], .tup [.int 1, .int 0, .int 2], .tup [.int 1, .int 1, .int 2]], .tup [.int 2, .int 0], .tup [.int 0, .int 5, .int 0]]) (.nd (.nd .lf 79853244260354 [some (.obj 3), none, none, none, some (.tup [.tup [.tup [.int 1, .int 0, .int 1], .tup [.int 0, .int 0, .int 2], .tup [.int 0, .int 1, .int 2]], .non, .tup [.int 1, .int 1, .int 0]]), some (.tup [.str "begin", .int 2]), none] (.tup [.tup [.tup [.int 2, .int 0, .int 1], .tup [.int 1, .int 0, .int 2], .tup [.int 1, .int 1, .int 2]], .tup [.int 2, .int 0], .tup [.int 1, .int 2, .int 1]]) .lf) 79853244285447 [some (.obj 3), none, none, none, some (.tup [.tup [.tup [.int 1, .int 0, .int 1], .tup [.int 0, .int 0, .int 2], .tup [.int 0, .int 1, .int 2]], .non, .tup [.int 1, .int 4, .int 1]]), some (.tup [.str "read"]), none] (.tup [.tup [.tup [.int 1, .int 0, .int 1], .tup [.int 0, .int 0, .int 2], .tup [.int 0, .int 1, .int 2]], .non, .tup [.int 0, .int 0, .int 1]]) .lf)) 79853411893761 [some (.obj 3), none, none, none, some (.tup [.tup [.tup [.int 1, .int 1, .int 2], .tup [.int 0, .int 0, .int 2], .tup [.int 0, .int 1, .int 2]], .non, .tup [.int 0, .int 0, .int 1]]), some (.tup [.str "begin", .int 1]), none] (.tup [.tup [.tup [.int 2, .int 1, .int 2], .tup [.int 1, .int 0, .int 2], .tup [.int 1, .int 1, .int 2]], .tup [.int 1, .int 0], .tup [.int 0, .int 1, .int 0]]) (.nd (.nd (.nd .lf 80404075946512 [some (.obj 3), none, none, none, some (.tup [.tup [.tup [.int 2, .int 0, .int 1], .tup [.int 1, .int 0, .int 2], .tup [.int 1, .int 1, .int 2]], .tup [.int 1, .int 0], .tup [.int 1, .int 5, .int 1]]), some (.tup [.str "put"]), none] (.tup [.tup [.tup [.int 1, .int 0, .int 2], .tup [.int 1, .int 1, .int 2], .tup [.int 0, .int 0, .int 1]], .non, .tup [.int 0, .int 5, .int 1]]) .lf) 80404205838943 [some (.obj 3), none, none, none, some (.tup [.tup [.tup [.int 0, .int 0, .int 2], .tup [.int 1, .int 0, .int 2], .tup [.int 1, .int 1, .int 2]], .tup [.int 2, .int 1], .tup [.int 0, .int 5, .int 1]]), some (.tup [.str "read"]), none] (.tup [.tup [.tup [.int 0, .int 0, .int 2], .tup [.int 1, .int 0, .int 2], .tup [.int 1, .int 1, .int 2]], .tup [.int 2, .int 1], .tup [.int 0, .int 1, .int 0]]) .lf) 80404206100568 [some (.obj 3), none, none, none, some (.tup [.tup [.tup [.int 0, .int 0, .int 2], .tup [.int 1, .int 0, .int 2], .tup [.int 1, .int 1, .int 2]], .tup [.int 2, .int 1], .tup [.int 2, .int 5, .int 0]]), some (.tup [.str "put"]), none] (.tup [.tup [.tup [.int 1, .int 1, .int 2], .tup [.int 0, .int 0, .int 2], .tup [.int 0, .int 1, .int 2]], .non, .tup [.int 0, .int 5, .int 0]]) (.nd (.nd .lf 80404243554320 [some (.obj 3), none, none, none, some (.tup [.tup [.tup [.int 2, .int 1, .int 2], .tup [.int 1, .int 0, .int 2], .tup [.int 1, .int 1, .int 2]], .tup [.int 1, .int 0], .tup [.int 0, .int 1, .int 0]]), some (.tup [.str "put"]), none] (.tup [.tup [.tup [.int 1, .int 0, .int 2], .tup [.int 1, .int 1, .int 2], .tup [.int 0, .int 0, .int 1]], .non, .tup [.int 2, .int 1, .int 0]]) .lf) 80404243587095 [some (.obj 3), none, none, none, some (.tup [.tup [.tup [.int 2, .int 1, .int 2], .tup [.int 1, .int 0, .int 2], .tup [.int 1, .int 1, .int 2]], .tup [.int 1, .int 0], .tup [.int 0, .int 5, .int 0]]), some (.tup [.str "read"]), none] (.tup [.tup [.tup [.int 2, .int 1, .int 2], .tup [.int 1, .int 0, .int 2], .tup [.int 1, .int 1, .int 2]], .tup [.int 1, .int 0], .tup [.int 0, .int 1, .int 0]]) .lf))))
def bt_reach_19 : Bt := (.nd (.nd (.nd (.nd (.nd .lf 35804994863618 [some (.obj 3), none, none, none, some (.tup [.tup [.non, .tup [.int 1, .int 0, .int 1], .tup [.int 0, .int 0, .int 1]], .non, .tup [.int 0, .int 0, .int 1]]), some (.tup [.str "begin", .int 2]), none] (.tup [.tup [.non, .tup [.int 2, .int 0, .int 1], .tup [.int 1, .int 0, .int 1]], .tup [.int 2, .int 0], .tup [.int 0, .int 1, .int 0]]) .lf) 36283883724823 [some (.obj 3), none, none, none, some (.tup [.tup [.non, .non, .tup [.int 1, .int 0, .int 1]], .tup [.int 1, .int 0], .tup [.int 0, .int 1, .int 0]]), some (.tup [.str "read"]), none] (.tup [.tup [.non, .non, .tup [.int 1, .int 0, .int 1]], .tup [.int 1, .int 0], .tup [.int 0, .int 1, .int 0]]) .lf) 36283883995671 [some (.obj 3), none, none, none, some (.tup [.tup [.non, .non, .tup [.int 1, .int 0, .int 1]], .tup [.int 1, .int 0], .tup [.int 2, .int 2, .int 1]]), some (.tup [.str "read"]), none] (.tup [.tup [.non, .non, .tup [.int 1, .int 0, .int 1]], .tup [.int 1, .int 0], .tup [.int 0, .int 1, .int 0]]) (.nd .lf 36355967058455 [some (.obj 3), none, none, none, some (.tup [.tup [.tup [.int 3, .int 0, .int 1], .tup [.int 2, .int 0, .int 1], .tup [.int 1, .int 0, .int 1]], .tup [.int 1, .int 0], .tup [.int 0, .int 4, .int 1]]), some (.tup [.str "read"]), none] (.tup [.tup [.tup [.int 3, .int 0, .int 1], .tup [.int 2, .int 0, .int 1], .tup [.int 1, .int 0, .int 1]], .tup [.int 1, .int 0], .tup [.int 1, .int 3, .int 0]]) .lf)) 36355967197720 [some (.obj 3), none, none, none, some (.tup [.tup [.tup [.int 3, .int 0, .int 1], .tup [.int 2, .int 0, .int 1], .tup [.int 1, .int 0, .int 1]], .tup [.int 2, .int 0], .tup [.int 1, .int 5, .int 1]]), some (.tup [.str "put"]), none] (.tup [.tup [.tup [.int 0, .int 0, .int 2], .tup [.int 2, .int 0, .int 1], .tup [.int 1, .int 0, .int 1]], .tup [.int 2, .int 1], .tup [.int 1, .int 5, .int 1]]) (.nd (.nd (.nd .lf 36356095107160 [some (.obj 3), none, none, none, some (.tup [.tup [.tup [.int 0, .int 0, .int 2], .tup [.int 2, .int 0, .int 1], .tup [.int 1, .int 0, .int 1]], .tup [.int 2, .int 1], .tup [.int 1, .int 3, .int 0]]), some (.tup [.str "put"]), none] (.tup [.tup [.tup [.int 1, .int 0, .int 1], .tup [.int 0, .int 0, .int 2], .tup [.int 0, .int 1, .int 2]], .non, .tup [.int 2, .int 3, .int 0]]) .lf) 36356134805528 [some (.obj 3), none, none, none, some (.tup [.tup [.tup [.int 3, .int 1, .int 2], .tup [.int 2, .int 0, .int 1], .tup [.int 1, .int 0, .int 1]], .tup [.int 2, .int 0], .tup [.int 0, .int 1, .int 0]]), some (.tup [.str "put"]), none] (.tup [.tup [.tup [.int 0, .int 0, .int 2], .tup [.int 2, .int 0, .int 1], .tup [.int 1, .int 0, .int 1]], .tup [.int 2, .int 1], .tup [.int 0, .int 1, .int 0]]) .lf) 36356134838303 [some (.obj 3), none, none, none, some (.tup [.tup [.tup [.int 3, .int 1, .int 2], .tup [.int 2, .int 0, .int 1], .tup [.int 1, .int 0, .int 1]], .tup [.int 2, .int 0], .tup [.int 0, .int 5, .int 0]]), some (.tup [.str "read"]), none] (.tup [.tup [.tup [.int 3, .int 1, .int 2], .tup [.int 2, .int 0, .int 1], .tup [.int 1, .int 0, .int 1]], .tup [.int 2, .int 0], .tup [.int 0, .int 1, .int 0]]) (.nd .lf 36356135076376 [some (.obj 3), none, none, none, some (.tup [.tup [.tup [.int 3, .int 1, .int 2], .tup [.int 2, .int 0, .int 1], .tup [.int 1, .int 0, .int 1]], .tup [.int 2, .int 0], .tup [.int 2, .int 2, .int 1]]), some (.tup [.str "put"]), none] (.tup [.tup [.tup [.int 0, .int 0, .int 2], .tup [.int 2, .int 0, .int 1], .tup [.int 1, .int 0, .int 1]], .tup [.int 2, .int 1], .tup [.int 2, .int 2, .int 1]]) .lf))) 36356135092752 [some (.obj 3), none, none, none, some (.tup [.tup [.tup [.int 3, .int 1, .int 2], .tup [.int 2, .int 0, .int 1], .tup [.int 1, .int 0, .int 1]], .tup [.int 1, .int 0], .tup [.int 2, .int 4, .int 1]]), some (.tup [.str "put"]), none] (.tup [.tup [.tup [.int 2, .int 0, .int 1], .tup [.int 1, .int 0, .int 1], .tup [.int 0, .int 0, .int 1]], .non, .tup [.int 1, .int 4, .int 1]]) (.nd (.nd (.nd (.nd .lf 36441994338392 [some (.obj 3), none, none, none, some (.tup [.tup [.tup [.int 0, .int 0, .int 2], .tup [.int 2, .int 1, .int 2], .tup [.int 1, .int 0, .int 1]], .tup [.int 2, .int 1], .tup [.int 0, .int 5, .int 0]]), some (.tup [.str "put"]), none] (.tup [.tup [.tup [.int 1, .int 0, .int 1], .tup [.int 0, .int 0, .int 2], .tup [.int 0, .int 1, .int 2]], .non, .tup [.int 1, .int 5, .int 0]]) .lf) 36441998663703 [some (.obj 3), none, none, none, some (.tup [.tup [.tup [.int 2, .int 0, .int 2], .tup [.int 2, .int 1, .int 2], .tup [.int 1, .int 0, .int 1]], .tup [.int 1, .int 0], .tup [.int 1, .int 5, .int 0]]), some (.tup [.str "read"]), none] (.tup [.tup [.tup [.int 2, .int 0, .int 2], .tup [.int 2, .int 1, .int 2], .tup [.int 1, .int 0, .int 1]], .tup [.int 1, .int 0], .tup [.int 0, .int 1, .int 0]]) .lf) 79853411893762 [some (.obj 3), none, none, none, some (.tup [.tup [.tup [.int 1, .int 1, .int 2], .tup [.int 0, .int 0, .int 2], .tup [.int 0, .int 1, .int 2]], .non, .tup [.int 0, .int 0, .int 1]]), some (.tup [.str "begin", .int 2]), none] (.tup [.tup [.tup [.int 2, .int 1, .int 2], .tup [.int 1, .int 0, .int 2], .tup [.int 1, .int 1, .int 2]], .tup [.int 2, .int 0], .tup [.int 0, .int 1, .int 0]]) (.nd .lf 79853412048897 [some (.obj 3), none, none, none, some (.tup [.tup [.tup [.int 1, .int 1, .int 2], .tup [.int 0, .int 0, .int 2], .tup [.int 0, .int 1, .int 2]], .non, .tup [.int 1, .int 3, .int 0]]), some (.tup [.str "begin", .int 1]), none] (.tup [.tup [.tup [.int 2, .int 1, .int 2], .tup [.int 1, .int 0, .int 2], .tup [.int 1, .int 1, .int 2]], .tup [.int 1, .int 0], .tup [.int 1, .int 4, .int 1]]) .lf)) 80404075946007 [some (.obj 3), none, none, none, some (.tup [.tup [.tup [.int 2, .int 0, .int 1], .tup [.int 1, .int 0, .int 2], .tup [.int 1, .int 1, .int 2]], .tup [.int 1, .int 0], .tup [.int 1, .int 5, .int 0]]), some (.tup [.str "read"]), none] (.tup [.tup [.tup [.int 2, .int 0, .int 1], .tup [.int 1, .int 0, .int 2], .tup [.int 1, .int 1, .int 2]], .tup [.int 1, .int 0], .tup [.int 0, .int 1, .int 0]]) (.nd (.nd .lf 80404205805663 [some (.obj 3), none, none, none, some (.tup [.tup [.tup [.int 0, .int 0, .int 2], .tup [.int 1, .int 0, .int 2], .tup [.int 1, .int 1, .int 2]], .tup [.int 2, .int 1], .tup [.int 0, .int 1, .int 0]]), some (.tup [.str "read"]), none] (.tup [.tup [.tup [.int 0, .int 0, .int 2], .tup [.int 1, .int 0, .int 2], .tup [.int 1, .int 1, .int 2]], .tup [.int 2, .int 1], .tup [.int 2, .int 0, .int 1]]) .lf) 80404243587096 [some (.obj 3), none, none, none, some (.tup [.tup [.tup [.int 2, .int 1, .int 2], .tup [.int 1, .int 0, .int 2], .tup [.int 1, .int 1, .int 2]], .tup [.int 2, .int 0], .tup [.int 0, .int 5, .int 0]]), some (.tup [.str "put"]), none] (.tup [.tup [.tup [.int 0, .int 0, .int 2], .tup [.int 1, .int 0, .int 2], .tup [.int 1, .int 1, .int 2]], .tup [.int 2, .int 1], .tup [.int 0, .int 5, .int 0]]) (.nd .lf 80404243718679 [some (.obj 3), none, none, none, some (.tup [.tup [.tup [.int 2, .int 1, .int 2], .tup [.int 1, .int 0, .int 2], .tup [.int 1, .int 1, .int 2]], .tup [.int 1, .int 0], .tup [.int 1, .int 5, .int 1]]), some (.tup [.str "read"]), none] (.tup [.tup [.tup [.int 2, .int 1, .int 2], .tup [.int 1, .int 0, .int 2], .tup [.int 1, .int 1, .int 2]], .tup [.int 1, .int 0], .tup [.int 0, .int 1, .int 0]]) .lf))))
def bt_reach_20 : Bt := (.nd (.nd (.nd (.nd (.nd .lf 8208 [some (.obj 3), none, none, none, some (.tup [.tup [.non, .non, .non], .tup [.int 1, .int 0], .tup [.int 0, .int 1, .int 0]]), some (.tup [.str "put"]), none] (.tup [.tup [.non, .non, .tup [.int 0, .int 0, .int 1]], .non, .tup [.int 2, .int 1, .int 0]]) .lf) 35805135413767 [some (.obj 3), none, none, none, some (.tup [.tup [.tup [.int 2, .int 0, .int 1], .tup [.int 1, .int 0, .int 1], .tup [.int 0, .int 0, .int 1]], .non, .tup [.int 0, .int 5, .int 1]]), some (.tup [.str "read"]), none] (.tup [.tup [.tup [.int 2, .int 0, .int 1], .tup [.int 1, .int 0, .int 1], .tup [.int 0, .int 0, .int 1]], .non, .tup [.int 0, .int 0, .int 1]]) (.nd .lf 35805135520257 [some (.obj 3), none, none, none, some (.tup [.tup [.tup [.int 2, .int 0, .int 1], .tup [.int 1, .int 0, .int 1], .tup [.int 0, .int 0, .int 1]], .non, .tup [.int 1, .int 2, .int 1]]), some (.tup [.str "begin", .int 1]), none] (.tup [.tup [.tup [.int 3, .int 0, .int 1], .tup [.int 2, .int 0, .int 1], .tup [.int 1, .int 0, .int 1]], .tup [.int 1, .int 0], .tup [.int 1, .int 3, .int 0]]) .lf)) 35805303292423 [some (.obj 3), none, none, none, some (.tup [.tup [.tup [.int 2, .int 1, .int 2], .tup [.int 1, .int 0, .int 1], .tup [.int 0, .int 0, .int 1]], .non, .tup [.int 1, .int 2, .int 1]]), some (.tup [.str "read"]), none] (.tup [.tup [.tup [.int 2, .int 1, .int 2], .tup [.int 1, .int 0, .int 1], .tup [.int 0, .int 0, .int 1]], .non, .tup [.int 2, .int 1, .int 0]]) (.nd (.nd .lf 35805303316481 [some (.obj 3), none, none, none, some (.tup [.tup [.tup [.int 2, .int 1, .int 2], .tup [.int 1, .int 0, .int 1], .tup [.int 0, .int 0, .int 1]], .non, .tup [.int 1, .int 5, .int 0]]), some (.tup [.str "begin", .int 1]), none] (.tup [.tup [.tup [.int 3, .int 1, .int 2], .tup [.int 2, .int 0, .int 1], .tup [.int 1, .int 0, .int 1]], .tup [.int 1, .int 0], .tup [.int 1, .int 5, .int 1]]) .lf) 35891167125505 [some (.obj 3), none, none, none, some (.tup [.tup [.tup [.int 1, .int 0, .int 2], .tup [.int 1, .int 1, .int 2], .tup [.int 0, .int 0, .int 1]], .non, .tup [.int 2, .int 3, .int 0]]), some (.tup [.str "begin", .int 1]), none] (.tup [.tup [.tup [.int 2, .int 0, .int 2], .tup [.int 2, .int 1, .int 2], .tup [.int 1, .int 0, .int 1]], .tup [.int 1, .int 0], .tup [.int 2, .int 4, .int 1]]) .lf)) 36283883724824 [some (.obj 3), none, none, none, some (.tup [.tup [.non, .non, .tup [.int 1, .int 0, .int 1]], .tup [.int 2, .int 0], .tup [.int 0, .int 1, .int 0]]), some (.tup [.str "put"]), none] (.tup [.tup [.tup [.int 0, .int 0, .int 2], .non, .tup [.int 1, .int 0, .int 1]], .tup [.int 2, .int 1], .tup [.int 0, .int 1, .int 0]]) (.nd (.nd (.nd .lf 36283883995672 [some (.obj 3), none, none, none, some (.tup [.tup [.non, .non, .tup [.int 1, .int 0, .int 1]], .tup [.int 2, .int 0], .tup [.int 2, .int 2, .int 1]]), some (.tup [.str "put"]), none] (.tup [.tup [.tup [.int 0, .int 0, .int 2], .non, .tup [.int 1, .int 0, .int 1]], .tup [.int 2, .int 1], .tup [.int 2, .int 2, .int 1]]) .lf) 36355967058456 [some (.obj 3), none, none, none, some (.tup [.tup [.tup [.int 3, .int 0, .int 1], .tup [.int 2, .int 0, .int 1], .tup [.int 1, .int 0, .int 1]], .tup [.int 2, .int 0], .tup [.int 0, .int 4, .int 1]]), some (.tup [.str "put"]), none] (.tup [.tup [.tup [.int 0, .int 0, .int 2], .tup [.int 2, .int 0, .int 1], .tup [.int 1, .int 0, .int 1]], .tup [.int 2, .int 1], .tup [.int 0, .int 4, .int 1]]) .lf) 36355967180816 [some (.obj 3), none, none, none, some (.tup [.tup [.tup [.int 3, .int 0, .int 1], .tup [.int 2, .int 0, .int 1], .tup [.int 1, .int 0, .int 1]], .tup [.int 1, .int 0], .tup [.int 1, .int 3, .int 0]]), some (.tup [.str "put"]), none] (.tup [.tup [.tup [.int 2, .int 0, .int 1], .tup [.int 1, .int 0, .int 1], .tup [.int 0, .int 0, .int 1]], .non, .tup [.int 0, .int 3, .int 0]]) (.nd (.nd .lf 36355967197215 [some (.obj 3), none, none, none, some (.tup [.tup [.tup [.int 3, .int 0, .int 1], .tup [.int 2, .int 0, .int 1], .tup [.int 1, .int 0, .int 1]], .tup [.int 2, .int 0], .tup [.int 1, .int 5, .int 0]]), some (.tup [.str "read"]), none] (.tup [.tup [.tup [.int 3, .int 0, .int 1], .tup [.int 2, .int 0, .int 1], .tup [.int 1, .int 0, .int 1]], .tup [.int 2, .int 0], .tup [.int 2, .int 2, .int 1]]) .lf) 36356134969887 [some (.obj 3), none, none, none, some (.tup [.tup [.tup [.int 3, .int 1, .int 2], .tup [.int 2, .int 0, .int 1], .tup [.int 1, .int 0, .int 1]], .tup [.int 2, .int 0], .tup [.int 1, .int 5, .int 1]]), some (.tup [.str "read"]), none] (.tup [.tup [.tup [.int 3, .int 1, .int 2], .tup [.int 2, .int 0, .int 1], .tup [.int 1, .int 0, .int 1]], .tup [.int 2, .int 0], .tup [.int 0, .int 1, .int 0]]) .lf))) 36441994469976 [some (.obj 3), none, none, none, some (.tup [.tup [.tup [.int 0, .int 0, .int 2], .tup [.int 2, .int 1, .int 2], .tup [.int 1, .int 0, .int 1]], .tup [.int 2, .int 1], .tup [.int 1, .int 5, .int 1]]), some (.tup [.str "put"]), none] (.tup [.tup [.tup [.int 1, .int 0, .int 1], .tup [.int 0, .int 0, .int 2], .tup [.int 0, .int 1, .int 2]], .non, .tup [.int 2, .int 5, .int 1]]) (.nd (.nd (.nd (.nd .lf 36441998663704 [some (.obj 3), none, none, none, some (.tup [.tup [.tup [.int 2, .int 0, .int 2], .tup [.int 2, .int 1, .int 2], .tup [.int 1, .int 0, .int 1]], .tup [.int 2, .int 0], .tup [.int 1, .int 5, .int 0]]), some (.tup [.str "put"]), none] (.tup [.tup [.tup [.int 0, .int 0, .int 2], .tup [.int 2, .int 1, .int 2], .tup [.int 1, .int 0, .int 1]], .tup [.int 2, .int 1], .tup [.int 1, .int 5, .int 0]]) .lf) 36441998795287 [some (.obj 3), none, none, none, some (.tup [.tup [.tup [.int 2, .int 0, .int 2], .tup [.int 2, .int 1, .int 2], .tup [.int 1, .int 0, .int 1]], .tup [.int 1, .int 0], .tup [.int 2, .int 5, .int 1]]), some (.tup [.str "read"]), none] (.tup [.tup [.tup [.int 2, .int 0, .int 2], .tup [.int 2, .int 1, .int 2], .tup [.int 1, .int 0, .int 1]], .tup [.int 1, .int 0], .tup [.int 0, .int 1, .int 0]]) .lf) 79853105709575 [some (.obj 3), none, none, none, some (.tup [.tup [.non, .tup [.int 0, .int 0, .int 2], .tup [.int 0, .int 1, .int 2]], .non, .tup [.int 0, .int 0, .int 1]]), some (.tup [.str "read"]), none] (.tup [.tup [.non, .tup [.int 0, .int 0, .int 2], .tup [.int 0, .int 1, .int 2]], .non, .tup [.int 0, .int 0, .int 1]]) (.nd (.nd .lf 79853244407809 [some (.obj 3), none, none, none, some (.tup [.tup [.tup [.int 1, .int 0, .int 1], .tup [.int 0, .int 0, .int 2], .tup [.int 0, .int 1, .int 2]], .non, .tup [.int 2, .int 3, .int 0]]), some (.tup [.str "begin", .int 1]), none] (.tup [.tup [.tup [.int 2, .int 0, .int 1], .tup [.int 1, .int 0, .int 2], .tup [.int 1, .int 1, .int 2]], .tup [.int 1, .int 0], .tup [.int 2, .int 4, .int 1]]) .lf) 79853412048898 [some (.obj 3), none, none, none, some (.tup [.tup [.tup [.int 1, .int 1, .int 2], .tup [.int 0, .int 0, .int 2], .tup [.int 0, .int 1, .int 2]], .non, .tup [.int 1, .int 3, .int 0]]), some (.tup [.str "begin", .int 2]), none] (.tup [.tup [.tup [.int 2, .int 1, .int 2], .tup [.int 1, .int 0, .int 2], .tup [.int 1, .int 1, .int 2]], .tup [.int 2, .int 0], .tup [.int 1, .int 4, .int 1]]) .lf)) 80404075946008 [some (.obj 3), none, none, none, some (.tup [.tup [.tup [.int 2, .int 0, .int 1], .tup [.int 1, .int 0, .int 2], .tup [.int 1, .int 1, .int 2]], .tup [.int 2, .int 0], .tup [.int 1, .int 5, .int 0]]), some (.tup [.str "put"]), none] (.tup [.tup [.tup [.int 0, .int 0, .int 2], .tup [.int 1, .int 0, .int 2], .tup [.int 1, .int 1, .int 2]], .tup [.int 2, .int 1], .tup [.int 1, .int 5, .int 0]]) (.nd (.nd (.nd .lf 80404076077591 [some (.obj 3), none, none, none, some (.tup [.tup [.tup [.int 2, .int 0, .int 1], .tup [.int 1, .int 0, .int 2], .tup [.int 1, .int 1, .int 2]], .tup [.int 1, .int 0], .tup [.int 2, .int 5, .int 1]]), some (.tup [.str "read"]), none] (.tup [.tup [.tup [.int 2, .int 0, .int 1], .tup [.int 1, .int 0, .int 2], .tup [.int 1, .int 1, .int 2]], .tup [.int 1, .int 0], .tup [.int 0, .int 1, .int 0]]) .lf) 80404205822040 [some (.obj 3), none, none, none, some (.tup [.tup [.tup [.int 0, .int 0, .int 2], .tup [.int 1, .int 0, .int 2], .tup [.int 1, .int 1, .int 2]], .tup [.int 2, .int 1], .tup [.int 0, .int 3, .int 0]]), some (.tup [.str "put"]), none] (.tup [.tup [.tup [.int 1, .int 1, .int 2], .tup [.int 0, .int 0, .int 2], .tup [.int 0, .int 1, .int 2]], .non, .tup [.int 1, .int 3, .int 0]]) .lf) 80404206092888 [some (.obj 3), none, none, none, some (.tup [.tup [.tup [.int 0, .int 0, .int 2], .tup [.int 1, .int 0, .int 2], .tup [.int 1, .int 1, .int 2]], .tup [.int 2, .int 1], .tup [.int 2, .int 4, .int 1]]), some (.tup [.str "put"]), none] (.tup [.tup [.tup [.int 1, .int 1, .int 2], .tup [.int 0, .int 0, .int 2], .tup [.int 0, .int 1, .int 2]], .non, .tup [.int 0, .int 4, .int 1]]) (.nd (.nd .lf 80404243579415 [some (.obj 3), none, none, none, some (.tup [.tup [.tup [.int 2, .int 1, .int 2], .tup [.int 1, .int 0, .int 2], .tup [.int 1, .int 1, .int 2]], .tup [.int 1, .int 0], .tup [.int 0, .int 4, .int 1]]), some (.tup [.str "read"]), none] (.tup [.tup [.tup [.int 2, .int 1, .int 2], .tup [.int 1, .int 0, .int 2], .tup [.int 1, .int 1, .int 2]], .tup [.int 1, .int 0], .tup [.int 0, .int 1, .int 0]]) .lf) 80404243718680 [some (.obj 3), none, none, none, some (.tup [.tup [.tup [.int 2, .int 1, .int 2], .tup [.int 1, .int 0, .int 2], .tup [.int 1, .int 1, .int 2]], .tup [.int 2, .int 0], .tup [.int 1, .int 5, .int 1]]), some (.tup [.str "put"]), none] (.tup [.tup [.tup [.int 0, .int 0, .int 2], .tup [.int 1, .int 0, .int 2], .tup [.int 1, .int 1, .int 2]], .tup [.int 2, .int 1], .tup [.int 1, .int 5, .int 1]]) .lf))))
def bt_reach_21 : Bt := (.nd (.nd (.nd (.nd (.nd .lf 35734128173063 [some (.obj 3), none, none, none, some (.tup [.tup [.non, .non, .tup [.int 0, .int 0, .int 1]], .non, .tup [.int 2, .int 1, .int 0]]), some (.tup [.str "read"]), none] (.tup [.tup [.non, .non, .tup [.int 0, .int 0, .int 1]], .non, .tup [.int 0, .int 0, .int 1]]) .lf) 35804995011073 [some (.obj 3), none, none, none, some (.tup [.tup [.non, .tup [.int 1, .int 0, .int 1], .tup [.int 0, .int 0, .int 1]], .non, .tup [.int 1, .int 2, .int 1]]), some (.tup [.str "begin", .int 1]), none] (.tup [.tup [.non, .tup [.int 2, .int 0, .int 1], .tup [.int 1, .int 0, .int 1]], .tup [.int 1, .int 0], .tup [.int 1, .int 3, .int 0]]) (.nd .lf 35805135520258 [some (.obj 3), none, none, none, some (.tup [.tup [.tup [.int 2, .int 0, .int 1], .tup [.int 1, .int 0, .int 1], .tup [.int 0, .int 0, .int 1]], .non, .tup [.int 1, .int 2, .int 1]]), some (.tup [.str "begin", .int 2]), none] (.tup [.tup [.tup [.int 3, .int 0, .int 1], .tup [.int 2, .int 0, .int 1], .tup [.int 1, .int 0, .int 1]], .tup [.int 2, .int 0], .tup [.int 1, .int 3, .int 0]]) .lf)) 35805135675393 [some (.obj 3), none, none, none, some (.tup [.tup [.tup [.int 2, .int 0, .int 1], .tup [.int 1, .int 0, .int 1], .tup [.int 0, .int 0, .int 1]], .non, .tup [.int 2, .int 5, .int 0]]), some (.tup [.str "begin", .int 1]), none] (.tup [.tup [.tup [.int 3, .int 0, .int 1], .tup [.int 2, .int 0, .int 1], .tup [.int 1, .int 0, .int 1]], .tup [.int 1, .int 0], .tup [.int 2, .int 5, .int 1]]) (.nd (.nd .lf 35805303316482 [some (.obj 3), none, none, none, some (.tup [.tup [.tup [.int 2, .int 1, .int 2], .tup [.int 1, .int 0, .int 1], .tup [.int 0, .int 0, .int 1]], .non, .tup [.int 1, .int 5, .int 0]]), some (.tup [.str "begin", .int 2]), none] (.tup [.tup [.tup [.int 3, .int 1, .int 2], .tup [.int 2, .int 0, .int 1], .tup [.int 1, .int 0, .int 1]], .tup [.int 2, .int 0], .tup [.int 1, .int 5, .int 1]]) .lf) 35805303447559 [some (.obj 3), none, none, none, some (.tup [.tup [.tup [.int 2, .int 1, .int 2], .tup [.int 1, .int 0, .int 1], .tup [.int 0, .int 0, .int 1]], .non, .tup [.int 2, .int 5, .int 0]]), some (.tup [.str "read"]), none] (.tup [.tup [.tup [.int 2, .int 1, .int 2], .tup [.int 1, .int 0, .int 1], .tup [.int 0, .int 0, .int 1]], .non, .tup [.int 0, .int 0, .int 1]]) .lf)) 35805303448065 [some (.obj 3), none, none, none, some (.tup [.tup [.tup [.int 2, .int 1, .int 2], .tup [.int 1, .int 0, .int 1], .tup [.int 0, .int 0, .int 1]], .non, .tup [.int 2, .int 5, .int 1]]), some (.tup [.str "begin", .int 1]), none] (.tup [.tup [.tup [.int 3, .int 1, .int 2], .tup [.int 2, .int 0, .int 1], .tup [.int 1, .int 0, .int 1]], .tup [.int 1, .int 0], .tup [.int 2, .int 5, .int 0]]) (.nd (.nd (.nd .lf 35891166879751 [some (.obj 3), none, none, none, some (.tup [.tup [.tup [.int 1, .int 0, .int 2], .tup [.int 1, .int 1, .int 2], .tup [.int 0, .int 0, .int 1]], .non, .tup [.int 0, .int 5, .int 0]]), some (.tup [.str "read"]), none] (.tup [.tup [.tup [.int 1, .int 0, .int 2], .tup [.int 1, .int 1, .int 2], .tup [.int 0, .int 0, .int 1]], .non, .tup [.int 0, .int 0, .int 1]]) .lf) 35891166880257 [some (.obj 3), none, none, none, some (.tup [.tup [.tup [.int 1, .int 0, .int 2], .tup [.int 1, .int 1, .int 2], .tup [.int 0, .int 0, .int 1]], .non, .tup [.int 0, .int 5, .int 1]]), some (.tup [.str "begin", .int 1]), none] (.tup [.tup [.tup [.int 2, .int 0, .int 2], .tup [.int 2, .int 1, .int 2], .tup [.int 1, .int 0, .int 1]], .tup [.int 1, .int 0], .tup [.int 0, .int 5, .int 0]]) (.nd .lf 35891167125506 [some (.obj 3), none, none, none, some (.tup [.tup [.tup [.int 1, .int 0, .int 2], .tup [.int 1, .int 1, .int 2], .tup [.int 0, .int 0, .int 1]], .non, .tup [.int 2, .int 3, .int 0]]), some (.tup [.str "begin", .int 2]), none] (.tup [.tup [.tup [.int 2, .int 0, .int 2], .tup [.int 2, .int 1, .int 2], .tup [.int 1, .int 0, .int 1]], .tup [.int 2, .int 0], .tup [.int 2, .int 4, .int 1]]) .lf)) 36284154511967 [some (.obj 3), none, none, none, some (.tup [.tup [.tup [.int 0, .int 0, .int 2], .non, .tup [.int 1, .int 0, .int 1]], .tup [.int 2, .int 1], .tup [.int 2, .int 0, .int 1]]), some (.tup [.str "read"]), none] (.tup [.tup [.tup [.int 0, .int 0, .int 2], .non, .tup [.int 1, .int 0, .int 1]], .tup [.int 2, .int 1], .tup [.int 0, .int 1, .int 0]]) (.nd (.nd .lf 36355824427039 [some (.obj 3), none, none, none, some (.tup [.tup [.non, .tup [.int 2, .int 0, .int 1], .tup [.int 1, .int 0, .int 1]], .tup [.int 2, .int 0], .tup [.int 0, .int 1, .int 0]]), some (.tup [.str "read"]), none] (.tup [.tup [.non, .tup [.int 2, .int 0, .int 1], .tup [.int 1, .int 0, .int 1]], .tup [.int 2, .int 0], .tup [.int 0, .int 1, .int 0]]) .lf) 36355824697887 [some (.obj 3), none, none, none, some (.tup [.tup [.non, .tup [.int 2, .int 0, .int 1], .tup [.int 1, .int 0, .int 1]], .tup [.int 2, .int 0], .tup [.int 2, .int 2, .int 1]]), some (.tup [.str "read"]), none] (.tup [.tup [.non, .tup [.int 2, .int 0, .int 1], .tup [.int 1, .int 0, .int 1]], .tup [.int 2, .int 0], .tup [.int 0, .int 1, .int 0]]) .lf))) 36355967328799 [some (.obj 3), none, none, none, some (.tup [.tup [.tup [.int 3, .int 0, .int 1], .tup [.int 2, .int 0, .int 1], .tup [.int 1, .int 0, .int 1]], .tup [.int 2, .int 0], .tup [.int 2, .int 5, .int 1]]), some (.tup [.str "read"]), none] (.tup [.tup [.tup [.int 3, .int 0, .int 1], .tup [.int 2, .int 0, .int 1], .tup [.int 1, .int 0, .int 1]], .tup [.int 2, .int 0], .tup [.int 0, .int 1, .int 0]]) (.nd (.nd (.nd (.nd .lf 36356134952983 [some (.obj 3), none, none, none, some (.tup [.tup [.tup [.int 3, .int 1, .int 2], .tup [.int 2, .int 0, .int 1], .tup [.int 1, .int 0, .int 1]], .tup [.int 1, .int 0], .tup [.int 1, .int 3, .int 0]]), some (.tup [.str "read"]), none] (.tup [.tup [.tup [.int 3, .int 1, .int 2], .tup [.int 2, .int 0, .int 1], .tup [.int 1, .int 0, .int 1]], .tup [.int 1, .int 0], .tup [.int 2, .int 2, .int 1]]) .lf) 36441994469471 [some (.obj 3), none, none, none, some (.tup [.tup [.tup [.int 0, .int 0, .int 2], .tup [.int 2, .int 1, .int 2], .tup [.int 1, .int 0, .int 1]], .tup [.int 2, .int 1], .tup [.int 1, .int 5, .int 0]]), some (.tup [.str "read"]), none] (.tup [.tup [.tup [.int 0, .int 0, .int 2], .tup [.int 2, .int 1, .int 2], .tup [.int 1, .int 0, .int 1]], .tup [.int 2, .int 1], .tup [.int 0, .int 1, .int 0]]) (.nd .lf 36441998656023 [some (.obj 3), none, none, none, some (.tup [.tup [.tup [.int 2, .int 0, .int 2], .tup [.int 2, .int 1, .int 2], .tup [.int 1, .int 0, .int 1]], .tup [.int 1, .int 0], .tup [.int 1, .int 4, .int 1]]), some (.tup [.str "read"]), none] (.tup [.tup [.tup [.int 2, .int 0, .int 2], .tup [.int 2, .int 1, .int 2], .tup [.int 1, .int 0, .int 1]], .tup [.int 1, .int 0], .tup [.int 0, .int 1, .int 0]]) .lf)) 36441998795288 [some (.obj 3), none, none, none, some (.tup [.tup [.tup [.int 2, .int 0, .int 2], .tup [.int 2, .int 1, .int 2], .tup [.int 1, .int 0, .int 1]], .tup [.int 2, .int 0], .tup [.int 2, .int 5, .int 1]]), some (.tup [.str "put"]), none] (.tup [.tup [.tup [.int 0, .int 0, .int 2], .tup [.int 2, .int 1, .int 2], .tup [.int 1, .int 0, .int 1]], .tup [.int 2, .int 1], .tup [.int 2, .int 5, .int 1]]) (.nd (.nd .lf 79853244162055 [some (.obj 3), none, none, none, some (.tup [.tup [.tup [.int 1, .int 0, .int 1], .tup [.int 0, .int 0, .int 2], .tup [.int 0, .int 1, .int 2]], .non, .tup [.int 0, .int 5, .int 0]]), some (.tup [.str "read"]), none] (.tup [.tup [.tup [.int 1, .int 0, .int 1], .tup [.int 0, .int 0, .int 2], .tup [.int 0, .int 1, .int 2]], .non, .tup [.int 0, .int 0, .int 1]]) .lf) 79853244162561 [some (.obj 3), none, none, none, some (.tup [.tup [.tup [.int 1, .int 0, .int 1], .tup [.int 0, .int 0, .int 2], .tup [.int 0, .int 1, .int 2]], .non, .tup [.int 0, .int 5, .int 1]]), some (.tup [.str "begin", .int 1]), none] (.tup [.tup [.tup [.int 2, .int 0, .int 1], .tup [.int 1, .int 0, .int 2], .tup [.int 1, .int 1, .int 2]], .tup [.int 1, .int 0], .tup [.int 0, .int 5, .int 0]]) .lf)) 79853244407810 [some (.obj 3), none, none, none, some (.tup [.tup [.tup [.int 1, .int 0, .int 1], .tup [.int 0, .int 0, .int 2], .tup [.int 0, .int 1, .int 2]], .non, .tup [.int 2, .int 3, .int 0]]), some (.tup [.str "begin", .int 2]), none] (.tup [.tup [.tup [.int 2, .int 0, .int 1], .tup [.int 1, .int 0, .int 2], .tup [.int 1, .int 1, .int 2]], .tup [.int 2, .int 0], .tup [.int 2, .int 4, .int 1]]) (.nd (.nd (.nd .lf 79853411934727 [some (.obj 3), none, none, none, some (.tup [.tup [.tup [.int 1, .int 1, .int 2], .tup [.int 0, .int 0, .int 2], .tup [.int 0, .int 1, .int 2]], .non, .tup [.int 0, .int 5, .int 1]]), some (.tup [.str "read"]), none] (.tup [.tup [.tup [.int 1, .int 1, .int 2], .tup [.int 0, .int 0, .int 2], .tup [.int 0, .int 1, .int 2]], .non, .tup [.int 0, .int 0, .int 1]]) .lf) 80404075921951 [some (.obj 3), none, none, none, some (.tup [.tup [.tup [.int 2, .int 0, .int 1], .tup [.int 1, .int 0, .int 2], .tup [.int 1, .int 1, .int 2]], .tup [.int 2, .int 0], .tup [.int 1, .int 2, .int 1]]), some (.tup [.str "read"]), none] (.tup [.tup [.tup [.int 2, .int 0, .int 1], .tup [.int 1, .int 0, .int 2], .tup [.int 1, .int 1, .int 2]], .tup [.int 2, .int 0], .tup [.int 0, .int 1, .int 0]]) (.nd .lf 80404075938327 [some (.obj 3), none, none, none, some (.tup [.tup [.tup [.int 2, .int 0, .int 1], .tup [.int 1, .int 0, .int 2], .tup [.int 1, .int 1, .int 2]], .tup [.int 1, .int 0], .tup [.int 1, .int 4, .int 1]]), some (.tup [.str "read"]), none] (.tup [.tup [.tup [.int 2, .int 0, .int 1], .tup [.int 1, .int 0, .int 2], .tup [.int 1, .int 1, .int 2]], .tup [.int 1, .int 0], .tup [.int 0, .int 1, .int 0]]) .lf)) 80404076077592 [some (.obj 3), none, none, none, some (.tup [.tup [.tup [.int 2, .int 0, .int 1], .tup [.int 1, .int 0, .int 2], .tup [.int 1, .int 1, .int 2]], .tup [.int 2, .int 0], .tup [.int 2, .int 5, .int 1]]), some (.tup [.str "put"]), none] (.tup [.tup [.tup [.int 0, .int 0, .int 2], .tup [.int 1, .int 0, .int 2], .tup [.int 1, .int 1, .int 2]], .tup [.int 2, .int 1], .tup [.int 2, .int 5, .int 1]]) (.nd (.nd .lf 80404243579416 [some (.obj 3), none, none, none, some (.tup [.tup [.tup [.int 2, .int 1, .int 2], .tup [.int 1, .int 0, .int 2], .tup [.int 1, .int 1, .int 2]], .tup [.int 2, .int 0], .tup [.int 0, .int 4, .int 1]]), some (.tup [.str "put"]), none] (.tup [.tup [.tup [.int 0, .int 0, .int 2], .tup [.int 1, .int 0, .int 2], .tup [.int 1, .int 1, .int 2]], .tup [.int 2, .int 1], .tup [.int 0, .int 4, .int 1]]) .lf) 80404243718175 [some (.obj 3), none, none, none, some (.tup [.tup [.tup [.int 2, .int 1, .int 2], .tup [.int 1, .int 0, .int 2], .tup [.int 1, .int 1, .int 2]], .tup [.int 2, .int 0], .tup [.int 1, .int 5, .int 0]]), some (.tup [.str "read"]), none] (.tup [.tup [.tup [.int 2, .int 1, .int 2], .tup [.int 1, .int 0, .int 2], .tup [.int 1, .int 1, .int 2]], .tup [.int 2, .int 0], .tup [.int 0, .int 1, .int 0]]) .lf))))
def bt_reach_22 : Bt := (.nd (.nd (.nd (.nd (.nd .lf 270795352 [some (.obj 3), none, none, none, some (.tup [.tup [.tup [.int 0, .int 0, .int 2], .non, .non], .tup [.int 2, .int 1], .tup [.int 2, .int 0, .int 1]]), some (.tup [.str "put"]), none] (.tup [.tup [.non, .tup [.int 0, .int 0, .int 2], .tup [.int 0, .int 1, .int 2]], .non, .tup [.int 0, .int 0, .int 1]]) .lf) 35804995011074 [some (.obj 3), none, none, none, some (.tup [.tup [.non, .tup [.int 1, .int 0, .int 1], .tup [.int 0, .int 0, .int 1]], .non, .tup [.int 1, .int 2, .int 1]]), some (.tup [.str "begin", .int 2]), none] (.tup [.tup [.non, .tup [.int 2, .int 0, .int 1], .tup [.int 1, .int 0, .int 1]], .tup [.int 2, .int 0], .tup [.int 1, .int 3, .int 0]]) (.nd .lf 35805135675394 [some (.obj 3), none, none, none, some (.tup [.tup [.tup [.int 2, .int 0, .int 1], .tup [.int 1, .int 0, .int 1], .tup [.int 0, .int 0, .int 1]], .non, .tup [.int 2, .int 5, .int 0]]), some (.tup [.str "begin", .int 2]), none] (.tup [.tup [.tup [.int 3, .int 0, .int 1], .tup [.int 2, .int 0, .int 1], .tup [.int 1, .int 0, .int 1]], .tup [.int 2, .int 0], .tup [.int 2, .int 5, .int 1]]) .lf)) 35805303308801 [some (.obj 3), none, none, none, some (.tup [.tup [.tup [.int 2, .int 1, .int 2], .tup [.int 1, .int 0, .int 1], .tup [.int 0, .int 0, .int 1]], .non, .tup [.int 1, .int 4, .int 1]]), some (.tup [.str "begin", .int 1]), none] (.tup [.tup [.tup [.int 3, .int 1, .int 2], .tup [.int 2, .int 0, .int 1], .tup [.int 1, .int 0, .int 1]], .tup [.int 1, .int 0], .tup [.int 1, .int 5, .int 0]]) (.nd (.nd .lf 35805303414785 [some (.obj 3), none, none, none, some (.tup [.tup [.tup [.int 2, .int 1, .int 2], .tup [.int 1, .int 0, .int 1], .tup [.int 0, .int 0, .int 1]], .non, .tup [.int 2, .int 1, .int 0]]), some (.tup [.str "begin", .int 1]), none] (.tup [.tup [.tup [.int 3, .int 1, .int 2], .tup [.int 2, .int 0, .int 1], .tup [.int 1, .int 0, .int 1]], .tup [.int 1, .int 0], .tup [.int 2, .int 2, .int 1]]) .lf) 35805303448066 [some (.obj 3), none, none, none, some (.tup [.tup [.tup [.int 2, .int 1, .int 2], .tup [.int 1, .int 0, .int 1], .tup [.int 0, .int 0, .int 1]], .non, .tup [.int 2, .int 5, .int 1]]), some (.tup [.str "begin", .int 2]), none] (.tup [.tup [.tup [.int 3, .int 1, .int 2], .tup [.int 2, .int 0, .int 1], .tup [.int 1, .int 0, .int 1]], .tup [.int 2, .int 0], .tup [.int 2, .int 5, .int 0]]) .lf)) 35891166880258 [some (.obj 3), none, none, none, some (.tup [.tup [.tup [.int 1, .int 0, .int 2], .tup [.int 1, .int 1, .int 2], .tup [.int 0, .int 0, .int 1]], .non, .tup [.int 0, .int 5, .int 1]]), some (.tup [.str "begin", .int 2]), none] (.tup [.tup [.tup [.int 2, .int 0, .int 2], .tup [.int 2, .int 1, .int 2], .tup [.int 1, .int 0, .int 1]], .tup [.int 2, .int 0], .tup [.int 0, .int 5, .int 0]]) (.nd (.nd (.nd .lf 35891167011335 [some (.obj 3), none, none, none, some (.tup [.tup [.tup [.int 1, .int 0, .int 2], .tup [.int 1, .int 1, .int 2], .tup [.int 0, .int 0, .int 1]], .non, .tup [.int 1, .int 5, .int 1]]), some (.tup [.str "read"]), none] (.tup [.tup [.tup [.int 1, .int 0, .int 2], .tup [.int 1, .int 1, .int 2], .tup [.int 0, .int 0, .int 1]], .non, .tup [.int 0, .int 0, .int 1]]) .lf) 36284154257496 [some (.obj 3), none, none, none, some (.tup [.tup [.tup [.int 0, .int 0, .int 2], .non, .tup [.int 1, .int 0, .int 1]], .tup [.int 2, .int 1], .tup [.int 0, .int 1, .int 0]]), some (.tup [.str "put"]), none] (.tup [.tup [.tup [.int 1, .int 0, .int 1], .tup [.int 0, .int 0, .int 2], .tup [.int 0, .int 1, .int 2]], .non, .tup [.int 1, .int 1, .int 0]]) .lf) 36284154528344 [some (.obj 3), none, none, none, some (.tup [.tup [.tup [.int 0, .int 0, .int 2], .non, .tup [.int 1, .int 0, .int 1]], .tup [.int 2, .int 1], .tup [.int 2, .int 2, .int 1]]), some (.tup [.str "put"]), none] (.tup [.tup [.tup [.int 1, .int 0, .int 1], .tup [.int 0, .int 0, .int 2], .tup [.int 0, .int 1, .int 2]], .non, .tup [.int 0, .int 2, .int 1]]) (.nd (.nd .lf 36356094992991 [some (.obj 3), none, none, none, some (.tup [.tup [.tup [.int 0, .int 0, .int 2], .tup [.int 2, .int 0, .int 1], .tup [.int 1, .int 0, .int 1]], .tup [.int 2, .int 1], .tup [.int 0, .int 5, .int 1]]), some (.tup [.str "read"]), none] (.tup [.tup [.tup [.int 0, .int 0, .int 2], .tup [.int 2, .int 0, .int 1], .tup [.int 1, .int 0, .int 1]], .tup [.int 2, .int 1], .tup [.int 0, .int 1, .int 0]]) .lf) 36356095254616 [some (.obj 3), none, none, none, some (.tup [.tup [.tup [.int 0, .int 0, .int 2], .tup [.int 2, .int 0, .int 1], .tup [.int 1, .int 0, .int 1]], .tup [.int 2, .int 1], .tup [.int 2, .int 5, .int 0]]), some (.tup [.str "put"]), none] (.tup [.tup [.tup [.int 1, .int 0, .int 1], .tup [.int 0, .int 0, .int 2], .tup [.int 0, .int 1, .int 2]], .non, .tup [.int 0, .int 5, .int 0]]) .lf))) 36356134952984 [some (.obj 3), none, none, none, some (.tup [.tup [.tup [.int 3, .int 1, .int 2], .tup [.int 2, .int 0, .int 1], .tup [.int 1, .int 0, .int 1]], .tup [.int 2, .int 0], .tup [.int 1, .int 3, .int 0]]), some (.tup [.str "put"]), none] (.tup [.tup [.tup [.int 0, .int 0, .int 2], .tup [.int 2, .int 0, .int 1], .tup [.int 1, .int 0, .int 1]], .tup [.int 2, .int 1], .tup [.int 1, .int 3, .int 0]]) (.nd (.nd (.nd (.nd .lf 36356134969360 [some (.obj 3), none, none, none, some (.tup [.tup [.tup [.int 3, .int 1, .int 2], .tup [.int 2, .int 0, .int 1], .tup [.int 1, .int 0, .int 1]], .tup [.int 1, .int 0], .tup [.int 1, .int 5, .int 0]]), some (.tup [.str "put"]), none] (.tup [.tup [.tup [.int 2, .int 0, .int 1], .tup [.int 1, .int 0, .int 1], .tup [.int 0, .int 0, .int 1]], .non, .tup [.int 0, .int 5, .int 0]]) .lf) 36441994601055 [some (.obj 3), none, none, none, some (.tup [.tup [.tup [.int 0, .int 0, .int 2], .tup [.int 2, .int 1, .int 2], .tup [.int 1, .int 0, .int 1]], .tup [.int 2, .int 1], .tup [.int 2, .int 5, .int 1]]), some (.tup [.str "read"]), none] (.tup [.tup [.tup [.int 0, .int 0, .int 2], .tup [.int 2, .int 1, .int 2], .tup [.int 1, .int 0, .int 1]], .tup [.int 2, .int 1], .tup [.int 0, .int 1, .int 0]]) (.nd .lf 36441998656024 [some (.obj 3), none, none, none, some (.tup [.tup [.tup [.int 2, .int 0, .int 2], .tup [.int 2, .int 1, .int 2], .tup [.int 1, .int 0, .int 1]], .tup [.int 2, .int 0], .tup [.int 1, .int 4, .int 1]]), some (.tup [.str "put"]), none] (.tup [.tup [.tup [.int 0, .int 0, .int 2], .tup [.int 2, .int 1, .int 2], .tup [.int 1, .int 0, .int 1]], .tup [.int 2, .int 1], .tup [.int 1, .int 4, .int 1]]) .lf)) 36441998794783 [some (.obj 3), none, none, none, some (.tup [.tup [.tup [.int 2, .int 0, .int 2], .tup [.int 2, .int 1, .int 2], .tup [.int 1, .int 0, .int 1]], .tup [.int 2, .int 0], .tup [.int 2, .int 5, .int 0]]), some (.tup [.str "read"]), none] (.tup [.tup [.tup [.int 2, .int 0, .int 2], .tup [.int 2, .int 1, .int 2], .tup [.int 1, .int 0, .int 1]], .tup [.int 2, .int 0], .tup [.int 0, .int 1, .int 0]]) (.nd (.nd .lf 79853244162562 [some (.obj 3), none, none, none, some (.tup [.tup [.tup [.int 1, .int 0, .int 1], .tup [.int 0, .int 0, .int 2], .tup [.int 0, .int 1, .int 2]], .non, .tup [.int 0, .int 5, .int 1]]), some (.tup [.str "begin", .int 2]), none] (.tup [.tup [.tup [.int 2, .int 0, .int 1], .tup [.int 1, .int 0, .int 2], .tup [.int 1, .int 1, .int 2]], .tup [.int 2, .int 0], .tup [.int 0, .int 5, .int 0]]) .lf) 79853244293639 [some (.obj 3), none, none, none, some (.tup [.tup [.tup [.int 1, .int 0, .int 1], .tup [.int 0, .int 0, .int 2], .tup [.int 0, .int 1, .int 2]], .non, .tup [.int 1, .int 5, .int 1]]), some (.tup [.str "read"]), none] (.tup [.tup [.tup [.int 1, .int 0, .int 1], .tup [.int 0, .int 0, .int 2], .tup [.int 0, .int 1, .int 2]], .non, .tup [.int 0, .int 0, .int 1]]) .lf)) 79853412172295 [some (.obj 3), none, none, none, some (.tup [.tup [.tup [.int 1, .int 1, .int 2], .tup [.int 0, .int 0, .int 2], .tup [.int 0, .int 1, .int 2]], .non, .tup [.int 2, .int 2, .int 1]]), some (.tup [.str "read"]), none] (.tup [.tup [.tup [.int 1, .int 1, .int 2], .tup [.int 0, .int 0, .int 2], .tup [.int 0, .int 1, .int 2]], .non, .tup [.int 0, .int 0, .int 1]]) (.nd (.nd (.nd .lf 79853412196353 [some (.obj 3), none, none, none, some (.tup [.tup [.tup [.int 1, .int 1, .int 2], .tup [.int 0, .int 0, .int 2], .tup [.int 0, .int 1, .int 2]], .non, .tup [.int 2, .int 5, .int 0]]), some (.tup [.str "begin", .int 1]), none] (.tup [.tup [.tup [.int 2, .int 1, .int 2], .tup [.int 1, .int 0, .int 2], .tup [.int 1, .int 1, .int 2]], .tup [.int 1, .int 0], .tup [.int 2, .int 5, .int 1]]) .lf) 80403935412767 [some (.obj 3), none, none, none, some (.tup [.tup [.non, .tup [.int 1, .int 0, .int 2], .tup [.int 1, .int 1, .int 2]], .tup [.int 2, .int 0], .tup [.int 1, .int 2, .int 1]]), some (.tup [.str "read"]), none] (.tup [.tup [.non, .tup [.int 1, .int 0, .int 2], .tup [.int 1, .int 1, .int 2]], .tup [.int 2, .int 0], .tup [.int 0, .int 1, .int 0]]) .lf) 80404075938328 [some (.obj 3), none, none, none, some (.tup [.tup [.tup [.int 2, .int 0, .int 1], .tup [.int 1, .int 0, .int 2], .tup [.int 1, .int 1, .int 2]], .tup [.int 2, .int 0], .tup [.int 1, .int 4, .int 1]]), some (.tup [.str "put"]), none] (.tup [.tup [.tup [.int 0, .int 0, .int 2], .tup [.int 1, .int 0, .int 2], .tup [.int 1, .int 1, .int 2]], .tup [.int 2, .int 1], .tup [.int 1, .int 4, .int 1]]) (.nd (.nd .lf 80404076077087 [some (.obj 3), none, none, none, some (.tup [.tup [.tup [.int 2, .int 0, .int 1], .tup [.int 1, .int 0, .int 2], .tup [.int 1, .int 1, .int 2]], .tup [.int 2, .int 0], .tup [.int 2, .int 5, .int 0]]), some (.tup [.str "read"]), none] (.tup [.tup [.tup [.int 2, .int 0, .int 1], .tup [.int 1, .int 0, .int 2], .tup [.int 1, .int 1, .int 2]], .tup [.int 2, .int 0], .tup [.int 0, .int 1, .int 0]]) .lf) 80404243849759 [some (.obj 3), none, none, none, some (.tup [.tup [.tup [.int 2, .int 1, .int 2], .tup [.int 1, .int 0, .int 2], .tup [.int 1, .int 1, .int 2]], .tup [.int 2, .int 0], .tup [.int 2, .int 5, .int 1]]), some (.tup [.str "read"]), none] (.tup [.tup [.tup [.int 2, .int 1, .int 2], .tup [.int 1, .int 0, .int 2], .tup [.int 1, .int 1, .int 2]], .tup [.int 2, .int 0], .tup [.int 0, .int 1, .int 0]]) .lf))))
def ob_reach : List (Nat × LO) := [(3, .ins 0 [(0, .int 3), (1, .tup [.int 1, .int 2]), (2, .int 2), (3, .str "first"), (4, .str "none"), (5, .str "strict")])]
def tab_reach : Sl → Option D := tabF [bt_reach_0, bt_reach_1, bt_reach_2, bt_reach_3, bt_reach_4, bt_reach_5, bt_reach_6, bt_reach_7, bt_reach_8, bt_reach_9, bt_reach_10, bt_reach_11, bt_reach_12, bt_reach_13, bt_reach_14, bt_reach_15, bt_reach_16, bt_reach_17, bt_reach_18, bt_reach_19, bt_reach_20, bt_reach_21, bt_reach_22] 23 (encAt2 4 5)
def b_f_reach : MS := (sSeq (sPar 2 3 (aCons (mDict (pCons (mCall 1 f_start_of (aCons (mVar 0) aNil)) (mTup aNil) pNil)) (aCons (mLst (aCons (mCall 1 f_start_of (aCons (mVar 0) aNil)) aNil)) aNil))) (sSeq (sWhile (mB (m2 (vCmp .NotEq) (mVar 3) (mLst aNil))) (sSeq (sAsg (mBm lPop (mVar 3) (aCons (mC (.int 0)) aNil)) (gN 4)) (sFor (iAny (mCall 3 f_kept_deeds (aCons (mVar 0) (aCons (mVar 4) (aCons (mVar 1) aNil))))) (.nm 5) (sSeq (sAsg (mTbl 4 ob_reach [0, 4, 5] tab_reach me_reach) (gN 6)) (sIf (mB (m2 (vCmp .NotIn) (mVar 6) (mVar 2))) (sSeq (sIf (mB (m2 (vCmp .Eq) (mFn (f1 bLen) (aCons (mVar 2) aNil)) (mC (.int 800)))) (sRaise0 3) sSkip) (sSeq (sAsg (mTup (aStar (m2 vIdx (mVar 2) (mVar 4)) (aCons (mVar 5) aNil))) (gSubM (mVar 2) (mVar 6))) (sExpr (mBm lApp (mVar 3) (aCons (mVar 6) aNil))))) sSkip)))) 100000) (sRet (mVar 2))))
def f_reach : Fn := fnM 7 b_f_reach
def me_slow : ME := (mCall 2 f_delay_of (aCons (mVar 0) (aCons (mVar 5) aNil)))
def bt_slow_0 : Bt := (.nd (.nd (.nd (.nd (.nd .lf 4466765987904 [some (.obj 3), none, none, none, none, some (.tup [.tup [.non, .non, .tup [.int 0, .int 0, .int 1]], .non, .tup [.int 0, .int 0, .int 1]]), none, none] (.int 0) .lf) 4475624357952 [some (.obj 3), none, none, none, none, some (.tup [.tup [.non, .tup [.int 1, .int 0, .int 1], .tup [.int 0, .int 0, .int 1]], .non, .tup [.int 0, .int 0, .int 1]]), none, none] (.int 0) .lf) 4475662914624 [some (.obj 3), none, none, none, none, some (.tup [.tup [.tup [.int 2, .int 1, .int 2], .tup [.int 1, .int 0, .int 1], .tup [.int 0, .int 0, .int 1]], .non, .tup [.int 1, .int 5, .int 1]]), none, none] (.int 2) (.nd (.nd .lf 4486395859968 [some (.obj 3), none, none, none, none, some (.tup [.tup [.tup [.int 1, .int 0, .int 2], .tup [.int 1, .int 1, .int 2], .tup [.int 0, .int 0, .int 1]], .non, .tup [.int 0, .int 5, .int 0]]), none, none] (.int 1) .lf) 4544478053379 [some (.obj 3), none, none, none, none, some (.tup [.tup [.non, .tup [.int 2, .int 0, .int 1], .tup [.int 1, .int 0, .int 1]], .tup [.int 2, .int 0], .tup [.int 0, .int 1, .int 0]]), none, none] (.non) .lf)) 4544511873099 [some (.obj 3), none, none, none, none, some (.tup [.tup [.tup [.int 0, .int 0, .int 2], .tup [.int 2, .int 0, .int 1], .tup [.int 1, .int 0, .int 1]], .tup [.int 2, .int 1], .tup [.int 0, .int 4, .int 1]]), none, none] (.non) (.nd (.nd (.nd .lf 4544511906891 [some (.obj 3), none, none, none, none, some (.tup [.tup [.tup [.int 0, .int 0, .int 2], .tup [.int 2, .int 0, .int 1], .tup [.int 1, .int 0, .int 1]], .tup [.int 2, .int 1], .tup [.int 2, .int 5, .int 1]]), none, none] (.non) .lf) 4544516869123 [some (.obj 3), none, none, none, none, some (.tup [.tup [.tup [.int 3, .int 1, .int 2], .tup [.int 2, .int 0, .int 1], .tup [.int 1, .int 0, .int 1]], .tup [.int 2, .int 0], .tup [.int 1, .int 3, .int 0]]), none, none] (.non) .lf) 4544516871235 [some (.obj 3), none, none, none, none, some (.tup [.tup [.tup [.int 3, .int 1, .int 2], .tup [.int 2, .int 0, .int 1], .tup [.int 1, .int 0, .int 1]], .tup [.int 2, .int 0], .tup [.int 1, .int 5, .int 1]]), none, none] (.non) (.nd .lf 4555249290251 [some (.obj 3), none, none, none, none, some (.tup [.tup [.tup [.int 0, .int 0, .int 2], .tup [.int 2, .int 1, .int 2], .tup [.int 1, .int 0, .int 1]], .tup [.int 2, .int 1], .tup [.int 0, .int 3, .int 0]]), none, none] (.non) .lf))) 4555249292363 [some (.obj 3), none, none, none, none, some (.tup [.tup [.tup [.int 0, .int 0, .int 2], .tup [.int 2, .int 1, .int 2], .tup [.int 1, .int 0, .int 1]], .tup [.int 2, .int 1], .tup [.int 0, .int 5, .int 1]]), none, none] (.non) (.nd (.nd (.nd (.nd .lf 4555249816579 [some (.obj 3), none, none, none, none, some (.tup [.tup [.tup [.int 2, .int 0, .int 2], .tup [.int 2, .int 1, .int 2], .tup [.int 1, .int 0, .int 1]], .tup [.int 2, .int 0], .tup [.int 0, .int 5, .int 0]]), none, none] (.non) .lf) 9981655520320 [some (.obj 3), none, none, none, none, some (.tup [.tup [.tup [.int 1, .int 0, .int 1], .tup [.int 0, .int 0, .int 2], .tup [.int 0, .int 1, .int 2]], .non, .tup [.int 0, .int 5, .int 1]]), none, none] (.int 2) .lf) 9981676491776 [some (.obj 3), none, none, none, none, some (.tup [.tup [.tup [.int 1, .int 1, .int 2], .tup [.int 0, .int 0, .int 2], .tup [.int 0, .int 1, .int 2]], .non, .tup [.int 0, .int 5, .int 0]]), none, none] (.int 1) (.nd .lf 10050509474819 [some (.obj 3), none, none, none, none, some (.tup [.tup [.tup [.int 2, .int 0, .int 1], .tup [.int 1, .int 0, .int 2], .tup [.int 1, .int 1, .int 2]], .tup [.int 2, .int 0], .tup [.int 0, .int 3, .int 0]]), none, none] (.non) .lf)) 10050509476931 [some (.obj 3), none, none, none, none, some (.tup [.tup [.tup [.int 2, .int 0, .int 1], .tup [.int 1, .int 0, .int 2], .tup [.int 1, .int 1, .int 2]], .tup [.int 2, .int 0], .tup [.int 0, .int 5, .int 1]]), none, none] (.non) (.nd (.nd (.nd .lf 10050509509634 [some (.obj 3), none, none, none, none, some (.tup [.tup [.tup [.int 2, .int 0, .int 1], .tup [.int 1, .int 0, .int 2], .tup [.int 1, .int 1, .int 2]], .tup [.int 1, .int 0], .tup [.int 2, .int 5, .int 0]]), none, none] (.non) .lf) 10050525745227 [some (.obj 3), none, none, none, none, some (.tup [.tup [.tup [.int 0, .int 0, .int 2], .tup [.int 1, .int 0, .int 2], .tup [.int 1, .int 1, .int 2]], .tup [.int 2, .int 1], .tup [.int 1, .int 4, .int 1]]), none, none] (.non) .lf) 10050530448387 [some (.obj 3), none, none, none, none, some (.tup [.tup [.tup [.int 2, .int 1, .int 2], .tup [.int 1, .int 0, .int 2], .tup [.int 1, .int 1, .int 2]], .tup [.int 2, .int 0], .tup [.int 0, .int 5, .int 0]]), none, none] (.non) (.nd .lf 10050530461763 [some (.obj 3), none, none, none, none, some (.tup [.tup [.tup [.int 2, .int 1, .int 2], .tup [.int 1, .int 0, .int 2], .tup [.int 1, .int 1, .int 2]], .tup [.int 2, .int 0], .tup [.int 1, .int 2, .int 1]]), none, none] (.non) .lf))))
def bt_slow_1 : Bt := (.nd (.nd (.nd (.nd (.nd .lf 4475641942080 [some (.obj 3), none, none, none, none, some (.tup [.tup [.tup [.int 2, .int 0, .int 1], .tup [.int 1, .int 0, .int 1], .tup [.int 0, .int 0, .int 1]], .non, .tup [.int 1, .int 4, .int 1]]), none, none] (.int 2) .lf) 4475662893120 [some (.obj 3), none, none, none, none, some (.tup [.tup [.tup [.int 2, .int 1, .int 2], .tup [.int 1, .int 0, .int 1], .tup [.int 0, .int 0, .int 1]], .non, .tup [.int 0, .int 0, .int 1]]), none, none] (.int 0) .lf) 4535485499458 [some (.obj 3), none, none, none, none, some (.tup [.tup [.non, .non, .tup [.int 1, .int 0, .int 1]], .tup [.int 1, .int 0], .tup [.int 2, .int 2, .int 1]]), none, none] (.non) (.nd .lf 4535519316043 [some (.obj 3), none, none, none, none, some (.tup [.tup [.tup [.int 0, .int 0, .int 2], .non, .tup [.int 1, .int 0, .int 1]], .tup [.int 2, .int 1], .tup [.int 2, .int 2, .int 1]]), none, none] (.non) .lf)) 4544495897602 [some (.obj 3), none, none, none, none, some (.tup [.tup [.tup [.int 3, .int 0, .int 1], .tup [.int 2, .int 0, .int 1], .tup [.int 1, .int 0, .int 1]], .tup [.int 1, .int 0], .tup [.int 1, .int 3, .int 0]]), none, none] (.non) (.nd (.nd (.nd .lf 4544495899714 [some (.obj 3), none, none, none, none, some (.tup [.tup [.tup [.int 3, .int 0, .int 1], .tup [.int 2, .int 0, .int 1], .tup [.int 1, .int 0, .int 1]], .tup [.int 1, .int 0], .tup [.int 1, .int 5, .int 1]]), none, none] (.non) .lf) 4544511874123 [some (.obj 3), none, none, none, none, some (.tup [.tup [.tup [.int 0, .int 0, .int 2], .tup [.int 2, .int 0, .int 1], .tup [.int 1, .int 0, .int 1]], .tup [.int 2, .int 1], .tup [.int 0, .int 5, .int 1]]), none, none] (.non) .lf) 4544516871170 [some (.obj 3), none, none, none, none, some (.tup [.tup [.tup [.int 3, .int 1, .int 2], .tup [.int 2, .int 0, .int 1], .tup [.int 1, .int 0, .int 1]], .tup [.int 1, .int 0], .tup [.int 1, .int 5, .int 0]]), none, none] (.non) (.nd .lf 4544516884546 [some (.obj 3), none, none, none, none, some (.tup [.tup [.tup [.int 3, .int 1, .int 2], .tup [.int 2, .int 0, .int 1], .tup [.int 1, .int 0, .int 1]], .tup [.int 1, .int 0], .tup [.int 2, .int 2, .int 1]]), none, none] (.non) .lf))) 4555249325067 [some (.obj 3), none, none, none, none, some (.tup [.tup [.tup [.int 0, .int 0, .int 2], .tup [.int 2, .int 1, .int 2], .tup [.int 1, .int 0, .int 1]], .tup [.int 2, .int 1], .tup [.int 2, .int 5, .int 0]]), none, none] (.non) (.nd (.nd (.nd (.nd .lf 4555249832002 [some (.obj 3), none, none, none, none, some (.tup [.tup [.tup [.int 2, .int 0, .int 2], .tup [.int 2, .int 1, .int 2], .tup [.int 1, .int 0, .int 1]], .tup [.int 1, .int 0], .tup [.int 1, .int 4, .int 1]]), none, none] (.non) .lf) 9981655553024 [some (.obj 3), none, none, none, none, some (.tup [.tup [.tup [.int 1, .int 0, .int 1], .tup [.int 0, .int 0, .int 2], .tup [.int 0, .int 1, .int 2]], .non, .tup [.int 2, .int 5, .int 0]]), none, none] (.int 1) .lf) 9981676504064 [some (.obj 3), none, none, none, none, some (.tup [.tup [.tup [.int 1, .int 1, .int 2], .tup [.int 0, .int 0, .int 2], .tup [.int 0, .int 1, .int 2]], .non, .tup [.int 1, .int 1, .int 0]]), none, none] (.int 1) (.nd .lf 10050509476866 [some (.obj 3), none, none, none, none, some (.tup [.tup [.tup [.int 2, .int 0, .int 1], .tup [.int 1, .int 0, .int 2], .tup [.int 1, .int 1, .int 2]], .tup [.int 1, .int 0], .tup [.int 0, .int 5, .int 0]]), none, none] (.non) .lf)) 10050509490242 [some (.obj 3), none, none, none, none, some (.tup [.tup [.tup [.int 2, .int 0, .int 1], .tup [.int 1, .int 0, .int 2], .tup [.int 1, .int 1, .int 2]], .tup [.int 1, .int 0], .tup [.int 1, .int 2, .int 1]]), none, none] (.non) (.nd (.nd (.nd .lf 10050509509635 [some (.obj 3), none, none, none, none, some (.tup [.tup [.tup [.int 2, .int 0, .int 1], .tup [.int 1, .int 0, .int 2], .tup [.int 1, .int 1, .int 2]], .tup [.int 2, .int 0], .tup [.int 2, .int 5, .int 0]]), none, none] (.non) .lf) 10050525746251 [some (.obj 3), none, none, none, none, some (.tup [.tup [.tup [.int 0, .int 0, .int 2], .tup [.int 1, .int 0, .int 2], .tup [.int 1, .int 1, .int 2]], .tup [.int 2, .int 1], .tup [.int 1, .int 5, .int 1]]), none, none] (.non) .lf) 10050525757515 [some (.obj 3), none, none, none, none, some (.tup [.tup [.tup [.int 0, .int 0, .int 2], .tup [.int 1, .int 0, .int 2], .tup [.int 1, .int 1, .int 2]], .tup [.int 2, .int 1], .tup [.int 2, .int 0, .int 1]]), none, none] (.non) (.nd .lf 10050530463810 [some (.obj 3), none, none, none, none, some (.tup [.tup [.tup [.int 2, .int 1, .int 2], .tup [.int 1, .int 0, .int 2], .tup [.int 1, .int 1, .int 2]], .tup [.int 1, .int 0], .tup [.int 1, .int 4, .int 1]]), none, none] (.non) .lf))))
def bt_slow_2 : Bt := (.nd (.nd (.nd (.nd (.nd .lf 4466766021632 [some (.obj 3), none, none, none, none, some (.tup [.tup [.non, .non, .tup [.int 0, .int 0, .int 1]], .non, .tup [.int 2, .int 1, .int 0]]), none, none] (.int 1) .lf) 4475624391680 [some (.obj 3), none, none, none, none, some (.tup [.tup [.non, .tup [.int 1, .int 0, .int 1], .tup [.int 0, .int 0, .int 1]], .non, .tup [.int 2, .int 1, .int 0]]), none, none] (.int 1) .lf) 4475641943104 [some (.obj 3), none, none, none, none, some (.tup [.tup [.tup [.int 2, .int 0, .int 1], .tup [.int 1, .int 0, .int 1], .tup [.int 0, .int 0, .int 1]], .non, .tup [.int 1, .int 5, .int 1]]), none, none] (.int 2) (.nd (.nd .lf 4475662914560 [some (.obj 3), none, none, none, none, some (.tup [.tup [.tup [.int 2, .int 1, .int 2], .tup [.int 1, .int 0, .int 1], .tup [.int 0, .int 0, .int 1]], .non, .tup [.int 1, .int 5, .int 0]]), none, none] (.int 1) .lf) 4486395875392 [some (.obj 3), none, none, none, none, some (.tup [.tup [.tup [.int 1, .int 0, .int 2], .tup [.int 1, .int 1, .int 2], .tup [.int 0, .int 0, .int 1]], .non, .tup [.int 1, .int 4, .int 1]]), none, none] (.int 1) .lf)) 4535485499459 [some (.obj 3), none, none, none, none, some (.tup [.tup [.non, .non, .tup [.int 1, .int 0, .int 1]], .tup [.int 2, .int 0], .tup [.int 2, .int 2, .int 1]]), none, none] (.non) (.nd (.nd (.nd .lf 4544495897603 [some (.obj 3), none, none, none, none, some (.tup [.tup [.tup [.int 3, .int 0, .int 1], .tup [.int 2, .int 0, .int 1], .tup [.int 1, .int 0, .int 1]], .tup [.int 2, .int 0], .tup [.int 1, .int 3, .int 0]]), none, none] (.non) .lf) 4544495899715 [some (.obj 3), none, none, none, none, some (.tup [.tup [.tup [.int 3, .int 0, .int 1], .tup [.int 2, .int 0, .int 1], .tup [.int 1, .int 0, .int 1]], .tup [.int 2, .int 0], .tup [.int 1, .int 5, .int 1]]), none, none] (.non) .lf) 4544511906827 [some (.obj 3), none, none, none, none, some (.tup [.tup [.tup [.int 0, .int 0, .int 2], .tup [.int 2, .int 0, .int 1], .tup [.int 1, .int 0, .int 1]], .tup [.int 2, .int 1], .tup [.int 2, .int 5, .int 0]]), none, none] (.non) (.nd .lf 4544516871171 [some (.obj 3), none, none, none, none, some (.tup [.tup [.tup [.int 3, .int 1, .int 2], .tup [.int 2, .int 0, .int 1], .tup [.int 1, .int 0, .int 1]], .tup [.int 2, .int 0], .tup [.int 1, .int 5, .int 0]]), none, none] (.non) .lf))) 4544516884547 [some (.obj 3), none, none, none, none, some (.tup [.tup [.tup [.int 3, .int 1, .int 2], .tup [.int 2, .int 0, .int 1], .tup [.int 1, .int 0, .int 1]], .tup [.int 2, .int 0], .tup [.int 2, .int 2, .int 1]]), none, none] (.non) (.nd (.nd (.nd (.nd .lf 4555249292299 [some (.obj 3), none, none, none, none, some (.tup [.tup [.tup [.int 0, .int 0, .int 2], .tup [.int 2, .int 1, .int 2], .tup [.int 1, .int 0, .int 1]], .tup [.int 2, .int 1], .tup [.int 0, .int 5, .int 0]]), none, none] (.non) .lf) 4555249832003 [some (.obj 3), none, none, none, none, some (.tup [.tup [.tup [.int 2, .int 0, .int 2], .tup [.int 2, .int 1, .int 2], .tup [.int 1, .int 0, .int 1]], .tup [.int 2, .int 0], .tup [.int 1, .int 4, .int 1]]), none, none] (.non) .lf) 4555249833026 [some (.obj 3), none, none, none, none, some (.tup [.tup [.tup [.int 2, .int 0, .int 2], .tup [.int 2, .int 1, .int 2], .tup [.int 1, .int 0, .int 1]], .tup [.int 1, .int 0], .tup [.int 1, .int 5, .int 1]]), none, none] (.non) (.nd .lf 9981655520256 [some (.obj 3), none, none, none, none, some (.tup [.tup [.tup [.int 1, .int 0, .int 1], .tup [.int 0, .int 0, .int 2], .tup [.int 0, .int 1, .int 2]], .non, .tup [.int 0, .int 5, .int 0]]), none, none] (.int 1) .lf)) 9981676507200 [some (.obj 3), none, none, none, none, some (.tup [.tup [.tup [.int 1, .int 1, .int 2], .tup [.int 0, .int 0, .int 2], .tup [.int 0, .int 1, .int 2]], .non, .tup [.int 1, .int 4, .int 1]]), none, none] (.int 1) (.nd (.nd (.nd .lf 10050509476867 [some (.obj 3), none, none, none, none, some (.tup [.tup [.tup [.int 2, .int 0, .int 1], .tup [.int 1, .int 0, .int 2], .tup [.int 1, .int 1, .int 2]], .tup [.int 2, .int 0], .tup [.int 0, .int 5, .int 0]]), none, none] (.non) .lf) 10050509490243 [some (.obj 3), none, none, none, none, some (.tup [.tup [.tup [.int 2, .int 0, .int 1], .tup [.int 1, .int 0, .int 2], .tup [.int 1, .int 1, .int 2]], .tup [.int 2, .int 0], .tup [.int 1, .int 2, .int 1]]), none, none] (.non) .lf) 10050530463811 [some (.obj 3), none, none, none, none, some (.tup [.tup [.tup [.int 2, .int 1, .int 2], .tup [.int 1, .int 0, .int 2], .tup [.int 1, .int 1, .int 2]], .tup [.int 2, .int 0], .tup [.int 1, .int 4, .int 1]]), none, none] (.non) (.nd .lf 10050530464834 [some (.obj 3), none, none, none, none, some (.tup [.tup [.tup [.int 2, .int 1, .int 2], .tup [.int 1, .int 0, .int 2], .tup [.int 1, .int 1, .int 2]], .tup [.int 1, .int 0], .tup [.int 1, .int 5, .int 1]]), none, none] (.non) .lf))))
def bt_slow_3 : Bt := (.nd (.nd (.nd (.nd (.nd .lf 1026 [some (.obj 3), none, none, none, none, some (.tup [.tup [.non, .non, .non], .tup [.int 1, .int 0], .tup [.int 0, .int 1, .int 0]]), none, none] (.non) .lf) 33817611 [some (.obj 3), none, none, none, none, some (.tup [.tup [.tup [.int 0, .int 0, .int 2], .non, .non], .tup [.int 2, .int 1], .tup [.int 0, .int 1, .int 0]]), none, none] (.non) .lf) 4475641921600 [some (.obj 3), none, none, none, none, some (.tup [.tup [.tup [.int 2, .int 0, .int 1], .tup [.int 1, .int 0, .int 1], .tup [.int 0, .int 0, .int 1]], .non, .tup [.int 0, .int 0, .int 1]]), none, none] (.int 0) (.nd (.nd .lf 4475662926848 [some (.obj 3), none, none, none, none, some (.tup [.tup [.tup [.int 2, .int 1, .int 2], .tup [.int 1, .int 0, .int 1], .tup [.int 0, .int 0, .int 1]], .non, .tup [.int 2, .int 1, .int 0]]), none, none] (.int 1) .lf) 4486395874304 [some (.obj 3), none, none, none, none, some (.tup [.tup [.tup [.int 1, .int 0, .int 2], .tup [.int 1, .int 1, .int 2], .tup [.int 0, .int 0, .int 1]], .non, .tup [.int 1, .int 3, .int 0]]), none, none] (.int 1) .lf)) 4486395876416 [some (.obj 3), none, none, none, none, some (.tup [.tup [.tup [.int 1, .int 0, .int 2], .tup [.int 1, .int 1, .int 2], .tup [.int 0, .int 0, .int 1]], .non, .tup [.int 1, .int 5, .int 1]]), none, none] (.int 1) (.nd (.nd (.nd .lf 4535485465602 [some (.obj 3), none, none, none, none, some (.tup [.tup [.non, .non, .tup [.int 1, .int 0, .int 1]], .tup [.int 1, .int 0], .tup [.int 0, .int 1, .int 0]]), none, none] (.non) .lf) 4535519282187 [some (.obj 3), none, none, none, none, some (.tup [.tup [.tup [.int 0, .int 0, .int 2], .non, .tup [.int 1, .int 0, .int 1]], .tup [.int 2, .int 1], .tup [.int 0, .int 1, .int 0]]), none, none] (.non) .lf) 4544495899650 [some (.obj 3), none, none, none, none, some (.tup [.tup [.tup [.int 3, .int 0, .int 1], .tup [.int 2, .int 0, .int 1], .tup [.int 1, .int 0, .int 1]], .tup [.int 1, .int 0], .tup [.int 1, .int 5, .int 0]]), none, none] (.non) (.nd .lf 4544495913026 [some (.obj 3), none, none, none, none, some (.tup [.tup [.tup [.int 3, .int 0, .int 1], .tup [.int 2, .int 0, .int 1], .tup [.int 1, .int 0, .int 1]], .tup [.int 1, .int 0], .tup [.int 2, .int 2, .int 1]]), none, none] (.non) .lf))) 4544511874059 [some (.obj 3), none, none, none, none, some (.tup [.tup [.tup [.int 0, .int 0, .int 2], .tup [.int 2, .int 0, .int 1], .tup [.int 1, .int 0, .int 1]], .tup [.int 2, .int 1], .tup [.int 0, .int 5, .int 0]]), none, none] (.non) (.nd (.nd (.nd (.nd .lf 4544516850690 [some (.obj 3), none, none, none, none, some (.tup [.tup [.tup [.int 3, .int 1, .int 2], .tup [.int 2, .int 0, .int 1], .tup [.int 1, .int 0, .int 1]], .tup [.int 1, .int 0], .tup [.int 0, .int 1, .int 0]]), none, none] (.non) .lf) 4544516886594 [some (.obj 3), none, none, none, none, some (.tup [.tup [.tup [.int 3, .int 1, .int 2], .tup [.int 2, .int 0, .int 1], .tup [.int 1, .int 0, .int 1]], .tup [.int 1, .int 0], .tup [.int 2, .int 4, .int 1]]), none, none] (.non) .lf) 4555249833027 [some (.obj 3), none, none, none, none, some (.tup [.tup [.tup [.int 2, .int 0, .int 2], .tup [.int 2, .int 1, .int 2], .tup [.int 1, .int 0, .int 1]], .tup [.int 2, .int 0], .tup [.int 1, .int 5, .int 1]]), none, none] (.non) (.nd (.nd .lf 9981638231040 [some (.obj 3), none, none, none, none, some (.tup [.tup [.non, .tup [.int 0, .int 0, .int 2], .tup [.int 0, .int 1, .int 2]], .non, .tup [.int 1, .int 1, .int 0]]), none, none] (.int 1) .lf) 9981655532544 [some (.obj 3), none, none, none, none, some (.tup [.tup [.tup [.int 1, .int 0, .int 1], .tup [.int 0, .int 0, .int 2], .tup [.int 0, .int 1, .int 2]], .non, .tup [.int 1, .int 1, .int 0]]), none, none] (.int 1) .lf)) 9981676506112 [some (.obj 3), none, none, none, none, some (.tup [.tup [.tup [.int 1, .int 1, .int 2], .tup [.int 0, .int 0, .int 2], .tup [.int 0, .int 1, .int 2]], .non, .tup [.int 1, .int 3, .int 0]]), none, none] (.int 1) (.nd (.nd (.nd .lf 9981676508224 [some (.obj 3), none, none, none, none, some (.tup [.tup [.tup [.int 1, .int 1, .int 2], .tup [.int 0, .int 0, .int 2], .tup [.int 0, .int 1, .int 2]], .non, .tup [.int 1, .int 5, .int 1]]), none, none] (.int 1) .lf) 10050509492290 [some (.obj 3), none, none, none, none, some (.tup [.tup [.tup [.int 2, .int 0, .int 1], .tup [.int 1, .int 0, .int 2], .tup [.int 1, .int 1, .int 2]], .tup [.int 1, .int 0], .tup [.int 1, .int 4, .int 1]]), none, none] (.non) .lf) 10050525746187 [some (.obj 3), none, none, none, none, some (.tup [.tup [.tup [.int 0, .int 0, .int 2], .tup [.int 1, .int 0, .int 2], .tup [.int 1, .int 1, .int 2]], .tup [.int 2, .int 1], .tup [.int 1, .int 5, .int 0]]), none, none] (.non) (.nd .lf 10050530464835 [some (.obj 3), none, none, none, none, some (.tup [.tup [.tup [.int 2, .int 1, .int 2], .tup [.int 1, .int 0, .int 2], .tup [.int 1, .int 1, .int 2]], .tup [.int 2, .int 0], .tup [.int 1, .int 5, .int 1]]), none, none] (.non) .lf))))
def bt_slow_4 : Bt := (.nd (.nd (.nd (.nd (.nd .lf 1027 [some (.obj 3), none, none, none, none, some (.tup [.tup [.non, .non, .non], .tup [.int 2, .int 0], .tup [.int 0, .int 1, .int 0]]), none, none] (.non) .lf) 4475641943040 [some (.obj 3), none, none, none, none, some (.tup [.tup [.tup [.int 2, .int 0, .int 1], .tup [.int 1, .int 0, .int 1], .tup [.int 0, .int 0, .int 1]], .non, .tup [.int 1, .int 5, .int 0]]), none, none] (.int 1) .lf) 4486395854912 [some (.obj 3), none, none, none, none, some (.tup [.tup [.tup [.int 1, .int 0, .int 2], .tup [.int 1, .int 1, .int 2], .tup [.int 0, .int 0, .int 1]], .non, .tup [.int 0, .int 0, .int 1]]), none, none] (.int 0) (.nd .lf 4535485465603 [some (.obj 3), none, none, none, none, some (.tup [.tup [.non, .non, .tup [.int 1, .int 0, .int 1]], .tup [.int 2, .int 0], .tup [.int 0, .int 1, .int 0]]), none, none] (.non) .lf)) 4544495899651 [some (.obj 3), none, none, none, none, some (.tup [.tup [.tup [.int 3, .int 0, .int 1], .tup [.int 2, .int 0, .int 1], .tup [.int 1, .int 0, .int 1]], .tup [.int 2, .int 0], .tup [.int 1, .int 5, .int 0]]), none, none] (.non) (.nd (.nd .lf 4544495913027 [some (.obj 3), none, none, none, none, some (.tup [.tup [.tup [.int 3, .int 0, .int 1], .tup [.int 2, .int 0, .int 1], .tup [.int 1, .int 0, .int 1]], .tup [.int 2, .int 0], .tup [.int 2, .int 2, .int 1]]), none, none] (.non) .lf) 4544516850691 [some (.obj 3), none, none, none, none, some (.tup [.tup [.tup [.int 3, .int 1, .int 2], .tup [.int 2, .int 0, .int 1], .tup [.int 1, .int 0, .int 1]], .tup [.int 2, .int 0], .tup [.int 0, .int 1, .int 0]]), none, none] (.non) (.nd .lf 4544516886595 [some (.obj 3), none, none, none, none, some (.tup [.tup [.tup [.int 3, .int 1, .int 2], .tup [.int 2, .int 0, .int 1], .tup [.int 1, .int 0, .int 1]], .tup [.int 2, .int 0], .tup [.int 2, .int 4, .int 1]]), none, none] (.non) .lf))) 4544516887618 [some (.obj 3), none, none, none, none, some (.tup [.tup [.tup [.int 3, .int 1, .int 2], .tup [.int 2, .int 0, .int 1], .tup [.int 1, .int 0, .int 1]], .tup [.int 1, .int 0], .tup [.int 2, .int 5, .int 1]]), none, none] (.non) (.nd (.nd (.nd (.nd .lf 4555249307723 [some (.obj 3), none, none, none, none, some (.tup [.tup [.tup [.int 0, .int 0, .int 2], .tup [.int 2, .int 1, .int 2], .tup [.int 1, .int 0, .int 1]], .tup [.int 2, .int 1], .tup [.int 1, .int 4, .int 1]]), none, none] (.non) .lf) 4555249832962 [some (.obj 3), none, none, none, none, some (.tup [.tup [.tup [.int 2, .int 0, .int 2], .tup [.int 2, .int 1, .int 2], .tup [.int 1, .int 0, .int 1]], .tup [.int 1, .int 0], .tup [.int 1, .int 5, .int 0]]), none, none] (.non) .lf) 4555249846338 [some (.obj 3), none, none, none, none, some (.tup [.tup [.tup [.int 2, .int 0, .int 2], .tup [.int 2, .int 1, .int 2], .tup [.int 1, .int 0, .int 1]], .tup [.int 1, .int 0], .tup [.int 2, .int 2, .int 1]]), none, none] (.non) (.nd .lf 9981655535680 [some (.obj 3), none, none, none, none, some (.tup [.tup [.tup [.int 1, .int 0, .int 1], .tup [.int 0, .int 0, .int 2], .tup [.int 0, .int 1, .int 2]], .non, .tup [.int 1, .int 4, .int 1]]), none, none] (.int 1) .lf)) 9981676486720 [some (.obj 3), none, none, none, none, some (.tup [.tup [.tup [.int 1, .int 1, .int 2], .tup [.int 0, .int 0, .int 2], .tup [.int 0, .int 1, .int 2]], .non, .tup [.int 0, .int 0, .int 1]]), none, none] (.int 0) (.nd (.nd .lf 10050509492291 [some (.obj 3), none, none, none, none, some (.tup [.tup [.tup [.int 2, .int 0, .int 1], .tup [.int 1, .int 0, .int 2], .tup [.int 1, .int 1, .int 2]], .tup [.int 2, .int 0], .tup [.int 1, .int 4, .int 1]]), none, none] (.non) .lf) 10050509493314 [some (.obj 3), none, none, none, none, some (.tup [.tup [.tup [.int 2, .int 0, .int 1], .tup [.int 1, .int 0, .int 2], .tup [.int 1, .int 1, .int 2]], .tup [.int 1, .int 0], .tup [.int 1, .int 5, .int 1]]), none, none] (.non) (.nd .lf 10050530464770 [some (.obj 3), none, none, none, none, some (.tup [.tup [.tup [.int 2, .int 1, .int 2], .tup [.int 1, .int 0, .int 2], .tup [.int 1, .int 1, .int 2]], .tup [.int 1, .int 0], .tup [.int 1, .int 5, .int 0]]), none, none] (.non) .lf))))
def bt_slow_5 : Bt := (.nd (.nd (.nd (.nd (.nd .lf 4475641955328 [some (.obj 3), none, none, none, none, some (.tup [.tup [.tup [.int 2, .int 0, .int 1], .tup [.int 1, .int 0, .int 1], .tup [.int 0, .int 0, .int 1]], .non, .tup [.int 2, .int 1, .int 0]]), none, none] (.int 1) .lf) 4475662897216 [some (.obj 3), none, none, none, none, some (.tup [.tup [.tup [.int 2, .int 1, .int 2], .tup [.int 1, .int 0, .int 1], .tup [.int 0, .int 0, .int 1]], .non, .tup [.int 0, .int 4, .int 1]]), none, none] (.int 1) .lf) 4475662928896 [some (.obj 3), none, none, none, none, some (.tup [.tup [.tup [.int 2, .int 1, .int 2], .tup [.int 1, .int 0, .int 1], .tup [.int 0, .int 0, .int 1]], .non, .tup [.int 2, .int 3, .int 0]]), none, none] (.int 1) (.nd (.nd .lf 4475662931008 [some (.obj 3), none, none, none, none, some (.tup [.tup [.tup [.int 2, .int 1, .int 2], .tup [.int 1, .int 0, .int 1], .tup [.int 0, .int 0, .int 1]], .non, .tup [.int 2, .int 5, .int 1]]), none, none] (.int 1) .lf) 4486395876352 [some (.obj 3), none, none, none, none, some (.tup [.tup [.tup [.int 1, .int 0, .int 2], .tup [.int 1, .int 1, .int 2], .tup [.int 0, .int 0, .int 1]], .non, .tup [.int 1, .int 5, .int 0]]), none, none] (.int 1) .lf)) 4544495879170 [some (.obj 3), none, none, none, none, some (.tup [.tup [.tup [.int 3, .int 0, .int 1], .tup [.int 2, .int 0, .int 1], .tup [.int 1, .int 0, .int 1]], .tup [.int 1, .int 0], .tup [.int 0, .int 1, .int 0]]), none, none] (.non) (.nd (.nd (.nd .lf 4544516854850 [some (.obj 3), none, none, none, none, some (.tup [.tup [.tup [.int 3, .int 1, .int 2], .tup [.int 2, .int 0, .int 1], .tup [.int 1, .int 0, .int 1]], .tup [.int 1, .int 0], .tup [.int 0, .int 5, .int 1]]), none, none] (.non) .lf) 4544516887619 [some (.obj 3), none, none, none, none, some (.tup [.tup [.tup [.int 3, .int 1, .int 2], .tup [.int 2, .int 0, .int 1], .tup [.int 1, .int 0, .int 1]], .tup [.int 2, .int 0], .tup [.int 2, .int 5, .int 1]]), none, none] (.non) .lf) 4555249308747 [some (.obj 3), none, none, none, none, some (.tup [.tup [.tup [.int 0, .int 0, .int 2], .tup [.int 2, .int 1, .int 2], .tup [.int 1, .int 0, .int 1]], .tup [.int 2, .int 1], .tup [.int 1, .int 5, .int 1]]), none, none] (.non) (.nd .lf 4555249320011 [some (.obj 3), none, none, none, none, some (.tup [.tup [.tup [.int 0, .int 0, .int 2], .tup [.int 2, .int 1, .int 2], .tup [.int 1, .int 0, .int 1]], .tup [.int 2, .int 1], .tup [.int 2, .int 0, .int 1]]), none, none] (.non) .lf))) 4555249832963 [some (.obj 3), none, none, none, none, some (.tup [.tup [.tup [.int 2, .int 0, .int 2], .tup [.int 2, .int 1, .int 2], .tup [.int 1, .int 0, .int 1]], .tup [.int 2, .int 0], .tup [.int 1, .int 5, .int 0]]), none, none] (.non) (.nd (.nd (.nd (.nd .lf 4555249846339 [some (.obj 3), none, none, none, none, some (.tup [.tup [.tup [.int 2, .int 0, .int 2], .tup [.int 2, .int 1, .int 2], .tup [.int 1, .int 0, .int 1]], .tup [.int 2, .int 0], .tup [.int 2, .int 2, .int 1]]), none, none] (.non) .lf) 9981655534592 [some (.obj 3), none, none, none, none, some (.tup [.tup [.tup [.int 1, .int 0, .int 1], .tup [.int 0, .int 0, .int 2], .tup [.int 0, .int 1, .int 2]], .non, .tup [.int 1, .int 3, .int 0]]), none, none] (.int 1) .lf) 9981655536704 [some (.obj 3), none, none, none, none, some (.tup [.tup [.tup [.int 1, .int 0, .int 1], .tup [.int 0, .int 0, .int 2], .tup [.int 0, .int 1, .int 2]], .non, .tup [.int 1, .int 5, .int 1]]), none, none] (.int 1) (.nd (.nd .lf 9981676508160 [some (.obj 3), none, none, none, none, some (.tup [.tup [.tup [.int 1, .int 1, .int 2], .tup [.int 0, .int 0, .int 2], .tup [.int 0, .int 1, .int 2]], .non, .tup [.int 1, .int 5, .int 0]]), none, none] (.int 1) .lf) 9981676521536 [some (.obj 3), none, none, none, none, some (.tup [.tup [.tup [.int 1, .int 1, .int 2], .tup [.int 0, .int 0, .int 2], .tup [.int 0, .int 1, .int 2]], .non, .tup [.int 2, .int 2, .int 1]]), none, none] (.int 1) .lf)) 10050491909122 [some (.obj 3), none, none, none, none, some (.tup [.tup [.non, .tup [.int 1, .int 0, .int 2], .tup [.int 1, .int 1, .int 2]], .tup [.int 1, .int 0], .tup [.int 0, .int 1, .int 0]]), none, none] (.non) (.nd (.nd (.nd .lf 10050509493315 [some (.obj 3), none, none, none, none, some (.tup [.tup [.tup [.int 2, .int 0, .int 1], .tup [.int 1, .int 0, .int 2], .tup [.int 1, .int 1, .int 2]], .tup [.int 2, .int 0], .tup [.int 1, .int 5, .int 1]]), none, none] (.non) .lf) 10050525725707 [some (.obj 3), none, none, none, none, some (.tup [.tup [.tup [.int 0, .int 0, .int 2], .tup [.int 1, .int 0, .int 2], .tup [.int 1, .int 1, .int 2]], .tup [.int 2, .int 1], .tup [.int 0, .int 1, .int 0]]), none, none] (.non) .lf) 10050525761611 [some (.obj 3), none, none, none, none, some (.tup [.tup [.tup [.int 0, .int 0, .int 2], .tup [.int 1, .int 0, .int 2], .tup [.int 1, .int 1, .int 2]], .tup [.int 2, .int 1], .tup [.int 2, .int 4, .int 1]]), none, none] (.non) (.nd .lf 10050530464771 [some (.obj 3), none, none, none, none, some (.tup [.tup [.tup [.int 2, .int 1, .int 2], .tup [.int 1, .int 0, .int 2], .tup [.int 1, .int 1, .int 2]], .tup [.int 2, .int 0], .tup [.int 1, .int 5, .int 0]]), none, none] (.non) .lf))))
def bt_slow_6 : Bt := (.nd (.nd (.nd (.nd (.nd .lf 4475641958464 [some (.obj 3), none, none, none, none, some (.tup [.tup [.tup [.int 2, .int 0, .int 1], .tup [.int 1, .int 0, .int 1], .tup [.int 0, .int 0, .int 1]], .non, .tup [.int 2, .int 4, .int 1]]), none, none] (.int 1) .lf) 4475662898240 [some (.obj 3), none, none, none, none, some (.tup [.tup [.tup [.int 2, .int 1, .int 2], .tup [.int 1, .int 0, .int 1], .tup [.int 0, .int 0, .int 1]], .non, .tup [.int 0, .int 5, .int 1]]), none, none] (.int 1) .lf) 4486395856960 [some (.obj 3), none, none, none, none, some (.tup [.tup [.tup [.int 1, .int 0, .int 2], .tup [.int 1, .int 1, .int 2], .tup [.int 0, .int 0, .int 1]], .non, .tup [.int 0, .int 2, .int 1]]), none, none] (.int 2) (.nd (.nd .lf 4486395888640 [some (.obj 3), none, none, none, none, some (.tup [.tup [.tup [.int 1, .int 0, .int 2], .tup [.int 1, .int 1, .int 2], .tup [.int 0, .int 0, .int 1]], .non, .tup [.int 2, .int 1, .int 0]]), none, none] (.int 1) .lf) 4544478071810 [some (.obj 3), none, none, none, none, some (.tup [.tup [.non, .tup [.int 2, .int 0, .int 1], .tup [.int 1, .int 0, .int 1]], .tup [.int 1, .int 0], .tup [.int 1, .int 3, .int 0]]), none, none] (.non) .lf)) 4544495879171 [some (.obj 3), none, none, none, none, some (.tup [.tup [.tup [.int 3, .int 0, .int 1], .tup [.int 2, .int 0, .int 1], .tup [.int 1, .int 0, .int 1]], .tup [.int 2, .int 0], .tup [.int 0, .int 1, .int 0]]), none, none] (.non) (.nd (.nd (.nd .lf 4544495882306 [some (.obj 3), none, none, none, none, some (.tup [.tup [.tup [.int 3, .int 0, .int 1], .tup [.int 2, .int 0, .int 1], .tup [.int 1, .int 0, .int 1]], .tup [.int 1, .int 0], .tup [.int 0, .int 4, .int 1]]), none, none] (.non) .lf) 4544495916098 [some (.obj 3), none, none, none, none, some (.tup [.tup [.tup [.int 3, .int 0, .int 1], .tup [.int 2, .int 0, .int 1], .tup [.int 1, .int 0, .int 1]], .tup [.int 1, .int 0], .tup [.int 2, .int 5, .int 1]]), none, none] (.non) .lf) 4544511888395 [some (.obj 3), none, none, none, none, some (.tup [.tup [.tup [.int 0, .int 0, .int 2], .tup [.int 2, .int 0, .int 1], .tup [.int 1, .int 0, .int 1]], .tup [.int 2, .int 1], .tup [.int 1, .int 3, .int 0]]), none, none] (.non) (.nd (.nd .lf 4544511890507 [some (.obj 3), none, none, none, none, some (.tup [.tup [.tup [.int 0, .int 0, .int 2], .tup [.int 2, .int 0, .int 1], .tup [.int 1, .int 0, .int 1]], .tup [.int 2, .int 1], .tup [.int 1, .int 5, .int 1]]), none, none] (.non) .lf) 4544511901771 [some (.obj 3), none, none, none, none, some (.tup [.tup [.tup [.int 0, .int 0, .int 2], .tup [.int 2, .int 0, .int 1], .tup [.int 1, .int 0, .int 1]], .tup [.int 2, .int 1], .tup [.int 2, .int 0, .int 1]]), none, none] (.non) .lf))) 4544516854851 [some (.obj 3), none, none, none, none, some (.tup [.tup [.tup [.int 3, .int 1, .int 2], .tup [.int 2, .int 0, .int 1], .tup [.int 1, .int 0, .int 1]], .tup [.int 2, .int 0], .tup [.int 0, .int 5, .int 1]]), none, none] (.non) (.nd (.nd (.nd (.nd .lf 4544516887554 [some (.obj 3), none, none, none, none, some (.tup [.tup [.tup [.int 3, .int 1, .int 2], .tup [.int 2, .int 0, .int 1], .tup [.int 1, .int 0, .int 1]], .tup [.int 1, .int 0], .tup [.int 2, .int 5, .int 0]]), none, none] (.non) .lf) 4555249812482 [some (.obj 3), none, none, none, none, some (.tup [.tup [.tup [.int 2, .int 0, .int 2], .tup [.int 2, .int 1, .int 2], .tup [.int 1, .int 0, .int 1]], .tup [.int 1, .int 0], .tup [.int 0, .int 1, .int 0]]), none, none] (.non) .lf) 4555249848386 [some (.obj 3), none, none, none, none, some (.tup [.tup [.tup [.int 2, .int 0, .int 2], .tup [.int 2, .int 1, .int 2], .tup [.int 1, .int 0, .int 1]], .tup [.int 1, .int 0], .tup [.int 2, .int 4, .int 1]]), none, none] (.non) (.nd (.nd .lf 9981638213696 [some (.obj 3), none, none, none, none, some (.tup [.tup [.non, .tup [.int 0, .int 0, .int 2], .tup [.int 0, .int 1, .int 2]], .non, .tup [.int 0, .int 0, .int 1]]), none, none] (.int 0) .lf) 9981655515200 [some (.obj 3), none, none, none, none, some (.tup [.tup [.tup [.int 1, .int 0, .int 1], .tup [.int 0, .int 0, .int 2], .tup [.int 0, .int 1, .int 2]], .non, .tup [.int 0, .int 0, .int 1]]), none, none] (.int 0) .lf)) 10050491909123 [some (.obj 3), none, none, none, none, some (.tup [.tup [.non, .tup [.int 1, .int 0, .int 2], .tup [.int 1, .int 1, .int 2]], .tup [.int 2, .int 0], .tup [.int 0, .int 1, .int 0]]), none, none] (.non) (.nd (.nd (.nd .lf 10050509493250 [some (.obj 3), none, none, none, none, some (.tup [.tup [.tup [.int 2, .int 0, .int 1], .tup [.int 1, .int 0, .int 2], .tup [.int 1, .int 1, .int 2]], .tup [.int 1, .int 0], .tup [.int 1, .int 5, .int 0]]), none, none] (.non) .lf) 10050525728843 [some (.obj 3), none, none, none, none, some (.tup [.tup [.tup [.int 0, .int 0, .int 2], .tup [.int 1, .int 0, .int 2], .tup [.int 1, .int 1, .int 2]], .tup [.int 2, .int 1], .tup [.int 0, .int 4, .int 1]]), none, none] (.non) .lf) 10050525760523 [some (.obj 3), none, none, none, none, some (.tup [.tup [.tup [.int 0, .int 0, .int 2], .tup [.int 1, .int 0, .int 2], .tup [.int 1, .int 1, .int 2]], .tup [.int 2, .int 1], .tup [.int 2, .int 3, .int 0]]), none, none] (.non) (.nd (.nd .lf 10050525762635 [some (.obj 3), none, none, none, none, some (.tup [.tup [.tup [.int 0, .int 0, .int 2], .tup [.int 1, .int 0, .int 2], .tup [.int 1, .int 1, .int 2]], .tup [.int 2, .int 1], .tup [.int 2, .int 5, .int 1]]), none, none] (.non) .lf) 10050530444290 [some (.obj 3), none, none, none, none, some (.tup [.tup [.tup [.int 2, .int 1, .int 2], .tup [.int 1, .int 0, .int 2], .tup [.int 1, .int 1, .int 2]], .tup [.int 1, .int 0], .tup [.int 0, .int 1, .int 0]]), none, none] (.non) .lf))))
def bt_slow_7 : Bt := (.nd (.nd (.nd (.nd (.nd .lf 4475624376384 [some (.obj 3), none, none, none, none, some (.tup [.tup [.non, .tup [.int 1, .int 0, .int 1], .tup [.int 0, .int 0, .int 1]], .non, .tup [.int 1, .int 2, .int 1]]), none, none] (.int 2) .lf) 4475641959488 [some (.obj 3), none, none, none, none, some (.tup [.tup [.tup [.int 2, .int 0, .int 1], .tup [.int 1, .int 0, .int 1], .tup [.int 0, .int 0, .int 1]], .non, .tup [.int 2, .int 5, .int 1]]), none, none] (.int 1) (.nd .lf 4475662930944 [some (.obj 3), none, none, none, none, some (.tup [.tup [.tup [.int 2, .int 1, .int 2], .tup [.int 1, .int 0, .int 1], .tup [.int 0, .int 0, .int 1]], .non, .tup [.int 2, .int 5, .int 0]]), none, none] (.int 1) .lf)) 4486395891776 [some (.obj 3), none, none, none, none, some (.tup [.tup [.tup [.int 1, .int 0, .int 2], .tup [.int 1, .int 1, .int 2], .tup [.int 0, .int 0, .int 1]], .non, .tup [.int 2, .int 4, .int 1]]), none, none] (.int 1) (.nd (.nd .lf 4544478071811 [some (.obj 3), none, none, none, none, some (.tup [.tup [.non, .tup [.int 2, .int 0, .int 1], .tup [.int 1, .int 0, .int 1]], .tup [.int 2, .int 0], .tup [.int 1, .int 3, .int 0]]), none, none] (.non) .lf) 4544495882307 [some (.obj 3), none, none, none, none, some (.tup [.tup [.tup [.int 3, .int 0, .int 1], .tup [.int 2, .int 0, .int 1], .tup [.int 1, .int 0, .int 1]], .tup [.int 2, .int 0], .tup [.int 0, .int 4, .int 1]]), none, none] (.non) .lf)) 4544495883330 [some (.obj 3), none, none, none, none, some (.tup [.tup [.tup [.int 3, .int 0, .int 1], .tup [.int 2, .int 0, .int 1], .tup [.int 1, .int 0, .int 1]], .tup [.int 1, .int 0], .tup [.int 0, .int 5, .int 1]]), none, none] (.non) (.nd (.nd (.nd .lf 4544495916099 [some (.obj 3), none, none, none, none, some (.tup [.tup [.tup [.int 3, .int 0, .int 1], .tup [.int 2, .int 0, .int 1], .tup [.int 1, .int 0, .int 1]], .tup [.int 2, .int 0], .tup [.int 2, .int 5, .int 1]]), none, none] (.non) .lf) 4544516854786 [some (.obj 3), none, none, none, none, some (.tup [.tup [.tup [.int 3, .int 1, .int 2], .tup [.int 2, .int 0, .int 1], .tup [.int 1, .int 0, .int 1]], .tup [.int 1, .int 0], .tup [.int 0, .int 5, .int 0]]), none, none] (.non) .lf) 4544516887555 [some (.obj 3), none, none, none, none, some (.tup [.tup [.tup [.int 3, .int 1, .int 2], .tup [.int 2, .int 0, .int 1], .tup [.int 1, .int 0, .int 1]], .tup [.int 2, .int 0], .tup [.int 2, .int 5, .int 0]]), none, none] (.non) (.nd (.nd .lf 4555249308683 [some (.obj 3), none, none, none, none, some (.tup [.tup [.tup [.int 0, .int 0, .int 2], .tup [.int 2, .int 1, .int 2], .tup [.int 1, .int 0, .int 1]], .tup [.int 2, .int 1], .tup [.int 1, .int 5, .int 0]]), none, none] (.non) .lf) 4555249322059 [some (.obj 3), none, none, none, none, some (.tup [.tup [.tup [.int 0, .int 0, .int 2], .tup [.int 2, .int 1, .int 2], .tup [.int 1, .int 0, .int 1]], .tup [.int 2, .int 1], .tup [.int 2, .int 2, .int 1]]), none, none] (.non) .lf))) 4555249812483 [some (.obj 3), none, none, none, none, some (.tup [.tup [.tup [.int 2, .int 0, .int 2], .tup [.int 2, .int 1, .int 2], .tup [.int 1, .int 0, .int 1]], .tup [.int 2, .int 0], .tup [.int 0, .int 1, .int 0]]), none, none] (.non) (.nd (.nd (.nd (.nd .lf 4555249848387 [some (.obj 3), none, none, none, none, some (.tup [.tup [.tup [.int 2, .int 0, .int 2], .tup [.int 2, .int 1, .int 2], .tup [.int 1, .int 0, .int 1]], .tup [.int 2, .int 0], .tup [.int 2, .int 4, .int 1]]), none, none] (.non) .lf) 4555249849410 [some (.obj 3), none, none, none, none, some (.tup [.tup [.tup [.int 2, .int 0, .int 2], .tup [.int 2, .int 1, .int 2], .tup [.int 1, .int 0, .int 1]], .tup [.int 1, .int 0], .tup [.int 2, .int 5, .int 1]]), none, none] (.non) .lf) 9981655536640 [some (.obj 3), none, none, none, none, some (.tup [.tup [.tup [.int 1, .int 0, .int 1], .tup [.int 0, .int 0, .int 2], .tup [.int 0, .int 1, .int 2]], .non, .tup [.int 1, .int 5, .int 0]]), none, none] (.int 1) (.nd (.nd .lf 9981676523584 [some (.obj 3), none, none, none, none, some (.tup [.tup [.tup [.int 1, .int 1, .int 2], .tup [.int 0, .int 0, .int 2], .tup [.int 0, .int 1, .int 2]], .non, .tup [.int 2, .int 4, .int 1]]), none, none] (.int 1) .lf) 10050509493251 [some (.obj 3), none, none, none, none, some (.tup [.tup [.tup [.int 2, .int 0, .int 1], .tup [.int 1, .int 0, .int 2], .tup [.int 1, .int 1, .int 2]], .tup [.int 2, .int 0], .tup [.int 1, .int 5, .int 0]]), none, none] (.non) .lf)) 10050525727755 [some (.obj 3), none, none, none, none, some (.tup [.tup [.tup [.int 0, .int 0, .int 2], .tup [.int 1, .int 0, .int 2], .tup [.int 1, .int 1, .int 2]], .tup [.int 2, .int 1], .tup [.int 0, .int 3, .int 0]]), none, none] (.non) (.nd (.nd (.nd .lf 10050525729867 [some (.obj 3), none, none, none, none, some (.tup [.tup [.tup [.int 0, .int 0, .int 2], .tup [.int 1, .int 0, .int 2], .tup [.int 1, .int 1, .int 2]], .tup [.int 2, .int 1], .tup [.int 0, .int 5, .int 1]]), none, none] (.non) .lf) 10050530444291 [some (.obj 3), none, none, none, none, some (.tup [.tup [.tup [.int 2, .int 1, .int 2], .tup [.int 1, .int 0, .int 2], .tup [.int 1, .int 1, .int 2]], .tup [.int 2, .int 0], .tup [.int 0, .int 1, .int 0]]), none, none] (.non) .lf) 10050530447426 [some (.obj 3), none, none, none, none, some (.tup [.tup [.tup [.int 2, .int 1, .int 2], .tup [.int 1, .int 0, .int 2], .tup [.int 1, .int 1, .int 2]], .tup [.int 1, .int 0], .tup [.int 0, .int 4, .int 1]]), none, none] (.non) (.nd (.nd .lf 10050530479106 [some (.obj 3), none, none, none, none, some (.tup [.tup [.tup [.int 2, .int 1, .int 2], .tup [.int 1, .int 0, .int 2], .tup [.int 1, .int 1, .int 2]], .tup [.int 1, .int 0], .tup [.int 2, .int 3, .int 0]]), none, none] (.non) .lf) 10050530481218 [some (.obj 3), none, none, none, none, some (.tup [.tup [.tup [.int 2, .int 1, .int 2], .tup [.int 1, .int 0, .int 2], .tup [.int 1, .int 1, .int 2]], .tup [.int 1, .int 0], .tup [.int 2, .int 5, .int 1]]), none, none] (.non) .lf))))
def bt_slow_8 : Bt := (.nd (.nd (.nd (.nd (.nd .lf 4475641924608 [some (.obj 3), none, none, none, none, some (.tup [.tup [.tup [.int 2, .int 0, .int 1], .tup [.int 1, .int 0, .int 1], .tup [.int 0, .int 0, .int 1]], .non, .tup [.int 0, .int 3, .int 0]]), none, none] (.int 3) .lf) 4475641926720 [some (.obj 3), none, none, none, none, some (.tup [.tup [.tup [.int 2, .int 0, .int 1], .tup [.int 1, .int 0, .int 1], .tup [.int 0, .int 0, .int 1]], .non, .tup [.int 0, .int 5, .int 1]]), none, none] (.int 1) (.nd .lf 4475662898176 [some (.obj 3), none, none, none, none, some (.tup [.tup [.tup [.int 2, .int 1, .int 2], .tup [.int 1, .int 0, .int 1], .tup [.int 0, .int 0, .int 1]], .non, .tup [.int 0, .int 5, .int 0]]), none, none] (.int 1) .lf)) 4475662911552 [some (.obj 3), none, none, none, none, some (.tup [.tup [.tup [.int 2, .int 1, .int 2], .tup [.int 1, .int 0, .int 1], .tup [.int 0, .int 0, .int 1]], .non, .tup [.int 1, .int 2, .int 1]]), none, none] (.int 2) (.nd (.nd .lf 4486395859008 [some (.obj 3), none, none, none, none, some (.tup [.tup [.tup [.int 1, .int 0, .int 2], .tup [.int 1, .int 1, .int 2], .tup [.int 0, .int 0, .int 1]], .non, .tup [.int 0, .int 4, .int 1]]), none, none] (.int 2) .lf) 4486395890688 [some (.obj 3), none, none, none, none, some (.tup [.tup [.tup [.int 1, .int 0, .int 2], .tup [.int 1, .int 1, .int 2], .tup [.int 0, .int 0, .int 1]], .non, .tup [.int 2, .int 3, .int 0]]), none, none] (.int 1) .lf)) 4486395892800 [some (.obj 3), none, none, none, none, some (.tup [.tup [.tup [.int 1, .int 0, .int 2], .tup [.int 1, .int 1, .int 2], .tup [.int 0, .int 0, .int 1]], .non, .tup [.int 2, .int 5, .int 1]]), none, none] (.int 1) (.nd (.nd (.nd .lf 4544478087234 [some (.obj 3), none, none, none, none, some (.tup [.tup [.non, .tup [.int 2, .int 0, .int 1], .tup [.int 1, .int 0, .int 1]], .tup [.int 1, .int 0], .tup [.int 2, .int 2, .int 1]]), none, none] (.non) .lf) 4544495883331 [some (.obj 3), none, none, none, none, some (.tup [.tup [.tup [.int 3, .int 0, .int 1], .tup [.int 2, .int 0, .int 1], .tup [.int 1, .int 0, .int 1]], .tup [.int 2, .int 0], .tup [.int 0, .int 5, .int 1]]), none, none] (.non) (.nd .lf 4544495916034 [some (.obj 3), none, none, none, none, some (.tup [.tup [.tup [.int 3, .int 0, .int 1], .tup [.int 2, .int 0, .int 1], .tup [.int 1, .int 0, .int 1]], .tup [.int 1, .int 0], .tup [.int 2, .int 5, .int 0]]), none, none] (.non) .lf)) 4544511890443 [some (.obj 3), none, none, none, none, some (.tup [.tup [.tup [.int 0, .int 0, .int 2], .tup [.int 2, .int 0, .int 1], .tup [.int 1, .int 0, .int 1]], .tup [.int 2, .int 1], .tup [.int 1, .int 5, .int 0]]), none, none] (.non) (.nd (.nd .lf 4544511903819 [some (.obj 3), none, none, none, none, some (.tup [.tup [.tup [.int 0, .int 0, .int 2], .tup [.int 2, .int 0, .int 1], .tup [.int 1, .int 0, .int 1]], .tup [.int 2, .int 1], .tup [.int 2, .int 2, .int 1]]), none, none] (.non) .lf) 4544516854787 [some (.obj 3), none, none, none, none, some (.tup [.tup [.tup [.int 3, .int 1, .int 2], .tup [.int 2, .int 0, .int 1], .tup [.int 1, .int 0, .int 1]], .tup [.int 2, .int 0], .tup [.int 0, .int 5, .int 0]]), none, none] (.non) .lf))) 4555249814530 [some (.obj 3), none, none, none, none, some (.tup [.tup [.tup [.int 2, .int 0, .int 2], .tup [.int 2, .int 1, .int 2], .tup [.int 1, .int 0, .int 1]], .tup [.int 1, .int 0], .tup [.int 0, .int 3, .int 0]]), none, none] (.non) (.nd (.nd (.nd (.nd .lf 4555249816642 [some (.obj 3), none, none, none, none, some (.tup [.tup [.tup [.int 2, .int 0, .int 2], .tup [.int 2, .int 1, .int 2], .tup [.int 1, .int 0, .int 1]], .tup [.int 1, .int 0], .tup [.int 0, .int 5, .int 1]]), none, none] (.non) .lf) 4555249849411 [some (.obj 3), none, none, none, none, some (.tup [.tup [.tup [.int 2, .int 0, .int 2], .tup [.int 2, .int 1, .int 2], .tup [.int 1, .int 0, .int 1]], .tup [.int 2, .int 0], .tup [.int 2, .int 5, .int 1]]), none, none] (.non) (.nd .lf 9981655517248 [some (.obj 3), none, none, none, none, some (.tup [.tup [.tup [.int 1, .int 0, .int 1], .tup [.int 0, .int 0, .int 2], .tup [.int 0, .int 1, .int 2]], .non, .tup [.int 0, .int 2, .int 1]]), none, none] (.int 2) .lf)) 9981676490816 [some (.obj 3), none, none, none, none, some (.tup [.tup [.tup [.int 1, .int 1, .int 2], .tup [.int 0, .int 0, .int 2], .tup [.int 0, .int 1, .int 2]], .non, .tup [.int 0, .int 4, .int 1]]), none, none] (.int 1) (.nd (.nd .lf 9981676524608 [some (.obj 3), none, none, none, none, some (.tup [.tup [.tup [.int 1, .int 1, .int 2], .tup [.int 0, .int 0, .int 2], .tup [.int 0, .int 1, .int 2]], .non, .tup [.int 2, .int 5, .int 1]]), none, none] (.int 1) .lf) 10050509472770 [some (.obj 3), none, none, none, none, some (.tup [.tup [.tup [.int 2, .int 0, .int 1], .tup [.int 1, .int 0, .int 2], .tup [.int 1, .int 1, .int 2]], .tup [.int 1, .int 0], .tup [.int 0, .int 1, .int 0]]), none, none] (.non) .lf)) 10050509508674 [some (.obj 3), none, none, none, none, some (.tup [.tup [.tup [.int 2, .int 0, .int 1], .tup [.int 1, .int 0, .int 2], .tup [.int 1, .int 1, .int 2]], .tup [.int 1, .int 0], .tup [.int 2, .int 4, .int 1]]), none, none] (.non) (.nd (.nd (.nd .lf 10050525762571 [some (.obj 3), none, none, none, none, some (.tup [.tup [.tup [.int 0, .int 0, .int 2], .tup [.int 1, .int 0, .int 2], .tup [.int 1, .int 1, .int 2]], .tup [.int 2, .int 1], .tup [.int 2, .int 5, .int 0]]), none, none] (.non) .lf) 10050530447427 [some (.obj 3), none, none, none, none, some (.tup [.tup [.tup [.int 2, .int 1, .int 2], .tup [.int 1, .int 0, .int 2], .tup [.int 1, .int 1, .int 2]], .tup [.int 2, .int 0], .tup [.int 0, .int 4, .int 1]]), none, none] (.non) .lf) 10050530448450 [some (.obj 3), none, none, none, none, some (.tup [.tup [.tup [.int 2, .int 1, .int 2], .tup [.int 1, .int 0, .int 2], .tup [.int 1, .int 1, .int 2]], .tup [.int 1, .int 0], .tup [.int 0, .int 5, .int 1]]), none, none] (.non) (.nd (.nd .lf 10050530479107 [some (.obj 3), none, none, none, none, some (.tup [.tup [.tup [.int 2, .int 1, .int 2], .tup [.int 1, .int 0, .int 2], .tup [.int 1, .int 1, .int 2]], .tup [.int 2, .int 0], .tup [.int 2, .int 3, .int 0]]), none, none] (.non) .lf) 10050530481219 [some (.obj 3), none, none, none, none, some (.tup [.tup [.tup [.int 2, .int 1, .int 2], .tup [.int 1, .int 0, .int 2], .tup [.int 1, .int 1, .int 2]], .tup [.int 2, .int 0], .tup [.int 2, .int 5, .int 1]]), none, none] (.non) .lf))))
def bt_slow_9 : Bt := (.nd (.nd (.nd (.nd (.nd .lf 64 [some (.obj 3), none, none, none, none, some (.tup [.tup [.non, .non, .non], .non, .tup [.int 0, .int 0, .int 1]]), none, none] (.int 0) .lf) 4475641959424 [some (.obj 3), none, none, none, none, some (.tup [.tup [.tup [.int 2, .int 0, .int 1], .tup [.int 1, .int 0, .int 1], .tup [.int 0, .int 0, .int 1]], .non, .tup [.int 2, .int 5, .int 0]]), none, none] (.int 1) .lf) 4486395860032 [some (.obj 3), none, none, none, none, some (.tup [.tup [.tup [.int 1, .int 0, .int 2], .tup [.int 1, .int 1, .int 2], .tup [.int 0, .int 0, .int 1]], .non, .tup [.int 0, .int 5, .int 1]]), none, none] (.int 2) (.nd (.nd .lf 4544478087235 [some (.obj 3), none, none, none, none, some (.tup [.tup [.non, .tup [.int 2, .int 0, .int 1], .tup [.int 1, .int 0, .int 1]], .tup [.int 2, .int 0], .tup [.int 2, .int 2, .int 1]]), none, none] (.non) .lf) 4544495883266 [some (.obj 3), none, none, none, none, some (.tup [.tup [.tup [.int 3, .int 0, .int 1], .tup [.int 2, .int 0, .int 1], .tup [.int 1, .int 0, .int 1]], .tup [.int 1, .int 0], .tup [.int 0, .int 5, .int 0]]), none, none] (.non) .lf)) 4544495916035 [some (.obj 3), none, none, none, none, some (.tup [.tup [.tup [.int 3, .int 0, .int 1], .tup [.int 2, .int 0, .int 1], .tup [.int 1, .int 0, .int 1]], .tup [.int 2, .int 0], .tup [.int 2, .int 5, .int 0]]), none, none] (.non) (.nd (.nd (.nd .lf 4555249288203 [some (.obj 3), none, none, none, none, some (.tup [.tup [.tup [.int 0, .int 0, .int 2], .tup [.int 2, .int 1, .int 2], .tup [.int 1, .int 0, .int 1]], .tup [.int 2, .int 1], .tup [.int 0, .int 1, .int 0]]), none, none] (.non) .lf) 4555249324107 [some (.obj 3), none, none, none, none, some (.tup [.tup [.tup [.int 0, .int 0, .int 2], .tup [.int 2, .int 1, .int 2], .tup [.int 1, .int 0, .int 1]], .tup [.int 2, .int 1], .tup [.int 2, .int 4, .int 1]]), none, none] (.non) .lf) 4555249814531 [some (.obj 3), none, none, none, none, some (.tup [.tup [.tup [.int 2, .int 0, .int 2], .tup [.int 2, .int 1, .int 2], .tup [.int 1, .int 0, .int 1]], .tup [.int 2, .int 0], .tup [.int 0, .int 3, .int 0]]), none, none] (.non) (.nd (.nd .lf 4555249816643 [some (.obj 3), none, none, none, none, some (.tup [.tup [.tup [.int 2, .int 0, .int 2], .tup [.int 2, .int 1, .int 2], .tup [.int 1, .int 0, .int 1]], .tup [.int 2, .int 0], .tup [.int 0, .int 5, .int 1]]), none, none] (.non) .lf) 4555249849346 [some (.obj 3), none, none, none, none, some (.tup [.tup [.tup [.int 2, .int 0, .int 2], .tup [.int 2, .int 1, .int 2], .tup [.int 1, .int 0, .int 1]], .tup [.int 1, .int 0], .tup [.int 2, .int 5, .int 0]]), none, none] (.non) .lf))) 9981655552064 [some (.obj 3), none, none, none, none, some (.tup [.tup [.tup [.int 1, .int 0, .int 1], .tup [.int 0, .int 0, .int 2], .tup [.int 0, .int 1, .int 2]], .non, .tup [.int 2, .int 4, .int 1]]), none, none] (.int 1) (.nd (.nd (.nd (.nd .lf 9981676489728 [some (.obj 3), none, none, none, none, some (.tup [.tup [.tup [.int 1, .int 1, .int 2], .tup [.int 0, .int 0, .int 2], .tup [.int 0, .int 1, .int 2]], .non, .tup [.int 0, .int 3, .int 0]]), none, none] (.int 1) .lf) 9981676491840 [some (.obj 3), none, none, none, none, some (.tup [.tup [.tup [.int 1, .int 1, .int 2], .tup [.int 0, .int 0, .int 2], .tup [.int 0, .int 1, .int 2]], .non, .tup [.int 0, .int 5, .int 1]]), none, none] (.int 1) .lf) 10050491926594 [some (.obj 3), none, none, none, none, some (.tup [.tup [.non, .tup [.int 1, .int 0, .int 2], .tup [.int 1, .int 1, .int 2]], .tup [.int 1, .int 0], .tup [.int 1, .int 2, .int 1]]), none, none] (.non) (.nd (.nd .lf 10050509472771 [some (.obj 3), none, none, none, none, some (.tup [.tup [.tup [.int 2, .int 0, .int 1], .tup [.int 1, .int 0, .int 2], .tup [.int 1, .int 1, .int 2]], .tup [.int 2, .int 0], .tup [.int 0, .int 1, .int 0]]), none, none] (.non) .lf) 10050509508675 [some (.obj 3), none, none, none, none, some (.tup [.tup [.tup [.int 2, .int 0, .int 1], .tup [.int 1, .int 0, .int 2], .tup [.int 1, .int 1, .int 2]], .tup [.int 2, .int 0], .tup [.int 2, .int 4, .int 1]]), none, none] (.non) .lf)) 10050509509698 [some (.obj 3), none, none, none, none, some (.tup [.tup [.tup [.int 2, .int 0, .int 1], .tup [.int 1, .int 0, .int 2], .tup [.int 1, .int 1, .int 2]], .tup [.int 1, .int 0], .tup [.int 2, .int 5, .int 1]]), none, none] (.non) (.nd (.nd (.nd .lf 10050525729803 [some (.obj 3), none, none, none, none, some (.tup [.tup [.tup [.int 0, .int 0, .int 2], .tup [.int 1, .int 0, .int 2], .tup [.int 1, .int 1, .int 2]], .tup [.int 2, .int 1], .tup [.int 0, .int 5, .int 0]]), none, none] (.non) .lf) 10050525743179 [some (.obj 3), none, none, none, none, some (.tup [.tup [.tup [.int 0, .int 0, .int 2], .tup [.int 1, .int 0, .int 2], .tup [.int 1, .int 1, .int 2]], .tup [.int 2, .int 1], .tup [.int 1, .int 2, .int 1]]), none, none] (.non) .lf) 10050530448451 [some (.obj 3), none, none, none, none, some (.tup [.tup [.tup [.int 2, .int 1, .int 2], .tup [.int 1, .int 0, .int 2], .tup [.int 1, .int 1, .int 2]], .tup [.int 2, .int 0], .tup [.int 0, .int 5, .int 1]]), none, none] (.non) (.nd .lf 10050530481154 [some (.obj 3), none, none, none, none, some (.tup [.tup [.tup [.int 2, .int 1, .int 2], .tup [.int 1, .int 0, .int 2], .tup [.int 1, .int 1, .int 2]], .tup [.int 1, .int 0], .tup [.int 2, .int 5, .int 0]]), none, none] (.non) .lf))))
def bt_slow_10 : Bt := (.nd (.nd (.nd (.nd (.nd .lf 33849419 [some (.obj 3), none, none, none, none, some (.tup [.tup [.tup [.int 0, .int 0, .int 2], .non, .non], .tup [.int 2, .int 1], .tup [.int 2, .int 0, .int 1]]), none, none] (.non) .lf) 4475641926656 [some (.obj 3), none, none, none, none, some (.tup [.tup [.tup [.int 2, .int 0, .int 1], .tup [.int 1, .int 0, .int 1], .tup [.int 0, .int 0, .int 1]], .non, .tup [.int 0, .int 5, .int 0]]), none, none] (.int 3) (.nd .lf 4475641940032 [some (.obj 3), none, none, none, none, some (.tup [.tup [.tup [.int 2, .int 0, .int 1], .tup [.int 1, .int 0, .int 1], .tup [.int 0, .int 0, .int 1]], .non, .tup [.int 1, .int 2, .int 1]]), none, none] (.int 2) .lf)) 4475662913600 [some (.obj 3), none, none, none, none, some (.tup [.tup [.tup [.int 2, .int 1, .int 2], .tup [.int 1, .int 0, .int 1], .tup [.int 0, .int 0, .int 1]], .non, .tup [.int 1, .int 4, .int 1]]), none, none] (.int 2) (.nd (.nd .lf 4486395892736 [some (.obj 3), none, none, none, none, some (.tup [.tup [.tup [.int 1, .int 0, .int 2], .tup [.int 1, .int 1, .int 2], .tup [.int 0, .int 0, .int 1]], .non, .tup [.int 2, .int 5, .int 0]]), none, none] (.int 1) .lf) 4535519313995 [some (.obj 3), none, none, none, none, some (.tup [.tup [.tup [.int 0, .int 0, .int 2], .non, .tup [.int 1, .int 0, .int 1]], .tup [.int 2, .int 1], .tup [.int 2, .int 0, .int 1]]), none, none] (.non) .lf)) 4544478053378 [some (.obj 3), none, none, none, none, some (.tup [.tup [.non, .tup [.int 2, .int 0, .int 1], .tup [.int 1, .int 0, .int 1]], .tup [.int 1, .int 0], .tup [.int 0, .int 1, .int 0]]), none, none] (.non) (.nd (.nd (.nd .lf 4544495883267 [some (.obj 3), none, none, none, none, some (.tup [.tup [.tup [.int 3, .int 0, .int 1], .tup [.int 2, .int 0, .int 1], .tup [.int 1, .int 0, .int 1]], .tup [.int 2, .int 0], .tup [.int 0, .int 5, .int 0]]), none, none] (.non) .lf) 4544511869963 [some (.obj 3), none, none, none, none, some (.tup [.tup [.tup [.int 0, .int 0, .int 2], .tup [.int 2, .int 0, .int 1], .tup [.int 1, .int 0, .int 1]], .tup [.int 2, .int 1], .tup [.int 0, .int 1, .int 0]]), none, none] (.non) (.nd .lf 4544511905867 [some (.obj 3), none, none, none, none, some (.tup [.tup [.tup [.int 0, .int 0, .int 2], .tup [.int 2, .int 0, .int 1], .tup [.int 1, .int 0, .int 1]], .tup [.int 2, .int 1], .tup [.int 2, .int 4, .int 1]]), none, none] (.non) .lf)) 4544516869122 [some (.obj 3), none, none, none, none, some (.tup [.tup [.tup [.int 3, .int 1, .int 2], .tup [.int 2, .int 0, .int 1], .tup [.int 1, .int 0, .int 1]], .tup [.int 1, .int 0], .tup [.int 1, .int 3, .int 0]]), none, none] (.non) (.nd (.nd .lf 4544516871234 [some (.obj 3), none, none, none, none, some (.tup [.tup [.tup [.int 3, .int 1, .int 2], .tup [.int 2, .int 0, .int 1], .tup [.int 1, .int 0, .int 1]], .tup [.int 1, .int 0], .tup [.int 1, .int 5, .int 1]]), none, none] (.non) .lf) 4555249325131 [some (.obj 3), none, none, none, none, some (.tup [.tup [.tup [.int 0, .int 0, .int 2], .tup [.int 2, .int 1, .int 2], .tup [.int 1, .int 0, .int 1]], .tup [.int 2, .int 1], .tup [.int 2, .int 5, .int 1]]), none, none] (.non) .lf))) 4555249816578 [some (.obj 3), none, none, none, none, some (.tup [.tup [.tup [.int 2, .int 0, .int 2], .tup [.int 2, .int 1, .int 2], .tup [.int 1, .int 0, .int 1]], .tup [.int 1, .int 0], .tup [.int 0, .int 5, .int 0]]), none, none] (.non) (.nd (.nd (.nd (.nd .lf 4555249849347 [some (.obj 3), none, none, none, none, some (.tup [.tup [.tup [.int 2, .int 0, .int 2], .tup [.int 2, .int 1, .int 2], .tup [.int 1, .int 0, .int 1]], .tup [.int 2, .int 0], .tup [.int 2, .int 5, .int 0]]), none, none] (.non) .lf) 9981655519296 [some (.obj 3), none, none, none, none, some (.tup [.tup [.tup [.int 1, .int 0, .int 1], .tup [.int 0, .int 0, .int 2], .tup [.int 0, .int 1, .int 2]], .non, .tup [.int 0, .int 4, .int 1]]), none, none] (.int 2) (.nd .lf 9981655550976 [some (.obj 3), none, none, none, none, some (.tup [.tup [.tup [.int 1, .int 0, .int 1], .tup [.int 0, .int 0, .int 2], .tup [.int 0, .int 1, .int 2]], .non, .tup [.int 2, .int 3, .int 0]]), none, none] (.int 1) .lf)) 9981655553088 [some (.obj 3), none, none, none, none, some (.tup [.tup [.tup [.int 1, .int 0, .int 1], .tup [.int 0, .int 0, .int 2], .tup [.int 0, .int 1, .int 2]], .non, .tup [.int 2, .int 5, .int 1]]), none, none] (.int 1) (.nd (.nd .lf 9981676524544 [some (.obj 3), none, none, none, none, some (.tup [.tup [.tup [.int 1, .int 1, .int 2], .tup [.int 0, .int 0, .int 2], .tup [.int 0, .int 1, .int 2]], .non, .tup [.int 2, .int 5, .int 0]]), none, none] (.int 1) .lf) 10050491926595 [some (.obj 3), none, none, none, none, some (.tup [.tup [.non, .tup [.int 1, .int 0, .int 2], .tup [.int 1, .int 1, .int 2]], .tup [.int 2, .int 0], .tup [.int 1, .int 2, .int 1]]), none, none] (.non) .lf)) 10050509474818 [some (.obj 3), none, none, none, none, some (.tup [.tup [.tup [.int 2, .int 0, .int 1], .tup [.int 1, .int 0, .int 2], .tup [.int 1, .int 1, .int 2]], .tup [.int 1, .int 0], .tup [.int 0, .int 3, .int 0]]), none, none] (.non) (.nd (.nd (.nd .lf 10050509476930 [some (.obj 3), none, none, none, none, some (.tup [.tup [.tup [.int 2, .int 0, .int 1], .tup [.int 1, .int 0, .int 2], .tup [.int 1, .int 1, .int 2]], .tup [.int 1, .int 0], .tup [.int 0, .int 5, .int 1]]), none, none] (.non) .lf) 10050509509699 [some (.obj 3), none, none, none, none, some (.tup [.tup [.tup [.int 2, .int 0, .int 1], .tup [.int 1, .int 0, .int 2], .tup [.int 1, .int 1, .int 2]], .tup [.int 2, .int 0], .tup [.int 2, .int 5, .int 1]]), none, none] (.non) .lf) 10050530448386 [some (.obj 3), none, none, none, none, some (.tup [.tup [.tup [.int 2, .int 1, .int 2], .tup [.int 1, .int 0, .int 2], .tup [.int 1, .int 1, .int 2]], .tup [.int 1, .int 0], .tup [.int 0, .int 5, .int 0]]), none, none] (.non) (.nd (.nd .lf 10050530461762 [some (.obj 3), none, none, none, none, some (.tup [.tup [.tup [.int 2, .int 1, .int 2], .tup [.int 1, .int 0, .int 2], .tup [.int 1, .int 1, .int 2]], .tup [.int 1, .int 0], .tup [.int 1, .int 2, .int 1]]), none, none] (.non) .lf) 10050530481155 [some (.obj 3), none, none, none, none, some (.tup [.tup [.tup [.int 2, .int 1, .int 2], .tup [.int 1, .int 0, .int 2], .tup [.int 1, .int 1, .int 2]], .tup [.int 2, .int 0], .tup [.int 2, .int 5, .int 0]]), none, none] (.non) .lf))))
def ob_slow : List (Nat × LO) := [(3, .ins 0 [(0, .int 3), (1, .tup [.int 1, .int 2]), (2, .int 2), (3, .str "first"), (4, .str "none"), (5, .str "strict")])]
def tab_slow : Sl → Option D := tabF [bt_slow_0, bt_slow_1, bt_slow_2, bt_slow_3, bt_slow_4, bt_slow_5, bt_slow_6, bt_slow_7, bt_slow_8, bt_slow_9, bt_slow_10] 11 (encAt 5)
def b_m_Slowest_o_init_o : MS := (sSeq (sAsg (mVar 1) (gAttr 14 (mVar 0))) (sSeq (sAsg (mFn (f1 bTup) (aCons (mVar 2) aNil)) (gAttr 15 (mVar 0))) (sAsg (mFn (f1 bDict) (aCons (mVar 3) aNil)) (gAttr 16 (mVar 0)))))
def m_Slowest_o_init_o : Fn := fnM 4 b_m_Slowest_o_init_o
def b_f_slowest : MS := (sSeq (sExpr (mCall 1 f_check_ring (aCons (mVar 0) aNil))) (sSeq (sAsg (mTup (aCons (mCall 2 f_reach (aCons (mVar 0) (aCons (mC .non) aNil))) (aCons (mC (.int 0)) (aCons (mTup aNil) (aCons mDict0 aNil))))) (gTupM 4 (gsCons (gN 1) (gsCons (gN 2) (gsCons (gN 3) (gsCons (gN 4) gsNil)))))) (sSeq (sFor (iItemsM (mVar 1)) (.tp [5, 6]) (sSeq (sAsg (mTbl 4 ob_slow [0, 5] tab_slow me_slow) (gN 7)) (sSeq (sAsg (mIf (mB (m2 (vCmp .Is) (mVar 7) (mC .non))) (mC (.int 0)) (mVar 7)) (gSubM (mVar 4) (mVar 5))) (sIf (mB (m2 (vCmp .Gt) (m2 vIdx (mVar 4) (mVar 5)) (mVar 2))) (sPar 2 3 (aCons (mVar 7) (aCons (mVar 6) aNil))) sSkip)))) (sRet (mMake 2 4 m_Slowest_o_init_o (aCons (mVar 2) (aCons (mVar 3) (aCons (mVar 4) aNil))))))))
def f_slowest : Fn := fnM 8 b_f_slowest
def b_lamF_1 : ME := (mCall 1 f_slowest (aCons (m2 vIdx (mVar 0) (mC (.int 0))) aNil))
def lamF_1 : Fn := lamFn 1 b_lamF_1
def b_f_greatest_delay : MS := (sRet (m1 (vFld 14) (mCall 1 f_slowest (aCons (mVar 0) aNil))))
def f_greatest_delay : Fn := fnM 1 b_f_greatest_delay
def b_lamF_2 : ME := (mCall 1 f_greatest_delay (aCons (m2 vIdx (mVar 0) (mC (.int 0))) aNil))
def lamF_2 : Fn := lamFn 1 b_lamF_2
def b_m_Slowest_does_hold : MS := (sSeq (sAsg (m2 vIdx (m1 (vFld 16) (mVar 0)) (mVar 2)) (gN 3)) (sSeq (sIf (mNot (mB (mChain (vCmp .LtE) (vCmp .LtE) (mC (.int 0)) (mVar 3) (m1 (vFld 14) (mVar 0))))) (sRet (mC (.bl false))) sSkip) (sSeq (sAsg (mLc (iAny (mCall 2 f_deeds_of (aCons (mVar 1) (aCons (mVar 2) aNil)))) (.nm 5) mYes (mMeth [(1, 1, m_Log_state_now)] (mCall 3 f_done (aCons (mVar 1) (aCons (mVar 2) (aCons (mVar 5) aNil)))) aNil) [5]) (gN 4)) (sSeq (sIf (mNot (mB (mFn (f1 bAll) (aCons (mLc (iAny (mVar 4)) (.nm 6) mYes (m2 (vCmp .In) (mVar 6) (m1 (vFld 16) (mVar 0))) [6]) aNil)))) (sRet (mC (.bl false))) sSkip) (sSeq (sIf (mB (m2 (vCmp .IsNot) (m2 vIdx (mVar 2) (mC (.int 1))) (mC .non))) (sRet (mC (.bl true))) sSkip) (sRet (mIf (mB (m2 (vCmp .Eq) (mVar 3) (mC (.int 0)))) (mCall 1 f_is_there (aCons (mVar 2) aNil)) (m2 (vCmp .Lt) (m2 vIdx (m1 (vFld 16) (mVar 0)) (m2 vIdx (mVar 4) (m1 vNeg (mC (.int 1))))) (mVar 3)))))))))
def m_Slowest_does_hold : Fn := fnM 7 b_m_Slowest_does_hold
def b_m_Slowest_shows : MS := (sSeq (sExpr (mCall 1 f_check_ring (aCons (mVar 1) aNil))) (sSeq (sAsg (mCall 2 f_walked (aCons (mVar 1) (aCons (m1 (vFld 15) (mVar 0)) aNil))) (gN 2)) (sSeq (sIf (mOr (mB (m2 (vCmp .LtE) (mFn (f1 bLen) (aCons (mVar 2) aNil)) (mFn (f1 bLen) (aCons (m1 (vFld 15) (mVar 0)) aNil)))) (mB (m2 (vCmp .NotEq) (mCall 2 f_delay_of (aCons (mVar 1) (aCons (m2 vIdx (mVar 2) (m1 vNeg (mC (.int 1)))) aNil))) (m1 (vFld 14) (mVar 0))))) (sRet (mC (.bl false))) sSkip) (sRet (mAndV (m2 (vCmp .In) (mCall 1 f_start_of (aCons (mVar 1) aNil)) (m1 (vFld 16) (mVar 0))) (mFn (f1 bAll) (aCons (mLc (iAny (m1 (vFld 16) (mVar 0))) (.nm 3) mYes (mMeth [(2, 3, m_Slowest_does_hold)] (mVar 0) (aCons (mVar 1) (aCons (mVar 3) aNil))) [3]) aNil)))))))
def m_Slowest_shows : Fn := fnM 4 b_m_Slowest_shows
def b_lamF_3 : ME := (mMeth [(2, 2, m_Slowest_shows)] (mMake 2 4 m_Slowest_o_init_o (aCons (mC (.int 0)) (aCons (mLst aNil) (aCons mDict0 aNil)))) (aCons (m2 vIdx (mVar 0) (mC (.int 0))) aNil))
def lamF_3 : Fn := lamFn 1 b_lamF_3
def lamT : MTab := [(0, 1, lamF_0), (1, 1, lamF_1), (2, 1, lamF_2), (3, 1, lamF_3)]
def b_f_olaw_word_of : MS := (sSeq (sTry FX.xb (sExpr (mCallV lamT 0 (aCons (mVar 1) aNil))) (⟨1, some 2, fun ec ep => (sRet (mIf (mB (m2 (vCmp .Is) (mXf 1 2 ec ep) (mC .non))) (mC (.str "ring")) (mC (.str "other"))))⟩ :: (⟨2, some 2, fun ec ep => (sRet (mTup (aCons (mC (.str "history")) (aCons (mXf 2 2 ec ep) aNil))))⟩ :: (⟨0, none, fun _ _ => (sRet (mC (.str "other")))⟩ :: [])))) (sRet (mC (.str "fine"))))
def f_olaw_word_of : Fn := fnM 3 b_f_olaw_word_of
def b1_f_law : MS := (sPar 1 2 (aCons (mLst (aCons (mSl (mVar 0) oNone (oSome (mC (.int 63)))) (aCons (mC (.int 0)) (aCons (mC (.int 0)) aNil)))) (aCons (mCall 0 f_olaw_good aNil) aNil)))
def br_f_law : MS := (sSeq (sFor (iAny (mCall 0 f_olaw_doors aNil)) (.tp [3, 4]) (sJoinF [1, 2] (sSeq (sPar 5 6 (aCons (mLst aNil) (aCons (mC (.str "fine")) aNil))) (sSeq (sFor (iAny (mVar 3)) (.nm 7) (sIf (mJT (mB (m2 (vCmp .Lt) (mCall 2 sp_f_olaw_next (aCons (mVar 1) (aCons (mC (.int 5)) aNil))) (mC (.int 2))))) (sSeq (sAsg (mCall 2 f_olaw_pick (aCons (mVar 1) (aCons (mCall 1 f_olaw_wrong (aCons (mVar 7) aNil)) aNil))) (gTupM 2 (gsCons (gN 8) (gsCons (gN 9) gsNil)))) (sSeq (sExpr (mBm lApp (mVar 5) (aCons (mVar 8) aNil))) (sAsg (mIf (mB (m2 (vCmp .Eq) (mVar 6) (mC (.str "fine")))) (mVar 9) (mVar 6)) (gN 6)))) (sExpr (mBm lApp (mVar 5) (aCons (m2 vIdx (mVar 2) (mVar 7)) aNil))))) (sIf (mB (m2 (vCmp .NotEq) (mSand [4, 5] (mCall 2 f_olaw_word_of (aCons (mVar 4) (aCons (mVar 5) aNil)))) (mVar 6))) (sRet (mC (.bl false))) sSkip))))) (sRet (mC (.bl true))))
end L_k14_whole_refused_more
namespace L_k14_whole_refused_more
open PySem PySem.Spec PyProof.Rows L2 TL
theorem all_true : allT (br_f_law (slD b1_f_law 10) (lhD b1_f_law 10 0 1)) = true := by decide +kernel
end L_k14_whole_refused_more
set_option Elab.async false
set_option linter.all false
set_option maxRecDepth 100000
set_option maxHeartbeats 0
set_option autoImplicit false
namespace TL
open PySem PySem.Spec PyProof.Rows L2
theorem par_even {n : Nat} (h : Nat.beq (n % 2) 0 = true) : n % 2 = 0 := Nat.eq_of_beq_eq_true h
theorem par_odd {n : Nat} (h : Nat.beq (n % 2) 0 = false) : n % 2 = 1 := by
  have : n % 2 ≠ 0 := fun e => by rw [e] at h; exact absurd h (by decide)
  omega
theorem get_sing (o : VO) : ∀ (f n m : Nat), n ≤ f → (Tr.sing f n o).get m = if m = n then some o else none
  | 0, n, m, h => by
    have e : n = 0 := by omega
    subst e
    cases m with
    | zero => rfl
    | succ m => show (bif Nat.beq (m % 2) 0 then Tr.get .nil (m / 2) else Tr.get .nil (m / 2)) = _; cases Nat.beq (m % 2) 0 <;> rfl
  | f + 1, 0, m, h => by
    cases m with
    | zero => rfl
    | succ m => show (bif Nat.beq (m % 2) 0 then Tr.get .nil (m / 2) else Tr.get .nil (m / 2)) = _; cases Nat.beq (m % 2) 0 <;> rfl
  | f + 1, n + 1, m, h => by
    have ih := get_sing o f (n / 2)
    unfold Tr.sing
    cases q : Nat.beq (n % 2) 0 with
    | true =>
      have q' := par_even q
      cases m with
      | zero => rfl
      | succ m =>
        show (bif Nat.beq (m % 2) 0 then (Tr.sing f (n / 2) o).get (m / 2) else Tr.get .nil (m / 2)) = _
        cases p : Nat.beq (m % 2) 0 with
        | true =>
          have p' := par_even p
          show (Tr.sing f (n / 2) o).get (m / 2) = _
          rw [ih _ (by omega)]
          by_cases e : m = n
          · subst e; rw [if_pos rfl, if_pos rfl]
          · rw [if_neg (by omega), if_neg (by omega)]
        | false =>
          have p' := par_odd p
          show none = _
          rw [if_neg (by omega)]
    | false =>
      have q' := par_odd q
      cases m with
      | zero => rfl
      | succ m =>
        show (bif Nat.beq (m % 2) 0 then Tr.get .nil (m / 2) else (Tr.sing f (n / 2) o).get (m / 2)) = _
        cases p : Nat.beq (m % 2) 0 with
        | true =>
          have p' := par_even p
          show none = _
          rw [if_neg (by omega)]
        | false =>
          have p' := par_odd p
          show (Tr.sing f (n / 2) o).get (m / 2) = _
          rw [ih _ (by omega)]
          by_cases e : m = n
          · subst e; rw [if_pos rfl, if_pos rfl]
          · rw [if_neg (by omega), if_neg (by omega)]
theorem get_set (o : VO) : ∀ (t : Tr) (n m : Nat), (t.set n o).get m = if m = n then some o else t.get m
  | .nil, n, m => by
    show (Tr.sing n n o).get m = _
    rw [get_sing o n n m (Nat.le_refl _)]
    rfl
  | .node l v r, 0, m => by
    cases m with
    | zero => rfl
    | succ m => rfl
  | .node l v r, n + 1, m => by
    have il := get_set o l (n / 2)
    have ir := get_set o r (n / 2)
    unfold Tr.set
    cases q : Nat.beq (n % 2) 0 with
    | true =>
      have q' := par_even q
      cases m with
      | zero => rfl
      | succ m =>
        show (bif Nat.beq (m % 2) 0 then (l.set (n / 2) o).get (m / 2) else r.get (m / 2)) = if m + 1 = n + 1 then some o else (bif Nat.beq (m % 2) 0 then l.get (m / 2) else r.get (m / 2))
        cases p : Nat.beq (m % 2) 0 with
        | true =>
          have p' := par_even p
          show (l.set (n / 2) o).get (m / 2) = if m + 1 = n + 1 then some o else l.get (m / 2)
          rw [il]
          by_cases e : m = n
          · subst e; rw [if_pos rfl, if_pos rfl]
          · rw [if_neg (by omega), if_neg (by omega)]
        | false =>
          have p' := par_odd p
          rw [if_neg (by omega)]
          rfl
    | false =>
      have q' := par_odd q
      cases m with
      | zero => rfl
      | succ m =>
        show (bif Nat.beq (m % 2) 0 then l.get (m / 2) else (r.set (n / 2) o).get (m / 2)) = if m + 1 = n + 1 then some o else (bif Nat.beq (m % 2) 0 then l.get (m / 2) else r.get (m / 2))
        cases p : Nat.beq (m % 2) 0 with
        | true =>
          have p' := par_even p
          rw [if_neg (by omega)]
          rfl
        | false =>
          have p' := par_odd p
          show (r.set (n / 2) o).get (m / 2) = if m + 1 = n + 1 then some o else r.get (m / 2)
          rw [ir]
          by_cases e : m = n
          · subst e; rw [if_pos rfl, if_pos rfl]
          · rw [if_neg (by omega), if_neg (by omega)]
theorem LH.get_put (h : LH) (n m : Nat) (o : LO) : (h.put n o).get m = if m = n then some o else h.get m := by
  unfold LH.put LH.get
  simp only
  rw [get_set]
  by_cases e : m = n
  · rw [if_pos e, if_pos e]
  · rw [if_neg e, if_neg e]
theorem LH.get_new (h : LH) (m : Nat) (o : LO) : (h.new o).get m = if m = h.nx then some o else h.get m := by
  unfold LH.new LH.get
  simp only
  rw [get_set]
  by_cases e : m = h.nx
  · rw [if_pos e, if_pos e]
  · rw [if_neg e, if_neg e]
theorem LH.ver_put (h : LH) (n m : Nat) (o : LO) : (h.put n o).ver m = if m = n then h.ver n + 1 else h.ver m := by
  unfold LH.put
  show (match (h.tr.set n (h.ver n + 1, o)).get m with | some p => p.1 | none => 0) = _
  rw [get_set]
  by_cases e : m = n
  · rw [if_pos e, if_pos e]
  · rw [if_neg e, if_neg e]
    rfl
theorem LH.ver_new (h : LH) (m : Nat) (o : LO) : (h.new o).ver m = if m = h.nx then 0 else h.ver m := by
  unfold LH.new
  show (match (h.tr.set h.nx (0, o)).get m with | some p => p.1 | none => 0) = _
  rw [get_set]
  by_cases e : m = h.nx
  · rw [if_pos e, if_pos e]
  · rw [if_neg e, if_neg e]
    rfl
theorem Le0.refl {ρ : List Addr} {H : Hp} : Le0 ρ H ρ H := ⟨List.prefix_refl _, fun _ _ e => e, fun _ _ _ e => e, fun _ n _ _ => ⟨rfl, n⟩⟩
theorem SqF.sqL {K : PySem.W.Frag} {ρ : List Addr} {H : Hp} {a : Addr} {xs : List V} (h : SqF K ρ H a xs) : SqL K H a xs := by
  rcases h with (h | h) | ⟨h, _⟩
  · refine .inl ?_
    rcases h with h | ⟨o, h⟩
    · exact (frzP_lst h).elim
    · exact .inr ⟨o, frzP_eq.mp h⟩
  · exact .inr h
  · exact .inl (.inl h)
theorem SqF.of {K : PySem.W.Frag} {ρ : List Addr} {H : Hp} {a : Addr} {xs : List V} (n : a ∉ ρ) (h : SqL K H a xs) : SqF K ρ H a xs := by
  rcases h with (h | ⟨o, h⟩) | h
  · exact .inr ⟨h, n⟩
  · exact .inl (.inl (.inr ⟨o, frzP_eq.mpr h⟩))
  · exact .inl (.inr h)
theorem Le.refl {ρ : List Addr} {lh : LH} {H : Hp} : Le ρ lh H ρ lh H := ⟨Le0.refl, fun _ _ => Nat.le_refl _, fun _ _ _ _ => rfl⟩
section
variable {T : Tb} {ρ ρ' : List Addr} {H H' : Hp}
theorem RelDs.append : ∀ {ds es : List D} {vs us : List V}, RelDs T ρ H ds vs → RelDs T ρ H es us → RelDs T ρ H (ds ++ es) (vs ++ us)
  | [], _, _, _, h, k => by rw [show _ = [] from h]; exact k
  | _ :: _, _, _, _, ⟨v, r, e, h1, h2⟩, k => ⟨v, r ++ _, by rw [e]; rfl, h1, RelDs.append h2 k⟩
theorem RelDs.one {d : D} {v : V} (h : RelD T ρ H d v) : RelDs T ρ H [d] [v] := ⟨v, [], rfl, h, rfl⟩
theorem RelDs.flatten_replicate {ds : List D} {vs : List V} (h : RelDs T ρ H ds vs) : ∀ n : Nat, RelDs T ρ H (List.replicate n ds).flatten (List.replicate n vs).flatten
  | 0 => rfl
  | n + 1 => by
    rw [List.replicate_succ, List.replicate_succ, List.flatten_cons, List.flatten_cons]
    exact h.append (RelDs.flatten_replicate h n)
theorem RelDs.reverse : ∀ {ds : List D} {vs : List V}, RelDs T ρ H ds vs → RelDs T ρ H ds.reverse vs.reverse
  | [], _, h => by rw [show _ = [] from h]; rfl
  | _ :: _, _, ⟨v, r, e, h1, h2⟩ => by
    subst e
    rw [List.reverse_cons, List.reverse_cons]
    exact (RelDs.reverse h2).append (RelDs.one h1)
end
section
variable {T : Tb} {ρ ρ' : List Addr} {H H' : Hp}
theorem TabR.keep {P : Addr} {q : Str} (t : TabR ρ H P q) (hp : P ∉ ρ') (same : ∀ b, b ∉ ρ → H b ≠ none → H' b = H b) (no : ∀ b, b ∉ ρ → H b ≠ none → b ∉ ρ') : TabR ρ' H' P q := by
  obtain ⟨n, ps, h1, h2, h3⟩ := t
  refine ⟨hp, ps, (same P n (by rw [h1]; simp)).trans h1, h2, fun pos cv hc => ?_⟩
  obtain ⟨c, e1, e2, e3⟩ := h3 pos cv hc
  exact ⟨c, e1, (same c e3 (by rw [e2]; simp)).trans e2, no c e3 (by rw [e2]; simp)⟩
theorem HR.trk {lh : LH} (h : HR T ρ H lh) (a : Addr) (ha : a ∈ ρ) : H a ≠ none := (h.tk a ha).1
theorem dict_code {a c : Addr} {es : Array DictEntry} {ep : Nat} {q : Str} : dictO a es ep ≠ LamX.CodeO c q := by
  intro e
  have e := HO.ext.inj e
  have k := congrFun e ({ objs := Array.replicate (c + 1) { cls := .none, data := .fields #[.none, .str q 0] } } : Heap)
  have k2 : ∃ (oc : Obj) (vs : Array Value) (t : Tok), ({ objs := Array.replicate (c + 1) { cls := .none, data := .fields #[.none, .str q 0] } } : Heap).get? c = some oc ∧ oc.data = .fields vs ∧ vs[1]? = some (.str q t) := ⟨{ cls := .none, data := .fields #[.none, .str q 0] }, _, 0, by unfold Heap.get?; simp, rfl, rfl⟩
  have k3 := cast k.symm k2
  obtain ⟨o, h1, _, h2⟩ := k3
  unfold Heap.get? at h1
  by_cases hl : a < c + 1
  · rw [Array.getElem?_replicate, if_pos hl] at h1
    have h1 := Option.some.inj h1
    rw [← h1] at h2
    cases h2
  · rw [Array.getElem?_replicate, if_neg hl] at h1
    cases h1
theorem ObjR.tk {a : Addr} {o : LO} (h : ObjR T ρ H a o) : Tk (H a) := by
  have key : ∀ u : HO, H a = some u → (∀ ps, u ≠ .tbl ps) → (∀ c q, u ≠ LamX.CodeO c q) → Tk (H a) := fun u e h1 h2 => by
    rw [e]
    exact ⟨by simp, fun ps z => h1 ps (Option.some.inj z), fun c q z => h2 c q (Option.some.inj z)⟩
  cases o with
  | lst lk ds =>
    obtain ⟨vs, _, h2⟩ := h
    cases lk with
    | true => obtain ⟨o, h2⟩ := h2; exact key _ h2 (fun _ z => by cases z) (fun _ _ z => by cases z)
    | false => exact key _ h2 (fun _ z => by cases z) (fun _ _ z => by cases z)
  | dct kd kvs =>
    obtain ⟨_, _, _, es, ep, _, h3⟩ := h
    exact key _ h3 (fun _ z => by cases z) (fun _ _ z => dict_code z)
  | ins c fs => obtain ⟨x, dx, vfs, _, h2, _⟩ := h; exact key _ h2 (fun _ z => by cases z) (fun _ _ z => by cases z)
  | abs k n m =>
    match k, h with
    | 0, h => obtain ⟨ns, h1, _⟩ := h; exact key _ h1 (fun _ z => by cases z) (fun _ _ z => by cases z)
    | 1, h => obtain ⟨p, i, _, h2, _⟩ := h; exact key _ h2 (fun _ z => by cases z) (fun _ _ z => by cases z)
    | _ + 2, h => exact h.elim
/-- a thing at an address that stays as it is, in a later state -/
theorem ObjR.keep {a : Addr} {o : LO} (le : Le0 ρ H ρ' H') (e : H' a = H a) : ObjR T ρ H a o → ObjR T ρ' H' a o := by
  intro h
  cases o with
  | lst lk ds =>
    obtain ⟨vs, h1, h2⟩ := h
    refine ⟨vs, h1.mono le, ?_⟩
    cases lk with
    | true => obtain ⟨o, h2⟩ := h2; exact ⟨o, by rw [e]; exact h2⟩
    | false => show H' a = _; rw [e]; exact h2
  | dct kd kvs =>
    obtain ⟨h0, hz, h1, es, ep, h2, h3⟩ := h
    exact ⟨h0, hz, h1, es, ep, h2.mono le, by rw [e]; exact h3⟩
  | ins c fs => obtain ⟨x, dx, vfs, h1, h2, h3⟩ := h; exact ⟨x, dx, vfs, h1, by rw [e]; exact h2, h3.mono le⟩
  | abs k n m =>
    match k, h with
    | 0, h => obtain ⟨ns, h1, h2⟩ := h; exact ⟨ns, by rw [e]; exact h1, h2⟩
    | 1, h => obtain ⟨p, i, h1, h2, h3⟩ := h; exact ⟨p, i, le.get h1, by rw [e]; exact h2, h3⟩
    | _ + 2, h => exact h.elim
/-- a new tuple is laid -/
theorem HR.ne {lh : LH} {p : Addr} (h : HR T ρ H lh) (hp : H p = none) {a : Addr} (ha : a ∈ ρ) : a ≠ p := fun z => h.trk a ha (by rw [z]; exact hp)
theorem Le.newTup {lh : LH} {p : Addr} {xs : List V} (h : HR T ρ H lh) (hp : H p = none) : Le ρ lh H ρ lh (upd H p (.tup xs)) :=
  ⟨⟨List.prefix_refl _, fun a ys e => by rw [upd_ne (ne_of_none e hp)]; exact e, fun a o u e => by rw [upd_ne (ne_of_none e hp)]; exact e, fun a n e _ => ⟨upd_ne (fun z => e (by rw [z]; exact hp)), n⟩⟩, fun _ _ => Nat.le_refl _,
    fun n a e _ => upd_ne (h.ne hp (List.mem_of_getElem? e))⟩
theorem HR.newTup {lh : LH} {p : Addr} {xs : List V} (h : HR T ρ H lh) (hp : H p = none) : HR T ρ (upd H p (.tup xs)) lh := by
  refine ⟨h.len, h.nd, fun a ha => by rw [upd_ne (h.ne hp ha)]; exact h.tk a ha, fun n o e => ?_, fun q hq => (h.tab q hq).keep (h.tab q hq).1 (fun b _ hb => upd_ne fun z => hb (by rw [z]; exact hp)) fun b n _ => n⟩
  obtain ⟨a, h1, h2⟩ := h.obj n o e
  exact ⟨a, h1, h2.keep (Le.newTup h hp).toLe0 (upd_ne (h.ne hp (List.mem_of_getElem? h1)))⟩
/-- a new own thing is laid at p (its other objects dx): the heap but for these is the same -/
theorem Le.newObj {lh : LH} {p : Addr} {o : LO} (h : HR T ρ H lh) (hp : H p = none) (same : ∀ b, H b ≠ none → H' b = H b) : Le ρ lh H (ρ ++ [p]) (lh.new o) H' := by
  have hv : ∀ n, n < ρ.length → (lh.new o).ver n = lh.ver n := fun n hn => by
    rw [LH.ver_new, if_neg (by rw [← h.len]; omega)]
  exact ⟨⟨List.prefix_append _ _, fun a ys e => by rw [same a (by rw [e]; simp)]; exact e, fun a o u e => by rw [same a (by rw [e]; simp)]; exact e, fun a n e _ => ⟨same a e, fun z => (List.mem_append.mp z).elim n fun z => e (by rw [List.mem_singleton.mp z]; exact hp)⟩⟩,
    fun n hn => by rw [hv n hn]; exact Nat.le_refl _, fun n a e _ => same a (h.trk a (List.mem_of_getElem? e))⟩
theorem HR.newObj {lh : LH} {p : Addr} {o : LO} (h : HR T ρ H lh) (hp : H p = none) (same : ∀ b, H b ≠ none → H' b = H b) (hn : H' p ≠ none) (ho : ObjR T (ρ ++ [p]) H' p o) : HR T (ρ ++ [p]) H' (lh.new o) := by
  have le : Le0 ρ H (ρ ++ [p]) H' := (Le.newObj (o := o) h hp same).toLe0
  have nin : ∀ b, b ∉ ρ → H b ≠ none → b ∉ ρ ++ [p] := fun b n hb z => (List.mem_append.mp z).elim n fun z => hb (by rw [List.mem_singleton.mp z]; exact hp)
  refine ⟨by rw [List.length_append, h.len]; rfl, ?_, fun a ha => ?_, fun n o' e => ?_, fun q hq => (h.tab q hq).keep (nin q.1 (h.tab q hq).1 (by obtain ⟨_, ps, e, _⟩ := h.tab q hq; rw [e]; simp)) (fun b _ hb => same b hb) nin⟩
  · rw [List.nodup_append]
    refine ⟨h.nd, by simp, fun a ha b hb => ?_⟩
    have : b = p := by simpa using hb
    subst this
    exact fun z => h.trk a ha (by rw [z]; exact hp)
  · rcases List.mem_append.mp ha with ha | ha
    · rw [same a (h.trk a ha)]; exact h.tk a ha
    · have : a = p := by simpa using ha
      subst this
      exact ho.tk
  · rw [LH.get_new] at e
    by_cases hx : n = lh.nx
    · rw [if_pos hx] at e
      cases e
      refine ⟨p, ?_, ho⟩
      rw [hx, ← h.len, List.getElem?_append_right (Nat.le_refl _)]
      simp
    · rw [if_neg hx] at e
      obtain ⟨a, h1, h2⟩ := h.obj n o' e
      exact ⟨a, le.get h1, h2.keep le (same a (h.trk a (List.mem_of_getElem? h1)))⟩
theorem HR.write {lh : LH} {n : Nat} {a : Addr} {o : LO} (h : HR T ρ H lh) (hn : ρ[n]? = some a) (le : Le0 ρ H ρ H') (same : ∀ b, b ≠ a → H' b = H b) (hs : H' a ≠ none) (ho : ObjR T ρ H' a o) : HR T ρ H' (lh.put n o) := by
  refine ⟨h.len, h.nd, fun b hb => ?_, fun m o' e => ?_, fun q hq => (h.tab q hq).keep (h.tab q hq).1 (fun b nb _ => same b fun z => nb (by rw [z]; exact List.mem_of_getElem? hn)) fun b n _ => n⟩
  · by_cases hx : b = a
    · rw [hx]; exact ho.tk
    · rw [same b hx]; exact h.tk b hb
  · rw [LH.get_put] at e
    by_cases hx : m = n
    · rw [if_pos hx] at e
      cases e
      exact ⟨a, by rw [hx]; exact hn, ho⟩
    · rw [if_neg hx] at e
      obtain ⟨b, h1, h2⟩ := h.obj m o' e
      refine ⟨b, h1, h2.keep le (same b fun z => hx ?_)⟩
      subst z
      exact h.inj h1 hn
theorem Le.write {lh : LH} {n : Nat} {a : Addr} {o : LO} (h : HR T ρ H lh) (hn : ρ[n]? = some a) (le : Le0 ρ H ρ H') (same : ∀ b, b ≠ a → H' b = H b) : Le ρ lh H ρ (lh.put n o) H' := by
  refine ⟨le, fun m hm => ?_, fun m b e hv => same b fun z => ?_⟩
  · rw [LH.ver_put]
    by_cases hx : m = n
    · rw [if_pos hx, hx]; exact Nat.le_succ _
    · rw [if_neg hx]; exact Nat.le_refl _
  · subst z
    have := h.inj e hn
    subst this
    rw [LH.ver_put, if_pos rfl] at hv
    omega
/-- a thing of the layer that may be written is no tuple and not locked: the order bears its change -/
theorem Le0.upd_mut {a : Addr} {u o : HO} (hm : a ∈ ρ) (h : H a = some u) (h1 : ∀ xs, u ≠ .tup xs) (h2 : ∀ o' u', u ≠ .frz o' u') : Le0 ρ H ρ (upd H a o) := by
  refine ⟨List.prefix_refl _, fun b xs e => ?_, fun b o' u' e => ?_, fun b n _ _ => ⟨upd_ne (fun z => n (by rw [z]; exact hm)), n⟩⟩
  · have : b ≠ a := fun z => by subst z; rw [h] at e; exact h1 xs (Option.some.inj e)
    rw [upd_ne this]; exact e
  · have : b ≠ a := fun z => by subst z; rw [h] at e; exact h2 o' u' (Option.some.inj e)
    rw [upd_ne this]; exact e
end
end TL
namespace TL
open PySem PySem.Spec PyProof.Rows L2
section
variable (T : Tb) (E : XK)
def rdOp (f : D → D → LH → Res D) : R2 := fun x y H Q => ∃ ρ lh a b, HR T ρ H lh ∧ RelD T ρ H a x ∧ RelD T ρ H b y ∧ PostE T E ρ lh H (f a b lh) Q
def rdUn (f : D → LH → Res D) : V → Hp → VK → Prop := fun x H Q => ∃ ρ lh a, HR T ρ H lh ∧ RelD T ρ H a x ∧ PostE T E ρ lh H (f a lh) Q
def rdFn (f : List D → LH → Res D) : List V → Hp → VK → Prop := fun xs H Q => ∃ ρ lh ds, HR T ρ H lh ∧ RelDs T ρ H ds xs ∧ PostE T E ρ lh H (f ds lh) Q
def rdMt (f : D → List D → LH → Res D) : V → List V → Hp → VK → Prop := fun x xs H Q => ∃ ρ lh d ds, HR T ρ H lh ∧ RelD T ρ H d x ∧ RelDs T ρ H ds xs ∧ PostE T E ρ lh H (f d ds lh) Q
end
section
variable (T : Tb) (W : WX)
def rdE (m : ME) : TE := fun σ H Q => ∃ ρ sl lh, SR T ρ H sl lh σ ∧ PostE T (atS W σ) ρ lh H (m sl lh) Q
def rdT (m : MT) : TT := fun σ H Q => ∃ ρ sl lh, SR T ρ H sl lh σ ∧ PostG T (atS W σ) ρ lh H (m sl lh) fun b _ _ H' => Q b H'
def rdA (m : MA) : TA := fun σ H Q => ∃ ρ sl lh, SR T ρ H sl lh σ ∧ PostG T (atS W σ) ρ lh H (m sl lh) fun ds _ ρ' H' => ∀ vs, RelDs T ρ' H' ds vs → Q vs H'
end
theorem noErrR_eq {α : Type} : ∀ r : Res α, noErrR r = noErr r
  | .ok _ _ => rfl
  | .err _ _ _ => rfl
  | .stuck => rfl
  | .alt _ _ => rfl
theorem noErr_post {T : Tb} {E E' : XK} {ρ : List Addr} {lh : LH} {H : Hp} {α : Type} {W : α → LH → List Addr → Hp → Prop} : ∀ {r : Res α}, PostG T E ρ lh H (noErr r) W → PostG T E' ρ lh H r W
  | .ok a h1, h => h
  | .err c p h1, h => h.elim
  | .stuck, h => h
  | .alt l r, h => ⟨noErr_post (r := l) (noErrR_eq l ▸ h.1), noErr_post (r := r) (noErrR_eq r ▸ h.2)⟩
theorem _root_.L2.PE.imp {X : Cx} {e : Expr} {t t' : TE} (h : PE X e t) (k : ∀ σ H Q, t' σ H Q → t σ H Q) : PE X e t' := ⟨fun pins s σ H Q I q => h.run pins s σ H Q I (k σ H Q q)⟩
theorem _root_.L2.PT.imp {X : Cx} {e : Expr} {t t' : TT} (h : PT X e t) (k : ∀ σ H Q, t' σ H Q → t σ H Q) : PT X e t' := ⟨fun pins s σ H Q I q => h.run pins s σ H Q I (k σ H Q q)⟩
theorem _root_.L2.PW.imp {X : Cx} {e : Expr} {t t' : TT} (h : PW X e t) (k : ∀ σ H Q, t' σ H Q → t σ H Q) : PW X e t' := ⟨fun wh pins s σ H Q I q => h.run wh pins s σ H Q I (k σ H Q q)⟩
theorem _root_.L2.PA.imp {X : Cx} {es : List Expr} {t t' : TA} (h : PA X es t) (k : ∀ σ H Q, t' σ H Q → t σ H Q) : PA X es t' := ⟨fun pos pins s σ H Q I q => h.run pos pins s σ H Q I (k σ H Q q)⟩
theorem _root_.L2.PS.imp {X : Cx} {st : Stmt} {t t' : TS} (h : PS X st t) (k : ∀ D σ H, t' D σ H → t D σ H) : PS X st t' := ⟨fun pins s σ H D I q => h.run pins s σ H D I (k D σ H q)⟩
theorem _root_.L2.PSs.imp {X : Cx} {st : List Stmt} {t t' : TS} (h : PSs X st t) (k : ∀ D σ H, t' D σ H → t D σ H) : PSs X st t' := ⟨fun pins s σ H D I q => h.run pins s σ H D I (k D σ H q)⟩
section
variable {T : Tb} {W : WX} {E : XK} {X : Cx} {σ : L2.St} {H : Hp} {Q : VK}
theorem rd_var {i : Nat} (h : rdE T W (mVar i) σ H Q) : tVar i σ H Q := by
  obtain ⟨ρ, sl, lh, sr, post⟩ := h
  unfold mVar at post
  cases e : sl[i]? with
  | none => rw [e] at post; exact post.elim
  | some o =>
    rw [e] at post
    cases o with
    | none => exact post.elim
    | some d =>
      obtain ⟨v, h1, h2⟩ := sr.sl i d e
      exact ⟨v, h1, PostE.ok post Le.refl sr.hr h2⟩
theorem rd_c {d : D} {v : V} (r : ∀ ρ H, RelD T ρ H d v) (h : rdE T W (mC d) σ H Q) : tC v σ H Q := by
  obtain ⟨ρ, sl, lh, sr, post⟩ := h
  exact PostE.ok post Le.refl sr.hr (r ρ H)
theorem rd_op {f : D → D → LH → Res D} {ma mb : ME} (h : rdE T W (m2 f ma mb) σ H Q) : tOp (rdOp T E f) (rdE T W ma) (rdE T W mb) σ H Q := by
  obtain ⟨ρ, sl, lh, sr, post⟩ := h
  refine ⟨ρ, sl, lh, sr, (PostG.bind post).mono fun x h1 ρ1 H1 le1 hr1 p1 v rv => ?_⟩
  refine ⟨ρ1, sl, h1, sr.mono le1 hr1, (PostG.bind p1).mono fun y h2 ρ2 H2 le2 hr2 p2 u ru => ?_⟩
  exact ⟨ρ2, h2, x, y, hr2, rv.mono le2.toLe0, ru, noErr_post p2⟩
theorem rd_un {f : D → LH → Res D} {ma : ME} (h : rdE T W (m1 f ma) σ H Q) : tUn (rdUn T E f) (rdE T W ma) σ H Q := by
  obtain ⟨ρ, sl, lh, sr, post⟩ := h
  exact ⟨ρ, sl, lh, sr, (PostG.bind post).mono fun x h1 ρ1 H1 le1 hr1 p1 v rv => ⟨ρ1, h1, x, hr1, rv, noErr_post p1⟩⟩
theorem rd_tB {m : ME} {Q : Bool → Hp → Prop} (h : rdT T W (mB m) σ H Q) : rdE T W m σ H fun x H1 => ∃ c, x = .bl c ∧ Q c H1 := by
  obtain ⟨ρ, sl, lh, sr, post⟩ := h
  refine ⟨ρ, sl, lh, sr, (PostG.bind post).mono fun x h1 ρ1 H1 le1 hr1 p1 v rv => ?_⟩
  cases x with
  | bl b => exact ⟨b, rv, p1 ρ1 H1 Le.refl hr1⟩
  | _ => exact p1.elim
theorem rd_andV {ma mb : ME} (h : rdE T W (mAndV ma mb) σ H Q) : tAndV (rdE T W ma) (rdE T W mb) σ H Q := by
  obtain ⟨ρ, sl, lh, sr, post⟩ := h
  refine ⟨ρ, sl, lh, sr, (PostG.bind post).mono fun x h1 ρ1 H1 le1 hr1 p1 v rv => ?_⟩
  cases x with
  | bl b =>
    refine ⟨b, rv, ?_⟩
    cases b with
    | true => exact ⟨ρ1, sl, h1, sr.mono le1 hr1, p1⟩
    | false => exact PostE.ok p1 Le.refl hr1 rfl
  | _ => exact p1.elim
theorem rd_orV {ma mb : ME} (h : rdE T W (mOrV ma mb) σ H Q) : tOrV (rdE T W ma) (rdE T W mb) σ H Q := by
  obtain ⟨ρ, sl, lh, sr, post⟩ := h
  refine ⟨ρ, sl, lh, sr, (PostG.bind post).mono fun x h1 ρ1 H1 le1 hr1 p1 v rv => ?_⟩
  cases x with
  | bl b =>
    refine ⟨b, rv, ?_⟩
    cases b with
    | false => exact ⟨ρ1, sl, h1, sr.mono le1 hr1, p1⟩
    | true => exact PostE.ok p1 Le.refl hr1 rfl
  | _ => exact p1.elim
theorem rd_notV {ma : ME} (h : rdE T W (mNotV ma) σ H Q) : tNotV (rdE T W ma) σ H Q := by
  obtain ⟨ρ, sl, lh, sr, post⟩ := h
  refine ⟨ρ, sl, lh, sr, (PostG.bind post).mono fun x h1 ρ1 H1 le1 hr1 p1 v rv => ?_⟩
  cases x with
  | bl b => exact ⟨b, rv, PostE.ok p1 Le.refl hr1 rfl⟩
  | _ => exact p1.elim
theorem rd_and {ma mb : MT} {Q : Bool → Hp → Prop} (h : rdT T W (mAnd ma mb) σ H Q) : tAnd (rdT T W ma) (rdT T W mb) σ H Q := by
  obtain ⟨ρ, sl, lh, sr, post⟩ := h
  refine ⟨ρ, sl, lh, sr, (PostG.bind post).mono fun b h1 ρ1 H1 le1 hr1 p1 => ?_⟩
  cases b with
  | true => exact ⟨ρ1, sl, h1, sr.mono le1 hr1, p1⟩
  | false => exact p1 ρ1 H1 Le.refl hr1
theorem rd_or {ma mb : MT} {Q : Bool → Hp → Prop} (h : rdT T W (mOr ma mb) σ H Q) : tOr (rdT T W ma) (rdT T W mb) σ H Q := by
  obtain ⟨ρ, sl, lh, sr, post⟩ := h
  refine ⟨ρ, sl, lh, sr, (PostG.bind post).mono fun b h1 ρ1 H1 le1 hr1 p1 => ?_⟩
  cases b with
  | false => exact ⟨ρ1, sl, h1, sr.mono le1 hr1, p1⟩
  | true => exact p1 ρ1 H1 Le.refl hr1
theorem rd_not {ma : MT} {Q : Bool → Hp → Prop} (h : rdT T W (mNot ma) σ H Q) : tNot (rdT T W ma) σ H Q := by
  obtain ⟨ρ, sl, lh, sr, post⟩ := h
  exact ⟨ρ, sl, lh, sr, (PostG.bind post).mono fun b h1 ρ1 H1 le1 hr1 p1 => p1 ρ1 H1 Le.refl hr1⟩
theorem rd_if {mt : MT} {ma mb : ME} (h : rdE T W (mIf mt ma mb) σ H Q) : tIf (rdT T W mt) (rdE T W ma) (rdE T W mb) σ H Q := by
  obtain ⟨ρ, sl, lh, sr, post⟩ := h
  refine ⟨ρ, sl, lh, sr, (PostG.bind post).mono fun b h1 ρ1 H1 le1 hr1 p1 => ?_⟩
  cases b with
  | true => exact ⟨ρ1, sl, h1, sr.mono le1 hr1, p1⟩
  | false => exact ⟨ρ1, sl, h1, sr.mono le1 hr1, p1⟩
theorem rd_chain {f g : D → D → LH → Res D} {ma mb mc : ME} (h : rdE T W (mChain f g ma mb mc) σ H Q) : tChain (rdOp T E f) (rdOp T E g) (rdE T W ma) (rdE T W mb) (rdE T W mc) σ H Q := by
  obtain ⟨ρ, sl, lh, sr, post⟩ := h
  refine ⟨ρ, sl, lh, sr, (PostG.bind post).mono fun x h1 ρ1 H1 le1 hr1 p1 v rv => ?_⟩
  refine ⟨ρ1, sl, h1, sr.mono le1 hr1, (PostG.bind p1).mono fun y h2 ρ2 H2 le2 hr2 p2 u ru => ?_⟩
  refine ⟨ρ2, h2, x, y, hr2, rv.mono le2.toLe0, ru, (noErr_post (PostG.bind p2)).mono fun z h3 ρ3 H3 le3 hr3 p3 w rw => ?_⟩
  cases z with
  | bl b =>
    refine ⟨b, rw, ?_⟩
    cases b with
    | true =>
      have p3 : PostE T (atS W σ) ρ3 h3 H3 ((mc sl h3).bind fun w h5 => noErr (g y w h5)) Q := p3
      refine ⟨ρ3, sl, h3, (sr.mono le1 hr1).mono (le2.trans le3) hr3, (PostG.bind p3).mono fun w' h4 ρ4 H4 le4 hr4 p4 u' ru' => ?_⟩
      exact ⟨ρ4, h4, y, w', hr4, ru.mono (le3.trans le4).toLe0, ru', noErr_post p4⟩
    | false => exact PostE.ok p3 Le.refl hr3 rfl
  | _ => exact p3.elim
theorem rd_nil {Q : List V → Hp → Prop} (h : rdA T W aNil σ H Q) : tNil σ H Q := by
  obtain ⟨ρ, sl, lh, sr, post⟩ := h
  exact post ρ H Le.refl sr.hr [] rfl
theorem rd_cons {m : ME} {ms : MA} {Q : List V → Hp → Prop} (h : rdA T W (aCons m ms) σ H Q) : tCons (rdE T W m) (rdA T W ms) σ H Q := by
  obtain ⟨ρ, sl, lh, sr, post⟩ := h
  refine ⟨ρ, sl, lh, sr, (PostG.bind post).mono fun x h1 ρ1 H1 le1 hr1 p1 v rv => ?_⟩
  refine ⟨ρ1, sl, h1, sr.mono le1 hr1, (PostG.bind p1).mono fun xs h2 ρ2 H2 le2 hr2 p2 vs rvs => ?_⟩
  exact p2 ρ2 H2 Le.refl hr2 (v :: vs) ⟨v, vs, rfl, rv.mono le2.toLe0, rvs⟩
theorem ObjR.sqL {ρ : List Addr} {a : Addr} {lk : Bool} {ds : List D} (h : ObjR T ρ H a (.lst lk ds)) : ∃ vs, RelDs T ρ H ds vs ∧ SqL T.K H a vs := by
  obtain ⟨vs, h1, h2⟩ := h
  cases lk with
  | true => obtain ⟨o, h2⟩ := h2; exact ⟨vs, h1, .inl (.inr ⟨o, h2⟩)⟩
  | false => exact ⟨vs, h1, .inl (.inl h2)⟩
theorem items_ok {ρ : List Addr} {lh : LH} {d : D} {xs : List D} {v : V} (hr : HR T ρ H lh) (r : RelD T ρ H d v) (e : itemsOf d lh = some xs) : ∃ p vs, v = .ref p ∧ RelDs T ρ H xs vs ∧ (SqT T.K H p vs ∨ SqL T.K H p vs) := by
  cases d with
  | tup ys =>
    have e : some ys = some xs := e
    cases e
    obtain ⟨a, vs, ev, hs, hd⟩ := r
    exact ⟨a, vs, ev, hd, .inl hs⟩
  | kls ys =>
    have e : some ys = some xs := e
    cases e
    obtain ⟨a, vs, ev, hs, hd⟩ := r
    exact ⟨a, vs, ev, hd, .inr hs.sqL⟩
  | obj n =>
    obtain ⟨a, ea, ev⟩ := r
    unfold itemsOf at e
    simp only at e
    cases q : lh.get n with
    | none => rw [q] at e; cases e
    | some o =>
      rw [q] at e
      cases o with
      | lst lk ys =>
        have e : some ys = some xs := e
        cases e
        obtain ⟨b, eb, ho⟩ := hr.obj n _ q
        rw [ea] at eb; cases eb
        obtain ⟨vs, h1, h2⟩ := ho.sqL
        exact ⟨a, vs, ev, h1, .inr h2⟩
      | dct _ _ => cases e
      | ins _ _ => cases e
      | abs _ _ _ => cases e
  | _ => cases e
theorem rd_star {m : ME} {ms : MA} {Q : List V → Hp → Prop} (hK : X.K = T.K) (h : rdA T W (aStar m ms) σ H Q) : StX.tStar X.K (rdE T W m) (rdA T W ms) σ H Q := by
  obtain ⟨ρ, sl, lh, sr, post⟩ := h
  refine ⟨ρ, sl, lh, sr, (PostG.bind post).mono fun x h1 ρ1 H1 le1 hr1 p1 v rv => ?_⟩
  cases e : itemsOf x h1 with
  | none => rw [e] at p1; exact p1.elim
  | some xs =>
    rw [e] at p1
    obtain ⟨p, vs, ev, hd, hs⟩ := items_ok hr1 rv e
    rw [hK]
    refine ⟨p, vs, ev, hs, ρ1, sl, h1, sr.mono le1 hr1, (PostG.bind p1).mono fun ys h2 ρ2 H2 le2 hr2 p2 us rus => ?_⟩
    exact p2 ρ2 H2 Le.refl hr2 (vs ++ us) ((hd.mono le2.toLe0).append rus)
theorem small_line {n : Nat} (h : n ≤ tooLong) : n ≤ sizeLine := by rw [sizeLine_eq]; unfold tooLong at h; omega
theorem cond_stuck {α : Type} {b : Bool} {r : Res α} {ρ : List Addr} {lh : LH} {W : α → LH → List Addr → Hp → Prop} (h : PostG T E ρ lh H (bif b then r else .stuck) W) : b = true ∧ PostG T E ρ lh H r W := by
  cases b with
  | true => exact ⟨rfl, h⟩
  | false => exact h.elim
/-- a new tuple, a new list at any free place -/
theorem new_tup {ρ : List Addr} {lh : LH} {xs : List D} {vs : List V} {p : Addr} (hr : HR T ρ H lh) (rv : RelDs T ρ H xs vs) (hp : H p = none) (post : PostE T E ρ lh H (.ok (.tup xs) lh) Q) : Q (.ref p) (upd H p (.tup vs)) :=
  PostE.ok post (Le.newTup hr hp) (hr.newTup hp) ⟨p, vs, rfl, SqT.of upd_same, rv.mono (Le.newTup hr hp).toLe0⟩
theorem upd_old {H : Hp} {p : Addr} {o : HO} (hp : H p = none) : ∀ b, H b ≠ none → upd H p o b = H b := fun b hb => upd_ne fun z => hb (by rw [z]; exact hp)
theorem new_lst {ρ : List Addr} {lh : LH} {xs : List D} {vs : List V} {p : Addr} (hr : HR T ρ H lh) (rv : RelDs T ρ H xs vs) (hp : H p = none) (post : PostE T E ρ lh H (.ok (.obj lh.nx) (lh.new (.lst false xs))) Q) : Q (.ref p) (upd H p (.lst vs)) := by
  have le : Le ρ lh H (ρ ++ [p]) (lh.new (.lst false xs)) (upd H p (.lst vs)) := Le.newObj hr hp (upd_old hp)
  refine PostE.ok post le (hr.newObj hp (upd_old hp) (by rw [upd_same]; simp) ⟨vs, rv.mono le.toLe0, upd_same⟩) ⟨p, ?_, rfl⟩
  rw [← hr.len, List.getElem?_append_right (Nat.le_refl _)]
  simp
theorem rd_tup {ms : MA} (h : rdE T W (mTup ms) σ H Q) : tTup (rdA T W ms) σ H Q := by
  obtain ⟨ρ, sl, lh, sr, post⟩ := h
  refine ⟨ρ, sl, lh, sr, (PostG.bind post).mono fun xs h1 ρ1 H1 le1 hr1 p1 vs rv => ?_⟩
  obtain ⟨hb, p1⟩ := cond_stuck p1
  exact ⟨by rw [← rv.length]; exact small_line (Nat.le_of_ble_eq_true hb), fun p hp => new_tup hr1 rv hp p1⟩
theorem rd_lst {ms : MA} (h : rdE T W (mLst ms) σ H Q) : tLst (rdA T W ms) σ H Q := by
  obtain ⟨ρ, sl, lh, sr, post⟩ := h
  refine ⟨ρ, sl, lh, sr, (PostG.bind post).mono fun xs h1 ρ1 H1 le1 hr1 p1 vs rv => ?_⟩
  obtain ⟨hb, p1⟩ := cond_stuck p1
  exact ⟨by rw [← rv.length]; exact small_line (Nat.le_of_ble_eq_true hb), fun p hp => new_lst hr1 rv hp p1⟩
end
end TL
namespace TL
open PySem PySem.Spec PyProof.Rows L2
theorem strEq_eq (x y : Str) : strEq x y = (x == y) := SeqAt.str_beq x y
theorem dec_strEq (x y : Str) : decide (V.str x = V.str y) = strEq x y := by rw [dec_str, strEq_eq]
section
variable {T : Tb} {E : XK} {X : Cx}
theorem obj_of {ρ : List Addr} {H : Hp} {lh : LH} {n : Nat} {v : V} {o : LO} (hr : HR T ρ H lh) (r : RelD T ρ H (.obj n) v) (e : lh.get n = some o) : ∃ a, v = .ref a ∧ ρ[n]? = some a ∧ ObjR T ρ H a o := by
  obtain ⟨a, ea, ev⟩ := r
  obtain ⟨b, eb, ho⟩ := hr.obj n o e
  rw [ea] at eb; cases eb
  exact ⟨a, ev, ea, ho⟩
theorem or_add (hK : X.K = T.K) : OpR X (binaryOp .Add) (rdOp T E vAdd) := by
  intro pins s σ H x y v u Q I rx ry h
  obtain ⟨ρ, lh, a, b, hr, ra, rb, post⟩ := h
  cases a with
  | int i =>
    cases b with
    | int j => exact op_add pins s σ H x y v u Q I rx ry ⟨i, j, ra, rb, PostE.ok post Le.refl hr rfl⟩
    | _ => exact post.elim
  | str i =>
    cases b with
    | str j =>
      obtain ⟨hb, post⟩ := cond_stuck post
      exact op_add_str pins s σ H x y v u Q I rx ry ⟨i, j, ra, rb, small_line (Nat.le_of_ble_eq_true hb), PostE.ok post Le.refl hr rfl⟩
    | _ => exact post.elim
  | tup xs =>
    cases b with
    | tup ys =>
      obtain ⟨hb, post⟩ := cond_stuck post
      have hb := small_line (Nat.le_of_ble_eq_true hb)
      obtain ⟨p, vs, ep, hp, rp⟩ := ra
      obtain ⟨q, us, eq, hq, rq⟩ := rb
      refine op_catA pins s σ H x y v u Q I rx ry ⟨p, q, vs, us, ep, eq, by rw [hK]; exact hp, by rw [hK]; exact hq, by rw [← rp.length, ← rq.length]; exact hb, fun z => ?_, fun _ z => ?_, fun _ _ c hc => ?_⟩
      · have : xs = [] := List.eq_nil_of_length_eq_zero (by rw [rp.length, z]; rfl)
        subst this
        exact PostE.ok post Le.refl hr ⟨q, us, rfl, hq, rq⟩
      · have : ys = [] := List.eq_nil_of_length_eq_zero (by rw [rq.length, z]; rfl)
        subst this
        refine PostE.ok post Le.refl hr ⟨p, vs, rfl, hp, ?_⟩
        rw [List.append_nil]; exact rp
      · exact new_tup hr (rp.append rq) hc post
    | _ => exact post.elim
  | obj n =>
    cases b with
    | obj m =>
      have post : PostE T E ρ lh H (match lh.get n, lh.get m with
        | some (.lst false xs), some (.lst false ys) => bif Nat.ble (xs.length + ys.length) tooLong then .ok (.obj lh.nx) (lh.new (.lst false (xs ++ ys))) else .stuck
        | _, _ => .stuck) Q := post
      split at post
      · rename_i xs ys e1 e2
        obtain ⟨hb, post⟩ := cond_stuck post
        have hb := small_line (Nat.le_of_ble_eq_true hb)
        obtain ⟨p, ep, _, vs, rp, hp⟩ := obj_of hr ra e1
        obtain ⟨q, eq, _, us, rq, hq⟩ := obj_of hr rb e2
        exact op_cat pins s σ H x y v u Q I rx ry ⟨p, q, vs, us, ep, eq, hp, hq, by rw [← rp.length, ← rq.length]; exact hb, fun c hc => new_lst hr (rp.append rq) hc post⟩
      · exact post.elim
    | _ => exact post.elim
  | _ => exact post.elim
theorem or_sub : OpR X (binaryOp .Sub) (rdOp T E vSub) := by
  intro pins s σ H x y v u Q I rx ry h
  obtain ⟨ρ, lh, a, b, hr, ra, rb, post⟩ := h
  cases a with
  | int i =>
    cases b with
    | int j => exact op_sub pins s σ H x y v u Q I rx ry ⟨i, j, ra, rb, PostE.ok post Le.refl hr rfl⟩
    | _ => exact post.elim
  | _ => exact post.elim
theorem bits_log (x : Int) : Builtin.Int.intBits x ≤ x.natAbs.log2 + 1 := by
  unfold Builtin.Int.intBits
  split <;> omega
theorem or_mul (hK : X.K = T.K) : OpR X (binaryOp .Mult) (rdOp T E vMul) := by
  intro pins s σ H x y v u Q I rx ry h
  obtain ⟨ρ, lh, a, b, hr, ra, rb, post⟩ := h
  cases a with
  | int i =>
    cases b with
    | int j =>
      obtain ⟨hb, post⟩ := cond_stuck post
      have hb := Nat.le_of_ble_eq_true hb
      refine op_mulX pins s σ H x y v u Q I rx ry ⟨i, j, ra, rb, ?_, PostE.ok post Le.refl hr rfl⟩
      have h1 := bits_log i
      have h2 := bits_log j
      unfold CMulX
      omega
    | _ => exact post.elim
  | tup xs =>
    cases b with
    | int k =>
      obtain ⟨hb, post⟩ := cond_stuck post
      obtain ⟨hb, h4⟩ := band hb
      obtain ⟨hb, h3⟩ := band hb
      obtain ⟨h1, h2⟩ := band hb
      have h1 := Nat.le_of_ble_eq_true h1
      have h2 := Nat.le_of_ble_eq_true h2
      obtain ⟨p, vs, ep, hp, rp⟩ := ra
      have hl := rp.length
      refine op_repT pins s σ H x y v u Q I rx ry ⟨p, k, vs, ep, rb, by rw [hK]; exact hp, fun z => ?_, of_decide_eq_true h3, of_decide_eq_true h4, by omega, fun c hc => new_tup hr (rp.flatten_replicate _) hc post⟩
      rw [z] at hl
      have : xs.length = 0 := hl
      omega
    | _ => exact post.elim
  | obj n =>
    cases b with
    | int k =>
      have post : PostE T E ρ lh H (match lh.get n with
        | some (.lst false xs) => bif decide (0 ≤ k) && decide (k ≤ 1000) && Nat.ble xs.length 1000 then .ok (.obj lh.nx) (lh.new (.lst false (List.replicate k.toNat xs).flatten)) else .stuck
        | _ => .stuck) Q := post
      split at post
      · rename_i xs e1
        obtain ⟨hb, post⟩ := cond_stuck post
        obtain ⟨hb, h3⟩ := band hb
        obtain ⟨h1, h2⟩ := band hb
        have h3 := Nat.le_of_ble_eq_true h3
        have h1 : 0 ≤ k := of_decide_eq_true h1
        have h2 : k ≤ 1000 := of_decide_eq_true h2
        obtain ⟨p, ep, _, vs, rp, hp⟩ := obj_of hr ra e1
        have hl := rp.length
        have hm : vs.length * k.toNat ≤ 1000 * 1000 := Nat.mul_le_mul (by omega) (by omega)
        exact op_rep pins s σ H x y v u Q I rx ry ⟨p, k, vs, ep, rb, hp, by omega, by omega, by rw [sizeLine_eq]; omega, fun c hc => new_lst hr (rp.flatten_replicate _) hc post⟩
      · exact post.elim
    | _ => exact post.elim
  | _ => exact post.elim
theorem or_div : OpR X (binaryOp .FloorDiv) (rdOp T E vDiv) := by
  intro pins s σ H x y v u Q I rx ry h
  obtain ⟨ρ, lh, a, b, hr, ra, rb, post⟩ := h
  cases a with
  | int i =>
    cases b with
    | int j =>
      obtain ⟨hb, post⟩ := cond_stuck post
      obtain ⟨h1, h2⟩ := band hb
      exact op_fdivW pins s σ H x y v u Q I rx ry ⟨i, j, ra, rb, ⟨of_decide_eq_true h1, of_decide_eq_true (Nat.blt_eq ▸ h2 |> fun z => decide_eq_true z)⟩, PostE.ok post Le.refl hr rfl⟩
    | _ => exact post.elim
  | _ => exact post.elim
theorem or_mod : OpR X (binaryOp .Mod) (rdOp T E vMod) := by
  intro pins s σ H x y v u Q I rx ry h
  obtain ⟨ρ, lh, a, b, hr, ra, rb, post⟩ := h
  cases a with
  | int i =>
    cases b with
    | int j =>
      obtain ⟨hb, post⟩ := cond_stuck post
      exact op_mod pins s σ H x y v u Q I rx ry ⟨i, j, ra, rb, of_decide_eq_true hb, PostE.ok post Le.refl hr rfl⟩
    | _ => exact post.elim
  | _ => exact post.elim
theorem or_pow : OpR X (binaryOp .Pow) (rdOp T E vPow) := by
  intro pins s σ H x y v u Q I rx ry h
  obtain ⟨ρ, lh, a, b, hr, ra, rb, post⟩ := h
  cases a with
  | int i =>
    cases b with
    | int j =>
      obtain ⟨hb, post⟩ := cond_stuck post
      obtain ⟨hb, h3⟩ := band hb
      obtain ⟨h1, h2⟩ := band hb
      have h1 : 0 ≤ j := of_decide_eq_true h1
      have h2 : j ≤ 1000 := of_decide_eq_true h2
      have h3 : i.natAbs < 1000000 := by rwa [Nat.blt_eq] at h3
      exact op_pow pins s σ H x y v u Q I rx ry ⟨i, j, ra, rb, ⟨h1, by omega, by omega⟩, PostE.ok post Le.refl hr rfl⟩
    | _ => exact post.elim
  | _ => exact post.elim
theorem or_none {f : Value → Value → Sem Value} : OpR X f (rdOp T E fun _ _ _ => .stuck) := by
  intro pins s σ H x y v u Q I rx ry h
  obtain ⟨ρ, lh, a, b, hr, ra, rb, post⟩ := h
  exact post.elim
theorem or_bin (hK : X.K = T.K) (op : Operator) : OpR X (binaryOp op) (rdOp T E (vBin op)) := by
  cases op with
  | Add => exact or_add hK
  | Sub => exact or_sub
  | Mult => exact or_mul hK
  | FloorDiv => exact or_div
  | Mod => exact or_mod
  | Pow => exact or_pow
  | _ => exact or_none
theorem ur_neg : UnR X (unaryOp .USub) (rdUn T E vNeg) := by
  intro pins s σ H x v Q I rx h
  obtain ⟨ρ, lh, a, hr, ra, post⟩ := h
  cases a with
  | int i => exact un_neg pins s σ H x v Q I rx ⟨i, ra, PostE.ok post Le.refl hr rfl⟩
  | _ => exact post.elim
end
section
variable {T : Tb} {E : XK} {X : Cx} {ρ : List Addr} {H : Hp} {lh : LH}
theorem flat_ok {d : D} {v u : V} (e : flatOf d = some v) (r : RelD T ρ H d u) : u = v ∧ flatV u = true := by
  cases d with
  | non => cases e; exact ⟨r, by rw [show u = _ from r]; rfl⟩
  | bl b => cases e; exact ⟨r, by rw [show u = _ from r]; rfl⟩
  | int i => cases e; exact ⟨r, by rw [show u = _ from r]; rfl⟩
  | str x => cases e; exact ⟨r, by rw [show u = _ from r]; rfl⟩
  | _ => cases e
theorem flats_ok : ∀ {ds : List D} {vs us : List V}, flatsOf ds = some vs → RelDs T ρ H ds us → us = vs ∧ us.all flatV = true
  | [], vs, us, e, r => by cases e; rw [show us = [] from r]; exact ⟨rfl, rfl⟩
  | d :: ds, vs, us, e, ⟨u, r', eu, h1, h2⟩ => by
    unfold flatsOf at e
    cases q1 : flatOf d with
    | none => rw [q1] at e; cases e
    | some v =>
      rw [q1] at e
      cases q2 : flatsOf ds with
      | none => rw [q2] at e; cases e
      | some ws =>
        rw [q2] at e
        cases e
        obtain ⟨e1, f1⟩ := flat_ok q1 h1
        obtain ⟨e2, f2⟩ := flats_ok q2 h2
        subst eu e1 e2
        exact ⟨rfl, by rw [List.all_cons, f1, f2]; rfl⟩
theorem mapM_cons {α β : Type} {f : α → Option β} {a : α} {l : List α} {r : List β} (h : (a :: l).mapM f = some r) : ∃ b bs, f a = some b ∧ l.mapM f = some bs ∧ r = b :: bs := by
  rw [List.mapM_cons] at h
  cases e : f a with
  | none => rw [e] at h; cases h
  | some b =>
    rw [e] at h
    cases e2 : l.mapM f with
    | none => rw [e2] at h; cases h
    | some bs =>
      rw [e2] at h
      cases h
      exact ⟨b, bs, rfl, rfl, rfl⟩
theorem map_some {α β : Type} {f : α → β} {o : Option α} {r : β} (h : o.map f = some r) : ∃ a, o = some a ∧ f a = r := by
  cases o with
  | none => cases h
  | some a => exact ⟨a, rfl, Option.some.inj h⟩
theorem py_ok (hr : HR T ρ H lh) : ∀ (n : Nat) {d : D} {v : V} {x : PyData}, RelD T ρ H d v → pyOf n lh d = some x → Dp T.K H v x ∧ x.canLay0 = true ∧ x.depth ≤ n
  | 0, _, _, _, _, e => by cases e
  | n + 1, d, v, x, r, e => by
    have all : ∀ {ds : List D} {vs : List V} {xs : List PyData}, RelDs T ρ H ds vs → ds.mapM (pyOf n lh) = some xs → DpAll T.K H vs xs ∧ PyData.canLayAll0 xs = true ∧ PyData.depthAll xs ≤ n := by
      intro ds
      induction ds with
      | nil =>
        intro vs xs r e
        rw [List.mapM_nil] at e
        cases e
        rw [show vs = [] from r]
        exact ⟨.nil, rfl, Nat.zero_le _⟩
      | cons d ds ih =>
        intro vs xs r e
        obtain ⟨b, bs, e1, e2, rfl⟩ := mapM_cons e
        obtain ⟨u, us, eu, r1, r2⟩ := r
        subst eu
        obtain ⟨a1, a2, a3⟩ := py_ok hr n r1 e1
        obtain ⟨b1, b2, b3⟩ := ih r2 e2
        refine ⟨.cons a1 b1, by rw [PyData.canLayAll0, a2, b2]; rfl, ?_⟩
        rw [PyData.depthAll]
        exact Nat.max_le.mpr ⟨a3, b3⟩
    cases d with
    | non =>
      cases e
      rw [show v = _ from r]
      exact ⟨.non, rfl, by simp [PyData.depth]⟩
    | bl b =>
      cases e
      rw [show v = _ from r]
      exact ⟨.bl b, rfl, by simp [PyData.depth]⟩
    | int i =>
      cases e
      rw [show v = _ from r]
      exact ⟨.int i, rfl, by simp [PyData.depth]⟩
    | str y =>
      have e : (bif sOk y then some (PyData.str y) else none) = some x := e
      cases q : sOk y with
      | false => rw [q] at e; cases e
      | true =>
        rw [q] at e
        cases e
        rw [show v = _ from r]
        exact ⟨.str y, q, by simp [PyData.depth]⟩
    | tup ds =>
      obtain ⟨xs, e1, rfl⟩ := map_some e
      obtain ⟨a, vs, ev, hs, rd⟩ := r
      obtain ⟨h1, h2, h3⟩ := all rd e1
      subst ev
      exact ⟨.tup hs h1, h2, by rw [PyData.depth]; omega⟩
    | obj k =>
      have e : (match lh.get k with
        | some (.lst _ ds) => (ds.mapM (pyOf n lh)).map PyData.list
        | _ => none) = some x := e
      split at e
      · rename_i lk ds q
        obtain ⟨xs, e1, rfl⟩ := map_some e
        obtain ⟨a, ev, _, ho⟩ := obj_of hr r q
        obtain ⟨vs, rd, hs⟩ := ho.sqL
        obtain ⟨h1, h2, h3⟩ := all rd e1
        subst ev
        exact ⟨.lst hs h1, h2, by rw [PyData.depth]; omega⟩
      · cases e
    | kls y => cases e
    | lam y => cases e
theorem shaped_of {x : PyData} {n : Nat} (h1 : x.canLay0 = true) (h2 : x.depth ≤ n) (hn : n ≤ 64) : SeqAt.shaped x = true := by
  unfold SeqAt.shaped
  rw [h1]
  exact decide_eq_true (by omega)
theorem feq_ok {a b : D} {x y : V} {k : Bool} (ra : RelD T ρ H a x) (rb : RelD T ρ H b y) (e : feq a b = some k) : scal x y = true ∧ decide (x = y) = k := by
  cases a with
  | non =>
    cases b with
    | non => cases e; rw [show x = _ from ra, show y = _ from rb]; exact ⟨rfl, rfl⟩
    | bl _ => cases e; rw [show x = _ from ra, show y = _ from rb]; exact ⟨rfl, rfl⟩
    | int _ => cases e; rw [show x = _ from ra, show y = _ from rb]; exact ⟨rfl, rfl⟩
    | str _ => cases e; rw [show x = _ from ra, show y = _ from rb]; exact ⟨rfl, rfl⟩
    | _ => cases e
  | bl i =>
    cases b with
    | non => cases e; rw [show x = _ from ra, show y = _ from rb]; exact ⟨rfl, rfl⟩
    | bl j => cases e; rw [show x = _ from ra, show y = _ from rb]; exact ⟨rfl, dec_bl⟩
    | str _ => cases e; rw [show x = _ from ra, show y = _ from rb]; exact ⟨rfl, rfl⟩
    | _ => cases e
  | int i =>
    cases b with
    | non => cases e; rw [show x = _ from ra, show y = _ from rb]; exact ⟨rfl, rfl⟩
    | int j =>
      cases e; rw [show x = _ from ra, show y = _ from rb]
      refine ⟨rfl, ?_⟩
      rw [Bool.eq_iff_iff]; simp
    | str _ => cases e; rw [show x = _ from ra, show y = _ from rb]; exact ⟨rfl, rfl⟩
    | _ => cases e
  | str i =>
    cases b with
    | non => cases e; rw [show x = _ from ra, show y = _ from rb]; exact ⟨rfl, rfl⟩
    | bl _ => cases e; rw [show x = _ from ra, show y = _ from rb]; exact ⟨rfl, rfl⟩
    | int _ => cases e; rw [show x = _ from ra, show y = _ from rb]; exact ⟨rfl, rfl⟩
    | str j => cases e; rw [show x = _ from ra, show y = _ from rb]; exact ⟨rfl, dec_strEq i j⟩
    | _ => cases e
  | _ => cases b <;> cases e
theorem leq_ok {a b : D} {x y : V} {k : Bool} (hr : HR T ρ H lh) (ra : RelD T ρ H a x) (rb : RelD T ρ H b y) (e : leq a b lh = some k) :
    ∃ p q vs us, x = .ref p ∧ y = .ref q ∧ SqL T.K H p vs ∧ SqL T.K H q us ∧ ((vs.length ≠ us.length ∧ k = false) ∨ (vs = [] ∧ us = [] ∧ k = true)) := by
  cases a with
  | obj n =>
    cases b with
    | obj m =>
      have e : (match lh.get n, lh.get m with
        | some (.lst _ []), some (.lst _ []) => some true
        | some (.lst _ []), some (.lst _ (_ :: _)) => some false
        | some (.lst _ (_ :: _)), some (.lst _ []) => some false
        | _, _ => none) = some k := e
      have nil : ∀ {us : List V}, RelDs T ρ H [] us → us = [] := fun h => h
      split at e
      · rename_i l1 l2 e1 e2
        cases e
        obtain ⟨p, ep, _, ho⟩ := obj_of hr ra e1
        obtain ⟨q, eq, _, hq⟩ := obj_of hr rb e2
        obtain ⟨vs, rv, sv⟩ := ho.sqL
        obtain ⟨us, ru, su⟩ := hq.sqL
        exact ⟨p, q, vs, us, ep, eq, sv, su, .inr ⟨nil rv, nil ru, rfl⟩⟩
      · rename_i l1 l2 d1 ds e1 e2
        cases e
        obtain ⟨p, ep, _, ho⟩ := obj_of hr ra e1
        obtain ⟨q, eq, _, hq⟩ := obj_of hr rb e2
        obtain ⟨vs, rv, sv⟩ := ho.sqL
        obtain ⟨us, ru, su⟩ := hq.sqL
        refine ⟨p, q, vs, us, ep, eq, sv, su, .inl ⟨?_, rfl⟩⟩
        rw [← rv.length, ← ru.length, List.length_cons]
        exact Nat.ne_of_lt (Nat.succ_pos _)
      · rename_i l1 d1 ds l2 e1 e2
        cases e
        obtain ⟨p, ep, _, ho⟩ := obj_of hr ra e1
        obtain ⟨q, eq, _, hq⟩ := obj_of hr rb e2
        obtain ⟨vs, rv, sv⟩ := ho.sqL
        obtain ⟨us, ru, su⟩ := hq.sqL
        refine ⟨p, q, vs, us, ep, eq, sv, su, .inl ⟨?_, rfl⟩⟩
        rw [← rv.length, ← ru.length, List.length_cons]
        exact Nat.ne_of_gt (Nat.succ_pos _)
      · cases e
    | _ => cases e
  | _ => cases e
theorem deq_cases {a b : D} {k : Bool} (e : deq a b lh = some k) : feq a b = some k ∨ leq a b lh = some k ∨ ∃ x y, pyOf 60 lh a = some x ∧ pyOf 60 lh b = some y ∧ PyData.eqv x y = k := by
  unfold deq at e
  cases q1 : feq a b with
  | some k1 => rw [q1] at e; exact .inl e
  | none =>
    rw [q1] at e
    simp only at e
    cases q2 : leq a b lh with
    | some k2 => rw [q2] at e; exact .inr (.inl e)
    | none =>
      rw [q2] at e
      simp only at e
      cases q3 : pyOf 60 lh a with
      | none => rw [q3] at e; cases e
      | some x =>
        cases q4 : pyOf 60 lh b with
        | none => rw [q3, q4] at e; cases e
        | some y =>
          rw [q3, q4] at e
          exact .inr (.inr ⟨x, y, rfl, rfl, Option.some.inj e⟩)
theorem okB_ok {o : Option Bool} {Q : VK} (post : PostE T E ρ lh H (okB o lh) Q) (hr : HR T ρ H lh) : ∃ k, o = some k ∧ Q (.bl k) H := by
  cases o with
  | none => exact post.elim
  | some k => exact ⟨k, rfl, PostE.ok post Le.refl hr rfl⟩
theorem or_eq (hK : X.K = T.K) (hu : X.A.units + 65 < cLine) : OpR X (compareOp .Eq) (rdOp T E vEq) := by
  intro pins s σ H x y v u Q I rx ry h
  obtain ⟨ρ, lh, a, b, hr, ra, rb, post⟩ := h
  obtain ⟨k, e, q⟩ := okB_ok post hr
  rcases deq_cases e with e | e | ⟨dx, dy, e1, e2, ek⟩
  · obtain ⟨h1, h2⟩ := feq_ok ra rb e
    exact op_eq pins s σ H x y v u Q I rx ry ⟨h1, by rw [h2]; exact q⟩
  · obtain ⟨p, p2, vs, us, ep, eq, sv, su, hk⟩ := leq_ok hr ra rb e
    subst ep eq
    cases rx
    cases ry
    rw [← hK] at sv su
    obtain ⟨its, r1, pl1, hz1⟩ := I.list sv
    obtain ⟨its2, r2, pl2, hz2⟩ := I.list su
    have l1 := r1.length
    have l2 := r2.length
    rcases hk with ⟨hne, ek⟩ | ⟨e1, e2, ek⟩
    · subst ek
      refine SeqAt.eq_list_lengthsAt pl1.isList pl2.isList ?_ (by omega) ⟨.bl false, H, I, rfl, q⟩
      simp only [List.size_toArray, bne_iff_ne]
      omega
    · subst ek e1 e2
      have z1 : its = [] := List.eq_nil_of_length_eq_zero (by rw [← l1]; rfl)
      have z2 : its2 = [] := List.eq_nil_of_length_eq_zero (by rw [← l2]; rfl)
      subst z1 z2
      exact SeqAt.eq_listAt (e := fun _ => true) pl1.isList pl2.isList rfl (by omega) (fun j h1 _ => absurd h1 (Nat.not_lt_zero _)) ⟨.bl true, H, I, rfl, q⟩
  · obtain ⟨a1, a2, a3⟩ := py_ok hr 60 ra e1
    obtain ⟨b1, b2, b3⟩ := py_ok hr 60 rb e2
    rw [← hK] at a1 b1
    exact op_eqD (by omega) pins s σ H x y v u Q I rx ry ⟨dx, dy, a1, b1, shaped_of a2 a3 (by decide), shaped_of b2 b3 (by decide), by rw [ek]; exact q⟩
theorem or_ne (hK : X.K = T.K) (hu : X.A.units + 65 < cLine) : OpR X (compareOp .NotEq) (rdOp T E vNe) := by
  intro pins s σ H x y v u Q I rx ry h
  obtain ⟨ρ, lh, a, b, hr, ra, rb, post⟩ := h
  obtain ⟨k', e', q⟩ := okB_ok post hr
  obtain ⟨k, e, ek'⟩ := map_some e'
  subst ek'
  rcases deq_cases e with e | e | ⟨dx, dy, e1, e2, ek⟩
  · obtain ⟨h1, h2⟩ := feq_ok ra rb e
    exact op_ne pins s σ H x y v u Q I rx ry ⟨h1, by rw [h2]; exact q⟩
  · obtain ⟨p, p2, vs, us, ep, eq, sv, su, hk⟩ := leq_ok hr ra rb e
    subst ep eq
    cases rx
    cases ry
    rw [← hK] at sv su
    obtain ⟨its, r1, pl1, hz1⟩ := I.list sv
    obtain ⟨its2, r2, pl2, hz2⟩ := I.list su
    have l1 := r1.length
    have l2 := r2.length
    rcases hk with ⟨hne, ek⟩ | ⟨e1, e2, ek⟩
    · subst ek
      refine SeqAt.RcNeAt.lists_lengths pl1.isList pl2.isList ?_ (by omega) X.prog X.w X.xe _ ⟨.bl true, H, I, rfl, q⟩
      simp only [List.size_toArray, bne_iff_ne]
      omega
    · subst ek e1 e2
      have z1 : its = [] := List.eq_nil_of_length_eq_zero (by rw [← l1]; rfl)
      have z2 : its2 = [] := List.eq_nil_of_length_eq_zero (by rw [← l2]; rfl)
      subst z1 z2
      exact SeqAt.RcNeAt.lists (e := fun _ => true) pl1.isList pl2.isList rfl (by omega) (fun j h1 _ => absurd h1 (Nat.not_lt_zero _)) X.prog X.w X.xe _ ⟨.bl false, H, I, rfl, q⟩
  · obtain ⟨a1, a2, a3⟩ := py_ok hr 60 ra e1
    obtain ⟨b1, b2, b3⟩ := py_ok hr 60 rb e2
    rw [← hK] at a1 b1
    exact op_neD (by omega) pins s σ H x y v u Q I rx ry ⟨dx, dy, a1, b1, shaped_of a2 a3 (by decide), shaped_of b2 b3 (by decide), by rw [ek]; exact q⟩
theorem or_cmpI {op : CmpOp} {p : Int → Int → Bool} (h0 : OpR X (compareOp op) (rI0 fun i j => .bl (p i j))) : OpR X (compareOp op) (rdOp T E (vCmpI p)) := by
  intro pins s σ H x y v u Q I rx ry h
  obtain ⟨ρ, lh, a, b, hr, ra, rb, post⟩ := h
  cases a with
  | int i =>
    cases b with
    | int j => exact h0 pins s σ H x y v u Q I rx ry ⟨i, j, ra, rb, PostE.ok post Le.refl hr rfl⟩
    | _ => exact post.elim
  | _ => exact post.elim
theorem isNon_ok {d : D} {x : V} (r : RelD T ρ H d x) : decide (x = .non) = isNon d := by
  cases d with
  | non => rw [show x = _ from r]; rfl
  | bl b => rw [show x = _ from r]; rfl
  | int i => rw [show x = _ from r]; rfl
  | str y => rw [show x = _ from r]; rfl
  | tup ds => obtain ⟨a, vs, e, _⟩ := r; rw [e]; rfl
  | obj n => obtain ⟨a, _, e⟩ := r; rw [e]; rfl
  | kls y => obtain ⟨a, vs, e, _⟩ := r; rw [e]; rfl
  | lam y => obtain ⟨f, c, pm, ct, u, l, e, _⟩ := r; rw [e]; rfl
theorem or_is : OpR X (compareOp .Is) (rdOp T E (vIs false)) := by
  intro pins s σ H x y v u Q I rx ry h
  obtain ⟨ρ, lh, a, b, hr, ra, rb, post⟩ := h
  cases b with
  | non => exact op_isN pins s σ H x y v u Q I rx ry ⟨rb, by rw [isNon_ok ra]; exact PostE.ok post Le.refl hr rfl⟩
  | _ => exact post.elim
theorem or_isnot : OpR X (compareOp .IsNot) (rdOp T E (vIs true)) := by
  intro pins s σ H x y v u Q I rx ry h
  obtain ⟨ρ, lh, a, b, hr, ra, rb, post⟩ := h
  cases b with
  | non => exact op_notN pins s σ H x y v u Q I rx ry ⟨rb, by rw [isNon_ok ra]; exact PostE.ok post Le.refl hr rfl⟩
  | _ => exact post.elim
end
end TL
namespace TL
open PySem PySem.Spec PyProof.Rows L2
section
variable {T : Tb} {E : XK} {X : Cx} {ρ : List Addr} {H : Hp} {lh : LH}
theorem atI_rel {ds : List D} {vs : List V} {i : Int} {d : D} (r : RelDs T ρ H ds vs) (e : atI ds i = some d) : ∃ v, atI vs i = some v ∧ RelD T ρ H d v := by
  unfold atI at e ⊢
  rw [r.length] at e
  cases q : ixN vs.length i with
  | none => rw [q] at e; cases e
  | some j =>
    rw [q] at e
    exact r.get e
theorem xr_idx (hK : X.K = T.K) : IxR X (rdOp T E vIdxS) := by
  intro value slice pins s σ H x y v u Q I rx ry h hs
  obtain ⟨ρ, lh, a, b, hr, ra, rb, post⟩ := h
  cases b with
  | int i =>
    have post : PostE T E ρ lh H (match itemsOf a lh with
      | some xs => match atI xs i with
        | some d => .ok d lh
        | none => .stuck
      | none => .stuck) Q := post
    cases e : itemsOf a lh with
    | none => rw [e] at post; exact post.elim
    | some xs =>
      rw [e] at post
      simp only at post
      cases e2 : atI xs i with
      | none => rw [e2] at post; exact post.elim
      | some d =>
        rw [e2] at post
        obtain ⟨p, vs, ev, rv, sq⟩ := items_ok hr ra e
        obtain ⟨w, h1, h2⟩ := atI_rel rv e2
        have q := PostE.ok post Le.refl hr h2
        rw [← hK] at sq
        rcases sq with sq | sq
        · exact ix_tup value slice pins s σ H x y v u Q I rx ry ⟨p, vs, i, w, ev, rb, sq, h1, q⟩ hs
        · exact ix_list value slice pins s σ H x y v u Q I rx ry ⟨p, vs, i, w, ev, rb, sq, h1, q⟩ hs
  | _ => exact post.elim
end
section
variable {T : Tb} {E : XK} {X : Cx} {ρ : List Addr} {H : Hp} {lh : LH} {σ : L2.St} {Q : VK}
def rdSl (T : Tb) (E : XK) : V → Option Int → Option Int → Hp → VK → Prop := fun x lo hi H Q => ∃ ρ lh d, HR T ρ H lh ∧ RelD T ρ H d x ∧ PostE T E ρ lh H (vSl d lo hi lh) Q
theorem cut_rel {ds : List D} {vs : List V} {lo hi : Option Int} (r : RelDs T ρ H ds vs) : RelDs T ρ H (cutL ds lo hi) (cutV vs lo hi) := by
  unfold cutL cutV
  rw [r.length]
  exact (r.drop _).take _
theorem whole_cut {vs : List V} {lo hi : Option Int} (h : HT.sIx vs.length 0 lo = 0 ∧ HT.sIx vs.length vs.length hi = vs.length) : cutV vs lo hi = vs := by
  unfold cutV
  rw [h.1, h.2]
  simp
theorem sr_sl (hK : X.K = T.K) : SlR X (rdSl T E) := by
  intro pins s σ H x v vl vu lo hi sl Q I rx hs pl pu h
  obtain ⟨ρ, lh, d, hr, rd, post⟩ := h
  cases d with
  | tup ds =>
    obtain ⟨a, vs, ev, sq, rv⟩ := rd
    refine sl_tupA pins s σ H x v vl vu lo hi sl Q I rx hs pl pu ⟨a, vs, ev, by rw [hK]; exact sq, fun hw => ?_, fun hw p hp => ?_⟩
    · refine PostE.ok post Le.refl hr ⟨a, vs, rfl, sq, ?_⟩
      have := cut_rel (lo := lo) (hi := hi) rv
      rw [whole_cut hw] at this
      exact this
    · exact new_tup hr (cut_rel rv) hp post
  | kls ds =>
    obtain ⟨a, vs, ev, sq, rv⟩ := rd
    exact sl_list pins s σ H x v vl vu lo hi sl Q I rx hs pl pu ⟨a, vs, ev, by rw [hK]; exact sq.sqL, fun p hp => new_lst hr (cut_rel rv) hp post⟩
  | str z =>
    obtain ⟨hb, post⟩ := cond_stuck post
    exact C8.sl_txt pins s σ H x v vl vu lo hi sl Q I rx hs pl pu ⟨z, rd, small_line (Nat.le_of_ble_eq_true hb), PostE.ok post Le.refl hr rfl⟩
  | obj n =>
    have post : PostE T E ρ lh H (match lh.get n with
      | some (.lst _ xs) => .ok (.obj lh.nx) (lh.new (.lst false (cutL xs lo hi)))
      | _ => .stuck) Q := post
    split at post
    · rename_i lk xs e
      obtain ⟨a, ev, _, ho⟩ := obj_of hr rd e
      obtain ⟨vs, rv, sq⟩ := ho.sqL
      exact sl_list pins s σ H x v vl vu lo hi sl Q I rx hs pl pu ⟨a, vs, ev, by rw [hK]; exact sq, fun p hp => new_lst hr (cut_rel rv) hp post⟩
    · exact post.elim
  | _ => exact post.elim
def rdO (T : Tb) (W : WX) (m : MO) : TO := fun σ H Q => ∃ ρ sl lh, SR T ρ H sl lh σ ∧ PostG T (atS W σ) ρ lh H (m sl lh) fun o _ _ H' => Q o H'
theorem rd_oNone {W : WX} {Q : Option Int → Hp → Prop} (h : rdO T W oNone σ H Q) : tNoPart σ H Q := by
  obtain ⟨ρ, sl, lh, sr, post⟩ := h
  exact post ρ H Le.refl sr.hr
theorem rd_oSome {W : WX} {m : ME} {Q : Option Int → Hp → Prop} (h : rdO T W (oSome m) σ H Q) : tPart (rdE T W m) σ H Q := by
  obtain ⟨ρ, sl, lh, sr, post⟩ := h
  refine ⟨ρ, sl, lh, sr, (PostG.bind post).mono fun x h1 ρ1 H1 le1 hr1 p1 v rv => ?_⟩
  cases x with
  | int i => exact ⟨i, rv, p1 ρ1 H1 Le.refl hr1⟩
  | _ => exact p1.elim
theorem poImp {lo : Option Expr} {t t' : TO} (h : PO X lo t) (k : ∀ σ H Q, t' σ H Q → t σ H Q) : PO X lo t' := ⟨fun pins s σ H Q I q => h.run pins s σ H Q I (k σ H Q q)⟩
theorem rd_sl {W : WX} {m : ME} {ml mh : MO} (h : rdE T W (mSl m ml mh) σ H Q) : tSl (rdSl T E) (rdE T W m) (rdO T W ml) (rdO T W mh) σ H Q := by
  obtain ⟨ρ, sl, lh, sr, post⟩ := h
  refine ⟨ρ, sl, lh, sr, (PostG.bind post).mono fun d h1 ρ1 H1 le1 hr1 p1 v rv => ?_⟩
  refine ⟨ρ1, sl, h1, sr.mono le1 hr1, (PostG.bind p1).mono fun lo h2 ρ2 H2 le2 hr2 p2 => ?_⟩
  refine ⟨ρ2, sl, h2, (sr.mono le1 hr1).mono le2 hr2, (PostG.bind p2).mono fun hi h3 ρ3 H3 le3 hr3 p3 => ?_⟩
  exact ⟨ρ3, h3, d, hr3, rv.mono (le2.trans le3).toLe0, noErr_post p3⟩
end
section
variable {T : Tb} {E : XK} {X : Cx} {ρ : List Addr} {H : Hp} {lh : LH} {σ : L2.St} {Q : VK}
theorem or_inS (hK : X.K = T.K) (hu : X.A.units + 65 < cLine) (neg : Bool) : OpR X (compareOp (bif neg then .NotIn else .In)) (rdOp T E (vInS neg)) := by
  intro pins s σ H x y v u Q I rx ry h
  obtain ⟨ρ, lh, a, b, hr, ra, rb, post⟩ := h
  cases b with
  | str j =>
    cases a with
    | str i =>
      cases neg with
      | true => exact op_notin_str pins s σ H x y v u Q I rx ry ⟨i, j, ra, rb, PostE.ok post Le.refl hr rfl⟩
      | false => exact op_in_str pins s σ H x y v u Q I rx ry ⟨i, j, ra, rb, PostE.ok post Le.refl hr rfl⟩
    | _ => exact post.elim
  | tup ys =>
    have post : PostE T E ρ lh H (match flatOf a, flatsOf ys with
      | some x, some zs => .ok (.bl (bif neg then !inV x zs else inV x zs)) lh
      | _, _ => .stuck) Q := post
    split at post
    · rename_i z zs e1 e2
      obtain ⟨p, vs, ev, sq, rv⟩ := rb
      obtain ⟨e3, f1⟩ := flat_ok e1 ra
      obtain ⟨e4, f2⟩ := flats_ok e2 rv
      subst e3 e4
      rw [← hK] at sq
      have q := PostE.ok post Le.refl hr rfl
      cases neg with
      | true => exact op_notIn_seq pins s σ H x y v u Q I rx ry ⟨p, vs, ev, .inr sq, f1, f2, q⟩
      | false => exact op_in_seq pins s σ H x y v u Q I rx ry ⟨p, vs, ev, .inr sq, f1, f2, q⟩
    · exact post.elim
  | obj n =>
    have post : PostE T E ρ lh H (match lh.get n with
      | some (.lst _ ys) => match pyOf 60 lh a, ys.mapM (pyOf 59 lh) with
        | some x, some zs => .ok (.bl (bif neg then !(zs.any fun z => PyData.eqv z x) else zs.any fun z => PyData.eqv z x)) lh
        | _, _ => .stuck
      | _ => .stuck) Q := post
    split at post
    · rename_i lk ys e
      split at post
      · rename_i d zs e1 e2
        obtain ⟨a1, a2, a3⟩ := py_ok hr 60 ra e1
        have e3 : pyOf 60 lh (.obj n) = some (.list zs) := by
          show (match lh.get n with
            | some (.lst _ ds) => (ds.mapM (pyOf 59 lh)).map PyData.list
            | _ => none) = _
          rw [e]
          show (ys.mapM (pyOf 59 lh)).map PyData.list = _
          rw [e2]
          rfl
        obtain ⟨b1, b2, b3⟩ := py_ok hr 60 rb e3
        rw [← hK] at a1 b1
        have q := PostE.ok post Le.refl hr rfl
        cases neg with
        | true => exact op_notInD hu pins s σ H x y v u Q I rx ry ⟨d, zs, a1, b1, shaped_of a2 a3 (by decide), shaped_of b2 b3 (by decide), q⟩
        | false => exact op_inD hu pins s σ H x y v u Q I rx ry ⟨d, zs, a1, b1, shaped_of a2 a3 (by decide), shaped_of b2 b3 (by decide), q⟩
      · exact post.elim
    · exact post.elim
  | _ => exact post.elim
end
section
variable {T : Tb} {E : XK} {X : Cx} {ρ : List Addr} {H : Hp} {lh : LH} {σ : L2.St} {Q : VK}
theorem bools_ok : ∀ {ds : List D} {is : List Bool} {vs : List V}, boolsOf ds = some is → RelDs T ρ H ds vs → vs = is.map V.bl
  | [], is, vs, e, r => by cases e; exact r
  | .bl i :: ds, is, vs, e, ⟨v, r', ev, h1, h2⟩ => by
    obtain ⟨js, e1, e2⟩ := map_some (f := (i :: ·)) e
    subst e2
    rw [ev, show v = _ from h1, bools_ok e1 h2]
    rfl
  | .non :: _, _, _, e, _ => by cases e
  | .int _ :: _, _, _, e, _ => by cases e
  | .str _ :: _, _, _, e, _ => by cases e
  | .tup _ :: _, _, _, e, _ => by cases e
  | .obj _ :: _, _, _, e, _ => by cases e
  | .kls _ :: _, _, _, e, _ => by cases e
theorem lst_ok {d : D} {xs : List D} {v : V} (hr : HR T ρ H lh) (r : RelD T ρ H d v) (e : lstAt d lh = some xs) : ∃ p vs, v = .ref p ∧ RelDs T ρ H xs vs ∧ SqL T.K H p vs := by
  cases d with
  | kls ys =>
    have e : some ys = some xs := e
    cases e
    obtain ⟨a, vs, ev, hs, hd⟩ := r
    exact ⟨a, vs, ev, hd, hs.sqL⟩
  | obj n =>
    have e : (match lh.get n with
      | some (.lst _ xs) => some xs
      | _ => none) = some xs := e
    split at e
    · rename_i lk ys q
      cases e
      obtain ⟨a, ev, _, ho⟩ := obj_of hr r q
      obtain ⟨vs, h1, h2⟩ := ho.sqL
      exact ⟨a, vs, ev, h1, h2⟩
    · cases e
  | _ => cases e
theorem rel1 {ds : List D} {xs : List V} {d : D} (e : ds = [d]) (r : RelDs T ρ H ds xs) : ∃ v, xs = [v] ∧ RelD T ρ H d v := by
  subst e
  obtain ⟨v, r', ev, h1, h2⟩ := r
  exact ⟨v, by rw [ev, show r' = [] from h2], h1⟩
theorem rel2 {ds : List D} {xs : List V} {d e : D} (q : ds = [d, e]) (r : RelDs T ρ H ds xs) : ∃ v u, xs = [v, u] ∧ RelD T ρ H d v ∧ RelD T ρ H e u := by
  subst q
  obtain ⟨v, r', ev, h1, h2⟩ := r
  obtain ⟨u, eu, h3⟩ := rel1 rfl h2
  exact ⟨v, u, by rw [ev, eu], h1, h3⟩
end
def bInt : D → LH → Res D
  | .int i, h => .ok (.int i) h
  | .bl k, h => .ok (.int (if k then 1 else 0)) h
  | .str x, h => match PySem.intText? x with
    | some n => bif Nat.ble x.length 640 then .ok (.int n) h else .stuck
    | none => .stuck
  | _, _ => .stuck
section
variable {T : Tb} {E : XK} {X : Cx} {ρ : List Addr} {H : Hp} {lh : LH} {σ : L2.St} {Q : VK}
/-- a rule for one argument -/
theorem cr1 {f : Value} {g : D → LH → Res D} (h : ∀ (ρ : List Addr) (lh : LH) (d : D) (v : V) (H : Hp) (Q : VK), HR T ρ H lh → RelD T ρ H d v → PostE T E ρ lh H (g d lh) Q →
    ∀ (pins : List (Addr × Obj)) (s : Shared) (σ : L2.St) (us : List Value), Inv X pins σ H s → Vals [v] us → wpAny (model X.prog X.w) X.A (call f us) (EP X pins σ Q) X.xe s) : CallR X f (rdFn T E (f1 g)) := by
  intro pins s σ H xs us Q I r q
  obtain ⟨ρ, lh, ds, hr, rd, post⟩ := q
  match ds, rd, post with
  | [d], rd, post =>
    obtain ⟨v, e, rv⟩ := rel1 rfl rd
    subst e
    exact h ρ lh d v H Q hr rv post pins s σ us I r
  | [], _, post => exact post.elim
  | _ :: _ :: _, _, post => exact post.elim
theorem cr2 {f : Value} {g : D → D → LH → Res D} (h : ∀ (ρ : List Addr) (lh : LH) (d e : D) (v w : V) (H : Hp) (Q : VK), HR T ρ H lh → RelD T ρ H d v → RelD T ρ H e w → PostE T E ρ lh H (g d e lh) Q →
    ∀ (pins : List (Addr × Obj)) (s : Shared) (σ : L2.St) (us : List Value), Inv X pins σ H s → Vals [v, w] us → wpAny (model X.prog X.w) X.A (call f us) (EP X pins σ Q) X.xe s) : CallR X f (rdFn T E (f2 g)) := by
  intro pins s σ H xs us Q I r q
  obtain ⟨ρ, lh, ds, hr, rd, post⟩ := q
  match ds, rd, post with
  | [d, e], rd, post =>
    obtain ⟨v, w, ev, rv, rw⟩ := rel2 rfl rd
    subst ev
    exact h ρ lh d e v w H Q hr rv rw post pins s σ us I r
  | [], _, post => exact post.elim
  | [_], _, post => exact post.elim
  | _ :: _ :: _ :: _, _, post => exact post.elim
theorem cr_int : CallR X (.type "int") (rdFn T E (f1 bInt)) := cr1 fun ρ lh d v H Q hr rd post pins s σ us I r => by
  cases d with
  | int i => exact call_int1 pins s σ H _ us Q I r (.inl ⟨i, by rw [show v = _ from rd], PostE.ok post Le.refl hr rfl⟩)
  | bl i => exact call_int1 pins s σ H _ us Q I r (.inr ⟨i, by rw [show v = _ from rd], PostE.ok post Le.refl hr rfl⟩)
  | str x =>
    have post : PostE T E ρ lh H (match PySem.intText? x with
      | some n => bif Nat.ble x.length 640 then .ok (.int n) lh else .stuck
      | none => .stuck) Q := post
    split at post
    · rename_i n e
      obtain ⟨hb, post⟩ := cond_stuck post
      exact call_int_str pins s σ H _ us Q I r ⟨x, n, by rw [show v = _ from rd], e, Nat.le_of_ble_eq_true hb, PostE.ok post Le.refl hr rfl⟩
    · exact post.elim
  | _ => exact post.elim
theorem cr_min2 (hc : X.calm = true) : CallR X (.builtin "min") (rdFn T E (f2 bMin)) := cr2 fun ρ lh d e v w H Q hr rd re post pins s σ us I r => by
  cases d with
  | int i =>
    cases e with
    | int j => exact call_min2 hc pins s σ H _ us Q I r ⟨i, j, by rw [show v = _ from rd, show w = _ from re], PostE.ok post Le.refl hr rfl⟩
    | _ => exact post.elim
  | _ => exact post.elim
theorem cr_allL (hK : X.K = T.K) (hc : X.calm = true) : CallR X (.builtin "all") (rdFn T E (f1 bAll)) := cr1 fun ρ lh d v H Q hr rd post pins s σ us I r => by
  unfold bAll at post
  cases e : lstAt d lh with
  | none => rw [e] at post; exact post.elim
  | some xs =>
    rw [e] at post
    simp only at post
    cases e2 : boolsOf xs with
    | none => rw [e2] at post; exact post.elim
    | some is =>
      rw [e2] at post
      obtain ⟨p, vs, ev, rv, sq⟩ := lst_ok hr rd e
      rw [bools_ok e2 rv, ← hK] at sq
      exact cr_all hc pins s σ H _ us Q I r ⟨p, is, by rw [ev], sq, PostE.ok post Le.refl hr rfl⟩
theorem cr_anyL (hK : X.K = T.K) (hc : X.calm = true) : CallR X (.builtin "any") (rdFn T E (f1 bAny)) := cr1 fun ρ lh d v H Q hr rd post pins s σ us I r => by
  unfold bAny at post
  cases e : lstAt d lh with
  | none => rw [e] at post; exact post.elim
  | some xs =>
    rw [e] at post
    simp only at post
    cases e2 : boolsOf xs with
    | none => rw [e2] at post; exact post.elim
    | some is =>
      rw [e2] at post
      obtain ⟨p, vs, ev, rv, sq⟩ := lst_ok hr rd e
      rw [bools_ok e2 rv, ← hK] at sq
      exact cr_any hc pins s σ H _ us Q I r ⟨p, is, by rw [ev], sq, PostE.ok post Le.refl hr rfl⟩
theorem cr_lenS (hK : X.K = T.K) : CallR X (.builtin "len") (rdFn T E (f1 bLenS)) := cr1 fun ρ lh d v H Q hr rd post pins s σ us I r => by
  have seq : ∀ {xs : List D}, itemsOf d lh = some xs → PostE T E ρ lh H (.ok (.int xs.length) lh) Q → wpAny (model X.prog X.w) X.A (call (.builtin "len") us) (EP X pins σ Q) X.xe s := fun {xs} e post => by
    obtain ⟨p, vs, ev, rv, sq⟩ := items_ok hr rd e
    rw [← hK] at sq
    have q := PostE.ok post Le.refl hr rfl
    rw [rv.length] at q
    exact call_len_seq pins s σ H _ us Q I r ⟨p, vs, by rw [ev], sq.symm, q⟩
  cases d with
  | str z =>
    obtain ⟨hb, post⟩ := cond_stuck post
    exact call_len_str pins s σ H _ us Q I r ⟨z, by rw [show v = _ from rd], small_line (Nat.le_of_ble_eq_true hb), PostE.ok post Le.refl hr rfl⟩
  | tup xs => exact seq rfl post
  | kls xs => exact seq rfl post
  | obj n =>
    have post : PostE T E ρ lh H (match itemsOf (.obj n) lh with
      | some xs => .ok (.int xs.length) lh
      | none => .stuck) Q := post
    cases e : itemsOf (.obj n) lh with
    | none => rw [e] at post; exact post.elim
    | some xs => rw [e] at post; exact seq e post
  | _ => exact post.elim
theorem cr_tup (hK : X.K = T.K) : CallR X (.type "tuple") (rdFn T E (f1 bTup)) := cr1 fun ρ lh d v H Q hr rd post pins s σ us I r => by
  unfold bTup at post
  cases e : itemsOf d lh with
  | none => rw [e] at post; exact post.elim
  | some xs =>
    rw [e] at post
    obtain ⟨p, vs, ev, rv, sq⟩ := items_ok hr rd e
    refine call_tuple_of pins s σ H _ us Q I r ⟨p, vs, by rw [ev], ?_⟩
    rcases sq with sq | sq
    · exact .inr ⟨by rw [hK]; exact sq, PostE.ok post Le.refl hr ⟨p, vs, rfl, sq, rv⟩⟩
    · exact .inl ⟨by rw [hK]; exact sq, fun l hl => new_tup hr rv hl post⟩
end
end TL
namespace TL
open PySem PySem.Spec PyProof.Rows L2
theorem nbeq (a b : NestedKey) : NestedKey.beq a b = decide (a = b) := (NestedKey.decide_eq a b).symm
section
variable {T : Tb} {X : Cx} {pins : List (Addr × Obj)} {σ : L2.St} {H : Hp} {s : Shared} {ρ : List Addr}
theorem toNKs_cons {d : D} {ds : List D} {ks : List NestedKey} (e : toNKs (d :: ds) = some ks) : ∃ k r, toNK d = some k ∧ toNKs ds = some r ∧ ks = k :: r := by
  unfold toNKs at e
  cases q1 : toNK d with
  | none => rw [q1] at e; cases e
  | some k =>
    cases q2 : toNKs ds with
    | none => rw [q1, q2] at e; cases e
    | some r => rw [q1, q2] at e; cases e; exact ⟨k, r, rfl, rfl, rfl⟩
mutual
theorem nest_is (hK : X.K = T.K) (I : Inv X pins σ H s) : ∀ {d : D} {v : V} {u : Value} {nk : NestedKey}, RelD T ρ H d v → toNK d = some nk → RelV v u → NestedIs s.heap nk u
  | .non, v, u, nk, r, e, ru => by
    cases e
    rw [show v = _ from r] at ru
    rw [show u = _ from ru]
    exact .none
  | .bl b, v, u, nk, r, e, ru => by
    cases e
    rw [show v = _ from r] at ru
    rw [show u = _ from ru]
    exact .bool rfl
  | .int i, v, u, nk, r, e, ru => by
    cases e
    rw [show v = _ from r] at ru
    obtain ⟨t, rfl⟩ := ru
    exact .int i t
  | .str x, v, u, nk, r, e, ru => by
    cases e
    rw [show v = _ from r] at ru
    obtain ⟨t, rfl⟩ := ru
    exact .text x t
  | .tup ds, v, u, nk, ⟨a, vs, ev, sq, rv⟩, e, ru => by
    obtain ⟨ks, e1, e2⟩ := map_some (f := NestedKey.tup) e
    subst e2 ev
    cases ru
    rw [← hK] at sq
    obtain ⟨its, rr, ⟨o, ho, hc, n, hd⟩, hz⟩ := I.tuple sq
    exact .tup ho hc hd (by simpa using nests_is hK I rv e1 rr)
  | .obj _, _, _, _, _, e, _ => by cases e
  | .kls _, _, _, _, _, e, _ => by cases e
  | .lam _, _, _, _, _, e, _ => by cases e
theorem nests_is (hK : X.K = T.K) (I : Inv X pins σ H s) : ∀ {ds : List D} {vs : List V} {us : List Value} {ks : List NestedKey}, RelDs T ρ H ds vs → toNKs ds = some ks → Vals vs us → NestedAll s.heap ks us
  | [], vs, us, ks, r, e, ru => by
    cases e
    rw [show vs = [] from r] at ru
    cases ru
    exact .nil
  | d :: ds, vs, us, ks, ⟨v, r', ev, h1, h2⟩, e, ru => by
    obtain ⟨k, r, e1, e2, rfl⟩ := toNKs_cons e
    subst ev
    cases ru with
    | cons a b => exact .cons (nest_is hK I h1 e1 a) (nests_is hK I h2 e2 b)
end
/-- entries with tuple keys -/
def NR (T : Tb) (ρ : List Addr) (H : Hp) (x : Ent) (y : NestedKey × Addr × Value) : Prop :=
  x.1 = y.1 ∧ (∃ ds, x.2.1 = .tup ds) ∧ toNK x.2.1 = some x.1 ∧ x.1.depth ≤ 8 ∧ RelD T ρ H x.2.1 (.ref y.2.1) ∧ ∃ vv, RelV vv y.2.2 ∧ RelD T ρ H x.2.2 vv
theorem ents_nr (hw : X.w = T.w) : ∀ {kvs : List Ent} {es : List DictEntry}, EntsR T ρ H true kvs es → ∃ xs, es = xs.map (entryOfKey (nestedKind X.prog X.w)) ∧ Paired (NR T ρ H) kvs xs
  | [], es, h => ⟨[], h, .nil⟩
  | x :: r, es, ⟨e, es', q, ⟨kv, vv, h1, h2, h3, h4, h5, h6, ⟨ds, h7⟩, h8⟩, h9⟩ => by
    obtain ⟨xs, e1, p⟩ := ents_nr hw h9
    obtain ⟨a, vs, ea, _⟩ : ∃ a vs, kv = .ref a ∧ SqT T.K H a vs := by
      rw [h7] at h2
      obtain ⟨a, vs, ea, sq, _⟩ := h2
      exact ⟨a, vs, ea, sq⟩
    subst ea
    refine ⟨(x.1, a, e.val) :: xs, ?_, .cons ⟨rfl, ⟨ds, h7⟩, h5, h8, h2, vv, h3, h4⟩ p⟩
    rw [q, e1, List.map_cons]
    congr 1
    obtain ⟨eh, ek, ev⟩ := e
    have e2 : ek = Value.ref a := h1
    have e3 : eh = x.1.hash T.w := h6
    rw [e2, e3, ← hw]
    rfl
theorem nr_ents (hw : X.w = T.w) : ∀ {kvs : List Ent} {xs : List (NestedKey × Addr × Value)}, Paired (NR T ρ H) kvs xs → EntsR T ρ H true kvs (xs.map (entryOfKey (nestedKind X.prog X.w)))
  | _, _, .nil => rfl
  | x :: _, y :: _, .cons ⟨e1, h7, h5, h8, h2, vv, h3, h4⟩ p => by
    refine ⟨_, _, List.map_cons, ⟨.ref y.2.1, vv, rfl, h2, h3, h4, h5, ?_, h7, h8⟩, nr_ents hw p⟩
    show y.1.hash X.w = x.1.hash T.w
    rw [e1, hw]
theorem nr_keys : ∀ {kvs : List Ent} {xs : List (NestedKey × Addr × Value)}, Paired (NR T ρ H) kvs xs → xs.map (·.1) = kvs.map (·.1)
  | _, _, .nil => rfl
  | _, _, .cons h p => by rw [List.map_cons, List.map_cons, nr_keys p, h.1]
theorem nr_mem : ∀ {kvs : List Ent} {xs : List (NestedKey × Addr × Value)} {y : NestedKey × Addr × Value}, Paired (NR T ρ H) kvs xs → y ∈ xs → ∃ x, NR T ρ H x y
  | _, _, _, .nil, h => by cases h
  | x :: _, _, y, .cons h p, hm => by
    rcases List.mem_cons.mp hm with rfl | hm
    · exact ⟨x, h⟩
    · exact nr_mem p hm
theorem dictH (hK : X.K = T.K) (hw : X.w = T.w) (I : Inv X pins σ H s) {a : Addr} {kvs : List Ent} {es : Array DictEntry} {ep : Nat} (nd : (kvs.map (·.1)).Nodup) (he : EntsR T ρ H true kvs es.toList) (hd : s.heap.DictRaw a es ep) :
    ∃ xs, s.heap.DictOfH (nestedKind X.prog X.w) a xs ∧ Paired (NR T ρ H) kvs xs := by
  obtain ⟨xs, e1, p⟩ := ents_nr hw he
  obtain ⟨o, ho, hx, hdt⟩ := hd
  refine ⟨xs, ⟨o, es, ep, ho, hx, hdt, e1, fun y hy => ?_, by rw [nr_keys p]; exact nd⟩, p⟩
  obtain ⟨x, h1, _, h3, h4, h5, _⟩ := nr_mem p hy
  rw [← h1]
  exact ⟨nest_is hK I h5 h3 rfl, h4⟩
theorem atKey_find : ∀ {kvs : List Ent} {xs : List (NestedKey × Addr × Value)} (nk : NestedKey), Paired (NR T ρ H) kvs xs →
    (dfind kvs nk = none ∧ atKey xs nk = none) ∨ ∃ d p vv, dfind kvs nk = some d ∧ atKey xs nk = some p ∧ RelV vv p.2 ∧ RelD T ρ H d vv
  | _, _, _, .nil => .inl ⟨rfl, rfl⟩
  | x :: _, y :: _, nk, .cons h p => by
    obtain ⟨e1, _, _, _, _, vv, h3, h4⟩ := h
    unfold dfind
    rw [nbeq]
    by_cases hk : x.1 = nk
    · refine .inr ⟨x.2.2, y.2, vv, by rw [decide_eq_true hk]; rfl, ?_, h3, h4⟩
      unfold atKey
      rw [List.find?_cons_of_pos (by rw [← e1, decide_eq_true hk])]
      rfl
    · rw [decide_eq_false hk]
      rcases atKey_find nk p with ⟨a, b⟩ | ⟨d, q, vv, a, b, c⟩
      · refine .inl ⟨a, ?_⟩
        unfold atKey at b ⊢
        rw [List.find?_cons_of_neg (by rw [← e1, decide_eq_false hk]; simp)]
        exact b
      · refine .inr ⟨d, q, vv, a, ?_, c⟩
        unfold atKey at b ⊢
        rw [List.find?_cons_of_neg (by rw [← e1, decide_eq_false hk]; simp)]
        exact b
theorem any_find : ∀ (kvs : List Ent) (nk : NestedKey), (kvs.any fun x => NestedKey.beq x.1 nk) = (dfind kvs nk).isSome
  | [], _ => rfl
  | x :: r, nk => by
    rw [List.any_cons, any_find r nk]
    show (NestedKey.beq x.1 nk || (dfind r nk).isSome) = (bif NestedKey.beq x.1 nk then some x.2.2 else dfind r nk).isSome
    cases NestedKey.beq x.1 nk <;> rfl
theorem paired_append {α β : Type} {F : α → β → Prop} : ∀ {xs : List α} {ys : List β} {x : α} {y : β}, Paired F xs ys → F x y → Paired F (xs ++ [x]) (ys ++ [y])
  | _, _, _, _, .nil, h => .cons h .nil
  | _, _, _, _, .cons a b, h => .cons a (paired_append b h)
theorem paired_map {α β : Type} {F : α → β → Prop} {f : α → α} {g : β → β} (k : ∀ x y, F x y → F (f x) (g y)) : ∀ {xs : List α} {ys : List β}, Paired F xs ys → Paired F (xs.map f) (ys.map g)
  | _, _, .nil => .nil
  | _, _, .cons a b => .cons (k _ _ a) (paired_map k b)
theorem nr_set {kvs : List Ent} {xs : List (NestedKey × Addr × Value)} {nk : NestedKey} {k d : D} {a : Addr} {u : Value} {vv : V} (p : Paired (NR T ρ H) kvs xs) (hk : NR T ρ H (nk, k, d) (nk, a, u)) (ru : RelV vv u) (rd : RelD T ρ H d vv) :
    Paired (NR T ρ H) (dset kvs nk k d) (storedH xs nk a u) := by
  unfold dset storedH
  rw [any_find]
  rcases atKey_find nk p with ⟨e1, e2⟩ | ⟨d', q, _, e1, e2, _⟩
  · rw [e1, e2]
    exact paired_append p hk
  · rw [e1, e2]
    show Paired (NR T ρ H) (kvs.map _) (xs.map _)
    refine paired_map (fun x y h => ?_) p
    obtain ⟨h1, h2, h3, h4, h5, h6⟩ := h
    rw [nbeq]
    unfold putAt
    by_cases z : x.1 = nk
    · rw [decide_eq_true z, if_pos (by rw [← h1]; exact z)]
      exact ⟨h1, h2, h3, h4, h5, vv, ru, rd⟩
    · rw [decide_eq_false z, if_neg (by rw [← h1]; exact z)]
      exact ⟨h1, h2, h3, h4, h5, h6⟩
/-- entries with keys that are whole numbers and texts -/
def kD : Key → D
  | .inl i => .int i
  | .inr x => .str x
def kN : Key → NestedKey
  | .inl i => .num i
  | .inr x => .text x
theorem kN_inj {a b : Key} (h : kN a = kN b) : a = b := by
  cases a <;> cases b <;> cases h <;> rfl
def FR (T : Tb) (ρ : List Addr) (H : Hp) (x : Ent) (y : Key × Value) : Prop := x.2.1 = kD y.1 ∧ x.1 = kN y.1 ∧ ∃ vv, RelV vv y.2 ∧ RelD T ρ H x.2.2 vv
theorem fr_keys : ∀ {kvs : List Ent} {ps : List (Key × Value)}, Paired (FR T ρ H) kvs ps → kvs.map (·.1) = (ps.map (·.1)).map kN
  | _, _, .nil => rfl
  | _, _, .cons h p => by rw [List.map_cons, List.map_cons, List.map_cons, fr_keys p, h.2.1]
theorem rel_kD {k : Key} {kv : V} (r : RelD T ρ H (kD k) kv) : kv = kV k := by
  cases k <;> exact r
theorem ents_fr (hw : X.w = T.w) : ∀ {kvs : List Ent} {es : List DictEntry}, EntsR T ρ H false kvs es → ∃ ps, Pairs (mixKind X.prog X.w) es ps ∧ (∀ e ∈ es, ∃ k, (mixKind X.prog X.w).is k e.key = true ∧ e.hash = (mixKind X.prog X.w).hash k) ∧ Paired (FR T ρ H) kvs ps
  | [], es, h => by rw [show es = [] from h]; exact ⟨[], .nil, (fun e he => by cases he), .nil⟩
  | x :: r, es, ⟨e, es', q, ⟨kv, vv, h1, h2, h3, h4, h5, h6, h7⟩, h9⟩ => by
    obtain ⟨ps, p1, p2, p3⟩ := ents_fr hw h9
    obtain ⟨k, hk⟩ : ∃ k : Key, x.2.1 = kD k := by
      rcases h7 with ⟨i, e⟩ | ⟨y, e⟩
      · exact ⟨.inl i, e⟩
      · exact ⟨.inr y, e⟩
    have hn : x.1 = kN k := by
      rw [hk] at h5
      cases k <;> exact (Option.some.inj h5).symm
    rw [hk] at h2
    rw [rel_kD h2] at h1
    have is := kV_is (P := X.prog) (w := X.w) h1
    refine ⟨(k, e.val) :: ps, ?_, fun e' he => ?_, .cons ⟨hk, hn, vv, h3, h4⟩ p3⟩
    · rw [q]; exact .cons is rfl p1
    · rw [q] at he
      rcases List.mem_cons.mp he with rfl | he
      · refine ⟨k, is, ?_⟩
        rw [h6, hn, ← hw]
        cases k <;> rfl
      · exact p2 e' he
theorem keyIs_rel {k : Key} {u : Value} (h : keyIs k u = true) : RelV (kV k) u := by
  rcases keyIs_shape h with ⟨i, t, rfl, rfl⟩ | ⟨x, t, rfl, rfl⟩
  · exact ⟨t, rfl⟩
  · exact ⟨t, rfl⟩
theorem keyIs_hash {k k' : Key} {u : Value} (h : keyIs k u = true) (h' : keyIs k' u = true) : k = k' := by
  rcases keyIs_shape h with ⟨i, t, rfl, rfl⟩ | ⟨x, t, rfl, rfl⟩
  · rcases keyIs_shape h' with ⟨j, t', rfl, e⟩ | ⟨y, t', rfl, e⟩
    · injection e with e _; rw [e]
    · cases e
  · rcases keyIs_shape h' with ⟨j, t', rfl, e⟩ | ⟨y, t', rfl, e⟩
    · cases e
    · injection e with e _; rw [e]
theorem fr_ents (hw : X.w = T.w) : ∀ {kvs : List Ent} {es : List DictEntry} {ps : List (Key × Value)}, Pairs (mixKind X.prog X.w) es ps → (∀ e ∈ es, ∃ k, (mixKind X.prog X.w).is k e.key = true ∧ e.hash = (mixKind X.prog X.w).hash k) → Paired (FR T ρ H) kvs ps → EntsR T ρ H false kvs es
  | _, _, _, .nil, _, .nil => rfl
  | x :: _, e :: es, p :: _, .cons h1 h2 h3, hk, .cons ⟨a1, a2, vv, a3, a4⟩ q => by
    refine ⟨e, es, rfl, ⟨kV p.1, vv, keyIs_rel h1, ?_, ?_, a4, ?_, ?_, ?_⟩, fr_ents hw h3 (fun e' he => hk e' (List.mem_cons_of_mem _ he)) q⟩
    · rw [a1]; cases p.1 <;> rfl
    · rw [h2]; exact a3
    · rw [a1, a2]; cases p.1 <;> rfl
    · obtain ⟨k', i1, i2⟩ := hk e List.mem_cons_self
      have := keyIs_hash i1 h1
      subst this
      rw [i2, a2, hw]
      cases p.1 <;> rfl
    · rw [a1]
      cases p.1 with
      | inl i => exact .inl ⟨i, rfl⟩
      | inr y => exact .inr ⟨y, rfl⟩
theorem nodup_kN {l : List Key} : (l.map kN).Nodup ↔ l.Nodup := by
  constructor
  · intro h
    exact List.Pairwise.imp (fun {a b} h e => h (by rw [e])) (List.pairwise_map.mp h)
  · intro h
    exact List.pairwise_map.mpr (List.Pairwise.imp (fun {a b} h e => h (kN_inj e)) h)
theorem dictF (hw : X.w = T.w) (I : Inv X pins σ H s) {a : Addr} {kvs : List Ent} {es : Array DictEntry} {ep : Nat} (nd : (kvs.map (·.1)).Nodup) (he : EntsR T ρ H false kvs es.toList) (hd : s.heap.DictRaw a es ep) :
    ∃ ps, s.heap.DictOf (mixKind X.prog X.w) a ps ∧ Paired (FR T ρ H) kvs ps := by
  obtain ⟨ps, p1, p2, p3⟩ := ents_fr hw he
  obtain ⟨o, ho, hx, hdt⟩ := hd
  refine ⟨ps, ⟨o, es, ep, ho, hx, hdt, fun e he => p2 e (by simpa using he), p1, ?_⟩, p3⟩
  rw [fr_keys p3] at nd
  exact nodup_kN.mp nd
theorem value_find : ∀ {kvs : List Ent} {ps : List (Key × Value)} (k : Key), Paired (FR T ρ H) kvs ps →
    (dfind kvs (kN k) = none ∧ valueAt ps k = none) ∨ ∃ d u vv, dfind kvs (kN k) = some d ∧ valueAt ps k = some u ∧ RelV vv u ∧ RelD T ρ H d vv
  | _, _, _, .nil => .inl ⟨rfl, rfl⟩
  | x :: _, y :: _, k, .cons h p => by
    obtain ⟨_, e1, vv, h3, h4⟩ := h
    unfold dfind
    rw [nbeq]
    by_cases hk : y.1 = k
    · have hx : x.1 = kN k := by rw [e1, hk]
      refine .inr ⟨x.2.2, y.2, vv, by rw [decide_eq_true hx]; rfl, ?_, h3, h4⟩
      unfold valueAt
      rw [List.find?_cons_of_pos (by exact decide_eq_true hk)]
      rfl
    · have hx : ¬ x.1 = kN k := fun z => hk (kN_inj (by rw [← e1, z]))
      rw [decide_eq_false hx]
      rcases value_find k p with ⟨a, b⟩ | ⟨d, q, vv, a, b, c⟩
      · refine .inl ⟨a, ?_⟩
        unfold valueAt at b ⊢
        rw [List.find?_cons_of_neg (by rw [decide_eq_false hk]; simp)]
        exact b
      · refine .inr ⟨d, q, vv, a, ?_, c⟩
        unfold valueAt at b ⊢
        rw [List.find?_cons_of_neg (by rw [decide_eq_false hk]; simp)]
        exact b
theorem any_value : ∀ (ps : List (Key × Value)) (k : Key), (ps.any fun kv => decide (kv.1 = k)) = (valueAt ps k).isSome
  | [], _ => rfl
  | p :: r, k => by
    rw [List.any_cons, any_value r k]
    unfold valueAt
    by_cases h : p.1 = k
    · rw [List.find?_cons_of_pos (by exact decide_eq_true h), decide_eq_true h]
      rfl
    · rw [List.find?_cons_of_neg (by rw [decide_eq_false h]; simp), decide_eq_false h]
      rfl
theorem fr_set {kvs : List Ent} {ps : List (Key × Value)} {k : Key} {d : D} {u : Value} {vv : V} (p : Paired (FR T ρ H) kvs ps) (ru : RelV vv u) (rd : RelD T ρ H d vv) :
    Paired (FR T ρ H) (dset kvs (kN k) (kD k) d) (stored ps k u) := by
  unfold dset stored
  rw [any_find, any_value]
  rcases value_find k p with ⟨e1, e2⟩ | ⟨d', q, _, e1, e2, _⟩
  · rw [e1, e2]
    exact paired_append p ⟨rfl, rfl, vv, ru, rd⟩
  · rw [e1, e2]
    show Paired (FR T ρ H) (kvs.map _) (ps.map _)
    refine paired_map (fun x y h => ?_) p
    obtain ⟨h1, h2, h6⟩ := h
    rw [nbeq]
    by_cases z : y.1 = k
    · have hx : x.1 = kN k := by rw [h2, z]
      rw [decide_eq_true hx, if_pos z]
      exact ⟨h1, h2, vv, ru, rd⟩
    · have hx : ¬ x.1 = kN k := fun q => z (kN_inj (by rw [← h2, q]))
      rw [decide_eq_false hx, if_neg z]
      exact ⟨h1, h2, h6⟩
theorem dset_length (kvs : List Ent) (nk : NestedKey) (k v : D) : (dset kvs nk k v).length ≤ kvs.length + 1 := by
  unfold dset
  cases kvs.any fun x => NestedKey.beq x.1 nk with
  | true => show (kvs.map _).length ≤ _; rw [List.length_map]; exact Nat.le_succ _
  | false => show (kvs ++ [_]).length ≤ _; rw [List.length_append]; exact Nat.le_refl _
/-- the key of a look-up -/
theorem key_cases {k : D} {v : V} {u : Value} {kk : Bool} {nk : NestedKey} (hK : X.K = T.K) (I : Inv X pins σ H s) (e : keyOf k = some (kk, nk)) (r : RelD T ρ H k v) (ru : RelV v u) :
    toNK k = some nk ∧ ((kk = true ∧ ∃ a, v = .ref a ∧ u = .ref a ∧ (∃ ds, k = .tup ds) ∧ nk.depth ≤ 8 ∧ (nestedKind X.prog X.w).is s.heap nk a) ∨ (kk = false ∧ ∃ y : Key, k = kD y ∧ nk = kN y ∧ (mixKind X.prog X.w).is y u = true)) := by
  cases k with
  | int i =>
    cases e
    refine ⟨rfl, .inr ⟨rfl, .inl i, rfl, rfl, kV_is (k := .inl i) ?_⟩⟩
    rw [show v = _ from r] at ru
    exact ru
  | str x =>
    cases e
    refine ⟨rfl, .inr ⟨rfl, .inr x, rfl, rfl, kV_is (k := .inr x) ?_⟩⟩
    rw [show v = _ from r] at ru
    exact ru
  | tup ds =>
    have e : (match toNKs ds with
      | some ks => bif Nat.ble (NestedKey.depthAll ks) 7 then some (true, NestedKey.tup ks) else none
      | none => none) = some (kk, nk) := e
    cases q : toNKs ds with
    | none => rw [q] at e; cases e
    | some ks =>
      rw [q] at e
      simp only at e
      cases b : Nat.ble (NestedKey.depthAll ks) 7 with
      | false => rw [b] at e; cases e
      | true =>
        rw [b] at e
        cases e
        have hb := Nat.le_of_ble_eq_true b
        have hn : toNK (.tup ds) = some (.tup ks) := by
          show (toNKs ds).map NestedKey.tup = _
          rw [q]; rfl
        have hd : (NestedKey.tup ks).depth ≤ 8 := by rw [NestedKey.depth]; omega
        obtain ⟨a, vs, ev, sq, rv⟩ := id r
        subst ev
        cases ru
        exact ⟨hn, .inl ⟨rfl, a, rfl, rfl, ⟨ds, rfl⟩, hd, nest_is hK I r hn rfl, hd⟩⟩
  | _ => cases e
theorem ents_empty {kd kd' : Bool} {kvs : List Ent} {es : List DictEntry} (h : EntsR T ρ H kd kvs es) (e : (kvs.isEmpty || (kd == kd')) = true) : EntsR T ρ H kd' kvs es := by
  cases kvs with
  | nil => exact h
  | cons x r =>
    have : kd = kd' := by simpa using e
    rw [← this]; exact h
theorem dictAt_some {d k : D} {lh : LH} {n : Nat} {nk : NestedKey} {kk : Bool} {kvs : List Ent} (e : dictAt d k lh = some (n, nk, kk, kvs)) :
    ∃ kd, d = .obj n ∧ lh.get n = some (.dct kd kvs) ∧ keyOf k = some (kk, nk) ∧ (kvs.isEmpty || (kd == kk)) = true := by
  unfold dictAt at e
  cases d with
  | obj m =>
    simp only at e
    cases q : lh.get m with
    | none => rw [q] at e; cases e
    | some o =>
      rw [q] at e
      cases o with
      | dct kd kvs' =>
        simp only at e
        cases q2 : keyOf k with
        | none => rw [q2] at e; cases e
        | some z =>
          obtain ⟨kk', nk'⟩ := z
          rw [q2] at e
          simp only at e
          cases b : (kvs'.isEmpty || (kd == kk')) with
          | false => rw [b] at e; cases e
          | true =>
            rw [b] at e
            cases e
            exact ⟨kd, rfl, q, rfl, b⟩
      | lst _ _ => cases e
      | ins _ _ => cases e
      | abs _ _ _ => cases e
  | _ => cases e
/-- what stands at a dict's address -/
theorem Inv.rawD (I : Inv X pins σ H s) {a : Addr} {es : Array DictEntry} {ep : Nat} (e : H a = some (dictO a es ep)) : s.heap.DictRaw a es ep := by
  obtain ⟨h, _⟩ := I.hok a _ e
  exact h
end
section
variable {T : Tb} {E : XK} {X : Cx} {pins : List (Addr × Obj)} {σ : L2.St} {H : Hp} {s : Shared} {ρ : List Addr} {lh : LH}
theorem look_get (hK : X.K = T.K) (hw : X.w = T.w) (hu : X.A.units + 65 < cLine) (I : Inv X pins σ H s) (hr : HR T ρ H lh) {d k r : D} {x y : V} {v u : Value} (rd : RelD T ρ H d x) (rk : RelD T ρ H k y) (rx : RelV x v) (ry : RelV y u)
    (e : dLook d k lh = some (some r)) {Q : Value → Shared → Prop} {E' : Value → Shared → Prop} (h : ∀ w' s' vv, Inv X pins σ H s' → RelV vv w' → RelD T ρ H r vv → Q w' s') : s.TypeIs v "dict" ∧ wpAny (model X.prog X.w) X.A (getItem v u) Q E' s := by
  obtain ⟨⟨n, nk, kk, kvs⟩, e1, e2⟩ := map_some (f := fun z : Nat × NestedKey × Bool × List Ent => dfind z.2.2.2 z.2.1) e
  obtain ⟨kd, rfl, hg, hk, hb⟩ := dictAt_some e1
  obtain ⟨a, ex, _, hsm, hlen, nd, es, ep, he, hH⟩ := obj_of hr rd hg
  subst ex
  cases rx
  have raw := Inv.rawD I hH
  have he := ents_empty he hb
  obtain ⟨_, hc⟩ := key_cases hK I hk rk ry
  rcases hc with ⟨ekk, p, ey, eu, _, _, is⟩ | ⟨ekk, kk', ek, en, is⟩
  · subst ekk eu
    obtain ⟨xs, dd, pr⟩ := dictH hK hw I nd he raw
    refine ⟨raw.typeIs, ?_⟩
    rcases atKey_find nk pr with ⟨z, _⟩ | ⟨d', q, vv, z1, z2, z3, z4⟩
    · rw [show dfind kvs nk = some r from e2] at z; cases z
    · rw [show dfind kvs nk = some r from e2] at z1; cases z1
      exact wpAny_getItem_heap (knd := nestedKind X.prog X.w) (by show X.A.units + 1 + 8 < cLine; omega) is dd z2 (h _ _ vv (I.tok _) z3 z4)
  · subst ekk ek en
    obtain ⟨ps, dd, pr⟩ := dictF hw I nd he raw
    refine ⟨raw.typeIs, ?_⟩
    rcases value_find kk' pr with ⟨z, _⟩ | ⟨d', q, vv, z1, z2, z3, z4⟩
    · rw [show dfind kvs (kN kk') = some r from e2] at z; cases z
    · rw [show dfind kvs (kN kk') = some r from e2] at z1; cases z1
      exact wpAny_getItem_of is dd.mapOf z2 (h _ _ vv (I.tok _) z3 z4)
theorem look_in (hK : X.K = T.K) (hw : X.w = T.w) (hu : X.A.units + 65 < cLine) (I : Inv X pins σ H s) (hr : HR T ρ H lh) {d k : D} {o : Option D} {x y : V} {v u : Value} (rd : RelD T ρ H d x) (rk : RelD T ρ H k y) (rx : RelV x v) (ry : RelV y u)
    (e : dLook d k lh = some o) {Q : Value → Shared → Prop} {E' : Value → Shared → Prop} (neg : Bool) (h : ∀ s', Inv X pins σ H s' → Q (.bool (bif neg then !o.isSome else o.isSome)) s') : wpAny (model X.prog X.w) X.A (compareOp (bif neg then .NotIn else .In) u v) Q E' s := by
  obtain ⟨⟨n, nk, kk, kvs⟩, e1, e2⟩ := map_some (f := fun z : Nat × NestedKey × Bool × List Ent => dfind z.2.2.2 z.2.1) e
  obtain ⟨kd, rfl, hg, hk, hb⟩ := dictAt_some e1
  obtain ⟨a, ex, _, hsm, hlen, nd, es, ep, he, hH⟩ := obj_of hr rd hg
  subst ex
  cases rx
  have raw := Inv.rawD I hH
  have he := ents_empty he hb
  obtain ⟨_, hc⟩ := key_cases hK I hk rk ry
  have e2 : dfind kvs nk = o := e2
  subst e2
  rcases hc with ⟨ekk, p, ey, eu, _, _, is⟩ | ⟨ekk, kk', ek, en, is⟩
  · subst ekk eu
    obtain ⟨xs, dd, pr⟩ := dictH hK hw I nd he raw
    have es' : (atKey xs nk).isSome = (dfind kvs nk).isSome := by
      rcases atKey_find nk pr with ⟨z1, z2⟩ | ⟨d', q, vv, z1, z2, _⟩ <;> rw [z1, z2] <;> rfl
    have room : (nestedKind X.prog X.w).room X.A.in1 := by show X.A.units + 1 + 8 < cLine; omega
    cases neg with
    | false => exact wpAny_in_heap room is hsm dd (by rw [es']; exact h _ (I.tok _))
    | true =>
      show wpAny (model X.prog X.w) X.A (do return Value.bool (!(← contains (.ref a) (.ref p)))) Q E' s
      exact wpAny_bind (wpAny_contains_heap room is hsm dd (wpAny_pure (by rw [es']; exact h _ (I.tok _))))
  · subst ekk ek en
    obtain ⟨ps, dd, pr⟩ := dictF hw I nd he raw
    have es' : (valueAt ps kk').isSome = (dfind kvs (kN kk')).isSome := by
      rcases value_find kk' pr with ⟨z1, z2⟩ | ⟨d', q, vv, z1, z2, _⟩ <;> rw [z1, z2] <;> rfl
    cases neg with
    | false => exact wpAny_in_of is hsm dd.mapOf (by rw [es']; exact h _ (I.tok _))
    | true => exact wpAny_notIn_of is hsm dd.mapOf (by rw [es']; exact h _ (I.tok _))
theorem obj_ext {a : Addr} {es : Array DictEntry} {ep : Nat} {h : Heap} (hd : h.DictRaw a es ep) : ObjOk X.prog X.w H h a (dictO a es ep) :=
  ⟨hd, let ⟨o, ho, _⟩ := hd; ⟨o, ho⟩, fun h1 h2 x k => x.at k⟩
theorem put_ok (hK : X.K = T.K) (hw : X.w = T.w) (hu : X.A.units + 65 < cLine) (I : Inv X pins σ H s) (hr : HR T ρ H lh) {d k z : D} {x y t : V} {v u r : Value} (rd : RelD T ρ H d x) (rk : RelD T ρ H k y) (rz : RelD T ρ H z t) (rx : RelV x v) (ry : RelV y u) (rt : RelV t r)
    {Q : Hp → Prop} {E' : Value → Shared → Prop} (h : PostG T E ρ lh H (vPut d k z lh) fun _ _ _ H' => Q H') : wpAny (model X.prog X.w) X.A (setItem v u r) (fun _ s' => ∃ H', Inv X pins σ H' s' ∧ Q H') E' s := by
  unfold vPut at h
  cases e1 : dictAt d k lh with
  | none => rw [e1] at h; exact h.elim
  | some q =>
    obtain ⟨n, nk, kk, kvs⟩ := q
    rw [e1] at h
    obtain ⟨hb0, h⟩ := cond_stuck h
    have hl := Nat.le_of_ble_eq_true hb0
    obtain ⟨kd, rfl, hg, hk, hb⟩ := dictAt_some e1
    obtain ⟨a, ex, en0, hsm, hlen, nd, es, ep, he, hH⟩ := obj_of hr rd hg
    subst ex
    cases rx
    have raw := Inv.rawD I hH
    have he := ents_empty he hb
    have hls := dset_length kvs nk k z
    obtain ⟨hnk, hc⟩ := key_cases hK I hk rk ry
    have fin : ∀ {h' : Heap} {tk : Nat} {es' : Array DictEntry} {ep' : Nat}, h'.DictRaw a es' ep' → Heap.SameBut a s.heap h' → ((dset kvs nk k z).map (·.1)).Nodup → EntsR T ρ H kk (dset kvs nk k z) es'.toList →
        ∃ H', Inv X pins σ H' { s with heap := h', toks := tk } ∧ Q H' := fun {h' tk es' ep'} hd hs hn hE => by
      have hmu : Mut (H a) := by rw [hH]; exact True.intro
      have le0 : Le0 ρ H ρ (upd H a (dictO a es' ep')) := Le0.upd_mut (List.mem_of_getElem? en0) hH (fun _ q => by cases q) fun _ _ q => by cases q
      have same : ∀ b, b ≠ a → upd H a (dictO a es' ep') b = H b := fun b hb => upd_ne hb
      refine ⟨upd H a (dictO a es' ep'), I.write (x := a) (e := a) hmu (.inl rfl) (fun b o hb q => (hs.2 b hb).trans q) (let ⟨o, ho, _⟩ := hd; ⟨o, ho⟩) (obj_ext hd), ?_⟩
      refine h ρ _ (Le.write hr en0 le0 same) (hr.write en0 le0 same (by rw [upd_same]; simp) ?_)
      exact ⟨hsm, by omega, hn, es', ep', hE.mono le0, upd_same⟩
    rcases hc with ⟨ekk, p, ey, eu, hds, hdp, is⟩ | ⟨ekk, kk', ek, en, is⟩
    · subst ekk eu ey
      obtain ⟨xs, dd, pr⟩ := dictH hK hw I nd he raw
      have pr2 := nr_set (k := k) (a := p) pr ⟨rfl, hds, hnk, hdp, rk, t, rt, rz⟩ rt rz
      have lx : xs.length = kvs.length := by
        have := congrArg List.length (nr_keys pr)
        simpa using this
      refine wpAny_setItem_heap (knd := nestedKind X.prog X.w) (by show X.A.units + 1 + 8 < cLine; omega) is dd (fun h' dd' hs => ?_) (by rw [sizeLine_eq]; omega)
      obtain ⟨o, es', ep', ho, hx, hdt, hes, his, hn⟩ := dd'
      refine fin ⟨o, ho, hx, hdt⟩ hs ?_ ?_
      · rw [← nr_keys pr2]; exact hn
      · rw [hes]; exact nr_ents hw pr2
    · subst ekk ek en
      obtain ⟨ps, dd, pr⟩ := dictF hw I nd he raw
      have pr2 := fr_set (k := kk') (d := z) pr rt rz
      have lx : ps.length = kvs.length := by
        have := congrArg List.length (fr_keys pr)
        simpa using this.symm
      refine wpAny_setItem_pairs is dd (fun h' dd' hs => ?_) (by rw [sizeLine_eq]; omega)
      obtain ⟨o, es', ep', ho, hx, hdt, hes, his, hn⟩ := dd'
      refine fin ⟨o, ho, hx, hdt⟩ hs ?_ (fr_ents hw his (fun e he => hes e (by simpa using he)) pr2)
      rw [fr_keys pr2]
      exact nodup_kN.mpr hn
end
end TL
namespace TL
open PySem PySem.Spec PyProof.Rows L2
section
variable {T : Tb} {E : XK} {X : Cx} {ρ : List Addr} {H : Hp} {lh : LH} {σ : L2.St} {Q : VK}
theorem flook_ok (nd : T.fn.Nodup) : ∀ {fs : List (Nat × D)} {vs : List (Str × V)} {f : Nat} {x : Str} {d : D}, FsR T ρ H fs vs → T.fn[f]? = some x → flook fs f = some d → ∃ v, vs.lookup x = some v ∧ RelD T ρ H d v
  | [], _, _, _, _, _, _, e => by cases e
  | y :: r, vs, f, x, d, ⟨z, v, r', ev, h1, h2, h3⟩, hx, e => by
    subst ev
    unfold flook at e
    cases b : Nat.beq y.1 f with
    | true =>
      rw [b] at e
      cases e
      have e1 : y.1 = f := Nat.eq_of_beq_eq_true b
      rw [e1, hx] at h1
      cases h1
      exact ⟨v, by rw [List.lookup_cons]; simp, h2⟩
    | false =>
      rw [b] at e
      obtain ⟨u, l, ru⟩ := flook_ok nd h3 hx e
      have ne : x ≠ z := fun q => by
        subst q
        have := nodup_ix nd h1 hx
        rw [this] at b
        rw [Nat.beq_refl] at b
        cases b
      refine ⟨u, ?_, ru⟩
      rw [List.lookup_cons, beq_eq_false_iff_ne.mpr ne]
      exact l
theorem fput_ok (nd : T.fn.Nodup) : ∀ {fs : List (Nat × D)} {vs : List (Str × V)} {f : Nat} {x : Str} {d : D} {v : V}, FsR T ρ H fs vs → T.fn[f]? = some x → RelD T ρ H d v → FsR T ρ H (fput fs f d) (putF x v vs)
  | [], vs, f, x, d, v, h, hx, r => by
    rw [show vs = [] from h]
    exact ⟨x, v, [], rfl, hx, r, rfl⟩
  | y :: r, vs, f, x, d, v, ⟨z, u, r', ev, h1, h2, h3⟩, hx, rv => by
    subst ev
    unfold fput
    cases b : Nat.beq y.1 f with
    | true =>
      have e1 : y.1 = f := Nat.eq_of_beq_eq_true b
      rw [e1, hx] at h1
      cases h1
      show FsR T ρ H ((y.1, d) :: r) (if x = x then (x, v) :: r' else _)
      rw [if_pos rfl]
      exact ⟨x, v, r', rfl, by rw [e1]; exact hx, rv, h3⟩
    | false =>
      have ne : z ≠ x := fun q => by
        subst q
        have := nodup_ix nd h1 hx
        rw [this] at b
        rw [Nat.beq_refl] at b
        cases b
      show FsR T ρ H (y :: fput r f d) (if z = x then _ else (z, u) :: putF x v r')
      rw [if_neg ne]
      exact ⟨z, u, _, rfl, h1, h2, fput_ok nd h3 hx rv⟩
theorem rd_fld {W : WX} (ok : T.Ok) (hK : X.K = T.K) {f : Nat} {x : Str} {m : ME} (hx : T.fn[f]? = some x) (h : rdE T W (m1 (vFld f) m) σ H Q) : tFld X.K (rdE T W m) x σ H Q := by
  obtain ⟨ρ, sl, lh, sr, post⟩ := h
  refine ⟨ρ, sl, lh, sr, (PostG.bind post).mono fun d h1 ρ1 H1 le1 hr1 p1 v rv => ?_⟩
  have p1 : PostE T E0 ρ1 h1 H1 (vFld f d h1) Q := noErr_post p1
  cases d with
  | obj n =>
    have p1 : PostE T E0 ρ1 h1 H1 (match h1.get n with
      | some (.ins _ fs) => match flook fs f with
        | some v => .ok v h1
        | none => .stuck
      | _ => .stuck) Q := p1
    split at p1
    · rename_i c fs e
      cases e2 : flook fs f with
      | none => rw [e2] at p1; exact p1.elim
      | some r =>
        rw [e2] at p1
        obtain ⟨a, ev, _, y, dx, vfs, hc, hH, fr⟩ := obj_of hr1 rv e
        obtain ⟨u, l, ru⟩ := flook_ok ok.fnd fr hx e2
        have my := List.mem_of_getElem? hc
        refine ⟨a, _, dx, vfs, u, ev, hH, by rw [hK]; exact (ok.cls y my).cls, by rw [hK]; exact ok.noat y my x (List.mem_of_getElem? hx), l, PostE.ok p1 Le.refl hr1 ru⟩
    · exact p1.elim
  | _ => exact p1.elim
end
section
variable {T : Tb} {E : XK} {X : Cx} {ρ : List Addr} {H : Hp} {lh : LH} {σ : L2.St} {Q : VK}
theorem le0_lst {a : Addr} {vs : List V} {o : HO} (hm : a ∈ ρ) (h : H a = some (.lst vs)) : Le0 ρ H ρ (upd H a o) := Le0.upd_mut hm h (fun _ q => by cases q) fun _ _ q => by cases q
/-- a list is written -/
theorem write_lst {n : Nat} {a : Addr} {vs us : List V} {xs : List D} {r : D} {v : V} (hr : HR T ρ H lh) (hn : ρ[n]? = some a) (hH : H a = some (.lst vs)) (ru : RelDs T ρ H xs us) (rv : RelD T ρ H r v) (post : PostE T E ρ lh H (.ok r (lh.put n (.lst false xs))) Q) : Q v (upd H a (.lst us)) := by
  have le0 : Le0 ρ H ρ (upd H a (.lst us)) := le0_lst (List.mem_of_getElem? hn) hH
  have same : ∀ b, b ≠ a → upd H a (.lst us) b = H b := fun b hb => upd_ne hb
  exact PostE.ok post (Le.write hr hn le0 same) (hr.write hn le0 same (by rw [upd_same]; simp) ⟨us, ru.mono le0, upd_same⟩) (rv.mono le0)
theorem mr_app : MtR X "list.append" (rdMt T E lApp) := by
  intro pins s σ H x xs v us Q I rx rxs h
  obtain ⟨ρ, lh, d, ds, hr, rd, rds, post⟩ := h
  match d, ds, rd, rds, post with
  | .obj n, [y], rd, rds, post =>
    have post : PostE T E ρ lh H (match lh.get n with
      | some (.lst false xs) => bif Nat.ble xs.length tooLong then .ok .non (lh.put n (.lst false (xs ++ [y]))) else .stuck
      | _ => .stuck) Q := post
    split at post
    · rename_i zs e
      obtain ⟨hb, post⟩ := cond_stuck post
      obtain ⟨a, ev, hn, vs, rv, hH⟩ := obj_of hr rd e
      obtain ⟨w, ew, rw⟩ := rel1 rfl rds
      have hb := Nat.le_of_ble_eq_true hb
      unfold tooLong at hb
      refine mt_append pins s σ H x xs v us Q I rx rxs ⟨a, vs, w, ev, ew, hH, by rw [← rv.length, sizeLine_eq]; omega, ?_⟩
      exact write_lst (r := .non) hr hn hH (rv.append (RelDs.one rw)) rfl post
    · exact post.elim
  | .obj n, [], _, _, post => exact post.elim
  | .obj n, _ :: _ :: _, _, _, post => exact post.elim
  | .non, _, _, _, post => exact post.elim
  | .bl _, _, _, _, post => exact post.elim
  | .int _, _, _, _, post => exact post.elim
  | .str _, _, _, _, post => exact post.elim
  | .tup _, _, _, _, post => exact post.elim
  | .kls _, _, _, _, post => exact post.elim
  | .lam _, _, _, _, post => exact post.elim
theorem dropLast_rel {ds : List D} {vs : List V} (r : RelDs T ρ H ds vs) : RelDs T ρ H ds.dropLast vs.dropLast := by
  rw [List.dropLast_eq_take, List.dropLast_eq_take, r.length]
  exact r.take _
theorem mr_pop : MtR X "list.pop" (rdMt T E lPop) := by
  intro pins s σ H x xs v us Q I rx rxs h
  obtain ⟨ρ, lh, d, ds, hr, rd, rds, post⟩ := h
  match d, ds, rd, rds, post with
  | .obj n, [.int i], rd, rds, post =>
    have post : PostE T E ρ lh H (match lh.get n with
      | some (.lst false xs) => match ixN xs.length i with
        | some k => match xs[k]? with
          | some y => .ok y (lh.put n (.lst false (xs.eraseIdx k)))
          | none => .stuck
        | none => .stuck
      | _ => .stuck) Q := post
    split at post
    · rename_i zs e
      cases e2 : ixN zs.length i with
      | none => rw [e2] at post; exact post.elim
      | some k =>
        rw [e2] at post
        simp only at post
        cases e3 : zs[k]? with
        | none => rw [e3] at post; exact post.elim
        | some y =>
          rw [e3] at post
          obtain ⟨a, ev, hn, vs, rv, hH⟩ := obj_of hr rd e
          obtain ⟨w, ew, rw⟩ := rel1 rfl rds
          obtain ⟨u, hu, ru⟩ := rv.get e3
          have hl := rv.length
          rw [hl] at e2
          obtain ⟨g1, g2, g3, g4⟩ := ixN_seq e2
          have hz : vs.length ≤ sizeLine := by
            obtain ⟨z, _⟩ := I.hok a _ hH
            exact z
          rw [sizeLine_eq] at hz
          refine mt_popAt pins s σ H x xs v us Q I rx rxs ⟨a, vs, i, k, u, ev, by rw [ew, show w = _ from rw], hH, by omega, by omega, g1, hu, ?_⟩
          exact write_lst hr hn hH (rv.eraseIdx k) ru post
    · exact post.elim
  | .obj n, [], rd, rds, post =>
    have post : PostE T E ρ lh H (match lh.get n with
      | some (.lst false xs) => match xs[xs.length - 1]? with
        | some y => .ok y (lh.put n (.lst false xs.dropLast))
        | none => .stuck
      | _ => .stuck) Q := post
    split at post
    · rename_i zs e
      cases e3 : zs[zs.length - 1]? with
      | none => rw [e3] at post; exact post.elim
      | some y =>
        rw [e3] at post
        obtain ⟨a, ev, hn, vs, rv, hH⟩ := obj_of hr rd e
        obtain ⟨u, hu, ru⟩ := rv.get e3
        rw [rv.length] at hu
        refine mt_pop pins s σ H x xs v us Q I rx rxs ⟨a, vs, u, ev, rds, hH, hu, ?_⟩
        exact write_lst hr hn hH (dropLast_rel rv) ru post
    · exact post.elim
  | .obj n, .non :: _, _, _, post => exact post.elim
  | .obj n, .bl _ :: _, _, _, post => exact post.elim
  | .obj n, .str _ :: _, _, _, post => exact post.elim
  | .obj n, .tup _ :: _, _, _, post => exact post.elim
  | .obj n, .obj _ :: _, _, _, post => exact post.elim
  | .obj n, .kls _ :: _, _, _, post => exact post.elim
  | .obj n, .lam _ :: _, _, _, post => exact post.elim
  | .obj n, .int _ :: _ :: _, _, _, post => exact post.elim
  | .non, _, _, _, post => exact post.elim
  | .bl _, _, _, _, post => exact post.elim
  | .int _, _, _, _, post => exact post.elim
  | .str _, _, _, _, post => exact post.elim
  | .tup _, _, _, _, post => exact post.elim
  | .kls _, _, _, _, post => exact post.elim
  | .lam _, _, _, _, post => exact post.elim
end
end TL
namespace TL
open PySem PySem.Spec PyProof.Rows L2
section
variable (T : Tb)
def tyVal (c : Nat) : Option Value := match tyNames[c]? with
  | some n => some (.type n)
  | none => (T.cn[c - 7]?).map fun x => .ref (He.ga T.K x)
end
theorem kitB_all : ∀ t ∈ List.range 7, ∀ c ∈ List.range 7, kitB (tyNames.getD t "") (tyNames.getD c "") = some (isiR t c) := by decide +kernel
theorem nm_lt {c : Nat} {n : String} (e : tyNames[c]? = some n) : c < 7 ∧ tyNames.getD c "" = n ∧ n ∈ tyNames := by
  have h := (List.getElem?_eq_some_iff.mp e).1
  refine ⟨h, ?_, List.mem_of_getElem? e⟩
  rw [List.getD_eq_getElem?_getD, e]
  rfl
section
variable {T : Tb} {E : XK} {X : Cx} {ρ : List Addr} {H : Hp} {lh : LH} {σ : L2.St} {Q : VK} {pins : List (Addr × Obj)} {s : Shared}
theorem tyVal_own {c : Nat} {x : Str} (h : T.cn[c]? = some x) : tyVal T (7 + c) = some (.ref (He.ga T.K x)) := by
  unfold tyVal
  have e : tyNames[7 + c]? = none := List.getElem?_eq_none (by show 7 ≤ 7 + c; omega)
  rw [e]
  show (T.cn[7 + c - 7]?).map _ = _
  rw [Nat.add_sub_cancel_left, h]
  rfl
theorem kit_one (ok : T.Ok) {t c : Nat} {tv cv : Value} (ht : tyVal T t = some tv) (hc : tyVal T c = some cv) : PySem.W.kitOne T.K tv cv = some (isiR t c) := by
  unfold tyVal at ht hc
  cases e1 : tyNames[t]? with
  | some n =>
    rw [e1] at ht
    cases ht
    obtain ⟨t7, en, mn⟩ := nm_lt e1
    cases e2 : tyNames[c]? with
    | some m =>
      rw [e2] at hc
      cases hc
      obtain ⟨c7, em, mm⟩ := nm_lt e2
      have := kitB_all t (List.mem_range.mpr t7) c (List.mem_range.mpr c7)
      rw [en, em] at this
      exact kit_ty this
    | none =>
      rw [e2] at hc
      obtain ⟨x, e3, e4⟩ := map_some hc
      subst e4
      have c7 : 7 ≤ c := by
        by_cases h : c < 7
        · rw [List.getElem?_eq_getElem (by exact h)] at e2; cases e2
        · omega
      have hf : isiR t c = false := by
        unfold isiR
        have h1 : Nat.beq t c = false := by
          cases b : Nat.beq t c with
          | false => rfl
          | true => have := Nat.eq_of_beq_eq_true b; omega
        have h2 : Nat.beq c 2 = false := by
          cases b : Nat.beq c 2 with
          | false => rfl
          | true => have := Nat.eq_of_beq_eq_true b; omega
        rw [h1, h2, Bool.and_false]; rfl
      rw [hf]
      exact ok.isT n mn x (List.mem_of_getElem? e3)
  | none =>
    rw [e1] at ht
    obtain ⟨x, e3, e4⟩ := map_some ht
    subst e4
    have t7 : 7 ≤ t := by
      by_cases h : t < 7
      · rw [List.getElem?_eq_getElem (by exact h)] at e1; cases e1
      · omega
    have h1 : Nat.beq t 1 = false := by
      cases b : Nat.beq t 1 with
      | false => rfl
      | true => have := Nat.eq_of_beq_eq_true b; omega
    cases e2 : tyNames[c]? with
    | some m =>
      rw [e2] at hc
      cases hc
      obtain ⟨c7, em, mm⟩ := nm_lt e2
      have h2 : Nat.beq t c = false := by
        cases b : Nat.beq t c with
        | false => rfl
        | true => have := Nat.eq_of_beq_eq_true b; omega
      rw [show isiR t c = false by unfold isiR; rw [h1, h2]; rfl]
      exact ok.isB x (List.mem_of_getElem? e3) m mm
    | none =>
      rw [e2] at hc
      obtain ⟨y, e5, e6⟩ := map_some hc
      subst e6
      have c7 : 7 ≤ c := by
        by_cases h : c < 7
        · rw [List.getElem?_eq_getElem (by exact h)] at e2; cases e2
        · omega
      rw [ok.isO x (List.mem_of_getElem? e3) y (List.mem_of_getElem? e5)]
      unfold isiR
      rw [h1, Bool.false_and, Bool.or_false]
      congr 1
      by_cases h : x = y
      · subst h
        have := nodup_ix ok.cnd e3 e5
        have : t = c := by omega
        subst this
        rw [decide_eq_true rfl, Nat.beq_refl]
      · rw [decide_eq_false h]
        cases b : Nat.beq t c with
        | false => rfl
        | true =>
          have := Nat.eq_of_beq_eq_true b
          subst this
          rw [e3] at e5
          exact absurd (Option.some.inj e5) h
theorem kit_any (ok : T.Ok) {t : Nat} {tv : Value} (ht : tyVal T t = some tv) : ∀ {cs : List Nat} {us : List Value}, Paired (fun c u => tyVal T c = some u) cs us → PySem.W.kitAny T.K tv us = some (cs.any (isiR t))
  | _, _, .nil => kitAny_nil
  | c :: cs, _, .cons h p => by
    rw [List.any_cons]
    refine kitAny_cons (kit_one ok ht h) (fun e => ?_) fun e => ?_
    · rw [e, Bool.false_or]; exact kit_any ok ht p
    · rw [e]; rfl
theorem kit_d (ok : T.Ok) (hK : X.K = T.K) (I : Inv X pins σ H s) (hr : HR T ρ H lh) {d : D} {v : V} {u : Value} {t : Nat} (rd : RelD T ρ H d v) (ru : RelV v u) (e : tyCode d lh = some t) :
    ∃ tv P, tyVal T t = some tv ∧ PySem.W.KitX X.K u tv P ∧ P s.heap ∧ u ≠ .builtin "__main__.__loader__#opaque" := by
  cases d with
  | non =>
    cases e
    rw [show v = _ from rd] at ru
    obtain ⟨P, h1, h2, h3⟩ := kit_of I ru (.base .non)
    exact ⟨_, P, rfl, h1, h2, h3⟩
  | bl b =>
    cases e
    rw [show v = _ from rd] at ru
    obtain ⟨P, h1, h2, h3⟩ := kit_of I ru (.base (.bl b))
    exact ⟨_, P, rfl, h1, h2, h3⟩
  | int i =>
    cases e
    rw [show v = _ from rd] at ru
    obtain ⟨P, h1, h2, h3⟩ := kit_of I ru (.base (.int i))
    exact ⟨_, P, rfl, h1, h2, h3⟩
  | str x =>
    cases e
    rw [show v = _ from rd] at ru
    obtain ⟨P, h1, h2, h3⟩ := kit_of I ru (.base (.str x))
    exact ⟨_, P, rfl, h1, h2, h3⟩
  | tup ds =>
    cases e
    obtain ⟨a, vs, ev, sq, _⟩ := rd
    subst ev
    rw [← hK] at sq
    have ty : TyX X.K H (.ref a) (.type "tuple") := by
      rcases sq with (h | ⟨o, h⟩) | ⟨o, its, n, hk, hc, _⟩
      · exact .base (.tup h)
      · exact .fTuple h
      · exact .kTuple hk hc
    obtain ⟨P, h1, h2, h3⟩ := kit_of I ru ty
    exact ⟨_, P, rfl, h1, h2, h3⟩
  | obj n =>
    have e : (match lh.get n with
      | some (.lst _ _) => some 4
      | some (.dct _ _) => some 6
      | some (.ins c _) => some (7 + c)
      | _ => none) = some t := e
    split at e
    · rename_i lk xs q
      cases e
      obtain ⟨a, ev, _, vs, _, ho⟩ := obj_of hr rd q
      subst ev
      have ty : TyX X.K H (.ref a) (.type "list") := by
        cases lk with
        | true => obtain ⟨o, ho⟩ := ho; exact .base (.frz ho)
        | false => exact .base (.lst ho)
      obtain ⟨P, h1, h2, h3⟩ := kit_of I ru ty
      exact ⟨_, P, rfl, h1, h2, h3⟩
    · rename_i kd kvs q
      cases e
      obtain ⟨a, ev, _, hsm, _, _, es, ep, _, hH⟩ := obj_of hr rd q
      subst ev
      cases ru
      obtain ⟨o, ho, hx, _⟩ := Inv.rawD I hH
      exact ⟨_, _, rfl, PySem.W.kitx_dict, ⟨o, ho, hx.1⟩, fun z => nomatch z⟩
    · rename_i c fs q
      cases e
      obtain ⟨a, ev, _, x, dx, vfs, hc, hH, _⟩ := obj_of hr rd q
      subst ev
      have F := ok.cls x (List.mem_of_getElem? hc)
      rw [← hK] at F
      rw [← hK] at hH
      obtain ⟨P, h1, h2, h3⟩ := kit_of I ru (.base (.ins hH F.cls F.ha F.hn F.htk F.hm))
      exact ⟨_, P, tyVal_own hc, by rw [← hK]; exact h1, h2, h3⟩
    · cases e
  | kls x => cases e
  | lam x => cases e
/-- a class as an argument -/
def ClV (T : Tb) (c : Nat) (v : V) : Prop := ∃ u, tyVal T c = some u ∧ RelV v u ∧ ∀ w, RelV v w → w = u
theorem cr_isi1 (ok : T.Ok) (hK : X.K = T.K) {c : Nat} {cv : V} (hc : ClV T c cv) : CallR X (.builtin "isinstance") (fun xs H Q => ∃ v, xs = [v, cv] ∧ rdUn T E (vIsi [c]) v H Q) := by
  intro pins s σ H xs us Q I r h
  obtain ⟨v, rfl, ρ, lh, d, hr, rd, post⟩ := h
  obtain ⟨u1, u2, rfl, r1, r2⟩ := vals2 r
  obtain ⟨cu, h1, h2, h3⟩ := hc
  rw [h3 u2 r2]
  unfold vIsi at post
  cases e : tyCode d lh with
  | none => rw [e] at post; exact post.elim
  | some t =>
    rw [e] at post
    obtain ⟨tv, P, g1, g2, g3, g4⟩ := kit_d ok hK I hr rd r1 e
    have k := kit_one ok g1 h1
    rw [← hK] at k
    have q : Q (.bl (isiR t c)) H := by
      have := PostE.ok post Le.refl hr rfl
      simpa using this
    exact PySem.W.kia_one g2 I.kIn g3 k g4 fun tk => ⟨.bl _, H, I.tok tk, rfl, q⟩
theorem cr_isi2 (ok : T.Ok) (hK : X.K = T.K) {c c' : Nat} {cv cv' : V} (hc : ClV T c cv) (hc' : ClV T c' cv') : CallR X (.builtin "isinstance") (fun xs H Q => ∃ v p, xs = [v, .ref p] ∧ H p = some (.tup [cv, cv']) ∧ rdUn T E (vIsi [c, c']) v H Q) := by
  intro pins s σ H xs us Q I r h
  obtain ⟨v, p, rfl, hp, ρ, lh, d, hr, rd, post⟩ := h
  obtain ⟨u1, u2, rfl, r1, r2⟩ := vals2 r
  cases r2
  obtain ⟨cu, h1, h2, h3⟩ := hc
  obtain ⟨cu', h1', h2', h3'⟩ := hc'
  unfold vIsi at post
  cases e : tyCode d lh with
  | none => rw [e] at post; exact post.elim
  | some t =>
    rw [e] at post
    obtain ⟨tv, P, g1, g2, g3, g4⟩ := kit_d ok hK I hr rd r1 e
    obtain ⟨_, its, rv, o, o1, o2, n, o3⟩ := (show ObjOk X.prog X.w H s.heap p (.tup [cv, cv']) from I.hok p _ hp)
    cases rv with
    | cons ra rb =>
      cases rb with
      | cons rb rc =>
        cases rc
        rename_i w1 w2
        rw [h3 w1 ra, h3' w2 rb] at o3
        have k := kit_any ok g1 (cs := [c, c']) (us := [cu, cu']) (.cons h1 (.cons h1' .nil))
        rw [← hK] at k
        obtain ⟨oc, od, dt, sl⟩ := o
        simp only at o2 o3
        subst o2 o3
        exact PySem.W.kia_tup g2 I.kIn g3 o1 k g4 fun tk => ⟨.bl _, H, I.tok tk, rfl, PostE.ok post Le.refl hr rfl⟩
end
def tMakeKS (C : Addr) (n m : Nat) (sp : Sp) (gV : List V → List V → List V) (E : L2.St → XK) (t tk : TA) : TE := fun σ H Q => t σ H fun vs H1 => tk σ H1 fun zs H2 => vs.length = n ∧ zs.length = m ∧ ∀ x dx, H2 x = none → H2 dx = none → dx ≠ x →
  sp (gV (.ref x :: vs) zs) (upd (upd H2 dx (.own x)) x (.ins C dx [])) (fun v H3 => v = .non ∧ Q (.ref x) H3) (E σ)
section
variable {X : Cx} {CX : CXT} {k n : Nat} {f C : Addr} {fd : FuncData} {ps ks : List Str} {sp : Sp} {E : L2.St → XK} {x : Str} {p pos : Pos} {e : Expr} {es : List Expr} {kws : List Keyword} {t tk : TA} {g : List Value → List Value → List Value} {gV : List V → List V → List V}
theorem made {pins : List (Addr × Obj)} {σ : L2.St} {H : Hp} {s : Shared} {Q : VK} {us ws : List Value} {vs zs : List V} (M : Mk X.K C f) (F : FnOk X.prog X.w X.K X.mg X.base CX k f fd ps sp) (hr : Room (k + 1) X.A) (hb : KBn X.K fd ps (n + 1) ks g gV) (hx : PassesAt CX X σ (E σ))
    (I : Inv X pins σ H s) (r : Vals vs us) (rz : Vals zs ws) (l1 : vs.length = n) (l2 : zs.length = ks.length)
    (h : ∀ x dx, H x = none → H dx = none → dx ≠ x → sp (gV (.ref x :: vs) zs) (upd (upd H dx (.own x)) x (.ins C dx [])) (fun v H2 => v = .non ∧ Q (.ref x) H2) (E σ)) :
    wpAny (model X.prog X.w) X.A (call (.ref C) us (ks.zip ws)) (EP X pins σ Q) X.xe s := by
  let y : Addr := s.heap.objs.size + 1
  have hy : H y = none := I.hok.fresh (Nat.le_succ _)
  have hq := h y s.heap.objs.size hy (I.hok.fresh (Nat.le_refl _)) (Nat.ne_of_lt (Nat.lt_succ_self _))
  have J := Inv.made (C := C) I
  have rr := hb.rel (show Vals (V.ref y :: vs) (Value.ref y :: us) from .cons rfl r) rz
  have ln : (Value.ref y :: us).length = n + 1 := by rw [List.length_cons, ← r.length, l1]
  have run := F.run _ X.stack _ _ ⟨Value.ref y :: us, ks.zip ws⟩ (g (Value.ref y :: us) ws) _ _ (E σ) (hr.make C us (ks.zip ws)) (J.env0.make C us (ks.zip ws)) (hb.to _ (Value.ref y :: us) ws J.kIn ln (rz.length.symm.trans l2)) rr hq
  refine wpAny_call (make_map (f := f) I.kIn M.makes M.init (beq_iff_eq.mp M.fn) (codeAny_mono run fun r s' z => ?_))
  match r, z with
  | .error e, z => exact hx pins _ _ e s' J z
  | .ok (.ret u), z =>
    obtain ⟨v, H', I3, rv, ev, q3⟩ := J.after z
    subst ev
    exact ⟨rv, V.ref y, H', I3, rfl, q3⟩
  | .ok .next, z => exact z.elim
  | .ok .brk, z => exact z.elim
  | .ok .cont, z => exact z.elim
theorem pe_makeKS (M : Mk X.K C f) (F : FnOk X.prog X.w X.K X.mg X.base CX k f fd ps sp) (hr : Room (k + 1) X.A) (hg : Gl X x) (hm : X.mg x = some (.ref C)) (hb : KBn X.K fd ps (n + 1) ks g gV) (hx : ∀ σ, PassesAt CX X σ (E σ)) (ha : PA X (e :: es) t) (hkw : PK X kws tk)
    (hall : (backToKw pos (keywordEach kws X.env)).all (·.1.isSome) = true) (hks : (backToKw pos (keywordEach kws X.env)).filterMap (·.1) = ks) (hdb : (x == ("__debug__" : Str)) = false)
    (he : starEach (e :: es) X.env = (false, eval e X.env) :: starEach es X.env) (hpl : ((backTo pos (starEach (e :: es) X.env)).any (·.1) || (backToKw pos (keywordEach kws X.env)).any (·.1.isNone)) = false) :
    PE X (.Call (.Name x p) (e :: es) kws pos) (tMakeKS C n ks.length sp gV E t tk) := by
  refine ⟨fun pins s σ H Q I q0 => wpAny_Call_Name_kw (ld_glob I hg hm ?_ hdb)⟩
  refine PySem.W.callWith_KW (h₀ := X.base) I.ok.mod.kin M.kp hall (thn (ha.run pos pins s σ H _ I q0) fun us s1 ⟨vs, H1, I1, r, q⟩ => ?_) hpl he
  refine thn (hkw.run pos pins s1 σ H1 _ I1 q) fun ws s2 ⟨zs, H2, I2, rz, l1, l2, q2⟩ => ⟨I2.kIn, ?_⟩
  rw [hks]
  exact made M F hr hb (hx σ) I2 r rz l1 l2 q2
theorem pe_callS0 (F : FnOk X.prog X.w X.K X.mg X.base CX k f fd ps sp) (hr : Room k X.A) (hg : Gl X x) (hm : X.mg x = some (.ref f)) (hk : PySem.W.keepIn X.K (.ref f) = true) (hb : Binds X.K fd ps []) (hx : ∀ σ, PassesAt CX X σ (E σ)) (hdb : (x == ("__debug__" : Str)) = false) :
    PE X (.Call (.Name x p) [] [] pos) (tCallS sp E tNil) := by
  refine ⟨fun pins s σ H Q I q0 => wpAny_Call_Name_kw (ld_glob I hg hm ?_ hdb)⟩
  exact PySem.W.callWith_K0 I.kIn hk (run_fnS (us := []) (vs := []) F hr hb (hx σ) I .nil q0)
end
section
variable {T : Tb} {E : XK} {X : Cx} {ρ : List Addr} {H : Hp} {lh : LH} {σ : L2.St} {Q : VK}
theorem rd_call {W : WX} {n : Nat} {g : Fn} {ms : MA} (h : rdE T W (mCall n g ms) σ H Q) : tCallS (spOf T n g) (atS W) (rdA T W ms) σ H Q := by
  obtain ⟨ρ, sl, lh, sr, post⟩ := h
  refine ⟨ρ, sl, lh, sr, (PostG.bind post).mono fun ds h1 ρ1 H1 le1 hr1 p1 vs rv => ?_⟩
  obtain ⟨hb, p1⟩ := cond_stuck p1
  exact ⟨by rw [← rv.length]; exact Nat.eq_of_beq_eq_true hb, ρ1, h1, ds, hr1, rv, p1⟩
/-- a new instance -/
theorem new_ins {c : Nat} {x : Str} {p dx : Addr} (hr : HR T ρ H lh) (hc : T.cn[c]? = some x) (hp : H p = none) (hd : H dx = none) (ne : dx ≠ p) :
    Le ρ lh H (ρ ++ [p]) (lh.new (.ins c [])) (upd (upd H dx (.own p)) p (.ins (He.ga T.K x) dx [])) ∧ HR T (ρ ++ [p]) (upd (upd H dx (.own p)) p (.ins (He.ga T.K x) dx [])) (lh.new (.ins c [])) := by
  have same : ∀ b, H b ≠ none → upd (upd H dx (.own p)) p (.ins (He.ga T.K x) dx []) b = H b := fun b hb => by
    rw [upd_ne (fun z => hb (by rw [z]; exact hp)), upd_ne (fun z => hb (by rw [z]; exact hd))]
  exact ⟨Le.newObj hr hp same, hr.newObj hp same (by rw [upd_same]; simp) ⟨x, dx, [], hc, upd_same, rfl⟩⟩
theorem newest {p : Addr} (hr : HR T ρ H lh) : (ρ ++ [p])[lh.nx]? = some p := by
  rw [← hr.len, List.getElem?_append_right (Nat.le_refl _)]
  simp
theorem make_go {c : Nat} {x : Str} {g : Fn} {ds : List D} {vs : List V} {n : Nat} {p dx : Addr} {k : Nat} (hc : T.cn[c]? = some x) (hr : HR T ρ H lh) (rv : RelDs T ρ H ds vs) (hn : ds.length + 1 = n)
    (post : PostE T E ρ lh H ((g (.obj lh.nx :: ds) (lh.new (.ins c []))).bind fun r h2 => match r with
      | .non => .ok (.obj lh.nx) h2
      | _ => .stuck) Q) (hp : H p = none) (hd : H dx = none) (ne : dx ≠ p) :
    spOf T n g (.ref p :: vs) (upd (upd H dx (.own p)) p (.ins (He.ga T.K x) dx [])) (fun v H2 => v = .non ∧ Q (.ref p) H2) E := by
  obtain ⟨le, hr2⟩ := new_ins hr hc hp hd ne
  have hnx := newest (p := p) hr
  refine ⟨by rw [List.length_cons, ← rv.length]; exact hn, ρ ++ [p], _, .obj lh.nx :: ds, hr2, ⟨.ref p, vs, rfl, ⟨p, hnx, rfl⟩, rv.mono le.toLe0⟩, ?_⟩
  refine (PostG.bind (PostG.later post le)).mono fun r h2 ρ2 H2 le2 hr3 p2 v rr => ?_
  cases r with
  | non => exact ⟨rr, PostE.ok p2 Le.refl hr3 ⟨p, le2.toLe0.get hnx, rfl⟩⟩
  | _ => exact p2.elim
theorem rd_makeK {W : WX} {c n m l : Nat} {x : Str} {f : List D → List D → List D} {gV : List V → List V → List V} {g : Fn} {ms mk : MA} (hc : T.cn[c]? = some x)
    (hf : ∀ ρ H ds vs zs us (p : V), RelDs T ρ H ds vs → RelDs T ρ H zs us → ∃ ws, gV (p :: vs) us = p :: ws ∧ RelDs T ρ H (f ds zs) ws)
    (h : rdE T W (mMakeK c n m l f g ms mk) σ H Q) : tMakeKS (He.ga T.K x) m l (spOf T (n + 1) g) gV (atS W) (rdA T W ms) (rdA T W mk) σ H Q := by
  obtain ⟨ρ, sl, lh, sr, post⟩ := h
  refine ⟨ρ, sl, lh, sr, (PostG.bind post).mono fun ds h1 ρ1 H1 le1 hr1 p1 vs rv => ?_⟩
  refine ⟨ρ1, sl, h1, sr.mono le1 hr1, (PostG.bind p1).mono fun zs h2 ρ2 H2 le2 hr2 p2 us ru => ?_⟩
  obtain ⟨hb, p2⟩ := cond_stuck p2
  obtain ⟨hb, b3⟩ := band hb
  obtain ⟨b1, b2⟩ := band hb
  refine ⟨by rw [← rv.length]; exact Nat.eq_of_beq_eq_true b1, by rw [← ru.length]; exact Nat.eq_of_beq_eq_true b2, fun p dx hp hd ne => ?_⟩
  obtain ⟨ws, e1, rw⟩ := hf ρ2 H2 ds vs zs us (.ref p) (rv.mono le2.toLe0) ru
  rw [e1]
  exact make_go (k := 0) hc hr2 rw (by rw [Nat.eq_of_beq_eq_true b3]) p2 hp hd ne
end
section
variable {X : Cx} {CX : CXT} {E : L2.St → XK} {m : Str} {pos apos : Pos} {e o : Expr} {es : List Expr} {ta : TE} {t : TA}
def tMethD (X : Cx) (CX : CXT) (m : Str) (E : L2.St → XK) (ta : TE) (t : TA) : TE := fun σ H Q => ta σ H fun x H1 => ∃ a C dx fs f fd ps sp k, x = .ref a ∧ H1 a = some (.ins C dx fs) ∧ fs.lookup m = none ∧ Cls X.K C ∧ Meth X.K C m f ∧
  FnOk X.prog X.w X.K X.mg X.base CX k f fd ps sp ∧ Room k X.A ∧ Binds X.K fd ps [] ∧ t σ H1 fun vs H2 => sp (x :: vs) H2 Q (E σ)
theorem pe_methD {pl : Sem Bool} (he : PE X o ta) (hx : ∀ σ, PassesAt CX X σ (E σ)) (ha : PA X (e :: es) t)
    (hst : starEach (e :: es) X.env = (false, eval e X.env) :: starEach es X.env := by rfl) (hpl : (backTo pos (starEach es X.env)).any (·.1) = false := by rfl)
    (ht : eval (.Call (.Attribute o m apos) (e :: es) [] pos) X.env = (do
      let ov ← eval o X.env
      standAt apos.atName
      let (f, first) ← holding [ov] (getMethod ov m pl)
      callWith pos f first (backTo pos (starEach (e :: es) X.env)) (backToKw pos (keywordEach [] X.env))) := by rfl) :
    PE X (.Call (.Attribute o m apos) (e :: es) [] pos) (tMethD X CX m E ta t) := by
  refine ⟨fun pins s σ H Q I h => ?_⟩
  refine PySem.W.methodCall_KW (pl := pl) (thn (he.run pins s σ H _ I h) fun u s1 ⟨x, H1, I1, rx, a, C, dx, fs, f, fd, ps, sp, k, ex, ea, l, c, hm, F, hr, hb, q⟩ => ?_) ht
  subst ex
  obtain rfl : u = Value.ref a := rx
  refine getmeth_ok I1 ea c hm l ?_
  refine PySem.W.callWith_K (first := [.ref a]) (h₀ := X.base) I.ok.mod.kin hm.kp (thn (ha.run pos pins s1 σ H1 _ I1 q) fun us s2 ⟨vs, H2, I2, r, q2⟩ => ⟨I2.kIn, ?_⟩) hst hpl
  exact run_fnS (us := .ref a :: us) (vs := .ref a :: vs) F hr hb (hx σ) I2 (.cons rfl r) q2
theorem pe_methD0 {pl : Sem Bool} (he : PE X o ta) (hx : ∀ σ, PassesAt CX X σ (E σ))
    (ht : eval (.Call (.Attribute o m apos) [] [] pos) X.env = (do
      let ov ← eval o X.env
      standAt apos.atName
      let (f, first) ← holding [ov] (getMethod ov m pl)
      callWith pos f first (backTo pos (starEach [] X.env)) (backToKw pos (keywordEach [] X.env))) := by rfl) :
    PE X (.Call (.Attribute o m apos) [] [] pos) (tMethD X CX m E ta tNil) := by
  refine ⟨fun pins s σ H Q I h => ?_⟩
  refine PySem.W.methodCall_KW (pl := pl) (thn (he.run pins s σ H _ I h) fun u s1 ⟨x, H1, I1, rx, a, C, dx, fs, f, fd, ps, sp, k, ex, ea, l, c, hm, F, hr, hb, q⟩ => ?_) ht
  subst ex
  obtain rfl : u = Value.ref a := rx
  refine getmeth_ok I1 ea c hm l ?_
  exact PySem.W.callWith_K0 (first := [.ref a]) I1.kIn hm.kp (run_fnS (us := [.ref a]) (vs := [.ref a]) F hr hb (hx σ) I1 (.cons rfl .nil) q)
end
section
variable {T : Tb} {E : XK} {X : Cx} {ρ : List Addr} {H : Hp} {lh : LH} {σ : L2.St} {Q : VK} {CX : CXT}
/-- the method table's facts -/
def MtOk (T : Tb) (X : Cx) (CX : CXT) (m : Str) (mt : MTab) : Prop := ∀ c n g x, mtLook mt c = some (n, g) → T.cn[c]? = some x → ∃ f fd ps k, Meth X.K (He.ga T.K x) m f ∧ FnOk X.prog X.w X.K X.mg X.base CX k f fd ps (spOf T n g) ∧ Room k X.A ∧ Binds X.K fd ps []
theorem FsR.nolook {m : Str} (hm : m ∉ T.fn) : ∀ {fs : List (Nat × D)} {vs : List (Str × V)}, FsR T ρ H fs vs → vs.lookup m = none
  | [], vs, h => by rw [show vs = [] from h]; rfl
  | _ :: _, _, ⟨x, v, r', ev, h1, h2, h3⟩ => by
    subst ev
    have ne : m ≠ x := fun q => hm (by rw [q]; exact List.mem_of_getElem? h1)
    rw [List.lookup_cons, beq_eq_false_iff_ne.mpr ne]
    exact FsR.nolook hm h3
theorem rd_meth {W : WX} (ok : T.Ok) (hK : X.K = T.K) {m : Str} {mt : MTab} {mo : ME} {ms : MA} (hm : m ∉ T.fn) (M : MtOk T X CX m mt) (h : rdE T W (mMeth mt mo ms) σ H Q) : tMethD X CX m (atS W) (rdE T W mo) (rdA T W ms) σ H Q := by
  obtain ⟨ρ, sl, lh, sr, post⟩ := h
  refine ⟨ρ, sl, lh, sr, (PostG.bind post).mono fun o h1 ρ1 H1 le1 hr1 p1 v rv => ?_⟩
  cases e1 : clsAt o h1 with
  | none => rw [e1] at p1; exact p1.elim
  | some c =>
    rw [e1] at p1
    simp only at p1
    cases e2 : mtLook mt c with
    | none => rw [e2] at p1; exact p1.elim
    | some ng =>
      obtain ⟨n, g⟩ := ng
      rw [e2] at p1
      simp only at p1
      obtain ⟨k0, fs, eo, eg⟩ : ∃ k0 fs, o = .obj k0 ∧ h1.get k0 = some (.ins c fs) := by
        unfold clsAt at e1
        cases o with
        | obj k0 =>
          simp only at e1
          cases q : h1.get k0 with
          | none => rw [q] at e1; cases e1
          | some z =>
            rw [q] at e1
            cases z with
            | ins c' fs => cases e1; exact ⟨k0, fs, rfl, q⟩
            | abs _ _ _ => cases e1
            | lst _ _ => cases e1
            | dct _ _ => cases e1
        | _ => cases e1
      subst eo
      obtain ⟨a, ev, _, x, dx, vfs, hc, hH, fr⟩ := obj_of hr1 rv eg
      obtain ⟨f, fd, ps, k, M1, M2, M3, M4⟩ := M c n g x e2 hc
      refine ⟨a, _, dx, vfs, f, fd, ps, _, k, ev, hH, fr.nolook hm, by rw [hK]; exact (ok.cls x (List.mem_of_getElem? hc)).cls, M1, M2, M3, M4, ?_⟩
      refine ⟨ρ1, sl, h1, sr.mono le1 hr1, (PostG.bind p1).mono fun ds h2 ρ2 H2 le2 hr2 p2 vs rvs => ?_⟩
      obtain ⟨hb, p2⟩ := cond_stuck p2
      exact ⟨by rw [List.length_cons, ← rvs.length]; exact Nat.eq_of_beq_eq_true hb, ρ2, h2, .obj k0 :: ds, hr2, ⟨v, vs, rfl, rv.mono le2.toLe0, rvs⟩, p2⟩
theorem rd_bm {W : WX} (hK : X.K = T.K) {f : D → List D → LH → Res D} {mo : ME} {ms : MA} (h : rdE T W (mBm f mo ms) σ H Q) : tBM X.K "list" (rdMt T E f) (rdE T W mo) (rdA T W ms) σ H Q := by
  obtain ⟨ρ, sl, lh, sr, post⟩ := h
  refine ⟨ρ, sl, lh, sr, (PostG.bind post).mono fun o h1 ρ1 H1 le1 hr1 p1 v rv => ?_⟩
  cases e1 : lstAt o h1 with
  | none => rw [e1] at p1; exact p1.elim
  | some xs =>
    rw [e1] at p1
    simp only at p1
    obtain ⟨p, vs, ev, rvs, sq⟩ := lst_ok hr1 rv e1
    subst ev
    rw [← hK] at sq
    refine ⟨.inl ⟨rfl, vs, sq⟩, ρ1, sl, h1, sr.mono le1 hr1, (PostG.bind p1).mono fun ds h2 ρ2 H2 le2 hr2 p2 us rus => ?_⟩
    exact ⟨ρ2, h2, o, ds, hr2, rv.mono le2.toLe0, rus, noErr_post p2⟩
theorem rd_fn {W : WX} {f : Fn} {ms : MA} (h : rdE T W (mFn f ms) σ H Q) : tCB (rdFn T E f) (rdA T W ms) σ H Q := by
  obtain ⟨ρ, sl, lh, sr, post⟩ := h
  exact ⟨ρ, sl, lh, sr, (PostG.bind post).mono fun ds h1 ρ1 H1 le1 hr1 p1 vs rv => ⟨ρ1, h1, ds, hr1, rv, noErr_post p1⟩⟩
end
end TL
namespace TL
open PySem PySem.Spec PyProof.Rows L2
section
variable (T : Tb) (W : WX)
def rdS (m : MS) : TS := fun Dd σ H => ∃ ρ sl lh, SR T ρ H sl lh σ ∧ PostS T W ρ lh H (m sl lh) Dd
end
section
variable {T : Tb} {W : WX} {E : XK} {X : Cx} {σ : L2.St} {H : Hp} {Dd : Ends}
theorem rd_skip (h : rdS T W sSkip Dd σ H) : tNext Dd σ H := by
  obtain ⟨ρ, sl, lh, sr, post⟩ := h
  exact post ρ H σ Le.refl sr
theorem rd_seq {a b : MS} (h : rdS T W (sSeq a b) Dd σ H) : tSeq (rdS T W a) (rdS T W b) Dd σ H := by
  obtain ⟨ρ, sl, lh, sr, post⟩ := h
  refine ⟨ρ, sl, lh, sr, PostS.on (Dd := Dd) (r := a sl lh) (n := b) (b := fun sl h => .bk sl h) (c := fun sl h => .ct sl h) ?_ ?_ ?_ ?_ post⟩
  · exact fun sl1 h1 ρ1 H1 σ1 s1 p => ⟨ρ1, sl1, h1, s1, p⟩
  · exact fun sl1 h1 ρ1 H1 σ1 s1 p => p ρ1 H1 σ1 Le.refl s1
  · exact fun sl1 h1 ρ1 H1 σ1 s1 p => p ρ1 H1 σ1 Le.refl s1
  · exact fun _ _ z => z
theorem rd_expr {m : ME} (h : rdS T W (sExpr m) Dd σ H) : tDrop (rdE T W m) Dd σ H := by
  obtain ⟨ρ, sl, lh, sr, post⟩ := h
  exact ⟨ρ, sl, lh, sr, (PostS.bind sr post).mono fun d h1 ρ1 H1 le1 hr1 p1 v rv => p1 ρ1 H1 σ Le.refl (sr.mono le1 hr1)⟩
theorem rd_ret {m : ME} (h : rdS T W (sRet m) Dd σ H) : tRet (rdE T W m) Dd σ H := by
  obtain ⟨ρ, sl, lh, sr, post⟩ := h
  exact ⟨ρ, sl, lh, sr, (PostS.bind sr post).mono fun d h1 ρ1 H1 le1 hr1 p1 v rv => p1 ρ1 H1 v Le.refl hr1 rv⟩
theorem rd_retN (h : rdS T W sRetN Dd σ H) : tRetN Dd σ H := by
  obtain ⟨ρ, sl, lh, sr, post⟩ := h
  exact post ρ H .non Le.refl sr.hr rfl
theorem rd_ifS {t : MT} {a b : MS} (h : rdS T W (sIf t a b) Dd σ H) : tIfS (rdT T W t) (rdS T W a) (rdS T W b) Dd σ H := by
  obtain ⟨ρ, sl, lh, sr, post⟩ := h
  refine ⟨ρ, sl, lh, sr, (PostS.bind sr post).mono fun k h1 ρ1 H1 le1 hr1 p1 => ?_⟩
  cases k with
  | true => exact ⟨ρ1, sl, h1, sr.mono le1 hr1, p1⟩
  | false => exact ⟨ρ1, sl, h1, sr.mono le1 hr1, p1⟩
theorem rd_while {t : MT} {b : MS} {n : Nat} (h : rdS T W (sWhile t b n) Dd σ H) : tWhile (rdT T W t) (rdS T W b) Dd σ H := by
  refine ⟨fun m σ H => rdS T W (sWhile t b m) Dd σ H, ⟨n, h⟩, ?_⟩
  intro m σ H h
  obtain ⟨ρ, sl, lh, sr, post⟩ := h
  cases m with
  | zero => exact post.elim
  | succ m =>
    refine ⟨ρ, sl, lh, sr, (PostS.bind sr post).mono fun k h1 ρ1 H1 le1 hr1 p1 => ?_⟩
    cases k with
    | false => exact p1 ρ1 H1 σ Le.refl (sr.mono le1 hr1)
    | true =>
      refine ⟨fun σ' H' => rdS T W (sWhile t b m) Dd σ' H', fun σ' H' q => ⟨m, Nat.lt_succ_self _, q⟩, ρ1, sl, h1, sr.mono le1 hr1, ?_⟩
      refine PostS.on (Dd := Dd) (r := b sl h1) (n := sWhile t b m) (b := fun sl2 h2 => .nx sl2 h2) (c := sWhile t b m) ?_ ?_ ?_ ?_ p1
      · exact fun sl1 h1 ρ1 H1 σ1 s1 p => ⟨ρ1, sl1, h1, s1, p⟩
      · exact fun sl1 h1 ρ1 H1 σ1 s1 p => p ρ1 H1 σ1 Le.refl s1
      · exact fun sl1 h1 ρ1 H1 σ1 s1 p => ⟨ρ1, sl1, h1, s1, p⟩
      · exact fun _ _ z => z
end
section
variable (T : Tb)
def rdG (g : MG) : TG := fun v σ H Q => ∃ ρ sl lh d, SR T ρ H sl lh σ ∧ RelD T ρ H d v ∧ PostG T E0 ρ lh H (g d sl lh) fun sl' lh' ρ' H' => ∀ σ', SR T ρ' H' sl' lh' σ' → Q σ' H'
def rdGs (g : MGs) : TGs := fun vs σ H Q => ∃ ρ sl lh ds, SR T ρ H sl lh σ ∧ RelDs T ρ H ds vs ∧ PostG T E0 ρ lh H (g ds sl lh) fun sl' lh' ρ' H' => ∀ σ', SR T ρ' H' sl' lh' σ' → Q σ' H'
end
section
variable {T : Tb} {W : WX} {E : XK} {X : Cx} {ρ : List Addr} {lh : LH} {σ : L2.St} {H : Hp} {v : V} {Q : L2.St → Hp → Prop}
theorem pgImp {tg : Expr} {g g' : TG} (h : PG X tg g) (k : ∀ v σ H Q, g' v σ H Q → g v σ H Q) : PG X tg g' := ⟨fun pins s σ H v u Q I r q => h.run pins s σ H v u Q I r (k v σ H Q q)⟩
theorem pgsImp {tg : List Expr} {g g' : TGs} (h : PGs X tg g) (k : ∀ v σ H Q, g' v σ H Q → g v σ H Q) : PGs X tg g' := ⟨fun pins s σ H v u Q I r q => h.run pins s σ H v u Q I r (k v σ H Q q)⟩
theorem rd_gN {i : Nat} (h : rdG T (gN i) v σ H Q) : gName i v σ H Q := by
  obtain ⟨ρ, sl, lh, d, sr, rd, post⟩ := h
  exact post ρ H Le.refl sr.hr _ (sr.set i rd)
theorem rd_gsNil {vs : List V} (h : rdGs T gsNil vs σ H Q) : gNil vs σ H Q := by
  obtain ⟨ρ, sl, lh, ds, sr, rd, post⟩ := h
  cases ds with
  | nil => exact ⟨rd, post ρ H Le.refl sr.hr σ sr⟩
  | cons d ds => exact post.elim
theorem rd_gsCons {g : MG} {gs : MGs} {vs : List V} (h : rdGs T (gsCons g gs) vs σ H Q) : gCons (rdG T g) (rdGs T gs) vs σ H Q := by
  obtain ⟨ρ, sl, lh, ds, sr, rd, post⟩ := h
  cases ds with
  | nil => exact post.elim
  | cons d ds =>
    obtain ⟨w, r, ev, h1, h2⟩ := rd
    have post : PostG T E0 ρ lh H ((g d sl lh).bind fun sl1 h1 => gs ds sl1 h1) _ := post
    refine ⟨w, r, ev, ρ, sl, lh, d, sr, h1, (PostG.bind post).mono fun sl1 l1 ρ1 H1 le1 hr1 p1 σ1 sr1 => ?_⟩
    exact ⟨ρ1, sl1, l1, ds, sr1, h2.mono le1.toLe0, p1⟩
theorem rd_gTup {n : Nat} {gs : MGs} (hK : X.K = T.K) (h : rdG T (gTupM n gs) v σ H Q) : gTup X.K n (rdGs T gs) v σ H Q := by
  obtain ⟨ρ, sl, lh, d, sr, rd, post⟩ := h
  cases d with
  | tup ds =>
    obtain ⟨hb, post⟩ := cond_stuck post
    obtain ⟨a, vs, ev, sq, rv⟩ := rd
    exact ⟨a, vs, ev, by rw [hK]; exact sq, by rw [← rv.length]; exact Nat.eq_of_beq_eq_true hb, ρ, sl, lh, ds, sr, rv, post⟩
  | _ => exact post.elim
/-- o.f = v as a target -/
def gAtt (K : PySem.W.Frag) (to : TE) (f : Str) : TG := fun y σ H Q => to σ H fun x H1 => ∃ a C dx fs, x = .ref a ∧ H1 a = some (.ins C dx fs) ∧ Cls K C ∧ NoAttr K C f ∧ fs.length < 1000 ∧ Q σ (upd H1 a (.ins C dx (putF f y fs)))
theorem pg_attr {o : Expr} {to : TE} {f : Str} {pos : Pos} (ho : PE X o to) : PG X (.Attribute o f pos) (gAtt X.K to f) := by
  refine ⟨fun pins s σ H v u Q I r h => ?_⟩
  show wpAny _ _ (do
    let ov ← holding [u] (eval o X.env)
    standAt pos.atName
    holding [u, ov] (setAttr ov f u)
    release [u, ov] []) _ _ _
  refine wpAny_bind (wpAny_holding (thn (ho.run pins s σ H _ I h) fun ov s1 ⟨x, H1, I1, r1, a, C, dx, fs, ex, ea, c, n, l, q⟩ => ?_))
  subst ex
  obtain rfl : ov = Value.ref a := r1
  refine wpAny_bind (wpAny_standAt (wpAny_bind (wpAny_holding ?_)))
  exact setattr_ok I1 ea c n l r fun s3 I3 => wpAny_release ⟨σ, _, I3, q⟩
theorem fset_ok (ok : T.Ok) {f : Nat} {x : Str} {o d : D} {ov y : V} {Q : Hp → Prop} (hx : T.fn[f]? = some x) (hr : HR T ρ H lh) (ro : RelD T ρ H o ov) (ry : RelD T ρ H d y) (post : PostG T E ρ lh H (vFset f o d lh) fun _ _ _ H' => Q H') :
    ∃ a C dx fs, ov = .ref a ∧ H a = some (.ins C dx fs) ∧ Cls T.K C ∧ NoAttr T.K C x ∧ fs.length < 1000 ∧ Q (upd H a (.ins C dx (putF x y fs))) := by
  cases o with
  | obj n =>
    have post : PostG T E ρ lh H (match lh.get n with
      | some (.ins c fs) => bif Nat.ble fs.length 900 then .ok () (lh.put n (.ins c (fput fs f d))) else .stuck
      | _ => .stuck) fun _ _ _ H' => Q H' := post
    split at post
    · rename_i c fs e
      obtain ⟨hb, post⟩ := cond_stuck post
      have hb := Nat.le_of_ble_eq_true hb
      obtain ⟨a, ev, hn, z, dx, vfs, hc, hH, fr⟩ := obj_of hr ro e
      have mz := List.mem_of_getElem? hc
      have le0 : Le0 ρ H ρ (upd H a (.ins (He.ga T.K z) dx (putF x y vfs))) := Le0.upd_mut (List.mem_of_getElem? hn) hH (fun _ q => by cases q) fun _ _ q => by cases q
      have same : ∀ b, b ≠ a → upd H a (.ins (He.ga T.K z) dx (putF x y vfs)) b = H b := fun b hb => upd_ne hb
      refine ⟨a, _, dx, vfs, ev, hH, (ok.cls z mz).cls, ok.noat z mz x (List.mem_of_getElem? hx), by rw [← fr.length]; omega, ?_⟩
      exact post ρ _ (Le.write hr hn le0 same) (hr.write hn le0 same (by rw [upd_same]; simp) ⟨z, dx, _, hc, upd_same, (fput_ok ok.fnd fr hx ry).mono le0⟩)
    · exact post.elim
  | _ => exact post.elim
theorem rd_gAttr (ok : T.Ok) (hK : X.K = T.K) {f : Nat} {x : Str} {mo : ME} (hx : T.fn[f]? = some x) (h : rdG T (gAttr f mo) v σ H Q) : gAtt X.K (rdE T W mo) x v σ H Q := by
  obtain ⟨ρ, sl, lh, d, sr, rd, post⟩ := h
  refine ⟨ρ, sl, lh, sr, (noErr_post (PostG.bind post)).mono fun o h1 ρ1 H1 le1 hr1 p1 ov ro => ?_⟩
  rw [hK]
  refine fset_ok (E := E0) ok hx hr1 ro (rd.mono le1.toLe0) ((PostG.bind p1).mono fun _ h2 ρ2 H2 le2 hr2 p2 => ?_)
  exact p2 ρ2 H2 Le.refl hr2 σ ((sr.mono le1 hr1).mono le2 hr2)
/-- o[i] = v -/
def rdSet (T : Tb) (E : XK) : TSet := fun o i v H Q => ∃ ρ lh a b d, HR T ρ H lh ∧ RelD T ρ H a o ∧ RelD T ρ H b i ∧ RelD T ρ H d v ∧ PostG T E ρ lh H (vSet a b d lh) fun _ _ _ H' => Q H'
theorem ps_set_ok (hK : X.K = T.K) (hw : X.w = T.w) (hu : X.A.units + 65 < cLine) : PSet X (rdSet T E) := by
  intro pins s σ H o i v ov iv u Q I ro ri rv h
  obtain ⟨ρ, lh, a, b, d, hr, ra, rb, rd, post⟩ := h
  cases a with
  | obj n =>
    have post : PostG T E ρ lh H (match lh.get n with
      | some (.lst false xs) => match b with
        | .int k => match ixN xs.length k with
          | some j => .ok () (lh.put n (.lst false (xs.set j d)))
          | none => .stuck
        | _ => .stuck
      | some (.dct _ _) => vPut (.obj n) b d lh
      | _ => .stuck) fun _ _ _ H' => Q H' := post
    split at post
    · rename_i xs e
      cases b with
      | int k =>
        simp only at post
        cases e2 : ixN xs.length k with
        | none => rw [e2] at post; exact post.elim
        | some j =>
          rw [e2] at post
          obtain ⟨p, ev, hn, vs, rvs, hH⟩ := obj_of hr ra e
          rw [rvs.length] at e2
          obtain ⟨g1, g2, g3, g4⟩ := ixN_seq e2
          have le0 : Le0 ρ H ρ (upd H p (.lst (vs.set j v))) := le0_lst (List.mem_of_getElem? hn) hH
          have same : ∀ b, b ≠ p → upd H p (.lst (vs.set j v)) b = H b := fun b hb => upd_ne hb
          have q : Q (upd H p (.lst (vs.set j v))) := post ρ _ (Le.write hr hn le0 same) (hr.write hn le0 same (by rw [upd_same]; simp) ⟨vs.set j v, (rvs.set j rd).mono le0, upd_same⟩)
          exact set_list pins s σ H o i v ov iv u Q I ro ri rv ⟨p, vs, k, j, ev, rb, hH, e2, q⟩
      | _ => exact post.elim
    · exact put_ok hK hw hu I hr ra rb rd ro ri rv post
    · exact post.elim
  | _ => exact post.elim
theorem rd_gSub {mo mi : ME} (h : rdG T (gSubM mo mi) v σ H Q) : gSub (rdE T W mo) (rdE T W mi) (rdSet T E0) v σ H Q := by
  obtain ⟨ρ, sl, lh, d, sr, rd, post⟩ := h
  refine ⟨ρ, sl, lh, sr, (noErr_post (PostG.bind post)).mono fun o h1 ρ1 H1 le1 hr1 p1 ov ro => ?_⟩
  refine ⟨ρ1, sl, h1, sr.mono le1 hr1, (noErr_post (PostG.bind p1)).mono fun i h2 ρ2 H2 le2 hr2 p2 iv ri => ?_⟩
  refine ⟨ρ2, h2, o, i, d, hr2, ro.mono le2.toLe0, ri, rd.mono (le1.trans le2).toLe0, (PostG.bind p2).mono fun _ h3 ρ3 H3 le3 hr3 p3 => ?_⟩
  exact p3 ρ3 H3 Le.refl hr3 σ (((sr.mono le1 hr1).mono le2 hr2).mono le3 hr3)
theorem rd_asg {m : ME} {g : MG} {Dd : Ends} (h : rdS T W (sAsg m g) Dd σ H) : tAsg (rdE T W m) (rdG T g) Dd σ H := by
  obtain ⟨ρ, sl, lh, sr, post⟩ := h
  refine ⟨ρ, sl, lh, sr, (PostS.bind sr post).mono fun d h1 ρ1 H1 le1 hr1 p1 v rv => ?_⟩
  exact ⟨ρ1, sl, h1, d, sr.mono le1 hr1, rv, (noErr_post (PostS.bind (sr.mono le1 hr1) p1)).mono fun sl2 h2 ρ2 H2 le2 hr2 p2 σ' sr2 => p2 ρ2 H2 σ' Le.refl sr2⟩
theorem rd_par {i j : Nat} {ms : MA} {Dd : Ends} (h : rdS T W (sPar i j ms) Dd σ H) : tPar i j (rdA T W ms) Dd σ H := by
  obtain ⟨ρ, sl, lh, sr, post⟩ := h
  refine ⟨ρ, sl, lh, sr, (PostS.bind sr post).mono fun ds h1 ρ1 H1 le1 hr1 p1 vs rv => ?_⟩
  match ds, rv, p1 with
  | [d, e], rv, p1 =>
    obtain ⟨v, w, ev, r1, r2⟩ := rel2 rfl rv
    exact ⟨v, w, ev, p1 ρ1 H1 _ Le.refl (((sr.mono le1 hr1).set i r1).set j r2)⟩
  | [], _, p1 => exact p1.elim
  | [_], _, p1 => exact p1.elim
  | _ :: _ :: _ :: _, _, p1 => exact p1.elim
theorem rd_aug {i : Nat} {m : ME} {Dd : Ends} (h : rdS T W (sAug i m) Dd σ H) : tAug i (rdE T W m) (ipI fun i j => i + j) Dd σ H := by
  obtain ⟨ρ, sl, lh, sr, post⟩ := h
  unfold sAug at post
  cases e : sl[i]? with
  | none => rw [e] at post; exact post.elim
  | some o =>
    rw [e] at post
    cases o with
    | none => exact post.elim
    | some d =>
      obtain ⟨w, hw, rw⟩ := sr.sl i d e
      refine ⟨w, hw, ρ, sl, lh, sr, (PostS.bind sr post).mono fun z h1 ρ1 H1 le1 hr1 p1 u ru => ?_⟩
      cases d with
      | int a =>
        cases z with
        | int b => exact ⟨a, b, rw, ru, p1 ρ1 H1 _ Le.refl ((sr.mono le1 hr1).set i (d := .int (a + b)) rfl)⟩
        | _ => exact p1.elim
      | _ => exact p1.elim
end
end TL
namespace TL
open PySem PySem.Spec PyProof.Rows L2
structure SrcOk (T : Tb) (J : It) (ds : List D) (chk : Chk) (ρ0 : List Addr) (l0 : LH) (H0 : Hp) : Prop where
  go : ∀ i d ρ lh H, Le ρ0 l0 H0 ρ lh H → HR T ρ H lh → chkOk chk lh = true → ds[i]? = some d → J.go i H ∧ ∀ x H', J.yld i H x H' → Le ρ lh H ρ lh H' ∧ HR T ρ H' lh ∧ RelD T ρ H' d x
  stop : ∀ ρ lh H, Le ρ0 l0 H0 ρ lh H → HR T ρ H lh → chkOk chk lh = true → J.stop ds.length H
def rdI (T : Tb) (W : WX) (m : MI) : TI := fun σ H R => ∃ ρ sl lh, SR T ρ H sl lh σ ∧ PostG T (atS W σ) ρ lh H (m sl lh) fun p lh' ρ' H' => ∀ J, SrcOk T J p.1 p.2 ρ' lh' H' → R J H'
section
variable {T : Tb} {W : WX} {E : XK} {X : Cx} {ρ ρ0 : List Addr} {lh l0 : LH} {H H0 : Hp} {σ : L2.St}
theorem kept {n : Nat} {a : Addr} {chk : Chk} (le : Le ρ0 l0 H0 ρ lh H) (hn : ρ0[n]? = some a) (hc : chkOk ((n, l0.ver n) :: chk) lh = true) : H a = H0 a :=
  le.same n a hn (Nat.eq_of_beq_eq_true (band hc).1).symm
theorem sqL_kept {K : PySem.W.Frag} {a : Addr} {xs : List V} (e : H a = H0 a) (h : SqL K H0 a xs) : SqL K H a xs := by
  rcases h with h | h
  · refine .inl ?_
    rcases h with h | ⟨o, h⟩
    · exact .inl (e.trans h)
    · exact .inr ⟨o, e.trans h⟩
  · exact .inr h
/-- a sequence's iterator -/
def ItL (K : PySem.W.Frag) (a : Addr) (vs : List V) : It := ⟨fun i H => ∃ x, SqL K H a vs ∧ vs[i]? = some x, fun i H x H' => H' = H ∧ vs[i]? = some x, fun i H => SqL K H a vs ∧ vs.length ≤ i⟩
def ItT (K : PySem.W.Frag) (a : Addr) (vs : List V) : It := ⟨fun i H => ∃ x, SqT K H a vs ∧ vs[i]? = some x, fun i H x H' => H' = H ∧ vs[i]? = some x, fun i H => SqT K H a vs ∧ vs.length ≤ i⟩
theorem src_list (hK : X.K = T.K) {n : Nat} {a : Addr} {ds : List D} {vs : List V} (hn : ρ0[n]? = some a) (rv : RelDs T ρ0 H0 ds vs) (sq : SqL X.K H0 a vs) (inj : ∀ H, SqL X.K H a vs → ∀ xs, SqL X.K H a xs → True) :
    SrcOk T (ItL X.K a vs) ds [(n, l0.ver n)] ρ0 l0 H0 where
  go := fun i d ρ lh H le hr hc e => by
    obtain ⟨x, hx, rx⟩ := rv.get e
    refine ⟨⟨x, sqL_kept (kept le hn hc) sq, hx⟩, fun y H' ⟨e1, e2⟩ => ?_⟩
    subst e1
    rw [hx] at e2
    cases e2
    exact ⟨Le.refl, hr, rx.mono le.toLe0⟩
  stop := fun ρ lh H le hr hc => ⟨sqL_kept (kept le hn hc) sq, by rw [rv.length]; exact Nat.le_refl _⟩
theorem src_tuple (hK : X.K = T.K) {a : Addr} {ds : List D} {vs : List V} (rv : RelDs T ρ0 H0 ds vs) (sq : SqT X.K H0 a vs) :
    SrcOk T (ItT X.K a vs) ds [] ρ0 l0 H0 where
  go := fun i d ρ lh H le hr hc e => by
    obtain ⟨x, hx, rx⟩ := rv.get e
    refine ⟨⟨x, le.toLe0.sqT sq, hx⟩, fun y H' ⟨e1, e2⟩ => ?_⟩
    subst e1
    rw [hx] at e2
    cases e2
    exact ⟨Le.refl, hr, rx.mono le.toLe0⟩
  stop := fun ρ lh H le hr hc => ⟨le.toLe0.sqT sq, by rw [rv.length]; exact Nat.le_refl _⟩
theorem src_kls {a : Addr} {ds : List D} {vs : List V} (rv : RelDs T ρ0 H0 ds vs) (sq : SqF X.K ρ0 H0 a vs) : SrcOk T (ItL X.K a vs) ds [] ρ0 l0 H0 where
  go := fun i d ρ lh H le hr hc e => by
    obtain ⟨x, hx, rx⟩ := rv.get e
    refine ⟨⟨x, (le.toLe0.sqF sq).sqL, hx⟩, fun y H' ⟨e1, e2⟩ => ?_⟩
    subst e1
    rw [hx] at e2
    cases e2
    exact ⟨Le.refl, hr, rx.mono le.toLe0⟩
  stop := fun ρ lh H le hr hc => ⟨(le.toLe0.sqF sq).sqL, by rw [rv.length]; exact Nat.le_refl _⟩
/-- a Turn for a weaker iterator -/
theorem _root_.L2.Turn.weak {P : Program} {w : World} {K : PySem.W.Frag} {tg : Expr} {J J' : It} {fp : List Addr} {it : Addr} {tn : Nat → Heap → Prop} (t : Turn P w K tg J fp it tn)
    (g : ∀ i H, J'.go i H → J.go i H) (y : ∀ i H x H', J'.go i H → J.yld i H x H' → J'.yld i H x H') (s : ∀ i H, J'.stop i H → J.stop i H) : Turn P w K tg J' fp it tn where
  mem := t.mem
  obj := t.obj
  keep := t.keep
  item := fun X h1 h2 h3 h4 i pins s' σ H E I hf st hg => thn (t.item X h1 h2 h3 h4 i pins s' σ H E I hf st (g i H hg)) fun r s1 ⟨u, e, q⟩ => ⟨u, e, thn q fun _ s2 ⟨x, H', a, b, c, d, f⟩ => ⟨x, H', a, b, y i H x H' hg c, d, f⟩⟩
  done := fun X h1 h2 h3 h4 i pins s' σ H E I hf st hg => t.done X h1 h2 h3 h4 i pins s' σ H E I hf st (s i H hg)
  self := t.self
/-- the keys of a dict -/
def Itdk (d : Addr) (es : Array DictEntry) (ep : Nat) : It :=
  ⟨fun i H => H d = some (dictO d es ep) ∧ i < es.size, fun i H x H' => H' = H ∧ ∃ e, es[i]? = some e ∧ RelV x e.key, fun i H => H d = some (dictO d es ep) ∧ es.size ≤ i⟩
theorem turn_dk {P : Program} {w : World} {K : PySem.W.Frag} {tg : Expr} {d : Addr} {es : Array DictEntry} {ep : Nat} (it : Addr) (hv : ∀ e ∈ es.toList, ∃ v, RelV v e.key) : Turn P w K tg (Itdk d es ep) [it] it (fun i h => h.IsKeyIter it d i es.size ep) where
  mem := by simp
  obj := fun i h st b hb => by
    have e : b = it := by simpa using hb
    subst e
    obtain ⟨oi, e, c, dd⟩ := st
    exact ⟨oi, e, fun v z => by rw [dd] at z; cases z⟩
  keep := fun i h h' st k => st.at fun oi e => k it (by simp) oi e
  item := by
    intro X hP hw hK hc i pins s σ H E I hf st hg
    subst hP hw hK
    obtain ⟨hd, hi⟩ := hg
    obtain ⟨f0, f1, f2, f3, f4, f5⟩ := hf it (by simp)
    refine wpAny_pyNext_keys_item_raw st (Inv.rawD I hd) hi fun h' st' sb => ?_
    have I1 : Inv X pins σ H { s with heap := h' } := I.turned (t' := s.toks) (fun b ob hb e => (sb.2 b hb).trans e) f0 f1 f3 f4 f5
    obtain ⟨oi, e, c, dd⟩ := id st'
    obtain ⟨v, rv⟩ := hv es[i] (by simp)
    exact ⟨_, rfl, go_of (s := { s with heap := h' }) e c dd (by decide) ⟨v, H, I1, rv, ⟨rfl, es[i], by simp [hi], rv⟩, st', fun b hb => (hf b hb).1⟩⟩
  done := by
    intro X hP hw hK hc i pins s σ H E I hf st hg
    subst hP hw hK
    obtain ⟨hd, hi⟩ := hg
    obtain ⟨f0, f1, f2, f3, f4, f5⟩ := hf it (by simp)
    exact wpAny_pyNext_keys_end_raw (I.ok.hd hc) st (Inv.rawD I hd) hi fun h' eb => ⟨rfl, I.turned (t' := s.toks) (fun b ob hb e => eb b ob hb e) f0 f1 f3 f4 f5⟩
  self := fun A i s Q E st h => wpAny_pyIter_keyiter st h
theorem ents_get {kd : Bool} : ∀ {kvs : List Ent} {es : List DictEntry} {i : Nat} {x : Ent}, EntsR T ρ H kd kvs es → kvs[i]? = some x → ∃ e, es[i]? = some e ∧ EntR T ρ H kd x e
  | [], _, _, _, _, e => by simp at e
  | y :: r, es, 0, x, ⟨e, es', q, h1, h2⟩, hx => by
    simp at hx; subst hx
    exact ⟨e, by rw [q]; rfl, h1⟩
  | y :: r, es, i + 1, x, ⟨e, es', q, h1, h2⟩, hx => by
    obtain ⟨e', h3, h4⟩ := ents_get (i := i) h2 (by simpa using hx)
    exact ⟨e', by rw [q]; simpa using h3, h4⟩
theorem ents_mem {kd : Bool} : ∀ {kvs : List Ent} {es : List DictEntry} {e : DictEntry}, EntsR T ρ H kd kvs es → e ∈ es → ∃ x, EntR T ρ H kd x e
  | [], es, e, h, he => by rw [show es = [] from h] at he; cases he
  | y :: r, es, e, ⟨e', es', q, h1, h2⟩, he => by
    rw [q] at he
    rcases List.mem_cons.mp he with rfl | he
    · exact ⟨y, h1⟩
    · exact ents_mem h2 he
theorem relV_inj {x y : V} {u : Value} (a : RelV x u) (b : RelV y u) : x = y := RelV.inj a b
theorem src_dk {n : Nat} {a : Addr} {kd : Bool} {kvs : List Ent} {es : Array DictEntry} {ep : Nat} (hn : ρ0[n]? = some a) (he : EntsR T ρ0 H0 kd kvs es.toList) (hH : H0 a = some (dictO a es ep)) :
    SrcOk T (Itdk a es ep) (kvs.map (·.2.1)) [(n, l0.ver n)] ρ0 l0 H0 where
  go := fun i d ρ lh H le hr hc e => by
    rw [List.getElem?_map] at e
    obtain ⟨x, e1, e2⟩ := map_some e
    subst e2
    obtain ⟨en, h1, kv, vv, r1, r2, _⟩ := ents_get he e1
    have h1' : es[i]? = some en := by simpa using h1
    have hi : i < es.size := (Array.getElem?_eq_some_iff.mp h1').1
    refine ⟨⟨(kept le hn hc).trans hH, hi⟩, fun y H' ⟨e3, en', e4, r4⟩ => ?_⟩
    subst e3
    rw [h1'] at e4
    cases e4
    rw [relV_inj r4 r1]
    exact ⟨Le.refl, hr, r2.mono le.toLe0⟩
  stop := fun ρ lh H le hr hc => ⟨(kept le hn hc).trans hH, by rw [List.length_map, he.length]; simp⟩
theorem pi_any {tg e : Expr} {m : ME} (hK : X.K = T.K) (he : PE X e (rdE T W m)) : PI X tg e (rdI T W (iAny m)) := by
  refine ⟨fun pins s σ H R I h => ?_⟩
  obtain ⟨ρ, sl, lh, sr, post⟩ := h
  refine thn (he.run pins s σ H _ I ⟨ρ, sl, lh, sr, (PostG.bind post).mono fun d h1 ρ1 H1 le1 hr1 p1 v rv => (show ∃ (ρ1 : List Addr) (h1 : LH) (d : D), HR T ρ1 H1 h1 ∧ RelD T ρ1 H1 d v ∧ PostG T (atS W σ) ρ1 h1 H1 (match srcOf d h1 with
    | some p => .ok p h1
    | none => .stuck) (fun p lh' ρ' H' => ∀ J, SrcOk T J p.1 p.2 ρ' lh' H' → R J H') from ⟨ρ1, h1, d, hr1, rv, p1⟩)⟩) fun u s1 ⟨v, H1, I1, ru, ρ1, h1, d, hr1, rv, p1⟩ => ?_
  cases e1 : srcOf d h1 with
  | none => rw [e1] at p1; exact p1.elim
  | some p =>
    rw [e1] at p1
    have q := p1 ρ1 H1 Le.refl hr1
    unfold srcOf at e1
    cases d with
    | tup ds =>
      cases e1
      obtain ⟨a, vs, ev, sq, rvs⟩ := rv
      subst ev
      cases ru
      rw [← hK] at sq
      obtain ⟨its, rr, pl, hz⟩ := I1.tuple sq
      refine wpAny_pyIter_tuple (show s1.heap.IsTuple a its.toArray from pl) ?_
      refine ⟨s1.heap.objs.size, [s1.heap.objs.size], _, _, H1, rfl, I1.kept (t' := s1.toks) fun b o e => Heap.get?_push_of_some _ e,
        (turn_tuple a _).weak (J' := ItT X.K a vs) (fun i H ⟨x, h1, h2⟩ => ⟨vs, x, h1, h2⟩) (fun i H x H' ⟨_, h0, _⟩ ⟨h1, h2⟩ => ⟨h1, h2 vs h0⟩) (fun i H ⟨h1, h2⟩ => ⟨vs, h1, h2⟩), ⟨_, Heap.get?_push_size _ rfl, rfl, rfl⟩, fun b hb => ?_, q _ (src_tuple hK rvs sq)⟩
      have e : b = s1.heap.objs.size := by simpa using hb
      subst e
      exact I1.fpOk (Nat.le_refl _) (I1.hok.fresh (Nat.le_refl _))
    | kls ds =>
      cases e1
      obtain ⟨a, vs, ev, sqf, rvs⟩ := rv
      subst ev
      cases ru
      rw [← hK] at sqf
      obtain ⟨its, rr, pl, hz⟩ := I1.list sqf.sqL
      refine wpAny_pyIter_list pl.isList ?_
      refine ⟨s1.heap.objs.size, [s1.heap.objs.size], _, _, H1, rfl, I1.kept (t' := s1.toks) fun b o e => Heap.get?_push_of_some _ e,
        (turn_list a _).weak (J' := ItL X.K a vs) (fun i H ⟨x, h1, h2⟩ => ⟨vs, x, h1, h2⟩) (fun i H x H' ⟨_, h0, _⟩ ⟨h1, h2⟩ => ⟨h1, h2 vs h0⟩) (fun i H ⟨h1, h2⟩ => ⟨vs, h1, h2⟩), ⟨_, Heap.get?_push_size _ rfl, rfl, rfl⟩, fun b hb => ?_, q _ (src_kls rvs sqf)⟩
      have e : b = s1.heap.objs.size := by simpa using hb
      subst e
      exact I1.fpOk (Nat.le_refl _) (I1.hok.fresh (Nat.le_refl _))
    | obj n =>
      simp only at e1
      cases e2 : h1.get n with
      | none => rw [e2] at e1; cases e1
      | some o =>
        rw [e2] at e1
        cases o with
        | lst lk xs =>
          cases e1
          obtain ⟨a, ev, hn, ho⟩ := obj_of hr1 rv e2
          obtain ⟨vs, rvs, sq⟩ := ho.sqL
          subst ev
          cases ru
          rw [← hK] at sq
          obtain ⟨its, rr, pl, hz⟩ := I1.list sq
          refine wpAny_pyIter_list pl.isList ?_
          refine ⟨s1.heap.objs.size, [s1.heap.objs.size], _, _, H1, rfl, I1.kept (t' := s1.toks) fun b o e => Heap.get?_push_of_some _ e,
            (turn_list a _).weak (J' := ItL X.K a vs) (fun i H ⟨x, h1, h2⟩ => ⟨vs, x, h1, h2⟩) (fun i H x H' ⟨_, h0, _⟩ ⟨h1, h2⟩ => ⟨h1, h2 vs h0⟩) (fun i H ⟨h1, h2⟩ => ⟨vs, h1, h2⟩), ⟨_, Heap.get?_push_size _ rfl, rfl, rfl⟩, fun b hb => ?_, q _ (src_list hK hn rvs sq fun _ _ _ _ => trivial)⟩
          have e : b = s1.heap.objs.size := by simpa using hb
          subst e
          exact I1.fpOk (Nat.le_refl _) (I1.hok.fresh (Nat.le_refl _))
        | dct kd kvs =>
          cases e1
          obtain ⟨a, ev, hn, hsm, hlen, nd, es, ep, hes, hH⟩ := obj_of hr1 rv e2
          subst ev
          cases ru
          refine wpAny_pyIter_dict_raw hsm (Inv.rawD I1 hH) (pi_one (tk := s1.toks) I1 _ (turn_dk _ fun e he => ?_) ⟨_, Heap.get?_push_size _ rfl, rfl, rfl⟩ (q _ (src_dk hn hes hH)))
          obtain ⟨x, kv, _, r1, _⟩ := ents_mem hes he
          exact ⟨kv, r1⟩
        | ins c fs => cases e1
        | abs _ _ _ => cases e1
    | _ => cases e1
theorem src_range {lo : Int} {n : Nat} : SrcOk T (Itr lo n) ((List.range n).map fun (k : Nat) => D.int (lo + (k : Int))) [] ρ0 l0 H0 where
  go := fun i d ρ lh H le hr hc e => by
    rw [List.getElem?_map] at e
    obtain ⟨x, e1, e2⟩ := map_some e
    obtain ⟨h1, h2⟩ := List.getElem?_eq_some_iff.mp e1
    rw [List.length_range] at h1
    rw [List.getElem_range] at h2
    subst e2 h2
    refine ⟨h1, fun y H' ⟨e3, e4⟩ => ?_⟩
    subst e3 e4
    exact ⟨Le.refl, hr, rfl⟩
  stop := fun ρ lh H le hr hc => by
    rw [List.length_map, List.length_range]
    exact Nat.le_refl _
theorem rd_range1 {ms : MA} {R : It → Hp → Prop} (h : rdI T W (iRange1 ms) σ H R) : iRng1 (rdA T W ms) σ H R := by
  obtain ⟨ρ, sl, lh, sr, post⟩ := h
  refine ⟨ρ, sl, lh, sr, (PostG.bind post).mono fun ds h1 ρ1 H1 le1 hr1 p1 vs rv => ?_⟩
  have key : ∃ j, ds = [.int j] ∧ PostG T (atS W σ) ρ1 h1 H1 (bif decide (j ≤ 100000) && decide (-100000 ≤ j) then .ok ((List.range j.toNat).map fun (k : Nat) => D.int (0 + (k : Int)), []) h1 else .stuck) (fun p lh' ρ' H' => ∀ J, SrcOk T J p.1 p.2 ρ' lh' H' → R J H') := by
    split at p1
    · exact ⟨_, rfl, p1⟩
    · exact p1.elim
  obtain ⟨j, e, p1⟩ := key
  subst e
  obtain ⟨hb, p1⟩ := cond_stuck p1
  obtain ⟨b1, b2⟩ := band hb
  have b1 : j ≤ 100000 := of_decide_eq_true b1
  have b2 : -100000 ≤ j := of_decide_eq_true b2
  obtain ⟨v, ev, r⟩ := rel1 rfl rv
  exact ⟨j, by rw [ev, show v = _ from r], by omega, by omega, p1 ρ1 H1 Le.refl hr1 _ src_range⟩
end
end TL
namespace TL
open PySem PySem.Spec PyProof.Rows L2
def SqK (K : PySem.W.Frag) (k : Bool) (H : Hp) (a : Addr) (xs : List V) : Prop := match k with
  | true => SqT K H a xs
  | false => SqL K H a xs
def SeqK (k : Bool) (h : Heap) (a : Addr) (its : Array Value) : Prop := match k with
  | true => h.IsTuple a its
  | false => h.IsList a its
def ItrK (k : Bool) (h : Heap) (it a : Addr) (i : Nat) : Prop := match k with
  | true => h.IsTupleIter it a i
  | false => h.IsListIter it a i
def objK (k : Bool) (a : Addr) : Obj := match k with
  | true => { cls := .type "tuple_iterator", data := .fields #[.ref a, .int 0 0] }
  | false => { cls := .type "list_iterator", data := .fields #[.ref a, .int 0 0] }
theorem draws_k {prog : Program} {w : World} {A : Around} (hh : A.handled = none) (k : Bool) (it l : Addr) (hne : l ≠ it) (items : Array Value) :
    Draws prog w A it [it, l] items.size (fun i v => items[i]? = some v) (fun i h => ItrK k h it l i ∧ SeqK k h l items) := by
  cases k with
  | true => exact Draws.tuple hh it l hne items
  | false => exact Draws.list hh it l hne items
theorem begins_k (k : Bool) (l : Addr) (items : Array Value) : Begins (.ref l) (objK k l) fun h => SeqK k h l items := by
  cases k with
  | true => exact begins_tuple l items
  | false => exact begins_list l items
theorem itr_at {k : Bool} {h h' : Heap} {it a : Addr} {i : Nat} (x : ItrK k h it a i) (e : ∀ o, h.get? it = some o → h'.get? it = some o) : ItrK k h' it a i := by
  cases k with
  | true => exact Heap.IsTupleIter.at x e
  | false => exact Heap.IsListIter.at x e
theorem itr_obj {k : Bool} {h : Heap} {it a : Addr} {i : Nat} (x : ItrK k h it a i) : ∃ o, h.get? it = some o ∧ ∀ v, o.data ≠ .cell v := by
  cases k with
  | true => obtain ⟨o, e, _, d⟩ := x; exact ⟨o, e, fun v q => by rw [d] at q; cases q⟩
  | false => obtain ⟨o, e, _, d⟩ := x; exact ⟨o, e, fun v q => by rw [d] at q; cases q⟩
theorem itr_new {k : Bool} {h : Heap} {it a : Addr} (e : h.get? it = some (objK k a)) : ItrK k h it a 0 := by
  cases k with
  | true => exact ⟨_, e, rfl, rfl⟩
  | false => exact ⟨_, e, rfl, rfl⟩
theorem inv_k {X : Cx} {pins : List (Addr × Obj)} {σ : L2.St} {H : Hp} {s : Shared} {k : Bool} {a : Addr} {xs : List V} (I : Inv X pins σ H s) (q : SqK X.K k H a xs) : ∃ its : List Value, Vals xs its ∧ SeqK k s.heap a its.toArray ∧ a < s.heap.objs.size := by
  cases k with
  | true =>
    obtain ⟨its, rv, p, _⟩ := I.tuple q
    obtain ⟨o, e, _⟩ := id p
    exact ⟨its, rv, p, Heap.lt_size e⟩
  | false =>
    obtain ⟨its, rv, p, _⟩ := I.list q
    exact ⟨its, rv, p.isList, p.lt⟩
def Itz2 (K : PySem.W.Frag) (k1 k2 : Bool) (a b : Addr) (xs ys : List V) : It :=
  ⟨fun i H => SqK K k1 H a xs ∧ SqK K k2 H b ys ∧ i < xs.length ∧ i < ys.length,
    fun i H v H' => ∃ T x y, v = .ref T ∧ H T = none ∧ H' = upd H T (.tup [x, y]) ∧ xs[i]? = some x ∧ ys[i]? = some y,
    fun i H => SqK K k1 H a xs ∧ SqK K k2 H b ys ∧ i ≤ xs.length ∧ i ≤ ys.length ∧ (i = xs.length ∨ i = ys.length)⟩
theorem turn_zip2 {P : Program} {w : World} {K : PySem.W.Frag} {elts : List Expr} {kk : Nat} {tpos : Pos} {k1 k2 : Bool} {a b z TI TO i1 i2 : Addr} {xs ys : List V} (S : ZipSep2 z TI TO i1 i2 [i1, a] [i2, b]) (na : a ≠ i1) (nb : b ≠ i2) :
    Turn P w K (.Tuple elts kk tpos) (Itz2 K k1 k2 a b xs ys) [z, TI, TO, i1, i2] z (fun i h => IsZip h z TI TO .none ∧ IsTupOf2 h TI (.ref i1) (.ref i2) ∧ (∃ x y, IsTupOf2 h TO x y) ∧ ItrK k1 h i1 a i ∧ ItrK k2 h i2 b i) where
  mem := by simp
  obj := fun i h st c hc => by
    obtain ⟨hz, hTI, ⟨x, y, hTO⟩, h1, h2⟩ := st
    have e' : c = z ∨ c = TI ∨ c = TO ∨ c = i1 ∨ c = i2 := by simpa using hc
    rcases e' with q | q | q | q | q
    · rw [q]; exact ⟨_, hz, fun v q => nomatch q⟩
    · rw [q]; exact ⟨_, hTI, fun v q => nomatch q⟩
    · rw [q]; exact ⟨_, hTO, fun v q => nomatch q⟩
    · rw [q]; exact itr_obj h1
    · rw [q]; exact itr_obj h2
  keep := fun i h h' st k => by
    obtain ⟨hz, hTI, ⟨x, y, hTO⟩, h1, h2⟩ := st
    exact ⟨k z (by simp) _ hz, k TI (by simp) _ hTI, ⟨x, y, k TO (by simp) _ hTO⟩, itr_at h1 fun o q => k i1 (by simp) o q, itr_at h2 fun o q => k i2 (by simp) o q⟩
  item := by
    intro X hP hw hK hc i pins s σ H E I hf st hg
    subst hP hw hK
    obtain ⟨hz, hTI, ⟨x0, y0, hTO⟩, h1, h2⟩ := st
    obtain ⟨hqx, hqy, hlx, hly⟩ := hg
    obtain ⟨its, rv, p, _⟩ := inv_k I hqx
    obtain ⟨its2, rv2, p2, _⟩ := inv_k I hqy
    have hzl : z < s.heap.objs.size := Heap.lt_size hz
    have hh : X.A.in1.handled = none := I.ok.hd hc
    refine wpAny_pyNext_zipD2_item S (draws_k hh k1 i1 a na its.toArray) (draws_k hh k2 i2 b nb its2.toArray) hz hTI hTO ⟨h1, p⟩ ⟨h2, p2⟩ (by simp; rw [← rv.length]; exact hlx) (by simp; rw [← rv2.length]; exact hly) fun u u2 h' tk hu hu2 z' TO' ⟨h1', _⟩ ⟨h2', _⟩ hT hsz hk => ?_
    refine ⟨_, rfl, wpAny_letOwnedTupleGo_zip (s := { s with heap := h', toks := tk }) z' fun h'' z'' sb => ?_⟩
    have ex : xs[i]? = some xs[i] := List.getElem?_eq_getElem hlx
    have ey : ys[i]? = some ys[i] := List.getElem?_eq_getElem hly
    obtain ⟨u', hu', ru⟩ := rv.get ex
    obtain ⟨u2', hu2', ru2⟩ := rv2.get ey
    have eu : u' = u := by simpa [hu'] using hu
    have eu2 : u2' = u2 := by simpa [hu2'] using hu2
    subst eu eu2
    have hT2 : h''.get? s.heap.objs.size = some { cls := .type "tuple", data := .seq #[u', u2'] } := (sb.2 _ (Nat.ne_of_gt hzl)).trans hT
    have new : ObjOk X.prog X.w (upd H s.heap.objs.size (.tup [xs[i], ys[i]])) h'' s.heap.objs.size (.tup [xs[i], ys[i]]) :=
      ⟨by show 2 ≤ sizeLine; decide, [u', u2'], .cons ru (.cons ru2 .nil), ⟨_, hT2, rfl, _, rfl⟩⟩
    have I1 : Inv X pins σ (upd H s.heap.objs.size (.tup [xs[i], ys[i]])) { s with heap := h'', toks := tk } :=
      I.turnedNew (ch := [z, TI, TO, i1, i2]) (fun c o hb q => (sb.2 c (fun q' => hb (by simp [q']))).trans (hk c o (fun q' => hb (by simp [q'])) (fun q' => hb (by simp [q'])) (fun q' => hb (by simp [q'])) (fun q' => hb (by simp [q'])) q)) hf (Nat.le_refl _) new
    refine ⟨.ref s.heap.objs.size, _, I1, rfl, ⟨_, xs[i], ys[i], rfl, I.hok.fresh (Nat.le_refl _), rfl, ex, ey⟩, ⟨z'', ?_, ⟨u', u2', ?_⟩, ?_, ?_⟩, fun c hcm => ?_⟩
    · exact (sb.2 _ S.TIz).trans (hk _ _ S.TIz S.TITO S.TIi1 S.TIi2 hTI)
    · exact (sb.2 _ S.TOz).trans TO'
    · exact itr_at h1' fun o q => (sb.2 _ (Ne.symm S.zi1)).trans q
    · exact itr_at h2' fun o q => (sb.2 _ (Ne.symm S.zi2)).trans q
    · have hlt : c < s.heap.objs.size := by
        have e' : c = z ∨ c = TI ∨ c = TO ∨ c = i1 ∨ c = i2 := by simpa using hcm
        rcases e' with q | q | q | q | q
        · rw [q]; exact hzl
        · rw [q]; exact Heap.lt_size hTI
        · rw [q]; exact Heap.lt_size hTO
        · rw [q]; obtain ⟨_, e1, _⟩ := itr_obj h1; exact Heap.lt_size e1
        · rw [q]; obtain ⟨_, e2, _⟩ := itr_obj h2; exact Heap.lt_size e2
      rw [upd_ne (Nat.ne_of_lt hlt)]
      exact (hf c hcm).1
  done := by
    intro X hP hw hK hc i pins s σ H E I hf st hg
    subst hP hw hK
    obtain ⟨hz, hTI, ⟨x0, y0, hTO⟩, h1, h2⟩ := st
    obtain ⟨hqx, hqy, hlx, hly, hend⟩ := hg
    obtain ⟨its, rv, p, _⟩ := inv_k I hqx
    obtain ⟨its2, rv2, p2, _⟩ := inv_k I hqy
    have l1 : xs.length = its.length := rv.length
    have l2 : ys.length = its2.length := rv2.length
    have hh : X.A.in1.handled = none := I.ok.hd hc
    exact wpAny_pyNext_zipD2_end S (draws_k hh k1 i1 a na its.toArray) (draws_k hh k2 i2 b nb its2.toArray) hz hTI hTO ⟨h1, p⟩ ⟨h2, p2⟩ (by simp; omega) (by simp; omega) (by simp; omega) fun h' tk hk => ⟨rfl, I.turnedL (ch := [z, TI, TO, i1, i2]) (fun c o hb q =>
      hk c o (fun q' => hb (by simp [q'])) (fun q' => hb (by simp [q'])) (fun q' => hb (by simp [q'])) (fun q' => hb (by simp [q'])) q) hf⟩
  self := fun A i s Q E st h => wpAny_pyIter_zip st.1 h
section
variable {T : Tb} {W : WX} {E : XK} {X : Cx} {ρ ρ0 : List Addr} {lh l0 : LH} {H H0 : Hp} {σ : L2.St}
theorem chkOk_append : ∀ {c1 c2 : Chk}, chkOk (c1 ++ c2) lh = true → chkOk c1 lh = true ∧ chkOk c2 lh = true
  | [], _, h => ⟨rfl, h⟩
  | c :: r, c2, h => by
    obtain ⟨h1, h2⟩ := band (show (Nat.beq (lh.ver c.1) c.2 && chkOk (r ++ c2) lh) = true from h)
    obtain ⟨h3, h4⟩ := chkOk_append h2
    refine ⟨?_, h4⟩
    show (Nat.beq (lh.ver c.1) c.2 && chkOk r lh) = true
    rw [h1, h3]; rfl
/-- a sequence's facts at the start, and later while it is not written -/
theorem seq_ok (hK : X.K = T.K) {d : D} {v : V} {p : List D × Chk} (hr : HR T ρ0 H0 l0) (rd : RelD T ρ0 H0 d v) (e : seqOf d l0 = some p) :
    ∃ k a vs, v = .ref a ∧ RelDs T ρ0 H0 p.1 vs ∧ SqK X.K k H0 a vs ∧ ∀ ρ lh H, Le ρ0 l0 H0 ρ lh H → chkOk p.2 lh = true → SqK X.K k H a vs := by
  unfold seqOf at e
  cases d with
  | tup ds =>
    cases e
    obtain ⟨a, vs, ev, sq, rv⟩ := rd
    rw [← hK] at sq
    exact ⟨true, a, vs, ev, rv, sq, fun ρ lh H le _ => le.toLe0.sqT sq⟩
  | kls ds =>
    cases e
    obtain ⟨a, vs, ev, sq, rv⟩ := rd
    rw [← hK] at sq
    exact ⟨false, a, vs, ev, rv, sq.sqL, fun ρ lh H le _ => (le.toLe0.sqF sq).sqL⟩
  | obj n =>
    simp only at e
    cases e2 : l0.get n with
    | none => rw [e2] at e; cases e
    | some o =>
      rw [e2] at e
      cases o with
      | lst lk xs =>
        cases e
        obtain ⟨a, ev, hn, ho⟩ := obj_of hr rd e2
        obtain ⟨vs, rvs, sq⟩ := ho.sqL
        rw [← hK] at sq
        exact ⟨false, a, vs, ev, rvs, sq, fun ρ lh H le hc => sqL_kept (kept le hn hc) sq⟩
      | dct _ _ => cases e
      | ins _ _ => cases e
      | abs _ _ _ => cases e
  | _ => cases e
theorem zip_len : ∀ (xs ys : List D), (zipD xs ys).length = min xs.length ys.length
  | [], ys => by simp [zipD]
  | _ :: _, [] => by simp [zipD]
  | x :: xs, y :: ys => by
    rw [zipD, List.length_cons, zip_len xs ys, List.length_cons, List.length_cons]
    omega
theorem zip_get : ∀ {xs ys : List D} {i : Nat} {d : D}, (zipD xs ys)[i]? = some d → ∃ x y, xs[i]? = some x ∧ ys[i]? = some y ∧ d = .tup [x, y]
  | [], _, _, _, e => by simp [zipD] at e
  | _ :: _, [], _, _, e => by simp [zipD] at e
  | x :: xs, y :: ys, 0, d, e => ⟨x, y, rfl, rfl, by simpa [zipD] using e.symm⟩
  | x :: xs, y :: ys, i + 1, d, e => by
    obtain ⟨a, b, h1, h2, h3⟩ := zip_get (xs := xs) (ys := ys) (i := i) (by simpa [zipD] using e)
    exact ⟨a, b, by simpa using h1, by simpa using h2, h3⟩
theorem rel_pair {p : Addr} {x y : D} {v u : V} (hr : HR T ρ H lh) (hp : H p = none) (r1 : RelD T ρ H x v) (r2 : RelD T ρ H y u) :
    Le ρ lh H ρ lh (upd H p (.tup [v, u])) ∧ HR T ρ (upd H p (.tup [v, u])) lh ∧ RelD T ρ (upd H p (.tup [v, u])) (.tup [x, y]) (.ref p) :=
  ⟨Le.newTup hr hp, hr.newTup hp, p, [v, u], rfl, SqT.of upd_same, v, [u], rfl, r1.mono (Le.newTup hr hp).toLe0, u, [], rfl, r2.mono (Le.newTup hr hp).toLe0, rfl⟩
theorem src_zip {k1 k2 : Bool} {a b : Addr} {xs ys : List D} {vs us : List V} {c1 c2 : Chk} (r1 : RelDs T ρ0 H0 xs vs) (r2 : RelDs T ρ0 H0 ys us)
    (q1 : ∀ ρ lh H, Le ρ0 l0 H0 ρ lh H → chkOk c1 lh = true → SqK X.K k1 H a vs) (q2 : ∀ ρ lh H, Le ρ0 l0 H0 ρ lh H → chkOk c2 lh = true → SqK X.K k2 H b us) :
    SrcOk T (Itz2 X.K k1 k2 a b vs us) (zipD xs ys) (c1 ++ c2) ρ0 l0 H0 where
  go := fun i d ρ lh H le hr hc e => by
    obtain ⟨hc1, hc2⟩ := chkOk_append hc
    obtain ⟨x, y, e1, e2, ed⟩ := zip_get e
    obtain ⟨v, hv, rv⟩ := r1.get e1
    obtain ⟨u, hu, ru⟩ := r2.get e2
    refine ⟨⟨q1 ρ lh H le hc1, q2 ρ lh H le hc2, (List.getElem?_eq_some_iff.mp hv).1, (List.getElem?_eq_some_iff.mp hu).1⟩, fun w H' ⟨p, v', u', ew, hp, eH, ev', eu'⟩ => ?_⟩
    rw [hv] at ev'
    rw [hu] at eu'
    cases ev'
    cases eu'
    subst ed ew eH
    exact rel_pair hr hp (rv.mono le.toLe0) (ru.mono le.toLe0)
  stop := fun ρ lh H le hr hc => by
    obtain ⟨hc1, hc2⟩ := chkOk_append hc
    have l1 := r1.length
    have l2 := r2.length
    rw [zip_len, l1, l2]
    exact ⟨q1 ρ lh H le hc1, q2 ρ lh H le hc2, by omega, by omega, by omega⟩
theorem pi_zipM {e e2 : Expr} {ms : MA} {p pos tpos : Pos} {elts : List Expr} {kk : Nat} (hK : X.K = T.K) (hg : Gl X "zip") (hm : X.mg "zip" = none) (ha : PA X [e, e2] (rdA T W ms))
    (hs : starEach [e, e2] X.env = (false, eval e X.env) :: starEach [e2] X.env := by rfl) (hpl : (backTo pos (starEach [e2] X.env)).any (·.1) = false := by rfl) :
    PI X (.Tuple elts kk tpos) (.Call (.Name "zip" p) [e, e2] [] pos) (rdI T W (iZipM ms)) := by
  refine ⟨fun pins s σ H R I h => ?_⟩
  obtain ⟨ρ, sl, lh, sr, post⟩ := h
  refine Call_ (ld_blt I hg hm PyProof.Rows.boot_zip (PyProof.Rows.callWith_type1 (thn (ha.run pos pins s σ H _ I ⟨ρ, sl, lh, sr, (PostG.bind post).mono fun ds h1 ρ1 H1 le1 hr1 p1 vs rv => (show ∃ (ρ1 : List Addr) (h1 : LH) (ds : List D), HR T ρ1 H1 h1 ∧ RelDs T ρ1 H1 ds vs ∧ PostG T (atS W σ) ρ1 h1 H1 (match ds with
    | [a, b] => match seqOf a h1, seqOf b h1 with
      | some p, some q => .ok (zipD p.1 q.1, p.2 ++ q.2) h1
      | _, _ => .stuck
    | _ => .stuck) (fun p lh' ρ' H' => ∀ J, SrcOk T J p.1 p.2 ρ' lh' H' → R J H') from ⟨ρ1, h1, ds, hr1, rv, p1⟩)⟩) fun us s1 ⟨vs, H1, I1, r1, ρ1, h1, ds, hr1, rv, p1⟩ => ?_) hs hpl))
  have key : ∃ a b P1 P2, ds = [a, b] ∧ seqOf a h1 = some P1 ∧ seqOf b h1 = some P2 ∧ PostG T (atS W σ) ρ1 h1 H1 (.ok (zipD P1.1 P2.1, P1.2 ++ P2.2) h1) (fun p lh' ρ' H' => ∀ J, SrcOk T J p.1 p.2 ρ' lh' H' → R J H') := by
    split at p1
    · rename_i a b
      split at p1
      · rename_i P1 P2 z1 z2
        exact ⟨a, b, P1, P2, rfl, z1, z2, p1⟩
      · exact p1.elim
    · exact p1.elim
  obtain ⟨a, b, P1, P2, ed, z1, z2, p1⟩ := key
  obtain ⟨va, vb, ev, ra, rb⟩ := rel2 ed rv
  subst ev
  obtain ⟨k1, aa, xs, ea, rxs, sq1, st1⟩ := seq_ok hK hr1 ra z1
  obtain ⟨k2, bb, ys, eb, rys, sq2, st2⟩ := seq_ok hK hr1 rb z2
  subst ea eb
  cases r1 with
  | cons r rr =>
    cases rr with
    | cons r' rr =>
      cases rr
      cases r
      cases r'
      obtain ⟨its, rv1, pp1, la⟩ := inv_k I1 sq1
      obtain ⟨its2, rv2, pp2, lb⟩ := inv_k I1 sq2
      refine zip_begins2 (begins_k k1 aa its.toArray) (begins_k k2 bb its2.toArray) pp1 pp2 fun h' hz hTI hTO g1 g2 hsz hk => wpAny_pyIter_zip hz ?_
      have I2 : Inv X pins σ H1 { s1 with heap := h' } := I1.kept (t' := s1.toks) hk
      have S := zip_sep2 (N := s1.heap.objs.size) (fp1 := [aa]) (fp2 := [bb]) (fun c hc => by rw [show c = aa by simpa using hc]; exact la) (fun c hc => by rw [show c = bb by simpa using hc]; exact lb)
      refine ⟨s1.heap.objs.size + 4, [s1.heap.objs.size + 4, s1.heap.objs.size + 2, s1.heap.objs.size + 3, s1.heap.objs.size, s1.heap.objs.size + 1], _, _, H1, rfl, I2, turn_zip2 (k1 := k1) (k2 := k2) (xs := xs) (ys := ys) S (Nat.ne_of_lt la) (Nat.ne_of_lt (Nat.lt_succ_of_lt lb)), ⟨hz, hTI, ⟨_, _, hTO⟩, itr_new g1, itr_new g2⟩, fun c hcm => ?_, p1 ρ1 H1 Le.refl hr1 _ (src_zip rxs rys st1 st2)⟩
      have e' : c = s1.heap.objs.size + 4 ∨ c = s1.heap.objs.size + 2 ∨ c = s1.heap.objs.size + 3 ∨ c = s1.heap.objs.size ∨ c = s1.heap.objs.size + 1 := by simpa using hcm
      have hle : s1.heap.objs.size ≤ c := by
        rcases e' with z | z | z | z | z
        · rw [z]; exact Nat.le_add_right _ _
        · rw [z]; exact Nat.le_add_right _ _
        · rw [z]; exact Nat.le_add_right _ _
        · rw [z]; exact Nat.le_refl _
        · rw [z]; exact Nat.le_add_right _ _
      exact I1.fpOk hle (I1.hok.fresh hle)
end
end TL
namespace TL
open PySem PySem.Spec PyProof.Rows L2
def Itdi (d : Addr) (es : Array DictEntry) (ep : Nat) : It :=
  ⟨fun i H => H d = some (dictO d es ep) ∧ i < es.size, fun i H x H' => ∃ p k v e, x = .ref p ∧ H p = none ∧ H' = upd H p (.tup [k, v]) ∧ es[i]? = some e ∧ RelV k e.key ∧ RelV v e.val, fun i H => H d = some (dictO d es ep) ∧ es.size ≤ i⟩
theorem turn_di {P : Program} {w : World} {K : PySem.W.Frag} {elts : List Expr} {kk : Nat} {tpos : Pos} {d : Addr} {es : Array DictEntry} {ep : Nat} (it : Addr) (hv : ∀ e ∈ es.toList, ∃ k v, RelV k e.key ∧ RelV v e.val) :
    Turn P w K (.Tuple elts kk tpos) (Itdi d es ep) [it] it (fun i h => ∃ ok ov, IsItemIter h it d i es.size ep ok ov) where
  mem := by simp
  obj := fun i h st b hb => by
    have e : b = it := by simpa using hb
    subst e
    obtain ⟨ok, ov, e⟩ := st
    exact ⟨_, e, fun v z => nomatch z⟩
  keep := fun i h h' st k => let ⟨ok, ov, e⟩ := st; ⟨ok, ov, k it (by simp) _ e⟩
  item := by
    intro X hP hw hK hc i pins s σ H E I hf st hg
    subst hP hw hK
    obtain ⟨hd, hi⟩ := hg
    obtain ⟨ok, ov, he⟩ := st
    have hlt : it < s.heap.objs.size := Heap.lt_size he
    obtain ⟨k, v, rk, rv⟩ := hv es[i] (by simp)
    refine wpAny_pyNext_items_item_raw he (Inv.rawD I hd) hi fun h' ho hT hz hk => ?_
    refine ⟨_, rfl, wpAny_letOwnedTupleGo_items (s := { s with heap := h' }) ho fun h'' he' sb => ?_⟩
    have hT2 : h''.get? s.heap.objs.size = some { cls := .type "tuple", data := .seq #[es[i].key, es[i].val] } := (sb.2 _ (Nat.ne_of_gt hlt)).trans hT
    have new : ObjOk X.prog X.w (upd H s.heap.objs.size (.tup [k, v])) h'' s.heap.objs.size (.tup [k, v]) :=
      ⟨by show 2 ≤ sizeLine; decide, [es[i].key, es[i].val], .cons rk (.cons rv .nil), ⟨_, hT2, rfl, _, rfl⟩⟩
    have I1 : Inv X pins σ (upd H s.heap.objs.size (.tup [k, v])) { s with heap := h'' } :=
      I.turnedNew (t' := s.toks) (ch := [it]) (fun b ob hb e => (sb.2 b (by simpa using hb)).trans (hk b ob (by simpa using hb) e)) hf (Nat.le_refl _) new
    refine ⟨.ref s.heap.objs.size, _, I1, rfl, ⟨_, k, v, es[i], rfl, I.hok.fresh (Nat.le_refl _), rfl, by simp [hi], rk, rv⟩, ⟨es[i].key, es[i].val, he'⟩, fun b hb => ?_⟩
    have e : b = it := by simpa using hb
    rw [e, upd_ne (Nat.ne_of_lt hlt)]
    exact (hf it (by simp)).1
  done := by
    intro X hP hw hK hc i pins s σ H E I hf st hg
    subst hP hw hK
    obtain ⟨hd, hi⟩ := hg
    obtain ⟨f0, f1, f2, f3, f4, f5⟩ := hf it (by simp)
    obtain ⟨ok, ov, he⟩ := st
    exact wpAny_pyNext_items_end_raw (I.ok.hd hc) he (Inv.rawD I hd) hi fun h' eb => ⟨rfl, I.turned (t' := s.toks) (fun b ob hb e => eb b ob hb e) f0 f1 f3 f4 f5⟩
  self := fun A i s Q E st h => let ⟨_, _, e⟩ := st; PySem.W.kcp_self e h
section
variable {T : Tb} {W : WX} {E : XK} {X : Cx} {ρ ρ0 : List Addr} {lh l0 : LH} {H H0 : Hp} {σ : L2.St}
theorem src_di {n : Nat} {a : Addr} {kd : Bool} {kvs : List Ent} {es : Array DictEntry} {ep : Nat} (hn : ρ0[n]? = some a) (he : EntsR T ρ0 H0 kd kvs es.toList) (hH : H0 a = some (dictO a es ep)) :
    SrcOk T (Itdi a es ep) (kvs.map fun x => D.tup [x.2.1, x.2.2]) [(n, l0.ver n)] ρ0 l0 H0 where
  go := fun i d ρ lh H le hr hc e => by
    rw [List.getElem?_map] at e
    obtain ⟨x, e1, e2⟩ := map_some e
    subst e2
    obtain ⟨en, h1, kv, vv, r1, r2, r3, r4, _⟩ := ents_get he e1
    have h1' : es[i]? = some en := by simpa using h1
    have hi : i < es.size := (Array.getElem?_eq_some_iff.mp h1').1
    refine ⟨⟨(kept le hn hc).trans hH, hi⟩, fun y H' ⟨p, k, v, en', ey, hp, eH, e4, r5, r6⟩ => ?_⟩
    subst ey eH
    rw [h1'] at e4
    cases e4
    rw [relV_inj r5 r1, relV_inj r6 r3]
    exact rel_pair hr hp (r2.mono le.toLe0) (r4.mono le.toLe0)
  stop := fun ρ lh H le hr hc => ⟨(kept le hn hc).trans hH, by rw [List.length_map, he.length]; simp⟩
theorem pi_itemsM {e : Expr} {m : ME} {apos cpos tpos : Pos} {elts : List Expr} {kk : Nat} (he : PE X e (rdE T W m)) (hbase : attributeBase e "items" X.env (eval e X.env) = eval e X.env := by rfl) (hline : (apos.endLine == cpos.line) = true := by rfl) :
    PI X (.Tuple elts kk tpos) (.Call (.Attribute e "items" apos) [] [] cpos) (rdI T W (iItemsM m)) := by
  refine ⟨fun pins s σ H R I h => ?_⟩
  obtain ⟨ρ, sl, lh, sr, post⟩ := h
  refine wpAny_Call_method (T := "dict") (id := "dict.items") hbase rfl hline F.plainAttrs_dict F.slot_dict_items F.type_dict_items (thn (he.run pins s σ H _ I ⟨ρ, sl, lh, sr, (PostG.bind post).mono fun d h1 ρ1 H1 le1 hr1 p1 v rv => (show ∃ (ρ1 : List Addr) (h1 : LH) (d : D), HR T ρ1 H1 h1 ∧ RelD T ρ1 H1 d v ∧ PostG T (atS W σ) ρ1 h1 H1 (match d with
    | .obj n => match h1.get n with
      | some (.dct _ kvs) => .ok (kvs.map fun x => D.tup [x.2.1, x.2.2], [(n, h1.ver n)]) h1
      | _ => .stuck
    | _ => .stuck) (fun p lh' ρ' H' => ∀ J, SrcOk T J p.1 p.2 ρ' lh' H' → R J H') from ⟨ρ1, h1, d, hr1, rv, p1⟩)⟩) fun u s1 ⟨v, H1, I1, ru, ρ1, h1, d, hr1, rv, p1⟩ => ?_)
  have key : ∃ n kd kvs, d = .obj n ∧ h1.get n = some (.dct kd kvs) ∧ PostG T (atS W σ) ρ1 h1 H1 (.ok (kvs.map fun x => D.tup [x.2.1, x.2.2], [(n, h1.ver n)]) h1) (fun p lh' ρ' H' => ∀ J, SrcOk T J p.1 p.2 ρ' lh' H' → R J H') := by
    split at p1
    · rename_i n
      split at p1
      · rename_i kd kvs z
        exact ⟨n, kd, kvs, rfl, z, p1⟩
      · exact p1.elim
    · exact p1.elim
  obtain ⟨n, kd, kvs, ed, z, p2⟩ := key
  clear p1
  subst ed
  obtain ⟨a, ev, hn, hsm, hlen, nd, es, ep, hes, hH⟩ := obj_of hr1 rv z
  subst ev
  cases ru
  have raw := Inv.rawD I1 hH
  obtain ⟨o, ho, hx, _⟩ := id raw
  refine ⟨raw.typeIs, fun b q => by cases q; exact ⟨o, ho, hx.2.1⟩, ?_⟩
  have I2 : Inv X pins σ H1 { s1 with heap := s1.heap.push { cls := .type "dict_items", data := .fields #[.ref a] } } := I1.kept (t' := s1.toks) fun b ob q => Heap.get?_push_of_some _ q
  have fin : wpAny (model X.prog X.w) X.A (pyIter (.ref s1.heap.objs.size)) (PIE X pins σ (.Tuple elts kk tpos) R) X.xe { s1 with heap := s1.heap.push { cls := .type "dict_items", data := .fields #[.ref a] } } := by
    refine wpAny_pyIter_items_raw (d := a) ⟨_, Heap.get?_push_size _ rfl, rfl, rfl⟩ (Inv.rawD I2 hH) (pi_one (tk := s1.toks) I2 _ (turn_di _ fun e he => ?_) ⟨.none, .none, Heap.get?_push_size _ rfl⟩ (p2 ρ1 H1 Le.refl hr1 _ (src_di hn hes hH)))
    obtain ⟨x, kv, vv, r1, _, r2, _⟩ := ents_mem hes he
    exact ⟨kv, vv, r1, r2⟩
  show wpAny _ _ (callWith cpos (.builtin "dict.items") [.ref a] [] []) _ X.xe s1
  exact method_meetsIn F.slot_dict_items F.entry_dict_items rfl (PySem.evalArgs_none ⟨rfl, raw.typeIs, F.args_dict_items_1 _, _, meets_dict_items_raw a hsm, ⟨es, ep, raw⟩, fin⟩)
end
def gsR : List Nat → TGs
  | [] => gNil
  | i :: is => gCons (gName i) (gsR is)
def tgR (K : PySem.W.Frag) : Tg → TG
  | .nm i => gName i
  | .tp is => gTup K is.length (gsR is)
def tgIs : Tg → List Nat
  | .nm i => [i]
  | .tp is => is
theorem wipe_get {σ : L2.St} {j : Nat} : ∀ {vs : List Nat}, (wipe σ vs)[j]? = if j ∈ vs then (if j < σ.length then some none else none) else σ[j]?
  | [] => by simp [wipe]
  | v :: vs => by
    unfold wipe
    have ih := wipe_get (σ := σ) (j := j) (vs := vs)
    by_cases h : v = j
    · subst h
      by_cases hl : v < σ.length
      · rw [List.getElem?_set_self (by rw [wipe_length]; exact hl)]
        simp [hl]
      · rw [List.getElem?_eq_none (by rw [List.length_set, wipe_length]; omega)]
        simp [hl]
    · rw [List.getElem?_set_ne h, ih]
      simp [Ne.symm h]
theorem wipe_set {σ : L2.St} {i : Nat} {x : Option V} {vs : List Nat} (h : i ∈ vs) : wipe (σ.set i x) vs = wipe σ vs := by
  refine List.ext_getElem? fun j => ?_
  rw [wipe_get, wipe_get, List.length_set]
  by_cases hj : j ∈ vs
  · rw [if_pos hj, if_pos hj]
  · rw [if_neg hj, if_neg hj, List.getElem?_set_ne (fun e => hj (by rw [← e]; exact h))]
theorem wipe_wipe {σ : L2.St} {vs : List Nat} : wipe (wipe σ vs) vs = wipe σ vs := by
  refine List.ext_getElem? fun j => ?_
  rw [wipe_get, wipe_get, wipe_length]
  by_cases hj : j ∈ vs
  · rw [if_pos hj, if_pos hj]
  · rw [if_neg hj, if_neg hj]
section
variable {T : Tb} {W : WX} {E : XK} {X : Cx} {ρ ρ0 : List Addr} {lh l0 : LH} {H H0 : Hp} {σ : L2.St}
theorem gsR_ok {Q : L2.St → Hp → Prop} : ∀ {is : List Nat} {ds : List D} {vs : List V} {sl : Sl} {σ : L2.St}, SR T ρ H sl lh σ → RelDs T ρ H ds vs → ds.length = is.length →
    (∀ σ', SR T ρ H (setAll sl is ds) lh σ' → (∀ us : List Nat, (∀ i ∈ is, i ∈ us) → wipe σ' us = wipe σ us) → Q σ' H) → gsR is vs σ H Q
  | [], [], vs, sl, σ, sr, rv, _, q => ⟨rv, q σ sr fun _ _ => rfl⟩
  | i :: is, d :: ds, vs, sl, σ, sr, ⟨v, r, ev, h1, h2⟩, hl, q => by
    refine ⟨v, r, ev, gsR_ok (sr.set i h1) h2 (by simpa using hl) fun σ' sr' hw => q σ' sr' fun us hu => ?_⟩
    rw [hw us fun j hj => hu j (List.mem_cons_of_mem _ hj), wipe_set (hu i List.mem_cons_self)]
  | [], _ :: _, _, _, _, _, _, hl, _ => by simp at hl
  | _ :: _, [], _, _, _, _, _, hl, _ => by simp at hl
theorem tgR_ok (hK : X.K = T.K) {t : Tg} {d : D} {v : V} {sl sl' : Sl} {Q : L2.St → Hp → Prop} (sr : SR T ρ H sl lh σ) (rd : RelD T ρ H d v) (e : tgM t d sl = some sl')
    (q : ∀ σ', SR T ρ H sl' lh σ' → (∀ us : List Nat, (∀ i ∈ tgIs t, i ∈ us) → wipe σ' us = wipe σ us) → Q σ' H) : tgR X.K t v σ H Q := by
  cases t with
  | nm i =>
    cases e
    exact q _ (sr.set i rd) fun us hu => wipe_set (hu i (by simp [tgIs]))
  | tp is =>
    cases d with
    | tup ds =>
      have e : (bif Nat.beq ds.length is.length then some (setAll sl is ds) else none) = some sl' := e
      cases hb : Nat.beq ds.length is.length with
      | false => rw [hb] at e; cases e
      | true =>
        rw [hb] at e
        cases e
        have hl := Nat.eq_of_beq_eq_true hb
        obtain ⟨a, vs, ev, sq, rv⟩ := rd
        exact ⟨a, vs, ev, by rw [hK]; exact sq, by rw [← rv.length]; exact hl, gsR_ok sr rv hl q⟩
    | _ => cases e
theorem condS {b : Bool} {r : SRes} {Dd : Ends} (h : PostS T W ρ lh H (bif b then r else .stuck) Dd) : b = true ∧ PostS T W ρ lh H r Dd := by
  cases b with
  | true => exact ⟨rfl, h⟩
  | false => exact h.elim
theorem drop_get {α : Type} {xs : List α} {i : Nat} {x : α} {r : List α} (e : xs.drop i = x :: r) : xs[i]? = some x ∧ xs.drop (i + 1) = r ∧ i < xs.length := by
  have hl : i < xs.length := by
    by_cases h : i < xs.length
    · exact h
    · rw [List.drop_eq_nil_of_le (by omega)] at e; cases e
  rw [List.drop_eq_getElem_cons hl] at e
  cases e
  exact ⟨List.getElem?_eq_getElem hl, rfl, hl⟩
theorem drop_nil {α : Type} {xs : List α} {i : Nat} (hi : i ≤ xs.length) (e : xs.drop i = []) : i = xs.length := by
  have := List.drop_eq_nil_iff.mp e
  omega
theorem rd_for (hK : X.K = T.K) {mi : MI} {t : Tg} {b : MS} {Dd : Ends} (h : rdS T W (sFor mi t b) Dd σ H) : tFor (rdI T W mi) (tgR X.K t) (rdS T W b) Dd σ H := by
  obtain ⟨ρ, sl, lh, sr, post⟩ := h
  refine ⟨ρ, sl, lh, sr, (PostS.bind sr post).mono fun p h1 ρ1 H1 le1 hr1 p1 J src => ?_⟩
  refine ⟨fun i m σ H => m = p.1.length - i ∧ i ≤ p.1.length ∧ ∃ ρ2 sl2 lh2, Le ρ1 h1 H1 ρ2 lh2 H ∧ SR T ρ2 H sl2 lh2 σ ∧ PostS T W ρ2 lh2 H (forD p.2 t b (p.1.drop i) sl2 lh2) Dd,
    ⟨p.1.length, rfl, Nat.zero_le _, ρ1, sl, h1, Le.refl, sr.mono le1 hr1, p1⟩, ?_⟩
  rintro i m σ2 H2 ⟨em, hi, ρ2, sl2, lh2, le2, sr2, p2⟩
  subst em
  cases e : p.1.drop i with
  | nil =>
    rw [e] at p2
    obtain ⟨hc, p2⟩ := condS p2
    have ei := drop_nil hi e
    refine .inl ⟨?_, p2 ρ2 H2 σ2 Le.refl sr2⟩
    rw [ei]
    exact src.stop ρ2 lh2 H2 le2 sr2.hr hc
  | cons d r =>
    rw [e] at p2
    obtain ⟨hc, p2⟩ := condS p2
    obtain ⟨e1, e2, hlt⟩ := drop_get e
    obtain ⟨go, yld⟩ := src.go i d ρ2 lh2 H2 le2 sr2.hr hc e1
    refine .inr ⟨go, fun σ' H' => ∃ ρ3 sl3 lh3, Le ρ1 h1 H1 ρ3 lh3 H' ∧ SR T ρ3 H' sl3 lh3 σ' ∧ PostS T W ρ3 lh3 H' (forD p.2 t b r sl3 lh3) Dd,
      fun σ' H' ⟨ρ3, sl3, lh3, q1, q2, q3⟩ => ⟨p.1.length - (i + 1), by omega, rfl, by omega, ρ3, sl3, lh3, q1, q2, by rw [e2]; exact q3⟩, fun x H3 hy => ?_⟩
    obtain ⟨le3, hr3, rx⟩ := yld x H3 hy
    cases e3 : tgM t d sl2 with
    | none => rw [e3] at p2; exact p2.elim
    | some sl3 =>
      rw [e3] at p2
      refine tgR_ok hK (sr2.mono le3 hr3) rx e3 fun σ4 sr4 _ => ⟨ρ2, sl3, lh2, sr4, ?_⟩
      have p2 := PostS.later p2 le3
      have le23 := le2.trans le3
      have key : ∀ (ρ0 : List Addr) (l0 : LH) (H0 : Hp) (r5 : SRes), Le ρ1 h1 H1 ρ0 l0 H0 → PostS T W ρ0 l0 H0 (r5.on (forD p.2 t b r) (fun sl2 h2 => .nx sl2 h2) (forD p.2 t b r)) Dd →
          PostS T W ρ0 l0 H0 r5 (Ends.mk (fun σ' H' => ∃ ρ3 sl3 lh3, Le ρ1 h1 H1 ρ3 lh3 H' ∧ SR T ρ3 H' sl3 lh3 σ' ∧ PostS T W ρ3 lh3 H' (forD p.2 t b r sl3 lh3) Dd) Dd.rt Dd.nx (fun σ' H' => ∃ ρ3 sl3 lh3, Le ρ1 h1 H1 ρ3 lh3 H' ∧ SR T ρ3 H' sl3 lh3 σ' ∧ PostS T W ρ3 lh3 H' (forD p.2 t b r sl3 lh3) Dd)) := by
        intro ρ0 l0 H0 r5 le0
        induction r5 with
        | nx sl5 h5 => exact fun p2 ρ5 H5 σ5 le5 sr5 => ⟨ρ5, sl5, h5, le0.trans le5, sr5, PostS.later (r := forD p.2 t b r sl5 h5) p2 le5⟩
        | ct sl5 h5 => exact fun p2 ρ5 H5 σ5 le5 sr5 => ⟨ρ5, sl5, h5, le0.trans le5, sr5, PostS.later (r := forD p.2 t b r sl5 h5) p2 le5⟩
        | bk sl5 h5 => exact fun p2 => p2
        | rt d5 h5 => exact fun p2 => p2
        | err sl5 c5 q5 h5 => exact fun p2 => p2
        | stuck => exact fun p2 => p2
        | alt l r i1 i2 => exact fun p2 => ⟨i1 (SRes.onR_eq l ▸ p2.1), i2 (SRes.onR_eq r ▸ p2.2)⟩
      exact key ρ2 lh2 H3 (b sl3 lh2) le23 p2
/-- none of these is pinned -/
def pinFree (T : Tb) (own : List Nat) : Bool := T.sp.all fun q => own.all fun i => !Nat.beq i q.1
theorem pinFree_ok {own : List Nat} (h : pinFree T own = true) : ∀ i ∈ own, ∀ q ∈ T.sp, i ≠ q.1 := fun i hi q hq z => by
  have := List.all_eq_true.mp (List.all_eq_true.mp h q hq) i hi
  rw [z, Nat.beq_refl] at this
  cases this
theorem SR.unset {sl : Sl} (s : SR T ρ H sl lh σ) (i : Nat) (hp : ∀ q ∈ T.sp, i ≠ q.1) : SR T ρ H (sl.set i none) lh (σ.set i none) := by
  refine ⟨s.hr, by rw [List.length_set, List.length_set]; exact s.len, fun q hq e => ?_, s.xf, fun j e he => ?_⟩
  · rw [List.getElem?_set_ne (hp q hq)] at e ⊢
    exact s.pin q hq e
  by_cases hj : i = j
  · subst hj
    by_cases hl : i < sl.length
    · rw [List.getElem?_set_self hl] at he; cases he
    · rw [List.getElem?_eq_none (by rw [List.length_set]; omega)] at he; cases he
  · rw [List.getElem?_set_ne hj] at he
    rw [List.getElem?_set_ne hj]
    exact s.sl j e he
theorem SR.wipe {sl : Sl} (s : SR T ρ H sl lh σ) : ∀ vs : List Nat, (∀ i ∈ vs, ∀ q ∈ T.sp, i ≠ q.1) → SR T ρ H (wipeL sl vs) lh (L2.wipe σ vs)
  | [], _ => s
  | v :: vs, hp => (SR.wipe s vs fun i hi => hp i (List.mem_cons_of_mem _ hi)).unset v (hp v List.mem_cons_self)
theorem rd_lc (hK : X.K = T.K) {W' : WX} {mi : MI} {t : Tg} {mt : MT} {me : ME} {own : List Nat} {Q : VK} (hp : pinFree T own = true) (ht : ∀ i ∈ tgIs t, i ∈ own) (h : rdE T W (mLc mi t mt me own) σ H Q) : tLc (rdI T W mi) (tgR X.K t) (rdT T W' mt) (rdE T W' me) own σ H Q := by
  obtain ⟨ρ, sl, lh, sr, post⟩ := h
  refine ⟨ρ, sl, lh, sr, (PostG.bind post).mono fun p h1 ρ1 H1 le1 hr1 p1 J src Dn hD => ?_⟩
  have sr1 := sr.mono le1 hr1
  have leN : Le ρ1 h1 H1 (ρ1 ++ [Dn]) (h1.new (.lst false [])) (upd H1 Dn (.lst [])) := Le.newObj hr1 hD (upd_old hD)
  have hrN : HR T (ρ1 ++ [Dn]) (upd H1 Dn (.lst [])) (h1.new (.lst false [])) := hr1.newObj hD (upd_old hD) (by rw [upd_same]; simp) ⟨[], rfl, upd_same⟩
  have hnx : (ρ1 ++ [Dn])[h1.nx]? = some Dn := newest hr1
  have p1 := PostG.bind (PostG.later p1 leN)
  refine ⟨fun i m H => m = p.1.length - i ∧ i ≤ p.1.length ∧ ∃ ρ2 lh2, Le (ρ1 ++ [Dn]) (h1.new (.lst false [])) (upd H1 Dn (.lst [])) ρ2 lh2 H ∧ HR T ρ2 H lh2 ∧ PostG T (atS W σ) ρ2 lh2 H (lcD p.2 t mt me (wipeL sl own) h1.nx (p.1.drop i) lh2) (fun _ lh' ρ' H' => PostE T (atS W σ) ρ' lh' H' (.ok (.obj h1.nx) lh') Q),
    ⟨p.1.length, rfl, Nat.zero_le _, _, _, Le.refl, hrN, p1⟩, ?_⟩
  rintro i m H2 ⟨em, hi, ρ2, lh2, le2, hr2, p2⟩
  subst em
  have hn2 : ρ2[h1.nx]? = some Dn := le2.toLe0.get hnx
  have leS := leN.trans le2
  cases e : p.1.drop i with
  | nil =>
    rw [e] at p2
    obtain ⟨hc, p2⟩ := cond_stuck p2
    have ei := drop_nil hi e
    refine .inl ⟨?_, PostE.ok (p2 ρ2 H2 Le.refl hr2) Le.refl hr2 ⟨Dn, hn2, rfl⟩⟩
    rw [ei]
    exact src.stop ρ2 lh2 H2 leS hr2 hc
  | cons d r =>
    rw [e] at p2
    obtain ⟨hc, p2⟩ := cond_stuck p2
    obtain ⟨e1, e2, hlt⟩ := drop_get e
    obtain ⟨go, yld⟩ := src.go i d ρ2 lh2 H2 leS hr2 hc e1
    refine .inr ⟨go, fun H' => ∃ ρ3 lh3, Le (ρ1 ++ [Dn]) (h1.new (.lst false [])) (upd H1 Dn (.lst [])) ρ3 lh3 H' ∧ HR T ρ3 H' lh3 ∧ PostG T (atS W σ) ρ3 lh3 H' (lcD p.2 t mt me (wipeL sl own) h1.nx r lh3) (fun _ lh' ρ' H' => PostE T (atS W σ) ρ' lh' H' (.ok (.obj h1.nx) lh') Q),
      fun H' ⟨ρ3, lh3, q1, q2, q3⟩ => ⟨p.1.length - (i + 1), by omega, rfl, by omega, ρ3, lh3, q1, q2, by rw [e2]; exact q3⟩, fun x H3 hy => ?_⟩
    obtain ⟨le3, hr3, rx⟩ := yld x H3 hy
    have p2 := PostG.later p2 le3
    have le23 := le2.trans le3
    cases e3 : tgM t d (wipeL sl own) with
    | none => rw [e3] at p2; exact p2.elim
    | some sl3 =>
      rw [e3] at p2
      refine tgR_ok hK ((SR.wipe sr1 own (pinFree_ok hp)).mono (leN.trans le23) hr3) rx e3 fun σ4 sr4 hw => ⟨by rw [hw own ht, wipe_wipe], ρ2, sl3, lh2, sr4, ?_⟩
      refine (noErr_post (PostG.bind p2)).mono fun b h4 ρ4 H4 le4 hr4 p4 => ?_
      cases b with
      | false => exact ⟨ρ4, h4, le23.trans le4, hr4, p4⟩
      | true =>
        refine ⟨ρ4, sl3, h4, sr4.mono le4 hr4, (noErr_post (PostG.bind p4)).mono fun y h5 ρ5 H5 le5 hr5 p5 v rv => ?_⟩
        split at p5
        · rename_i xs e5
          obtain ⟨hb, p5⟩ := cond_stuck p5
          have le25 := (le23.trans le4).trans le5
          have hn5 : ρ5[h1.nx]? = some Dn := le25.toLe0.get hnx
          obtain ⟨a, ea, ho⟩ := hr5.obj _ _ e5
          rw [hn5] at ea
          cases ea
          obtain ⟨vs, rvs, hH⟩ := ho
          have hH : H5 Dn = some (.lst vs) := hH
          have le0 : Le0 ρ5 H5 ρ5 (upd H5 Dn (.lst (vs ++ [v]))) := le0_lst (List.mem_of_getElem? hn5) hH
          have same : ∀ c, c ≠ Dn → upd H5 Dn (.lst (vs ++ [v])) c = H5 c := fun c hc => upd_ne hc
          have leW : Le ρ5 h5 H5 ρ5 (h5.put h1.nx (.lst false (xs ++ [y]))) (upd H5 Dn (.lst (vs ++ [v]))) := Le.write hr5 hn5 le0 same
          refine ⟨vs, hH, ?_, ρ5, h5.put h1.nx (.lst false (xs ++ [y])), le25.trans leW, hr5.write hn5 le0 same (by rw [upd_same]; simp) ⟨vs ++ [v], (rvs.append (RelDs.one rv)).mono le0, upd_same⟩, PostG.later p5 leW⟩
          have := Nat.le_of_ble_eq_true hb
          rw [← rvs.length, sizeLine_eq]
          unfold tooLong at this
          omega
        · exact p5.elim
end
end TL
namespace TL
open PySem PySem.Spec PyProof.Rows L2
section
variable {T : Tb} {W : WX} {E : XK} {X : Cx} {pins : List (Addr × Obj)} {σ : L2.St} {H : Hp} {s : Shared} {ρ : List Addr} {lh : LH}
theorem xr_ix (hK : X.K = T.K) (hw : X.w = T.w) (hu : X.A.units + 65 < cLine) : IxR X (rdOp T E vIdx) := by
  intro value slice pins s σ H x y v u Q I rx ry h hs
  obtain ⟨ρ, lh, a, b, hr, ra, rb, post⟩ := h
  unfold vIdx at post
  cases e : dctAt a lh with
  | none => rw [e] at post; exact xr_idx hK value slice pins s σ H x y v u Q I rx ry ⟨ρ, lh, a, b, hr, ra, rb, post⟩ hs
  | some kvs =>
    rw [e] at post
    simp only at post
    split at post
    · rename_i r e2
      obtain ⟨ty, go⟩ := look_get (Q := EP X pins σ Q) (E' := X.xe) hK hw hu I hr ra rb rx ry e2 fun w' s' vv I' rv rr => ⟨vv, H, I', rv, PostE.ok post Le.refl hr rr⟩
      exact tail_any ty slot_dict_getitem.lookup go hs
    · exact post.elim
theorem or_in (hK : X.K = T.K) (hw : X.w = T.w) (hu : X.A.units + 65 < cLine) (neg : Bool) : OpR X (compareOp (bif neg then .NotIn else .In)) (rdOp T E (vIn neg)) := by
  intro pins s σ H x y v u Q I rx ry h
  obtain ⟨ρ, lh, a, b, hr, ra, rb, post⟩ := h
  unfold vIn at post
  cases e : dctAt b lh with
  | none => rw [e] at post; exact or_inS hK hu neg pins s σ H x y v u Q I rx ry ⟨ρ, lh, a, b, hr, ra, rb, post⟩
  | some kvs =>
    rw [e] at post
    simp only at post
    split at post
    · rename_i o e2
      exact look_in hK hw hu I hr rb ra ry rx e2 neg fun s' I' => ⟨.bl _, H, I', rfl, PostE.ok post Le.refl hr rfl⟩
    · exact post.elim
theorem dctAt_some {d : D} {kvs : List Ent} (e : dctAt d lh = some kvs) : ∃ n kd, d = .obj n ∧ lh.get n = some (.dct kd kvs) := by
  unfold dctAt at e
  cases d with
  | obj n =>
    simp only at e
    split at e
    · rename_i kd k2 z
      cases e
      exact ⟨n, kd, rfl, z⟩
    · cases e
  | _ => cases e
theorem cr_len (hK : X.K = T.K) (hw : X.w = T.w) : CallR X (.builtin "len") (rdFn T E (f1 bLen)) := cr1 fun ρ lh d v H Q hr rd post pins s σ us I r => by
  unfold bLen at post
  cases e : dctAt d lh with
  | none => rw [e] at post; exact cr_lenS hK pins s σ H [v] us Q I r ⟨ρ, lh, [d], hr, RelDs.one rd, post⟩
  | some kvs =>
    rw [e] at post
    obtain ⟨n, kd, ed, eg⟩ := dctAt_some e
    subst ed
    obtain ⟨a, ev, hn, hsm, hlen, nd, es, ep, he, hH⟩ := obj_of hr rd eg
    subst ev
    obtain ⟨u, rfl, ru⟩ := vals1 r
    obtain rfl : u = .ref a := ru
    have raw := Inv.rawD I hH
    have q : Q (.int ((kvs.length : Nat) : Int)) H := PostE.ok post Le.refl hr rfl
    cases kd with
    | true =>
      obtain ⟨xs, dd, pr⟩ := dictH hK hw I nd he raw
      have hl : kvs.length = xs.length := Paired.length pr
      rw [hl] at q
      exact call_len_dictH hsm dd (by omega) ⟨.int _, H, (I.tok _), ⟨_, rfl⟩, q⟩
    | false =>
      obtain ⟨xs, dd, pr⟩ := dictF hw I nd he raw
      have hl : kvs.length = xs.length := Paired.length pr
      rw [hl] at q
      exact call_len_dict hsm dd (by omega) ⟨.int _, H, (I.tok _), ⟨_, rfl⟩, q⟩
theorem dset_ok (hK : X.K = T.K) (hw : X.w = T.w) (hu : X.A.units + 65 < cLine) (I : Inv X pins σ H s) (hr : HR T ρ H lh) {d k z : D} {x : Addr} {y t : V} {u r : Value} (rd : RelD T ρ H d (.ref x)) (rk : RelD T ρ H k y) (rz : RelD T ρ H z t) (ry : RelV y u) (rt : RelV t r)
    {Q : Hp → Prop} {E' : Value → Shared → Prop} (h : PostG T E ρ lh H (vPut d k z lh) fun _ _ _ H' => Q H') : wpAny (model X.prog X.w) X.A (dictSet x u r) (fun _ s' => ∃ H', Inv X pins σ H' s' ∧ Q H') E' s := by
  unfold vPut at h
  cases e1 : dictAt d k lh with
  | none => rw [e1] at h; exact h.elim
  | some q =>
    obtain ⟨n, nk, kk, kvs⟩ := q
    rw [e1] at h
    obtain ⟨hb0, h⟩ := cond_stuck h
    have hl := Nat.le_of_ble_eq_true hb0
    obtain ⟨kd, rfl, hg, hk, hb⟩ := dictAt_some e1
    obtain ⟨a, ex, en0, hsm, hlen, nd, es, ep, he, hH⟩ := obj_of hr rd hg
    obtain rfl : x = a := V.ref.inj ex
    have raw := Inv.rawD I hH
    have he := ents_empty he hb
    have hls := dset_length kvs nk k z
    obtain ⟨hnk, hc⟩ := key_cases hK I hk rk ry
    have fin : ∀ {h' : Heap} {tk : Nat} {es' : Array DictEntry} {ep' : Nat}, h'.DictRaw x es' ep' → Heap.SameBut x s.heap h' → ((dset kvs nk k z).map (·.1)).Nodup → EntsR T ρ H kk (dset kvs nk k z) es'.toList →
        ∃ H', Inv X pins σ H' { s with heap := h', toks := tk } ∧ Q H' := fun {h' tk es' ep'} hd hs hn hE => by
      have hmu : Mut (H x) := by rw [hH]; exact True.intro
      have le0 : Le0 ρ H ρ (upd H x (dictO x es' ep')) := Le0.upd_mut (List.mem_of_getElem? en0) hH (fun _ q => by cases q) fun _ _ q => by cases q
      have same : ∀ b, b ≠ x → upd H x (dictO x es' ep') b = H b := fun b hb => upd_ne hb
      refine ⟨upd H x (dictO x es' ep'), I.write (x := x) (e := x) hmu (.inl rfl) (fun b o hb q => (hs.2 b hb).trans q) (let ⟨o, ho, _⟩ := hd; ⟨o, ho⟩) (obj_ext hd), ?_⟩
      refine h ρ _ (Le.write hr en0 le0 same) (hr.write en0 le0 same (by rw [upd_same]; simp) ?_)
      exact ⟨hsm, by omega, hn, es', ep', hE.mono le0, upd_same⟩
    rcases hc with ⟨ekk, p, ey, eu, hds, hdp, is⟩ | ⟨ekk, kk', ek, en, is⟩
    · subst ekk eu ey
      obtain ⟨xs, dd, pr⟩ := dictH hK hw I nd he raw
      have pr2 := nr_set (k := k) (a := p) pr ⟨rfl, hds, hnk, hdp, rk, t, rt, rz⟩ rt rz
      have lx : xs.length = kvs.length := by
        have := congrArg List.length (nr_keys pr)
        simpa using this
      refine wpAny_dictSet_heap (knd := nestedKind X.prog X.w) (by show X.A.units + 8 < cLine; omega) is dd (fun h' dd' hs => ?_) (by rw [sizeLine_eq]; omega)
      obtain ⟨o, es', ep', ho, hx, hdt, hes, his, hn⟩ := dd'
      refine fin ⟨o, ho, hx, hdt⟩ hs ?_ ?_
      · rw [← nr_keys pr2]; exact hn
      · rw [hes]; exact nr_ents hw pr2
    · subst ekk ek en
      obtain ⟨ps, dd, pr⟩ := dictF hw I nd he raw
      have pr2 := fr_set (k := kk') (d := z) pr rt rz
      have lx : ps.length = kvs.length := by
        have := congrArg List.length (fr_keys pr)
        simpa using this.symm
      refine wpAny_dictSet_pairs is dd (fun h' dd' hs => ?_) (by rw [sizeLine_eq]; omega)
      obtain ⟨o, es', ep', ho, hx, hdt, hes, his, hn⟩ := dd'
      refine fin ⟨o, ho, hx, hdt⟩ hs ?_ (fr_ents hw his (fun e he => hes e (by simpa using he)) pr2)
      rw [fr_keys pr2]
      exact nodup_kN.mpr hn
theorem raw_new (h : Heap) : (h.push { cls := .type "dict", data := .dict #[] }).DictRaw h.objs.size #[] 0 := ⟨_, Heap.get?_push_size _ rfl, ⟨rfl, rfl, rfl⟩, rfl⟩
theorem new_dct {p : Addr} (hr : HR T ρ H lh) (hp : H p = none) (hsm : (p == sysModules) = false) :
    Le ρ lh H (ρ ++ [p]) (lh.new (.dct false [])) (upd H p (dictO p #[] 0)) ∧ HR T (ρ ++ [p]) (upd H p (dictO p #[] 0)) (lh.new (.dct false [])) :=
  ⟨Le.newObj hr hp (upd_old hp), hr.newObj hp (upd_old hp) (by rw [upd_same]; simp) ⟨hsm, Nat.zero_le _, List.nodup_nil, #[], 0, rfl, upd_same⟩⟩
theorem big_ne (I : Inv X pins σ H s) : (s.heap.objs.size == sysModules) = false := beq_eq_false_iff_ne.mpr (Ne.symm (Nat.ne_of_lt I.big))
theorem x_dict0 {pos : Pos} : PE X (.Dict [] [] pos) (rdE T W mDict0) := by
  refine ⟨fun pins s σ H Q I h => ?_⟩
  obtain ⟨ρ, sl, lh, sr, post⟩ := h
  have hp : H s.heap.objs.size = none := I.hok.fresh (Nat.le_refl _)
  obtain ⟨le, hr⟩ := new_dct sr.hr hp (big_ne I)
  exact wpAny_Dict_empty ⟨.ref s.heap.objs.size, upd H s.heap.objs.size (dictO s.heap.objs.size #[] 0), I.laid (t' := s.toks) (fun _ _ q => Heap.get?_push_of_some _ q) (Nat.le_refl _) (obj_ext (raw_new _)), rfl, PostE.ok post le hr ⟨_, newest sr.hr, rfl⟩⟩
/-- the pairs of a display -/
structure PPm (X : Cx) (T : Tb) (W : WX) (pos : Pos) (keys : List (Option Expr)) (values : List Expr) (m : MP) : Prop where
  run : ∀ (pins : List (Addr × Obj)) (s : Shared) (σ : L2.St) (H : Hp) (Q : List (V × V) → Hp → Prop), Inv X pins σ H s → (∃ ρ sl lh, SR T ρ H sl lh σ ∧ PostG T (atS W σ) ρ lh H (m sl lh) fun ps _ ρ' H' => ∀ vs us, RelDs T ρ' H' (ps.map (·.1)) vs → RelDs T ρ' H' (ps.map (·.2)) us → Q (vs.zip us) H') →
    wpAny (model X.prog X.w) X.A (evalPairs (pairTrees keys values X.env pos)) (fun vs s' => ∃ ps H', Inv X pins σ H' s' ∧ VV ps vs ∧ Q ps H') X.xe s
theorem ppm_nil {pos : Pos} : PPm X T W pos [] [] pNil := ⟨fun pins s σ H Q I ⟨ρ, sl, lh, sr, post⟩ => pairTrees_nil_walk ⟨[], H, I, .nil, post ρ H Le.refl sr.hr [] [] rfl rfl⟩⟩
theorem ppm_cons {pos : Pos} {k v : Expr} {ks : List (Option Expr)} {vs : List Expr} {mk mv : ME} {mr : MP} (hk : PE X k (rdE T W mk)) (hv : PE X v (rdE T W mv)) (hr : PPm X T W pos ks vs mr) : PPm X T W pos (some k :: ks) (v :: vs) (pCons mk mv mr) := by
  refine ⟨fun pins s σ H Q I ⟨ρ, sl, lh, sr, post⟩ => ?_⟩
  refine pairTrees_cons_walk (thn (hk.run pins s σ H (fun x H1 => rdE T W mv σ H1 fun y H2 => (∃ ρ sl lh, SR T ρ H2 sl lh σ ∧ PostG T (atS W σ) ρ lh H2 (mr sl lh) fun ps _ ρ' H' => ∀ vs us, RelDs T ρ' H' (ps.map (·.1)) vs → RelDs T ρ' H' (ps.map (·.2)) us → Q ((x, y) :: vs.zip us) H')) I ?_) fun u s1 ⟨x, H1, I1, rx, q1⟩ => thn (hv.run pins s1 σ H1 _ I1 q1) fun w2 s2 ⟨y, H2, I2, ry, q2⟩ =>
    thn (hr.run pins s2 σ H2 (fun ps H' => Q ((x, y) :: ps) H') I2 q2) fun ws s3 ⟨ps, H3, I3, rel, q3⟩ => ⟨(x, y) :: ps, H3, I3, .cons ⟨rx, ry⟩ rel, q3⟩)
  refine ⟨ρ, sl, lh, sr, (PostG.bind post).mono fun kd h1 ρ1 H1 le1 hr1 p1 x rx => ?_⟩
  refine ⟨ρ1, sl, h1, sr.mono le1 hr1, (PostG.bind p1).mono fun vd h2 ρ2 H2 le2 hr2 p2 y ry => ?_⟩
  refine ⟨ρ2, sl, h2, (sr.mono le1 hr1).mono le2 hr2, (PostG.bind p2).mono fun ps h3 ρ3 H3 le3 hr3 p3 vs us r1 r2 => ?_⟩
  exact p3 ρ3 H3 Le.refl hr3 (x :: vs) (y :: us) ⟨x, vs, rfl, rx.mono (le2.trans le3).toLe0, r1⟩ ⟨y, us, rfl, ry.mono le3.toLe0, r2⟩
theorem store_all (hK : X.K = T.K) (hw : X.w = T.w) (hu : X.A.units + 65 < cLine) {o : D} {a : Addr} {Q : Hp → Prop} {E' : Value → Shared → Prop} : ∀ {ps : List (D × D)} {vs us : List V} {ws : List (Value × Value)} {ρ : List Addr} {lh : LH} {H : Hp} {s : Shared}, Inv X pins σ H s → HR T ρ H lh → RelD T ρ H o (.ref a) →
    RelDs T ρ H (ps.map (·.1)) vs → RelDs T ρ H (ps.map (·.2)) us → VV (vs.zip us) ws → PostG T E ρ lh H (putAll o ps lh) (fun _ _ _ H' => Q H') → wpAny (model X.prog X.w) X.A (storeAll a ws) (fun _ s' => ∃ H', Inv X pins σ H' s' ∧ Q H') E' s
  | [], vs, us, ws, ρ, lh, H, s, I, hr, ro, r1, r2, rw, post => by
    rw [show vs = [] from r1, show us = [] from r2] at rw
    cases rw
    unfold storeAll
    rw [List.forIn_nil]
    exact wpAny_pure ⟨H, I, post ρ H Le.refl hr⟩
  | p :: ps, _, _, ws, ρ, lh, H, s, I, hr, ro, ⟨v, vs, ev, h1, h2⟩, ⟨u, us, eu, g1, g2⟩, rw, post => by
    subst ev eu
    rw [List.zip_cons_cons] at rw
    cases rw with
    | @cons _ w _ ws h t =>
      unfold storeAll
      rw [List.forIn_cons]
      have post : PostG T E ρ lh H ((vPut o p.1 p.2 lh).bind fun _ h1 => putAll o ps h1) (fun _ _ _ H' => Q H') := post
      refine wpAny_bind (wpAny_bind (thn (dset_ok (E := E) (E' := E') (Q := fun H' => ∃ ρ1 l1, Le ρ lh H ρ1 l1 H' ∧ HR T ρ1 H' l1 ∧ PostG T E ρ1 l1 H' (putAll o ps l1) (fun _ _ _ H' => Q H')) hK hw hu I hr ro h1 g1 h.1 h.2 ((PostG.bind post).mono fun _ l1 ρ1 H1 le1 hr1 p1 => ⟨ρ1, l1, le1, hr1, p1⟩)) fun _ s1 ⟨H1, I1, ρ1, l1, le1, hr1, p1⟩ => wpAny_pure ?_))
      exact store_all hK hw hu I1 hr1 (ro.mono le1.toLe0) (h2.mono le1.toLe0) (g2.mono le1.toLe0) t p1
theorem x_dict {pos : Pos} {keys : List (Option Expr)} {values : List Expr} {mp : MP} (hK : X.K = T.K) (hw : X.w = T.w) (hu : X.A.units + 65 < cLine) (h : PPm X T W pos keys values mp) (hall : keys.all (·.isSome) = true := by rfl) (hl : keys.length = values.length := by rfl) (h0 : keys ≠ [] := by simp)
    (h15 : keys.length ≤ 15 := by decide) : PE X (.Dict keys values pos) (rdE T W (mDict mp)) := by
  refine ⟨fun pins s σ H Q I q => ?_⟩
  obtain ⟨ρ, sl, lh, sr, post⟩ := q
  have hp : H s.heap.objs.size = none := I.hok.fresh (Nat.le_refl _)
  obtain ⟨le, hr⟩ := new_dct sr.hr hp (big_ne I)
  have hnx := newest (p := s.heap.objs.size) sr.hr
  have I1 : Inv X pins σ (upd H s.heap.objs.size (dictO s.heap.objs.size #[] 0)) { s with heap := s.heap.push { cls := .type "dict", data := .dict #[] } } := I.laid (t' := s.toks) (fun _ _ q => Heap.get?_push_of_some _ q) (Nat.le_refl _) (obj_ext (raw_new _))
  refine wpAny_Dict_any hall hl h0 h15 (thn (h.run pins _ σ _ (fun ps H' => ∃ ρ1 l1 ds vs us, ps = List.zip vs us ∧ Le (ρ ++ [s.heap.objs.size]) (lh.new (.dct false [])) (upd H s.heap.objs.size (dictO s.heap.objs.size #[] 0)) ρ1 l1 H' ∧ HR T ρ1 H' l1 ∧ RelDs T ρ1 H' (ds.map (·.1)) vs ∧ RelDs T ρ1 H' (ds.map (·.2)) us ∧
    PostG T (atS W σ) ρ1 l1 H' ((putAll (.obj lh.nx) ds l1).bind fun _ h2 => .ok (.obj lh.nx) h2) (fun d _ ρ' H' => ∀ v, RelD T ρ' H' d v → Q v H')) I1 ⟨_, sl, _, sr.mono le hr, (PostG.bind (PostG.later post le)).mono fun ds l1 ρ1 H1 le1 hr1 p1 vs us r1 r2 => ⟨ρ1, l1, ds, vs, us, rfl, le1, hr1, r1, r2, p1⟩⟩) fun ws s2 ⟨ps, H2, I2, rel, ρ1, l1, ds, vs, us, eps, le1, hr1, r1, r2, p1⟩ => ?_)
  subst eps
  refine thn (store_all (E := atS W σ) (Q := fun H' => Q (.ref s.heap.objs.size) H') (o := .obj lh.nx) hK hw hu I2 hr1 (show RelD T ρ1 H2 (.obj lh.nx) (.ref s.heap.objs.size) from ⟨_, le1.toLe0.get hnx, rfl⟩) r1 r2 rel ((PostG.bind p1).mono fun _ l2 ρ2 H2 le2 hr2 p2 => PostE.ok p2 Le.refl hr2 ⟨_, (le1.trans le2).toLe0.get hnx, rfl⟩)) fun _ s3 ⟨H3, I3, q⟩ => ⟨.ref s.heap.objs.size, H3, I3, rfl, q⟩
def TabOk (T : Tb) (p : Addr) (tab : List (Str × D)) : Prop := ∀ q ∈ tab, ∃ v, KDct T.K T.w p q.1 v ∧ ∀ ρ H, RelD T ρ H q.2 v
theorem tab_mem : ∀ {tab : List (Str × D)} {x : Str} {d : D}, tabLook tab x = some d → (x, d) ∈ tab
  | p :: r, x, d, e => by
    have e : (bif strEq x p.1 then some p.2 else tabLook r x) = some d := e
    cases hb : strEq x p.1 with
    | true =>
      rw [hb] at e
      cases e
      have : x = p.1 := by rw [strEq_eq] at hb; simpa using hb
      subst this
      exact List.mem_cons_self
    | false =>
      rw [hb] at e
      exact List.mem_cons_of_mem _ (tab_mem e)
theorem x_tab {a k : Expr} {pos : Pos} {p : Addr} {tab : List (Str × D)} {mk : ME} (hK : X.K = T.K) (hw : X.w = T.w) (ok : TabOk T p tab) (ha : PE X a (tC (.ref p))) (hk : PE X k (rdE T W mk)) (hs : PlainIx k := by intro _ _; rfl) : PE X (.Subscript a k pos) (rdE T W (mTab tab mk)) := by
  refine (pe_ix ix_kdict ha hk hs).imp fun σ H Q h => ?_
  obtain ⟨ρ, sl, lh, sr, post⟩ := h
  refine ⟨ρ, sl, lh, sr, (PostG.bind post).mono fun d h1 ρ1 H1 le1 hr1 p1 v rv => ?_⟩
  cases d with
  | str x =>
    simp only at p1
    cases e : tabLook tab x with
    | none => rw [e] at p1; exact p1.elim
    | some d =>
      rw [e] at p1
      obtain ⟨v0, k1, k2⟩ := ok _ (tab_mem e)
      rw [hK, hw]
      exact ⟨p, x, v0, rfl, rv, k1, PostE.ok p1 Le.refl hr1 (k2 _ _)⟩
  | _ => exact p1.elim
end
end TL
namespace TL
open PySem PySem.Spec PyProof.Rows L2
end TL
namespace TL
open PySem PySem.Spec PyProof.Rows L2
theorem Bd.blk {T : Tb} {X : Cx} (B : Bd T X) {s : Shared} {H : Hp} {scope : Scope} {cenv : Env} {fp : List Addr} : Bd T (X.blk s H scope cenv fp) := ⟨⟨B.K, B.w, B.u, B.ok, B.nd⟩, B.calm⟩
/-- what may be raised -/
structure Px (X : Cx) (W : WX) : Prop where
  own : PassesOwn (model X.prog X.w) X.A X.env X.xe
  tk : L2N.Takes X W
def W0 : WX := fun _ _ _ _ => False
theorem takesW0 {X : Cx} : L2N.Takes X W0 := fun _ _ ⟨_, _, _, _, _, _, _, _, _, _, _, _, _, _, _, _, w⟩ => w.elim
theorem Px.blk {X : Cx} {s : Shared} {H : Hp} {scope : Scope} {cenv : Env} {fp : List Addr} : Px (X.blk s H scope cenv fp) W0 := ⟨PassesOwn.never, takesW0⟩
/-- a constant of the module -/
def GC (T : Tb) (X : Cx) (x : Str) (d : D) : Prop := ∃ u v, X.mg x = some u ∧ RelV v u ∧ ∀ ρ H, RelD T ρ H d v
section
variable {T : Tb} {W : WX} {E : XK} {X : Cx} {pos p apos : Pos} {a b c e : Expr} {es : List Expr} {ma mb mc m : ME} {ms : MA} {mt mu : MT} {x : Str} {k j n : Nat} {f C : Addr} {g : Fn}
theorem xV (i : Nat) (hN : X.N[i]? = some x := by rfl) (hv : Vis X.env.scope x := by first | exact Or.inl rfl | exact Or.inr (Or.inl rfl) | exact Or.inr (Or.inr rfl)) (hd : (x == ("__debug__" : Str)) = false := by decide)
    (hcd : (x == ("__classdict__" : Str)) = false := by decide) : PE X (.Name x pos) (rdE T W (mVar i)) := (pe_var hN hv hd hcd).imp fun _ _ _ h => rd_var h
theorem xI {i : Int} {j pos} : PE X (.Constant (.int i) j pos) (rdE T W (mC (.int i))) := pe_int.imp fun _ _ _ h => rd_c (d := .int i) (fun _ _ => rfl) h
theorem xB {b : Bool} {j pos} : PE X (.Constant (.bool b) j pos) (rdE T W (mC (.bl b))) := pe_bl.imp fun _ _ _ h => rd_c (d := .bl b) (fun _ _ => rfl) h
theorem xN {j pos} : PE X (.Constant .none j pos) (rdE T W (mC .non)) := pe_non.imp fun _ _ _ h => rd_c (d := .non) (fun _ _ => rfl) h
theorem xS {x : Str} {j pos} : PE X (.Constant (.str x) j pos) (rdE T W (mC (.str x))) := pe_str.imp fun _ _ _ h => rd_c (d := .str x) (fun _ _ => rfl) h
theorem xG {d : D} (G : GC T X x d) (hg : Gl X x := by rfl) (hd : (x == ("__debug__" : Str)) = false := by decide) : PE X (.Name x pos) (rdE T W (mC d)) := by
  obtain ⟨u, v, h1, h2, h3⟩ := G
  exact (pe_glob hg h1 h2 hd).imp fun _ _ _ h => rd_c h3 h
theorem xOp (B : Bs T X) {op : Operator} (ha : PE X a (rdE T W ma)) (hb : PE X b (rdE T W mb)) : PE X (.BinOp a op b pos) (rdE T W (m2 (vBin op) ma mb)) := (pe_op (or_bin (E := E0) B.K op) ha hb).imp fun _ _ _ h => rd_op h
theorem xNeg (ha : PE X a (rdE T W ma)) : PE X (.UnaryOp .USub a pos) (rdE T W (m1 vNeg ma)) := (pe_un (ur_neg (E := E0)) ha).imp fun _ _ _ h => rd_un h
theorem xNot (ha : PE X a (rdE T W ma)) : PE X (.UnaryOp .Not a pos) (rdE T W (mNotV ma)) := (pe_not ha).imp fun _ _ _ h => rd_notV h
theorem xOne {op} (ha : PE X a (rdE T W ma)) : PE X (.BoolOp op [a] pos) (rdE T W ma) := pe_one ha
theorem xAnd {rest : List Expr} (ha : PE X a (rdE T W ma)) (hb : PE X (.BoolOp .And (b :: rest) pos) (rdE T W mb)) : PE X (.BoolOp .And (a :: b :: rest) pos) (rdE T W (mAndV ma mb)) := (pe_and ha hb).imp fun _ _ _ h => rd_andV h
theorem xOr {rest : List Expr} (ha : PE X a (rdE T W ma)) (hb : PE X (.BoolOp .Or (b :: rest) pos) (rdE T W mb)) : PE X (.BoolOp .Or (a :: b :: rest) pos) (rdE T W (mOrV ma mb)) := (pe_or ha hb).imp fun _ _ _ h => rd_orV h
theorem xIf (hc : PT X c (rdT T W mt)) (ha : PE X a (rdE T W ma)) (hb : PE X b (rdE T W mb)) : PE X (.IfExp c a b pos) (rdE T W (mIf mt ma mb)) := (pe_ifExp hc ha hb).imp fun _ _ _ h => rd_if h
theorem or_cmp (B : Bs T X) (op : CmpOp) : OpR X (compareOp op) (rdOp T E (vCmp op)) := by
  cases op with
  | Eq => exact or_eq B.K B.u
  | NotEq => exact or_ne B.K B.u
  | Lt => exact or_cmpI op_lt
  | LtE => exact or_cmpI op_le
  | Gt => exact or_cmpI op_gt
  | GtE => exact or_cmpI op_ge
  | Is => exact or_is
  | IsNot => exact or_isnot
  | In => exact or_in B.K B.w B.u false
  | NotIn => exact or_in B.K B.w B.u true
theorem xCmp (B : Bs T X) {op : CmpOp} (ha : PE X a (rdE T W ma)) (hb : PE X b (rdE T W mb)) (hm : behindInMarks op b = false := by first | exact nobehind _ (by decide) (by decide) | rfl) : PE X (.Compare a [op] [b] pos) (rdE T W (m2 (vCmp op) ma mb)) := (pe_cmpR (or_cmp (E := E0) B op) ha hb hm).imp fun _ _ _ h => rd_op h
theorem xChain (B : Bs T X) {op op' : CmpOp} (ha : PE X a (rdE T W ma)) (hb : PE X b (rdE T W mb)) (hc : PE X c (rdE T W mc)) (hm : lastMarks [op, op'] [b, c] = false := by with_unfolding_all rfl) :
    PE X (.Compare a [op, op'] [b, c] pos) (rdE T W (mChain (vCmp op) (vCmp op') ma mb mc)) := (pe_chain (or_cmp (E := E0) B op) (or_cmp (E := E0) B op') ha hb hc hm).imp fun _ _ _ h => rd_chain h
theorem tV (ha : PE X a (rdE T W ma)) (he : ∀ whole, isTrue a X.env whole = (do let v ← whole; standAt a.pos; holding [v] (truthy v)) := by intro _; rfl) : PT X a (rdT T W (mB ma)) := (pt_val ha he).imp fun _ _ _ h => rd_tB h
theorem tCmp (B : Bs T X) {op : CmpOp} (ha : PE X a (rdE T W ma)) (hb : PE X b (rdE T W mb)) (hm : behindInMarks op b = false := by first | exact nobehind _ (by decide) (by decide) | rfl) : PT X (.Compare a [op] [b] pos) (rdT T W (mB (m2 (vCmp op) ma mb))) :=
  (pt_cmpR (or_cmp (E := E0) B op) ha hb hm).imp fun _ _ _ h => rd_op (rd_tB h)
theorem tChn (B : Bs T X) {op op' : CmpOp} (ha : PE X a (rdE T W ma)) (hb : PE X b (rdE T W mb)) (hc : PE X c (rdE T W mc)) (hm : lastMarks [op, op'] [b, c] = false := by with_unfolding_all rfl) :
    PT X (.Compare a [op, op'] [b, c] pos) (rdT T W (mB (mChain (vCmp op) (vCmp op') ma mb mc))) := (pt_chain (or_cmp (E := E0) B op) (or_cmp (E := E0) B op') ha hb hc hm).imp fun _ _ _ h => rd_chain (rd_tB h)
theorem tNot' (ha : PT X a (rdT T W mt)) : PT X (.UnaryOp .Not a pos) (rdT T W (mNot mt)) := (pt_not ha).imp fun _ _ _ h => rd_not h
theorem wAnd1 (ha : PT X a (rdT T W mt)) : PW X (.BoolOp .And [a] pos) (rdT T W mt) := pw_and1 ha
theorem wOr1 (ha : PT X a (rdT T W mt)) : PW X (.BoolOp .Or [a] pos) (rdT T W mt) := pw_or1 ha
theorem wAnd {rest : List Expr} (ha : PT X a (rdT T W mt)) (hb : PW X (.BoolOp .And (b :: rest) pos) (rdT T W mu)) : PW X (.BoolOp .And (a :: b :: rest) pos) (rdT T W (mAnd mt mu)) := (pw_and ha hb).imp fun _ _ _ h => rd_and h
theorem wOr {rest : List Expr} (ha : PT X a (rdT T W mt)) (hb : PW X (.BoolOp .Or (b :: rest) pos) (rdT T W mu)) : PW X (.BoolOp .Or (a :: b :: rest) pos) (rdT T W (mOr mt mu)) := (pw_or ha hb).imp fun _ _ _ h => rd_or h
theorem tW {t : TT} (h : PW X a t) : PT X a t := h.pt
theorem aN : PA X [] (rdA T W aNil) := pa_nil.imp fun _ _ _ h => rd_nil h
theorem aC (ha : PE X e (rdE T W m)) (hr : PA X es (rdA T W ms)) (hs : starEach (e :: es) X.env = (false, eval e X.env) :: starEach es X.env := by rfl) : PA X (e :: es) (rdA T W (aCons m ms)) := (pa_cons ha hr hs).imp fun _ _ _ h => rd_cons h
theorem aS (B : Bs T X) (ha : PE X e (rdE T W m)) (hr : PA X es (rdA T W ms)) (hs : starEach (.Starred e p :: es) X.env = (true, eval e X.env) :: starEach es X.env := by rfl) : PA X (.Starred e p :: es) (rdA T W (aStar m ms)) := (StX.pa_star ha hr hs).imp fun _ _ _ h => rd_star B.K h
theorem xTup {x1} (h : PA X es (rdA T W ms)) : PE X (.Tuple es x1 pos) (rdE T W (mTup ms)) := (pe_tup h).imp fun _ _ _ h => rd_tup h
theorem xLst (h : PA X es (rdA T W ms)) : PE X (.List es pos) (rdE T W (mLst ms)) := (pe_lst h).imp fun _ _ _ h => rd_lst h
theorem xIx (B : Bs T X) (ha : PE X a (rdE T W ma)) (hb : PE X b (rdE T W mb)) (hs : PlainIx b := by intro _ _; rfl) : PE X (.Subscript a b pos) (rdE T W (m2 vIdx ma mb)) := (pe_ix (xr_ix (E := E0) B.K B.w B.u) ha hb hs).imp fun _ _ _ h => rd_op h
theorem oN : PO X none (rdO T W oNone) := poImp po_none fun _ _ _ h => rd_oNone h
theorem oS (h : PE X e (rdE T W m)) : PO X (some e) (rdO T W (oSome m)) := poImp (po_some h) fun _ _ _ h => rd_oSome h
theorem xSl (B : Bs T X) {lo hi : Option Expr} {ml mh : MO} {p2 : Pos} (ha : PE X a (rdE T W ma)) (hl : PO X lo (rdO T W ml)) (hh : PO X hi (rdO T W mh)) : PE X (.Subscript a (.Slice lo hi none p2) pos) (rdE T W (mSl ma ml mh)) := (pe_slice (sr_sl (E := E0) B.K) ha hl hh).imp fun _ _ _ h => rd_sl h
theorem xF (B : Bs T X) (i : Nat) (ha : PE X e (rdE T W m)) (hx : T.fn[i]? = some x := by rfl) (hb : attributeBase e x X.env (eval e X.env) = eval e X.env := by rfl) : PE X (.Attribute e x pos) (rdE T W (m1 (vFld i) m)) := (pe_fld ha hb).imp fun _ _ _ h => rd_fld B.ok B.K hx h
theorem xCall (px : Px X W) (F : FG T X.prog X.w X.K X.mg X.base j f n g) (hr : Room k X.A) (hm : X.mg x = some (.ref f)) (ha : PA X (e :: es) (rdA T W ms)) (le : j ≤ k := by decide) (hg : Gl X x := by rfl) (hd : (x == ("__debug__" : Str)) = false := by decide)
    (hst : starEach (e :: es) X.env = (false, eval e X.env) :: starEach es X.env := by rfl) (hpl : (backTo pos (starEach es X.env)).any (·.1) = false := by rfl) : PE X (.Call (.Name x p) (e :: es) [] pos) (rdE T W (mCall n g ms)) := by
  obtain ⟨fd, ps, h1, h2⟩ := F.ex
  exact (pe_callS h1 (hr.mono le) hg hm F.kp h2 (L2N.passAt px.tk) ha hd hst hpl).imp fun _ _ _ h => rd_call h
theorem xCall0 (px : Px X W) (F : FG T X.prog X.w X.K X.mg X.base j f n g) (hr : Room k X.A) (hm : X.mg x = some (.ref f)) (le : j ≤ k := by decide) (hg : Gl X x := by rfl) (hd : (x == ("__debug__" : Str)) = false := by decide) : PE X (.Call (.Name x p) [] [] pos) (rdE T W (mCall n g aNil)) := by
  obtain ⟨fd, ps, h1, h2⟩ := F.ex
  exact (pe_callS0 h1 (hr.mono le) hg hm F.kp h2 (L2N.passAt px.tk) hd).imp fun σ H Q h => by
    obtain ⟨ρ, sl, lh, sr, post⟩ := rd_call h
    exact post ρ H Le.refl sr.hr [] rfl
/-- a class of ours, with its __init__ -/
structure CG (T : Tb) (P : Program) (w : World) (K : PySem.W.Frag) (mg : Str → Option Value) (base : Heap) (k : Nat) (c : Nat) (x : Str) (f : Addr) (n : Nat) (g : Fn) : Prop where
  nm : T.cn[c]? = some x
  gl : mg x = some (.ref (He.ga T.K x))
  mkr : Mk K (He.ga T.K x) f
  fn : FG T P w K mg base k f n g
def tMakeS (C : Addr) (n : Nat) (sp : Sp) (E : L2.St → XK) (t : TA) : TE := fun σ H Q => t σ H fun vs H2 => vs.length + 1 = n ∧ ∀ x dx, H2 x = none → H2 dx = none → dx ≠ x →
  sp (.ref x :: vs) (upd (upd H2 dx (.own x)) x (.ins C dx [])) (fun v H3 => v = .non ∧ Q (.ref x) H3) (E σ)
theorem pe_makeS {CX : CXT} {fd : FuncData} {ps : List Str} {sp : Sp} {E : L2.St → XK} {t : TA} (M : Mk X.K C f) (F : FnOk X.prog X.w X.K X.mg X.base CX k f fd ps sp) (hr : Room (k + 1) X.A) (hg : Gl X x) (hm : X.mg x = some (.ref C)) (hb : Binds X.K fd ps []) (hx : ∀ σ, PassesAt CX X σ (E σ)) (ha : PA X (e :: es) t)
    (hdb : (x == ("__debug__" : Str)) = false := by decide) (he : starEach (e :: es) X.env = (false, eval e X.env) :: starEach es X.env := by rfl) (hpl : (backTo pos (starEach es X.env)).any (·.1) = false := by rfl) :
    PE X (.Call (.Name x p) (e :: es) [] pos) (tMakeS C n sp E t) := by
  refine ⟨fun pins s σ H Q I q0 => wpAny_Call_Name_kw (ld_glob I hg hm ?_ hdb)⟩
  refine PySem.W.callWith_K (h₀ := X.base) I.ok.mod.kin M.kp (thn (ha.run pos pins s σ H _ I q0) fun us s1 ⟨vs, H1, I1, r, hl, q⟩ => ⟨I1.kIn, ?_⟩) he hpl
  let y : Addr := s1.heap.objs.size + 1
  have hq := q y s1.heap.objs.size (I1.hok.fresh (Nat.le_succ _)) (I1.hok.fresh (Nat.le_refl _)) (Nat.ne_of_lt (Nat.lt_succ_self _))
  have J := Inv.made (C := C) I1
  have rr : Vals (V.ref y :: vs) (Value.ref y :: us) := .cons rfl r
  have ln : (Value.ref y :: us).length = ps.length := by rw [← rr.length]; exact F.len _ _ _ _ hq
  have bb := hb _ (Value.ref y :: us) J.kIn (by rw [List.append_nil]; exact ln)
  rw [List.append_nil] at bb
  have go := F.run _ X.stack _ _ ⟨Value.ref y :: us, []⟩ (Value.ref y :: us) _ _ (E σ) (hr.make C us []) (J.env0.make C us []) bb rr hq
  refine wpAny_call (make_map (f := f) I1.kIn M.makes M.init (beq_iff_eq.mp M.fn) (codeAny_mono go fun r s' z => ?_))
  match r, z with
  | .error e, z => exact hx σ pins _ _ e s' J z
  | .ok (.ret u), z =>
    obtain ⟨v, H', I3, rv, ev, q3⟩ := J.after z
    subst ev
    exact ⟨rv, V.ref y, H', I3, rfl, q3⟩
  | .ok .next, z => exact z.elim
  | .ok .brk, z => exact z.elim
  | .ok .cont, z => exact z.elim
theorem rd_make {σ : L2.St} {H : Hp} {Q : VK} {cc : Nat} (hc : T.cn[cc]? = some x) (h : rdE T W (mMake cc n g ms) σ H Q) : tMakeS (He.ga T.K x) n (spOf T n g) (atS W) (rdA T W ms) σ H Q := by
  obtain ⟨ρ, sl, lh, sr, post⟩ := h
  refine ⟨ρ, sl, lh, sr, (PostG.bind post).mono fun ds h1 ρ1 H1 le1 hr1 p1 vs rv => ?_⟩
  obtain ⟨hb, p1⟩ := cond_stuck p1
  have hn := Nat.eq_of_beq_eq_true hb
  exact ⟨by rw [← rv.length]; exact hn, fun p dx hp hd ne => make_go (k := 0) hc hr1 rv hn p1 hp hd ne⟩
theorem xMake (px : Px X W) {cc : Nat} (M : CG T X.prog X.w X.K X.mg X.base j cc x f n g) (hr : Room k X.A) (ha : PA X (e :: es) (rdA T W ms)) (le : j + 1 ≤ k := by decide) (hg : Gl X x := by rfl) (hd : (x == ("__debug__" : Str)) = false := by decide)
    (hst : starEach (e :: es) X.env = (false, eval e X.env) :: starEach es X.env := by rfl) (hpl : (backTo pos (starEach es X.env)).any (·.1) = false := by rfl) : PE X (.Call (.Name x p) (e :: es) [] pos) (rdE T W (mMake cc n g ms)) := by
  obtain ⟨fd, ps, h1, h2⟩ := M.fn.ex
  exact (pe_makeS M.mkr h1 (hr.mono le) hg M.gl h2 (L2N.passAt px.tk) ha hd hst hpl).imp fun _ _ _ h => rd_make M.nm h
/-- o.m(..) by the class of o -/
theorem xMeth (px : Px X W) (B : Bs T X) {o : Expr} {mo : ME} {mt : MTab} {nm : Str} {pl : Sem Bool} (hm : nm ∉ T.fn) (M : MtOk T X (L2N.CX X.prog X.w) nm mt) (ho : PE X o (rdE T W mo)) (ha : PA X (e :: es) (rdA T W ms))
    (hst : starEach (e :: es) X.env = (false, eval e X.env) :: starEach es X.env := by rfl) (hpl : (backTo pos (starEach es X.env)).any (·.1) = false := by rfl)
    (ht : eval (.Call (.Attribute o nm apos) (e :: es) [] pos) X.env = (do
      let ov ← eval o X.env
      standAt apos.atName
      let (f, first) ← holding [ov] (getMethod ov nm pl)
      callWith pos f first (backTo pos (starEach (e :: es) X.env)) (backToKw pos (keywordEach [] X.env))) := by rfl) : PE X (.Call (.Attribute o nm apos) (e :: es) [] pos) (rdE T W (mMeth mt mo ms)) :=
  (pe_methD ho (L2N.passAt px.tk) ha hst hpl ht).imp fun _ _ _ h => rd_meth B.ok B.K hm M h
theorem xMeth0 (px : Px X W) (B : Bs T X) {o : Expr} {mo : ME} {mt : MTab} {nm : Str} {pl : Sem Bool} (hm : nm ∉ T.fn) (M : MtOk T X (L2N.CX X.prog X.w) nm mt) (ho : PE X o (rdE T W mo))
    (ht : eval (.Call (.Attribute o nm apos) [] [] pos) X.env = (do
      let ov ← eval o X.env
      standAt apos.atName
      let (f, first) ← holding [ov] (getMethod ov nm pl)
      callWith pos f first (backTo pos (starEach [] X.env)) (backToKw pos (keywordEach [] X.env))) := by rfl) : PE X (.Call (.Attribute o nm apos) [] [] pos) (rdE T W (mMeth mt mo aNil)) :=
  (pe_methD0 ho (L2N.passAt px.tk) ht).imp fun σ H Q h => by
    obtain ⟨ρ, sl, lh, sr, post⟩ := rd_meth B.ok B.K hm M h
    refine ⟨ρ, sl, lh, sr, post.mono fun d h1 ρ1 H1 le1 hr1 p1 v rv => ?_⟩
    obtain ⟨a, C, dx, fs, f, fd, ps, sp, k, h1, h2, h3, h4, h5, h6, h7, h8, ρ2, sl2, lh2, sr2, post2⟩ := p1 v rv
    exact ⟨a, C, dx, fs, f, fd, ps, sp, k, h1, h2, h3, h4, h5, h6, h7, h8, post2 ρ2 H1 Le.refl sr2.hr [] rfl⟩
/-- a method table by its classes -/
theorem mt_nil {nm : Str} : MtOk T X (L2N.CX X.prog X.w) nm [] := fun c n g x e => nomatch e
theorem mt_cons {nm : Str} {cc : Nat} {y : Str} {mt : MTab} (hc : T.cn[cc]? = some y) (M : Meth X.K (He.ga T.K y) nm f) (F : FG T X.prog X.w X.K X.mg X.base j f n g) (hr : Room k X.A) (le : j ≤ k) (r : MtOk T X (L2N.CX X.prog X.w) nm mt) : MtOk T X (L2N.CX X.prog X.w) nm ((cc, n, g) :: mt) := by
  intro c n' g' x e hx
  unfold mtLook at e
  cases hb : Nat.beq cc c with
  | false => simp only [hb] at e; exact r c n' g' x e hx
  | true =>
    simp only [hb] at e
    cases e
    have := Nat.eq_of_beq_eq_true hb
    subst this
    rw [hc] at hx
    cases hx
    obtain ⟨fd, ps, h1, h2⟩ := F.ex
    exact ⟨f, fd, ps, j, M, h1, hr.mono le, h2⟩
theorem xFnB {id : String} {g : Fn} (hc : CallR X (.builtin id) (rdFn T E0 g)) (hm : X.mg x = none) (hv : bootBuiltins x = some (.builtin id)) (ha : PA X (e :: es) (rdA T W ms)) (hg : Gl X x := by rfl) (hn : x ≠ "__name__" := by decide) (hdb : (x == ("__debug__" : Str)) = false := by decide)
    (hst : starEach (e :: es) X.env = (false, eval e X.env) :: starEach es X.env := by rfl) (hpl : (backTo pos (starEach es X.env)).any (·.1) = false := by rfl) : PE X (.Call (.Name x p) (e :: es) [] pos) (rdE T W (mFn g ms)) :=
  (pe_callB hc hg hm hv ha hn hdb hst hpl).imp fun _ _ _ h => rd_fn h
theorem xFnT {id : String} {g : Fn} (hc : CallR X (.type id) (rdFn T E0 g)) (hm : X.mg x = none) (hv : bootBuiltins x = some (.type id)) (ha : PA X (e :: es) (rdA T W ms)) (hg : Gl X x := by rfl) (hn : x ≠ "__name__" := by decide) (hdb : (x == ("__debug__" : Str)) = false := by decide)
    (hst : starEach (e :: es) X.env = (false, eval e X.env) :: starEach es X.env := by rfl) (hpl : (backTo pos (starEach es X.env)).any (·.1) = false := by rfl) : PE X (.Call (.Name x p) (e :: es) [] pos) (rdE T W (mFn g ms)) :=
  (pe_callTy hc hg hm hv ha hn hdb hst hpl).imp fun _ _ _ h => rd_fn h
variable {s1 s2 : MS} {st : Stmt} {rest sa sb : List Stmt} {tg : Expr} {mg : MG}
theorem zN : PSs X [] (rdS T W sSkip) := pss_nil.imp fun _ _ _ h => rd_skip h
theorem z1 (h1 : PS X st (rdS T W s1)) : PSs X [st] (rdS T W s1) := pss_one h1
theorem zC (h1 : PS X st (rdS T W s1)) (h2 : PSs X rest (rdS T W s2)) : PSs X (st :: rest) (rdS T W (sSeq s1 s2)) := (pss_cons h1 h2).imp fun _ _ _ h => rd_seq h
theorem sEx (h : PE X e (rdE T W m)) (hs : swapsWith e none pos.line X.env = pure false := by rfl) : PS X (.Expr e pos) (rdS T W (sExpr m)) := (ps_expr h hs).imp fun _ _ _ h => rd_expr h
theorem sR (h : PE X e (rdE T W m)) : PS X (.Return (some e) pos) (rdS T W (sRet m)) := (ps_ret h).imp fun _ _ _ h => rd_ret h
theorem sR0 : PS X (.Return none pos) (rdS T W sRetN) := ps_retN.imp fun _ _ _ h => rd_retN h
theorem sI (hc : PT X c (rdT T W mt)) (ha : PSs X sa (rdS T W s1)) (hb : PSs X sb (rdS T W s2)) : PS X (.If c sa sb pos) (rdS T W (sIf mt s1 s2)) := (ps_if hc ha hb).imp fun _ _ _ h => rd_ifS h
theorem sW (n : Nat) (px : Px X W) (hc : PT X c (rdT T W mt)) (hb : PSs X sa (rdS T W s1)) : PS X (.While c sa [] pos) (rdS T W (sWhile mt s1 n)) := (ps_while px.own hc hb).imp fun _ _ _ h => rd_while h
theorem gNm (B : Bs T X) (i : Nat) (hi : X.N[i]? = some x := by rfl) (hx : Loc X.env.scope x := by first | exact Or.inl rfl | exact Or.inr rfl) (hf : X.fn x = true ∨ X.env.scope.names.lookup x = some .local := by first | exact .inl rfl | exact .inr rfl) : PG X (.Name x pos) (rdG T (gN i)) :=
  pgImp (pg_name B.nd hi hx hf) fun _ _ _ _ h => rd_gN h
theorem gNs : PGs X [] (rdGs T gsNil) := pgsImp pgs_nil fun _ _ _ _ h => rd_gsNil h
theorem gCs {gs : MGs} (h1 : PG X e (rdG T mg)) (h2 : PGs X es (rdGs T gs)) (hs : (assignEach (e :: es) X.env).map (·.2) = assign e X.env :: (assignEach es X.env).map (·.2) := by rfl) : PGs X (e :: es) (rdGs T (gsCons mg gs)) := pgsImp (pgs_cons h1 h2 hs) fun _ _ _ _ h => rd_gsCons h
theorem gTp (B : Bd T X) {gs : MGs} {kk : Nat} (h : PGs X es (rdGs T gs)) (hn : (assignEach es X.env).length = n := by rfl) (hst : (assignEach es X.env).findIdx? (·.1) = none := by rfl) : PG X (.Tuple es kk pos) (rdG T (gTupM n gs)) := pgImp (pg_tup B.calm h hn hst) fun _ _ _ _ h => rd_gTup B.K h
theorem gAt (B : Bs T X) (i : Nat) (ho : PE X e (rdE T W0 m)) (hx : T.fn[i]? = some x := by rfl) : PG X (.Attribute e x pos) (rdG T (gAttr i m)) := pgImp (pg_attr ho) fun _ _ _ _ h => rd_gAttr B.ok B.K hx h
theorem gSb (B : Bs T X) (ho : PE X a (rdE T W0 ma)) (hi : PE X b (rdE T W0 mb)) (h3 : ∀ v, assign (.Subscript a b pos) X.env v = (do
      let ov ← holding [v] (eval a X.env)
      let iv ← holding [v, ov] (eval b X.env)
      standAt pos
      holding [v, ov, iv] (setItem ov iv v)
      release [v, ov, iv] []) := by intro _; rfl) : PG X (.Subscript a b pos) (rdG T (gSubM ma mb)) := pgImp (pg_sub ho hi (ps_set_ok (E := E0) B.K B.w B.u) h3) fun _ _ _ _ h => rd_gSub h
theorem sA (h : PE X e (rdE T W m)) (hg : PG X tg (rdG T mg)) (hs : swapsWithSole [tg] e pos.line X.env = pure false := by rfl) (hw : swappedStores [tg] e X.env = pure none := by rfl)
    (h1 : (assignEach [tg] X.env).map (·.2) = [assign tg X.env] := by rfl) : PS X (.Assign [tg] e pos) (rdS T W (sAsg m mg)) := (ps_asg h hg hs hw h1).imp fun _ _ _ h => rd_asg h
theorem sP (B : Bd T X) (i j : Nat) {y z : Str} {px py pt : Pos} {kt k2 pt2} (ha : PA X [a, b] (rdA T W ms)) (hi : X.N[i]? = some y := by rfl) (hj : X.N[j]? = some z := by rfl) (hij : i ≠ j := by decide)
    (hx : X.env.scope.names.lookup y = some .local := by rfl) (hy : X.env.scope.names.lookup z = some .local := by rfl)
    (hw : swappedStores [.Tuple [.Name y px, .Name z py] kt pt] (.Tuple [a, b] k2 pt2) X.env = pure (some [y, z]) := by rfl)
    (hs : swapsWithSole [.Tuple [.Name y px, .Name z py] kt pt] (.Tuple [a, b] k2 pt2) pos.line X.env = pure false := by rfl) :
    PS X (.Assign [.Tuple [.Name y px, .Name z py] kt pt] (.Tuple [a, b] k2 pt2) pos) (rdS T W (sPar i j ms)) := (ps_par B.calm B.nd hi hj hij hx hy ha hw hs).imp fun _ _ _ h => rd_par h
variable {mi : MI} {t : Tg}
theorem tgN (B : Bs T X) (i : Nat) (hi : X.N[i]? = some x := by rfl) (hx : Loc X.env.scope x := by first | exact Or.inl rfl | exact Or.inr rfl) (hf : X.fn x = true ∨ X.env.scope.names.lookup x = some .local := by first | exact .inl rfl | exact .inr rfl) : PG X (.Name x pos) (tgR X.K (.nm i)) := pg_name B.nd hi hx hf
theorem tsN : PGs X [] (gsR []) := pgs_nil
theorem tsC (B : Bs T X) (i : Nat) {is : List Nat} (h : PGs X es (gsR is)) (hi : X.N[i]? = some x := by rfl) (hx : Loc X.env.scope x := by first | exact Or.inl rfl | exact Or.inr rfl) (hf : X.fn x = true ∨ X.env.scope.names.lookup x = some .local := by first | exact .inl rfl | exact .inr rfl)
    (hs : (assignEach (.Name x pos :: es) X.env).map (·.2) = assign (.Name x pos) X.env :: (assignEach es X.env).map (·.2) := by rfl) : PGs X (.Name x pos :: es) (gsR (i :: is)) := pgs_cons (pg_name B.nd hi hx hf) h hs
theorem tgT (B : Bd T X) {is : List Nat} {kk : Nat} (h : PGs X es (gsR is)) (hn : (assignEach es X.env).length = is.length := by rfl) (hst : (assignEach es X.env).findIdx? (·.1) = none := by rfl) : PG X (.Tuple es kk pos) (tgR X.K (.tp is)) := pg_tup B.calm h hn hst
theorem sF (B : Bd T X) (px : Px X W) (hi : PI X tg e (rdI T W mi)) (hg : PG X tg (tgR X.K t)) (hb : PSs X sa (rdS T W s1)) (hs : ∀ x, foldedSetIterable e X.env x = pure x := by intro _; rfl) : PS X (.For tg e sa [] pos) (rdS T W (sFor mi t s1)) :=
  (ps_for px.own B.calm hi hg hb hs).imp fun _ _ _ h => rd_for B.K h
theorem iA (B : Bs T X) (h : PE X e (rdE T W m)) : PI X tg e (rdI T W (iAny m)) := pi_any B.K h
theorem PI_imp {w w' : TI} (h : PI X tg e w) (k : ∀ σ H R, w' σ H R → w σ H R) : PI X tg e w' := ⟨fun pins s σ H R I q => h.run pins s σ H R I (k σ H R q)⟩
theorem iR1 (hm : X.mg "range" = none) (ha : PA X [a] (rdA T W ms)) (hg : Gl X "range" := by rfl) (hs : starEach [a] X.env = [(false, eval a X.env)] := by rfl) : PI X tg (.Call (.Name "range" p) [a] [] pos) (rdI T W (iRange1 ms)) := PI_imp (pi_range1 hg hm ha hs) fun _ _ _ h => rd_range1 h
theorem yN : PTs X [] (rdT T W mYes) := ⟨fun pins s σ H Q I h => pts_nil.run pins s σ H Q I (by obtain ⟨ρ, sl, lh, sr, post⟩ := h; exact post ρ H Le.refl sr.hr)⟩
theorem y1 (h : PT X c (rdT T W mt)) : PTs X [c] (rdT T W mt) := pts_one h
theorem xLc (B : Bd T X) {own : List (Str × Nat)} {tg iter elt : Expr} {ifs : List Expr} {scope : Scope} {me : ME} (hi : PI X tg iter (rdI T W mi)) (ok : blkC X.N X.env.scope scope own = true)
    (h : ∀ (s : Shared) (H : Hp) (C : Addr) (cl : List (Str × Addr)) (fp : List Addr), PG (X.blk s H scope (compEnvC scope cl C X.env) fp) tg (tgR X.K t) ∧ PTs (X.blk s H scope (compEnvC scope cl C X.env) fp) ifs (rdT T W0 mt) ∧ PE (X.blk s H scope (compEnvC scope cl C X.env) fp) elt (rdE T W0 me))
    (hpf : pinFree T (own.map (·.2)) = true := by rfl) (ht : (tgIs t).all (fun i => (own.map (·.2)).contains i) = true := by rfl) (hs : ∀ x, foldedSetIterable iter X.env x = pure x := by intro _; rfl) :
    PE X (.ListComp elt [⟨tg, iter, ifs, 0⟩] scope pos) (rdE T W (mLc mi t mt me (own.map (·.2)))) :=
  (pe_lc B.calm B.nd hi (blkOk_by ok) (fun s H C cl fp => (h s H C cl fp).1) (fun s H C cl fp => (h s H C cl fp).2.1) (fun s H C cl fp => (h s H C cl fp).2.2) hs).imp fun _ _ _ q => rd_lc B.K hpf (fun i hi => by simpa using List.all_eq_true.mp ht i hi) q
/-- name = [..] on one line -/
theorem sLc (B : Bd T X) (i : Nat) {y : Str} {py spos : Pos} {own : List (Str × Nat)} {tg iter elt : Expr} {ifs : List Expr} {scope : Scope} {me : ME} (hi : PI X tg iter (rdI T W mi)) (ok : blkC X.N X.env.scope scope own = true)
    (h : ∀ (s : Shared) (H : Hp) (C : Addr) (cl : List (Str × Addr)) (fp : List Addr), PG (X.blk s H scope (compEnvC scope cl C X.env) fp) tg (tgR X.K t) ∧ PTs (X.blk s H scope (compEnvC scope cl C X.env) fp) ifs (rdT T W0 mt) ∧ PE (X.blk s H scope (compEnvC scope cl C X.env) fp) elt (rdE T W0 me))
    (hy : X.N[i]? = some y := by rfl) (hyl : X.env.scope.names.lookup y = some .local := by rfl) (hsw : swapsWith (.ListComp elt [⟨tg, iter, ifs, 0⟩] scope pos) (some (.Name y py)) spos.line X.env = pure true := by exact sw_true rfl rfl rfl rfl)
    (hpf : pinFree T (own.map (·.2)) = true := by rfl) (ht : (tgIs t).all (fun i => (own.map (·.2)).contains i) = true := by rfl) (hs : ∀ x, foldedSetIterable iter X.env x = pure x := by intro _; rfl) :
    PS X (.Assign [.Name y py] (.ListComp elt [⟨tg, iter, ifs, 0⟩] scope pos) spos) (rdS T W (sAsg (mLc mi t mt me (own.map (·.2))) (gN i))) :=
  (ps_setLc B.calm B.nd hy hyl hsw hi (blkOk_by ok) (fun s H C cl fp => (h s H C cl fp).1) (fun s H C cl fp => (h s H C cl fp).2.1) (fun s H C cl fp => (h s H C cl fp).2.2) hs).imp fun D σ H q => by
    have q := rd_asg q
    show tLc _ _ _ _ _ σ H _
    refine rd_lc B.K hpf (fun i hi => by simpa using List.all_eq_true.mp ht i hi) ?_
    obtain ⟨ρ, sl, lh, sr, post⟩ := q
    exact ⟨ρ, sl, lh, sr, post.mono fun d h1 ρ1 H1 le1 hr1 p1 v rv => rd_gN (p1 v rv)⟩
end
end TL
namespace TL
open PySem PySem.Spec PyProof.Rows L2
abbrev XT (T : Tb) (sp : List (Nat × V)) (q : Option XfI) : Tb := { T with sp := sp, xf := q }
section
variable {T : Tb} {sp : List (Nat × V)} {q : Option XfI} {ρ : List Addr} {H : Hp}
mutual
theorem relD_T : ∀ (d : D) (v : V), RelD (XT T sp q) ρ H d v = RelD T ρ H d v
  | .non, _ => rfl
  | .bl _, _ => rfl
  | .int _, _ => rfl
  | .str _, _ => rfl
  | .obj _, _ => rfl
  | .lam _, _ => rfl
  | .tup ds, v => by
    show (∃ a vs, v = .ref a ∧ SqT T.K H a vs ∧ RelDs (XT T sp q) ρ H ds vs) = (∃ a vs, v = .ref a ∧ SqT T.K H a vs ∧ RelDs T ρ H ds vs)
    simp only [relDs_T ds]
  | .kls ds, v => by
    show (∃ a vs, v = .ref a ∧ SqF T.K ρ H a vs ∧ RelDs (XT T sp q) ρ H ds vs) = (∃ a vs, v = .ref a ∧ SqF T.K ρ H a vs ∧ RelDs T ρ H ds vs)
    simp only [relDs_T ds]
theorem relDs_T : ∀ (ds : List D) (vs : List V), RelDs (XT T sp q) ρ H ds vs = RelDs T ρ H ds vs
  | [], _ => rfl
  | d :: ds, vs => by
    show (∃ v r, vs = v :: r ∧ RelD (XT T sp q) ρ H d v ∧ RelDs (XT T sp q) ρ H ds r) = (∃ v r, vs = v :: r ∧ RelD T ρ H d v ∧ RelDs T ρ H ds r)
    simp only [relD_T d, relDs_T ds]
end
theorem ents_T (kd : Bool) : ∀ (xs : List (NestedKey × D × D)) (es : List DictEntry), EntsR (XT T sp q) ρ H kd xs es = EntsR T ρ H kd xs es
  | [], _ => rfl
  | x :: r, es => by
    show (∃ e es', es = e :: es' ∧ EntR (XT T sp q) ρ H kd x e ∧ EntsR (XT T sp q) ρ H kd r es') = (∃ e es', es = e :: es' ∧ EntR T ρ H kd x e ∧ EntsR T ρ H kd r es')
    simp only [ents_T kd r, EntR, relD_T]
theorem fs_T : ∀ (xs : List (Nat × D)) (es : List (Str × V)), FsR (XT T sp q) ρ H xs es = FsR T ρ H xs es
  | [], _ => rfl
  | x :: r, es => by
    show (∃ y v r', es = (y, v) :: r' ∧ T.fn[x.1]? = some y ∧ RelD (XT T sp q) ρ H x.2 v ∧ FsR (XT T sp q) ρ H r r') = (∃ y v r', es = (y, v) :: r' ∧ T.fn[x.1]? = some y ∧ RelD T ρ H x.2 v ∧ FsR T ρ H r r')
    simp only [fs_T r, relD_T]
theorem obj_T (a : Addr) (o : LO) : ObjR (XT T sp q) ρ H a o = ObjR T ρ H a o := by
  cases o with
  | lst lk ds => simp only [ObjR, relDs_T]
  | dct kd kvs => simp only [ObjR, ents_T]
  | ins c fs => simp only [ObjR, fs_T]
  | abs k n m => rfl
theorem hr_T (lh : LH) : HR (XT T sp q) ρ H lh ↔ HR T ρ H lh :=
  ⟨fun h => ⟨h.len, h.nd, h.tk, fun n o e => let ⟨a, h1, h2⟩ := h.obj n o e; ⟨a, h1, by rw [← obj_T]; exact h2⟩, h.tab⟩,
    fun h => ⟨h.len, h.nd, h.tk, fun n o e => let ⟨a, h1, h2⟩ := h.obj n o e; ⟨a, h1, by rw [obj_T]; exact h2⟩, h.tab⟩⟩
theorem ok_T (ok : T.Ok) : (XT T sp q).Ok := ⟨ok.fnd, ok.cls, ok.noat, ok.isT, ok.isO, ok.isB, ok.cnd⟩
end
def wCl (K : PySem.W.Frag) (Wout : WX) (D : Ends) : List Cl → WX
  | [] => Wout
  | k :: r => fun cls d σ H => ∃ b, PySem.W.exmOne K cls k.c = some b ∧ (b = true → ∀ a, H a = none → k.take D a cls d σ H) ∧ (b = false → wCl K Wout D r cls d σ H)
inductive ClsOk (X : Cx) : List ExceptHandler → List Cl → Prop
  | nil : ClsOk X [] []
  | bare {x : Str} {c : Value} {ts : Addr → Value → Option Addr → TS} {b1 : Stmt} {bs : List Stmt} {p1 p2 : Pos} {hs : List ExceptHandler} {l : List Cl} (hc : Names X x c)
      (su : ∀ (a : Addr) (oe : Obj) (cls : Value) (d : Option Addr) (pn : List (Addr × Obj)), L2N.Zn cls d oe → (∃ vs, oe.data = .fields vs) → PSs (X.suite a ((a, oe) :: pn)) (b1 :: bs) (ts a cls d)) (r : ClsOk X hs l) :
      ClsOk X (.ExceptHandler (some (.Name x p1)) none (b1 :: bs) p2 :: hs) (⟨c, none, ts⟩ :: l)
  | named {x n : Str} {i : Nat} {c : Value} {ts : Addr → Value → Option Addr → TS} {b1 : Stmt} {bs : List Stmt} {p1 p2 : Pos} {hs : List ExceptHandler} {l : List Cl} (hc : Names X x c) (hi : X.N[i]? = some n) (hl : X.env.kindOf n = some .local)
      (su : ∀ (a : Addr) (oe : Obj) (cls : Value) (d : Option Addr) (pn : List (Addr × Obj)), L2N.Zn cls d oe → (∃ vs, oe.data = .fields vs) → PSs (X.suite a ((a, oe) :: pn)) (b1 :: bs) (ts a cls d)) (r : ClsOk X hs l) :
      ClsOk X (.ExceptHandler (some (.Name x p1)) (some n) (b1 :: bs) p2 :: hs) (⟨c, some i, ts⟩ :: l)
theorem ps_tryC {X : Cx} {body : List Stmt} {hd : ExceptHandler} {hs : List ExceptHandler} {l : List Cl} {pos : Pos} {tb : WX → TS} {Wo : WX} (st : X.stack = X.env :: X.outer) (fr : X.env.frame = some X.env.locals) (nd : X.N.Nodup) (tk : L2N.Takes X Wo)
    (hb : ∀ (W : WX) (pn : List (Addr × Obj)) (xe : Value → Shared → Prop), Px (X.tr pn xe) W → PSs (X.tr pn xe) body (tb W)) (hh : ClsOk X (hd :: hs) l) :
    PS X (.Try body (hd :: hs) [] [] pos) (fun D σ H => tb (wCl X.K Wo D l) D σ H) := by
  refine ⟨fun pins s σ H D I h => ?_⟩
  have ok := I.ok
  have frA : X.A.frames = some (X.env :: X.outer) := by rw [ok.frames, st]
  let xe1 : Value → Shared → Prop := fun e s1 => wpAny (model X.prog X.w) X.A (noteFrame e X.env) (fun _ s2 => wpAny (model X.prog X.w) X.A (setFlight e none) (fun _ s3 => wpAny (model X.prog X.w) X.A (handleBy e X.env (hd :: hs)) (SP X pins D) X.xe s3) X.xe s2) X.xe s1
  have caught : L2N.Takes (X.tr (X.pn ++ pins) xe1) (wCl X.K Wo D l) := by
    intro u s1 ⟨a, B, sI, pq, σ1, H1, cls, d, eu, J0, nb, up, sky, na, eos, ag, w⟩
    subst eu
    have J : Inv X pins σ1 H1 sI := J0.ofTry ok
    have sky1 : Sky B (X.env :: X.outer) a (L2N.Zn cls d) X.env.locals s1.heap := by rw [← st]; exact sky
    show wpAny _ _ (noteFrame (.ref a) X.env) _ _ _
    refine L2N.Sky.land L2N.Zn.steady frA fr sky1 fun g3 fl up3 => ?_
    have Jg : ∀ {g : Heap}, HandSPX.FlyingZ B (X.env :: X.outer) a (L2N.Zn cls d) g → s1.heap.UpToSlots g → Inv X pins σ1 H1 { s1 with heap := g } := fun f u => J.landed nb f.1 (up.trans u) eos ag
    obtain ⟨oe, vs, he, hz, hd3⟩ := fl.there
    have J3 := Jg fl up3
    have out : a ∉ frs (X.env :: X.outer) := fun hm => by
      obtain ⟨_, o1, e1, nf⟩ := fl.2.2.1.mem hm
      rw [he] at e1
      cases e1
      exact nf _ hd3
    have nL : a ≠ X.env.locals := fun z => out (List.mem_filterMap.mpr ⟨X.env, List.mem_cons_self, by rw [fr, z]⟩)
    have nF : a ∉ X.fs := fun hm => by
      obtain ⟨e, m1, m2⟩ := List.mem_filterMap.mp hm
      exact out (List.mem_filterMap.mpr ⟨e, List.mem_cons_of_mem _ m1, m2⟩)
    have S3 := J3.suite he hd3 na nL nF
    have looks : PySem.W.Looks (model X.prog X.w) g3 (typeOf (.ref a)) cls := fun A Q E s k q => wpAny_typeOf_ref (k _ _ he) (by rw [hz.1]; exact q)
    have test : ∀ {x : Str} {c : Value} {p1 : Pos} {Q E : Value → Shared → Prop}, Names X x c → Q c { s1 with heap := g3 } → wpAny (model X.prog X.w) (X.A.mark (some (.ref a))) (eval (.Name x p1) X.env) Q E { s1 with heap := g3 } := by
      intro x c p1 Q E hc q
      obtain ⟨hg, hdb, hm | ⟨hm, hv, hn⟩⟩ := hc
      · exact ld_glob (X := X.suite a ((a, oe) :: (X.pn ++ pins))) S3 hg hm q hdb
      · exact ld_blt (X := X.suite a ((a, oe) :: (X.pn ++ pins))) S3 hg hm hv q hn hdb
    have go : ∀ {hs1 : List ExceptHandler} {l1 : List Cl}, ClsOk X hs1 l1 → wCl X.K Wo D l1 cls d σ1 H1 → wpAny (model X.prog X.w) X.A (handleBy (.ref a) X.env hs1) (SP X pins D) X.xe { s1 with heap := g3 } := by
      intro hs1 l1 k
      induction k with
      | nil =>
        intro w
        refine wpAny_handleBy_nil ?_
        obtain ⟨_, _, _, o5, v5, T5, oT5, t5, h5, z5, d5, f5, r5⟩ := id fl
        unfold PySem.passOn
        refine wpAny_bind (wpAny_field h5 d5 f5 ?_)
        rw [if_neg (show ¬ ((Value.ref T5 == Value.none) = true) from by simp)]
        have fin : wpAny (model X.prog X.w) X.A (setFlight (.ref a) X.env.frame) (fun _ s4 => wpAny (model X.prog X.w) X.A (throw (.ref a) : Sem Flow) (SP X pins D) X.xe s4) X.xe { s1 with heap := g3 } := by
          rw [fr]
          exact HandSPX.setFlight_upZ fl fun g4 hh4 up4 => wpAny_throw (tk _ _ ⟨a, B, sI, pins, σ1, H1, cls, d, rfl, J, nb, (up.trans up3).trans up4, .inr (.inr (by rw [st]; exact hh4)), na, eos, ag, w⟩)
        first
          | exact wpAny_bind (wpAny_pure (wpAny_bind fin))
          | exact wpAny_bind fin
      | bare hc su r ih =>
        intro ⟨b, hb1, yes, no⟩
        refine wpAny_handleBy_cons (codeAny_handlers_test ?_) (fun q => nomatch q)
        refine test hc ((PySem.W.exm_one (M := model X.prog X.w) J3.kIn looks hb1).here ?_)
        cases b with
        | false => exact ih (no rfl)
        | true =>
          refine codeAny_handlers_suite (HandSPX.lands_againZ fl fun g4 fl4 up4 => ?_)
          obtain ⟨o4, v4, h4, z4, d4⟩ := fl4.there
          have S4 := (Jg fl4 (up3.trans up4)).suite h4 d4 na nL nF
          refine wpAny_mono ((su a o4 cls d (X.pn ++ pins) z4 ⟨_, d4⟩).run [] _ _ H1 _ S4 (yes rfl a na)) (fun f s6 q => ?_) fun _ _ z => z.elim
          match f, q with
          | .next, ⟨σ6, H6, S6, q6⟩ => exact ⟨σ6, H6, S6.unsuite ok, q6⟩
          | .brk, ⟨σ6, H6, S6, q6⟩ => exact ⟨σ6, H6, S6.unsuite ok, q6⟩
          | .cont, ⟨σ6, H6, S6, q6⟩ => exact ⟨σ6, H6, S6.unsuite ok, q6⟩
          | .ret u, ⟨v6, σ6, H6, S6, r6, q6⟩ => exact ⟨v6, σ6, H6, S6.unsuite ok, r6, q6⟩
      | @named x n i c ts b1 bs p1 p2 hs2 l2 hc hi hl su r ih =>
        intro ⟨b, hb1, yes, no⟩
        refine wpAny_handleBy_cons (codeAny_handlers_test ?_) (fun q => nomatch q)
        refine test hc ((PySem.W.exm_one (M := model X.prog X.w) J3.kIn looks hb1).here ?_)
        cases b with
        | false => exact ih (no rfl)
        | true =>
          refine codeAny_handlers_suite_as (HandSPX.lands_againZ fl fun g4 fl4 up4 => ?_)
          obtain ⟨o4, v4, h4, z4, d4⟩ := fl4.there
          have S4 := (Jg fl4 (up3.trans up4)).suite h4 d4 na nL nF
          refine store_ok (X := X.suite a ((a, o4) :: (X.pn ++ pins))) (v := .ref a) S4 nd hi (.inl hl) rfl (fun s5 S5 => ?_) (.inr hl)
          refine wpAny_mono ((su a o4 cls d (X.pn ++ pins) z4 ⟨_, d4⟩).run [] s5 _ H1 _ S5 (yes rfl a na)) (fun f s6 q => ?_) fun _ _ z => z.elim
          have bye : ∀ {σ6 : L2.St} {H6 : Hp} {Q : Shared → Prop}, Inv (X.suite a ((a, o4) :: (X.pn ++ pins))) [] σ6 H6 s6 → (∀ s7, Inv X pins (σ6.set i none) H6 s7 → Q s7) →
              wpAny (model X.prog X.w) X.A (do bindName X.env n .none; unbindBehindTheSuite X.env n p2) (fun _ s7 => Q s7) X.xe s6 := fun S6 hq => gone_ok (S6.unsuite ok) nd hi hl hq
          match f, q with
          | .next, ⟨σ6, H6, S6, q6⟩ => exact bye S6 fun s7 J7 => ⟨_, _, J7, q6⟩
          | .brk, ⟨σ6, H6, S6, q6⟩ => exact bye S6 fun s7 J7 => ⟨_, _, J7, q6⟩
          | .cont, ⟨σ6, H6, S6, q6⟩ => exact bye S6 fun s7 J7 => ⟨_, _, J7, q6⟩
          | .ret u, ⟨v6, σ6, H6, S6, r6, q6⟩ => exact bye S6 fun s7 J7 => ⟨_, _, _, J7, r6, q6⟩
    exact go hh w
  refine wpAny_Try_except (wpAny_mono ((hb (wCl X.K Wo D l) (X.pn ++ pins) xe1 ⟨PassesOwn.looking, caught⟩).run [] s σ H D (I.toTry _) h) (fun f s1 q => ?_) fun e s1 he => he)
  match f, q with
  | .next, ⟨σ6, H6, S6, q6⟩ => exact wpAny_execs_nil ⟨σ6, H6, S6.ofTry ok, q6⟩
  | .brk, ⟨σ6, H6, S6, q6⟩ => exact ⟨σ6, H6, S6.ofTry ok, q6⟩
  | .cont, ⟨σ6, H6, S6, q6⟩ => exact ⟨σ6, H6, S6.ofTry ok, q6⟩
  | .ret u, ⟨v6, σ6, H6, S6, r6, q6⟩ => exact ⟨v6, σ6, H6, S6.ofTry ok, r6, q6⟩
section
variable {T : Tb} {W : WX} {ρ : List Addr} {H : Hp} {lh : LH} {X : Cx} {σ : L2.St}
theorem le_fresh {p : Addr} {o : HO} (h : HR T ρ H lh) (hp : H p = none) : Le ρ lh H ρ lh (upd H p o) :=
  ⟨⟨List.prefix_refl _, fun a ys e => by rw [upd_ne (ne_of_none e hp)]; exact e, fun a o u e => by rw [upd_ne (ne_of_none e hp)]; exact e, fun a n e _ => ⟨upd_ne (fun z => e (by rw [z]; exact hp)), n⟩⟩, fun _ _ => Nat.le_refl _,
    fun n a e _ => upd_ne (h.ne hp (List.mem_of_getElem? e))⟩
theorem hr_fresh {p : Addr} {o : HO} (h : HR T ρ H lh) (hp : H p = none) : HR T ρ (upd H p o) lh := by
  refine ⟨h.len, h.nd, fun a ha => by rw [upd_ne (h.ne hp ha)]; exact h.tk a ha, fun n o' e => ?_, fun q hq => (h.tab q hq).keep (h.tab q hq).1 (fun b _ hb => upd_ne fun z => hb (by rw [z]; exact hp)) fun b n _ => n⟩
  obtain ⟨a, h1, h2⟩ := h.obj n o' e
  exact ⟨a, h1, h2.keep (le_fresh (o := o) h hp).toLe0 (upd_ne (h.ne hp (List.mem_of_getElem? h1)))⟩
theorem rd_raise0 {c : Nat} {x : Str} {Dd : Ends} (hx : T.xn[c]? = some (x, none)) (h : rdS T W (sRaise0 c) Dd σ H) : W (.ref (He.ga T.K x)) none σ H := by
  obtain ⟨ρ, sl, lh, sr, post⟩ := h
  exact post ρ H σ _ _ Le.refl sr ⟨x, none, hx, rfl, rfl, rfl⟩
/-- C(e), e kept in the field f -/
def tMkF (C : Addr) (f : Str) (te : TA) : L2.St → Hp → XK → Prop := fun σ H Q => te σ H fun vs H1 => ∃ v, vs = [v] ∧ ∀ d, H1 d = none → Q (.ref C) (some d) (upd H1 d (.xd [(f, v)]))
theorem rd_raise {c : Nat} {x f : Str} {ms : MA} {Dd : Ends} (hx : T.xn[c]? = some (x, some f)) (h : rdS T W (sRaise c ms) Dd σ H) : tMkF (He.ga T.K x) f (rdA T W ms) σ H fun cls d H' => W cls d σ H' := by
  obtain ⟨ρ, sl, lh, sr, post⟩ := h
  refine ⟨ρ, sl, lh, sr, (PostS.bind sr post).mono fun ds h1 ρ1 H1 le1 hr1 p1 vs rv => ?_⟩
  match ds, rv, p1 with
  | [d], rv, p1 =>
    obtain ⟨v, ev, r⟩ := rel1 rfl rv
    refine ⟨v, ev, fun a ha => ?_⟩
    have le := le_fresh (o := .xd [(f, v)]) hr1 ha
    exact p1 ρ1 _ σ _ _ le ((sr.mono le1 hr1).mono le (hr_fresh hr1 ha)) ⟨x, some f, hx, rfl, a, v, rfl, upd_same, fun z => hr1.trk a z ha, r.mono le.toLe0⟩
  | [], _, p1 => exact p1.elim
  | _ :: _ :: _, _, p1 => exact p1.elim
/-- what is known of the error at hand -/
def HxOk (T : Tb) (c : Nat) (p : D) (cls : Value) (d : Option Addr) (q : Option XfI) : Prop := ∃ x fo, T.xn[c]? = some (x, fo) ∧ cls = .ref (He.ga T.K x) ∧ match fo with
  | none => d = none ∧ p = .non ∧ q = none
  | some f => ∃ dd v, d = some dd ∧ q = some ⟨dd, f, v, p⟩
def clR (T : Tb) (k : Hc) : Addr → Value → Option Addr → TS := fun a cls d D σ H => match k.nm with
  | none => ∃ c p, rdS T W0 (k.m c p) D σ H
  | some i => ∃ c p q, HxOk T c p cls d q ∧ rdS (XT T [(i, .ref a)] q) W0 (k.m c p) D σ H
def clOf (T : Tb) (k : Hc) : Cl := ⟨match T.xn[k.y]? with
  | some q => .ref (He.ga T.K q.1)
  | none => .none, k.nm, clR T k⟩
theorem noErrSR_post {W' : WX} {Dd : Ends} : ∀ {r : SRes}, PostS T W ρ lh H (noErrSR r) Dd → PostS T W' ρ lh H r Dd
  | .nx _ _, h => h
  | .bk _ _, h => h
  | .ct _ _, h => h
  | .rt _ _, h => h
  | .err _ _ _ _, h => h.elim
  | .stuck, h => h
  | .alt l r, h => ⟨noErrSR_post (r := l) h.1, noErrSR_post (r := r) h.2⟩
theorem SR.out {i : Nat} {a : Addr} {q : Option XfI} {sl : Sl} (h1 : T.sp = []) (h2 : T.xf = none) (s : SR (XT T [(i, .ref a)] q) ρ H sl lh σ) : SR T ρ H (sl.set i none) lh (σ.set i none) := by
  refine ⟨(hr_T lh).mp s.hr, by rw [List.length_set, List.length_set]; exact s.len, (fun z hz => absurd hz (by rw [h1]; simp)), (fun z hz => absurd hz (by rw [h2]; simp)), fun j e he => ?_⟩
  by_cases hj : i = j
  · subst hj
    by_cases hl : i < sl.length
    · rw [List.getElem?_set_self hl] at he; cases he
    · rw [List.getElem?_eq_none (by rw [List.length_set]; omega)] at he; cases he
  · rw [List.getElem?_set_ne hj] at he
    rw [List.getElem?_set_ne hj]
    obtain ⟨v, g1, g2⟩ := s.sl j e he
    exact ⟨v, g1, by rw [← relD_T]; exact g2⟩
theorem SR.into {i : Nat} {a : Addr} {c : Nat} {p : D} {cls : Value} {d : Option Addr} {sl : Sl} (s : SR T ρ H sl lh σ) (ex : ExR T ρ H c p cls d) : ∃ q, HxOk T c p cls d q ∧ SR (XT T [(i, .ref a)] q) ρ H (sl.set i none) lh (σ.set i (some (.ref a))) := by
  obtain ⟨x, fo, h1, h2, h3⟩ := ex
  have pin : ∀ z ∈ [(i, V.ref a)], (sl.set i none)[z.1]? = some none → (σ.set i (some (V.ref a)))[z.1]? = some (some z.2) := fun z hz e => by
    have : z = (i, V.ref a) := by simpa using hz
    subst this
    have hl := (List.getElem?_eq_some_iff.mp e).1
    rw [List.length_set, s.len] at hl
    exact List.getElem?_set_self hl
  have sls : ∀ {q : Option XfI} (j : Nat) (e : D), (sl.set i none)[j]? = some (some e) → ∃ v, (σ.set i (some (V.ref a)))[j]? = some (some v) ∧ RelD (XT T [(i, .ref a)] q) ρ H e v := fun {q} j e he => by
    by_cases hj : i = j
    · subst hj
      by_cases hl : i < sl.length
      · rw [List.getElem?_set_self hl] at he; cases he
      · rw [List.getElem?_eq_none (by rw [List.length_set]; omega)] at he; cases he
    · rw [List.getElem?_set_ne hj] at he
      rw [List.getElem?_set_ne hj]
      obtain ⟨v, g1, g2⟩ := s.sl j e he
      exact ⟨v, g1, by rw [relD_T]; exact g2⟩
  cases fo with
  | none =>
    obtain ⟨e1, e2⟩ := h3
    exact ⟨none, ⟨x, none, h1, h2, e1, e2, rfl⟩, (hr_T lh).mpr s.hr, by rw [List.length_set, List.length_set]; exact s.len, pin, fun z hz => (nomatch hz), sls⟩
  | some f =>
    obtain ⟨dd, v, e1, e2, e3, e4⟩ := h3
    refine ⟨some ⟨dd, f, v, p⟩, ⟨x, some f, h1, h2, dd, v, e1, rfl⟩, (hr_T lh).mpr s.hr, by rw [List.length_set, List.length_set]; exact s.len, pin, fun z hz => ?_, sls⟩
    cases hz
    exact ⟨e2, e3, by rw [relD_T]; exact e4⟩
theorem post_in {i : Nat} {a : Addr} {q : Option XfI} {Dd : Ends} (h1 : T.sp = []) (h2 : T.xf = none) : ∀ {r : SRes}, PostS T W ρ lh H ((noErrSR r).onR (fun sl h => .nx (sl.set i none) h) (fun sl h => .bk (sl.set i none) h) fun sl h => .ct (sl.set i none) h) Dd → PostS (XT T [(i, .ref a)] q) W0 ρ lh H r (dropI i Dd)
  | .nx sl l, h => fun ρ' H' σ' le s => h ρ' H' _ le (s.out h1 h2)
  | .bk sl l, h => fun ρ' H' σ' le s => h ρ' H' _ le (s.out h1 h2)
  | .ct sl l, h => fun ρ' H' σ' le s => h ρ' H' _ le (s.out h1 h2)
  | .rt d l, h => fun ρ' H' v le hr r => h ρ' H' v le ((hr_T l).mp hr) (by rw [← relD_T]; exact r)
  | .err _ _ _ _, h => h.elim
  | .stuck, h => h
  | .alt l r, h => ⟨post_in h1 h2 (r := l) h.1, post_in h1 h2 (r := r) h.2⟩
theorem hc_ok {xb : List (List Bool)} {Dd : Ends} (hK : X.K = T.K) (h1 : T.sp = []) (h2 : T.xf = none) (xo : XbOk T xb) {c : Nat} {p : D} {cls : Value} {d : Option Addr} {sl : Sl} (s : SR T ρ H sl lh σ) (ex : ExR T ρ H c p cls d) :
    ∀ {hs : List Hc}, (∀ k ∈ hs, k.y < T.xn.length) → PostS T W ρ lh H (hcGo xb hs sl c p lh) Dd → wCl X.K W Dd (hs.map (clOf T)) cls d σ H
  | [], _, h => h ρ H σ cls d Le.refl s ex
  | k :: r, hy, h => by
    unfold hcGo at h
    cases e : xsub xb c k.y with
    | none => rw [e] at h; exact h.elim
    | some b =>
      rw [e] at h
      obtain ⟨x, fo, g1, g2, _⟩ := id ex
      obtain ⟨z, go, gy⟩ : ∃ z go, T.xn[k.y]? = some (z, go) := ⟨_, _, List.getElem?_eq_getElem (hy k List.mem_cons_self)⟩
      have em := xo c k.y b x z fo go e g1 gy
      refine ⟨b, ?_, fun hb a na => ?_, fun hb => ?_⟩
      · show PySem.W.exmOne X.K cls (clOf T k).c = some b
        unfold clOf
        rw [gy, hK, g2]
        exact em
      · subst hb
        show Cl.take (clOf T k) Dd a cls d σ H
        simp only at h
        unfold Cl.take clOf clR
        cases en : k.nm with
        | none =>
          simp only [en] at h ⊢
          exact ⟨c, p, ρ, sl, lh, s, noErrSR_post h⟩
        | some i =>
          simp only [en] at h ⊢
          obtain ⟨q, hx, s2⟩ := s.into (i := i) (a := a) ex
          exact ⟨c, p, q, hx, ρ, _, lh, s2, post_in h1 h2 h⟩
      · subst hb
        exact hc_ok hK h1 h2 xo s ex (fun k hk => hy k (List.mem_cons_of_mem _ hk)) h
theorem rd_try {xb : List (List Bool)} {b : MS} {hs : List Hc} {Dd : Ends} (hK : X.K = T.K) (h1 : T.sp = []) (h2 : T.xf = none) (xo : XbOk T xb) (hy : ∀ k ∈ hs, k.y < T.xn.length) (h : rdS T W (sTry xb b hs) Dd σ H) : rdS T (wCl X.K W Dd (hs.map (clOf T))) b Dd σ H := by
  obtain ⟨ρ, sl, lh, sr, post⟩ := h
  refine ⟨ρ, sl, lh, sr, ?_⟩
  have key : ∀ {r : SRes}, PostS T W ρ lh H (r.catchR (hcGo xb hs)) Dd → PostS T (wCl X.K W Dd (hs.map (clOf T))) ρ lh H r Dd := by
    intro r
    induction r with
    | nx sl l => exact fun h => h
    | bk sl l => exact fun h => h
    | ct sl l => exact fun h => h
    | rt d l => exact fun h => h
    | stuck => exact fun h => h
    | err sl1 c p l1 => exact fun h ρ' H' σ' cls dd le s ex => hc_ok hK h1 h2 xo s ex hy (PostS.later (r := hcGo xb hs sl1 c p l1) h le)
    | alt l r i1 i2 => exact fun h => ⟨i1 h.1, i2 h.2⟩
  exact key post
end
end TL
namespace TL
open PySem PySem.Spec PyProof.Rows L2 PySem.W PySem.HandSPX PySem.Calls
def xArgs (f : Str) (p1 p2 : Pos) : Arguments := { posonlyargs := [], args := [{ arg := "self", annotation := none, pos := p1 }, { arg := f, annotation := none, pos := p2 }], vararg := none, kwonlyargs := [], kw_defaults := [], kwarg := none, defaults := [] }
def xBody (f : Str) (r0 r1 r2 r3 r4 r5 q1 q2 q3 q4 : Pos) : List Stmt := [.Expr (.Call (.Attribute (.Call (.Name "super" r0) [] [] r1) "__init__" r2) [.Name f r3] [] r4) r5, .Assign [.Attribute (.Name "self" q1) f q2] (.Name f q3) q4]
/-- the call of super().__init__ is evaluated as a method's call -/
def XEv (f : Str) (r0 r1 r2 r3 r4 : Pos) (en : Addr → Env) : Prop := ∀ L : Addr, interactive (en L) = false ∧ ∃ pl : Sem Bool, eval (.Call (.Attribute (.Call (.Name "super" r0) [] [] r1) "__init__" r2) [.Name f r3] [] r4) (en L) = (do
      let ov ← attributeBase (.Call (.Name "super" r0) [] [] r1) "__init__" (en L) (eval (.Call (.Name "super" r0) [] [] r1) (en L))
      standAt r2.atName
      let (f', first) ← holding [ov] (getMethod ov "__init__" pl)
      callWith r4 f' first (backTo r4 (starEach [.Name f r3] (en L))) [])
/-- what the written part says of the class C of the name x, its field f, its __init__ at fI -/
structure XcT (P : Program) (K : Frag) (mg : Str → Option Value) (x f : Str) (C fI : Addr) : Prop where
  gC : mg x = some (.ref C)
  cls : ∃ nm q N bs bm sn sub ab col dd k0 k1 k2 k3 k5, K.lookup C = some (excClassObj nm q C N bs bm true sn sub ab col dd k0 k1 k2 k3 k5 "ValueError.__new__") ∧ refsVE bm = true
  sa : findIn K (.ref C) "__setattr__" = some (some (.builtin "object.__setattr__"))
  noN : findIn K (.ref C) f = some none
  iC : findIn K (.ref C) "__init__" = some (some (.ref fI))
  tI : typeIn K (.ref fI) = some (.type "function")
  kC : keepIn K (.ref C) = true
  exC : subIn K (.ref C) (.type "BaseException") = some true
  veC : subIn K (.ref C) (.type "ValueError") = some true
  tyC : typeIn K (.ref C) = some (.type "type")
  own : mroIn K C (.ref C) = some true
  sup : ks_superIn K C C "__init__" = some (some (.builtin "ValueError.__init__"))
  opq : nsIn K cStatics "thirdparty.any" = some none
  gsu : mg "super" = none
  top : (P.main.scope.names.lookup ("super" : Str)).isSome = false
  fn : ∃ (oc : Value) (od : Option Addr) (doc pm : Value) (an : Option Addr) (cda : Addr) (ct : Value) (osl : Array (Option Value)) (cc : Addr) (qual : Str) (params : Arguments) (body : List Stmt) (scope : Scope),
    K.lookup fI = some ⟨oc, od, .func (ksFn "__init__" qual params body scope .none .none doc pm an (.ref cda) ct cc), osl⟩ ∧ codeIn K (.ref cda) qual = true ∧ (∀ u v : Value, bindArgs (ksFn "__init__" qual params body scope .none .none doc pm an (.ref cda) ct cc) ⟨[u, v], []⟩ = pure [(("self" : Str), u), (f, v)]) ∧ (∃ p1 p2, params = xArgs f p1 p2) ∧ (∃ r0 r1 r2 r3 r4 r5 q1 q2 q3 q4, body = xBody f r0 r1 r2 r3 r4 r5 q1 q2 q3 q4 ∧ XEv f r0 r1 r2 r3 r4 (fun L => callEnv (ksFn "__init__" qual params body scope .none .none doc pm an (.ref cda) ct cc) L fI)) ∧
    (scope.kind = .function ∧ scope.isCoroutine = false ∧ scope.isGenerator = false ∧ (∀ y ∈ scope.names, y.2 ≠ .cell) ∧ scope.names.lookup ("super" : Str) = some .globalImplicit ∧ scope.names.lookup ("__class__" : Str) = some .free ∧ scope.names.lookup ("self" : Str) = some .local ∧ scope.names.lookup f = some .local ∧ ("self" : Str) ≠ f ∧ (f == ("__debug__" : Str)) = false) ∧
    (∃ ccl cdd vs ccs file tf, K.lookup cda = some ⟨ccl, cdd, .fields vs, ccs⟩ ∧ vs[2]? = some (.str file tf) ∧ ((P.main.file : Str) == file) = true) ∧
    (∃ cl cld csl, K.lookup cc = some ⟨cl, cld, .cell (some (.ref C)), csl⟩)
section
variable {prog : Program} {w : World} {A : Around} {E : Value → Shared → Prop} {h : Heap} {g : Array GenState} {d : Drawn} {t : Nat} {os : OsState}
variable {nm q : Str} {C N : Addr} {bs bm : List Value} {hdct : Bool} {sn : List Str} {sub : List Value} {ab : Bool} {col : Option Bool} {dd : Option Addr} {k0 k1 k2 k3 k5 : Option Value}
theorem call_vi {u e t0 : Addr} {rest : List Value} {Q : Value → Shared → Prop} (hC : h.get? C = some (excClassObj nm q C N bs bm hdct sn sub ab col dd k0 k1 k2 k3 k5 "ValueError.__new__")) (he : h.get? e = some (excO C t0)) (hu : h.get? u = some (kxs_mw "ValueError.__init__" e)) (hrest : rest.length ≤ sizeLine)
    (hq : ∀ h' t1, (∀ b o, b ≠ e → h.get? b = some o → h'.get? b = some o) → h'.get? e = some (excO C t1) → Q .none ⟨h', g, d, t, os⟩) :
    wpAny (model prog w) A (call (.ref u) rest) Q E ⟨h, g, d, t, os⟩ := by
  refine wpAny_call (codeAny_of_tree (show wpAny _ A.in1 (callAny (.ref u) ⟨rest, []⟩) _ _ _ from ?_))
  simp only [callAny]
  refine wpAny_bind (wpAny_load hu ?_)
  simp only [kxs_mw, show (Value.type "method-wrapper" == Value.type "method" || Value.type "method-wrapper" == Value.type "builtin_function_or_method" || Value.type "method-wrapper" == Value.type "method-wrapper") = true by decide, if_true]
  refine KFB.if_so (by decide) (wpAny_bind (PySem.ESX.check_bound F.excBase_ValueError hC he rfl (wpAny_bind (wpAny_pure (wpAny_pure ?_)))))
  refine ⟨Code.quiet_builtin _ (by decide +kernel), codeAny_builtin F.excBase_ValueError.initEntry ?_⟩
  rw [Around.under_plainId F.excBase_ValueError.init.plain _]
  wp_walk
  refine hq _ h.objs.size (fun b o hb ho => ?_) ?_
  · exact (Heap.get?_update_other _ _ (Ne.symm hb)).trans (Heap.get?_push_of_some _ ho)
  · rw [Heap.get?_update_self _ (Heap.get?_push_of_some _ he) rfl]
    rfl
end
structure XEnd (h h' : Heap) (y C dx : Addr) (f : Str) (v : Value) : Prop where
  keep : ∀ b o, b ≠ y → h.get? b = some o → h'.get? b = some o
  obj : ∃ t1 : Addr, h'.get? y = some { cls := .ref C, dict := some dx, data := .fields #[.ref t1, .none, .none, .none, .bool false, .none] }
  dbig : h.objs.size ≤ dx
  dne : dx ≠ y
  ns : h'.Ns1 dx (fun z => if z = f then some v else none)
theorem kept_all {K : Frag} {h h' : Heap} {y : Addr} (X : K.In h) (hy : K.lookup y = none) (k : ∀ b o, b ≠ y → h.get? b = some o → h'.get? b = some o) : K.In h' := fun a o e => k a o (fun z => by rw [z, hy] at e; cases e) (X a o e)
theorem ldX {M : Model} {s : Shared} {env : Env} {A : Around} {E : Value → Shared → Prop} {m : Str → Option Value} {x : Str} {pos : Pos} {v : Value} {Q : Value → Shared → Prop} (hn : s.heap.Ns env.locals m) (hv : m x = some v) (hk : env.scope.kind = .function) (hl : env.kindOf x = some .local) (hd : (x == ("__debug__" : Str)) = false) (h : Q v s) : wpAny M A (eval (.Name x pos) env) Q E s :=
  wpAny_Name (wpAny_loadName_local hk hl hn hv h) hd
section
variable {prog : Program} {w : World} {A : Around} {R : Result → Shared → Prop} {s : Shared} {K : Frag} {mg mb : Str → Option Value} {C fI : Addr} {x f : Str}
theorem x_init (T : XcT prog K mg x f C fI) {y t0 : Addr} {v : Value} (X : K.In s.heap) (hG : s.heap.Ns mainGlobals mg) (hB : s.heap.Ns builtinsNs mb) (hmb : ∀ z : Str, z ≠ "__name__" → mb z = bootBuiltins z) (hlim : s.heap.NoLimit) (hx : s.heap.get? y = some (excO C t0)) (hnx : K.lookup y = none) (hroom : A.depth < recursionLimit)
    (hq : ∀ h' tk dx, XEnd s.heap h' y C dx f v → R (.ok (.ret .none)) { s with heap := h', toks := tk }) :
    codeAny (model prog w) A (.call (.ref fI) ⟨[.ref y, v], []⟩) R s := by
  obtain ⟨oc, od, doc, pm, an, cda, ct, osl, cc, qual, params, body, scope, ho, hcd, hbi, ⟨p1, p2, ep⟩, ⟨r0, r1, r2, r3, r4, r5, q1, q2, q3, q4, eb, ev⟩, ⟨sk, sco, sge, scl, ssu, scs, sse, sf, nsf, fdb⟩, ⟨ccl, cdd, vs, ccs, file, tf, hcode, hvs, hfile⟩, ⟨cl, cld, csl, hcell⟩⟩ := T.fn
  obtain ⟨nm, q, N, bs, bm, sn, sub, ab, col, dd, k0, k1, k2, k3, k5, hC, hbm⟩ := T.cls
  have hcl : clsIn K C = some { name := nm, bases := bs, mro := .ref C :: bm, ns := N, qualname := q, hasDict := true, slotNames := sn, subclasses := sub, abstract := ab, collection := col, hasDel := false } := by unfold clsIn; rw [hC] <;> rfl
  subst ep eb
  obtain ⟨h0, g, d, t, os⟩ := s
  refine ks_codeAny_call_defAt (binds := [(("self" : Str), .ref y), (f, v)]) hroom (X _ _ ho) rfl hlim (codeRec_of X hcd) rfl (BindsTo.of_eq (hbi _ _)) scl (fun z hz => ?_) (fun h₁ hns kp => ?_) sco sge sk
  · simp only [List.mem_cons, List.not_mem_nil, or_false] at hz
    rcases hz with hz | hz
    · subst hz; exact sse
    · subst hz; exact sf
  have X₁ : K.In h₁ := X.keeps kp
  have hx₁ := kp _ _ hx
  have hyL : (⟨h0, g, d, t, os⟩ : Shared).heap.objs.size ≠ y := Nat.ne_of_gt (Heap.lt_size hx)
  have hlt : h0.objs.size < h₁.objs.size := hns.lt
  have nself : ([(("self" : Str), Value.ref y), (f, v)] : List (Str × Value)).reverse.lookup ("self" : Str) = some (.ref y) := by
    show List.lookup ("self" : Str) [(f, v), (("self" : Str), Value.ref y)] = _
    have : ((("self" : Str) == f) = false) := by simpa using nsf
    simp [List.lookup, this]
  have nf : ([(("self" : Str), Value.ref y), (f, v)] : List (Str × Value)).reverse.lookup f = some v := by
    show List.lookup f [(f, v), (("self" : Str), Value.ref y)] = _
    simp [List.lookup]
  obtain ⟨oD, hD1, hD2⟩ : ∃ oD : Obj, h₁.get? C = some oD ∧ oD.data = .cls { name := nm, bases := bs, mro := .ref C :: bm, ns := N, qualname := q, hasDict := true, slotNames := sn, subclasses := sub, abstract := ab, collection := col, hasDel := false } := ⟨_, X₁ _ _ hC, rfl⟩
  have G₁ : h₁.Ns mainGlobals mg := hG.keeps kp
  have B₁ : h₁.Ns builtinsNs mb := hB.keeps kp
  obtain ⟨hint, pl, evL⟩ := ev h0.objs.size
  refine ks_wpAt_execs_cons (ks_wpAt_Expr_any (ks_wpAt_MethodCall (pl := pl) ?_ evL) hint)
  refine ks_wpAt_super_base (f := fI) (cc := cda) ssu scs (by decide) rfl (kp _ _ (X _ _ ho)) rfl rfl rfl (X₁ _ _ hcode) rfl hvs hfile T.top ?_
  refine ks_loadName_global sk ssu (PySem.Calls.loadGlobal_builtin G₁ T.gsu B₁ ((hmb _ (by decide)).trans (by decide +kernel)) ⟨rfl, ?_⟩)
  refine wpAny_loadName_free sk scs rfl ⟨_, X₁ _ _ hcell, rfl⟩ ?_
  refine wpAny_loadName_local sk sse hns nself ?_
  refine ks_wpAny_isType_cls hD1 hD2 ⟨rfl, ?_⟩
  refine ks_wpAny_call_super hD1 hD2 hx₁ rfl (fun c z => nomatch z) (looks_mroIn X₁ T.own) (fun h₂ hso k2 => ?_)
  have X₂ : K.In h₂ := X₁.keeps k2
  have hx₂ := k2 _ _ hx₁
  have I₂ : InstAt h₂ y (excO C t0) C none := ⟨hx₂, rfl, rfl, trivial⟩
  have hsup := T.sup
  unfold ks_superIn at hsup
  rw [hcl] at hsup
  refine kxs_getMethod kxs_ValueError hso (looks_opaque X₂ T.opq) (l₀ := .ref C :: bm) (fun A Q E s k q => wpAny_bind ((looks_clsIn X₂ hcl) A _ E s k (wpAny_pure q))) rfl X₂ hsup (I₂.type.andThen (looks_subIn X₂ T.veC)) (fun z => by rw [z, hC] at hnx; cases hnx) (by decide) ?_
  have k3 : ∀ b o, h₂.get? b = some o → (h₂.push (kxs_mw "ValueError.__init__" y)).get? b = some o := fun b o e => Heap.get?_push_of_some _ e
  have hmw : (h₂.push (kxs_mw "ValueError.__init__" y)).get? h₂.objs.size = some (kxs_mw "ValueError.__init__" y) := Heap.get?_push_size _ rfl
  have hns₂ : (h₂.push (kxs_mw "ValueError.__init__" y)).Ns h0.objs.size (fun z => ([(("self" : Str), Value.ref y), (f, v)] : List (Str × Value)).reverse.lookup z) := (hns.keeps k2).keeps k3
  show wpAny _ _ (callWith r4 (.ref h₂.objs.size) [] (backTo r4 (starEach [.Name f r3] _)) []) _ _ _
  refine kxs_callWith (i := "ValueError.__init__") (x := y) rfl (evalArgs_plain (Calls.spliced_cons (ldX (v := v) hns₂ nf sk sf fdb ?_)))
  refine Calls.spliced_nil ⟨hmw, ?_⟩
  refine call_vi (k3 _ _ (X₂ _ _ hC)) (k3 _ _ hx₂) hmw (by show 1 ≤ sizeLine; rw [sizeLine_eq]; omega) (fun h₄ t1 k4 hx₄ => ?_)
  have X₄ : K.In h₄ := kept_all (X₂.keeps k3) hnx k4
  have hns₄ : h₄.Ns h0.objs.size (fun z => ([(("self" : Str), Value.ref y), (f, v)] : List (Str × Value)).reverse.lookup z) := by
    obtain ⟨o, es, ep, e, r⟩ := hns₂
    exact ⟨o, es, ep, k4 _ _ hyL e, r⟩
  refine ks_wpAt_execs_cons (ks_wpAt_Assign_Attr (wpAt_of_wpAny (ldX (v := v) hns₄ nf sk sf fdb (ldX (v := .ref y) hns₄ nself sk sse (by decide) ?_))))
  refine set_plain X₄ (ox := excO C t1) (od := none) ⟨hx₄, rfl, rfl, trivial⟩ T.sa ?_
  refine exc_osa X₄ hx₄ hcl (show refsVE (.ref C :: bm) = true from hbm) rfl T.noN (fun h₅ tk dx k5 dn dne hx₅ hn₅ => ?_)
  refine wpAt_of_wpAny (wpAny_execs_nil (hq h₅ tk dx ⟨fun b o hb e => k5 b o hb (k4 b o hb (k3 b o (k2 b o (kp b o e)))), ⟨t1, hx₅⟩, ?_, dne, hn₅⟩))
  exact Nat.le_trans (Nat.le_of_lt hns₄.lt) dn
end
section
variable {X : Cx} {x f : Str} {C fI : Addr}
theorem relO_one {v : V} {u : Value} (r : RelV v u) (z : Str) : RelO (List.lookup z [(f, v)]) (if z = f then some u else none) := by
  by_cases hz : z = f
  · subst hz
    rw [if_pos rfl]
    simp only [List.lookup, beq_self_eq_true]
    exact r
  · rw [if_neg hz]
    have e : (z == f) = false := by simpa using hz
    simp only [List.lookup, e]
    exact True.intro
/-- x(e) -/
theorem pmk_x {a : Expr} {ta : TA} {p pos : Pos} {k : Nat} (T : XcT X.prog X.K X.mg x f C fI) (hr : Room (k + 1) X.A) (ha : PA X [a] ta) (hg : Gl X x) (hdb : (x == ("__debug__" : Str)) = false)
    (hst : starEach [a] X.env = (false, eval a X.env) :: starEach [] X.env) (hpl : (backTo pos (starEach [] X.env)).any (·.1) = false) : L2N.PMk X (.Call (.Name x p) [a] [] pos) (tMkF C f ta) := by
  intro pins s σ H Q I h
  obtain ⟨nm, q, N, bs, bm, sn, sub, ab, col, dd, k0, k1, k2, k3, k5, hC, hbm⟩ := T.cls
  refine wpAny_Call_Name_kw (ld_glob I hg T.gC ?_ hdb)
  refine callWith_K (h₀ := X.base) I.ok.mod.kin T.kC (thn (ha.run pos pins s σ H _ I h) fun us s1 ⟨vs, H1, I1, r1, v, ev, q1⟩ => ⟨I1.kIn, ?_⟩) hst hpl
  subst ev
  obtain ⟨u, eu, rv⟩ : ∃ u, us = [u] ∧ RelV v u := by
    cases r1 with
    | cons a b => cases b; exact ⟨_, rfl, a⟩
  subst eu
  show wpAny _ _ (call (.ref C) [u]) _ _ _
  have hlim := I1.nolimit
  have hG := I1.ok.mod.glob.keeps I1.bk
  obtain ⟨mb, hB0, hmb⟩ := I1.ok.mod.blt
  have hB := hB0.keeps I1.bk
  have kin := I1.kIn
  obtain ⟨hp, g, dr, tk, os⟩ := s1
  have up : ∀ b o, hp.get? b = some o → ((hp.push (kdv_tup [u])).push (excO C hp.objs.size)).get? b = some o := fun b o e => Heap.get?_push_of_some _ (Heap.get?_push_of_some _ e)
  have hat : ((hp.push (kdv_tup [u])).push (excO C hp.objs.size)).get? (hp.objs.size + 1) = some (excO C hp.objs.size) := by heap_get
  have hno : X.K.lookup (hp.objs.size + 1) = none := by
    cases e : X.K.lookup (hp.objs.size + 1) with
    | none => rfl
    | some o => exact absurd (Nat.lt_of_succ_lt (Heap.lt_size (kin _ _ e))) (Nat.lt_irrefl _)
  refine wpAny_call (call_own F.excBase_ValueError (fun Y => refsVE_contains Y bm hbm) (kin _ _ hC) (looks_findIn kin T.iC) (fun self => bind_fn kin self T.tI) (by show 1 ≤ sizeLine; rw [sizeLine_eq]; omega) ?_)
  refine x_init (s := ⟨(hp.push (kdv_tup [u])).push (excO C hp.objs.size), g, dr, tk, os⟩) T (kin.keeps up) (hG.keeps up) (hB.keeps up) hmb (hlim.keeps up) hat hno (show X.A.depth + 1 < recursionLimit by have := hr.dp; omega) fun h' tk' dx ⟨kp, ⟨t1, hob⟩, hd, hn, hns⟩ => ?_
  have hsz : hp.objs.size + 1 < dx := by
    have z : hp.objs.size + 1 + 1 ≤ dx := by
      first
        | exact hd
        | simpa only [Heap.size_push] using hd
    exact z
  have old : ∀ b o, hp.get? b = some o → h'.get? b = some o := fun b o e => kp b o (Nat.ne_of_lt (Nat.lt_succ_of_lt (Heap.lt_size e))) (up b o e)
  refine ⟨rfl, ?_⟩
  show L2N.MkP X pins σ Q (.ref (hp.objs.size + 1)) ⟨h', g, dr, tk', os⟩
  obtain ⟨G, g1, g2⟩ := restrict h' fun b => decide (b ≠ hp.objs.size + 1)
  have gk : ∀ b, b ≠ hp.objs.size + 1 → G.get? b = h'.get? b := fun b hb => g1 b (decide_eq_true hb)
  have gn : G.get? (hp.objs.size + 1) = none := g2 _ (by simp)
  have gold : ∀ b o, hp.get? b = some o → G.get? b = some o := fun b o e => (gk b (Nat.ne_of_lt (Nat.lt_succ_of_lt (Heap.lt_size e)))).trans (old b o e)
  have nob : ObjOk X.prog X.w (upd H1 dx (.xd [(f, v)])) G dx (.xd [(f, v)]) := ⟨_, hns.at (fun o e => (gk dx hn).trans e), fun z => relO_one rv z⟩
  have dle : hp.objs.size ≤ dx := Nat.le_of_lt (Nat.lt_of_succ_lt hsz)
  have J : Inv X pins σ (upd H1 dx (.xd [(f, v)])) ⟨G, g, dr, tk', os⟩ := I1.laid (t' := tk') gold dle nob
  refine ⟨hp.objs.size + 1, _, _, ⟨G, g, dr, tk', os⟩, _, .ref C, some dx, rfl, J, fun b o e => ?_, gn, hob, ⟨rfl, rfl, fun vs e => by cases e; rfl⟩, rfl, rfl, ?_, rfl, I1.bare, raises_own T.exC T.tyC, q1 dx (I1.hok.fresh dle)⟩
  · by_cases hb : b = hp.objs.size + 1
    · have e' : G.get? b = some o := e
      rw [hb, gn] at e'
      cases e'
    · exact (gk b hb).symm.trans e
  · rw [upd_ne (Ne.symm hn)]
    exact I1.hok.fresh (Nat.le_succ _)
end
end TL
namespace TL
open PySem PySem.Spec PyProof.Rows L2
def CV (T : Tb) (X : Cx) (c : Nat) (e : Expr) : Prop := ∃ cv, ClV T c cv ∧ PE X e (tC cv)
section
variable {T : Tb} {W : WX} {E : XK} {X : Cx} {pos p p2 : Pos} {a e e2 : Expr} {es : List Expr} {ma m : ME} {ms mk : MA} {x : Str} {c c2 k j n : Nat} {f C : Addr} {g : Fn}
theorem cvB {nm : String} (hv : bootBuiltins x = some (.type nm)) (hm : X.mg x = none) (hc : tyNames[c]? = some nm := by rfl) (hg : Gl X x := by rfl) (hn : x ≠ "__name__" := by decide) (hd : (x == ("__debug__" : Str)) = false := by decide) : CV T X c (.Name x pos) := by
  refine ⟨.ty nm, ⟨.type nm, ?_, rfl, fun w h => h⟩, pe_bltn hg hm hv rfl hn hd⟩
  unfold tyVal
  rw [hc]
theorem cvO (hm : X.mg x = some (.ref (He.ga T.K x))) (i : Nat) (hc : T.cn[i]? = some x := by rfl) (hg : Gl X x := by rfl) (hd : (x == ("__debug__" : Str)) = false := by decide) : CV T X (7 + i) (.Name x pos) :=
  ⟨.ref (He.ga T.K x), ⟨.ref (He.ga T.K x), tyVal_own hc, rfl, fun w h => h⟩, pe_glob hg hm rfl hd⟩
theorem xIs (B : Bs T X) (hm : X.mg "isinstance" = none) (ha : PE X a (rdE T W ma)) (hc : CV T X c e) (hg : Gl X "isinstance" := by rfl) (s1 : starEach [a, e] X.env = (false, eval a X.env) :: starEach [e] X.env := by rfl) (s2 : starEach [e] X.env = (false, eval e X.env) :: starEach [] X.env := by rfl)
    (hpl : (backTo pos (starEach [e] X.env)).any (·.1) = false := by rfl) : PE X (.Call (.Name "isinstance" p) [a, e] [] pos) (rdE T W (m1 (vIsi [c]) ma)) := by
  obtain ⟨cv, h1, h2⟩ := hc
  refine (pe_callB (cr_isi1 (E := E0) B.ok B.K h1) hg hm boot_isinstance (pa_cons ha (pa_cons h2 pa_nil s2) s1) (by decide) (by decide) s1 hpl).imp fun σ H Q h => ?_
  obtain ⟨ρ, sl, lh, sr, post⟩ := rd_un h
  exact ⟨ρ, sl, lh, sr, post.mono fun d h1 ρ1 H1 le1 hr1 p1 v rv => ⟨v, rfl, p1 v rv⟩⟩
theorem xIs2 (B : Bs T X) {kk : Nat} (hm : X.mg "isinstance" = none) (ha : PE X a (rdE T W ma)) (hc : CV T X c e) (hc2 : CV T X c2 e2) (hg : Gl X "isinstance" := by rfl) (s1 : starEach [a, .Tuple [e, e2] kk p2] X.env = (false, eval a X.env) :: starEach [.Tuple [e, e2] kk p2] X.env := by rfl)
    (s2 : starEach [e, e2] X.env = (false, eval e X.env) :: starEach [e2] X.env := by rfl) (s3 : starEach [e2] X.env = (false, eval e2 X.env) :: starEach [] X.env := by rfl)
    (hpl : (backTo pos (starEach [.Tuple [e, e2] kk p2] X.env)).any (·.1) = false := by rfl) : PE X (.Call (.Name "isinstance" p) [a, .Tuple [e, e2] kk p2] [] pos) (rdE T W (m1 (vIsi [c, c2]) ma)) := by
  obtain ⟨cv, h1, h2⟩ := hc
  obtain ⟨cv2, h3, h4⟩ := hc2
  refine (pe_callB (cr_isi2 (E := E0) B.ok B.K h1 h3) hg hm boot_isinstance (pa_cons ha (pa_cons (pe_tup (pa_cons h2 (pa_cons h4 pa_nil s3) s2)) pa_nil) s1) (by decide) (by decide) s1 hpl).imp fun σ H Q h => ?_
  obtain ⟨ρ, sl, lh, sr, post⟩ := rd_un h
  refine ⟨ρ, sl, lh, sr, post.mono fun d l1 ρ1 H1 le1 hr1 p1 v rv => ?_⟩
  obtain ⟨ρ2, l2, d2, hr2, rd2, post2⟩ := p1 v rv
  refine ⟨by show 2 ≤ sizeLine; decide, fun q hq => ⟨v, q, rfl, upd_same, ρ2, l2, d2, hr2.newTup hq, rd2.mono (Le.newTup hr2 hq).toLe0, PostG.later post2 (Le.newTup hr2 hq)⟩⟩
theorem xBm_append (B : Bs T X) {o : Expr} {mo : ME} {apos : Pos} (ho : PE X o (rdE T W mo)) (ha : PA X (e :: es) (rdA T W ms)) (hbase : attributeBase o "append" X.env (eval o X.env) = eval o X.env := by rfl)
    (hfew : ((backTo pos (starEach (e :: es) X.env)).all (fun x => !x.1) && (backToKw pos (keywordEach [] X.env)).all (fun x => x.1.isSome) && decide ((e :: es).length + ([] : List Keyword).length + (if ([] : List Keyword).isEmpty then 0 else 1) < 30)) = true := by rfl)
    (hline : (apos.endLine == pos.line) = true := by rfl) (hs : starEach (e :: es) X.env = (false, eval e X.env) :: starEach es X.env := by rfl) (hpl : (backTo pos (starEach es X.env)).any (·.1) = false := by rfl) : PE X (.Call (.Attribute o "append" apos) (e :: es) [] pos) (rdE T W (mBm lApp mo ms)) :=
  (pe_bm F.plainAttrs_list F.slot_list_append F.type_list_append (mr_app (E := E0)) ho ha hbase hfew hline hs hpl).imp fun _ _ _ h => rd_bm B.K h
theorem xBm_pop (B : Bs T X) {o : Expr} {mo : ME} {apos : Pos} (ho : PE X o (rdE T W mo)) (ha : PA X (e :: es) (rdA T W ms)) (hbase : attributeBase o "pop" X.env (eval o X.env) = eval o X.env := by rfl)
    (hfew : ((backTo pos (starEach (e :: es) X.env)).all (fun x => !x.1) && (backToKw pos (keywordEach [] X.env)).all (fun x => x.1.isSome) && decide ((e :: es).length + ([] : List Keyword).length + (if ([] : List Keyword).isEmpty then 0 else 1) < 30)) = true := by rfl)
    (hline : (apos.endLine == pos.line) = true := by rfl) (hs : starEach (e :: es) X.env = (false, eval e X.env) :: starEach es X.env := by rfl) (hpl : (backTo pos (starEach es X.env)).any (·.1) = false := by rfl) : PE X (.Call (.Attribute o "pop" apos) (e :: es) [] pos) (rdE T W (mBm lPop mo ms)) :=
  (pe_bm F.plainAttrs_list F.slot_list_pop F.type_list_pop (mr_pop (E := E0)) ho ha hbase hfew hline hs hpl).imp fun _ _ _ h => rd_bm B.K h
theorem mix_rel {α β : Type} {F : α → β → Prop} : ∀ {p : List Bool} {ms ws : List α} {us vs : List β}, Paired F ms us → Paired F ws vs → Paired F (mix p ms ws) (mix p us vs)
  | true :: r, _, _, _, _, h, .cons a b => .cons a (mix_rel h b)
  | true :: r, _, _, _, _, .nil, .nil => .nil
  | true :: r, _, _, _, _, .cons _ _, .nil => .nil
  | false :: r, _, _, _, _, .cons a b, h => .cons a (mix_rel b h)
  | false :: r, _, _, _, _, .nil, .nil => .nil
  | false :: r, _, _, _, _, .nil, .cons _ _ => .nil
  | [], _, _, _, _, .nil, .nil => .nil
  | [], _, _, _, _, .nil, .cons _ _ => .nil
  | [], _, _, _, _, .cons _ _, .nil => .nil
  | [], _, _, _, _, .cons _ _, .cons _ _ => .nil
theorem Paired_append {α β : Type} {F : α → β → Prop} : ∀ {xs ys : List α} {us vs : List β}, Paired F xs us → Paired F ys vs → Paired F (xs ++ ys) (us ++ vs)
  | _, _, _, _, .nil, h => h
  | _, _, _, _, .cons a b, h => .cons a (Paired_append b h)
theorem mix_relD {ρ : List Addr} {H : Hp} : ∀ {p : List Bool} {ms ws : List D} {us vs : List V}, RelDs T ρ H ms us → RelDs T ρ H ws vs → RelDs T ρ H (mix p ms ws) (mix p us vs)
  | true :: r, ms, w :: ws, us, _, h, ⟨v, vs, e, a, b⟩ => by subst e; exact ⟨v, _, rfl, a, mix_relD h b⟩
  | true :: r, [], [], us, vs, h, h2 => by rw [show us = [] from h, show vs = [] from h2]; rfl
  | true :: r, _ :: _, [], us, vs, ⟨_, _, e, _, _⟩, h2 => by subst e; rw [show vs = [] from h2]; rfl
  | false :: r, m :: ms, ws, _, vs, ⟨u, us, e, a, b⟩, h => by subst e; exact ⟨u, _, rfl, a, mix_relD b h⟩
  | false :: r, [], ws, us, vs, h, h2 => by
    rw [show us = [] from h]
    cases ws <;> cases vs <;> rfl
  | [], ms, ws, us, vs, _, _ => by
    cases ms <;> cases ws <;> cases us <;> cases vs <;> rfl
/-- a class's making by a given set of keywords -/
structure KG (T : Tb) (P : Program) (w : World) (K : PySem.W.Frag) (mg : Str → Option Value) (base : Heap) (k : Nat) (c : Nat) (x : Str) (f : Addr) (n : Nat) (g : Fn) (m : Nat) (ks : List Str) (pat : List Bool) (dv : List D) : Prop where
  nm : T.cn[c]? = some x
  gl : mg x = some (.ref (He.ga T.K x))
  mkr : Mk K (He.ga T.K x) f
  ex : ∃ fd ps gU gV, FnOk P w K mg base (L2N.CX P w) k f fd ps (spOf T (n + 1) g) ∧ KBn K fd ps (m + 1) ks gU gV ∧ ∀ ρ H ds vs zs us (p : V), RelDs T ρ H ds vs → RelDs T ρ H zs us → ∃ ws, gV (p :: vs) us = p :: ws ∧ RelDs T ρ H (ds ++ mix pat dv zs) ws
theorem wN : PK X [] (rdA T W aNil) := ⟨fun pos pins s σ H Q I h => pk_nil.run pos pins s σ H Q I (rd_nil h)⟩
theorem xMakeK (px : Px X W) {cc m' : Nat} {ks : List Str} {pat : List Bool} {dv : List D} {kws : List Keyword} (M : KG T X.prog X.w X.K X.mg X.base j cc x f n g m' ks pat dv) (hr : Room k X.A) (ha : PA X (e :: es) (rdA T W ms)) (hk : PK X kws (rdA T W mk)) (le : j + 1 ≤ k := by decide) (hg : Gl X x := by rfl)
    (hall : (backToKw pos (keywordEach kws X.env)).all (·.1.isSome) = true := by rfl) (hks : (backToKw pos (keywordEach kws X.env)).filterMap (·.1) = ks := by rfl) (hd : (x == ("__debug__" : Str)) = false := by decide)
    (hst : starEach (e :: es) X.env = (false, eval e X.env) :: starEach es X.env := by rfl) (hpl : ((backTo pos (starEach (e :: es) X.env)).any (·.1) || (backToKw pos (keywordEach kws X.env)).any (·.1.isNone)) = false := by rfl) :
    PE X (.Call (.Name x p) (e :: es) kws pos) (rdE T W (mMakeK cc n m' ks.length (fun ds zs => ds ++ mix pat dv zs) g ms mk)) := by
  obtain ⟨fd, ps, gU, gV, h1, h2, h3⟩ := M.ex
  exact (pe_makeKS M.mkr h1 (hr.mono le) hg M.gl h2 (L2N.passAt px.tk) ha hk hall hks hd hst hpl).imp fun _ _ _ h => rd_makeK M.nm h3 h
end
end TL
namespace TL
open PySem PySem.Spec PyProof.Rows L2
/-- an own class of errors without a field -/
structure X0 (T : Tb) (mg : Str → Option Value) (c : Nat) (x : Str) : Prop where
  nm : T.xn[c]? = some (x, none)
  gl : mg x = some (.ref (He.ga T.K x))
  ex : PySem.W.excIn T.K (He.ga T.K x) He.veBase "ValueError.__new__" = true
  kp : PySem.W.keepIn T.K (.ref (He.ga T.K x)) = true
  sb : PySem.W.subIn T.K (.ref (He.ga T.K x)) (.type "BaseException") = some true
  ty : PySem.W.typeIn T.K (.ref (He.ga T.K x)) = some (.type "type")
/-- .. with one -/
structure X1 (T : Tb) (X : Cx) (c : Nat) (x f : Str) : Prop where
  nm : T.xn[c]? = some (x, some f)
  tx : XcT X.prog X.K X.mg x f (He.ga T.K x) (He.ma T.K (He.ga T.K x) "__init__")
section
variable {T : Tb} {W : WX} {X : Cx} {pos p p2 pos2 : Pos} {a e : Expr} {ms : MA} {x f : Str} {c k : Nat}
theorem sRz0 (B : Bd T X) (px : Px X W) {m : Str} {j : Nat} (F : X0 T X.mg c x) (hg : Gl X x := by rfl) (hd : (x == ("__debug__" : Str)) = false := by decide) : PS X (.Raise (some (.Call (.Name x p) [.Constant (.str m) j p2] [] pos)) none pos2) (rdS T W (sRaise0 c)) :=
  (L2N.ps_raise B.calm px.tk (L2N.pmk_own PySem.F.excBase_ValueError (by rw [B.K]; exact F.ex) F.gl (by rw [B.K]; exact F.kp) (raises_own (by rw [B.K]; exact F.sb) (by rw [B.K]; exact F.ty)) hg hd)).imp fun _ _ _ h => rd_raise0 F.nm h
theorem sRz (B : Bd T X) (px : Px X W) (F : X1 T X c x f) (hr : Room k X.A) (ha : PA X [a] (rdA T W ms)) (le : 1 ≤ k := by decide) (hg : Gl X x := by rfl) (hd : (x == ("__debug__" : Str)) = false := by decide)
    (hst : starEach [a] X.env = (false, eval a X.env) :: starEach [] X.env := by rfl) (hpl : (backTo pos (starEach [] X.env)).any (·.1) = false := by rfl) : PS X (.Raise (some (.Call (.Name x p) [a] [] pos)) none pos2) (rdS T W (sRaise c ms)) :=
  (L2N.ps_raise B.calm px.tk (pmk_x (k := 0) F.tx (hr.mono le) ha hg hd hst hpl)).imp fun _ _ _ h => rd_raise F.nm h
end
theorem _root_.L2.PSs.when {X : Cx} {ss : List Stmt} {c : Prop} {t : TS} (h : c → PSs X ss t) : PSs X ss (fun D σ H => c ∧ t D σ H) := ⟨fun pins s σ H D I ⟨q, z⟩ => (h q).run pins s σ H D I z⟩
theorem Bd.suite {T : Tb} {X : Cx} (B : Bd T X) {a : Addr} {pn : List (Addr × Obj)} {sp : List (Nat × V)} {q : Option XfI} : Bs (XT T sp q) (X.suite a pn) := ⟨B.K, B.w, B.u, ok_T B.ok, B.nd⟩
section
variable {T : Tb} {W : WX} {X : Cx} {pos p1 p2 : Pos} {x n f : Str} {c k y i : Nat} {b1 : Stmt} {bs body : List Stmt} {hs : List ExceptHandler} {l : List Hc} {m : MS} {mx : Nat → D → MS} {fo : Option Str} {xb : List (List Bool)}
theorem hcN : ClsOk X [] (([] : List Hc).map (clOf T)) := .nil
theorem hcB (hx : T.xn[y]? = some (x, fo)) (hm : X.mg x = some (.ref (He.ga T.K x))) (su : ∀ (a : Addr) (oe : Obj) (pn : List (Addr × Obj)), PSs (X.suite a ((a, oe) :: pn)) (b1 :: bs) (rdS T W0 m)) (r : ClsOk X hs (l.map (clOf T)))
    (hg : Gl X x := by rfl) (hd : (x == ("__debug__" : Str)) = false := by decide) : ClsOk X (.ExceptHandler (some (.Name x p1)) none (b1 :: bs) p2 :: hs) ((⟨y, none, fun _ _ => m⟩ :: l).map (clOf T)) := by
  have e : clOf T ⟨y, none, fun _ _ => m⟩ = ⟨.ref (He.ga T.K x), none, fun _ _ _ Dd σ H => ∃ (_ : Nat) (_ : D), rdS T W0 m Dd σ H⟩ := by
    unfold clOf
    simp only [hx]
    rfl
  rw [List.map_cons, e]
  exact .bare ⟨hg, hd, .inl hm⟩ (fun a oe cls d pn _ _ => PSs.ex fun _ => PSs.ex fun _ => su a oe pn) r
theorem hcA (i : Nat) (hx : T.xn[y]? = some (x, fo)) (hm : X.mg x = some (.ref (He.ga T.K x)))
    (su : ∀ (a : Addr) (oe : Obj) (cls : Value) (d : Option Addr) (pn : List (Addr × Obj)) (c : Nat) (p : D) (q : Option XfI), L2N.Zn cls d oe → (∃ vs, oe.data = .fields vs) → HxOk T c p cls d q → PSs (X.suite a ((a, oe) :: pn)) (b1 :: bs) (rdS (XT T [(i, .ref a)] q) W0 (mx c p)))
    (r : ClsOk X hs (l.map (clOf T))) (hi : X.N[i]? = some n := by rfl) (hl : X.env.kindOf n = some .local := by rfl) (hg : Gl X x := by rfl) (hd : (x == ("__debug__" : Str)) = false := by decide) :
    ClsOk X (.ExceptHandler (some (.Name x p1)) (some n) (b1 :: bs) p2 :: hs) ((⟨y, some i, mx⟩ :: l).map (clOf T)) := by
  have e : clOf T ⟨y, some i, mx⟩ = ⟨.ref (He.ga T.K x), some i, fun a cls d D σ H => ∃ c p q, HxOk T c p cls d q ∧ rdS (XT T [(i, .ref a)] q) W0 (mx c p) D σ H⟩ := by
    unfold clOf
    simp only [hx]
    rfl
  rw [List.map_cons, e]
  exact .named ⟨hg, hd, .inl hm⟩ hi hl (fun a oe cls d pn hz hf => PSs.ex fun c => PSs.ex fun p => PSs.ex fun q => PSs.when fun h => su a oe cls d pn c p q hz hf h) r
theorem sTy (B : Bd T X) (px : Px X W) {hd : ExceptHandler} {mb : MS} (hT : T.sp = []) (hT2 : T.xf = none) (xo : XbOk T xb) (hb : ∀ (W : WX) (pn : List (Addr × Obj)) (xe : Value → Shared → Prop), Px (X.tr pn xe) W → PSs (X.tr pn xe) body (rdS T W mb)) (hh : ClsOk X (hd :: hs) (l.map (clOf T)))
    (hy : (l.all fun k => Nat.blt k.y T.xn.length) = true := by rfl) (st : X.stack = X.env :: X.outer := by rfl) (fr : X.env.frame = some X.env.locals := by rfl) : PS X (.Try body (hd :: hs) [] [] pos) (rdS T W (sTry xb mb l)) :=
  (ps_tryC st fr B.nd px.tk hb hh).imp fun _ _ _ h => rd_try B.K hT hT2 xo (fun k hk => by simpa using List.all_eq_true.mp hy k hk) h
end
section
variable {T : Tb} {W : WX} {X : Cx} {pos np ip : Pos} {x n f z : Str} {c ci y i : Nat} {a : Addr} {oe : Obj} {cls : Value} {d : Option Addr} {pn : List (Addr × Obj)} {p : D} {q : Option XfI} {xb : List (List Bool)} {e : Expr}
theorem xXf (hK : X.K = T.K) (ci i : Nat) (fc : XfC T.K (He.ga T.K x)) (hno : PySem.W.findIn T.K (.ref (He.ga T.K x)) f = some none) (hx : T.xn[ci]? = some (x, some f)) (hz : L2N.Zn cls d oe) (hf : ∃ vs, oe.data = .fields vs) (ho : HxOk T c p cls d q)
    (hN : X.N[i]? = some n := by rfl) (hv : Vis X.env.scope n := by first | exact Or.inl rfl | exact Or.inr (Or.inl rfl) | exact Or.inr (Or.inr rfl)) (hd : (n == ("__debug__" : Str)) = false := by decide) (hcd : (n == ("__classdict__" : Str)) = false := by decide)
    (hb : attributeBase (.Name n np) f X.env (eval (.Name n np) X.env) = eval (.Name n np) X.env := by rfl) : PE (X.suite a ((a, oe) :: pn)) (.Attribute (.Name n np) f pos) (rdE (XT T [(i, .ref a)] q) W (mXf ci i c p)) := by
  refine (pe_xf (C := He.ga T.K x) (by rw [hK]; exact fc) (by rw [hK]; exact hno) hz.zc hf (pe_var (X := X.suite a ((a, oe) :: pn)) (i := i) hN hv hd hcd) hb).imp fun σ H Q h => ?_
  obtain ⟨ρ, sl, lh, s, post⟩ := h
  obtain ⟨hc, post1⟩ := cond_stuck post
  clear post
  have hc := Nat.eq_of_beq_eq_true hc
  subst hc
  split at post1
  · rename_i e1
    obtain ⟨x', fo, h1, h2, h3⟩ := ho
    rw [hx] at h1
    cases h1
    obtain ⟨dd, v, e2, e3⟩ := h3
    obtain ⟨g1, g2, g3⟩ := s.xf _ e3
    have g0 := s.pin (i, .ref a) (List.mem_singleton.mpr rfl) e1
    exact ⟨.ref a, g0, rfl, h2, dd, _, v, e2, g1, by simp [List.lookup], PostE.ok post1 Le.refl s.hr g3⟩
  · exact post1.elim
end
end TL
namespace TL
open PySem PySem.Spec PyProof.Rows L2
section
variable {T : Tb}
mutual
theorem constB_ok : ∀ {d : D} {u : Value}, constB T.K u d = true → ∃ v, RelV v u ∧ ∀ ρ H, RelD T ρ H d v
  | .non, u, h => by
    cases u with
    | none => exact ⟨.non, rfl, fun _ _ => rfl⟩
    | _ => cases h
  | .bl b, u, h => by
    cases u with
    | bool c =>
      have e : b = c := eq_of_beq (show (b == c) = true from h)
      exact ⟨.bl b, by rw [e]; rfl, fun _ _ => rfl⟩
    | _ => cases h
  | .int i, u, h => by
    cases u with
    | int j t =>
      have e : i = j := of_decide_eq_true h
      exact ⟨.int i, ⟨t, by rw [e]⟩, fun _ _ => rfl⟩
    | _ => cases h
  | .str x, u, h => by
    cases u with
    | str y t =>
      have e : x = y := of_decide_eq_true h
      exact ⟨.str x, ⟨t, by rw [e]⟩, fun _ _ => rfl⟩
    | _ => cases h
  | .tup ds, u, h => by
    cases u with
    | ref a =>
      unfold constB at h
      simp only at h
      cases q : T.K.lookup a with
      | none => rw [q] at h; cases h
      | some o =>
        obtain ⟨oc, od, dt, osl⟩ := o
        rw [q] at h
        cases oc with
        | type c =>
          cases dt with
          | seq its n =>
            obtain ⟨h1, h2⟩ := band h
            obtain ⟨h3, h4⟩ := band h2
            obtain ⟨vs, r1, r2⟩ := constBs_ok h4
            exact ⟨.ref a, rfl, fun ρ H => ⟨a, vs, rfl, .inr ⟨_, its, n, q, congrArg Value.type (of_decide_eq_true h1), rfl, of_decide_eq_true h3, r1⟩, r2 ρ H⟩⟩
          | _ => cases h
        | _ => cases dt <;> cases h
    | _ => cases h
  | .obj _, _, h => by unfold constB at h; cases h
  | .kls _, _, h => by unfold constB at h; cases h
  | .lam _, _, h => by unfold constB at h; cases h
theorem constBs_ok : ∀ {ds : List D} {us : List Value}, constBs T.K us ds = true → ∃ vs, Vals vs us ∧ ∀ ρ H, RelDs T ρ H ds vs
  | [], us, h => by
    unfold constBs at h
    have : us = [] := List.isEmpty_iff.mp h
    subst this
    exact ⟨[], .nil, fun _ _ => rfl⟩
  | d :: ds, us, h => by
    unfold constBs at h
    cases us with
    | nil => cases h
    | cons u r =>
      obtain ⟨h1, h2⟩ := band h
      obtain ⟨v, g1, g2⟩ := constB_ok h1
      obtain ⟨vs, k1, k2⟩ := constBs_ok h2
      exact ⟨v :: vs, .cons g1 k1, fun ρ H => ⟨v, vs, rfl, g2 ρ H, k2 ρ H⟩⟩
end
end
theorem tbB_ok {T : Tb} (h : tbB T.cn T.fn T.K = true) (h1 : T.fn.Nodup) (h2 : T.cn.Nodup) : T.Ok := by
  obtain ⟨a1, h⟩ := band h
  obtain ⟨a2, h⟩ := band h
  obtain ⟨a3, h⟩ := band h
  obtain ⟨a4, h⟩ := band h
  obtain ⟨a5, a6⟩ := band h
  refine ⟨h1, fun x hx => ?_, fun x hx f hf => ?_, fun a ha x hx => ?_, fun x hx y hy => ?_, fun x hx a ha => ?_, h2⟩
  · obtain ⟨b1, b⟩ := band (List.all_eq_true.mp a1 x hx)
    obtain ⟨b2, b3⟩ := band b
    have hn : T.cn.isEmpty = false := by
      cases q : T.cn with
      | nil => rw [q] at hx; cases hx
      | cons _ _ => rfl
    rw [hn, Bool.false_or] at a2
    obtain ⟨c1, c2⟩ := band a2
    exact ⟨He.cls_ok b1, He.eqO_ok b2, He.eqO_ok c1, okO_ok c2, okO_ok b3⟩
  · exact He.noat_ok (List.all_eq_true.mp (List.all_eq_true.mp a3 x hx) f hf)
  · exact okO_ok (List.all_eq_true.mp (List.all_eq_true.mp a4 a ha) x hx)
  · exact okO_ok (List.all_eq_true.mp (List.all_eq_true.mp a5 x hx) y hy)
  · exact okO_ok (List.all_eq_true.mp (List.all_eq_true.mp a6 x hx) a ha)
theorem xclB_ok {K : PySem.W.Frag} {C : Addr} (h : xclB K C = true) : ∃ nm q N bs bm sn sub ab col dd k0 k1 k2 k3 k5, K.lookup C = some (excClassObj nm q C N bs bm true sn sub ab col dd k0 k1 k2 k3 k5 "ValueError.__new__") ∧ PySem.HandSPX.refsVE bm = true := by
  unfold xclB at h
  split at h
  · rename_i dd cd sl ho
    split at h
    · rename_i C' bm k0 k1 k2 k3 n k5 hm hs
      obtain ⟨h1, h⟩ := band h
      obtain ⟨h2, h⟩ := band h
      obtain ⟨h3, h⟩ := band h
      obtain ⟨h4, h5⟩ := band h
      have e1 : C' = C := of_decide_eq_true h1
      have e2 : n = "ValueError.__new__" := of_decide_eq_true h2
      subst e1 e2
      obtain ⟨nm, bs, mro, ns, qn, hd, sn, sub, ab, col, del⟩ := cd
      dsimp only at hm h3 h4
      subst hm
      have e3 : del = false := by simpa using h3
      subst e3 h4
      obtain ⟨l⟩ := sl
      simp only at hs
      subst hs
      exact ⟨nm, qn, ns, bs, bm, sn, sub, ab, col, dd, k0, k1, k2, k3, k5, ho, h5⟩
    · cases h
  · cases h
theorem cfB_ok {K : PySem.W.Frag} {file : Str} {v : Value} (h : cfB K file v = true) : ∃ c, v = .ref c ∧ ∃ ccl cdd vs ccs z tf, K.lookup c = some ⟨ccl, cdd, .fields vs, ccs⟩ ∧ vs[2]? = some (.str z tf) ∧ (file == z) = true := by
  unfold cfB at h
  split at h
  · rename_i c
    split at h
    · rename_i c1 d1 vs s1 hc
      split at h
      · rename_i z t hv
        exact ⟨c, rfl, c1, d1, vs, s1, z, t, hc, hv, h⟩
      · cases h
    · cases h
  · cases h
theorem clB_ok {K : PySem.W.Frag} {C : Addr} {l : List (Str × Addr)} (h : clB K C l = true) : ∃ q, l = [q] ∧ ∃ cl cld csl, K.lookup q.2 = some ⟨cl, cld, .cell (some (.ref C)), csl⟩ := by
  unfold clB at h
  split at h
  · rename_i q
    split at h
    · rename_i c1 d1 D s1 hc
      have e := of_decide_eq_true h
      rw [e] at hc
      exact ⟨q, rfl, c1, d1, s1, hc⟩
    · cases h
  · cases h
/-- what a def's text must be, besides -/
structure XDOk (d : XD) : Prop where
  pr : ∃ p1 p2, d.params = xArgs d.f p1 p2
  bo : ∃ r0 r1 r2 r3 r4 r5 q1 q2 q3 q4, d.body = xBody d.f r0 r1 r2 r3 r4 r5 q1 q2 q3 q4 ∧ ∀ (doc pm : Value) (an : Option Addr) (cd ct : Value) (cc fI : Addr), XEv d.f r0 r1 r2 r3 r4 (fun L => callEnv (PySem.W.ksFn "__init__" d.qual d.params d.body d.scope .none .none doc pm an cd ct cc) L fI)
  bi : ∀ (doc pm : Value) (an : Option Addr) (cd ct : Value) (cc : Addr) (u v : Value), bindArgs (PySem.W.ksFn "__init__" d.qual d.params d.body d.scope .none .none doc pm an cd ct cc) ⟨[u, v], []⟩ = pure [(("self" : Str), u), (d.f, v)]
  sc : d.scope.kind = .function ∧ d.scope.isCoroutine = false ∧ d.scope.isGenerator = false ∧ (∀ y ∈ d.scope.names, y.2 ≠ .cell) ∧ d.scope.names.lookup ("super" : Str) = some .globalImplicit ∧ d.scope.names.lookup ("__class__" : Str) = some .free ∧ d.scope.names.lookup ("self" : Str) = some .local ∧ d.scope.names.lookup d.f = some .local ∧ ("self" : Str) ≠ d.f ∧ (d.f == ("__debug__" : Str)) = false
theorem xd_ok {P : Program} {K : PySem.W.Frag} {mg : Str → Option Value} {h : Heap} {d : XD} (kin : K.In h) (ns : h.Ns mainGlobals mg) (hp : (P.main.scope.names.lookup ("super" : Str)).isSome = false) (hw : xnW K d.x = d.val) (hb : xdB K P.main.file d = true) (ok : XDOk d) :
    XcT P K mg d.x d.f (He.ga K d.x) (He.ma K (He.ga K d.x) "__init__") ∧ XfC K (He.ga K d.x) ∧ PySem.W.findIn K (.ref (He.ga K d.x)) d.f = some none := by
  obtain ⟨a1, h⟩ := band hb
  obtain ⟨a2, h⟩ := band h
  obtain ⟨a3, h⟩ := band h
  obtain ⟨a4, h⟩ := band h
  obtain ⟨a5, h⟩ := band h
  obtain ⟨a6, h⟩ := band h
  obtain ⟨a7, h⟩ := band h
  obtain ⟨a8, h⟩ := band h
  obtain ⟨a9, h⟩ := band h
  obtain ⟨a10, h⟩ := band h
  obtain ⟨a11, h⟩ := band h
  obtain ⟨a12, h⟩ := band h
  obtain ⟨a13, h⟩ := band h
  obtain ⟨a14, h⟩ := band h
  obtain ⟨a15, a16⟩ := band h
  refine ⟨⟨PySem.W.mg_of kin ns (He.eqO_ok a2), xclB_ok a1, He.eqO_ok a3, He.eqO_ok a4, He.eqO_ok a5, of_decide_eq_true a6, a7, okO_ok a8, okO_ok a9, of_decide_eq_true a10, okO_ok a11, He.eqO_ok a12, He.eqO_ok a13, PySem.W.mg_none_of kin ns (He.eqO_ok a14), hp, ?_⟩, xfB_ok a16, He.eqO_ok a4⟩
  unfold xfnB at a15
  unfold xnW at hw
  cases q : K.lookup (He.ma K (He.ga K d.x) "__init__") with
  | none => rw [q] at hw; cases hw
  | some o =>
    obtain ⟨oc, od, dt, osl⟩ := o
    rw [q] at a15 hw
    cases dt with
    | func fd =>
      obtain ⟨n1, n2, n3, n4, n5, n6, n7, n8, n9, n10, n11, n12, n13, n14, n15⟩ := fd
      have e2 : (some (n1, n2, n3, n4, n5, n6, n7.map (·.1), n15, isNonV n8, isNonV n9) : XnW) = some (("__init__" : Str), d.qual, d.params, FuncBody.stmts d.body, d.scope, mainGlobals, [("__class__" : Str)], builtinsNs, true, true) := hw
      simp only [Option.some.injEq, Prod.mk.injEq] at e2
      obtain ⟨e1, e2, e3, e4, e5, e6, e7, e8, e9, e10⟩ := e2
      subst e1 e2 e3 e4 e5 e6 e8
      have e9 : n8 = .none := by
        unfold isNonV at e9
        split at e9
        · rfl
        · cases e9
      have e10 : n9 = .none := by
        unfold isNonV at e10
        split at e10
        · rfl
        · cases e10
      subst e9 e10
      obtain ⟨b1, b⟩ := band a15
      obtain ⟨b2, b3⟩ := band b
      obtain ⟨cda, ec, b4⟩ := cfB_ok b2
      obtain ⟨⟨z, cc⟩, ez, b5⟩ := clB_ok b3
      have ec : n13 = .ref cda := ec
      have ez : n7 = [(z, cc)] := ez
      subst ec ez
      have ez : z = ("__class__" : Str) := by simpa using e7
      subst ez
      obtain ⟨r0, r1, r2, r3, r4, r5, q1, q2, q3, q4, ob, ev⟩ := ok.bo
      exact ⟨oc, od, n10, n11, n12, cda, n14, osl, cc, d.qual, d.params, d.body, d.scope, rfl, b1, fun u v => ok.bi _ _ _ _ _ _ u v, ok.pr, ⟨r0, r1, r2, r3, r4, r5, q1, q2, q3, q4, ob, ev _ _ _ _ _ _ _⟩, ok.sc, b4, b5⟩
    | _ => cases hw
def Fx.obs (F : Fx) (g : Addr → Option Obj) (K : PySem.W.Frag) : AlX := (F.ck K && He.tabsB g (F.tf.map (·.1)) K, F.df.map fun d => He.fnW K d.at_, F.ts.map fun t => He.dicW K (He.ga K t.1), F.xd.map fun d => xnW K d.x)
structure Fx.tells (F : Fx) (w : World) (h : Heap) (K : PySem.W.Frag) : Prop where
  says : F.says w K
  hd : ∀ p ∈ F.tf, PySem.W.codeHdIn K (He.cT K p.1).1 (He.cT K p.1).2 = true
  out : ∀ p ∈ F.tf, K.lookup (He.cT K p.1).2 = none
  empty : ∀ p ∈ F.tf, h.get? (He.cT K p.1).2 = some { cls := .none, data := .fields #[] }
def asL (g : Addr → Option Obj) (n : Nat) : List Addr := He.asD g n ++ [cStatics]
def Fx.obsG (n : Nat) (F : Fx) (g : Addr → Option Obj) : AlX := F.obs g (He.frT g (asL g n))
theorem tells_of {n : Nat} {F : Fx} {w : World} {h : Heap} (e : F.obsG n h.get? = F.val w) : F.tells w h (He.frT h.get? (asL h.get? n)) := by
  have e1 : (F.ck (He.frT h.get? (asL h.get? n)) && He.tabsB h.get? (F.tf.map (·.1)) (He.frT h.get? (asL h.get? n))) = true := congrArg (fun z : AlX => z.1) e
  obtain ⟨h1, h2⟩ := band e1
  have key : ∀ p ∈ F.tf, PySem.W.codeHdIn (He.frT h.get? (asL h.get? n)) (He.cT (He.frT h.get? (asL h.get? n)) p.1).1 (He.cT (He.frT h.get? (asL h.get? n)) p.1).2 = true ∧ ∃ o, h.get? (He.cT (He.frT h.get? (asL h.get? n)) p.1).2 = some o ∧ He.emptyTab o = true := fun p hp => by
    obtain ⟨h3, h4⟩ := band (List.all_eq_true.mp h2 p.1 (List.mem_map.mpr ⟨p, hp, rfl⟩))
    refine ⟨h3, ?_⟩
    split at h4
    · rename_i o q
      exact ⟨o, q, h4⟩
    · cases h4
  refine ⟨⟨h1, congrArg (fun z : AlX => z.2.1) e, congrArg (fun z : AlX => z.2.2.1) e, congrArg (fun z : AlX => z.2.2.2) e⟩, fun p hp => (key p hp).1, fun p hp => ?_, fun p hp => ?_⟩
  · obtain ⟨_, o, q, z⟩ := key p hp
    exact He.frT_none q z
  · obtain ⟨_, o, q, z⟩ := key p hp
    rw [q, He.emptyTab_eq z]
def Fx.hook (n : Nat) (F : Fx) : PySem.W.Hook where
  α := AlX
  obs := fun s => F.obsG n s.heap.get?
  val := fun w => F.val w
  says := fun w h => ∃ K : PySem.W.Frag, K.In h ∧ F.tells w h K
  of := fun _ _ e => ⟨_, He.frT_in, tells_of e⟩
  keeps := fun _ _ _ ⟨K, hK, c⟩ k => ⟨K, PySem.W.Frag.In.keeps hK k, ⟨c.says, c.hd, c.out, fun p hp => k _ _ (c.empty p hp)⟩⟩
theorem Fx.obs_eq {n : Nat} {F : Fx} {g : Addr → Option Obj} {s : Shared} (h : ∀ a, g a = s.heap.get? a) : F.obsG n g = (F.hook n).obs s := by
  have e : g = s.heap.get? := funext h
  rw [e] <;> rfl
section
variable {F : Fx} {P : Program} {w : World} {K : PySem.W.Frag} {mg : Str → Option Value} {base : Heap}
theorem says_ok (c : F.says w K) (h1 : F.fn.Nodup) (h2 : F.cn.Nodup) : (F.tb K w).Ok := tbB_ok (T := F.tb K w) (band (says_ck c)).1 h1 h2
theorem nsB_ok {T : Tb} {a : Addr} {q : Str × D} (h : nsB T.K a q = true) : ∃ u v, PySem.W.nsIn T.K a q.1 = some (some u) ∧ RelV v u ∧ ∀ ρ H, RelD T ρ H q.2 v := by
  unfold nsB at h
  cases e : PySem.W.nsIn T.K a q.1 with
  | none => rw [e] at h; cases h
  | some r =>
    rw [e] at h
    cases r with
    | none => cases h
    | some u =>
      obtain ⟨v, h1, h2⟩ := constB_ok h
      exact ⟨u, v, rfl, h1, h2⟩
theorem Ct.con (c : Ct F P w K mg base) (i : Nat) {x : Str} {d : D} (h : F.cs[i]? = some (x, d) := by rfl) : ∃ u v, mg x = some u ∧ RelV v u ∧ ∀ ρ H, RelD (F.tb K w) ρ H d v := by
  have h1 := List.all_eq_true.mp (band (band (band (says_ck c.say)).2).2).1 _ (List.mem_of_getElem? h)
  obtain ⟨u, v, g1, g2, g3⟩ := nsB_ok (T := F.tb K w) h1
  exact ⟨u, v, PySem.W.mg_of c.kin c.ns g1, g2, g3⟩
theorem Ct.tab_ (c : Ct F P w K mg base) (i : Nat) {x : Str} {tab : List (Str × D)} (h : F.ts[i]? = some (x, tab) := by rfl) : TabOk (F.tb K w) (He.ga K x) tab := by
  have h1 := List.all_eq_true.mp (band (band (band (band (says_ck c.say)).2).2).2).1 _ (List.mem_of_getElem? h)
  have e2 : (F.ts.map (fun t => He.dicW K (He.ga K t.1)))[i]? = (F.ts.map fun t => some (He.keysIn w.params (t.2.map (·.1))))[i]? := by rw [c.say.ts]
  rw [List.getElem?_map, List.getElem?_map, h] at e2
  obtain ⟨es, n, D⟩ := He.dicW_ok (Option.some.inj e2)
  intro q hq
  obtain ⟨u, v, g1, g2, g3⟩ := nsB_ok (T := F.tb K w) (List.all_eq_true.mp h1 q hq)
  exact ⟨v, ⟨es, n, u, D.at_, D.lit, g1, g2⟩, g3⟩
theorem Ct.def_ (c : Ct F P w K mg base) (i : Nat) {d : He.DefD} (h : F.df[i]? = some d := by rfl) : ∃ fd, FunD K d.name d.qual d.params d.body d.scope (d.dvs K) (d.kws K) (He.fAd K d.at_) fd := by
  have c2 := (band (band (band (band (band (says_ck c.say)).2).2).2).2).1
  have e2 : (F.df.map fun d => He.fnW K d.at_)[i]? = (F.df.map He.DefD.val)[i]? := by rw [c.say.df]
  rw [List.getElem?_map, List.getElem?_map, h] at e2
  exact He.DefD.funD (Option.some.inj e2) (List.all_eq_true.mp c2 d (List.mem_of_getElem? h))
theorem Ct.xg (c : Ct F P w K mg base) (i : Nat) {x : Str} {fo : Option Str} (h : F.xn[i]? = some (x, fo) := by rfl) : mg x = some (.ref (He.ga K x)) := PySem.W.mg_of c.kin c.ns (He.eqO_ok (band (xAll_one c.xall (c := i) h)).1)
theorem Ct.x0 (c : Ct F P w K mg base) (i : Nat) {x : Str} (h : F.xn[i]? = some (x, none) := by rfl) : X0 (F.tb K w) mg i x := by
  have h1 := (band (band (xAll_one c.xall (c := i) h)).2).1
  obtain ⟨_, h2⟩ := band h1
  obtain ⟨g1, g⟩ := band (show (PySem.W.excIn K (He.ga K x) He.veBase "ValueError.__new__" && (PySem.W.keepIn K (.ref (He.ga K x)) && (decide (PySem.W.subIn K (.ref (He.ga K x)) (.type "BaseException") = some true) && decide (PySem.W.typeIn K (.ref (He.ga K x)) = some (.type "type"))))) = true from h2)
  obtain ⟨g2, g⟩ := band g
  obtain ⟨g3, g4⟩ := band g
  exact ⟨h, c.xg i h, g1, g2, of_decide_eq_true g3, of_decide_eq_true g4⟩
theorem Ct.xdf (c : Ct F P w K mg base) (i : Nat) {d : XD} (ok : XDOk d) (h : F.xd[i]? = some d := by rfl) : XcT P K mg d.x d.f (He.ga K d.x) (He.ma K (He.ga K d.x) "__init__") ∧ XfC K (He.ga K d.x) ∧ PySem.W.findIn K (.ref (He.ga K d.x)) d.f = some none := by
  have c2 := (band (band (band (band (band (band (band (says_ck c.say)).2).2).2).2).2).2).1
  have e2 : (F.xd.map fun d => xnW K d.x)[i]? = (F.xd.map XD.val)[i]? := by rw [c.say.xd]
  rw [List.getElem?_map, List.getElem?_map, h] at e2
  have e3 := List.all_eq_true.mp c2 d (List.mem_of_getElem? h)
  rw [← c.fl] at e3
  exact xd_ok c.kin c.ns c.su (Option.some.inj e2) e3 ok
end
section
variable {T : Tb} {P : Program} {w : World} {K : PySem.W.Frag} {mg : Str → Option Value} {base : Heap} {x qual : Str} {params : Arguments} {body : List Stmt} {scope : Scope} {dvs : List V} {kws : List (Str × V)} {f : Addr} {fd : FuncData}
theorem start_sr {ρ : List Addr} {H : Hp} {lh : LH} {N : List Str} {ds : List D} {vs : List V} (hsp : T.sp = []) (hxf : T.xf = none) (hr : HR T ρ H lh) (r : RelDs T ρ H ds vs) : SR T ρ H (startL N.length ds) lh (start N vs) := by
  have hl := r.length
  refine ⟨hr, by unfold startL L2.start; simp [hl], (fun z hz => absurd hz (by rw [hsp]; simp)), (fun z hz => absurd hz (by rw [hxf]; simp)), fun i d e => ?_⟩
  unfold startL at e
  unfold L2.start
  by_cases h : i < ds.length
  · rw [List.getElem?_append_left (by simpa using h), List.getElem?_map] at e
    obtain ⟨d', e1, e2⟩ := map_some e
    cases e2
    obtain ⟨v, g1, g2⟩ := r.get e1
    refine ⟨v, ?_, g2⟩
    rw [List.getElem?_append_left (by rw [List.length_map, ← hl]; exact h), List.getElem?_map, g1]
    rfl
  · rw [List.getElem?_append_right (by simpa using h)] at e
    have := List.mem_of_getElem? e
    simp at this
theorem fnR_post {E : XK} {ρ : List Addr} {lh : LH} {H : Hp} {Q : VK} : ∀ {r : SRes}, PostE T E ρ lh H (fnR r) Q → PostS T (fun cls d _ H => E cls d H) ρ lh H r { nx := fun _ H' => Q .non H', rt := Q }
  | .rt d l1, p => fun ρ' H' v le hr r => PostE.ok (show PostE T E ρ lh H (.ok d l1) Q from p) le hr r
  | .nx sl l1, p => fun ρ' H' σ' le sr => PostE.ok (show PostE T E ρ lh H (.ok .non l1) Q from p) le sr.hr rfl
  | .err sl c q l1, p => fun ρ' H' σ' cls dd le sr ex => (show PostE T E ρ lh H (.err c q l1) Q from p) ρ' H' cls dd le sr.hr ex
  | .bk _ _, p => p.elim
  | .ct _ _, p => p.elim
  | .stuck, p => p
  | .alt l r, p => ⟨fnR_post (r := l) p.1, fnR_post (r := r) p.2⟩
theorem fnM_eq {n : Nat} {m : MS} {ds : List D} {lh : LH} : fnM n m ds lh = fnR (m (startL n ds) lh) := by
  unfold fnM
  cases m (startL n ds) lh <;> rfl
theorem fnok_of {N ps : List Str} {k : Nat} {m : MS} (F : FunD K x qual params body scope dvs kws f fd) (S : FnScope N ps scope) (hK : T.K = K) (hw : T.w = w) (ok : T.Ok) (hsp : T.sp = []) (hxf : T.xf = none)
    (hb : ∀ (cdv : Value) (A : Around) (outer : List Env) (s : Shared) (H : Hp) (E : XK), Room k (A.deeper (envOfC qual scope s.heap.objs.size f cdv)) → Bd T (cxOf (L2N.CX P w) P w K mg base N qual scope f cdv A outer s H E) → Px (cxOf (L2N.CX P w) P w K mg base N qual scope f cdv A outer s H E) (fun cls d _ H => E cls d H) →
      PSs (cxOf (L2N.CX P w) P w K mg base N qual scope f cdv A outer s H E) body (rdS T (fun cls d _ H => E cls d H) m)) :
    FnOk P w K mg base (L2N.CX P w) (k + 1) f fd ps (spOf T ps.length (fnM N.length m)) := by
  refine F.ok S (fun vs H Q E h => h.1) fun cdv A outer s H vs Q E hr h => ?_
  obtain ⟨hl, ρ, lh, ds, hr2, rd, post⟩ := h
  refine ⟨rdS T (fun cls d _ H => E cls d H) m, hb cdv A outer s H E hr ⟨⟨hK.symm, hw.symm, ?_, ok, S.nd⟩, rfl⟩ ⟨PassesOwn.leaving, L2N.takes_of rfl rfl rfl rfl⟩, ρ, startL N.length ds, lh, start_sr hsp hxf hr2 rd, ?_⟩
  · have := hr.un
    show (A.deeper _).units + 65 < cLine
    omega
  · rw [fnM_eq] at post
    exact fnR_post post
theorem fg_of {N ps : List Str} {k : Nat} {m : MS} (F : FunD K x qual params body scope [] kws f fd) (S : FnScope N ps scope) (hK : T.K = K) (hw : T.w = w) (ok : T.Ok) (hsp : T.sp = []) (hxf : T.xf = none)
    (hb : ∀ (cdv : Value) (A : Around) (outer : List Env) (s : Shared) (H : Hp) (E : XK), Room k (A.deeper (envOfC qual scope s.heap.objs.size f cdv)) → Bd T (cxOf (L2N.CX P w) P w K mg base N qual scope f cdv A outer s H E) → Px (cxOf (L2N.CX P w) P w K mg base N qual scope f cdv A outer s H E) (fun cls d _ H => E cls d H) →
      PSs (cxOf (L2N.CX P w) P w K mg base N qual scope f cdv A outer s H E) body (rdS T (fun cls d _ H => E cls d H) m))
    (bd : ∀ (kV doc pm : Value) (an : Option Addr) (cdv ct : Value) (us : List Value), us.length = ps.length → bindArgs (PySem.W.fnOf x qual params body scope .none kV doc pm an cdv ct) ⟨us, []⟩ = pure (ps.zip us)) :
    FG T P w K mg base (k + 1) f ps.length (fnM N.length m) :=
  ⟨⟨fd, ps, fnok_of F S hK hw ok hsp hxf hb, F.bindsN bd⟩, F.kp⟩
end
end TL
namespace TL
open PySem PySem.Spec PyProof.Rows L2
section
variable {T : Tb} {W : WX} {X : Cx} {ρ : List Addr} {H : Hp} {lh : LH} {σ : L2.St}
abbrev lamO (l : LamI) (pm : Value) (c : Addr) (ct : Value) : Obj := PySem.W.kla_obj "<lambda>" l.q l.ps l.bd l.sc [] pm c ct
theorem lam_le {H' : Hp} {ts : List Addr} (hr : HR T ρ H lh) (hs : ∀ b, b ∉ ts → H b ≠ none → H' b = H b) (ht : ∀ b ∈ ts, b ∉ ρ ∧ ∃ ps, H b = some (.tbl ps)) (hn : ∀ b, b ∉ ρ → H b = none → b ∉ ρ) : Le ρ lh H ρ lh H' := by
  have old : ∀ b o, H b = some o → (∀ ps, o ≠ .tbl ps) → H' b = some o := fun b o e n => (hs b (fun z => by obtain ⟨_, ps, q⟩ := ht b z; rw [e] at q; exact n ps (Option.some.inj q)) (by rw [e]; simp)).trans e
  refine ⟨⟨List.prefix_refl _, (fun a ys e => old a _ e fun ps z => by cases z), (fun a o u e => old a _ e fun ps z => by cases z), fun a n e t => ⟨?_, n⟩⟩, fun _ _ => Nat.le_refl _, fun n a e _ => ?_⟩
  · exact hs a (fun z => by obtain ⟨_, ps, q⟩ := ht a z; exact t ps q) e
  · exact hs a (fun z => (ht a z).1 (List.mem_of_getElem? e)) (hr.trk a (List.mem_of_getElem? e))
theorem lam_hr {H' : Hp} {ts : List Addr} (hr : HR T ρ H lh) (hs : ∀ b, b ∉ ts → H b ≠ none → H' b = H b) (ht : ∀ b ∈ ts, b ∉ ρ ∧ ∃ ps, H b = some (.tbl ps)) (tab : ∀ p ∈ T.tbs, TabR ρ H' p.1 p.2) : HR T ρ H' lh := by
  have le := lam_le hr hs ht fun b n _ => n
  have same : ∀ a ∈ ρ, H' a = H a := fun a ha => hs a (fun z => (ht a z).1 ha) (hr.trk a ha)
  refine ⟨hr.len, hr.nd, fun a ha => by rw [same a ha]; exact hr.tk a ha, fun n o e => ?_, tab⟩
  obtain ⟨a, h1, h2⟩ := hr.obj n o e
  exact ⟨a, h1, h2.keep le.toLe0 (same a (List.mem_of_getElem? h1))⟩
theorem xLam (i : Nat) {l : LamI} {pos : Pos} {c P : Addr} (hl : T.lm[i]? = some l) (hq : l.q = X.env.qual ++ "<lambda>") (TB : LamX.TabB X.base X.mg c P) (hcode : X.env.code = .ref c) (hm : (P, l.q) ∈ T.tbs) (hu : ∀ p ∈ T.tbs, p.1 = P → p.2 = l.q)
    (hdef : defaultsOf l.ps X.env = ([], [])) (hcl : closureFor l.sc X.env = pure []) : PE X (.Lambda l.ps l.bd l.sc pos) (rdE T W (mC (.lam i))) := by
  refine ⟨fun pins s σ H Q I h => ?_⟩
  obtain ⟨ρ, sl, lh, sr, post⟩ := h
  have hr := sr.hr
  obtain ⟨nP, ps, hP, ht, ha⟩ := hr.tab _ hm
  have nP : P ∉ ρ := nP
  have hP : H P = some (.tbl ps) := hP
  refine PySem.W.kla_eval hdef ?_
  rw [← hq]
  have bP : s.heap.BuiltinsAt X.mg P := TB.bm.keeps I.bk
  have hPh : s.heap.get? P = some { cls := .none, data := .fields ps } := I.hok P _ hP
  cases hc : codeAmong pos ps.toList with
  | none =>
    refine PySem.W.kla_makeFunction (mg := X.mg) (c := c) (P := P) (ps := ps) hcl I.ok.glob (I.mod.glob.keeps I.bk) hcode (TB.code.keeps I.bk) hPh ht hc TB.gP bP fun c2 ct h2 tk hx hge hlt hrec htb => ?_
    obtain ⟨c3, oc, vs, t, e3, hoc, hd, hv⟩ := hrec
    cases e3
    have nC : H c2 = none := I.hok.fresh hge
    have sz : s.heap.objs.size ≤ h2.objs.size := Nat.le_trans hge (Nat.le_of_lt hlt)
    have I1 := LamX.inv_table (t' := tk) (more := #[rawInt pos.line, rawInt pos.col, .ref c2]) (h' := h2) I hP (fun b o hb e => hx b o hb e) htb hge ⟨oc, vs, t, hoc, hd, hv⟩
    have I2 := I1.laid (t' := tk) (a := h2.objs.size) (o := .frz (lamO l ((X.mg "__name__").getD .none) c2 ct) (.own h2.objs.size)) (h' := h2.push (lamO l ((X.mg "__name__").getD .none) c2 ct)) (fun b u e => Heap.get?_push_of_some _ e) (Nat.le_refl _) ⟨Heap.get?_push_size _ rfl, _, Heap.get?_push_size _ rfl⟩
    have nf : H h2.objs.size = none := I.hok.fresh sz
    have ncf : c2 ≠ h2.objs.size := Nat.ne_of_lt hlt
    have nPf : P ≠ h2.objs.size := ne_of_none hP nf
    have nPc : P ≠ c2 := ne_of_none hP nC
    have hs : ∀ b, b ∉ [P] → H b ≠ none → upd (upd (upd H P (.tbl (ps ++ #[rawInt pos.line, rawInt pos.col, .ref c2]))) c2 (LamX.CodeO c2 l.q)) h2.objs.size (.frz (lamO l ((X.mg "__name__").getD .none) c2 ct) (.own h2.objs.size)) b = H b := fun b hb hn => by
      rw [upd_ne (fun z => hn (by rw [z]; exact nf)), upd_ne (fun z => hn (by rw [z]; exact nC)), upd_ne (fun z => hb (by rw [z]; simp))]
    have hts : ∀ b ∈ [P], b ∉ ρ ∧ ∃ ps, H b = some (.tbl ps) := fun b hb => by
      have : b = P := by simpa using hb
      subst this
      exact ⟨nP, ps, hP⟩
    have nCρ : c2 ∉ ρ := fun z => hr.trk c2 z nC
    have hC : upd (upd (upd H P (.tbl (ps ++ #[rawInt pos.line, rawInt pos.col, .ref c2]))) c2 (LamX.CodeO c2 l.q)) h2.objs.size (.frz (lamO l ((X.mg "__name__").getD .none) c2 ct) (.own h2.objs.size)) c2 = some (LamX.CodeO c2 l.q) := by rw [upd_ne ncf, upd_same]
    have eL : (ps ++ #[rawInt pos.line, rawInt pos.col, .ref c2]).toList = ps.toList ++ [rawInt pos.line, rawInt pos.col, .ref c2] := by simp
    have code : ∀ c0 q, H c0 = some (LamX.CodeO c0 q) → upd (upd (upd H P (.tbl (ps ++ #[rawInt pos.line, rawInt pos.col, .ref c2]))) c2 (LamX.CodeO c2 l.q)) h2.objs.size (.frz (lamO l ((X.mg "__name__").getD .none) c2 ct) (.own h2.objs.size)) c0 = some (LamX.CodeO c0 q) := fun c0 q e =>
      (hs c0 (fun z => by have : c0 = P := by simpa using z
                          rw [this, hP] at e; exact LamX.codeO_ne ps (Option.some.inj e).symm) (by rw [e]; simp)).trans e
    have hr2 := lam_hr hr hs hts fun p hp => by
      by_cases hb : p.1 = P
      · rw [hu p hp hb, hb]
        refine ⟨nP, _, by rw [upd_ne nPf, upd_ne nPc, upd_same], by rw [eL]; exact PySem.TriplesOk_snoc _ _ _ _ ht, fun p' cv hcv => ?_⟩
        rw [eL] at hcv
        rcases LamX.among_app _ ht hcv with z | z
        · obtain ⟨c0, e1, e2, e4⟩ := ha p' cv z
          exact ⟨c0, e1, code c0 _ e2, e4⟩
        · exact ⟨c2, z, hC, nCρ⟩
      · obtain ⟨a0, ps', a1, a2, a3⟩ := hr.tab p hp
        refine ⟨a0, ps', (hs p.1 (fun z => hb (by simpa using z)) (by rw [a1]; simp)).trans a1, a2, fun p' cv hcv => ?_⟩
        obtain ⟨c0, e1, e2, e4⟩ := a3 p' cv hcv
        exact ⟨c0, e1, code c0 _ e2, e4⟩
    refine ⟨.ref h2.objs.size, _, I2, rfl, PostE.ok post (lam_le hr hs hts fun b n _ => n) hr2 ?_⟩
    exact ⟨h2.objs.size, c2, _, ct, _, l, rfl, hl, upd_same, hC, nCρ⟩
  | some cv =>
    obtain ⟨c2, e, hco, nc⟩ := ha pos cv hc
    subst e
    refine PySem.W.kla_makeFunctionHit (mg := X.mg) (c := c) (P := P) (ps := ps) hcl I.ok.glob (I.mod.glob.keeps I.bk) hcode (TB.code.keeps I.bk) hPh ht hc bP fun ct h2 tk hx sz => ?_
    have I1 : Inv X pins σ H { s with heap := h2, toks := tk } := I.kept hx
    have I2 := I1.laid (t' := tk) (a := h2.objs.size) (o := .frz (lamO l ((X.mg "__name__").getD .none) c2 ct) (.own h2.objs.size)) (h' := h2.push (lamO l ((X.mg "__name__").getD .none) c2 ct)) (fun b u e => Heap.get?_push_of_some _ e) (Nat.le_refl _) ⟨Heap.get?_push_size _ rfl, _, Heap.get?_push_size _ rfl⟩
    have nf : H h2.objs.size = none := I.hok.fresh sz
    refine ⟨.ref h2.objs.size, _, I2, rfl, PostE.ok post (le_fresh hr nf) (hr_fresh hr nf) ?_⟩
    exact ⟨h2.objs.size, c2, _, ct, _, l, rfl, hl, upd_same, by rw [upd_ne (ne_of_none hco nf)]; exact hco, nc⟩
end
structure LG (T : Tb) (P : Program) (w : World) (K : PySem.W.Frag) (mg : Str → Option Value) (base : Heap) (k i n : Nat) (g : Fn) : Prop where
  run : ∀ (l : LamI) (f c : Addr) (pm ct : Value) (A : Around) (outer : List Env) (s : Shared) (H : Hp) (us : List Value) (vs : List V) (Q : VK) (E : XK), T.lm[i]? = some l → Room k A → Env0 P w K mg base A outer s H → s.heap.get? f = some (lamO l pm c ct) → s.heap.CodeRec (.ref c) l.q →
    Vals vs us → spOf T n g vs H Q E → codeAny (model P w) A (.call (.ref f) ⟨us, []⟩) (CR (L2N.CX P w) outer P w H s Q E) s
section
variable {T : Tb} {P : Program} {w : World} {K : PySem.W.Frag} {mg : Str → Option Value} {base : Heap}
theorem lg_of {N ps : List Str} {k i : Nat} {m : ME} {l : LamI} (hl : T.lm[i]? = some l) (S : FnScope N ps l.sc) (hK : T.K = K) (hw : T.w = w) (ok : T.Ok) (hsp : T.sp = []) (hxf : T.xf = none)
    (bd : ∀ (pm cv ct : Value) (us : List Value), us.length = ps.length → bindArgs (PySem.W.kla_fn "<lambda>" l.q l.ps l.bd l.sc [] pm cv ct) ⟨us, []⟩ = pure (ps.zip us))
    (hb : ∀ (f : Addr) (cdv : Value) (A : Around) (outer : List Env) (s : Shared) (H : Hp) (E : XK), Room k (A.deeper (envOfC l.q l.sc s.heap.objs.size f cdv)) → Bd T (cxOf (L2N.CX P w) P w K mg base N l.q l.sc f cdv A outer s H E) → Px (cxOf (L2N.CX P w) P w K mg base N l.q l.sc f cdv A outer s H E) (fun cls d _ H => E cls d H) →
      PE (cxOf (L2N.CX P w) P w K mg base N l.q l.sc f cdv A outer s H E) l.bd (rdE T (fun cls d _ H => E cls d H) m)) :
    LG T P w K mg base (k + 1) i ps.length (lamFn N.length m) := by
  refine ⟨fun l2 f c pm ct A outer s H us vs Q E e1 hr e0 hf hc r hs => ?_⟩
  rw [hl] at e1
  cases e1
  obtain ⟨hlen, ρ, lh, ds, hr2, rd, post⟩ := hs
  have lim : s.heap.NoLimit := e0.mod.nolimit.keeps fun b o e => (e0.bs b o e).1
  have hk : ∀ y ∈ ps.zip us, l.sc.names.lookup y.1 = some .local ∨ (l.sc.names.lookup y.1 = some .cell ∧ ((cellsFrom (s.heap.objs.size + 1) l.sc.names []).lookup y.1).isSome = true) := fun ⟨n, v⟩ hy =>
    (S.par n (List.of_mem_zip hy).1).imp id fun q => ⟨q, PySem.W.cellsFrom_some _ _ _ (.inl q)⟩
  refine PySem.W.kla_callFunE hr.depth hf rfl S.co S.gen rfl hc ?_
  rw [bd pm (.ref c) ct us (by rw [← r.length]; exact hlen)]
  refine wpAny_pure (wpAny_newFunctionEnv_cells S.kind hk fun env he s1 x => ?_)
  subst he
  have I : Inv (cxOf (L2N.CX P w) P w K mg base N l.q l.sc f (.ref c) A outer s H E) [] (start N vs) H s1 := inv_start S hr.hd e0 hlen r x
  refine ⟨lim.keeps x.toInCall.keep, PySem.W.kla_codeExpr (wpAny_mono ((hb f (.ref c) A outer s H E (hr.deeper _) ⟨⟨hK.symm, hw.symm, ?_, ok, S.nd⟩, rfl⟩ ⟨PassesOwn.leaving, L2N.takes_of rfl rfl rfl rfl⟩).run [] s1 (start N vs) H Q I ⟨ρ, startL N.length ds, lh, start_sr hsp hxf hr2 rd, post⟩) (fun u s2 q => ?_) fun e s2 q => q)⟩
  · have := hr.un
    show A.units + 3 + 65 < cLine
    omega
  · obtain ⟨v, H2, J, rv, q2⟩ := q
    exact ⟨v, H2, J.os, J.bare, J.base, J.hok, rv, q2⟩
end
def LtOk (T : Tb) (X : Cx) (lt : MTab) : Prop := ∀ c n g, mtLook lt c = some (n, g) → ∃ j, LG T X.prog X.w X.K X.mg X.base j c n g ∧ Room j X.A
section
variable {T : Tb} {W : WX} {X : Cx} {pos p : Pos} {x : Str} {e : Expr} {es : List Expr} {ms : MA} {lt : MTab} {j k i n : Nat} {g : Fn}
theorem lt_nil : LtOk T X [] := fun _ _ _ e => nomatch e
theorem lt_cons (L : LG T X.prog X.w X.K X.mg X.base j i n g) (hr : Room k X.A) (r : LtOk T X lt) (le : j ≤ k := by decide) : LtOk T X ((i, n, g) :: lt) := by
  intro c n' g' e
  unfold mtLook at e
  cases hb : Nat.beq i c with
  | false => simp only [hb] at e; exact r c n' g' e
  | true =>
    simp only [hb] at e
    cases e
    have := Nat.eq_of_beq_eq_true hb
    subst this
    exact ⟨j, L, hr.mono le⟩
theorem xCallV (px : Px X W) (i : Nat) (L : LtOk T X lt) (ha : PA X (e :: es) (rdA T W ms)) (hN : X.N[i]? = some x := by rfl) (hv : Vis X.env.scope x := by first | exact Or.inl rfl | exact Or.inr (Or.inl rfl) | exact Or.inr (Or.inr rfl)) (hd : (x == ("__debug__" : Str)) = false := by decide) (hcd : (x == ("__classdict__" : Str)) = false := by decide)
    (hst : starEach (e :: es) X.env = (false, eval e X.env) :: starEach es X.env := by rfl) (hpl : (backTo pos (starEach es X.env)).any (·.1) = false := by rfl) : PE X (.Call (.Name x p) (e :: es) [] pos) (rdE T W (mCallV lt i ms)) := by
  refine ⟨fun pins s σ H Q I h => ?_⟩
  obtain ⟨ρ, sl, lh, sr, post⟩ := h
  unfold mCallV at post
  split at post
  · rename_i c ec
    split at post
    · rename_i n g eg
      obtain ⟨j, lg, rm⟩ := L c n g eg
      obtain ⟨v0, hv0, rv0⟩ := sr.sl i _ ec
      obtain ⟨f, cc, pm, ct, u0, l, e1, e2, e3, e4, e5⟩ := id rv0
      subst e1
      refine wpAny_Call_Name_kw (thn ((pe_var (pos := p) (i := i) hN hv hd hcd).run pins s σ H (fun v H1 => v = .ref f ∧ H1 = H) I ⟨.ref f, hv0, rfl, rfl⟩) fun u s1 ⟨v, H1, I1, r1, q1, q2⟩ => ?_)
      subst q1 q2
      obtain rfl : u = Value.ref f := r1
      have fnAt : ∀ {H2 : Hp} {s2 : Shared} {σ2 : L2.St} {pn : List (Addr × Obj)}, Inv X pn σ2 H2 s2 → LamR T ρ H2 c (.ref f) → True := fun _ _ => trivial
      have of1 : s1.heap.get? f = some (lamO l pm cc ct) := (show _ ∧ _ from I1.hok f _ e3).1
      refine PySem.W.callWith_F ⟨_, _, _, _, of1⟩ (thn (ha.run pos pins s1 σ H1 _ I1 ⟨ρ, sl, lh, sr, (PostG.bind post).mono fun ds h1 ρ1 H2 le1 hr1 p1 vs rv => (show ∃ (ρ1 : List Addr) (h1 : LH) (ds : List D), Le ρ lh H1 ρ1 h1 H2 ∧ HR T ρ1 H2 h1 ∧ RelDs T ρ1 H2 ds vs ∧ PostE T (atS W σ) ρ1 h1 H2 (bif Nat.beq ds.length n then g ds h1 else .stuck) Q from ⟨ρ1, h1, ds, le1, hr1, rv, p1⟩)⟩) fun us s2 ⟨vs, H2, I2, r2, ρ1, h1, ds, le1, hr1, rv, p1⟩ => ?_) hst hpl
      have f3 : H2 f = some (.frz (lamO l pm cc ct) u0) := le1.toLe0.frz _ _ _ e3
      have c3 : H2 cc = some (LamX.CodeO cc l.q) := (le1.toLe0.frm cc e5 (by rw [e4]; simp) (fun ps z => LamX.codeO_ne ps (Option.some.inj (e4.symm.trans z)))).1.trans e4
      have of2 : s2.heap.get? f = some (lamO l pm cc ct) := (show _ ∧ _ from I2.hok f _ f3).1
      obtain ⟨⟨oc, fv, t, hoc, hdc, hvc⟩, _, _⟩ := (show _ ∧ _ ∧ _ from I2.hok cc _ c3)
      obtain ⟨hb, p1⟩ := cond_stuck p1
      refine ⟨⟨_, _, _, _, of2⟩, wpAny_call (codeAny_mono (lg.run l f cc pm ct X.A X.stack s2 H2 us vs Q (atS W σ) e2 rm I2.env0 of2 ⟨cc, oc, fv, t, rfl, hoc, hdc, hvc⟩ r2 ⟨by rw [← rv.length]; exact Nat.eq_of_beq_eq_true hb, ρ1, h1, ds, hr1, rv, p1⟩) fun r s3 hq => ?_)⟩
      cases r with
      | error e => exact L2N.passAt px.tk σ pins H2 s2 e s3 I2 hq
      | ok fl =>
        cases fl with
        | ret u => exact I2.after hq
        | next => exact False.elim hq
        | brk => exact False.elim hq
        | cont => exact False.elim hq
    · exact post.elim
  · exact post.elim
end
end TL
namespace TL
open PySem PySem.Spec PyProof.Rows L2
theorem cut_map {α β : Type} (f : α → β) (xs : List α) (lo hi : Option Int) : cutL (xs.map f) lo hi = (cutL xs lo hi).map f := by
  unfold cutL
  rw [List.length_map, ← List.map_drop, ← List.map_take]
end TL
namespace TL
open PySem PySem.Spec PyProof.Rows L2
mutual
theorem hz_ok {w : World} : ∀ {k : NestedKey} {a : Int}, hz k = some a → k.hash w = a
  | .none, _, e => by cases e; rfl
  | .num i, _, e => by cases e; rfl
  | .text _, _, e => by cases e
  | .tup ks, a, e => by
    have e : (match hzs ks with
      | some hs => some (reduceHash (Builtin.Tuple.tupleHashOf hs))
      | none => none) = some a := e
    cases q : hzs ks with
    | none => rw [q] at e; cases e
    | some hs =>
      rw [q] at e
      cases e
      show reduceHash (Builtin.Tuple.tupleHashOf (NestedKey.hashes w ks)) = _
      rw [hzs_ok q]
theorem hzs_ok {w : World} : ∀ {ks : List NestedKey} {a : List Int}, hzs ks = some a → NestedKey.hashes w ks = a
  | [], _, e => by cases e; rfl
  | k :: ks, a, e => by
    have e : (match hz k, hzs ks with
      | some a, some b => some (a :: b)
      | _, _ => none) = some a := e
    cases q1 : hz k with
    | none => rw [q1] at e; cases e
    | some x =>
      cases q2 : hzs ks with
      | none => rw [q1, q2] at e; cases e
      | some y =>
        rw [q1, q2] at e
        cases e
        show NestedKey.hash w k :: NestedKey.hashes w ks = _
        rw [hz_ok q1, hzs_ok q2]
end
theorem ndI_ok : ∀ {l : List Int}, ndI l = true → l.Nodup
  | [], _ => List.nodup_nil
  | x :: r, h => by
    obtain ⟨h1, h2⟩ := band h
    refine List.nodup_cons.mpr ⟨fun hm => ?_, ndI_ok h2⟩
    have : (r.any fun y => decide (y = x)) = true := List.any_eq_true.mpr ⟨x, hm, decide_eq_true rfl⟩
    rw [this] at h1
    cases h1
theorem hashes_map {w : World} : ∀ ks : List NestedKey, NestedKey.hashes w ks = ks.map (NestedKey.hash w)
  | [] => rfl
  | k :: ks => by
    show NestedKey.hash w k :: NestedKey.hashes w ks = _
    rw [hashes_map ks]
    rfl
theorem hashOk_nd {w : World} {kvs : List Ent} (h : hashOk kvs = true) : (kvs.map fun x => x.1.hash w).Nodup := by
  unfold hashOk at h
  cases e : hzs (kvs.map (·.1)) with
  | none => rw [e] at h; cases h
  | some hs =>
    rw [e] at h
    have := ndI_ok h
    rw [← hzs_ok (w := w) e, hashes_map, List.map_map] at this
    exact this
section
variable {prog : Program} {w : World} {K : Type} [DecidableEq K] {knd : HeapKind prog w K} {A : Around} {E : Value → Shared → Prop} {s : Shared}
/-- dict(d), d with tuple keys that hash apart -/
theorem call_dictH {o : Addr} {more : List (K × Addr × Value)} {Q : Value → Shared → Prop} (hu : knd.room A.in1.in1) (hoS : (o == sysModules) = false) (ho : s.heap.DictOfH knd o more) (hk : ∀ h', (∀ b ob, s.heap.get? b = some ob → h'.get? b = some ob) → ∀ x ∈ more, knd.is h' x.1 x.2.1) (hty : ∀ x ∈ more, s.TypeIs (.ref x.2.1) "tuple") (hap : (more.map fun x => knd.hash x.1).Nodup) (hsz : more.length ≤ sizeLine)
    (h : ∀ h', h'.DictOfH knd s.heap.objs.size more → Heap.SameBut s.heap.objs.size (s.heap.push { cls := .type "dict", data := .dict #[] }) h' → Q (.ref s.heap.objs.size) { s with heap := h' }) : wpAny (model prog w) A (call (.type "dict") [.ref o]) Q E s := by
  refine callType_codes (Q₁ := fun obj s₁ => obj = .ref s.heap.objs.size ∧ s₁ = { s with heap := s.heap.push { cls := .type "dict", data := .dict #[] } }) F.kt_called_dict (F.kt_typeCall_dict_1 _) F.entry_dict_init (kt_code_dict_new _ ⟨rfl, rfl⟩) ?_
  intro obj s₁ ⟨e1, e2⟩
  subst e1 e2
  have kp : ∀ b ob, s.heap.get? b = some ob → (s.heap.push { cls := .type "dict", data := .dict #[] }).get? b = some ob := fun b ob e => Heap.get?_push_of_some _ e
  have new : (s.heap.push { cls := .type "dict", data := .dict #[] }).DictOfH knd s.heap.objs.size [] := ⟨_, #[], 0, Heap.get?_push_size _ rfl, ⟨rfl, rfl, rfl⟩, rfl, rfl, fun x hx => (nomatch hx), List.nodup_nil⟩
  have old : (s.heap.push { cls := .type "dict", data := .dict #[] }).DictOfH knd o more := by
    obtain ⟨oo, es, ep, g1, g2, g3, g4, g5, g6⟩ := ho
    exact ⟨oo, es, ep, kp _ _ g1, g2, g3, g4, hk _ kp, g6⟩
  have ne : s.heap.objs.size ≠ o := by
    obtain ⟨oo, _, _, g1, _⟩ := ho
    exact fun e => absurd (Heap.lt_size g1) (by rw [e]; exact Nat.lt_irrefl _)
  refine ⟨new.typeIs, F.args_dict_init_2 _ _, ?_⟩
  unfold Builtin.«dict.__init__» Builtin.Dict.selfAndRest
  refine wpAny_bind (wpAny_bind (wpAny_notOrdered_dict new.typeIs ?_))
  refine wpAny_pure ?_
  show wpAny _ _ (Builtin.Dict.updateFrom "dict.__init__" s.heap.objs.size (.ref o) [] .none) _ _ _
  refine updateFrom_dictH (A := A.in1) (s := { s with heap := s.heap.push { cls := .type "dict", data := .dict #[] } }) (kvs := []) .none hu ne hoS new old (.inr ⟨fun x hx => ?_, hap⟩) (by simpa using hsz) fun h' g1 _ g3 => ?_
  · obtain ⟨ob, e1, e2⟩ := hty x hx
    exact ⟨ob, kp _ _ e1, e2⟩
  · rw [storedAllH_nil_of_nodup more ho.nodup] at g1
    exact ⟨rfl, h h' g1 g3⟩
end
section
variable {T : Tb} {W : WX} {E : XK} {X : Cx} {pins : List (Addr × Obj)} {σ : L2.St} {H : Hp} {s : Shared} {ρ : List Addr} {lh : LH}
theorem new_dctC {p : Addr} {kd : Bool} {kvs : List Ent} {es : Array DictEntry} {ep : Nat} (hr : HR T ρ H lh) (hp : H p = none) (hsm : (p == sysModules) = false) (hl : kvs.length ≤ 100000) (nd : (kvs.map (·.1)).Nodup) (he : EntsR T ρ H kd kvs es.toList) :
    Le ρ lh H (ρ ++ [p]) (lh.new (.dct kd kvs)) (upd H p (dictO p es ep)) ∧ HR T (ρ ++ [p]) (upd H p (dictO p es ep)) (lh.new (.dct kd kvs)) := by
  have le : Le ρ lh H (ρ ++ [p]) (lh.new (.dct kd kvs)) (upd H p (dictO p es ep)) := Le.newObj hr hp (upd_old hp)
  exact ⟨le, hr.newObj hp (upd_old hp) (by rw [upd_same]; simp) ⟨hsm, hl, nd, es, ep, he.mono le.toLe0, upd_same⟩⟩
theorem cr_dict (hK : X.K = T.K) (hw : X.w = T.w) (hu : X.A.units + 65 < cLine) : CallR X (.type "dict") (rdFn T E (f1 bDict)) := cr1 fun ρ lh d v H Q hr rd post pins s σ us I r => by
  unfold bDict at post
  cases d with
  | obj n =>
    simp only at post
    split at post
    · rename_i kd kvs e
      obtain ⟨hb, post⟩ := cond_stuck post
      obtain ⟨a, ev, hn, hsm, hlen, nd, es, ep, he, hH⟩ := obj_of hr rd e
      subst ev
      obtain ⟨u, rfl, ru⟩ := vals1 r
      obtain rfl : u = .ref a := ru
      have raw := Inv.rawD I hH
      have hp : H s.heap.objs.size = none := I.hok.fresh (Nat.le_refl _)
      have fin : ∀ {h' : Heap} {es' : Array DictEntry} {ep' : Nat}, h'.DictRaw s.heap.objs.size es' ep' → Heap.SameBut s.heap.objs.size (s.heap.push { cls := .type "dict", data := .dict #[] }) h' → EntsR T ρ H kd kvs es'.toList → EP X pins σ Q (.ref s.heap.objs.size) { s with heap := h' } := fun {h' es' ep'} g1 g2 g3 => by
        obtain ⟨le, hr2⟩ := new_dctC (ep := ep') hr hp (big_ne I) hlen nd g3
        refine ⟨.ref s.heap.objs.size, _, I.laid (t' := s.toks) (fun b o q => ?_) (Nat.le_refl _) (obj_ext g1), rfl, PostE.ok post le hr2 ⟨_, newest hr, rfl⟩⟩
        exact (g2.2 b (Nat.ne_of_lt (Heap.lt_size q))).trans (Heap.get?_push_of_some _ q)
      cases kd with
      | true =>
        obtain ⟨xs, dd, pr⟩ := dictH hK hw I nd he raw
        have lx : kvs.length = xs.length := Paired.length pr
        have hap : (xs.map fun x => (nestedKind X.prog X.w).hash x.1).Nodup := by
          have h1 : (kvs.map fun x => x.1.hash X.w).Nodup := hashOk_nd (by simpa using hb)
          have h2 : (xs.map fun x => (nestedKind X.prog X.w).hash x.1) = kvs.map fun x => x.1.hash X.w := by
            rw [show (fun x : NestedKey × Addr × Value => (nestedKind X.prog X.w).hash x.1) = (NestedKey.hash X.w) ∘ (·.1) from rfl, ← List.map_map, nr_keys pr, List.map_map]
            rfl
          rw [h2]
          exact h1
        have isAt : ∀ h', (∀ b ob, s.heap.get? b = some ob → h'.get? b = some ob) → ∀ x ∈ xs, (nestedKind X.prog X.w).is h' x.1 x.2.1 := fun h' kp x hx => by
          obtain ⟨y, h1, _, h3, h4, h5, _⟩ := nr_mem pr hx
          have := nest_is hK (I.kept (t' := s.toks) (h' := h') kp) h5 h3 rfl
          rw [← h1]
          exact ⟨this, h4⟩
        refine call_dictH (knd := nestedKind X.prog X.w) (by show X.A.units + 1 + 1 + 8 < cLine; omega) hsm dd isAt (fun x hx => ?_) hap (by rw [← lx, sizeLine_eq]; omega) fun h' g1 g2 => ?_
        · obtain ⟨y, h1, ⟨ds, h2⟩, _, _, h5, _⟩ := nr_mem pr hx
          rw [h2] at h5
          obtain ⟨b, vs, eb, sq, _⟩ := h5
          cases eb
          rw [← hK] at sq
          obtain ⟨its, _, ⟨ob, e1, e2, _⟩, _⟩ := I.tuple sq
          exact ⟨ob, e1, e2⟩
        · obtain ⟨o', es', ep', k1, k2, k3, k4, k5, k6⟩ := g1
          exact fin ⟨o', k1, k2, k3⟩ g2 (by rw [k4]; exact nr_ents hw pr)
      | false =>
        obtain ⟨ps, dd, pr⟩ := dictF hw I nd he raw
        have lx : kvs.length = ps.length := Paired.length pr
        refine kt_call_dict hsm dd (by rw [← lx, sizeLine_eq]; omega) fun h' g1 g2 => ?_
        obtain ⟨o', es', ep', k1, k2, k3, k4, k5, k6⟩ := g1
        exact fin ⟨o', k1, k2, k3⟩ g2 (fr_ents hw k5 (fun e he => k4 e (by simpa using he)) pr)
    · exact post.elim
  | _ => exact post.elim
theorem sAu (B : Bd T X) (i : Nat) {x : Str} {e : Expr} {m : ME} {pos pos' : Pos} (he : PE X e (rdE T W m)) (hi : X.N[i]? = some x := by rfl) (hx : Loc X.env.scope x := by first | exact Or.inl rfl | exact Or.inr rfl) (hf : X.fn x = true ∨ X.env.scope.names.lookup x = some .local := by first | exact .inl rfl | exact .inr rfl) :
    PS X (.AugAssign (.Name x pos') .Add e pos) (rdS T W (sAug i m)) := (ps_aug B.nd hi hx he ip_add hf).imp fun _ _ _ h => rd_aug h
end
end TL
namespace TL
open PySem PySem.Spec PyProof.Rows L2
end TL
namespace TL
open PySem PySem.Spec PyProof.Rows L2
end TL
namespace TL
open PySem PySem.Spec PyProof.Rows L2
section
variable {F : Fx} {T : Tb} {P : Program} {w : World} {K : PySem.W.Frag} {mg : Str → Option Value} {base : Heap} {x qual : Str} {params : Arguments} {body : List Stmt} {scope : Scope} {dvs : List V} {kws : List (Str × V)} {p : He.Defn} {fd : FuncData}
theorem fgC_of {N ps : List Str} {k : Nat} {m : MS} (F : FunD K x qual params body scope [] kws (He.fAd K p) fd) (S : FnScope N ps scope) (hK : T.K = K) (hw : T.w = w) (ok : T.Ok) (hsp : T.sp = []) (hxf : T.xf = none)
    (hb : ∀ (cdv : Value) (A : Around) (outer : List Env) (s : Shared) (H : Hp) (E : XK), Room k (A.deeper (envOfC qual scope s.heap.objs.size (He.fAd K p) cdv)) → Bd T (cxOf (L2N.CX P w) P w K mg base N qual scope (He.fAd K p) cdv A outer s H E) → Px (cxOf (L2N.CX P w) P w K mg base N qual scope (He.fAd K p) cdv A outer s H E) (fun cls d _ H => E cls d H) →
      cdv = .ref (He.codeOf K p) → PSs (cxOf (L2N.CX P w) P w K mg base N qual scope (He.fAd K p) cdv A outer s H E) body (rdS T (fun cls d _ H => E cls d H) m))
    (bd : ∀ (kV doc pm : Value) (an : Option Addr) (cdv ct : Value) (us : List Value), us.length = ps.length → bindArgs (PySem.W.fnOf x qual params body scope .none kV doc pm an cdv ct) ⟨us, []⟩ = pure (ps.zip us)) :
    FG T P w K mg base (k + 1) (He.fAd K p) ps.length (fnM N.length m) := by
  refine ⟨⟨fd, ps, ?_, F.bindsN bd⟩, F.kp⟩
  obtain ⟨oc, od, dV, kV, doc, pm, an, cdv, ct, osl, rfl, lk, hcd, _, _⟩ := F.ex
  obtain ⟨c, ec⟩ := He.codeIn_ref hcd
  subst ec
  refine fn_of lk hcd S (fun vs H Q E h => h.1) fun A outer s H vs Q E hr h => ?_
  obtain ⟨hl, ρ, lh, ds, hr2, rd, post⟩ := h
  refine ⟨rdS T (fun cls d _ H => E cls d H) m, hb (.ref c) A outer s H E hr ⟨⟨hK.symm, hw.symm, ?_, ok, S.nd⟩, rfl⟩ ⟨PassesOwn.leaving, L2N.takes_of rfl rfl rfl rfl⟩ (by rw [He.codeOf_eq lk rfl]), ρ, startL N.length ds, lh, start_sr hsp hxf hr2 rd, ?_⟩
  · have := hr.un
    show (A.deeper _).units + 65 < cLine
    omega
  · rw [fnM_eq] at post
    exact fnR_post post
theorem says_def (c : F.says w K) (i : Nat) {d : He.DefD} (h : F.df[i]? = some d := by rfl) : ∃ fd, FunD K d.name d.qual d.params d.body d.scope (d.dvs K) (d.kws K) (He.fAd K d.at_) fd := by
  have c2 := (band (band (band (band (band (says_ck c)).2).2).2).2).1
  have e2 : (F.df.map fun d => He.fnW K d.at_)[i]? = (F.df.map He.DefD.val)[i]? := by rw [c.df]
  rw [List.getElem?_map, List.getElem?_map, h] at e2
  exact He.DefD.funD (Option.some.inj e2) (List.all_eq_true.mp c2 d (List.mem_of_getElem? h))
theorem Ct.tab_at (c : Ct F P w K mg base) (j : Nat) {q : He.Defn × Str} (h : F.tf[j]? = some q := by rfl) : LamX.TabB base mg (He.cT K q.1).1 (He.cT K q.1).2 := c.tab q (List.mem_of_getElem? h)
theorem Ct.tab_mem (c : Ct F P w K mg base) (j : Nat) {q : He.Defn × Str} (h : F.tf[j]? = some q := by rfl) : ((He.cT K q.1).2, q.2) ∈ (F.tb K w).tbs := List.mem_map.mpr ⟨q, List.mem_of_getElem? h, rfl⟩
theorem ndB_ok {α : Type} {f : α → Nat} : ∀ {l : List α}, ndB (l.map f) = true → ∀ (i j : Nat) (a b : α), l[i]? = some a → l[j]? = some b → f a = f b → i = j
  | [], _, _, _, _, _, h, _, _ => by simp at h
  | x :: r, h, i, j, a, b, hi, hj, e => by
    obtain ⟨h1, h2⟩ := band h
    have ne : ∀ k c, r[k]? = some c → f x ≠ f c := fun k c hk z => by
      have := List.all_eq_true.mp h1 (f c) (List.mem_map.mpr ⟨c, List.mem_of_getElem? hk, rfl⟩)
      rw [z, Nat.beq_refl] at this
      cases this
    cases i with
    | zero =>
      cases j with
      | zero => rfl
      | succ j =>
        have : x = a := by simpa using hi
        subst this
        exact absurd e (ne j b (by simpa using hj))
    | succ i =>
      cases j with
      | zero =>
        have : x = b := by simpa using hj
        subst this
        exact absurd e.symm (ne i a (by simpa using hi))
      | succ j => rw [ndB_ok h2 i j a b (by simpa using hi) (by simpa using hj) e]
theorem Ct.tab_uniq (c : Ct F P w K mg base) (j : Nat) {q : He.Defn × Str} (h : F.tf[j]? = some q := by rfl) : ∀ p ∈ (F.tb K w).tbs, p.1 = (He.cT K q.1).2 → p.2 = q.2 := fun p hp e => by
  obtain ⟨z, hz, ez⟩ := List.mem_map.mp hp
  obtain ⟨i, hi⟩ := List.mem_iff_getElem?.mp hz
  subst ez
  have nd : ndB (F.tf.map fun p => (He.cT K p.1).2) = true := (band (band (band (band (band (band (band (says_ck c.say)).2).2).2).2).2).2).2
  have := ndB_ok nd i j z q hi h e
  subst this
  rw [hi] at h
  cases h
  rfl
end
end TL
namespace TL
open PySem PySem.Spec PyProof.Rows L2
mutual
theorem dEq_ok : ∀ {a b : D}, dEq a b = true → a = b
  | .non, b, h => by cases b <;> first | rfl | (unfold dEq at h; cases h)
  | .bl x, b, h => by
    cases b with
    | bl y => unfold dEq at h; rw [eq_of_beq h]
    | _ => unfold dEq at h; cases h
  | .int x, b, h => by
    cases b with
    | int y => unfold dEq at h; rw [of_decide_eq_true h]
    | _ => unfold dEq at h; cases h
  | .str x, b, h => by
    cases b with
    | str y => unfold dEq at h; rw [of_decide_eq_true h]
    | _ => unfold dEq at h; cases h
  | .tup x, b, h => by
    cases b with
    | tup y => unfold dEq at h; rw [dEqs_ok h]
    | _ => unfold dEq at h; cases h
  | .obj x, b, h => by
    cases b with
    | obj y => unfold dEq at h; rw [Nat.eq_of_beq_eq_true h]
    | _ => unfold dEq at h; cases h
  | .lam x, b, h => by
    cases b with
    | lam y => unfold dEq at h; rw [Nat.eq_of_beq_eq_true h]
    | _ => unfold dEq at h; cases h
  | .kls x, b, h => by
    cases b with
    | kls y => unfold dEq at h; rw [dEqs_ok h]
    | _ => unfold dEq at h; cases h
theorem dEqs_ok : ∀ {a b : List D}, dEqs a b = true → a = b
  | [], b, h => by
    cases b with
    | nil => rfl
    | cons _ _ => unfold dEqs at h; cases h
  | x :: r, b, h => by
    cases b with
    | nil => unfold dEqs at h; cases h
    | cons y t =>
      unfold dEqs at h
      obtain ⟨h1, h2⟩ := band h
      rw [dEq_ok h1, dEqs_ok h2]
end
theorem leqW_ok {α : Type} {f : α → α → Bool} (hf : ∀ {a b}, f a b = true → a = b) : ∀ {l m : List α}, leqW f l m = true → l = m
  | [], [], _ => rfl
  | [], _ :: _, h => by cases h
  | _ :: _, [], h => by cases h
  | a :: r, b :: t, h => by
    obtain ⟨h1, h2⟩ := band h
    rw [hf h1, leqW_ok hf h2]
theorem oeq_ok {α : Type} {f : α → α → Bool} (hf : ∀ {a b}, f a b = true → a = b) : ∀ {l m : Option α}, oeq f l m = true → l = m
  | none, none, _ => rfl
  | none, some _, h => by cases h
  | some _, none, h => by cases h
  | some a, some b, h => by rw [hf h]
theorem enteq_ok {a b : NestedKey × D × D} (h : enteq a b = true) : a = b := by
  obtain ⟨h1, h⟩ := band h
  obtain ⟨h2, h3⟩ := band h
  obtain ⟨a1, a2, a3⟩ := a
  obtain ⟨b1, b2, b3⟩ := b
  rw [nbeq] at h1
  rw [show a1 = b1 from of_decide_eq_true h1, show a2 = b2 from dEq_ok h2, show a3 = b3 from dEq_ok h3]
theorem fldEq_ok {a b : Nat × D} (h : fldeq a b = true) : a = b := by
  obtain ⟨h1, h2⟩ := band h
  obtain ⟨a1, a2⟩ := a
  obtain ⟨b1, b2⟩ := b
  rw [show a1 = b1 from Nat.eq_of_beq_eq_true h1, show a2 = b2 from dEq_ok h2]
theorem loeq_ok : ∀ {a b : LO}, loeq a b = true → a = b := by
  intro a b h
  cases a with
  | lst k xs =>
    cases b with
    | lst l ys => obtain ⟨h1, h2⟩ := band h; rw [eq_of_beq h1, dEqs_ok h2]
    | _ => cases h
  | dct k xs =>
    cases b with
    | dct l ys => obtain ⟨h1, h2⟩ := band h; rw [eq_of_beq h1, leqW_ok enteq_ok h2]
    | _ => cases h
  | ins k xs =>
    cases b with
    | ins l ys => obtain ⟨h1, h2⟩ := band h; rw [Nat.eq_of_beq_eq_true h1, leqW_ok fldEq_ok h2]
    | _ => cases h
  | abs x y z =>
    cases b with
    | abs p q r =>
      obtain ⟨h1, h⟩ := band h
      obtain ⟨h2, h3⟩ := band h
      rw [Nat.eq_of_beq_eq_true h1, Nat.eq_of_beq_eq_true h2, Nat.eq_of_beq_eq_true h3]
    | _ => cases h
theorem voeq_ok {a b : VO} (h : voeq a b = true) : a = b := by
  obtain ⟨h1, h2⟩ := band h
  obtain ⟨a1, a2⟩ := a
  obtain ⟨b1, b2⟩ := b
  rw [show a1 = b1 from Nat.eq_of_beq_eq_true h1, show a2 = b2 from loeq_ok h2]
theorem treq_ok : ∀ {a b : Tr}, treq a b = true → a = b
  | .nil, .nil, _ => rfl
  | .nil, .node _ _ _, h => by cases h
  | .node _ _ _, .nil, h => by cases h
  | .node l v r, .node l' v' r', h => by
    obtain ⟨h1, h⟩ := band h
    obtain ⟨h2, h3⟩ := band h
    rw [treq_ok h1, oeq_ok voeq_ok h2, treq_ok h3]
theorem lheq_ok {a b : LH} (h : lheq a b = true) : a = b := by
  obtain ⟨h1, h2⟩ := band h
  obtain ⟨a1, a2⟩ := a
  obtain ⟨b1, b2⟩ := b
  rw [show a1 = b1 from Nat.eq_of_beq_eq_true h1, show a2 = b2 from treq_ok h2]
theorem sleq_ok {a b : Sl} (h : sleq a b = true) : a = b := leqW_ok (oeq_ok dEq_ok) h
theorem sreq_ok {a b : SRes} (h : sreq a b = true) : a = b := by
  cases a with
  | nx s g =>
    cases b with
    | nx s' g' => obtain ⟨h1, h2⟩ := band h; rw [sleq_ok h1, lheq_ok h2]
    | _ => cases h
  | ct s g =>
    cases b with
    | ct s' g' => obtain ⟨h1, h2⟩ := band h; rw [sleq_ok h1, lheq_ok h2]
    | _ => cases h
  | bk s g =>
    cases b with
    | bk s' g' => obtain ⟨h1, h2⟩ := band h; rw [sleq_ok h1, lheq_ok h2]
    | _ => cases h
  | rt s g =>
    cases b with
    | rt s' g' => obtain ⟨h1, h2⟩ := band h; rw [dEq_ok h1, lheq_ok h2]
    | _ => cases h
  | _ => cases b <;> cases h
section
variable {T : Tb} {W : WX} {ρ : List Addr} {H : Hp} {lh : LH} {Dd : Ends}
theorem addL_ok {P : SRes → Prop} {r : SRes} {acc : List SRes} (h : ∀ y ∈ addL r acc, P y) : P r ∧ ∀ y ∈ acc, P y := by
  unfold addL at h
  cases e : acc.any (sreq r) with
  | true =>
    rw [e] at h
    obtain ⟨y, hy, q⟩ := List.any_eq_true.mp e
    rw [sreq_ok q]
    exact ⟨h y hy, h⟩
  | false =>
    rw [e] at h
    exact ⟨h r List.mem_cons_self, fun y hy => h y (List.mem_cons_of_mem _ hy)⟩
theorem leaves_ok : ∀ {r : SRes} {acc : List SRes}, (∀ y ∈ leaves r acc, PostS T W ρ lh H y Dd) → PostS T W ρ lh H r Dd ∧ ∀ y ∈ acc, PostS T W ρ lh H y Dd
  | .alt l r, acc, h => by
    obtain ⟨h1, h2⟩ := leaves_ok (r := r) h
    obtain ⟨h3, h4⟩ := leaves_ok (r := l) h2
    exact ⟨⟨h3, h1⟩, h4⟩
  | .nx _ _, _, h => addL_ok h
  | .ct _ _, _, h => addL_ok h
  | .bk _ _, _, h => addL_ok h
  | .rt _ _, _, h => addL_ok h
  | .err _ _ _ _, _, h => ⟨h _ List.mem_cons_self, fun y hy => h y (List.mem_cons_of_mem _ hy)⟩
  | .stuck, _, h => ⟨h _ List.mem_cons_self, fun y hy => h y (List.mem_cons_of_mem _ hy)⟩
theorem altL_ok : ∀ {l : List SRes}, PostS T W ρ lh H (altL l) Dd → ∀ y ∈ l, PostS T W ρ lh H y Dd
  | [], _, y, hy => nomatch hy
  | [r], h, y, hy => by rw [List.mem_singleton.mp hy]; exact h
  | r :: s :: t, h, y, hy => by
    rcases List.mem_cons.mp hy with e | e
    · rw [e]; exact h.1
    · exact altL_ok (l := s :: t) h.2 y e
theorem merge_ok {r : SRes} (h : PostS T W ρ lh H (merge r) Dd) : PostS T W ρ lh H r Dd := (leaves_ok (altL_ok h)).1
end
def truncTo (h h' : LH) : Nat → Option Tr
  | 0 => some .nil
  | k + 1 => match truncTo h h' k with
    | none => none
    | some t => match h'.tr.get k with
      | none => some t
      | some (v, o) => bif loRefs h.nx o then some (t.set k (bif Nat.beq v (h.ver k) then v else h.ver k + 1, nrm o)) else none
def trunc (h h' : LH) : Option LH := match truncTo h h' h.nx with
  | some t => some ⟨h.nx, t⟩
  | none => none
def tr1 (ks : List Nat) (h : LH) : SRes → SRes
  | .nx sl h' => match keepS ks h.nx sl 0, trunc h h' with
    | some s, some t => .nx s t
    | _, _ => .stuck
  | .ct sl h' => match keepS ks h.nx sl 0, trunc h h' with
    | some s, some t => .ct s t
    | _, _ => .stuck
  | .bk sl h' => match keepS ks h.nx sl 0, trunc h h' with
    | some s, some t => .bk s t
    | _, _ => .stuck
  | .rt d h' => match refsOk h.nx d, trunc h h' with
    | true, some t => .rt d t
    | _, _ => .stuck
  | .err sl c p h' => .err sl c p h'
  | .stuck => .stuck
  | .alt l r => .alt (tr1 ks h l) (tr1 ks h r)
def sJoin (ks : List Nat) (m : MS) : MS := fun sl h => merge (tr1 ks h (m sl h))
section
variable {T : Tb} {W : WX} {ρ ρ' : List Addr} {H H' : Hp} {lh lh' : LH} {Dd : Ends} {σ σ' : L2.St}
theorem nat_blt {a b : Nat} (h : Nat.blt a b = true) : a < b := Nat.le_of_ble_eq_true h
theorem pre_get (p : ρ <+: ρ') {n : Nat} {a : Addr} (hn : n < ρ.length) (e : ρ'[n]? = some a) : ρ[n]? = some a := by
  obtain ⟨t, q⟩ := p
  rw [← q, List.getElem?_append_left hn] at e
  exact e
theorem pre_mem (p : ρ <+: ρ') {a : Addr} (h : a ∉ ρ') : a ∉ ρ := fun z => h (p.subset z)
mutual
theorem RelD.cut (p : ρ <+: ρ') : ∀ {d : D} {v : V}, refsOk ρ.length d = true → RelD T ρ' H d v → RelD T ρ H d v
  | .non, _, _, h => h
  | .bl _, _, _, h => h
  | .int _, _, _, h => h
  | .str _, _, _, h => h
  | .tup _, _, r, ⟨a, vs, e, s, h⟩ => ⟨a, vs, e, s, RelDs.cut p (by unfold refsOk at r; exact r) h⟩
  | .obj _, _, r, ⟨a, e, h⟩ => ⟨a, pre_get p (by unfold refsOk at r; exact nat_blt r) e, h⟩
  | .kls _, _, r, _ => by unfold refsOk at r; cases r
  | .lam _, _, _, ⟨f, c, pm, ct, u, l, h1, h2, h3, h4, h5⟩ => ⟨f, c, pm, ct, u, l, h1, h2, h3, h4, pre_mem p h5⟩
theorem RelDs.cut (p : ρ <+: ρ') : ∀ {ds : List D} {vs : List V}, refsOks ρ.length ds = true → RelDs T ρ' H ds vs → RelDs T ρ H ds vs
  | [], _, _, h => h
  | _ :: _, _, r, ⟨v, t, e, h1, h2⟩ => by
    unfold refsOks at r
    obtain ⟨r1, r2⟩ := band r
    exact ⟨v, t, e, RelD.cut p r1 h1, RelDs.cut p r2 h2⟩
end
theorem EntsR.cut (p : ρ <+: ρ') {kd : Bool} : ∀ {kvs : List (NestedKey × D × D)} {es : List DictEntry}, (kvs.all fun x => refsOk ρ.length x.2.1 && refsOk ρ.length x.2.2) = true → EntsR T ρ' H kd kvs es → EntsR T ρ H kd kvs es
  | [], _, _, h => h
  | x :: _, _, r, ⟨e, es', q, ⟨kv, vv, h1, h2, h3, h4, h5⟩, h6⟩ => by
    obtain ⟨r1, r2⟩ := band (show (((refsOk ρ.length x.2.1 && refsOk ρ.length x.2.2)) && _) = true from r)
    obtain ⟨r3, r4⟩ := band r1
    exact ⟨e, es', q, ⟨kv, vv, h1, h2.cut p r3, h3, h4.cut p r4, h5⟩, EntsR.cut p r2 h6⟩
theorem FsR.cut (p : ρ <+: ρ') : ∀ {fs : List (Nat × D)} {vs : List (Str × V)}, (fs.all fun x => refsOk ρ.length x.2) = true → FsR T ρ' H fs vs → FsR T ρ H fs vs
  | [], _, _, h => h
  | x :: _, _, r, ⟨y, v, r', q, h1, h2, h3⟩ => by
    obtain ⟨r1, r2⟩ := band (show (refsOk ρ.length x.2 && _) = true from r)
    exact ⟨y, v, r', q, h1, h2.cut p r1, FsR.cut p r2 h3⟩
theorem ObjR.cut (p : ρ <+: ρ') {a : Addr} {o : LO} (r : loRefs ρ.length o = true) (h : ObjR T ρ' H a o) : ObjR T ρ H a o := by
  cases o with
  | lst lk ds => obtain ⟨vs, h1, h2⟩ := h; exact ⟨vs, h1.cut p r, h2⟩
  | dct kd kvs => obtain ⟨h0, hz, h1, es, ep, h2, h3⟩ := h; exact ⟨h0, hz, h1, es, ep, h2.cut p r, h3⟩
  | ins c fs => obtain ⟨x, dx, vfs, h1, h2, h3⟩ := h; exact ⟨x, dx, vfs, h1, h2, h3.cut p r⟩
  | abs k n m =>
    match k, r, h with
    | 0, _, h => exact h
    | 1, r, h =>
      obtain ⟨q, i, h1, h2⟩ := h
      exact ⟨q, i, pre_get p (nat_blt (show Nat.blt n ρ.length = true from by simpa [loRefs] using r)) h1, h2⟩
    | _ + 2, _, h => exact h.elim
theorem ObjR.nrm {a : Addr} {o : LO} (h : ObjR T ρ H a o) : ObjR T ρ H a (TL.nrm o) := by
  cases o with
  | abs k n m =>
    match k, h with
    | 0, h => exact h
    | 1, h =>
      obtain ⟨p, i, h1, h2, h3, h4⟩ := h
      exact ⟨p, i, h1, h2, h3, by omega⟩
    | _ + 2, h => exact h.elim
  | _ => exact h
theorem truncTo_ok {h h' : LH} : ∀ {k : Nat} {t : Tr}, truncTo h h' k = some t → ∀ n, match t.get n with
    | none => n < k → h'.tr.get n = none
    | some (v, o') => n < k ∧ ∃ v' o, o' = nrm o ∧ loRefs h.nx o = true ∧ h'.tr.get n = some (v', o) ∧ ((v' = h.ver n ∧ v = v') ∨ (v' ≠ h.ver n ∧ v = h.ver n + 1))
  | 0, t, e, n => by
    cases e
    show n < 0 → _
    intro z
    omega
  | k + 1, t, e, n => by
    unfold truncTo at e
    cases q : truncTo h h' k with
    | none => rw [q] at e; cases e
    | some t0 =>
      rw [q] at e
      simp only at e
      have ih := truncTo_ok q n
      cases g : h'.tr.get k with
      | none =>
        rw [g] at e
        have e : some t0 = some t := e
        have e := Option.some.inj e
        subst e
        cases z : t0.get n with
        | none =>
          rw [z] at ih
          intro hn
          by_cases hk : n = k
          · rw [hk]; exact g
          · exact ih (by omega)
        | some p => rw [z] at ih; exact ⟨by have := ih.1; omega, ih.2⟩
      | some p =>
        obtain ⟨v, o⟩ := p
        rw [g] at e
        simp only at e
        cases b : loRefs h.nx o with
        | false => rw [b] at e; cases e
        | true =>
          rw [b] at e
          cases e
          rw [get_set]
          by_cases hk : n = k
          · subst hk
            rw [if_pos rfl]
            refine ⟨Nat.lt_succ_self _, v, o, rfl, b, g, ?_⟩
            cases c : Nat.beq v (h.ver n) with
            | true => exact .inl ⟨Nat.eq_of_beq_eq_true c, rfl⟩
            | false => exact .inr ⟨fun z => absurd c (by rw [z, Nat.beq_refl]; simp), rfl⟩
          · rw [if_neg hk]
            cases z : t0.get n with
            | none => rw [z] at ih; intro hn; exact ih (by omega)
            | some p => rw [z] at ih; exact ⟨by have := ih.1; omega, ih.2⟩
theorem trunc_le {t : LH} (hr : HR T ρ H lh) (e : trunc lh lh' = some t) (le : Le ρ lh H ρ' lh' H') (hr' : HR T ρ' H' lh') : Le ρ lh H ρ t H' ∧ HR T ρ H' t := by
  unfold trunc at e
  cases q : truncTo lh lh' lh.nx with
  | none => rw [q] at e; cases e
  | some tr =>
    rw [q] at e
    cases e
    have ok := truncTo_ok q
    have p := le.pre
    have nof : ∀ a, a ∉ ρ → H a ≠ none → (∀ ps, H a ≠ some (.tbl ps)) → a ∉ ρ := fun a n _ _ => n
    refine ⟨⟨⟨List.prefix_refl _, le.tup, le.frz, fun a n h t => ⟨(le.frm a n h t).1, n⟩⟩, fun n hn => ?_, fun n a ea hv => ?_⟩, ?_⟩
    · have o := ok n
      have v1 := le.ver n hn
      show lh.ver n ≤ (match tr.get n with | some p => p.1 | none => 0)
      cases z : tr.get n with
      | none =>
        rw [z] at o
        have g := o (by rw [← hr.len]; exact hn)
        unfold LH.ver at v1 ⊢
        rw [g] at v1
        exact v1
      | some x =>
        obtain ⟨v, ob⟩ := x
        rw [z] at o
        obtain ⟨_, v', o0, _, _, g, o⟩ := o
        show lh.ver n ≤ v
        rcases o with ⟨o1, o2⟩ | ⟨o1, o2⟩ <;> omega
    · have hn := (List.getElem?_eq_some_iff.mp ea).1
      have o := ok n
      have hv : lh.ver n = (match tr.get n with | some p => p.1 | none => 0) := hv
      refine le.same n a ea ?_
      have v1 := le.ver n hn
      cases z : tr.get n with
      | none =>
        rw [z] at o hv
        have g := o (by rw [← hr.len]; exact hn)
        rw [hv]
        unfold LH.ver
        rw [g]
      | some x =>
        obtain ⟨v, ob⟩ := x
        rw [z] at o hv
        obtain ⟨_, v', o0, _, _, g, o⟩ := o
        have hv : lh.ver n = v := hv
        have e2 : lh'.ver n = v' := by unfold LH.ver; rw [g]
        rcases o with ⟨o1, o2⟩ | ⟨o1, o2⟩
        · rw [e2, o1]
        · omega
    · refine ⟨hr.len, hr.nd, fun a ha => hr'.tk a (p.subset ha), fun n o eo => ?_, fun x hx => ?_⟩
      · have k := ok n
        have eo : (match tr.get n with | some p => some p.2 | none => none) = some o := eo
        cases z : tr.get n with
        | none => rw [z] at eo; cases eo
        | some x =>
          obtain ⟨v, ob⟩ := x
          rw [z] at k eo
          cases eo
          obtain ⟨k1, v', o0, en, k2, g, _⟩ := k
          obtain ⟨a, h1, h2⟩ := hr'.obj n o0 (by unfold LH.get; rw [g])
          rw [← hr.len] at k1 k2
          rw [en]
          exact ⟨a, pre_get p k1 h1, (h2.cut p k2).nrm⟩
      · obtain ⟨n1, ps, h1, h2, h3⟩ := hr'.tab x hx
        refine ⟨pre_mem p n1, ps, h1, h2, fun pos cv hc => ?_⟩
        obtain ⟨c, e1, e2, e3⟩ := h3 pos cv hc
        exact ⟨c, e1, e2, pre_mem p e3⟩
theorem keepS_ok {ks : List Nat} {n : Nat} : ∀ {sl s : Sl} {i : Nat}, keepS ks n sl i = some s → s.length = sl.length ∧ ∀ (j : Nat) (d : D), s[j]? = some (some d) → sl[j]? = some (some d) ∧ refsOk n d = true
  | [], s, i, e => by cases e; exact ⟨rfl, fun j d h => by simp at h⟩
  | x :: r, s, i, e => by
    unfold keepS at e
    cases q : keepS ks n r (i + 1) with
    | none => rw [q] at e; cases e
    | some t =>
      rw [q] at e
      simp only at e
      obtain ⟨l, g⟩ := keepS_ok q
      have non : s = none :: t → s.length = (x :: r).length ∧ ∀ (j : Nat) (d : D), s[j]? = some (some d) → (x :: r)[j]? = some (some d) ∧ refsOk n d = true := fun z => by
        subst z
        refine ⟨by simp [l], fun j d h => ?_⟩
        cases j with
        | zero => simp at h
        | succ j => simpa using g j d (by simpa using h)
      cases c : ks.any (Nat.beq i) with
      | false => rw [c] at e; cases e; exact non rfl
      | true =>
        rw [c] at e
        simp only [cond_true] at e
        cases x with
        | none => cases e; exact non rfl
        | some d0 =>
          simp only at e
          cases b : refsOk n d0 with
          | false => rw [b] at e; cases e
          | true =>
            rw [b] at e
            cases e
            refine ⟨by simp [l], fun j d h => ?_⟩
            cases j with
            | zero =>
              have : d0 = d := by simpa using h
              subst this
              exact ⟨rfl, b⟩
            | succ j => simpa using g j d (by simpa using h)
theorem sr_cut {ks : List Nat} {sl s : Sl} {t : LH} (hsp : T.sp = []) (hxf : T.xf = none) (hl : ρ.length = lh.nx) (p : ρ <+: ρ') (e : keepS ks lh.nx sl 0 = some s) (sr : SR T ρ' H' sl lh' σ') (hr : HR T ρ H' t) : SR T ρ H' s t σ' := by
  obtain ⟨l, g⟩ := keepS_ok e
  refine ⟨hr, l.trans sr.len, (fun z hz => absurd hz (by rw [hsp]; simp)), (fun z hz => absurd hz (by rw [hxf]; simp)), fun j d h => ?_⟩
  obtain ⟨g1, g2⟩ := g j d h
  obtain ⟨v, h1, h2⟩ := sr.sl j d g1
  exact ⟨v, h1, h2.cut p (by rw [hl]; exact g2)⟩
theorem tr1_ok {ks : List Nat} (hsp : T.sp = []) (hxf : T.xf = none) (hr : HR T ρ H lh) : ∀ {r : SRes}, PostS T W ρ lh H (tr1 ks lh r) Dd → PostS T W ρ lh H r Dd
  | .nx sl h', q => fun ρ' H' σ' le sr => by
    unfold tr1 at q
    cases e1 : keepS ks lh.nx sl 0 with
    | none => rw [e1] at q; exact q.elim
    | some s =>
      cases e2 : trunc lh h' with
      | none => rw [e1, e2] at q; exact q.elim
      | some t =>
        rw [e1, e2] at q
        obtain ⟨a, b⟩ := trunc_le hr e2 le sr.hr
        exact q ρ H' σ' a (sr_cut hsp hxf hr.len le.pre e1 sr b)
  | .ct sl h', q => fun ρ' H' σ' le sr => by
    unfold tr1 at q
    cases e1 : keepS ks lh.nx sl 0 with
    | none => rw [e1] at q; exact q.elim
    | some s =>
      cases e2 : trunc lh h' with
      | none => rw [e1, e2] at q; exact q.elim
      | some t =>
        rw [e1, e2] at q
        obtain ⟨a, b⟩ := trunc_le hr e2 le sr.hr
        exact q ρ H' σ' a (sr_cut hsp hxf hr.len le.pre e1 sr b)
  | .bk sl h', q => fun ρ' H' σ' le sr => by
    unfold tr1 at q
    cases e1 : keepS ks lh.nx sl 0 with
    | none => rw [e1] at q; exact q.elim
    | some s =>
      cases e2 : trunc lh h' with
      | none => rw [e1, e2] at q; exact q.elim
      | some t =>
        rw [e1, e2] at q
        obtain ⟨a, b⟩ := trunc_le hr e2 le sr.hr
        exact q ρ H' σ' a (sr_cut hsp hxf hr.len le.pre e1 sr b)
  | .rt d h', q => fun ρ' H' v le hr' rv => by
    unfold tr1 at q
    cases e1 : refsOk lh.nx d with
    | false => rw [e1] at q; exact q.elim
    | true =>
      cases e2 : trunc lh h' with
      | none => rw [e1, e2] at q; exact q.elim
      | some t =>
        rw [e1, e2] at q
        obtain ⟨a, b⟩ := trunc_le hr e2 le hr'
        exact q ρ H' v a b (rv.cut le.pre (by rw [hr.len]; exact e1))
  | .err _ _ _ _, q => q
  | .stuck, q => q
  | .alt l r, q => ⟨tr1_ok hsp hxf hr (r := l) q.1, tr1_ok hsp hxf hr (r := r) q.2⟩
theorem zJn {X : Cx} {ss : List Stmt} {m : MS} (ks : List Nat) (h : PSs X ss (rdS T W m)) (hsp : T.sp = [] := by rfl) (hxf : T.xf = none := by rfl) : PSs X ss (rdS T W (sJoin ks m)) :=
  h.imp fun D σ H ⟨ρ, sl, lh, sr, post⟩ => ⟨ρ, sl, lh, sr, tr1_ok hsp hxf sr.hr (merge_ok post)⟩
end
section
variable {T : Tb} {W : WX} {E : XK} {ρ : List Addr} {H : Hp} {lh : LH} {Q : Bool → LH → List Addr → Hp → Prop}
theorem addB_ok {P : Bool → LH → Prop} {b : Bool} {h : LH} {acc : List (Bool × LH)} (q : ∀ y ∈ addB b h acc, P y.1 y.2) : P b h ∧ ∀ y ∈ acc, P y.1 y.2 := by
  unfold addB at q
  cases e : acc.any (fun x => (x.1 == b) && lheq h x.2) with
  | true =>
    rw [e] at q
    obtain ⟨y, hy, z⟩ := List.any_eq_true.mp e
    obtain ⟨z1, z2⟩ := band z
    have := q y hy
    rw [eq_of_beq z1, ← lheq_ok z2] at this
    exact ⟨this, q⟩
  | false =>
    rw [e] at q
    exact ⟨q (b, h) List.mem_cons_self, fun y hy => q y (List.mem_cons_of_mem _ hy)⟩
theorem leavesB_ok : ∀ {r : Res Bool} {acc l : List (Bool × LH)}, leavesB r acc = some l → (∀ y ∈ l, PostG T E ρ lh H (.ok y.1 y.2) Q) → PostG T E ρ lh H r Q ∧ ∀ y ∈ acc, PostG T E ρ lh H (.ok y.1 y.2) Q
  | .alt l r, acc, t, e, q => by
    unfold leavesB at e
    cases z : leavesB l acc with
    | none => rw [z] at e; cases e
    | some a =>
      rw [z] at e
      obtain ⟨h1, h2⟩ := leavesB_ok (r := r) e q
      obtain ⟨h3, h4⟩ := leavesB_ok (r := l) z h2
      exact ⟨⟨h3, h1⟩, h4⟩
  | .ok b h, acc, t, e, q => by
    cases e
    exact addB_ok (P := fun b h => PostG T E ρ lh H (.ok b h) Q) q
  | .err _ _ _, _, _, e, _ => by cases e
  | .stuck, _, _, e, _ => by cases e
theorem altB_ok : ∀ {l : List (Bool × LH)}, PostG T E ρ lh H (altB l) Q → ∀ y ∈ l, PostG T E ρ lh H (.ok y.1 y.2) Q
  | [], _, y, hy => nomatch hy
  | [x], h, y, hy => by rw [List.mem_singleton.mp hy]; exact h
  | x :: s :: t, h, y, hy => by
    rcases List.mem_cons.mp hy with e | e
    · rw [e]; exact h.1
    · exact altB_ok (l := s :: t) h.2 y e
theorem mergeB_ok {r : Res Bool} (h : PostG T E ρ lh H (mergeB r) Q) : PostG T E ρ lh H r Q := by
  unfold mergeB at h
  cases e : leavesB r [] with
  | none => rw [e] at h; exact h
  | some l => rw [e] at h; exact (leavesB_ok e (altB_ok h)).1
theorem tJ {X : Cx} {e : Expr} {m : MT} (h : PT X e (rdT T W m)) : PT X e (rdT T W (mJT m)) := h.imp fun σ H Q ⟨ρ, sl, lh, sr, post⟩ => ⟨ρ, sl, lh, sr, mergeB_ok post⟩
end
theorem fg_spec {T : Tb} {P : Program} {w : World} {K : PySem.W.Frag} {mg : Str → Option Value} {base : Heap} {k : Nat} {f : Addr} {n : Nat} {g g' : Fn} (F : FG T P w K mg base k f n g) (h : ∀ vs H Q E, spOf T n g' vs H Q E → spOf T n g vs H Q E) : FG T P w K mg base k f n g' :=
  ⟨let ⟨fd, ps, h1, h2⟩ := F.ex; ⟨fd, ps, h1.imp h, h2⟩, F.kp⟩
theorem altN_ok {T : Tb} {E : XK} {ρ : List Addr} {lh : LH} {H : Hp} {f : Nat → Res D} {W : D → LH → List Addr → Hp → Prop} : ∀ {n : Nat}, PostG T E ρ lh H (altN f n) W → ∀ r, r < n → PostG T E ρ lh H (f r) W
  | 0, _, r, h => by omega
  | 1, q, r, h => by
    have : r = 0 := by omega
    subst this
    exact q
  | n + 2, q, r, h => by
    by_cases e : r = n + 1
    · subst e; exact q.1
    · exact altN_ok (n := n + 1) q.2 r (by omega)
/-- the logical heap told otherwise -/
theorem HR.told {T : Tb} {ρ : List Addr} {H : Hp} {l1 l2 : LH} (hr : HR T ρ H l1) (en : l2.nx = l1.nx) (h : ∀ n o, l2.get n = some o → ∃ a, ρ[n]? = some a ∧ ObjR T ρ H a o) : HR T ρ H l2 := ⟨hr.len.trans en.symm, hr.nd, hr.tk, h, hr.tab⟩
theorem Le.told {ρ ρ' : List Addr} {H H' : Hp} {l1 l2 m1 m2 : LH} (le : Le ρ l1 H ρ' m1 H') (e1 : ∀ n, l2.ver n = l1.ver n) (e2 : ∀ n, m2.ver n = m1.ver n) : Le ρ l2 H ρ' m2 H' :=
  ⟨le.toLe0, fun n hn => by rw [e1, e2]; exact le.ver n hn, fun n a ea hv => le.same n a ea (by rw [← e1, ← e2]; exact hv)⟩
theorem LH.get_rep (h : LH) (n m : Nat) (o : LO) : (h.rep n o).get m = if m = n then some o else h.get m := by
  unfold LH.rep LH.get
  simp only
  rw [get_set]
  by_cases e : m = n
  · rw [if_pos e, if_pos e]
  · rw [if_neg e, if_neg e]
theorem LH.ver_rep (h : LH) (n m : Nat) (o : LO) : (h.rep n o).ver m = h.ver m := by
  unfold LH.rep
  show (match (h.tr.set n (h.ver n, o)).get m with | some p => p.1 | none => 0) = _
  rw [get_set]
  by_cases e : m = n
  · rw [if_pos e, e]
  · rw [if_neg e]; rfl
/-- the law's two parts: behind the first the state may be told otherwise -/
def spLaw (T : Tb) (n : Nat) (m1 mr : MS) : Sp := fun vs H Q E => vs.length = 1 ∧ ∃ ρ lh ds, HR T ρ H lh ∧ RelDs T ρ H ds vs ∧ PostS T (fun cls d _ H => E cls d H) ρ lh H (m1 (startL n ds) lh) { nx := fun σ H => rdS T (fun cls d _ H => E cls d H) mr { nx := fun _ H' => Q .non H', rt := Q } σ H, rt := Q }
theorem lawok_of {T : Tb} {P : Program} {w : World} {K : PySem.W.Frag} {mg : Str → Option Value} {base : Heap} {x qual : Str} {params : Arguments} {st : Stmt} {rest : List Stmt} {scope : Scope} {dvs : List V} {kws : List (Str × V)} {f : Addr} {fd : FuncData} {N ps : List Str} {k : Nat} {m1 mr : MS} (F : FunD K x qual params (st :: rest) scope dvs kws f fd) (S : FnScope N ps scope) (hp : ps.length = 1) (hK : T.K = K) (hw : T.w = w) (ok : T.Ok) (hsp : T.sp = []) (hxf : T.xf = none)
    (hb : ∀ (cdv : Value) (A : Around) (outer : List Env) (s : Shared) (H : Hp) (E : XK), Room k (A.deeper (envOfC qual scope s.heap.objs.size f cdv)) → Bd T (cxOf (L2N.CX P w) P w K mg base N qual scope f cdv A outer s H E) → Px (cxOf (L2N.CX P w) P w K mg base N qual scope f cdv A outer s H E) (fun cls d _ H => E cls d H) →
      PS (cxOf (L2N.CX P w) P w K mg base N qual scope f cdv A outer s H E) st (rdS T (fun cls d _ H => E cls d H) m1) ∧ PSs (cxOf (L2N.CX P w) P w K mg base N qual scope f cdv A outer s H E) rest (rdS T (fun cls d _ H => E cls d H) mr)) :
    FnOk P w K mg base (L2N.CX P w) (k + 1) f fd ps (spLaw T N.length m1 mr) := by
  refine F.ok S (fun vs H Q E h => by rw [h.1, hp]) fun cdv A outer s H vs Q E hr h => ?_
  obtain ⟨hl, ρ, lh, ds, hr2, rd, post⟩ := h
  obtain ⟨b1, b2⟩ := hb cdv A outer s H E hr ⟨⟨hK.symm, hw.symm, by have := hr.un; show (A.deeper _).units + 65 < cLine; omega, ok, S.nd⟩, rfl⟩ ⟨PassesOwn.leaving, L2N.takes_of rfl rfl rfl rfl⟩
  exact ⟨_, pss_cons b1 b2, ρ, startL N.length ds, lh, start_sr hsp hxf hr2 rd, post⟩
theorem allT_ok {T : Tb} {W : WX} {ρ : List Addr} {lh : LH} {H : Hp} {Dd : Ends} (hd : ∀ H', Dd.rt (.bl true) H') : ∀ {r : SRes}, allT r = true → PostS T W ρ lh H r Dd
  | .rt d l, h => by
    unfold allT at h
    split at h
    · rename_i e
      cases e
      exact fun ρ' H' v le hr r => by rw [show v = _ from r]; exact hd H'
    · rename_i e; cases e
    · cases h
  | .alt l r, h => by
    obtain ⟨h1, h2⟩ := band (show (allT l && allT r) = true from h)
    exact ⟨allT_ok hd h1, allT_ok hd h2⟩
  | .nx _ _, h => by cases h
  | .bk _ _, h => by cases h
  | .ct _ _, h => by cases h
  | .err _ _ _ _, h => by cases h
  | .stuck, h => by cases h
end TL
namespace TL
open PySem PySem.Spec PyProof.Rows L2
section
variable {sl sl1 : Sl} {h h1 h2 h3 : LH} {ma mb m : ME} {ms : MA} {mt : MT} {d x y z : D} {ds : List D} {i j n : Nat} {a b : MS} {g : Fn} {r : SRes}
theorem e_var (e : sl[i]? = some (some d)) : mVar i sl h = .ok d h := by unfold mVar; rw [e]
theorem e_c : mC d sl h = .ok d h := rfl
theorem e_2 {f : D → D → LH → Res D} (h1' : ma sl h = .ok x h1) (h2' : mb sl h1 = .ok y h2) (h3' : f x y h2 = .ok z h3) : m2 f ma mb sl h = .ok z h3 := by
  unfold m2
  rw [h1']
  show (mb sl h1).bind (fun y h2 => noErr (f x y h2)) = _
  rw [h2']
  show noErr (f x y h2) = _
  rw [h3']
  rfl
theorem e_nil : aNil sl h = .ok [] h := rfl
theorem e_cons (h1' : m sl h = .ok x h1) (h2' : ms sl h1 = .ok ds h2) : aCons m ms sl h = .ok (x :: ds) h2 := by
  unfold aCons
  rw [h1']
  show (ms sl h1).bind (fun xs h2 => Res.ok (x :: xs) h2) = _
  rw [h2']
  rfl
theorem e_fn {f : Fn} (h1' : ms sl h = .ok ds h1) (h2' : f ds h1 = .ok z h2) : mFn f ms sl h = .ok z h2 := by
  unfold mFn
  rw [h1']
  show noErr (f ds h1) = _
  rw [h2']
  rfl
theorem e_call {R : Res D} (h1' : ms sl h = .ok ds h1) (hn : ds.length = n) (h2' : g ds h1 = R) : mCall n g ms sl h = R := by
  unfold mCall
  rw [h1']
  show (bif Nat.beq ds.length n then g ds h1 else .stuck) = _
  rw [hn, Nat.beq_refl]
  exact h2'
theorem e_B {k : Bool} (h1' : m sl h = .ok (.bl k) h1) : mB m sl h = .ok k h1 := by unfold mB; rw [h1']; rfl
theorem e_seq (h1' : a sl h = .nx sl1 h1) : sSeq a b sl h = b sl1 h1 := by unfold sSeq; rw [h1']; rfl
theorem e_seqR (h1' : a sl h = .rt d h1) : sSeq a b sl h = .rt d h1 := by unfold sSeq; rw [h1']; rfl
theorem e_ret (h1' : m sl h = .ok d h1) : sRet m sl h = .rt d h1 := by unfold sRet; rw [h1']; rfl
theorem e_asg {mg : MG} (h1' : m sl h = .ok d h1) (h2' : mg d sl h1 = .ok sl1 h2) : sAsg m mg sl h = .nx sl1 h2 := by
  unfold sAsg
  rw [h1']
  show (noErr (mg d sl h1)).toS sl (fun sl2 h2 => SRes.nx sl2 h2) = _
  rw [h2']
  rfl
theorem e_asgN (h1' : m sl h = .ok d h1) : sAsg m (gN i) sl h = .nx (sl.set i (some d)) h1 := e_asg h1' rfl
theorem e_ifT (h1' : mt sl h = .ok true h1) : sIf mt a b sl h = a sl h1 := by unfold sIf; rw [h1']; rfl
theorem e_ifF (h1' : mt sl h = .ok false h1) : sIf mt a b sl h = b sl h1 := by unfold sIf; rw [h1']; rfl
theorem e_fnM (h1' : a (startL n ds) h = .rt d h1) : fnM n a ds h = .ok d h1 := by rw [fnM_eq, h1']; rfl
theorem e_sub {mo mi : ME} {o k : D} (h1' : mo sl h = .ok o h1) (h2' : mi sl h1 = .ok k h2) (h3' : vSet o k d h2 = .ok () h3) : gSubM mo mi d sl h = .ok sl h3 := by
  unfold gSubM
  rw [h1']
  show (noErr (mi sl h1)).bind (fun i h2 => (vSet o i d h2).bind fun _ h3 => Res.ok sl h3) = _
  rw [h2']
  show (vSet o k d h2).bind (fun _ h3 => Res.ok sl h3) = _
  rw [h3']
  rfl
theorem e_for {mi : MI} {t : Tg} {p : List D × Chk} (h1' : mi sl h = .ok p h1) (h2' : forD p.2 t a p.1 sl h1 = r) : sFor mi t a sl h = r := by unfold sFor; rw [h1']; exact h2'
theorem dct_none {p : Nat} {lk : Bool} {xs : List D} (hp : h.get p = some (.lst lk xs)) : dctAt (.obj p) h = none := by
  unfold dctAt
  simp only [hp]
theorem items_lst {p : Nat} {lk : Bool} {xs : List D} (hp : h.get p = some (.lst lk xs)) : itemsOf (.obj p) h = some xs := by
  unfold itemsOf
  simp only [hp]
theorem e_idx {p : Nat} {lk : Bool} {xs : List D} {k : Int} (hp : h.get p = some (.lst lk xs)) (hk : atI xs k = some d) : vIdx (.obj p) (.int k) h = .ok d h := by
  unfold vIdx
  rw [dct_none hp]
  show vIdxS (.obj p) (.int k) h = _
  unfold vIdxS
  rw [items_lst hp]
  show (match atI xs k with | some d => Res.ok d h | none => .stuck) = _
  rw [hk]
theorem e_idxT {xs : List D} {k : Int} (hk : atI xs k = some d) : vIdx (.tup xs) (.int k) h = .ok d h := by
  show (match atI xs k with | some d => Res.ok d h | none => .stuck) = _
  rw [hk]
theorem e_len {p : Nat} {lk : Bool} {xs : List D} (hp : h.get p = some (.lst lk xs)) : bLen (.obj p) h = .ok (.int xs.length) h := by
  unfold bLen
  rw [dct_none hp]
  show (match itemsOf (.obj p) h with | some xs => Res.ok (D.int xs.length) h | none => .stuck) = _
  rw [items_lst hp]
theorem e_set {p : Nat} {xs : List D} {k : Int} {jj : Nat} (hp : h.get p = some (.lst false xs)) (hk : ixN xs.length k = some jj) : vSet (.obj p) (.int k) d h = .ok () (h.put p (.lst false (xs.set jj d))) := by
  unfold vSet
  simp only [hp]
  show (match ixN xs.length k with | some j => Res.ok () (h.put p (.lst false (xs.set j d))) | none => .stuck) = _
  rw [hk]
theorem e_mul {p q : Int} (hb : p.natAbs.log2 + q.natAbs.log2 ≤ 100000000) : vBin .Mult (.int p) (.int q) h = .ok (.int (p * q)) h := by
  show (bif Nat.ble (p.natAbs.log2 + q.natAbs.log2) 100000000 then Res.ok (D.int (p * q)) h else .stuck) = _
  rw [Nat.ble_eq_true_of_le hb]
  rfl
theorem e_mod {p q : Int} (hb : 0 < q) : vBin .Mod (.int p) (.int q) h = .ok (.int (p % q)) h := by
  show (bif decide (0 < q) then Res.ok (D.int (p % q)) h else .stuck) = _
  rw [decide_eq_true hb]
  rfl
theorem e_div {p q : Int} (hb : 0 < q) (hs : q.natAbs.log2 < 9000) : vBin .FloorDiv (.int p) (.int q) h = .ok (.int (p / q)) h := by
  show (bif decide (0 < q) && Nat.blt q.natAbs.log2 9000 then Res.ok (D.int (p / q)) h else .stuck) = _
  rw [decide_eq_true hb, show Nat.blt q.natAbs.log2 9000 = true from Nat.ble_eq_true_of_le hs]
  rfl
theorem log_le {p : Int} {n : Nat} (h : p.natAbs ≤ 2 ^ n) : p.natAbs.log2 ≤ n := by
  by_cases z : p.natAbs = 0
  · rw [z]; simp
  · have h1 := Nat.log2_self_le z
    exact (Nat.pow_le_pow_iff_right (by omega : 1 < 2)).mp (Nat.le_trans h1 h)
theorem log_bits {p : Int} {n : Nat} (h : Builtin.Int.intBits p ≤ n) : p.natAbs.log2 ≤ n := by
  unfold Builtin.Int.intBits at h
  split at h
  · rename_i z
    rw [show p = 0 from eq_of_beq z]
    simp
  · omega
theorem abs_lt {p : Int} {n : Nat} (h : p.natAbs.log2 ≤ n) : p.natAbs < 2 ^ (n + 1) := by
  have := Nat.lt_log2_self (n := p.natAbs)
  exact Nat.lt_of_lt_of_le this (Nat.pow_le_pow_right (by omega) (by omega))
end
end TL
namespace TL
open PySem PySem.Spec PyProof.Rows L2
def isNx : SRes → Bool
  | .nx _ _ => true
  | _ => false
theorem isNx_eq {r : SRes} (h : isNx r = true) : r = .nx (slOf r) (lhOf r) := by
  cases r with
  | nx _ _ => rfl
  | _ => cases h
def subS : Sl → Sl → Bool
  | [], [] => true
  | none :: r, _ :: t => subS r t
  | some d :: r, x :: t => oeq dEq (some d) x && subS r t
  | _, _ => false
theorem subS_ok : ∀ {a b : Sl}, subS a b = true → a.length = b.length ∧ ∀ (i : Nat) (d : D), a[i]? = some (some d) → b[i]? = some (some d)
  | [], [], _ => ⟨rfl, fun i d h => h⟩
  | [], _ :: _, h => by cases h
  | none :: _, [], h => by cases h
  | some _ :: _, [], h => by cases h
  | none :: r, x :: t, h => by
    obtain ⟨h1, h2⟩ := subS_ok (a := r) (b := t) h
    refine ⟨by simp [h1], fun i d e => ?_⟩
    cases i with
    | zero => simp at e
    | succ i => simpa using h2 i d (by simpa using e)
  | some d0 :: r, x :: t, h => by
    obtain ⟨h0, h⟩ := band h
    obtain ⟨h1, h2⟩ := subS_ok (a := r) (b := t) h
    have h0 := oeq_ok dEq_ok h0
    refine ⟨by simp [h1], fun i d e => ?_⟩
    cases i with
    | zero => rw [← h0]; exact e
    | succ i => simpa using h2 i d (by simpa using e)
theorem rel_ints {T : Tb} {ρ : List Addr} {H : Hp} : ∀ {ns : List Int} {vs : List V}, RelDs T ρ H (ns.map D.int) vs → vs = ns.map V.int
  | [], _, h => h
  | _ :: r, _, ⟨v, t, e, h1, h2⟩ => by
    rw [e, rel_ints (ns := r) h2, show v = _ from h1]
    rfl
theorem cut_sub {ns : List Int} (hl : ns.length ≤ 63) : (cutL ns none (some 63)).length ≤ 63 ∧ ∀ z ∈ cutL ns none (some 63), z ∈ ns := by
  unfold cutL
  refine ⟨?_, fun z hz => List.mem_of_mem_drop (List.mem_of_mem_take hz)⟩
  rw [List.length_take, List.length_drop]
  omega
theorem law_draws {T : Tb} {n : Nat} {m1 mr : MS} {H : Hp} {a : Addr} {ns : List Int} {sl2 : Sl} {lh2 : LH} (p q : Nat) (hsp : T.sp = []) (hxf : T.xf = none) (hT : ∀ p ∈ T.tbs, H p.1 = some (.tbl #[])) (hS : SqL T.K H a (ns.map V.int)) (hl : ns.length ≤ 63) (hb : ∀ z ∈ ns, Builtin.Int.intBits z ≤ 1048576) (ne : q ≠ p)
    (h0 : isNx (m1 (startL n [.kls (ns.map D.int)]) ⟨0, .nil⟩) = true)
    (g0 : (lhOf (m1 (startL n [.kls (ns.map D.int)]) ⟨0, .nil⟩)).get p = some (.lst false (cutL (ns.map D.int) none (some 63))))
    (g1 : (lhOf (m1 (startL n [.kls (ns.map D.int)]) ⟨0, .nil⟩)).get q = some (.lst false [.obj p, .int 0, .int 0]))
    (hs : subS sl2 (slOf (m1 (startL n [.kls (ns.map D.int)]) ⟨0, .nil⟩)) = true)
    (hh : lheq (((lhOf (m1 (startL n [.kls (ns.map D.int)]) ⟨0, .nil⟩)).rep p (.abs 0 63 0)).rep q (.abs 1 p 0)) lh2 = true)
    (hall : allT (mr sl2 lh2) = true) : spLaw T n m1 mr [.ref a] H (fun v _ => v = .bl true) fun _ _ _ => False := by
  refine ⟨rfl, [], ⟨0, .nil⟩, [.kls (ns.map D.int)], ⟨rfl, List.nodup_nil, fun b hb => (nomatch hb), (fun n o e => nomatch e), fun p hp => ⟨by simp, #[], hT p hp, True.intro, fun pos cv hc => ?_⟩⟩, RelDs.one ⟨a, _, rfl, SqF.of (by simp) hS, ?_⟩, ?_⟩
  · have z : codeAmong pos [] = some cv := hc
    simp [codeAmong] at z
  · clear hS hl hb h0 g0 g1 hs hh
    induction ns with
    | nil => rfl
    | cons n r ih => exact ⟨_, _, rfl, rfl, ih⟩
  · generalize m1 (startL n [.kls (ns.map D.int)]) ⟨0, .nil⟩ = R at *
    rw [isNx_eq h0]
    intro ρ' H' σ' le sr
    have eh := lheq_ok hh
    obtain ⟨k1, k2⟩ := subS_ok hs
    obtain ⟨c1, c2⟩ := cut_sub hl
    have hr2 : HR T ρ' H' lh2 := sr.hr.told (by rw [← eh]; rfl) fun k o e => by
      rw [← eh, LH.get_rep] at e
      by_cases e1 : k = q
      · rw [if_pos e1] at e
        cases e
        obtain ⟨x, x1, vs, x2, x3⟩ := sr.hr.obj q _ g1
        obtain ⟨v1, t1, e1', ⟨q1, f1, f2⟩, v2, t2, e2, f3, v3, t3, e3, f4, f5⟩ := x2
        have f5 : t3 = [] := f5
        have f3 : v2 = .int 0 := f3
        have f4 : v3 = .int 0 := f4
        subst f5 f3 f4 f2
        subst e3
        subst e2
        subst e1'
        rw [e1]
        exact ⟨x, x1, q1, 0, f1, x3, by omega, by omega⟩
      · rw [if_neg e1, LH.get_rep] at e
        by_cases e2 : k = p
        · rw [if_pos e2] at e
          cases e
          obtain ⟨x, x1, vs, x2, x3⟩ := sr.hr.obj p _ g0
          rw [cut_map] at x2
          have := rel_ints x2
          subst this
          rw [e2]
          exact ⟨x, x1, _, x3, c1, fun z hz => hb z (c2 z hz)⟩
        · rw [if_neg e2] at e
          exact sr.hr.obj k o e
    refine ⟨ρ', sl2, lh2, ⟨hr2, k1.trans sr.len, (fun z hz => absurd hz (by rw [hsp]; simp)), (fun z hz => absurd hz (by rw [hxf]; simp)), fun j d e => sr.sl j d (k2 j d e)⟩, allT_ok (fun _ => rfl) hall⟩
end TL
namespace TL
open PySem PySem.Spec PyProof.Rows L2
theorem fNat_eq {α : Type} (n : Nat) (k : Nat → α) : fNat n k = k n := by cases n <;> rfl
theorem fInt_eq {α : Type} (z : Int) (k : Int → α) : fInt z k = k z := by
  cases z with
  | ofNat n => exact fNat_eq n fun n => k (.ofNat n)
  | negSucc n => exact fNat_eq n fun n => k (.negSucc n)
theorem fBool_eq {α : Type} (z : Bool) (k : Bool → α) : fBool z k = k z := by cases z <;> rfl
mutual
theorem fD_eq {α : Type} : ∀ (d : D) (k : D → α), fD d k = k d
  | .non, k => by unfold fD; rfl
  | .bl b, k => by unfold fD; rw [fBool_eq]
  | .int b, k => by unfold fD; rw [fInt_eq]
  | .str b, k => by unfold fD; rfl
  | .tup b, k => by unfold fD; rw [fDs_eq]
  | .obj b, k => by unfold fD; rw [fNat_eq]
  | .kls b, k => by unfold fD; rfl
  | .lam b, k => by unfold fD; rw [fNat_eq]
theorem fDs_eq {α : Type} : ∀ (d : List D) (k : List D → α), fDs d k = k d
  | [], k => by unfold fDs; rfl
  | d :: r, k => by unfold fDs; rw [fD_eq, fDs_eq]
end
mutual
theorem fK_eq {α : Type} : ∀ (d : NestedKey) (k : NestedKey → α), fK d k = k d
  | .none, k => by unfold fK; rfl
  | .num b, k => by unfold fK; rw [fInt_eq]
  | .text b, k => by unfold fK; rfl
  | .tup b, k => by unfold fK; rw [fKs_eq]
theorem fKs_eq {α : Type} : ∀ (d : List NestedKey) (k : List NestedKey → α), fKs d k = k d
  | [], k => by unfold fKs; rfl
  | d :: r, k => by unfold fKs; rw [fK_eq, fKs_eq]
end
theorem fSpine_eq {α β : Type} {f : β → (β → α) → α} (hf : ∀ x k, f x k = k x) : ∀ (l : List β) (k : List β → α), fSpine f l k = k l
  | [], k => rfl
  | [x], k => hf _ _
  | x :: y :: r, k => by
    show fSpine f (y :: r) (fun r => k (x :: r)) = _
    rw [fSpine_eq hf]
theorem fEnt_eq {α : Type} (e : NestedKey × D × D) (k : NestedKey × D × D → α) : fEnt e k = k e := by unfold fEnt; rw [fK_eq, fD_eq, fD_eq]
theorem fFs_eq {α : Type} : ∀ (l : List (Nat × D)) (k : List (Nat × D) → α), fFs l k = k l
  | [], k => rfl
  | x :: r, k => by unfold fFs; rw [fNat_eq, fD_eq, fFs_eq]
theorem fLO_eq {α : Type} (o : LO) (k : LO → α) : fLO o k = k o := by
  cases o with
  | lst b xs => unfold fLO; dsimp only; rw [fBool_eq, fSpine_eq fD_eq]
  | dct b xs => unfold fLO; dsimp only; rw [fBool_eq, fSpine_eq fEnt_eq]
  | ins b xs => unfold fLO; dsimp only; rw [fNat_eq, fFs_eq]
  | abs a b c => unfold fLO; dsimp only; rw [fNat_eq, fNat_eq, fNat_eq]
theorem fVO_eq {α : Type} (v : Option VO) (k : Option VO → α) : fVO v k = k v := by
  cases v with
  | none => rfl
  | some x => unfold fVO; dsimp only; rw [fNat_eq, fLO_eq]
theorem fTr_eq {α : Type} : ∀ (t : Tr) (k : Tr → α), fTr t k = k t
  | .nil, k => rfl
  | .node l v r, k => by unfold fTr; rw [fTr_eq, fVO_eq, fTr_eq]
theorem fLH_eq {α : Type} (h : LH) (k : LH → α) : fLH h k = k h := by unfold fLH; rw [fNat_eq, fTr_eq]
theorem fOD_eq {α : Type} (v : Option D) (k : Option D → α) : fOD v k = k v := by
  cases v with
  | none => rfl
  | some x => unfold fOD; dsimp only; rw [fD_eq]
theorem fSl_eq {α : Type} : ∀ (s : Sl) (k : Sl → α), fSl s k = k s
  | [], k => rfl
  | x :: r, k => by unfold fSl; rw [fOD_eq, fSl_eq]
theorem fSR_eq : ∀ r : SRes, fSR r = r
  | .nx s h => by unfold fSR; rw [fSl_eq, fLH_eq]
  | .ct s h => by unfold fSR; rw [fSl_eq, fLH_eq]
  | .bk s h => by unfold fSR; rw [fSl_eq, fLH_eq]
  | .rt s h => by unfold fSR; rw [fD_eq, fLH_eq]
  | .err s c p h => rfl
  | .stuck => rfl
  | .alt l r => by unfold fSR; rw [fSR_eq l, fSR_eq r]
theorem truncN_eq (h h' : LH) : ∀ k, truncN h.nx h h' k = truncTo h h' k
  | 0 => rfl
  | k + 1 => by
    unfold truncN truncTo
    rw [truncN_eq h h' k] <;> rfl
theorem trunc1_eq (h h' : LH) : trunc1 h.nx h h' = trunc h h' := by unfold trunc1 trunc; rw [truncN_eq] <;> rfl
theorem tr1N_eq (ks : List Nat) (h : LH) : ∀ r : SRes, tr1N h.nx ks h r = tr1 ks h r
  | .nx sl h' => by unfold tr1N tr1; rw [trunc1_eq] <;> rfl
  | .ct sl h' => by unfold tr1N tr1; rw [trunc1_eq] <;> rfl
  | .bk sl h' => by unfold tr1N tr1; rw [trunc1_eq] <;> rfl
  | .rt d h' => by unfold tr1N tr1; rw [trunc1_eq] <;> rfl
  | .err sl c p h' => rfl
  | .stuck => rfl
  | .alt l r => by unfold tr1N tr1; rw [tr1N_eq ks h l, tr1N_eq ks h r]
theorem merge1_eq (r : SRes) : merge1 r = merge r := by
  cases r <;> rfl
theorem sJoinF_eq (ks : List Nat) (m : MS) : sJoinF ks m = sJoin ks m := by
  funext sl h
  unfold sJoinF
  rw [fNat_eq, fSR_eq, merge1_eq, tr1N_eq]
  rfl
theorem zJf {T : Tb} {W : WX} {X : Cx} {ss : List Stmt} {m : MS} (ks : List Nat) (h : PSs X ss (rdS T W m)) (hsp : T.sp = [] := by rfl) (hxf : T.xf = none := by rfl) : PSs X ss (rdS T W (sJoinF ks m)) := by
  rw [sJoinF_eq]
  exact zJn ks h hsp hxf
end TL
namespace TL
open PySem PySem.Spec PyProof.Rows L2
theorem prune_get {h : LH} : ∀ {is : List Nat} {n : Nat} {x : VO}, (prune h is).get n = some x → h.tr.get n = some x
  | [], n, x, e => by cases n <;> cases e
  | i :: r, n, x, e => by
    unfold prune at e
    split at e
    · rename_i y hy
      rw [get_set] at e
      by_cases hn : n = i
      · rw [if_pos hn] at e
        rw [hn, hy]
        exact e
      · rw [if_neg hn] at e
        exact prune_get e
    · exact prune_get e
theorem onlyS_ok {ks : List Nat} : ∀ {sl : Sl} {i : Nat}, (onlyS ks sl i).length = sl.length ∧ ∀ (j : Nat) (d : D), (onlyS ks sl i)[j]? = some (some d) → sl[j]? = some (some d)
  | [], i => ⟨rfl, fun j d h => h⟩
  | x :: r, i => by
    obtain ⟨h1, h2⟩ := onlyS_ok (ks := ks) (sl := r) (i := i + 1)
    refine ⟨by unfold onlyS; simp [h1], fun j d e => ?_⟩
    unfold onlyS at e
    cases j with
    | zero =>
      cases c : ks.any (Nat.beq i) with
      | true => rw [c] at e; exact e
      | false => rw [c] at e; simp at e
    | succ j => simpa using h2 j d (by simpa using e)
theorem chk_ok {nx : Nat} {t : LH} : ∀ {tr : Tr} {a b : Nat}, chk nx t tr a b = true → ∀ (m : Nat) (x : VO), tr.get m = some x → nx ≤ a * m + b ∨ x.1 = t.ver (a * m + b)
  | .nil, a, b, _, m, x, e => by cases m <;> cases e
  | .node l v r, a, b, h, m, x, e => by
    obtain ⟨h1, h⟩ := band (show (chkV nx t v b && (chk nx t l (2 * a) (a + b) && chk nx t r (2 * a) (2 * a + b))) = true from h)
    obtain ⟨h2, h3⟩ := band h
    cases m with
    | zero =>
      have e : v = some x := e
      subst e
      rw [Nat.mul_zero, Nat.zero_add]
      rcases Bool.or_eq_true_iff.mp (show (Nat.ble nx b || Nat.beq x.1 (t.ver b)) = true from h1) with h1 | h1
      · exact .inl (Nat.le_of_ble_eq_true h1)
      · exact .inr (Nat.eq_of_beq_eq_true h1)
    | succ m =>
      have e : (bif Nat.beq (m % 2) 0 then l.get (m / 2) else r.get (m / 2)) = some x := e
      cases q : Nat.beq (m % 2) 0 with
      | true =>
        rw [q] at e
        have hm := par_even q
        have := chk_ok h2 (m / 2) x e
        have k : 2 * a * (m / 2) + (a + b) = a * (m + 1) + b := by
          have : m = 2 * (m / 2) := by omega
          rw [Nat.mul_add, Nat.mul_one]
          conv => rhs; rw [this]
          rw [Nat.mul_comm 2 a, Nat.mul_assoc]
          omega
        rw [k] at this
        exact this
      | false =>
        rw [q] at e
        have hm := par_odd q
        have := chk_ok h3 (m / 2) x e
        have k : 2 * a * (m / 2) + (2 * a + b) = a * (m + 1) + b := by
          have : m + 1 = 2 * (m / 2) + 2 := by omega
          rw [this, Nat.mul_add, Nat.mul_comm 2 a, Nat.mul_assoc]
          omega
        rw [k] at this
        exact this
theorem sandR_ok {T : Tb} {E : XK} {ρ : List Addr} {H : Hp} {lh t : LH} {Q : VK} (hr : HR T ρ H lh) (en : t.nx = lh.nx) : ∀ {r : Res D}, PostE T E ρ lh H (sandR lh t r) Q → PostE T E ρ t H r Q
  | .ok d h2, q => by
    intro ρ' H' le hr' v rv
    unfold sandR at q
    obtain ⟨hb, q⟩ := cond_stuck q
    obtain ⟨b1, b2⟩ := band hb
    rw [fD_eq] at q
    have ck := chk_ok b2
    have same : ∀ (n : Nat) (a : Addr), ρ[n]? = some a → H' a = H a := fun n a e => by
      have hn := (List.getElem?_eq_some_iff.mp e).1
      refine le.same n a e ?_
      have v1 := le.ver n hn
      cases g : h2.tr.get n with
      | none =>
        have z : h2.ver n = 0 := by unfold LH.ver; rw [g]
        omega
      | some x =>
        have z : h2.ver n = x.1 := by unfold LH.ver; rw [g]
        have c := ck n x g
        rw [Nat.one_mul, Nat.add_zero] at c
        rcases c with c | c
        · rw [hr.len] at hn; omega
        · rw [z, c]
    have le0 : Le0 ρ H ρ H' := ⟨List.prefix_refl _, le.tup, le.frz, fun a n h t => ⟨(le.frm a n h t).1, n⟩⟩
    have hr2 : HR T ρ H' lh := by
      refine ⟨hr.len, hr.nd, fun a ha => hr'.tk a (le.pre.subset ha), fun n o e => ?_, fun x hx => ?_⟩
      · obtain ⟨a, h1, h2⟩ := hr.obj n o e
        exact ⟨a, h1, h2.keep le0 (same n a h1)⟩
      · obtain ⟨n1, ps, h1, h2, h3⟩ := hr'.tab x hx
        refine ⟨pre_mem le.pre n1, ps, h1, h2, fun pos cv hc => ?_⟩
        obtain ⟨c, e1, e2, e3⟩ := h3 pos cv hc
        exact ⟨c, e1, e2, pre_mem le.pre e3⟩
    exact (show PostE T E ρ lh H (.ok d lh) Q from q) ρ H' ⟨le0, fun _ _ => Nat.le_refl _, fun n a e _ => same n a e⟩ hr2 v (rv.cut le.pre (by rw [hr.len]; exact b1))
  | .err _ _ _, q => q.elim
  | .stuck, q => q
  | .alt l r, q => ⟨sandR_ok hr en (r := l) q.1, sandR_ok hr en (r := r) q.2⟩
theorem xSand {T : Tb} {W : WX} {X : Cx} {e : Expr} {m : ME} (ks : List Nat) (h : PE X e (rdE T W m)) (hsp : T.sp = [] := by rfl) (hxf : T.xf = none := by rfl) : PE X e (rdE T W (mSand ks m)) :=
  h.imp fun σ H Q ⟨ρ, sl, lh, sr, post⟩ => by
    unfold mSand at post
    rw [fNat_eq, fSl_eq, fLH_eq] at post
    obtain ⟨o1, o2⟩ := onlyS_ok (ks := ks) (sl := sl) (i := 0)
    have ht : HR T ρ H ⟨lh.nx, prune lh (foot 4 lh (rootsS (onlyS ks sl 0)))⟩ := sr.hr.told rfl fun n o e => by
      have e : (match (prune lh (foot 4 lh (rootsS (onlyS ks sl 0)))).get n with | some p => some p.2 | none => none) = some o := e
      cases g : (prune lh (foot 4 lh (rootsS (onlyS ks sl 0)))).get n with
      | none => rw [g] at e; cases e
      | some x =>
        rw [g] at e
        cases e
        exact sr.hr.obj n x.2 (by unfold LH.get; rw [prune_get g])
    exact ⟨ρ, onlyS ks sl 0, _, ⟨ht, o1.trans sr.len, (fun z hz => absurd hz (by rw [hsp]; simp)), (fun z hz => absurd hz (by rw [hxf]; simp)), fun j d e => sr.sl j d (o2 j d e)⟩, sandR_ok (t := ⟨lh.nx, prune lh (foot 4 lh (rootsS (onlyS ks sl 0)))⟩) sr.hr rfl post⟩
theorem cx_no {P : Program} {w : World} {H : Hp} {s s' : Shared} {e : Value} (z : L2N.CX P w [] H s (fun _ _ _ => False) e s') : False := by
  obtain ⟨_, _, _, _, _, _, _, _, _, _, _, _, h⟩ := z
  exact h
end TL
namespace TL
open PySem PySem.Spec PyProof.Rows L2
mutual
def pureD : D → Bool
  | .tup ds => pureDs ds
  | .obj _ => false
  | .kls _ => false
  | .lam _ => false
  | .non => true
  | .bl _ => true
  | .int _ => true
  | .str _ => true
def pureDs : List D → Bool
  | [] => true
  | d :: r => pureD d && pureDs r
end
section
variable {T : Tb} {ρ ρ' : List Addr} {H H' : Hp}
mutual
theorem RelD.pure : ∀ {d : D} {v : V}, pureD d = true → RelD T ρ H d v → RelD T ρ' H d v
  | .non, _, _, h => h
  | .bl _, _, _, h => h
  | .int _, _, _, h => h
  | .str _, _, _, h => h
  | .tup _, _, r, ⟨a, vs, e, s, h⟩ => ⟨a, vs, e, s, RelDs.pure (by unfold pureD at r; exact r) h⟩
  | .obj _, _, r, _ => by unfold pureD at r; cases r
  | .kls _, _, r, _ => by unfold pureD at r; cases r
  | .lam _, _, r, _ => by unfold pureD at r; cases r
theorem RelDs.pure : ∀ {ds : List D} {vs : List V}, pureDs ds = true → RelDs T ρ H ds vs → RelDs T ρ' H ds vs
  | [], _, _, h => h
  | _ :: _, _, r, ⟨v, t, e, h1, h2⟩ => by
    unfold pureDs at r
    obtain ⟨r1, r2⟩ := band r
    exact ⟨v, t, e, RelD.pure r1 h1, RelDs.pure r2 h2⟩
end
end
def mkC (m : Nat) (objs : List (Nat × LO)) : LH := ⟨m, objs.foldr (fun x t => t.set x.1 (0, x.2)) .nil⟩
theorem mkC_get {m : Nat} : ∀ {objs : List (Nat × LO)} {n : Nat} {o : LO}, (mkC m objs).get n = some o → (n, o) ∈ objs
  | [], n, o, e => by
    have e : (match (Tr.nil).get n with | some p => some p.2 | none => none) = some o := e
    cases n <;> cases e
  | x :: r, n, o, e => by
    have e : (match ((mkC m r).tr.set x.1 (0, x.2)).get n with | some p => some p.2 | none => none) = some o := e
    rw [get_set] at e
    by_cases h : n = x.1
    · rw [if_pos h] at e
      cases e
      rw [h]
      exact List.mem_cons_self
    · rw [if_neg h] at e
      exact List.mem_cons_of_mem _ (mkC_get (m := m) e)
theorem agree_ok {objs : List (Nat × LO)} {h : LH} (e : agreeB objs h = true) {n : Nat} {o : LO} (hm : (n, o) ∈ objs) : h.get n = some o := by
  have := List.all_eq_true.mp e _ hm
  simp only at this
  split at this
  · rename_i o' g
    rw [g, loeq_ok this]
  · cases this
def objsB (m : Nat) (objs : List (Nat × LO)) : Bool := objs.all fun x => Nat.blt x.1 m && loRefs m x.2
def slRefs (m : Nat) : Sl → Bool
  | [] => true
  | none :: r => slRefs m r
  | some d :: r => refsOk m d && slRefs m r
theorem slRefs_ok {m : Nat} : ∀ {s : Sl}, slRefs m s = true → ∀ (i : Nat) (d : D), s[i]? = some (some d) → refsOk m d = true
  | [], _, i, d, e => by simp at e
  | none :: r, h, i, d, e => by
    cases i with
    | zero => simp at e
    | succ i => exact slRefs_ok (s := r) h i d (by simpa using e)
  | some x :: r, h, i, d, e => by
    obtain ⟨h1, h2⟩ := band (show (refsOk m x && slRefs m r) = true from h)
    cases i with
    | zero =>
      have : x = d := by simpa using e
      rw [← this]
      exact h1
    | succ i => exact slRefs_ok h2 i d (by simpa using e)
/-- an entry holds -/
def goodE (me : ME) (C : LH) (e : Sl × D) : Bool := slRefs C.nx e.1 && (pureD e.2 && (match me e.1 C with
  | .ok d h2 => dEq d e.2 && chk C.nx C h2.tr 1 0
  | _ => false))
def Bt.every (f : Sl × D → Bool) : Bt → Bool
  | .lf => true
  | .nd l _ s d r => f (s, d) && (l.every f && r.every f)
theorem Bt.find_ok {f : Sl × D → Bool} : ∀ {b : Bt} {n : Nat} {e : Sl × D}, b.every f = true → b.find n = some e → f e = true
  | .lf, _, _, _, h => by cases h
  | .nd l k s d r, n, e, h, q => by
    obtain ⟨h1, h⟩ := band (show (f (s, d) && (l.every f && r.every f)) = true from h)
    obtain ⟨h2, h3⟩ := band h
    unfold Bt.find at q
    cases c : Nat.beq n k with
    | true => rw [c] at q; cases q; exact h1
    | false =>
      rw [c] at q
      cases c2 : Nat.blt n k with
      | true => rw [c2] at q; exact find_ok h2 q
      | false => rw [c2] at q; exact find_ok h3 q
theorem tabF_ok {fs : List Bt} {n : Nat} {enc : Sl → Nat} {f : Sl × D → Bool} {s : Sl} {d : D} (hf : ∀ b ∈ fs, b.every f = true) (h : tabF fs n enc s = some d) : f (s, d) = true := by
  unfold tabF at h
  rw [fNat_eq] at h
  split at h
  · rename_i e g
    cases c : sleq s e.1 with
    | false => rw [c] at h; cases h
    | true =>
      rw [c] at h
      have h : e.2 = d := Option.some.inj h
      rw [sleq_ok c, ← h]
      by_cases hk : enc s % n < fs.length
      · refine Bt.find_ok (hf (fs.getD (enc s % n) .lf) ?_) g
        rw [List.getD_eq_getElem?_getD, List.getElem?_eq_getElem hk]
        exact List.getElem_mem hk
      · rw [List.getD_eq_getElem?_getD, List.getElem?_eq_none (by omega)] at g
        cases g
  · cases h
theorem every_nil {f : Sl × D → Bool} : ∀ b ∈ ([] : List Bt), b.every f = true := fun _ h => nomatch h
theorem every_cons {f : Sl × D → Bool} {b0 : Bt} {fs : List Bt} (h : b0.every f = true) (k : ∀ b ∈ fs, b.every f = true) : ∀ b ∈ b0 :: fs, b.every f = true := fun c hc => by
  rcases List.mem_cons.mp hc with e | e
  · rw [e]; exact h
  · exact k c e
theorem sandR_in {T : Tb} {W : WX} {ρ : List Addr} {H : Hp} {σ : L2.St} {lh : LH} {sl : Sl} {m : ME} {ks : List Nat} {Q : VK} (hsp : T.sp = []) (hxf : T.xf = none) (sr : SR T ρ H sl lh σ) (post : PostE T (atS W σ) ρ lh H (mSand ks m sl lh) Q) : rdE T W m σ H Q := by
  unfold mSand at post
  rw [fNat_eq, fSl_eq, fLH_eq] at post
  obtain ⟨o1, o2⟩ := onlyS_ok (ks := ks) (sl := sl) (i := 0)
  have ht : HR T ρ H ⟨lh.nx, prune lh (foot 4 lh (rootsS (onlyS ks sl 0)))⟩ := sr.hr.told rfl fun n o e => by
    have e : (match (prune lh (foot 4 lh (rootsS (onlyS ks sl 0)))).get n with | some p => some p.2 | none => none) = some o := e
    cases g : (prune lh (foot 4 lh (rootsS (onlyS ks sl 0)))).get n with
    | none => rw [g] at e; cases e
    | some x =>
      rw [g] at e
      cases e
      exact sr.hr.obj n x.2 (by unfold LH.get; rw [prune_get g])
  exact ⟨ρ, onlyS ks sl 0, _, ⟨ht, o1.trans sr.len, (fun z hz => absurd hz (by rw [hsp]; simp)), (fun z hz => absurd hz (by rw [hxf]; simp)), fun j d e => sr.sl j d (o2 j d e)⟩, sandR_ok (t := ⟨lh.nx, prune lh (foot 4 lh (rootsS (onlyS ks sl 0)))⟩) sr.hr rfl post⟩
theorem canon_hr {T : Tb} {ρ : List Addr} {H : Hp} {lh : LH} {m : Nat} {objs : List (Nat × LO)} (hr : HR T ρ H lh) (hn : m ≤ lh.nx) (ha : agreeB objs lh = true) (ho : objsB m objs = true) : HR T (ρ.take m) H (mkC m objs) := by
  have hl : (ρ.take m).length = m := by rw [List.length_take, hr.len]; omega
  refine ⟨hl, hr.nd.sublist (List.take_sublist _ _), fun a h => hr.tk a (List.mem_of_mem_take h), fun n o e => ?_, fun x hx => ?_⟩
  · have hm := mkC_get e
    obtain ⟨b1, b2⟩ := band (List.all_eq_true.mp ho _ hm)
    have b1 : n < m := nat_blt b1
    obtain ⟨a, h1, h2⟩ := hr.obj n o (agree_ok ha hm)
    exact ⟨a, by rw [List.getElem?_take, if_pos b1]; exact h1, h2.cut (List.take_prefix _ _) (by rw [hl]; exact b2)⟩
  · obtain ⟨n1, ps, h1, h2, h3⟩ := hr.tab x hx
    refine ⟨fun z => n1 (List.mem_of_mem_take z), ps, h1, h2, fun pos cv hc => ?_⟩
    obtain ⟨c, e1, e2, e3⟩ := h3 pos cv hc
    exact ⟨c, e1, e2, fun z => e3 (List.mem_of_mem_take z)⟩
theorem xTbl {T : Tb} {W : WX} {X : Cx} {e : Expr} {me : ME} {m : Nat} {objs : List (Nat × LO)} {ks : List Nat} {tab : Sl → Option D} (ho : objsB m objs = true) (ht : ∀ s d, tab s = some d → goodE me (mkC m objs) (s, d) = true) (h : PE X e (rdE T W me)) (hsp : T.sp = [] := by rfl) (hxf : T.xf = none := by rfl) : PE X e (rdE T W (mTbl m objs ks tab me)) :=
  h.imp fun σ H Q ⟨ρ, sl, lh, sr, post⟩ => by
    unfold mTbl at post
    rw [fSl_eq] at post
    cases c : (Nat.ble m lh.nx && agreeB objs lh) with
    | false => rw [c] at post; exact sandR_in hsp hxf sr post
    | true =>
      rw [c] at post
      obtain ⟨c1, c2⟩ := band c
      have c1 := Nat.le_of_ble_eq_true c1
      cases g : tab (onlyS ks sl 0) with
      | none => rw [g] at post; exact sandR_in hsp hxf sr post
      | some d =>
        rw [g] at post
        have q : PostE T (atS W σ) ρ lh H (.ok d lh) Q := post
        have hr := sr.hr
        have hrC := canon_hr hr c1 c2 ho
        obtain ⟨g1, g2⟩ := band (ht _ _ g)
        obtain ⟨g2, g3⟩ := band g2
        have hl : (ρ.take m).length = m := by rw [List.length_take, hr.len]; omega
        obtain ⟨o1, o2⟩ := onlyS_ok (ks := ks) (sl := sl) (i := 0)
        refine ⟨ρ.take m, onlyS ks sl 0, mkC m objs, ⟨hrC, o1.trans sr.len, (fun z hz => absurd hz (by rw [hsp]; simp)), (fun z hz => absurd hz (by rw [hxf]; simp)), fun j d e => ?_⟩, ?_⟩
        · obtain ⟨v, h1, h2⟩ := sr.sl j d (o2 j d e)
          exact ⟨v, h1, h2.cut (List.take_prefix _ _) (by rw [hl]; exact slRefs_ok g1 j d e)⟩
        · simp only at g3
          split at g3
          · rename_i d' h2 em
            obtain ⟨g3, g4⟩ := band g3
            have ed := dEq_ok g3
            subst ed
            rw [em]
            intro ρ' H' le hr' v rv
            have ck := chk_ok g4
            have pre : ρ.take m <+: ρ := List.take_prefix _ _
            have same : ∀ a ∈ ρ, H' a = H a := fun a ha => by
              by_cases hm : a ∈ ρ.take m
              · obtain ⟨n, hn, en⟩ := List.getElem_of_mem hm
                refine le.same n a (by rw [List.getElem?_eq_getElem hn, en]) ?_
                have v1 := le.ver n hn
                cases z : h2.tr.get n with
                | none =>
                  have z : h2.ver n = 0 := by unfold LH.ver; rw [z]
                  omega
                | some x =>
                  have z2 : h2.ver n = x.1 := by unfold LH.ver; rw [z]
                  have c := ck n x z
                  rw [Nat.one_mul, Nat.add_zero] at c
                  rcases c with c | c
                  · have c : m ≤ n := c
                    rw [hl] at hn; omega
                  · rw [z2, c]
              · exact (le.frm a hm (hr.tk a ha).1 fun ps z => (hr.tk a ha).2.1 ps z).1
            have le0 : Le0 ρ H ρ H' := ⟨List.prefix_refl _, le.tup, le.frz, fun a n h t => ⟨(le.frm a (fun z => n (pre.subset z)) h t).1, n⟩⟩
            have hr2 : HR T ρ H' lh := by
              refine ⟨hr.len, hr.nd, fun a ha => by rw [same a ha]; exact hr.tk a ha, fun n o e => ?_, fun x hx => ?_⟩
              · obtain ⟨a, h1, h2⟩ := hr.obj n o e
                exact ⟨a, h1, h2.keep le0 (same a (List.mem_of_getElem? h1))⟩
              · obtain ⟨n1, ps, h1, h2, h3⟩ := hr'.tab x hx
                refine ⟨(hr.tab x hx).1, ps, h1, h2, fun pos cv hc => ?_⟩
                obtain ⟨c, e1, e2, e3⟩ := h3 pos cv hc
                exact ⟨c, e1, e2, fun z => (hr.tk c z).2.2 c x.2 ((same c z).symm.trans e2)⟩
            exact q ρ H' ⟨le0, fun _ _ => Nat.le_refl _, fun n a e _ => same a (List.mem_of_getElem? e)⟩ hr2 v (rv.pure g2)
          · cases g3
end TL
namespace L_k14_whole_refused_more
open PySem PySem.Spec PyProof.Rows L2 TL
theorem xdok_BadRing : XDOk xd_BadRing := ⟨⟨_, _, rfl⟩, ⟨_, _, _, _, _, _, _, _, _, _, rfl, fun _ _ _ _ _ _ _ _ => ⟨rfl, _, rfl⟩⟩, fun _ _ _ _ _ _ _ _ => rfl, ⟨rfl, rfl, rfl, by decide +kernel, rfl, rfl, rfl, rfl, by decide, by decide⟩⟩
theorem xdok_BadHistory : XDOk xd_BadHistory := ⟨⟨_, _, rfl⟩, ⟨_, _, _, _, _, _, _, _, _, _, rfl, fun _ _ _ _ _ _ _ _ => ⟨rfl, _, rfl⟩⟩, fun _ _ _ _ _ _ _ _ => rfl, ⟨rfl, rfl, rfl, by decide +kernel, rfl, rfl, rfl, rfl, by decide, by decide⟩⟩
theorem sc_f_is_number : FnScope ["thing", "low", "high"] ["thing", "low", "high"] (defScope (top 12)) := ⟨rfl, rfl, rfl, by decide +kernel, rfl, by decide +kernel, by decide +kernel⟩
theorem ok_f_is_number {P : Program} {w : World} {K : PySem.W.Frag} {mg : Str → Option Value} {base : Heap} (C : Ct FX P w K mg base) : FG (FX.tb K w) P w K mg base 1 (He.fAd K ("is_number", none)) 3 f_is_number := by
  obtain ⟨fd, F⟩ := C.def_ 0
  exact fg_of (T := FX.tb K w) (N := ["thing", "low", "high"]) (ps := ["thing", "low", "high"]) (k := 0) (m := b_f_is_number) F sc_f_is_number rfl rfl C.ok rfl rfl (fun cdv A outer s H E hr B px => (z1 (sR (xAnd (xIs B.toBs (C.free 1) (xV 0) (cvB boot_int (C.free 0))) (xAnd (xNot (xIs B.toBs (C.free 1) (xV 0) (cvB boot_bool (C.free 2)))) (xOne (xChain B.toBs (xV 1) (xV 0) (xV 2)))))))) (fun _ _ _ _ _ _ us hl => match us, hl with | [_, _, _], _ => rfl)
theorem sc_f_are_lengths : FnScope ["size", "thing", "one", "other"] ["size", "thing"] (defScope (top 14)) := ⟨rfl, rfl, rfl, by decide +kernel, rfl, by decide +kernel, by decide +kernel⟩
theorem ok_f_are_lengths {P : Program} {w : World} {K : PySem.W.Frag} {mg : Str → Option Value} {base : Heap} (C : Ct FX P w K mg base) : FG (FX.tb K w) P w K mg base 2 (He.fAd K ("are_lengths", none)) 2 f_are_lengths := by
  obtain ⟨fd, F⟩ := C.def_ 1
  exact fg_of (T := FX.tb K w) (N := ["size", "thing", "one", "other"]) (ps := ["size", "thing"]) (k := 1) (m := b_f_are_lengths) F sc_f_are_lengths rfl rfl C.ok rfl rfl (fun cdv A outer s H E hr B px => (zC (sI (tW (wOr (tNot' (tV (xIs B.toBs (C.free 1) (xV 1) (cvB boot_tuple (C.free 4))))) (wOr1 (tNot' (tChn B.toBs xI (xFnB (cr_len B.K B.w) (C.free 5) boot_len (aC (xV 1) aN)) (xG (C.con 2))))))) (z1 (sR xB)) zN) (zC (sI (tNot' (tV (xFnB (cr_allL B.K B.calm) (C.free 7) boot_all (aC (xLc B (own := [("one", 2)]) (iA B.toBs (xV 1)) rfl (fun _ _ _ _ _ => ⟨(tgN B.blk.toBs 2), yN, (xCall Px.blk (ok_f_is_number C) hr (C.glo 3) (aC (xV 2) (aC xI (aC (xFnB (cr_min2 B.blk.calm) (C.free 6) boot_min (aC (xV 0) (aC (xG (C.con 2)) aN))) aN))))⟩)) aN)))) (z1 (sR xB)) zN) (z1 (sR (xFnB (cr_allL B.K B.calm) (C.free 7) boot_all (aC (xLc B (own := [("one", 2), ("other", 3)]) (pi_zipM B.K rfl (C.free 8) (aC (xV 1) (aC (xSl B.toBs (xV 1) (oS xI) oN) aN))) rfl (fun _ _ _ _ _ => ⟨(tgT B.blk (tsC B.blk.toBs 2 (tsC B.blk.toBs 3 tsN))), yN, (xCmp B.blk.toBs (xV 2) (xV 3))⟩)) aN))))))) (fun _ _ _ _ _ _ us hl => match us, hl with | [_, _], _ => rfl)
theorem sc_f_is_word : FnScope ["thing", "words"] ["thing", "words"] (defScope (top 13)) := ⟨rfl, rfl, rfl, by decide +kernel, rfl, by decide +kernel, by decide +kernel⟩
theorem ok_f_is_word {P : Program} {w : World} {K : PySem.W.Frag} {mg : Str → Option Value} {base : Heap} (C : Ct FX P w K mg base) : FG (FX.tb K w) P w K mg base 1 (He.fAd K ("is_word", none)) 2 f_is_word := by
  obtain ⟨fd, F⟩ := C.def_ 2
  exact fg_of (T := FX.tb K w) (N := ["thing", "words"]) (ps := ["thing", "words"]) (k := 0) (m := b_f_is_word) F sc_f_is_word rfl rfl C.ok rfl rfl (fun cdv A outer s H E hr B px => (z1 (sR (xAnd (xIs B.toBs (C.free 1) (xV 0) (cvB boot_str (C.free 10))) (xOne (xCmp B.toBs (xV 0) (xV 1))))))) (fun _ _ _ _ _ _ us hl => match us, hl with | [_, _], _ => rfl)
theorem sc_m_Ring_o_init_o : FnScope ["self", "size", "lengths", "marks", "order", "check", "follow", "name", "word"] ["self", "size", "lengths", "marks", "order", "check", "follow"] (defScope (mth 15 0)) := ⟨rfl, rfl, rfl, by decide +kernel, rfl, by decide +kernel, by decide +kernel⟩
theorem ok_m_Ring_o_init_o {P : Program} {w : World} {K : PySem.W.Frag} {mg : Str → Option Value} {base : Heap} (C : Ct FX P w K mg base) : ∃ fd, FunD K "__init__" "Ring.__init__" (defArgs (mth 15 0)) (defBody (mth 15 0)) (defScope (mth 15 0)) [] [("order", V.str "first"), ("check", V.str "none"), ("follow", V.str "strict")] (He.fAd K ("Ring", some "__init__")) fd ∧ FnOk P w K mg base (L2N.CX P w) 3 (He.fAd K ("Ring", some "__init__")) fd ["self", "size", "lengths", "marks", "order", "check", "follow"] (spOf (FX.tb K w) 7 m_Ring_o_init_o) := by
  obtain ⟨fd, F⟩ := C.def_ 3
  exact ⟨fd, F, fnok_of (T := FX.tb K w) (N := ["self", "size", "lengths", "marks", "order", "check", "follow", "name", "word"]) (ps := ["self", "size", "lengths", "marks", "order", "check", "follow"]) (k := 2) (m := b_m_Ring_o_init_o) F sc_m_Ring_o_init_o rfl rfl C.ok rfl rfl fun cdv A outer s H E hr B px => (zC (sI (tNot' (tV (xCall px (ok_f_is_number C) hr (C.glo 3) (aC (xV 1) (aC (xG (C.con 1)) (aC (xG (C.con 0)) aN)))))) (z1 (sRz B px (c := 1) ⟨rfl, (C.xdf 0 xdok_BadRing).1⟩ hr (aC xS aN))) zN) (zC (sI (tNot' (tV (xCall px (ok_f_are_lengths C) hr (C.glo 9) (aC (xV 1) (aC (xV 2) aN))))) (z1 (sRz B px (c := 1) ⟨rfl, (C.xdf 0 xdok_BadRing).1⟩ hr (aC xS aN))) zN) (zC (sI (tNot' (tV (xCall px (ok_f_is_number C) hr (C.glo 3) (aC (xV 3) (aC xI (aC (xG (C.con 3)) aN)))))) (z1 (sRz B px (c := 1) ⟨rfl, (C.xdf 0 xdok_BadRing).1⟩ hr (aC xS aN))) zN) (zC (sF B px (iA B.toBs (xTup (aC (xTup (aC xS (aC (xV 4) aN))) (aC (xTup (aC xS (aC (xV 5) aN))) (aC (xTup (aC xS (aC (xV 6) aN))) aN))))) (tgT B (tsC B.toBs 7 (tsC B.toBs 8 tsN))) (z1 (sI (tNot' (tV (xCall px (ok_f_is_word C) hr (C.glo 12) (aC (xV 8) (aC (x_tab B.K B.w (C.tab_ 0) (pe_glob rfl (C.glo 11) rfl) (xV 7)) aN))))) (z1 (sRz B px (c := 1) ⟨rfl, (C.xdf 0 xdok_BadRing).1⟩ hr (aC (xV 7) aN))) zN))) (zC (sA (xV 1) (gAt B.toBs 0 (xV 0))) (zC (sA (xV 2) (gAt B.toBs 1 (xV 0))) (zC (sA (xV 3) (gAt B.toBs 2 (xV 0))) (zC (sA (xV 4) (gAt B.toBs 3 (xV 0))) (zC (sA (xV 5) (gAt B.toBs 4 (xV 0))) (z1 (sA (xV 6) (gAt B.toBs 5 (xV 0)))))))))))))⟩
theorem kg_Ring_ {P : Program} {w : World} {K : PySem.W.Frag} {mg : Str → Option Value} {base : Heap} (C : Ct FX P w K mg base) : KG (FX.tb K w) P w K mg base 3 0 "Ring" (He.ma K (He.ga K "Ring") "__init__") 6 m_Ring_o_init_o 3 [] [false, false, false] [.str "first", .str "none", .str "strict"] := by
  obtain ⟨fd, F, ok⟩ := ok_m_Ring_o_init_o (P := P) C
  obtain ⟨mv, kb⟩ := F.kbinds0 (ps := ["self", "size", "lengths", "marks", "order", "check", "follow"]) 4 [] [("order", V.str "first"), ("check", V.str "none"), ("follow", V.str "strict")] (fun us mv ws => us ++ mix [false, false, false] mv ws) (by intro z; cases z) (show ∀ q ∈ ([("order", V.str "first"), ("check", V.str "none"), ("follow", V.str "strict")] : List (Str × V)), q ∈ ([("order", V.str "first"), ("check", V.str "none"), ("follow", V.str "strict")] : List (Str × V)) from by decide +kernel) (fun a b c => Paired_append a (mix_rel b c)) (fun D doc pm an cdv ct us mv ws h1 h2 h3 => match us, mv, ws, h1, h2, h3 with
    | [_, _, _, _], [_, _, _], [], _, _, _ => ⟨_, _, _, _, _, _, rfl, rfl, _, _, _, _, _, _, rfl, rfl, _, _, _, _, _, _, rfl, rfl, rfl⟩)
  exact ⟨rfl, (C.glo 13), C.mkr 14, fd, _, _, _, ok, kb, fun ρ H ds vs zs us p r1 r2 => ⟨_, rfl, r1.append (mix_relD (by exact ⟨_, _, rfl, rfl, ⟨_, _, rfl, rfl, ⟨_, _, rfl, rfl, rfl⟩⟩⟩) r2)⟩⟩
theorem sc_f_olaw_good : FnScope [] [] (defScope (top 42)) := ⟨rfl, rfl, rfl, by decide +kernel, rfl, by decide +kernel, by decide +kernel⟩
theorem ok_f_olaw_good {P : Program} {w : World} {K : PySem.W.Frag} {mg : Str → Option Value} {base : Heap} (C : Ct FX P w K mg base) : FG (FX.tb K w) P w K mg base 5 (He.fAd K ("_law_good", none)) 0 f_olaw_good := by
  obtain ⟨fd, F⟩ := C.def_ 4
  exact fg_of (T := FX.tb K w) (N := []) (ps := []) (k := 4) (m := b_f_olaw_good) F sc_f_olaw_good rfl rfl C.ok rfl rfl (fun cdv A outer s H E hr B px => (z1 (sR (x_dict B.K B.w B.u (ppm_cons xS (xMakeK px (kg_Ring_ C) hr (aC xI (aC (xTup (aC xI (aC xI aN))) (aC xI aN))) wN) (ppm_cons xS (xLst (aC (xTup (aC xS (aC xI aN))) (aC (xTup (aC xS aN)) (aC (xTup (aC xS aN)) aN)))) ppm_nil)))))) (fun _ _ _ _ _ _ us hl => match us, hl with | [], _ => rfl)
theorem sc_f_olaw_doors : FnScope ["_law_one", "_law_past", "_law_found"] [] (defScope (top 44)) := ⟨rfl, rfl, rfl, by decide +kernel, rfl, by decide +kernel, by decide +kernel⟩
theorem ok_f_olaw_doors {P : Program} {w : World} {K : PySem.W.Frag} {mg : Str → Option Value} {base : Heap} (C : Ct FX P w K mg base) : FG (FX.tb K w) P w K mg base 1 (He.fAd K ("_law_doors", none)) 0 f_olaw_doors := by
  obtain ⟨fd, F⟩ := C.def_ 5
  exact fgC_of (T := FX.tb K w) (N := ["_law_one", "_law_past", "_law_found"]) (ps := []) (k := 0) (m := b_f_olaw_doors) F sc_f_olaw_doors rfl rfl C.ok rfl rfl (fun cdv A outer s H E hr B px hcv => (zC (sA (xTup (aC (xTup (aC xS aN)) (aC (xTup (aC xS (aC xS aN))) aN))) (gTp B (gCs (gNm B.toBs 0) (gCs (gNm B.toBs 1) gNs)))) (zC (sA (xLst (aC (xTup (aC (xV 1) (aC (xLam 0 (l := lam_0) rfl rfl (C.tab_at (q := (("_law_doors", none), (("_law_doors" : Str) ++ ".<locals>." ++ "<lambda>"))) 0) hcv (C.tab_mem (q := (("_law_doors", none), (("_law_doors" : Str) ++ ".<locals>." ++ "<lambda>"))) 0) (C.tab_uniq (q := (("_law_doors", none), (("_law_doors" : Str) ++ ".<locals>." ++ "<lambda>"))) 0) rfl rfl) aN))) (aC (xTup (aC (xV 0) (aC (xLam 1 (l := lam_1) rfl rfl (C.tab_at (q := (("_law_doors", none), (("_law_doors" : Str) ++ ".<locals>." ++ "<lambda>"))) 0) hcv (C.tab_mem (q := (("_law_doors", none), (("_law_doors" : Str) ++ ".<locals>." ++ "<lambda>"))) 0) (C.tab_uniq (q := (("_law_doors", none), (("_law_doors" : Str) ++ ".<locals>." ++ "<lambda>"))) 0) rfl rfl) aN))) aN))) (gNm B.toBs 2)) (z1 (sR (xOp B.toBs (xV 2) (xLst (aC (xTup (aC (xV 0) (aC (xLam 2 (l := lam_2) rfl rfl (C.tab_at (q := (("_law_doors", none), (("_law_doors" : Str) ++ ".<locals>." ++ "<lambda>"))) 0) hcv (C.tab_mem (q := (("_law_doors", none), (("_law_doors" : Str) ++ ".<locals>." ++ "<lambda>"))) 0) (C.tab_uniq (q := (("_law_doors", none), (("_law_doors" : Str) ++ ".<locals>." ++ "<lambda>"))) 0) rfl rfl) aN))) (aC (xTup (aC (xV 0) (aC (xLam 3 (l := lam_3) rfl rfl (C.tab_at (q := (("_law_doors", none), (("_law_doors" : Str) ++ ".<locals>." ++ "<lambda>"))) 0) hcv (C.tab_mem (q := (("_law_doors", none), (("_law_doors" : Str) ++ ".<locals>." ++ "<lambda>"))) 0) (C.tab_uniq (q := (("_law_doors", none), (("_law_doors" : Str) ++ ".<locals>." ++ "<lambda>"))) 0) rfl rfl) aN))) aN))))))))) (fun _ _ _ _ _ _ us hl => match us, hl with | [], _ => rfl)
def b_f_olaw_cell_at : MS := (sSeq (sIf (mB (m2 (vCmp .Lt) (mVar 1) (mFn (f1 bLen) (aCons (mVar 0) aNil)))) (sRet (m2 vIdx (mVar 0) (mVar 1))) sSkip) (sRet (mC (.int 0))))
def f_olaw_cell_at : Fn := fnM 2 b_f_olaw_cell_at
theorem sc_f_olaw_cell_at : FnScope ["_law_script", "_law_k"] ["_law_script", "_law_k"] (defScope (top 37)) := ⟨rfl, rfl, rfl, by decide +kernel, rfl, by decide +kernel, by decide +kernel⟩
theorem ok_f_olaw_cell_at {P : Program} {w : World} {K : PySem.W.Frag} {mg : Str → Option Value} {base : Heap} (C : Ct FX P w K mg base) : FG (FX.tb K w) P w K mg base 1 (He.fAd K ("_law_cell_at", none)) 2 f_olaw_cell_at := by
  obtain ⟨fd, F⟩ := C.def_ 6
  exact fg_of (T := FX.tb K w) (N := ["_law_script", "_law_k"]) (ps := ["_law_script", "_law_k"]) (k := 0) (m := b_f_olaw_cell_at) F sc_f_olaw_cell_at rfl rfl C.ok rfl rfl (fun cdv A outer s H E hr B px => (zC (sI (tCmp B.toBs (xV 1) (xFnB (cr_len B.K B.w) (C.free 5) boot_len (aC (xV 0) aN))) (z1 (sR (xIx B.toBs (xV 0) (xV 1)))) zN) (z1 (sR xI)))) (fun _ _ _ _ _ _ us hl => match us, hl with | [_, _], _ => rfl)
def b_f_olaw_draw : MS := (sSeq (sAsg (mTup (aCons (mC (.int 1000003)) (aCons (mC (.int 1000033)) (aCons (mC (.int 1000037)) (aCons (mC (.int 1000039)) (aCons (mC (.int 1000081)) (aCons (mC (.int 1000099)) (aCons (mC (.int 1000117)) (aCons (mC (.int 1000121)) (aCons (mC (.int 1000133)) (aCons (mC (.int 1000151)) (aCons (mC (.int 1000159)) (aCons (mC (.int 1000171)) (aCons (mC (.int 1000183)) (aCons (mC (.int 1000187)) (aCons (mC (.int 1000193)) (aCons (mC (.int 1000199)) aNil))))))))))))))))) (gN 3)) (sRet (m2 (vBin .Mod) (mFn (f1 bInt) (aCons (m2 (vBin .Mod) (mFn (f1 bInt) (aCons (m2 (vBin .Add) (m2 (vBin .Mult) (mVar 0) (mC (.int 48271))) (m2 (vBin .Mult) (mVar 1) (mC (.int 69621)))) aNil)) (m2 vIdx (mVar 3) (m2 (vBin .Mod) (mFn (f1 bInt) (aCons (mVar 1) aNil)) (mC (.int 16))))) aNil)) (mVar 2))))
def f_olaw_draw : Fn := fnM 4 b_f_olaw_draw
theorem sc_f_olaw_draw : FnScope ["_law_cell", "_law_k", "_law_bound", "_law_primes"] ["_law_cell", "_law_k", "_law_bound"] (defScope (top 38)) := ⟨rfl, rfl, rfl, by decide +kernel, rfl, by decide +kernel, by decide +kernel⟩
theorem ok_f_olaw_draw {P : Program} {w : World} {K : PySem.W.Frag} {mg : Str → Option Value} {base : Heap} (C : Ct FX P w K mg base) : FG (FX.tb K w) P w K mg base 1 (He.fAd K ("_law_draw", none)) 3 f_olaw_draw := by
  obtain ⟨fd, F⟩ := C.def_ 7
  exact fg_of (T := FX.tb K w) (N := ["_law_cell", "_law_k", "_law_bound", "_law_primes"]) (ps := ["_law_cell", "_law_k", "_law_bound"]) (k := 0) (m := b_f_olaw_draw) F sc_f_olaw_draw rfl rfl C.ok rfl rfl (fun cdv A outer s H E hr B px => (zC (sA (xTup (aC xI (aC xI (aC xI (aC xI (aC xI (aC xI (aC xI (aC xI (aC xI (aC xI (aC xI (aC xI (aC xI (aC xI (aC xI (aC xI aN))))))))))))))))) (gNm B.toBs 3)) (z1 (sR (xOp B.toBs (xFnT cr_int (C.free 0) boot_int (aC (xOp B.toBs (xFnT cr_int (C.free 0) boot_int (aC (xOp B.toBs (xOp B.toBs (xV 0) xI) (xOp B.toBs (xV 1) xI)) aN)) (xIx B.toBs (xV 3) (xOp B.toBs (xFnT cr_int (C.free 0) boot_int (aC (xV 1) aN)) xI))) aN)) (xV 2)))))) (fun _ _ _ _ _ _ us hl => match us, hl with | [_, _, _], _ => rfl)
def b_f_olaw_number : MS := (sSeq (sAsg (mC (.int 1)) (gN 3)) (sSeq (sFor (iRange1 (aCons (m2 (vBin .Mod) (mFn (f1 bInt) (aCons (mVar 1) aNil)) (mC (.int 24))) aNil)) (.nm 4) (sAsg (m2 (vBin .Mult) (mVar 3) (mC (.int 1009))) (gN 3))) (sSeq (sAsg (m2 (vBin .FloorDiv) (m2 (vBin .Sub) (mVar 0) (m2 (vBin .Pow) (mC (.int 10)) (mC (.int 18)))) (mVar 3)) (gN 5)) (sSeq (sIf (mB (m2 (vCmp .Gt) (mVar 5) (mC (.int 0)))) (sRet (m2 (vBin .Mod) (mFn (f1 bInt) (aCons (m2 (vBin .Mod) (mFn (f1 bInt) (aCons (mVar 5) aNil)) (mC (.int 1009))) aNil)) (mVar 2))) sSkip) (sSeq (sAsg (m2 (vBin .Mod) (mFn (f1 bInt) (aCons (mVar 0) aNil)) (mC (.int 1000003))) (gN 6)) (sSeq (sAsg (m2 (vBin .Mult) (m2 (vBin .Add) (mVar 6) (m2 (vBin .Mult) (mC (.int 977)) (mVar 1))) (m2 (vBin .Add) (m2 (vBin .Add) (mVar 6) (m2 (vBin .Mult) (mC (.int 31)) (mVar 1))) (mC (.int 5)))) (gN 7)) (sRet (m2 (vBin .Mod) (mFn (f1 bInt) (aCons (mCall 3 f_olaw_draw (aCons (mVar 7) (aCons (m2 (vBin .Add) (m2 (vBin .Mod) (mFn (f1 bInt) (aCons (mVar 1) aNil)) (mC (.int 9))) (mC (.int 1))) (aCons (mC (.int 999983)) aNil)))) aNil)) (mVar 2)))))))))
def f_olaw_number : Fn := fnM 8 b_f_olaw_number
theorem sc_f_olaw_number : FnScope ["_law_cell", "_law_k", "_law_bound", "_law_power", "_law_times", "_law_rest", "_law_small", "_law_blend"] ["_law_cell", "_law_k", "_law_bound"] (defScope (top 39)) := ⟨rfl, rfl, rfl, by decide +kernel, rfl, by decide +kernel, by decide +kernel⟩
theorem ok_f_olaw_number {P : Program} {w : World} {K : PySem.W.Frag} {mg : Str → Option Value} {base : Heap} (C : Ct FX P w K mg base) : FG (FX.tb K w) P w K mg base 2 (He.fAd K ("_law_number", none)) 3 f_olaw_number := by
  obtain ⟨fd, F⟩ := C.def_ 8
  exact fg_of (T := FX.tb K w) (N := ["_law_cell", "_law_k", "_law_bound", "_law_power", "_law_times", "_law_rest", "_law_small", "_law_blend"]) (ps := ["_law_cell", "_law_k", "_law_bound"]) (k := 1) (m := b_f_olaw_number) F sc_f_olaw_number rfl rfl C.ok rfl rfl (fun cdv A outer s H E hr B px => (zC (sA xI (gNm B.toBs 3)) (zC (sF B px (iR1 (C.free 18) (aC (xOp B.toBs (xFnT cr_int (C.free 0) boot_int (aC (xV 1) aN)) xI) aN)) (tgN B.toBs 4) (z1 (sA (xOp B.toBs (xV 3) xI) (gNm B.toBs 3)))) (zC (sA (xOp B.toBs (xOp B.toBs (xV 0) (xOp B.toBs xI xI)) (xV 3)) (gNm B.toBs 5)) (zC (sI (tCmp B.toBs (xV 5) xI) (z1 (sR (xOp B.toBs (xFnT cr_int (C.free 0) boot_int (aC (xOp B.toBs (xFnT cr_int (C.free 0) boot_int (aC (xV 5) aN)) xI) aN)) (xV 2)))) zN) (zC (sA (xOp B.toBs (xFnT cr_int (C.free 0) boot_int (aC (xV 0) aN)) xI) (gNm B.toBs 6)) (zC (sA (xOp B.toBs (xOp B.toBs (xV 6) (xOp B.toBs xI (xV 1))) (xOp B.toBs (xOp B.toBs (xV 6) (xOp B.toBs xI (xV 1))) xI)) (gNm B.toBs 7)) (z1 (sR (xOp B.toBs (xFnT cr_int (C.free 0) boot_int (aC (xCall px (ok_f_olaw_draw C) hr (C.glo 19) (aC (xV 7) (aC (xOp B.toBs (xOp B.toBs (xFnT cr_int (C.free 0) boot_int (aC (xV 1) aN)) xI) xI) (aC xI aN)))) aN)) (xV 2))))))))))) (fun _ _ _ _ _ _ us hl => match us, hl with | [_, _, _], _ => rfl)
def b_f_olaw_next : MS := (sSeq (sAsg (m2 (vBin .Add) (m2 vIdx (mVar 0) (mC (.int 2))) (mC (.int 1))) (gSubM (mVar 0) (mC (.int 2)))) (sSeq (sAsg (m2 (vBin .FloorDiv) (m2 vIdx (mVar 0) (mC (.int 2))) (mC (.int 12))) (gN 2)) (sSeq (sAsg (m2 (vBin .Add) (mCall 2 f_olaw_cell_at (aCons (m2 vIdx (mVar 0) (mC (.int 0))) (aCons (m2 (vBin .Add) (m2 vIdx (mVar 0) (mC (.int 1))) (mVar 2)) aNil))) (m2 (vBin .Mult) (mC (.int 31)) (mVar 2))) (gN 3)) (sRet (mCall 3 f_olaw_number (aCons (mVar 3) (aCons (m2 (vBin .Add) (m2 (vBin .Mod) (mFn (f1 bInt) (aCons (m2 vIdx (mVar 0) (mC (.int 2))) aNil)) (mC (.int 12))) (mC (.int 1))) (aCons (mVar 1) aNil))))))))
def f_olaw_next : Fn := fnM 4 b_f_olaw_next
theorem sc_f_olaw_next : FnScope ["_law_draw_here", "_law_bound", "_law_at", "_law_cell"] ["_law_draw_here", "_law_bound"] (defScope (top 40)) := ⟨rfl, rfl, rfl, by decide +kernel, rfl, by decide +kernel, by decide +kernel⟩
theorem ok_f_olaw_next {P : Program} {w : World} {K : PySem.W.Frag} {mg : Str → Option Value} {base : Heap} (C : Ct FX P w K mg base) : FG (FX.tb K w) P w K mg base 3 (He.fAd K ("_law_next", none)) 2 f_olaw_next := by
  obtain ⟨fd, F⟩ := C.def_ 9
  exact fg_of (T := FX.tb K w) (N := ["_law_draw_here", "_law_bound", "_law_at", "_law_cell"]) (ps := ["_law_draw_here", "_law_bound"]) (k := 2) (m := b_f_olaw_next) F sc_f_olaw_next rfl rfl C.ok rfl rfl (fun cdv A outer s H E hr B px => (zC (sA (xOp B.toBs (xIx B.toBs (xV 0) xI) xI) (gSb B.toBs (xV 0) xI)) (zC (sA (xOp B.toBs (xIx B.toBs (xV 0) xI) xI) (gNm B.toBs 2)) (zC (sA (xOp B.toBs (xCall px (ok_f_olaw_cell_at C) hr (C.glo 17) (aC (xIx B.toBs (xV 0) xI) (aC (xOp B.toBs (xIx B.toBs (xV 0) xI) (xV 2)) aN))) (xOp B.toBs xI (xV 2))) (gNm B.toBs 3)) (z1 (sR (xCall px (ok_f_olaw_number C) hr (C.glo 20) (aC (xV 3) (aC (xOp B.toBs (xOp B.toBs (xFnT cr_int (C.free 0) boot_int (aC (xIx B.toBs (xV 0) xI) aN)) xI) xI) (aC (xV 1) aN)))))))))) (fun _ _ _ _ _ _ us hl => match us, hl with | [_, _], _ => rfl)
theorem xcell {p : Nat} {h : LH} {ns : List Int} {k : Int} (hp : h.get p = some (.lst false (ns.map D.int))) (hk : 0 ≤ k) : ∃ z, f_olaw_cell_at [.obj p, .int k] h = .ok (.int z) h ∧ (z = 0 ∨ z ∈ ns) := by
  have ht : mB (m2 (vCmp .Lt) (mVar 1) (mFn (f1 bLen) (aCons (mVar 0) aNil))) (startL 2 [.obj p, .int k]) h = .ok (decide (k < ((ns.map D.int).length : Int))) h :=
    e_B (e_2 (e_var rfl) (e_fn (e_cons (e_var rfl) e_nil) (e_len hp)) rfl)
  rw [List.length_map] at ht
  by_cases hc : k < (ns.length : Int)
  · rw [decide_eq_true hc] at ht
    have hlt : k.toNat < ns.length := by omega
    have hi : atI (ns.map D.int) k = some (.int ns[k.toNat]) := by
      unfold atI ixN
      rw [List.length_map, if_pos hk, if_pos hc]
      simp [hlt]
    exact ⟨ns[k.toNat], e_fnM (e_seqR ((e_ifT ht).trans (e_ret (e_2 (e_var rfl) (e_var rfl) (e_idx hp hi))))), .inr (List.getElem_mem _)⟩
  · rw [decide_eq_false hc] at ht
    exact ⟨0, e_fnM ((e_seq ((e_ifF ht).trans rfl)).trans (e_ret e_c)), .inl rfl⟩
theorem emod_in {a b : Int} (hb : 0 < b) : 0 ≤ a % b ∧ a % b < b := ⟨Int.emod_nonneg _ (by omega), Int.emod_lt_of_pos _ hb⟩
def prms : List Int := [1000003, 1000033, 1000037, 1000039, 1000081, 1000099, 1000117, 1000121, 1000133, 1000151, 1000159, 1000171, 1000183, 1000187, 1000193, 1000199]
theorem xdraw {c k b : Int} {h : LH} (hc : c.natAbs.log2 ≤ 10000000) (hk : 0 ≤ k) (hk2 : k ≤ 1000) (hb : 0 < b) : ∃ r, f_olaw_draw [.int c, .int k, .int b] h = .ok (.int r) h ∧ 0 ≤ r ∧ r < b := by
  have k16 := emod_in (a := k) (b := 16) (by omega)
  obtain ⟨q, hq, q0⟩ : ∃ q : Int, atI (prms.map D.int) (k % 16) = some (.int q) ∧ 0 < q := by
    have : ∀ j : Fin 16, ∃ q : Int, atI (prms.map D.int) ((j.val : Nat) : Int) = some (.int q) ∧ 0 < q := by
      intro j
      have hl : j.val < prms.length := j.isLt
      refine ⟨prms[j.val], ?_, ?_⟩
      · unfold atI ixN
        rw [List.length_map, if_pos (by omega), if_pos (by show ((j.val : Nat) : Int) < ((16 : Nat) : Int); omega)]
        simp
      · have : ∀ q ∈ prms, 0 < q := by decide
        exact this _ (List.getElem_mem _)
    have := this ⟨(k % 16).toNat, by omega⟩
    rwa [show (((⟨(k % 16).toNat, by omega⟩ : Fin 16).val : Nat) : Int) = k % 16 by simp; omega] at this
  have lk : k.natAbs.log2 ≤ 10 := log_le (by omega)
  have e1 : mTup (aCons (mC (.int 1000003)) (aCons (mC (.int 1000033)) (aCons (mC (.int 1000037)) (aCons (mC (.int 1000039)) (aCons (mC (.int 1000081)) (aCons (mC (.int 1000099)) (aCons (mC (.int 1000117)) (aCons (mC (.int 1000121)) (aCons (mC (.int 1000133)) (aCons (mC (.int 1000151)) (aCons (mC (.int 1000159)) (aCons (mC (.int 1000171)) (aCons (mC (.int 1000183)) (aCons (mC (.int 1000187)) (aCons (mC (.int 1000193)) (aCons (mC (.int 1000199)) aNil)))))))))))))))) (startL 4 [.int c, .int k, .int b]) h = .ok (.tup (prms.map D.int)) h := rfl
  refine ⟨_, e_fnM ((e_seq (e_asgN e1)).trans (e_ret (e_2 (e_fn (e_cons (e_2 (e_fn (e_cons (e_2 (e_2 (e_var rfl) e_c (e_mul ?_)) (e_2 (e_var rfl) e_c (e_mul ?_)) rfl) e_nil) rfl) (e_2 (e_var rfl) (e_2 (e_fn (e_cons (e_var rfl) e_nil) rfl) e_c (e_mod (by decide))) (e_idxT hq)) (e_mod q0)) e_nil) rfl) (e_var rfl) (e_mod hb)))), ?_⟩
  · have : (48271 : Int).natAbs.log2 ≤ 20 := by decide
    omega
  · have : (69621 : Int).natAbs.log2 ≤ 20 := by decide
    omega
  · exact emod_in hb
theorem xpow {c k b x4 : D} {h : LH} : ∀ (ds : List D) (x : Option D) (p : Nat), p + ds.length ≤ 24 → ∃ x', forD [] (.nm 4) (sAsg (m2 (vBin .Mult) (mVar 3) (mC (.int 1009))) (gN 3)) ds [some c, some k, some b, some (.int (1009 ^ p)), x, none, none, none] h = .nx [some c, some k, some b, some (.int (1009 ^ (p + ds.length))), x', none, none, none] h
  | [], x, p, _ => ⟨x, rfl⟩
  | d :: r, x, p, hl => by
    obtain ⟨x', ih⟩ := xpow (c := c) (k := k) (b := b) (x4 := x4) (h := h) r (some d) (p + 1) (by simp at hl; omega)
    refine ⟨x', ?_⟩
    have lp : ((1009 : Int) ^ p).natAbs.log2 ≤ 1000 := by
      refine log_le ?_
      rw [Int.natAbs_pow]
      have h2 : (1009 : Int).natAbs ^ p ≤ 1024 ^ p := Nat.pow_le_pow_left (by decide) p
      have h3 : (1024 : Nat) ^ p ≤ 1024 ^ 24 := Nat.pow_le_pow_right (by omega) (by simp at hl; omega)
      exact Nat.le_trans h2 (Nat.le_trans h3 (by decide))
    have l9 : (1009 : Int).natAbs.log2 ≤ 20 := by decide
    have lq : ((1009 : Int) ^ p).natAbs.log2 + (1009 : Int).natAbs.log2 ≤ 100000000 := by omega
    have e1 : sAsg (m2 (vBin .Mult) (mVar 3) (mC (.int 1009))) (gN 3) [some c, some k, some b, some (.int (1009 ^ p)), some d, none, none, none] h = .nx [some c, some k, some b, some (.int (1009 ^ p * 1009)), some d, none, none, none] h :=
      e_asgN (e_2 (e_var rfl) e_c (e_mul lq))
    show (sAsg (m2 (vBin .Mult) (mVar 3) (mC (.int 1009))) (gN 3) [some c, some k, some b, some (.int (1009 ^ p)), some d, none, none, none] h).on (forD [] (.nm 4) (sAsg (m2 (vBin .Mult) (mVar 3) (mC (.int 1009))) (gN 3)) r) (fun sl2 h2 => .nx sl2 h2) (forD [] (.nm 4) (sAsg (m2 (vBin .Mult) (mVar 3) (mC (.int 1009))) (gN 3)) r) = _
    rw [e1]
    show forD [] (.nm 4) (sAsg (m2 (vBin .Mult) (mVar 3) (mC (.int 1009))) (gN 3)) r [some c, some k, some b, some (.int (1009 ^ p * 1009)), some d, none, none, none] h = _
    rw [show (1009 : Int) ^ p * 1009 = 1009 ^ (p + 1) from (Int.pow_succ _ _).symm, ih]
    rw [List.length_cons, show p + (r.length + 1) = p + 1 + r.length by omega]
theorem xnumber {c k b : Int} {h : LH} (hc : c.natAbs.log2 ≤ 2000000) (hk : 0 ≤ k) (hk2 : k ≤ 12) (hb : 0 < b) : ∃ r, f_olaw_number [.int c, .int k, .int b] h = .ok (.int r) h ∧ 0 ≤ r ∧ r < b := by
  have e24 : k % 24 = k := Int.emod_eq_of_lt hk (by omega)
  have hrg : iRange1 (aCons (m2 (vBin .Mod) (mFn (f1 bInt) (aCons (mVar 1) aNil)) (mC (.int 24))) aNil) [some (.int c), some (.int k), some (.int b), some (.int 1), none, none, none, none] h = .ok ((List.range k.toNat).map fun (j : Nat) => D.int (0 + (j : Int)), []) h := by
    unfold iRange1
    rw [show aCons (m2 (vBin .Mod) (mFn (f1 bInt) (aCons (mVar 1) aNil)) (mC (.int 24))) aNil [some (.int c), some (.int k), some (.int b), some (.int 1), none, none, none, none] h = .ok [.int (k % 24)] h from e_cons (e_2 (e_fn (e_cons (e_var rfl) e_nil) rfl) e_c (e_mod (by decide))) e_nil]
    rw [e24]
    show (bif decide (k ≤ 100000) && decide (-100000 ≤ k) then Res.ok ((List.range k.toNat).map fun (j : Nat) => D.int (0 + (j : Int)), []) h else .stuck) = _
    rw [decide_eq_true (by omega), decide_eq_true (by omega)]
    rfl
  obtain ⟨x', hpw⟩ := xpow (c := .int c) (k := .int k) (b := .int b) (x4 := .non) (h := h) ((List.range k.toNat).map fun (j : Nat) => D.int (0 + (j : Int))) none 0 (by simp; omega)
  have hfor := e_for (t := .nm 4) (a := sAsg (m2 (vBin .Mult) (mVar 3) (mC (.int 1009))) (gN 3)) hrg hpw
  rw [List.length_map, List.length_range, Nat.zero_add] at hfor
  have pw0 : (0 : Int) < 1009 ^ k.toNat := Int.pow_pos (by decide)
  have lp : ((1009 : Int) ^ k.toNat).natAbs.log2 < 9000 := by
    have : ((1009 : Int) ^ k.toNat).natAbs.log2 ≤ 1000 := by
      refine log_le ?_
      rw [Int.natAbs_pow]
      have h2 : (1009 : Int).natAbs ^ k.toNat ≤ 1024 ^ k.toNat := Nat.pow_le_pow_left (by decide) _
      have h3 : (1024 : Nat) ^ k.toNat ≤ 1024 ^ 24 := Nat.pow_le_pow_right (by omega) (by omega)
      exact Nat.le_trans h2 (Nat.le_trans h3 (by decide))
    omega
  have start : ∀ {R : SRes}, sSeq (sAsg (m2 (vBin .FloorDiv) (m2 (vBin .Sub) (mVar 0) (m2 (vBin .Pow) (mC (.int 10)) (mC (.int 18)))) (mVar 3)) (gN 5)) (sSeq (sIf (mB (m2 (vCmp .Gt) (mVar 5) (mC (.int 0)))) (sRet (m2 (vBin .Mod) (mFn (f1 bInt) (aCons (m2 (vBin .Mod) (mFn (f1 bInt) (aCons (mVar 5) aNil)) (mC (.int 1009))) aNil)) (mVar 2))) sSkip) (sSeq (sAsg (m2 (vBin .Mod) (mFn (f1 bInt) (aCons (mVar 0) aNil)) (mC (.int 1000003))) (gN 6)) (sSeq (sAsg (m2 (vBin .Mult) (m2 (vBin .Add) (mVar 6) (m2 (vBin .Mult) (mC (.int 977)) (mVar 1))) (m2 (vBin .Add) (m2 (vBin .Add) (mVar 6) (m2 (vBin .Mult) (mC (.int 31)) (mVar 1))) (mC (.int 5)))) (gN 7)) (sRet (m2 (vBin .Mod) (mFn (f1 bInt) (aCons (mCall 3 f_olaw_draw (aCons (mVar 7) (aCons (m2 (vBin .Add) (m2 (vBin .Mod) (mFn (f1 bInt) (aCons (mVar 1) aNil)) (mC (.int 9))) (mC (.int 1))) (aCons (mC (.int 999983)) aNil)))) aNil)) (mVar 2)))))) [some (.int c), some (.int k), some (.int b), some (.int (1009 ^ k.toNat)), x', none, none, none] h = R → b_f_olaw_number (startL 8 [.int c, .int k, .int b]) h = R := fun q =>
    (e_seq (e_asgN e_c)).trans ((e_seq hfor).trans q)
  have e5 : sAsg (m2 (vBin .FloorDiv) (m2 (vBin .Sub) (mVar 0) (m2 (vBin .Pow) (mC (.int 10)) (mC (.int 18)))) (mVar 3)) (gN 5) [some (.int c), some (.int k), some (.int b), some (.int (1009 ^ k.toNat)), x', none, none, none] h = .nx [some (.int c), some (.int k), some (.int b), some (.int (1009 ^ k.toNat)), x', some (.int ((c - 10 ^ 18) / 1009 ^ k.toNat)), none, none] h :=
    e_asgN (e_2 (e_2 (e_var rfl) (show m2 (vBin .Pow) (mC (.int 10)) (mC (.int 18)) _ h = .ok (.int (10 ^ 18)) h from rfl) rfl) (e_var rfl) (e_div pw0 lp))
  have ht : mB (m2 (vCmp .Gt) (mVar 5) (mC (.int 0))) [some (.int c), some (.int k), some (.int b), some (.int (1009 ^ k.toNat)), x', some (.int ((c - 10 ^ 18) / 1009 ^ k.toNat)), none, none] h = .ok (decide ((c - 10 ^ 18) / 1009 ^ k.toNat > 0)) h := e_B (e_2 (e_var rfl) e_c rfl)
  by_cases hpos : (c - 10 ^ 18) / 1009 ^ k.toNat > 0
  · rw [decide_eq_true hpos] at ht
    exact ⟨_, e_fnM (start ((e_seq e5).trans (e_seqR ((e_ifT ht).trans (e_ret (e_2 (e_fn (e_cons (e_2 (e_fn (e_cons (e_var rfl) e_nil) rfl) e_c (e_mod (by decide))) e_nil) rfl) (e_var rfl) (e_mod hb))))))), emod_in hb⟩
  · rw [decide_eq_false hpos] at ht
    have s1 := emod_in (a := c) (b := 1000003) (by decide)
    have k9 := emod_in (a := k) (b := 9) (by decide)
    have l1 : ((c % 1000003 + 977 * k)).natAbs.log2 ≤ 30 := log_le (by omega)
    have l2 : ((c % 1000003 + 31 * k + 5)).natAbs.log2 ≤ 30 := log_le (by omega)
    have lk : k.natAbs.log2 ≤ 10 := log_le (by omega)
    have lm : ((c % 1000003 + 977 * k) * (c % 1000003 + 31 * k + 5)).natAbs.log2 ≤ 10000000 := by
      have a1 := abs_lt l1
      have a2 := abs_lt l2
      have : ((c % 1000003 + 977 * k) * (c % 1000003 + 31 * k + 5)).natAbs ≤ 2 ^ 62 := by
        rw [Int.natAbs_mul]
        exact Nat.le_trans (Nat.mul_le_mul (Nat.le_of_lt a1) (Nat.le_of_lt a2)) (by decide)
      have := log_le this
      omega
    obtain ⟨r, hr, r0, r1⟩ := xdraw (c := (c % 1000003 + 977 * k) * (c % 1000003 + 31 * k + 5)) (k := k % 9 + 1) (b := 999983) (h := h) lm (by omega) (by omega) (by decide)
    refine ⟨_, e_fnM (start ((e_seq e5).trans ((e_seq ((e_ifF ht).trans rfl)).trans ((e_seq (e_asgN (e_2 (e_fn (e_cons (e_var rfl) e_nil) rfl) e_c (e_mod (by decide))))).trans ((e_seq (e_asgN (e_2 (e_2 (e_var rfl) (e_2 e_c (e_var rfl) (e_mul ?_)) rfl) (e_2 (e_2 (e_var rfl) (e_2 e_c (e_var rfl) (e_mul ?_)) rfl) e_c rfl) (e_mul ?_)))).trans
      (e_ret (e_2 (e_fn (e_cons (e_call (e_cons (e_var rfl) (e_cons (e_2 (e_2 (e_fn (e_cons (e_var rfl) e_nil) rfl) e_c (e_mod (by decide))) e_c rfl) (e_cons e_c e_nil))) rfl hr) e_nil) rfl) (e_var rfl) (e_mod hb)))))))), emod_in hb⟩
    · have : (977 : Int).natAbs.log2 ≤ 20 := by decide
      omega
    · have : (31 : Int).natAbs.log2 ≤ 20 := by decide
      omega
    · omega
theorem xnext {n p : Nat} {h : LH} {ns : List Int} {i b : Int} (hn : h.get n = some (.lst false [.obj p, .int 0, .int i])) (hp : h.get p = some (.lst false (ns.map D.int))) (ne : n ≠ p) (hi : 0 ≤ i) (hi2 : i ≤ 1000000) (hb : 0 < b) (hs : ∀ z ∈ ns, Builtin.Int.intBits z ≤ 1048576) :
    ∃ r, f_olaw_next [.obj n, .int b] h = .ok (.int r) (h.put n (.lst false [.obj p, .int 0, .int (i + 1)])) ∧ 0 ≤ r ∧ r < b := by
  have hn2 : (h.put n (.lst false [.obj p, .int 0, .int (i + 1)])).get n = some (.lst false [.obj p, .int 0, .int (i + 1)]) := by rw [LH.get_put, if_pos rfl]
  have hp2 : (h.put n (.lst false [.obj p, .int 0, .int (i + 1)])).get p = some (.lst false (ns.map D.int)) := by rw [LH.get_put, if_neg (Ne.symm ne)]; exact hp
  have d0 : 0 ≤ (i + 1) / 12 := Int.ediv_nonneg (by omega) (by decide)
  have d1 : (i + 1) / 12 ≤ 1000001 := by omega
  obtain ⟨z, hz, z1⟩ := xcell (k := 0 + (i + 1) / 12) hp2 (by omega)
  have lz : z.natAbs.log2 ≤ 1048576 := by
    rcases z1 with e | e
    · rw [e]; decide
    · exact log_bits (hs z e)
  have lc : (z + 31 * ((i + 1) / 12)).natAbs.log2 ≤ 2000000 := by
    have a1 := abs_lt lz
    have : (z + 31 * ((i + 1) / 12)).natAbs ≤ 2 ^ 1048578 := by
      have h1 : (z + 31 * ((i + 1) / 12)).natAbs ≤ z.natAbs + 2 ^ 30 := by omega
      have h2 : (2 : Nat) ^ 30 ≤ 2 ^ (1048576 + 1) := Nat.pow_le_pow_right (by omega) (by omega)
      have h3 : (2 : Nat) ^ 1048578 = 2 ^ (1048576 + 1) + 2 ^ (1048576 + 1) := by rw [show (1048578 : Nat) = 1048576 + 1 + 1 from rfl, Nat.pow_succ _ (1048576 + 1)]; omega
      rw [h3]
      generalize (2 : Nat) ^ (1048576 + 1) = q at *
      omega
    have := log_le this
    omega
  have m12 := emod_in (a := i + 1) (b := 12) (by decide)
  obtain ⟨r, hr, r0, r1⟩ := xnumber (c := z + 31 * ((i + 1) / 12)) (k := (i + 1) % 12 + 1) (b := b) (h := h.put n (.lst false [.obj p, .int 0, .int (i + 1)])) lc (by omega) (by omega) hb
  refine ⟨r, e_fnM ((e_seq (e_asg (e_2 (e_2 (e_var rfl) e_c (e_idx hn rfl)) e_c rfl) (e_sub (e_var rfl) e_c (e_set hn rfl)))).trans ((e_seq (e_asgN (e_2 (e_2 (e_var rfl) e_c (e_idx hn2 rfl)) e_c (e_div (by decide) (by decide))))).trans
    ((e_seq (e_asgN (e_2 (e_call (e_cons (e_2 (e_var rfl) e_c (e_idx hn2 rfl)) (e_cons (e_2 (e_2 (e_var rfl) e_c (e_idx hn2 rfl)) (e_var rfl) rfl) e_nil)) rfl hz) (e_2 e_c (e_var rfl) (e_mul ?_)) rfl))).trans
      (e_ret (e_call (e_cons (e_var rfl) (e_cons (e_2 (e_2 (e_fn (e_cons (e_2 (e_var rfl) e_c (e_idx hn2 rfl)) e_nil) rfl) e_c (e_mod (by decide))) e_c rfl) (e_cons (e_var rfl) e_nil))) rfl hr))))), r0, r1⟩
  have h1 : (31 : Int).natAbs.log2 ≤ 20 := by decide
  have h2 : ((i + 1) / 12).natAbs.log2 ≤ 30 := log_le (by omega)
  omega
theorem ok_sp_f_olaw_next {P : Program} {w : World} {K : PySem.W.Frag} {mg : Str → Option Value} {base : Heap} (C : Ct FX P w K mg base) : FG (FX.tb K w) P w K mg base 3 (He.fAd K ("_law_next", none)) 2 sp_f_olaw_next := by
  refine fg_spec (ok_f_olaw_next C) fun vs H Q E q => ?_
  obtain ⟨hl, ρ, lh, ds, hr, rd, post⟩ := q
  unfold sp_f_olaw_next at post
  split at post
  · rename_i n b
    split at post
    · rename_i p m en
      split at post
      · rename_i l0 m0 ep
        obtain ⟨hb, post⟩ := cond_stuck post
        obtain ⟨b0, hb⟩ := band hb
        obtain ⟨b1, hb⟩ := band hb
        obtain ⟨b2, b3⟩ := band hb
        have b0 : 0 < b := of_decide_eq_true b0
        have b1 : b ≤ 1000 := of_decide_eq_true b1
        have b2 := Nat.le_of_ble_eq_true b2
        have ne : n ≠ p := fun z => by rw [z, Nat.beq_refl] at b3; cases b3
        obtain ⟨a, ea, pa, i, ea2, hH, i0, i1⟩ := hr.obj n _ en
        obtain ⟨a2, ea3, ns, hH2, hl2, hbits⟩ := hr.obj p _ ep
        rw [ea3] at ea2
        cases ea2
        have relI : ∀ {H' : Hp} {ρ' : List Addr} (l : List Int), RelDs (FX.tb K w) ρ' H' (l.map D.int) (l.map V.int) := fun l => by
          induction l with
          | nil => rfl
          | cons z t ih => exact ⟨_, _, rfl, rfl, ih⟩
        have hr2 : HR (FX.tb K w) ρ H ((lh.rep p (.lst false (ns.map D.int))).rep n (.lst false [.obj p, .int 0, .int i])) := hr.told rfl fun k o e => by
          rw [LH.get_rep] at e
          by_cases h1 : k = n
          · rw [if_pos h1] at e
            cases e
            rw [h1]
            exact ⟨a, ea, _, ⟨_, _, rfl, ⟨_, ea3, rfl⟩, _, _, rfl, rfl, _, _, rfl, rfl, rfl⟩, hH⟩
          · rw [if_neg h1, LH.get_rep] at e
            by_cases h2 : k = p
            · rw [if_pos h2] at e
              cases e
              rw [h2]
              exact ⟨_, ea3, _, relI ns, hH2⟩
            · rw [if_neg h2] at e
              exact hr.obj k o e
        have g1 : ((lh.rep p (.lst false (ns.map D.int))).rep n (.lst false [.obj p, .int 0, .int i])).get n = some (.lst false [.obj p, .int 0, .int i]) := by rw [LH.get_rep, if_pos rfl]
        have g2 : ((lh.rep p (.lst false (ns.map D.int))).rep n (.lst false [.obj p, .int 0, .int i])).get p = some (.lst false (ns.map D.int)) := by rw [LH.get_rep, if_neg (Ne.symm ne), LH.get_rep, if_pos rfl]
        obtain ⟨r, hrun, r0, r1⟩ := xnext (b := b) g1 g2 ne i0 (by omega) b0 hbits
        refine ⟨hl, ρ, _, _, hr2, rd, ?_⟩
        rw [hrun]
        intro ρ' H' le hr3 v rv
        have key := altN_ok post r.toNat (by omega)
        rw [show ((r.toNat : Nat) : Int) = r by omega] at key
        have vv : ∀ k, ((lh.rep p (.lst false (ns.map D.int))).rep n (.lst false [.obj p, .int 0, .int i])).ver k = lh.ver k := fun k => by rw [LH.ver_rep, LH.ver_rep]
        have vp : ∀ k, (lh.put n (.abs 1 p (m + 1))).ver k = (((lh.rep p (.lst false (ns.map D.int))).rep n (.lst false [.obj p, .int 0, .int i])).put n (.lst false [.obj p, .int 0, .int (i + 1)])).ver k := fun k => by rw [LH.ver_put, LH.ver_put, vv, vv]
        refine key ρ' H' (le.told (fun k => (vv k).symm) vp) (hr3.told rfl fun k o e => ?_) v rv
        rw [LH.get_put] at e
        by_cases h1 : k = n
        · rw [if_pos h1] at e
          cases e
          obtain ⟨c1, k1, vs2, k2, k3⟩ := hr3.obj n (.lst false [.obj p, .int 0, .int (i + 1)]) (by rw [LH.get_put, if_pos rfl])
          obtain ⟨v1, t1, e1, ⟨q1, f1, f2⟩, v2, t2, e2, f3, v3, t3, e3, f4, f5⟩ := k2
          rw [h1]
          have f5 : t3 = [] := f5
          have f3 : v2 = .int 0 := f3
          have f4 : v3 = .int (i + 1) := f4
          subst f5 f3 f4 f2
          subst e3
          subst e2
          subst e1
          exact ⟨c1, k1, q1, i + 1, f1, k3, by omega, by have := i1; push_cast; omega⟩
        · rw [if_neg h1] at e
          by_cases h2 : k = p
          · rw [h2] at e ⊢
            rw [ep] at e
            cases e
            obtain ⟨c1, k1, vs2, k2, k3⟩ := hr3.obj p (.lst false (ns.map D.int)) (by rw [LH.get_put, if_neg (Ne.symm ne)]; exact g2)
            have : vs2 = ns.map V.int := by
              clear k3
              revert vs2
              clear hH2 hl2 hbits g2 hrun r0 r1 hr2 g1 le hr3 rv key vv vp
              induction ns with
              | nil => exact fun vs2 h => h
              | cons z t ih =>
                intro vs2 h
                obtain ⟨v1, t1, e1, f1, f2⟩ := h
                rw [e1, show v1 = _ from f1, ih t1 f2]
                rfl
            subst this
            exact ⟨c1, k1, ns, k3, hl2, hbits⟩
          · exact hr3.obj k o (by rw [LH.get_put, if_neg h1, LH.get_rep, if_neg h1, LH.get_rep, if_neg h2]; exact e)
      · exact post.elim
    · exact post.elim
  · exact post.elim
theorem sc_f_olaw_pick : FnScope ["_law_draw_here", "_law_things"] ["_law_draw_here", "_law_things"] (defScope (top 41)) := ⟨rfl, rfl, rfl, by decide +kernel, rfl, by decide +kernel, by decide +kernel⟩
theorem ok_f_olaw_pick {P : Program} {w : World} {K : PySem.W.Frag} {mg : Str → Option Value} {base : Heap} (C : Ct FX P w K mg base) : FG (FX.tb K w) P w K mg base 4 (He.fAd K ("_law_pick", none)) 2 f_olaw_pick := by
  obtain ⟨fd, F⟩ := C.def_ 10
  exact fg_of (T := FX.tb K w) (N := ["_law_draw_here", "_law_things"]) (ps := ["_law_draw_here", "_law_things"]) (k := 3) (m := b_f_olaw_pick) F sc_f_olaw_pick rfl rfl C.ok rfl rfl (fun cdv A outer s H E hr B px => (z1 (sR (xIx B.toBs (xV 1) (xCall px (ok_sp_f_olaw_next C) hr (C.glo 21) (aC (xV 0) (aC (xFnB (cr_len B.K B.w) (C.free 5) boot_len (aC (xV 1) aN)) aN))))))) (fun _ _ _ _ _ _ us hl => match us, hl with | [_, _], _ => rfl)
theorem sc_f_olaw_wrong : FnScope ["_law_name", "_law_bad", "_law_thing", "_law_at"] ["_law_name"] (defScope (top 43)) := ⟨rfl, rfl, rfl, by decide +kernel, rfl, by decide +kernel, by decide +kernel⟩
theorem ok_f_olaw_wrong {P : Program} {w : World} {K : PySem.W.Frag} {mg : Str → Option Value} {base : Heap} (C : Ct FX P w K mg base) : FG (FX.tb K w) P w K mg base 1 (He.fAd K ("_law_wrong", none)) 1 f_olaw_wrong := by
  obtain ⟨fd, F⟩ := C.def_ 11
  exact fg_of (T := FX.tb K w) (N := ["_law_name", "_law_bad", "_law_thing", "_law_at"]) (ps := ["_law_name"]) (k := 0) (m := b_f_olaw_wrong) F sc_f_olaw_wrong rfl rfl C.ok rfl rfl (fun cdv A outer s H E hr B px => (zC (sI (tCmp B.toBs (xV 0) xS) (z1 (sA (xLst (aC xN (aC xI (aC (xTup (aC xI (aC (xTup (aC xI (aC xI aN))) (aC xI aN)))) (aC xS (aC (xLst aN) aN)))))) (gNm B.toBs 1))) (zC (sA (xLst (aC (xTup (aC xN (aC xN aN))) (aC (xTup (aC xS (aC xN aN))) (aC (xTup (aC (xLst (aC (xTup (aC xS aN)) aN)) (aC xI aN))) (aC (xTup (aC (xLst (aC (xTup (aC xS (aC xI aN))) (aC (xTup (aC xS (aC xI aN))) aN))) (aC xI aN))) aN))))) (gNm B.toBs 1)) (zC (sA (xOp B.toBs (xV 1) (xLst (aC (xTup (aC (xLst (aC (xTup (aC xS (aC xI aN))) aN)) (aC xI aN))) (aC (xTup (aC (xLst (aC (xTup (aC xS (aC xB aN))) aN)) (aC xI aN))) (aC (xTup (aC (xLst (aC (xLst (aC xS aN)) aN)) (aC xI aN))) (aC (xTup (aC (xLst (aC (xTup (aC xS (aC xI aN))) aN)) (aC xI aN))) (aC (xTup (aC (xLst (aC (xTup aN) aN)) (aC xI aN))) aN))))))) (gNm B.toBs 1)) (z1 (sR (xLc B (own := [("_law_thing", 2), ("_law_at", 3)]) (iA B.toBs (xV 1)) rfl (fun _ _ _ _ _ => ⟨(tgT B.blk (tsC B.blk.toBs 2 (tsC B.blk.toBs 3 tsN))), yN, (xTup (aC (xV 2) (aC (xTup (aC xS (aC (xV 3) aN))) aN)))⟩))))))) (z1 (sR (xLc B (own := [("_law_thing", 2)]) (iA B.toBs (xV 1)) rfl (fun _ _ _ _ _ => ⟨(tgN B.blk.toBs 2), yN, (xTup (aC (xV 2) (aC (xV 0) aN)))⟩)))))) (fun _ _ _ _ _ _ us hl => match us, hl with | [_], _ => rfl)
theorem sc_f_is_there : FnScope ["state"] ["state"] (defScope (top 30)) := ⟨rfl, rfl, rfl, by decide +kernel, rfl, by decide +kernel, by decide +kernel⟩
theorem ok_f_is_there {P : Program} {w : World} {K : PySem.W.Frag} {mg : Str → Option Value} {base : Heap} (C : Ct FX P w K mg base) : FG (FX.tb K w) P w K mg base 1 (He.fAd K ("is_there", none)) 1 f_is_there := by
  obtain ⟨fd, F⟩ := C.def_ 12
  exact fg_of (T := FX.tb K w) (N := ["state"]) (ps := ["state"]) (k := 0) (m := b_f_is_there) F sc_f_is_there rfl rfl C.ok rfl rfl (fun cdv A outer s H E hr B px => (z1 (sR (xCmp B.toBs (xSl B.toBs (xIx B.toBs (xV 0) xI) oN (oS xI)) (xTup (aC xI (aC xI aN))))))) (fun _ _ _ _ _ _ us hl => match us, hl with | [_], _ => rfl)
theorem sc_m_Log_o_init_o : FnScope ["self", "ring", "state", "reader"] ["self", "ring", "state"] (defScope (mth 19 0)) := ⟨rfl, rfl, rfl, by decide +kernel, rfl, by decide +kernel, by decide +kernel⟩
theorem ok_m_Log_o_init_o {P : Program} {w : World} {K : PySem.W.Frag} {mg : Str → Option Value} {base : Heap} (C : Ct FX P w K mg base) : FG (FX.tb K w) P w K mg base 1 (He.fAd K ("Log", some "__init__")) 3 m_Log_o_init_o := by
  obtain ⟨fd, F⟩ := C.def_ 13
  exact fg_of (T := FX.tb K w) (N := ["self", "ring", "state", "reader"]) (ps := ["self", "ring", "state"]) (k := 0) (m := b_m_Log_o_init_o) F sc_m_Log_o_init_o rfl rfl C.ok rfl rfl (fun cdv A outer s H E hr B px => (zC (sA (xV 1) (gAt B.toBs 6 (xV 0))) (zC (sA (xV 2) (gTp B (gCs (gAt B.toBs 9 (xV 0)) (gCs (gAt B.toBs 10 (xV 0)) (gCs (gNm B.toBs 3) gNs))))) (zC (sA (xV 3) (gTp B (gCs (gAt B.toBs 13 (xV 0)) (gCs (gAt B.toBs 11 (xV 0)) (gCs (gAt B.toBs 12 (xV 0)) gNs))))) (zC (sA xN (gAt B.toBs 7 (xV 0))) (z1 (sA x_dict0 (gAt B.toBs 8 (xV 0))))))))) (fun _ _ _ _ _ _ us hl => match us, hl with | [_, _, _], _ => rfl)
theorem sc_m_Log_begin : FnScope ["self", "length", "cell"] ["self", "length"] (defScope (mth 19 3)) := ⟨rfl, rfl, rfl, by decide +kernel, rfl, by decide +kernel, by decide +kernel⟩
theorem ok_m_Log_begin {P : Program} {w : World} {K : PySem.W.Frag} {mg : Str → Option Value} {base : Heap} (C : Ct FX P w K mg base) : FG (FX.tb K w) P w K mg base 1 (He.fAd K ("Log", some "begin")) 2 m_Log_begin := by
  obtain ⟨fd, F⟩ := C.def_ 14
  exact fg_of (T := FX.tb K w) (N := ["self", "length", "cell"]) (ps := ["self", "length"]) (k := 0) (m := b_m_Log_begin) F sc_m_Log_begin rfl rfl C.ok rfl rfl (fun cdv A outer s H E hr B px => (zC (sA (xFnT (cr_tup B.K) (C.free 4) boot_tuple (aC (xLc B (own := [("cell", 2)]) (iA B.toBs (xF B.toBs 9 (xV 0))) rfl (fun _ _ _ _ _ => ⟨(tgN B.blk.toBs 2), yN, (xIf (tCmp B.blk.toBs (xV 2) xN) (xV 2) (xTup (aC (xOp B.blk.toBs (xIx B.blk.toBs (xV 2) xI) xI) (aC (xIx B.blk.toBs (xV 2) xI) (aC (xIx B.blk.toBs (xV 2) xI) aN)))))⟩)) aN)) (gAt B.toBs 9 (xV 0))) (zC (sA (xTup (aC (xV 1) (aC xI aN))) (gAt B.toBs 10 (xV 0))) (zC (sA (xFnB (cr_min2 B.calm) (C.free 6) boot_min (aC (xOp B.toBs (xF B.toBs 11 (xV 0)) xI) (aC (xOp B.toBs (xF B.toBs 0 (xF B.toBs 6 (xV 0))) xI) aN))) (gAt B.toBs 11 (xV 0))) (z1 (sA (xOp B.toBs (xOp B.toBs (xOp B.toBs (xF B.toBs 12 (xV 0)) (xF B.toBs 2 (xF B.toBs 6 (xV 0)))) xI) (xF B.toBs 2 (xF B.toBs 6 (xV 0)))) (gAt B.toBs 12 (xV 0)))))))) (fun _ _ _ _ _ _ us hl => match us, hl with | [_, _], _ => rfl)
theorem sc_m_Log_put : FnScope ["self", "length", "many", "index"] ["self"] (defScope (mth 19 4)) := ⟨rfl, rfl, rfl, by decide +kernel, rfl, by decide +kernel, by decide +kernel⟩
theorem ok_m_Log_put {P : Program} {w : World} {K : PySem.W.Frag} {mg : Str → Option Value} {base : Heap} (C : Ct FX P w K mg base) : FG (FX.tb K w) P w K mg base 1 (He.fAd K ("Log", some "put")) 1 m_Log_put := by
  obtain ⟨fd, F⟩ := C.def_ 15
  exact fg_of (T := FX.tb K w) (N := ["self", "length", "many", "index"]) (ps := ["self"]) (k := 0) (m := b_m_Log_put) F sc_m_Log_put rfl rfl C.ok rfl rfl (fun cdv A outer s H E hr B px => (zC (sA (xF B.toBs 10 (xV 0)) (gTp B (gCs (gNm B.toBs 1) (gCs (gNm B.toBs 2) gNs)))) (zC (sA (xIf (tCmp B.toBs (xF B.toBs 3 (xF B.toBs 6 (xV 0))) xS) (xV 2) (xOp B.toBs (xOp B.toBs (xV 2) xI) (xV 1))) (gNm B.toBs 3)) (zC (sA (xTup (aS B.toBs (xSl B.toBs (xF B.toBs 9 (xV 0)) oN (oS (xV 3))) (aC (xTup (aC xI (aC (xV 3) (aC (xV 1) aN)))) (aS B.toBs (xSl B.toBs (xF B.toBs 9 (xV 0)) (oS (xOp B.toBs (xV 3) xI)) oN) aN)))) (gAt B.toBs 9 (xV 0))) (zC (sA (xTup (aC (xV 1) (aC (xOp B.toBs (xV 2) xI) aN))) (gAt B.toBs 10 (xV 0))) (z1 (sI (tCmp B.toBs (xOp B.toBs (xV 2) xI) (xV 1)) (zC (sA xN (gAt B.toBs 10 (xV 0))) (zC (sA (xTup (aS B.toBs (xSl B.toBs (xF B.toBs 9 (xV 0)) (oS (xV 1)) oN) (aS B.toBs (xSl B.toBs (xF B.toBs 9 (xV 0)) oN (oS (xV 1))) aN))) (gAt B.toBs 9 (xV 0))) (z1 (sA (xOp B.toBs (xOp B.toBs (xOp B.toBs (xF B.toBs 13 (xV 0)) (xF B.toBs 0 (xF B.toBs 6 (xV 0)))) (xV 1)) (xF B.toBs 0 (xF B.toBs 6 (xV 0)))) (gAt B.toBs 13 (xV 0)))))) zN))))))) (fun _ _ _ _ _ _ us hl => match us, hl with | [_], _ => rfl)
theorem sc_m_Log_catch_up : FnScope ["self"] ["self"] (defScope (mth 19 5)) := ⟨rfl, rfl, rfl, by decide +kernel, rfl, by decide +kernel, by decide +kernel⟩
theorem ok_m_Log_catch_up {P : Program} {w : World} {K : PySem.W.Frag} {mg : Str → Option Value} {base : Heap} (C : Ct FX P w K mg base) : FG (FX.tb K w) P w K mg base 1 (He.fAd K ("Log", some "catch_up")) 1 m_Log_catch_up := by
  obtain ⟨fd, F⟩ := C.def_ 16
  exact fg_of (T := FX.tb K w) (N := ["self"]) (ps := ["self"]) (k := 0) (m := b_m_Log_catch_up) F sc_m_Log_catch_up rfl rfl C.ok rfl rfl (fun cdv A outer s H E hr B px => (zC (sA xI (gAt B.toBs 13 (xV 0))) (zC (sA (xIf (tCmp B.toBs (xF B.toBs 10 (xV 0)) xN) xI xI) (gAt B.toBs 11 (xV 0))) (z1 (sA (xIf (tCmp B.toBs (xF B.toBs 10 (xV 0)) xN) (xOp B.toBs xI (xF B.toBs 2 (xF B.toBs 6 (xV 0)))) xI) (gAt B.toBs 12 (xV 0))))))) (fun _ _ _ _ _ _ us hl => match us, hl with | [_], _ => rfl)
theorem sc_m_Log_looked_at : FnScope ["self", "length", "round_cells"] ["self", "length"] (defScope (mth 19 6)) := ⟨rfl, rfl, rfl, by decide +kernel, rfl, by decide +kernel, by decide +kernel⟩
theorem ok_m_Log_looked_at {P : Program} {w : World} {K : PySem.W.Frag} {mg : Str → Option Value} {base : Heap} (C : Ct FX P w K mg base) : FG (FX.tb K w) P w K mg base 1 (He.fAd K ("Log", some "looked_at")) 2 m_Log_looked_at := by
  obtain ⟨fd, F⟩ := C.def_ 17
  exact fg_of (T := FX.tb K w) (N := ["self", "length", "round_cells"]) (ps := ["self", "length"]) (k := 0) (m := b_m_Log_looked_at) F sc_m_Log_looked_at rfl rfl C.ok rfl rfl (fun cdv A outer s H E hr B px => (zC (sA (xTup (aS B.toBs (xF B.toBs 9 (xV 0)) (aS B.toBs (xF B.toBs 9 (xV 0)) aN))) (gNm B.toBs 2)) (z1 (sR (xSl B.toBs (xV 2) (oS (xF B.toBs 13 (xV 0))) (oS (xOp B.toBs (xF B.toBs 13 (xV 0)) (xV 1)))))))) (fun _ _ _ _ _ _ us hl => match us, hl with | [_, _], _ => rfl)
theorem sc_m_Log_mark_of : FnScope ["self", "age"] ["self", "age"] (defScope (mth 19 2)) := ⟨rfl, rfl, rfl, by decide +kernel, rfl, by decide +kernel, by decide +kernel⟩
theorem ok_m_Log_mark_of {P : Program} {w : World} {K : PySem.W.Frag} {mg : Str → Option Value} {base : Heap} (C : Ct FX P w K mg base) : FG (FX.tb K w) P w K mg base 1 (He.fAd K ("Log", some "mark_of")) 2 m_Log_mark_of := by
  obtain ⟨fd, F⟩ := C.def_ 18
  exact fg_of (T := FX.tb K w) (N := ["self", "age"]) (ps := ["self", "age"]) (k := 0) (m := b_m_Log_mark_of) F sc_m_Log_mark_of rfl rfl C.ok rfl rfl (fun cdv A outer s H E hr B px => (z1 (sR (xOp B.toBs (xOp B.toBs (xF B.toBs 2 (xF B.toBs 6 (xV 0))) (xOp B.toBs (xV 1) (xF B.toBs 2 (xF B.toBs 6 (xV 0))))) (xF B.toBs 2 (xF B.toBs 6 (xV 0))))))) (fun _ _ _ _ _ _ us hl => match us, hl with | [_, _], _ => rfl)
theorem sc_m_Log_does_fail : FnScope ["self", "some", "late", "mark", "cell"] ["self", "some"] (defScope (mth 19 7)) := ⟨rfl, rfl, rfl, by decide +kernel, rfl, by decide +kernel, by decide +kernel⟩
theorem ok_m_Log_does_fail {P : Program} {w : World} {K : PySem.W.Frag} {mg : Str → Option Value} {base : Heap} (C : Ct FX P w K mg base) : FG (FX.tb K w) P w K mg base 2 (He.fAd K ("Log", some "does_fail")) 2 m_Log_does_fail := by
  obtain ⟨fd, F⟩ := C.def_ 19
  exact fg_of (T := FX.tb K w) (N := ["self", "some", "late", "mark", "cell"]) (ps := ["self", "some"]) (k := 1) (m := b_m_Log_does_fail) F sc_m_Log_does_fail rfl rfl C.ok rfl rfl (fun cdv A outer s H E hr B px => (zC (sI (tCmp B.toBs (xF B.toBs 4 (xF B.toBs 6 (xV 0))) xS) (z1 (sR xB)) zN) (zC (sA (xIf (tCmp B.toBs (xF B.toBs 4 (xF B.toBs 6 (xV 0))) xS) (xSl B.toBs (xV 1) (oS (xNeg xI)) oN) (xV 1)) (gNm B.toBs 2)) (zC (sA (xMeth px B.toBs (show ("mark_of" : Str) ∉ FX.fn by decide +kernel) (mt_cons (y := "Log") rfl (C.meth 31) (ok_m_Log_mark_of C) hr (by decide) mt_nil) (xV 0) (aC (xIx B.toBs (xIx B.toBs (xV 1) xI) xI) aN)) (gNm B.toBs 3)) (z1 (sR (xFnB (cr_anyL B.K B.calm) (C.free 32) boot_any (aC (xLc B (own := [("cell", 4)]) (iA B.toBs (xV 2)) rfl (fun _ _ _ _ _ => ⟨(tgN B.blk.toBs 4), yN, (xOr (xCmp B.blk.toBs (xV 4) xN) (xOne (xCmp B.blk.toBs (xMeth Px.blk B.blk.toBs (show ("mark_of" : Str) ∉ FX.fn by decide +kernel) (mt_cons (y := "Log") rfl (C.meth 31) (ok_m_Log_mark_of C) hr (by decide) mt_nil) (xV 0) (aC (xIx B.blk.toBs (xV 4) xI) aN)) (xV 3))))⟩)) aN)))))))) (fun _ _ _ _ _ _ us hl => match us, hl with | [_, _], _ => rfl)
theorem sc_m_Log_take : FnScope ["self", "head", "some", "index"] ["self", "head", "some"] (defScope (mth 19 9)) := ⟨rfl, rfl, rfl, by decide +kernel, rfl, by decide +kernel, by decide +kernel⟩
theorem ok_m_Log_take {P : Program} {w : World} {K : PySem.W.Frag} {mg : Str → Option Value} {base : Heap} (C : Ct FX P w K mg base) : FG (FX.tb K w) P w K mg base 2 (He.fAd K ("Log", some "take")) 3 m_Log_take := by
  obtain ⟨fd, F⟩ := C.def_ 20
  exact fg_of (T := FX.tb K w) (N := ["self", "head", "some", "index"]) (ps := ["self", "head", "some"]) (k := 1) (m := b_m_Log_take) F sc_m_Log_take rfl rfl C.ok rfl rfl (fun cdv A outer s H E hr B px => (zC (sA xS (gAt B.toBs 7 (xV 0))) (zC (sI (tCmp B.toBs (xV 2) (xFnT (cr_tup B.K) (C.free 4) boot_tuple (aC (xLc B (own := [("index", 3)]) (iR1 (C.free 18) (aC (xIx B.toBs (xV 1) xI) aN)) rfl (fun _ _ _ _ _ => ⟨(tgN B.blk.toBs 3), yN, (xTup (aC (xIx B.blk.toBs (xV 1) xI) (aC (xV 3) (aC (xIx B.blk.toBs (xV 1) xI) aN))))⟩)) aN))) (z1 (sA xB (gSb B.toBs (xF B.toBs 8 (xV 0)) xS))) zN) (zC (sI (tCmp B.toBs (xOp B.toBs (xIx B.toBs (xV 1) xI) xI) (xF B.toBs 11 (xV 0))) (z1 (sA xB (gSb B.toBs (xF B.toBs 8 (xV 0)) xS))) zN) (zC (sA (xOp B.toBs (xOp B.toBs (xF B.toBs 13 (xV 0)) (xIx B.toBs (xV 1) xI)) (xF B.toBs 0 (xF B.toBs 6 (xV 0)))) (gAt B.toBs 13 (xV 0))) (zC (sA (xIx B.toBs (xV 1) xI) (gAt B.toBs 11 (xV 0))) (z1 (sA (xOp B.toBs (xOp B.toBs (xMeth px B.toBs (show ("mark_of" : Str) ∉ FX.fn by decide +kernel) (mt_cons (y := "Log") rfl (C.meth 31) (ok_m_Log_mark_of C) hr (by decide) mt_nil) (xV 0) (aC (xIx B.toBs (xV 1) xI) aN)) xI) (xF B.toBs 2 (xF B.toBs 6 (xV 0)))) (gAt B.toBs 12 (xV 0)))))))))) (fun _ _ _ _ _ _ us hl => match us, hl with | [_, _, _], _ => rfl)
theorem sc_m_Log_read : FnScope ["self", "head", "some"] ["self"] (defScope (mth 19 8)) := ⟨rfl, rfl, rfl, by decide +kernel, rfl, by decide +kernel, by decide +kernel⟩
theorem ok_m_Log_read {P : Program} {w : World} {K : PySem.W.Frag} {mg : Str → Option Value} {base : Heap} (C : Ct FX P w K mg base) : FG (FX.tb K w) P w K mg base 3 (He.fAd K ("Log", some "read")) 1 m_Log_read := by
  obtain ⟨fd, F⟩ := C.def_ 21
  exact fg_of (T := FX.tb K w) (N := ["self", "head", "some"]) (ps := ["self"]) (k := 2) (m := b_m_Log_read) F sc_m_Log_read rfl rfl C.ok rfl rfl (fun cdv A outer s H E hr B px => (zC (sA (xIx B.toBs (xF B.toBs 9 (xV 0)) (xF B.toBs 13 (xV 0))) (gNm B.toBs 1)) (zC (sI (tCmp B.toBs (xV 1) xN) (zC (sA xS (gAt B.toBs 7 (xV 0))) (z1 sR0)) zN) (zC (sI (tCmp B.toBs (xIx B.toBs (xV 1) xI) xI) (zC (sA xS (gAt B.toBs 7 (xV 0))) (zC (sEx (xMeth0 px B.toBs (show ("catch_up" : Str) ∉ FX.fn by decide +kernel) (mt_cons (y := "Log") rfl (C.meth 29) (ok_m_Log_catch_up C) hr (by decide) mt_nil) (xV 0))) (z1 sR0))) zN) (zC (sA (xMeth px B.toBs (show ("looked_at" : Str) ∉ FX.fn by decide +kernel) (mt_cons (y := "Log") rfl (C.meth 30) (ok_m_Log_looked_at C) hr (by decide) mt_nil) (xV 0) (aC (xIx B.toBs (xV 1) xI) aN)) (gNm B.toBs 2)) (z1 (sI (tV (xMeth px B.toBs (show ("does_fail" : Str) ∉ FX.fn by decide +kernel) (mt_cons (y := "Log") rfl (C.meth 33) (ok_m_Log_does_fail C) hr (by decide) mt_nil) (xV 0) (aC (xV 2) aN))) (z1 (sA xS (gAt B.toBs 7 (xV 0)))) (z1 (sI (tW (wAnd (tCmp B.toBs (xF B.toBs 5 (xF B.toBs 6 (xV 0))) xS) (wAnd1 (tCmp B.toBs (xMeth px B.toBs (show ("mark_of" : Str) ∉ FX.fn by decide +kernel) (mt_cons (y := "Log") rfl (C.meth 31) (ok_m_Log_mark_of C) hr (by decide) mt_nil) (xV 0) (aC (xIx B.toBs (xV 1) xI) aN)) (xF B.toBs 12 (xV 0)))))) (zC (sA xS (gAt B.toBs 7 (xV 0))) (z1 (sEx (xMeth0 px B.toBs (show ("catch_up" : Str) ∉ FX.fn by decide +kernel) (mt_cons (y := "Log") rfl (C.meth 29) (ok_m_Log_catch_up C) hr (by decide) mt_nil) (xV 0))))) (z1 (sEx (xMeth px B.toBs (show ("take" : Str) ∉ FX.fn by decide +kernel) (mt_cons (y := "Log") rfl (C.meth 34) (ok_m_Log_take C) hr (by decide) mt_nil) (xV 0) (aC (xV 1) (aC (xV 2) aN)))))))))))))) (fun _ _ _ _ _ _ us hl => match us, hl with | [_], _ => rfl)
theorem sc_m_Log_do : FnScope ["self", "deed"] ["self", "deed"] (defScope (mth 19 10)) := ⟨rfl, rfl, rfl, by decide +kernel, rfl, by decide +kernel, by decide +kernel⟩
theorem ok_m_Log_do {P : Program} {w : World} {K : PySem.W.Frag} {mg : Str → Option Value} {base : Heap} (C : Ct FX P w K mg base) : FG (FX.tb K w) P w K mg base 4 (He.fAd K ("Log", some "do")) 2 m_Log_do := by
  obtain ⟨fd, F⟩ := C.def_ 22
  exact fg_of (T := FX.tb K w) (N := ["self", "deed"]) (ps := ["self", "deed"]) (k := 3) (m := b_m_Log_do) F sc_m_Log_do rfl rfl C.ok rfl rfl (fun cdv A outer s H E hr B px => (z1 (sI (tCmp B.toBs (xIx B.toBs (xV 1) xI) xS) (z1 (sEx (xMeth px B.toBs (show ("begin" : Str) ∉ FX.fn by decide +kernel) (mt_cons (y := "Log") rfl (C.meth 27) (ok_m_Log_begin C) hr (by decide) mt_nil) (xV 0) (aC (xIx B.toBs (xV 1) xI) aN)))) (z1 (sI (tCmp B.toBs (xIx B.toBs (xV 1) xI) xS) (z1 (sEx (xMeth0 px B.toBs (show ("put" : Str) ∉ FX.fn by decide +kernel) (mt_cons (y := "Log") rfl (C.meth 28) (ok_m_Log_put C) hr (by decide) mt_nil) (xV 0)))) (z1 (sEx (xMeth0 px B.toBs (show ("read" : Str) ∉ FX.fn by decide +kernel) (mt_cons (y := "Log") rfl (C.meth 35) (ok_m_Log_read C) hr (by decide) mt_nil) (xV 0))))))))) (fun _ _ _ _ _ _ us hl => match us, hl with | [_, _], _ => rfl)
theorem sc_f_done : FnScope ["ring", "state", "deed", "log"] ["ring", "state", "deed"] (defScope (top 23)) := ⟨rfl, rfl, rfl, by decide +kernel, rfl, by decide +kernel, by decide +kernel⟩
theorem ok_f_done {P : Program} {w : World} {K : PySem.W.Frag} {mg : Str → Option Value} {base : Heap} (C : Ct FX P w K mg base) : FG (FX.tb K w) P w K mg base 5 (He.fAd K ("done", none)) 3 f_done := by
  obtain ⟨fd, F⟩ := C.def_ 23
  exact fg_of (T := FX.tb K w) (N := ["ring", "state", "deed", "log"]) (ps := ["ring", "state", "deed"]) (k := 4) (m := b_f_done) F sc_f_done rfl rfl C.ok rfl rfl (fun cdv A outer s H E hr B px => (zC (sA (xMake px (cc := 1) ⟨rfl, (C.glo 26), C.mkr 25, ok_m_Log_o_init_o C⟩ hr (aC (xV 0) (aC (xV 1) aN))) (gNm B.toBs 3)) (zC (sEx (xMeth px B.toBs (show ("do" : Str) ∉ FX.fn by decide +kernel) (mt_cons (y := "Log") rfl (C.meth 36) (ok_m_Log_do C) hr (by decide) mt_nil) (xV 3) (aC (xV 2) aN))) (z1 (sR (xV 3)))))) (fun _ _ _ _ _ _ us hl => match us, hl with | [_, _, _], _ => rfl)
theorem sc_m_Log_state_now : FnScope ["self"] ["self"] (defScope (mth 19 1)) := ⟨rfl, rfl, rfl, by decide +kernel, rfl, by decide +kernel, by decide +kernel⟩
theorem ok_m_Log_state_now {P : Program} {w : World} {K : PySem.W.Frag} {mg : Str → Option Value} {base : Heap} (C : Ct FX P w K mg base) : FG (FX.tb K w) P w K mg base 1 (He.fAd K ("Log", some "state_now")) 1 m_Log_state_now := by
  obtain ⟨fd, F⟩ := C.def_ 24
  exact fg_of (T := FX.tb K w) (N := ["self"]) (ps := ["self"]) (k := 0) (m := b_m_Log_state_now) F sc_m_Log_state_now rfl rfl C.ok rfl rfl (fun cdv A outer s H E hr B px => (z1 (sR (xTup (aC (xF B.toBs 9 (xV 0)) (aC (xF B.toBs 10 (xV 0)) (aC (xTup (aC (xF B.toBs 13 (xV 0)) (aC (xF B.toBs 11 (xV 0)) (aC (xF B.toBs 12 (xV 0)) aN)))) aN))))))) (fun _ _ _ _ _ _ us hl => match us, hl with | [_], _ => rfl)
theorem obk_delay : objsB 4 ob_delay = true := by decide +kernel
theorem be_delay_0 : bt_delay_0.every (goodE me_delay (mkC 4 ob_delay)) = true := by decide +kernel
theorem be_delay_1 : bt_delay_1.every (goodE me_delay (mkC 4 ob_delay)) = true := by decide +kernel
theorem be_delay_2 : bt_delay_2.every (goodE me_delay (mkC 4 ob_delay)) = true := by decide +kernel
theorem be_delay_3 : bt_delay_3.every (goodE me_delay (mkC 4 ob_delay)) = true := by decide +kernel
theorem be_delay_4 : bt_delay_4.every (goodE me_delay (mkC 4 ob_delay)) = true := by decide +kernel
theorem be_delay_5 : bt_delay_5.every (goodE me_delay (mkC 4 ob_delay)) = true := by decide +kernel
theorem be_delay_6 : bt_delay_6.every (goodE me_delay (mkC 4 ob_delay)) = true := by decide +kernel
theorem be_delay_7 : bt_delay_7.every (goodE me_delay (mkC 4 ob_delay)) = true := by decide +kernel
theorem be_delay_8 : bt_delay_8.every (goodE me_delay (mkC 4 ob_delay)) = true := by decide +kernel
theorem be_delay_9 : bt_delay_9.every (goodE me_delay (mkC 4 ob_delay)) = true := by decide +kernel
theorem be_delay_10 : bt_delay_10.every (goodE me_delay (mkC 4 ob_delay)) = true := by decide +kernel
theorem tok_delay : ∀ s d, tab_delay s = some d → goodE me_delay (mkC 4 ob_delay) (s, d) = true := fun s d h => tabF_ok (every_cons be_delay_0 (every_cons be_delay_1 (every_cons be_delay_2 (every_cons be_delay_3 (every_cons be_delay_4 (every_cons be_delay_5 (every_cons be_delay_6 (every_cons be_delay_7 (every_cons be_delay_8 (every_cons be_delay_9 (every_cons be_delay_10 every_nil))))))))))) h
theorem sc_f_delay_of : FnScope ["ring", "state", "many"] ["ring", "state"] (defScope (top 31)) := ⟨rfl, rfl, rfl, by decide +kernel, rfl, by decide +kernel, by decide +kernel⟩
theorem ok_f_delay_of {P : Program} {w : World} {K : PySem.W.Frag} {mg : Str → Option Value} {base : Heap} (C : Ct FX P w K mg base) : FG (FX.tb K w) P w K mg base 6 (He.fAd K ("delay_of", none)) 2 f_delay_of := by
  obtain ⟨fd, F⟩ := C.def_ 25
  exact fg_of (T := FX.tb K w) (N := ["ring", "state", "many"]) (ps := ["ring", "state"]) (k := 5) (m := b_f_delay_of) F sc_f_delay_of rfl rfl C.ok rfl rfl (fun cdv A outer s H E hr B px => (zC (sI (tCmp B.toBs (xIx B.toBs (xV 1) xI) xN) (z1 (sR xN)) zN) (zC (sA xI (gNm B.toBs 2)) (zC (sW 100000 px (tNot' (tV (xCall px (ok_f_is_there C) hr (C.glo 24) (aC (xV 1) aN)))) (zC (sA (xTbl (me := me_delay) obk_delay tok_delay (xMeth0 px B.toBs (show ("state_now" : Str) ∉ FX.fn by decide +kernel) (mt_cons (y := "Log") rfl (C.meth 38) (ok_m_Log_state_now C) hr (by decide) mt_nil) (xCall px (ok_f_done C) hr (C.glo 37) (aC (xV 0) (aC (xV 1) (aC (xG (C.con 4)) aN)))))) (gNm B.toBs 1)) (z1 (sAu B 2 xI)))) (z1 (sR (xV 2))))))) (fun _ _ _ _ _ _ us hl => match us, hl with | [_, _], _ => rfl)
theorem sc_f_check_ring : FnScope ["ring"] ["ring"] (defScope (top 16)) := ⟨rfl, rfl, rfl, by decide +kernel, rfl, by decide +kernel, by decide +kernel⟩
theorem ok_f_check_ring {P : Program} {w : World} {K : PySem.W.Frag} {mg : Str → Option Value} {base : Heap} (C : Ct FX P w K mg base) : FG (FX.tb K w) P w K mg base 2 (He.fAd K ("check_ring", none)) 1 f_check_ring := by
  obtain ⟨fd, F⟩ := C.def_ 26
  exact fg_of (T := FX.tb K w) (N := ["ring"]) (ps := ["ring"]) (k := 1) (m := b_f_check_ring) F sc_f_check_ring rfl rfl C.ok rfl rfl (fun cdv A outer s H E hr B px => (z1 (sI (tNot' (tV (xIs B.toBs (C.free 1) (xV 0) (cvO (C.glo 13) 0)))) (z1 (sRz B px (c := 1) ⟨rfl, (C.xdf 0 xdok_BadRing).1⟩ hr (aC xN aN))) zN))) (fun _ _ _ _ _ _ us hl => match us, hl with | [_], _ => rfl)
theorem sc_f_start_of : FnScope ["ring"] ["ring"] (defScope (top 20)) := ⟨rfl, rfl, rfl, by decide +kernel, rfl, by decide +kernel, by decide +kernel⟩
theorem ok_f_start_of {P : Program} {w : World} {K : PySem.W.Frag} {mg : Str → Option Value} {base : Heap} (C : Ct FX P w K mg base) : FG (FX.tb K w) P w K mg base 1 (He.fAd K ("start_of", none)) 1 f_start_of := by
  obtain ⟨fd, F⟩ := C.def_ 27
  exact fg_of (T := FX.tb K w) (N := ["ring"]) (ps := ["ring"]) (k := 0) (m := b_f_start_of) F sc_f_start_of rfl rfl C.ok rfl rfl (fun cdv A outer s H E hr B px => (z1 (sR (xTup (aC (xOp B.toBs (xTup (aC xN aN)) (xF B.toBs 0 (xV 0))) (aC xN (aC (xTup (aC xI (aC xI (aC (xOp B.toBs xI (xF B.toBs 2 (xV 0))) aN)))) aN))))))) (fun _ _ _ _ _ _ us hl => match us, hl with | [_], _ => rfl)
theorem sc_f_deeds_of : FnScope ["ring", "state", "found_deeds", "length"] ["ring", "state"] (defScope (top 21)) := ⟨rfl, rfl, rfl, by decide +kernel, rfl, by decide +kernel, by decide +kernel⟩
theorem ok_f_deeds_of {P : Program} {w : World} {K : PySem.W.Frag} {mg : Str → Option Value} {base : Heap} (C : Ct FX P w K mg base) : FG (FX.tb K w) P w K mg base 1 (He.fAd K ("deeds_of", none)) 2 f_deeds_of := by
  obtain ⟨fd, F⟩ := C.def_ 28
  exact fg_of (T := FX.tb K w) (N := ["ring", "state", "found_deeds", "length"]) (ps := ["ring", "state"]) (k := 0) (m := b_f_deeds_of) F sc_f_deeds_of rfl rfl C.ok rfl rfl (fun cdv A outer s H E hr B px => (zC (sA (xIf (tCmp B.toBs (xIx B.toBs (xV 1) xI) xN) (xLc B (own := [("length", 3)]) (iA B.toBs (xF B.toBs 1 (xV 0))) rfl (fun _ _ _ _ _ => ⟨(tgN B.blk.toBs 3), yN, (xTup (aC xS (aC (xV 3) aN)))⟩)) (xLst (aC (xTup (aC xS aN)) aN))) (gNm B.toBs 2)) (z1 (sR (xLst (aS B.toBs (xV 2) (aC (xTup (aC xS aN)) aN))))))) (fun _ _ _ _ _ _ us hl => match us, hl with | [_, _], _ => rfl)
theorem sc_f_is_deed : FnScope ["ring", "state", "thing"] ["ring", "state", "thing"] (defScope (top 24)) := ⟨rfl, rfl, rfl, by decide +kernel, rfl, by decide +kernel, by decide +kernel⟩
theorem ok_f_is_deed {P : Program} {w : World} {K : PySem.W.Frag} {mg : Str → Option Value} {base : Heap} (C : Ct FX P w K mg base) : FG (FX.tb K w) P w K mg base 2 (He.fAd K ("is_deed", none)) 3 f_is_deed := by
  obtain ⟨fd, F⟩ := C.def_ 29
  exact fg_of (T := FX.tb K w) (N := ["ring", "state", "thing"]) (ps := ["ring", "state", "thing"]) (k := 1) (m := b_f_is_deed) F sc_f_is_deed rfl rfl C.ok rfl rfl (fun cdv A outer s H E hr B px => (zC (sI (tW (wOr (tNot' (tV (xIs B.toBs (C.free 1) (xV 2) (cvB boot_tuple (C.free 4))))) (wOr (tNot' (tChn B.toBs xI (xFnB (cr_len B.K B.w) (C.free 5) boot_len (aC (xV 2) aN)) xI)) (wOr1 (tNot' (tV (xIs B.toBs (C.free 1) (xIx B.toBs (xV 2) xI) (cvB boot_str (C.free 10))))))))) (z1 (sR xB)) zN) (zC (sI (tW (wAnd (tCmp B.toBs (xFnB (cr_len B.K B.w) (C.free 5) boot_len (aC (xV 2) aN)) xI) (wAnd1 (tNot' (tV (xCall px (ok_f_is_number C) hr (C.glo 3) (aC (xIx B.toBs (xV 2) xI) (aC xI (aC (xF B.toBs 0 (xV 0)) aN))))))))) (z1 (sR xB)) zN) (z1 (sR (xCmp B.toBs (xV 2) (xCall px (ok_f_deeds_of C) hr (C.glo 42) (aC (xV 0) (aC (xV 1) aN))))))))) (fun _ _ _ _ _ _ us hl => match us, hl with | [_, _, _], _ => rfl)
theorem sc_f_walked : FnScope ["ring", "history", "rows", "deed"] ["ring", "history"] (defScope (top 25)) := ⟨rfl, rfl, rfl, by decide +kernel, rfl, by decide +kernel, by decide +kernel⟩
theorem ok_f_walked {P : Program} {w : World} {K : PySem.W.Frag} {mg : Str → Option Value} {base : Heap} (C : Ct FX P w K mg base) : FG (FX.tb K w) P w K mg base 6 (He.fAd K ("walked", none)) 2 f_walked := by
  obtain ⟨fd, F⟩ := C.def_ 30
  exact fg_of (T := FX.tb K w) (N := ["ring", "history", "rows", "deed"]) (ps := ["ring", "history"]) (k := 5) (m := b_f_walked) F sc_f_walked rfl rfl C.ok rfl rfl (fun cdv A outer s H E hr B px => (zC (sA (xLst (aC (xCall px (ok_f_start_of C) hr (C.glo 41) (aC (xV 0) aN)) aN)) (gNm B.toBs 2)) (zC (sF B px (iA B.toBs (xV 1)) (tgN B.toBs 3) (zC (sI (tNot' (tV (xCall px (ok_f_is_deed C) hr (C.glo 43) (aC (xV 0) (aC (xIx B.toBs (xV 2) (xNeg xI)) (aC (xV 3) aN)))))) (z1 (sR (xV 2))) zN) (z1 (sEx (xBm_append B.toBs (xV 2) (aC (xMeth0 px B.toBs (show ("state_now" : Str) ∉ FX.fn by decide +kernel) (mt_cons (y := "Log") rfl (C.meth 38) (ok_m_Log_state_now C) hr (by decide) mt_nil) (xCall px (ok_f_done C) hr (C.glo 37) (aC (xV 0) (aC (xIx B.toBs (xV 2) (xNeg xI)) (aC (xV 3) aN))))) aN)))))) (z1 (sR (xV 2)))))) (fun _ _ _ _ _ _ us hl => match us, hl with | [_, _], _ => rfl)
theorem sc_f_check_history : FnScope ["ring", "history", "rows"] ["ring", "history"] (defScope (top 26)) := ⟨rfl, rfl, rfl, by decide +kernel, rfl, by decide +kernel, by decide +kernel⟩
theorem ok_f_check_history {P : Program} {w : World} {K : PySem.W.Frag} {mg : Str → Option Value} {base : Heap} (C : Ct FX P w K mg base) : FG (FX.tb K w) P w K mg base 7 (He.fAd K ("check_history", none)) 2 f_check_history := by
  obtain ⟨fd, F⟩ := C.def_ 31
  exact fg_of (T := FX.tb K w) (N := ["ring", "history", "rows"]) (ps := ["ring", "history"]) (k := 6) (m := b_f_check_history) F sc_f_check_history rfl rfl C.ok rfl rfl (fun cdv A outer s H E hr B px => (zC (sEx (xCall px (ok_f_check_ring C) hr (C.glo 39) (aC (xV 0) aN))) (zC (sI (tNot' (tV (xIs2 B.toBs (C.free 1) (xV 1) (cvB boot_list (C.free 40)) (cvB boot_tuple (C.free 4))))) (z1 (sRz B px (c := 2) ⟨rfl, (C.xdf 1 xdok_BadHistory).1⟩ hr (aC xN aN))) zN) (zC (sA (xCall px (ok_f_walked C) hr (C.glo 44) (aC (xV 0) (aC (xV 1) aN))) (gNm B.toBs 2)) (zC (sI (tCmp B.toBs (xFnB (cr_len B.K B.w) (C.free 5) boot_len (aC (xV 2) aN)) (xFnB (cr_len B.K B.w) (C.free 5) boot_len (aC (xV 1) aN))) (z1 (sRz B px (c := 2) ⟨rfl, (C.xdf 1 xdok_BadHistory).1⟩ hr (aC (xOp B.toBs (xFnB (cr_len B.K B.w) (C.free 5) boot_len (aC (xV 2) aN)) xI) aN))) zN) (z1 (sR (xV 2)))))))) (fun _ _ _ _ _ _ us hl => match us, hl with | [_, _], _ => rfl)
theorem sc_f_delay : FnScope ["ring", "history"] ["ring", "history"] (defScope (top 35)) := ⟨rfl, rfl, rfl, by decide +kernel, rfl, by decide +kernel, by decide +kernel⟩
theorem ok_f_delay {P : Program} {w : World} {K : PySem.W.Frag} {mg : Str → Option Value} {base : Heap} (C : Ct FX P w K mg base) : FG (FX.tb K w) P w K mg base 8 (He.fAd K ("delay", none)) 2 f_delay := by
  obtain ⟨fd, F⟩ := C.def_ 32
  exact fg_of (T := FX.tb K w) (N := ["ring", "history"]) (ps := ["ring", "history"]) (k := 7) (m := b_f_delay) F sc_f_delay rfl rfl C.ok rfl rfl (fun cdv A outer s H E hr B px => (z1 (sR (xCall px (ok_f_delay_of C) hr (C.glo 46) (aC (xV 0) (aC (xIx B.toBs (xCall px (ok_f_check_history C) hr (C.glo 45) (aC (xV 0) (aC (xV 1) aN))) (xNeg xI)) aN)))))) (fun _ _ _ _ _ _ us hl => match us, hl with | [_, _], _ => rfl)
theorem sc_lamF_0 : FnScope ["_law_a"] ["_law_a"] lam_0.sc := ⟨rfl, rfl, rfl, by decide +kernel, rfl, by decide +kernel, by decide +kernel⟩
theorem lg_0 {P : Program} {w : World} {K : PySem.W.Frag} {mg : Str → Option Value} {base : Heap} (C : Ct FX P w K mg base) : LG (FX.tb K w) P w K mg base 9 0 1 lamF_0 :=
  lg_of (T := FX.tb K w) (N := ["_law_a"]) (ps := ["_law_a"]) (k := 8) (i := 0) (m := b_lamF_0) (l := lam_0) rfl sc_lamF_0 rfl rfl C.ok rfl rfl (fun _ _ _ us hl => match us, hl with | [_], _ => rfl) (fun f cdv A outer s H E hr B px => (xCall px (ok_f_delay C) hr (C.glo 47) (aC (xIx B.toBs (xV 0) xI) (aC (xIx B.toBs (xV 0) xI) aN))))
theorem sc_f_kept_deeds : FnScope ["ring", "state", "lag", "some", "deed"] ["ring", "state", "lag"] (defScope (top 22)) := ⟨rfl, rfl, rfl, by decide +kernel, rfl, by decide +kernel, by decide +kernel⟩
theorem ok_f_kept_deeds {P : Program} {w : World} {K : PySem.W.Frag} {mg : Str → Option Value} {base : Heap} (C : Ct FX P w K mg base) : FG (FX.tb K w) P w K mg base 2 (He.fAd K ("kept_deeds", none)) 3 f_kept_deeds := by
  obtain ⟨fd, F⟩ := C.def_ 33
  exact fg_of (T := FX.tb K w) (N := ["ring", "state", "lag", "some", "deed"]) (ps := ["ring", "state", "lag"]) (k := 1) (m := b_f_kept_deeds) F sc_f_kept_deeds rfl rfl C.ok rfl rfl (fun cdv A outer s H E hr B px => (zC (sA (xCall px (ok_f_deeds_of C) hr (C.glo 42) (aC (xV 0) (aC (xV 1) aN))) (gNm B.toBs 3)) (zC (sI (tW (wOr (tCmp B.toBs (xV 2) xN) (wOr1 (tCmp B.toBs (xIx B.toBs (xIx B.toBs (xV 1) xI) xI) (xV 2))))) (z1 (sR (xV 3))) zN) (z1 (sR (xLc B (own := [("deed", 4)]) (iA B.toBs (xV 3)) rfl (fun _ _ _ _ _ => ⟨(tgN B.blk.toBs 4), (y1 (tCmp B.blk.toBs (xIx B.blk.toBs (xV 4) xI) xS)), (xV 4)⟩))))))) (fun _ _ _ _ _ _ us hl => match us, hl with | [_, _, _], _ => rfl)
theorem obk_reach : objsB 4 ob_reach = true := by decide +kernel
theorem be_reach_0 : bt_reach_0.every (goodE me_reach (mkC 4 ob_reach)) = true := by decide +kernel
theorem be_reach_1 : bt_reach_1.every (goodE me_reach (mkC 4 ob_reach)) = true := by decide +kernel
theorem be_reach_2 : bt_reach_2.every (goodE me_reach (mkC 4 ob_reach)) = true := by decide +kernel
theorem be_reach_3 : bt_reach_3.every (goodE me_reach (mkC 4 ob_reach)) = true := by decide +kernel
theorem be_reach_4 : bt_reach_4.every (goodE me_reach (mkC 4 ob_reach)) = true := by decide +kernel
theorem be_reach_5 : bt_reach_5.every (goodE me_reach (mkC 4 ob_reach)) = true := by decide +kernel
theorem be_reach_6 : bt_reach_6.every (goodE me_reach (mkC 4 ob_reach)) = true := by decide +kernel
theorem be_reach_7 : bt_reach_7.every (goodE me_reach (mkC 4 ob_reach)) = true := by decide +kernel
theorem be_reach_8 : bt_reach_8.every (goodE me_reach (mkC 4 ob_reach)) = true := by decide +kernel
theorem be_reach_9 : bt_reach_9.every (goodE me_reach (mkC 4 ob_reach)) = true := by decide +kernel
theorem be_reach_10 : bt_reach_10.every (goodE me_reach (mkC 4 ob_reach)) = true := by decide +kernel
theorem be_reach_11 : bt_reach_11.every (goodE me_reach (mkC 4 ob_reach)) = true := by decide +kernel
theorem be_reach_12 : bt_reach_12.every (goodE me_reach (mkC 4 ob_reach)) = true := by decide +kernel
theorem be_reach_13 : bt_reach_13.every (goodE me_reach (mkC 4 ob_reach)) = true := by decide +kernel
theorem be_reach_14 : bt_reach_14.every (goodE me_reach (mkC 4 ob_reach)) = true := by decide +kernel
theorem be_reach_15 : bt_reach_15.every (goodE me_reach (mkC 4 ob_reach)) = true := by decide +kernel
theorem be_reach_16 : bt_reach_16.every (goodE me_reach (mkC 4 ob_reach)) = true := by decide +kernel
theorem be_reach_17 : bt_reach_17.every (goodE me_reach (mkC 4 ob_reach)) = true := by decide +kernel
theorem be_reach_18 : bt_reach_18.every (goodE me_reach (mkC 4 ob_reach)) = true := by decide +kernel
theorem be_reach_19 : bt_reach_19.every (goodE me_reach (mkC 4 ob_reach)) = true := by decide +kernel
theorem be_reach_20 : bt_reach_20.every (goodE me_reach (mkC 4 ob_reach)) = true := by decide +kernel
theorem be_reach_21 : bt_reach_21.every (goodE me_reach (mkC 4 ob_reach)) = true := by decide +kernel
theorem be_reach_22 : bt_reach_22.every (goodE me_reach (mkC 4 ob_reach)) = true := by decide +kernel
theorem tok_reach : ∀ s d, tab_reach s = some d → goodE me_reach (mkC 4 ob_reach) (s, d) = true := fun s d h => tabF_ok (every_cons be_reach_0 (every_cons be_reach_1 (every_cons be_reach_2 (every_cons be_reach_3 (every_cons be_reach_4 (every_cons be_reach_5 (every_cons be_reach_6 (every_cons be_reach_7 (every_cons be_reach_8 (every_cons be_reach_9 (every_cons be_reach_10 (every_cons be_reach_11 (every_cons be_reach_12 (every_cons be_reach_13 (every_cons be_reach_14 (every_cons be_reach_15 (every_cons be_reach_16 (every_cons be_reach_17 (every_cons be_reach_18 (every_cons be_reach_19 (every_cons be_reach_20 (every_cons be_reach_21 (every_cons be_reach_22 every_nil))))))))))))))))))))))) h
theorem sc_f_reach : FnScope ["ring", "lag", "known", "line", "state", "deed", "late"] ["ring", "lag"] (defScope (top 27)) := ⟨rfl, rfl, rfl, by decide +kernel, rfl, by decide +kernel, by decide +kernel⟩
theorem ok_f_reach {P : Program} {w : World} {K : PySem.W.Frag} {mg : Str → Option Value} {base : Heap} (C : Ct FX P w K mg base) : FG (FX.tb K w) P w K mg base 6 (He.fAd K ("reach", none)) 2 f_reach := by
  obtain ⟨fd, F⟩ := C.def_ 34
  exact fg_of (T := FX.tb K w) (N := ["ring", "lag", "known", "line", "state", "deed", "late"]) (ps := ["ring", "lag"]) (k := 5) (m := b_f_reach) F sc_f_reach rfl rfl C.ok rfl rfl (fun cdv A outer s H E hr B px => (zC (sP B 2 3 (aC (x_dict B.K B.w B.u (ppm_cons (xCall px (ok_f_start_of C) hr (C.glo 41) (aC (xV 0) aN)) (xTup aN) ppm_nil)) (aC (xLst (aC (xCall px (ok_f_start_of C) hr (C.glo 41) (aC (xV 0) aN)) aN)) aN))) (zC (sW 100000 px (tCmp B.toBs (xV 3) (xLst aN)) (zC (sA (xBm_pop B.toBs (xV 3) (aC xI aN)) (gNm B.toBs 4)) (z1 (sF B px (iA B.toBs (xCall px (ok_f_kept_deeds C) hr (C.glo 48) (aC (xV 0) (aC (xV 4) (aC (xV 1) aN))))) (tgN B.toBs 5) (zC (sA (xTbl (me := me_reach) obk_reach tok_reach (xMeth0 px B.toBs (show ("state_now" : Str) ∉ FX.fn by decide +kernel) (mt_cons (y := "Log") rfl (C.meth 38) (ok_m_Log_state_now C) hr (by decide) mt_nil) (xCall px (ok_f_done C) hr (C.glo 37) (aC (xV 0) (aC (xV 4) (aC (xV 5) aN)))))) (gNm B.toBs 6)) (z1 (sI (tCmp B.toBs (xV 6) (xV 2)) (zC (sI (tCmp B.toBs (xFnB (cr_len B.K B.w) (C.free 5) boot_len (aC (xV 2) aN)) (xG (C.con 5))) (z1 (sRz0 B px (C.x0 3))) zN) (zC (sA (xTup (aS B.toBs (xIx B.toBs (xV 2) (xV 4)) (aC (xV 5) aN))) (gSb B.toBs (xV 2) (xV 6))) (z1 (sEx (xBm_append B.toBs (xV 3) (aC (xV 6) aN)))))) zN))))))) (z1 (sR (xV 2)))))) (fun _ _ _ _ _ _ us hl => match us, hl with | [_, _], _ => rfl)
theorem obk_slow : objsB 4 ob_slow = true := by decide +kernel
theorem be_slow_0 : bt_slow_0.every (goodE me_slow (mkC 4 ob_slow)) = true := by decide +kernel
theorem be_slow_1 : bt_slow_1.every (goodE me_slow (mkC 4 ob_slow)) = true := by decide +kernel
theorem be_slow_2 : bt_slow_2.every (goodE me_slow (mkC 4 ob_slow)) = true := by decide +kernel
theorem be_slow_3 : bt_slow_3.every (goodE me_slow (mkC 4 ob_slow)) = true := by decide +kernel
theorem be_slow_4 : bt_slow_4.every (goodE me_slow (mkC 4 ob_slow)) = true := by decide +kernel
theorem be_slow_5 : bt_slow_5.every (goodE me_slow (mkC 4 ob_slow)) = true := by decide +kernel
theorem be_slow_6 : bt_slow_6.every (goodE me_slow (mkC 4 ob_slow)) = true := by decide +kernel
theorem be_slow_7 : bt_slow_7.every (goodE me_slow (mkC 4 ob_slow)) = true := by decide +kernel
theorem be_slow_8 : bt_slow_8.every (goodE me_slow (mkC 4 ob_slow)) = true := by decide +kernel
theorem be_slow_9 : bt_slow_9.every (goodE me_slow (mkC 4 ob_slow)) = true := by decide +kernel
theorem be_slow_10 : bt_slow_10.every (goodE me_slow (mkC 4 ob_slow)) = true := by decide +kernel
theorem tok_slow : ∀ s d, tab_slow s = some d → goodE me_slow (mkC 4 ob_slow) (s, d) = true := fun s d h => tabF_ok (every_cons be_slow_0 (every_cons be_slow_1 (every_cons be_slow_2 (every_cons be_slow_3 (every_cons be_slow_4 (every_cons be_slow_5 (every_cons be_slow_6 (every_cons be_slow_7 (every_cons be_slow_8 (every_cons be_slow_9 (every_cons be_slow_10 every_nil))))))))))) h
theorem sc_m_Slowest_o_init_o : FnScope ["self", "number", "history", "levels"] ["self", "number", "history", "levels"] (defScope (mth 32 0)) := ⟨rfl, rfl, rfl, by decide +kernel, rfl, by decide +kernel, by decide +kernel⟩
theorem ok_m_Slowest_o_init_o {P : Program} {w : World} {K : PySem.W.Frag} {mg : Str → Option Value} {base : Heap} (C : Ct FX P w K mg base) : FG (FX.tb K w) P w K mg base 1 (He.fAd K ("Slowest", some "__init__")) 4 m_Slowest_o_init_o := by
  obtain ⟨fd, F⟩ := C.def_ 35
  exact fg_of (T := FX.tb K w) (N := ["self", "number", "history", "levels"]) (ps := ["self", "number", "history", "levels"]) (k := 0) (m := b_m_Slowest_o_init_o) F sc_m_Slowest_o_init_o rfl rfl C.ok rfl rfl (fun cdv A outer s H E hr B px => (zC (sA (xV 1) (gAt B.toBs 14 (xV 0))) (zC (sA (xFnT (cr_tup B.K) (C.free 4) boot_tuple (aC (xV 2) aN)) (gAt B.toBs 15 (xV 0))) (z1 (sA (xFnT (cr_dict B.K B.w B.u) (C.free 50) boot_dict (aC (xV 3) aN)) (gAt B.toBs 16 (xV 0))))))) (fun _ _ _ _ _ _ us hl => match us, hl with | [_, _, _, _], _ => rfl)
theorem sc_f_slowest : FnScope ["ring", "known", "number", "best", "levels", "state", "history", "late"] ["ring"] (defScope (top 33)) := ⟨rfl, rfl, rfl, by decide +kernel, rfl, by decide +kernel, by decide +kernel⟩
theorem ok_f_slowest {P : Program} {w : World} {K : PySem.W.Frag} {mg : Str → Option Value} {base : Heap} (C : Ct FX P w K mg base) : FG (FX.tb K w) P w K mg base 7 (He.fAd K ("slowest", none)) 1 f_slowest := by
  obtain ⟨fd, F⟩ := C.def_ 36
  exact fg_of (T := FX.tb K w) (N := ["ring", "known", "number", "best", "levels", "state", "history", "late"]) (ps := ["ring"]) (k := 6) (m := b_f_slowest) F sc_f_slowest rfl rfl C.ok rfl rfl (fun cdv A outer s H E hr B px => (zC (sEx (xCall px (ok_f_check_ring C) hr (C.glo 39) (aC (xV 0) aN))) (zC (sA (xTup (aC (xCall px (ok_f_reach C) hr (C.glo 49) (aC (xV 0) (aC xN aN))) (aC xI (aC (xTup aN) (aC x_dict0 aN))))) (gTp B (gCs (gNm B.toBs 1) (gCs (gNm B.toBs 2) (gCs (gNm B.toBs 3) (gCs (gNm B.toBs 4) gNs)))))) (zC (sF B px (pi_itemsM (xV 1)) (tgT B (tsC B.toBs 5 (tsC B.toBs 6 tsN))) (zC (sA (xTbl (me := me_slow) obk_slow tok_slow (xCall px (ok_f_delay_of C) hr (C.glo 46) (aC (xV 0) (aC (xV 5) aN)))) (gNm B.toBs 7)) (zC (sA (xIf (tCmp B.toBs (xV 7) xN) xI (xV 7)) (gSb B.toBs (xV 4) (xV 5))) (z1 (sI (tCmp B.toBs (xIx B.toBs (xV 4) (xV 5)) (xV 2)) (z1 (sP B 2 3 (aC (xV 7) (aC (xV 6) aN)))) zN))))) (z1 (sR (xMake px (cc := 2) ⟨rfl, (C.glo 52), C.mkr 51, ok_m_Slowest_o_init_o C⟩ hr (aC (xV 2) (aC (xV 3) (aC (xV 4) aN)))))))))) (fun _ _ _ _ _ _ us hl => match us, hl with | [_], _ => rfl)
theorem sc_lamF_1 : FnScope ["_law_b"] ["_law_b"] lam_1.sc := ⟨rfl, rfl, rfl, by decide +kernel, rfl, by decide +kernel, by decide +kernel⟩
theorem lg_1 {P : Program} {w : World} {K : PySem.W.Frag} {mg : Str → Option Value} {base : Heap} (C : Ct FX P w K mg base) : LG (FX.tb K w) P w K mg base 8 1 1 lamF_1 :=
  lg_of (T := FX.tb K w) (N := ["_law_b"]) (ps := ["_law_b"]) (k := 7) (i := 1) (m := b_lamF_1) (l := lam_1) rfl sc_lamF_1 rfl rfl C.ok rfl rfl (fun _ _ _ us hl => match us, hl with | [_], _ => rfl) (fun f cdv A outer s H E hr B px => (xCall px (ok_f_slowest C) hr (C.glo 53) (aC (xIx B.toBs (xV 0) xI) aN)))
theorem sc_f_greatest_delay : FnScope ["ring"] ["ring"] (defScope (top 34)) := ⟨rfl, rfl, rfl, by decide +kernel, rfl, by decide +kernel, by decide +kernel⟩
theorem ok_f_greatest_delay {P : Program} {w : World} {K : PySem.W.Frag} {mg : Str → Option Value} {base : Heap} (C : Ct FX P w K mg base) : FG (FX.tb K w) P w K mg base 8 (He.fAd K ("greatest_delay", none)) 1 f_greatest_delay := by
  obtain ⟨fd, F⟩ := C.def_ 37
  exact fg_of (T := FX.tb K w) (N := ["ring"]) (ps := ["ring"]) (k := 7) (m := b_f_greatest_delay) F sc_f_greatest_delay rfl rfl C.ok rfl rfl (fun cdv A outer s H E hr B px => (z1 (sR (xF B.toBs 14 (xCall px (ok_f_slowest C) hr (C.glo 53) (aC (xV 0) aN)))))) (fun _ _ _ _ _ _ us hl => match us, hl with | [_], _ => rfl)
theorem sc_lamF_2 : FnScope ["_law_a"] ["_law_a"] lam_2.sc := ⟨rfl, rfl, rfl, by decide +kernel, rfl, by decide +kernel, by decide +kernel⟩
theorem lg_2 {P : Program} {w : World} {K : PySem.W.Frag} {mg : Str → Option Value} {base : Heap} (C : Ct FX P w K mg base) : LG (FX.tb K w) P w K mg base 9 2 1 lamF_2 :=
  lg_of (T := FX.tb K w) (N := ["_law_a"]) (ps := ["_law_a"]) (k := 8) (i := 2) (m := b_lamF_2) (l := lam_2) rfl sc_lamF_2 rfl rfl C.ok rfl rfl (fun _ _ _ us hl => match us, hl with | [_], _ => rfl) (fun f cdv A outer s H E hr B px => (xCall px (ok_f_greatest_delay C) hr (C.glo 54) (aC (xIx B.toBs (xV 0) xI) aN)))
theorem sc_m_Slowest_does_hold : FnScope ["self", "ring", "state", "level", "some", "deed", "late"] ["self", "ring", "state"] (defScope (mth 32 4)) := ⟨rfl, rfl, rfl, by decide +kernel, rfl, by decide +kernel, by decide +kernel⟩
theorem ok_m_Slowest_does_hold {P : Program} {w : World} {K : PySem.W.Frag} {mg : Str → Option Value} {base : Heap} (C : Ct FX P w K mg base) : FG (FX.tb K w) P w K mg base 6 (He.fAd K ("Slowest", some "does_hold")) 3 m_Slowest_does_hold := by
  obtain ⟨fd, F⟩ := C.def_ 38
  exact fg_of (T := FX.tb K w) (N := ["self", "ring", "state", "level", "some", "deed", "late"]) (ps := ["self", "ring", "state"]) (k := 5) (m := b_m_Slowest_does_hold) F sc_m_Slowest_does_hold rfl rfl C.ok rfl rfl (fun cdv A outer s H E hr B px => (zC (sA (xIx B.toBs (xF B.toBs 16 (xV 0)) (xV 2)) (gNm B.toBs 3)) (zC (sI (tNot' (tChn B.toBs xI (xV 3) (xF B.toBs 14 (xV 0)))) (z1 (sR xB)) zN) (zC (sLc B 4 (own := [("deed", 5)]) (iA B.toBs (xCall px (ok_f_deeds_of C) hr (C.glo 42) (aC (xV 1) (aC (xV 2) aN)))) rfl (fun _ _ _ _ _ => ⟨(tgN B.blk.toBs 5), yN, (xMeth0 Px.blk B.blk.toBs (show ("state_now" : Str) ∉ FX.fn by decide +kernel) (mt_cons (y := "Log") rfl (C.meth 38) (ok_m_Log_state_now C) hr (by decide) mt_nil) (xCall Px.blk (ok_f_done C) hr (C.glo 37) (aC (xV 1) (aC (xV 2) (aC (xV 5) aN)))))⟩)) (zC (sI (tNot' (tV (xFnB (cr_allL B.K B.calm) (C.free 7) boot_all (aC (xLc B (own := [("late", 6)]) (iA B.toBs (xV 4)) rfl (fun _ _ _ _ _ => ⟨(tgN B.blk.toBs 6), yN, (xCmp B.blk.toBs (xV 6) (xF B.blk.toBs 16 (xV 0)))⟩)) aN)))) (z1 (sR xB)) zN) (zC (sI (tCmp B.toBs (xIx B.toBs (xV 2) xI) xN) (z1 (sR xB)) zN) (z1 (sR (xIf (tCmp B.toBs (xV 3) xI) (xCall px (ok_f_is_there C) hr (C.glo 24) (aC (xV 2) aN)) (xCmp B.toBs (xIx B.toBs (xF B.toBs 16 (xV 0)) (xIx B.toBs (xV 4) (xNeg xI))) (xV 3))))))))))) (fun _ _ _ _ _ _ us hl => match us, hl with | [_, _, _], _ => rfl)
theorem sc_m_Slowest_shows : FnScope ["self", "ring", "rows", "state"] ["self", "ring"] (defScope (mth 32 3)) := ⟨rfl, rfl, rfl, by decide +kernel, rfl, by decide +kernel, by decide +kernel⟩
theorem ok_m_Slowest_shows {P : Program} {w : World} {K : PySem.W.Frag} {mg : Str → Option Value} {base : Heap} (C : Ct FX P w K mg base) : FG (FX.tb K w) P w K mg base 7 (He.fAd K ("Slowest", some "shows")) 2 m_Slowest_shows := by
  obtain ⟨fd, F⟩ := C.def_ 39
  exact fg_of (T := FX.tb K w) (N := ["self", "ring", "rows", "state"]) (ps := ["self", "ring"]) (k := 6) (m := b_m_Slowest_shows) F sc_m_Slowest_shows rfl rfl C.ok rfl rfl (fun cdv A outer s H E hr B px => (zC (sEx (xCall px (ok_f_check_ring C) hr (C.glo 39) (aC (xV 1) aN))) (zC (sA (xCall px (ok_f_walked C) hr (C.glo 44) (aC (xV 1) (aC (xF B.toBs 15 (xV 0)) aN))) (gNm B.toBs 2)) (zC (sI (tW (wOr (tCmp B.toBs (xFnB (cr_len B.K B.w) (C.free 5) boot_len (aC (xV 2) aN)) (xFnB (cr_len B.K B.w) (C.free 5) boot_len (aC (xF B.toBs 15 (xV 0)) aN))) (wOr1 (tCmp B.toBs (xCall px (ok_f_delay_of C) hr (C.glo 46) (aC (xV 1) (aC (xIx B.toBs (xV 2) (xNeg xI)) aN))) (xF B.toBs 14 (xV 0)))))) (z1 (sR xB)) zN) (z1 (sR (xAnd (xCmp B.toBs (xCall px (ok_f_start_of C) hr (C.glo 41) (aC (xV 1) aN)) (xF B.toBs 16 (xV 0))) (xOne (xFnB (cr_allL B.K B.calm) (C.free 7) boot_all (aC (xLc B (own := [("state", 3)]) (iA B.toBs (xF B.toBs 16 (xV 0))) rfl (fun _ _ _ _ _ => ⟨(tgN B.blk.toBs 3), yN, (xMeth Px.blk B.blk.toBs (show ("does_hold" : Str) ∉ FX.fn by decide +kernel) (mt_cons (y := "Slowest") rfl (C.meth 55) (ok_m_Slowest_does_hold C) hr (by decide) mt_nil) (xV 0) (aC (xV 1) (aC (xV 3) aN)))⟩)) aN)))))))))) (fun _ _ _ _ _ _ us hl => match us, hl with | [_, _], _ => rfl)
theorem sc_lamF_3 : FnScope ["_law_b"] ["_law_b"] lam_3.sc := ⟨rfl, rfl, rfl, by decide +kernel, rfl, by decide +kernel, by decide +kernel⟩
theorem lg_3 {P : Program} {w : World} {K : PySem.W.Frag} {mg : Str → Option Value} {base : Heap} (C : Ct FX P w K mg base) : LG (FX.tb K w) P w K mg base 8 3 1 lamF_3 :=
  lg_of (T := FX.tb K w) (N := ["_law_b"]) (ps := ["_law_b"]) (k := 7) (i := 3) (m := b_lamF_3) (l := lam_3) rfl sc_lamF_3 rfl rfl C.ok rfl rfl (fun _ _ _ us hl => match us, hl with | [_], _ => rfl) (fun f cdv A outer s H E hr B px => (xMeth px B.toBs (show ("shows" : Str) ∉ FX.fn by decide +kernel) (mt_cons (y := "Slowest") rfl (C.meth 56) (ok_m_Slowest_shows C) hr (by decide) mt_nil) (xMake px (cc := 2) ⟨rfl, (C.glo 52), C.mkr 51, ok_m_Slowest_o_init_o C⟩ hr (aC xI (aC (xLst aN) (aC x_dict0 aN)))) (aC (xIx B.toBs (xV 0) xI) aN)))
theorem sc_f_olaw_word_of : FnScope ["_law_call", "_law_some", "error"] ["_law_call", "_law_some"] (defScope (top 45)) := ⟨rfl, rfl, rfl, by decide +kernel, rfl, by decide +kernel, by decide +kernel⟩
theorem ok_f_olaw_word_of {P : Program} {w : World} {K : PySem.W.Frag} {mg : Str → Option Value} {base : Heap} (C : Ct FX P w K mg base) : FG (FX.tb K w) P w K mg base 10 (He.fAd K ("_law_word_of", none)) 2 f_olaw_word_of := by
  obtain ⟨fd, F⟩ := C.def_ 40
  exact fg_of (T := FX.tb K w) (N := ["_law_call", "_law_some", "error"]) (ps := ["_law_call", "_law_some"]) (k := 9) (m := b_f_olaw_word_of) F sc_f_olaw_word_of rfl rfl C.ok rfl rfl (fun cdv A outer s H E hr B px => (zC (sTy B px rfl rfl C.xb (fun _ _ _ px1 => (z1 (sEx (xCallV px1 0 (lt_cons (lg_0 C) hr (lt_cons (lg_1 C) hr (lt_cons (lg_2 C) hr (lt_cons (lg_3 C) hr lt_nil)))) (aC (xV 1) aN))))) (hcA (y := 1) 2 rfl (C.xg 1) (fun ea eo ecl ed epn ec ep eq ez ef eh => (z1 (sR (xIf (tCmp (B.suite) (xXf B.K 1 2 (C.xdf 0 xdok_BadRing).2.1 (C.xdf 0 xdok_BadRing).2.2 rfl ez ef eh) xN) xS xS)))) (hcA (y := 2) 2 rfl (C.xg 2) (fun ea eo ecl ed epn ec ep eq ez ef eh => (z1 (sR (xTup (aC xS (aC (xXf B.K 2 2 (C.xdf 1 xdok_BadHistory).2.1 (C.xdf 1 xdok_BadHistory).2.2 rfl ez ef eh) aN)))))) (hcB (y := 0) rfl (C.xg 0) (fun _ _ _ => (z1 (sR xS))) hcN)))) (z1 (sR xS)))) (fun _ _ _ _ _ _ us hl => match us, hl with | [_, _], _ => rfl)
theorem sc_f_law : FnScope ["_law_script", "_law_draw_here", "_law_good_here", "_law_names", "_law_call", "_law_some", "_law_due", "_law_name", "_law_thing", "_law_refused"] ["_law_script"] (defScope (top 46)) := ⟨rfl, rfl, rfl, by decide +kernel, rfl, by decide +kernel, by decide +kernel⟩
theorem law_ok {P : Program} {w : World} {K : PySem.W.Frag} {mg : Str → Option Value} {base : Heap} (C : Ct FX P w K mg base) {fd : FuncData} (F : FunD K "law" "law" (defArgs (top 46)) (defBody (top 46)) (defScope (top 46)) [] [] (He.fAd K ("law", none)) fd) : FnOk P w K mg base (L2N.CX P w) 11 (He.fAd K ("law", none)) fd ["_law_script"] (spLaw (FX.tb K w) 10 b1_f_law br_f_law) :=
  lawok_of (T := FX.tb K w) (N := ["_law_script", "_law_draw_here", "_law_good_here", "_law_names", "_law_call", "_law_some", "_law_due", "_law_name", "_law_thing", "_law_refused"]) (ps := ["_law_script"]) (k := 10) (m1 := b1_f_law) (mr := br_f_law) F sc_f_law rfl rfl rfl C.ok rfl rfl (fun cdv A outer s H E hr B px => ⟨(sP B 1 2 (aC (xLst (aC (xSl B.toBs (xV 0) oN (oS xI)) (aC xI (aC xI aN)))) (aC (xCall0 px (ok_f_olaw_good C) hr (C.glo 15)) aN))), (zC (sF B px (iA B.toBs (xCall0 px (ok_f_olaw_doors C) hr (C.glo 16))) (tgT B (tsC B.toBs 3 (tsC B.toBs 4 tsN))) (zJf [1, 2] (zC (sP B 5 6 (aC (xLst aN) (aC xS aN))) (zC (sF B px (iA B.toBs (xV 3)) (tgN B.toBs 7) (z1 (sI (tJ (tCmp B.toBs (xCall px (ok_sp_f_olaw_next C) hr (C.glo 21) (aC (xV 1) (aC xI aN))) xI)) (zC (sA (xCall px (ok_f_olaw_pick C) hr (C.glo 23) (aC (xV 1) (aC (xCall px (ok_f_olaw_wrong C) hr (C.glo 22) (aC (xV 7) aN)) aN))) (gTp B (gCs (gNm B.toBs 8) (gCs (gNm B.toBs 9) gNs)))) (zC (sEx (xBm_append B.toBs (xV 5) (aC (xV 8) aN))) (z1 (sA (xIf (tCmp B.toBs (xV 6) xS) (xV 9) (xV 6)) (gNm B.toBs 6))))) (z1 (sEx (xBm_append B.toBs (xV 5) (aC (xIx B.toBs (xV 2) (xV 7)) aN))))))) (z1 (sI (tCmp B.toBs (xSand [4, 5] (xCall px (ok_f_olaw_word_of C) hr (C.glo 57) (aC (xV 4) (aC (xV 5) aN)))) (xV 6)) (z1 (sR xB)) zN)))))) (z1 (sR xB)))⟩)
theorem law_def {w : World} {K : PySem.W.Frag} {mg : Str → Option Value} {h : Heap} (KX : K.In h) (G : h.Ns mainGlobals mg) (c : FX.says w K) : ∃ fd, FunD K "law" "law" (defArgs (top 46)) (defBody (top 46)) (defScope (top 46)) [] [] (He.fAd K ("law", none)) fd := says_def c 41
theorem fnn : FX.fn.Nodup := by decide +kernel
theorem cnn : FX.cn.Nodup := by decide +kernel
theorem law_all {P : Program} {w : World} {K : PySem.W.Frag} {h : Heap} {mg : Str → Option Value} {f : Addr} (KX : K.In h) (G : h.Ns mainGlobals mg) (hfa : mg ("law" : Str) = some (.ref f)) (c : FX.says w K) (hf : P.main.file = FX.file) (hs : (P.main.scope.names.lookup ("super" : Str)).isSome = false) :
    ∃ fd : FuncData, (∀ (s : Shared) (v : Value), BindsTo s fd ⟨[v], []⟩ [("_law_script", v)]) ∧ ∀ base : Heap, K.In base → base.Ns mainGlobals mg → (∀ p ∈ FX.tf, LamX.TabB base mg (He.cT K p.1).1 (He.cT K p.1).2) → FnOk P w K mg base (L2N.CX P w) 11 f fd ["_law_script"] (spLaw (FX.tb K w) 10 b1_f_law br_f_law) := by
  have ok := says_ok c fnn cnn
  have fa : ∀ (i : Nat) (z : He.Fa), FX.fa[i]? = some z → z.ok K = true := fun i z h => List.all_eq_true.mp (band (band (says_ck c)).2).1 z (List.mem_of_getElem? h)
  have e := hfa.symm.trans (He.glo_ok KX G (fa 58 (.glo "law") rfl))
  cases e
  obtain ⟨fd, F⟩ := law_def (w := w) KX G c
  have b := FunD.bindsA (ps := ["_law_script"]) F fun _ _ _ _ _ _ us hl => match us, hl with | [_], _ => rfl
  exact ⟨fd, fun s v => b s [v] rfl, fun base k1 k2 k3 => law_ok ⟨k1, k2, c, ok, hf, hs, k3⟩ F⟩
end L_k14_whole_refused_more
namespace L_k14_whole_refused_more
open PySem PySem.Spec PyProof.Rows L2 TL
theorem gNx (ns : List Int) : isNx (b1_f_law (startL 10 [.kls (ns.map D.int)]) ⟨0, .nil⟩) = true := by kernel_rfl
theorem g0 (ns : List Int) : (lhOf (b1_f_law (startL 10 [.kls (ns.map D.int)]) ⟨0, .nil⟩)).get 0 = some (.lst false (cutL (ns.map D.int) none (some 63))) := by kernel_rfl
theorem g1 (ns : List Int) : (lhOf (b1_f_law (startL 10 [.kls (ns.map D.int)]) ⟨0, .nil⟩)).get 1 = some (.lst false [.obj 0, .int 0, .int 0]) := by kernel_rfl
theorem gs (ns : List Int) : subS (slD b1_f_law 10) (slOf (b1_f_law (startL 10 [.kls (ns.map D.int)]) ⟨0, .nil⟩)) = true := by kernel_rfl
theorem gh (ns : List Int) : lheq (((lhOf (b1_f_law (startL 10 [.kls (ns.map D.int)]) ⟨0, .nil⟩)).rep 0 (.abs 0 63 0)).rep 1 (.abs 1 0 0)) (lhD b1_f_law 10 0 1) = true := by kernel_rfl
theorem goal {K : PySem.W.Frag} {w : World} {H : Hp} {a : Addr} {ns : List Int} (hT : ∀ p ∈ (FX.tb K w).tbs, H p.1 = some (.tbl #[])) (hS : SqL K H a (ns.map V.int)) (hl : ns.length ≤ 63) (hb : ∀ z ∈ ns, Builtin.Int.intBits z ≤ 1048576) : spLaw (FX.tb K w) 10 b1_f_law br_f_law [.ref a] H (fun v _ => v = .bl true) fun _ _ _ => False :=
  law_draws (T := FX.tb K w) (sl2 := slD b1_f_law 10) (lh2 := lhD b1_f_law 10 0 1) 0 1 rfl rfl hT hS hl hb (by decide) (gNx ns) (g0 ns) (g1 ns) (gs ns) (gh ns) all_true
end L_k14_whole_refused_more
namespace L_k14_whole_refused_more
open PySem PySem.Spec PyProof.Rows L2 TL
def nms0 : List Str := ["_wall", "LogError", "BadRing", "BadHistory", "TooLarge", "LEAST_SIZE", "MOST_SIZE", "MOST_LENGTH", "MOST_MARKS", "WORDS", "is_number", "is_word", "are_lengths", "Ring", "check_ring", "MOST_STATES", "Log", "start_of", "deeds_of", "kept_deeds", "done", "is_deed", "walked", "check_history", "reach", "READ", "is_there", "delay_of", "Slowest", "slowest"]
def nms1 : List Str := ["greatest_delay", "delay", "_law_cell_at", "_law_draw", "_law_number", "_law_next", "_law_pick", "_law_good", "_law_wrong", "_law_doors", "_law_word_of"]
def nms : List Str := nms0 ++ nms1
abbrev R : PySem.W.OpenRow := PySem.W.OpenLaw.row PySem.Challenge.rw_trimmedlogs_k14_whole_refused_more
abbrev hk : PySem.W.Hook := FX.hook 6
def ob (s : PySem.W.SharedT) : AlX := FX.obsG 6 (HandSHeadRun.getT s)
theorem ob_eq (s : PySem.W.SharedT) : ob s = hk.obs s.abs := Fx.obs_eq (HandSHeadRun.getT_eq s)
theorem runF (w : World) : HandSHeadRun.RunEq R (PySem.W.view R.prog [46]) hk ob 20000 nms (w.withFollow "special-get-raises" false) := by
  intro os
  kernel_rfl
theorem runT (w : World) : HandSHeadRun.RunEq R (PySem.W.view R.prog [46]) hk ob 20000 nms (w.withFollow "special-get-raises" true) := by
  intro os
  kernel_rfl
theorem run (w : World) : HandSHeadRun.RunEq R (PySem.W.view R.prog [46]) hk ob 20000 nms w := PySem.W.byRow2 "special-get-raises" runF runT w
end L_k14_whole_refused_more
open PySem PySem.W PySem.Calls PyProof.Rows in
theorem PySem.Challenge.cw_trimmedlogs_k14_whole_refused_more_holds : PySem.Challenge.rw_trimmedlogs_k14_whole_refused_more.Holds := by
  w_on; o_law
  refine HandSHeadRun.head_any (r := OpenLaw.row PySem.Challenge.rw_trimmedlogs_k14_whole_refused_more) (q := view (OpenLaw.row PySem.Challenge.rw_trimmedlogs_k14_whole_refused_more).prog [46]) (H := L_k14_whole_refused_more.hk) (ob := L_k14_whole_refused_more.ob) (M := 20000) (loose := L_k14_whole_refused_more.nms) (d := HandSHeadRun.topDef (OpenLaw.row PySem.Challenge.rw_trimmedlogs_k14_whole_refused_more).prog 46) (kwd := []) L_k14_whole_refused_more.ob_eq
    (by kernel_rfl) (fun s => by kernel_rfl) L_k14_whole_refused_more.run (by kernel_rfl) (by kernel_rfl) (by kernel_rfl) (by rfl) (by first | assumption | decide +kernel) (by decide +kernel) ⟨rfl, rfl, rfl, rfl, rfl, by decide +kernel⟩ ?hw ?hc
  case hw => w_witness2
  case hc =>
    refine LamX.walk_ofTsE (l := PySem.Challenge.rw_trimmedlogs_k14_whole_refused_more) (n := 63) (k := 11) (x := "_law_script") (CX := fun w => L2N.CX (PySem.Challenge.rw_trimmedlogs_k14_whole_refused_more).prog w) rfl (by decide) (by kernel_rfl) ⟨rfl, by decide, by decide⟩ ?F ?X
    case X =>
      intro w H s e s' z
      exact TL.cx_no z
    case F =>
      intro w mg fa h Y G hmg0
      obtain ⟨K, KX, c⟩ := Y
      have hmg : mg ("law" : PySem.Str) = some (.ref fa) := by
        have e : (HandSHeadRun.topDef (OpenLaw.row PySem.Challenge.rw_trimmedlogs_k14_whole_refused_more).prog 46).name = ("law" : PySem.Str) := by kernel_rfl
        rw [← e]
        exact hmg0
      obtain ⟨fd, hb, hF⟩ := L_k14_whole_refused_more.law_all (P := (PySem.Challenge.rw_trimmedlogs_k14_whole_refused_more).prog) (w := w) KX G hmg c.says (by kernel_rfl) (by kernel_rfl)
      refine ⟨K, KX, fd, L_k14_whole_refused_more.FX.tf.map (fun p => He.cT K p.1), TL.spLaw (L_k14_whole_refused_more.FX.tb K w) 10 L_k14_whole_refused_more.b1_f_law L_k14_whole_refused_more.br_f_law, fun p hp => ?_, fun p hp => ?_, fun p hp => ?_, hb, fun H a ns hl hbits hT hS => L_k14_whole_refused_more.goal (K := K) (w := w) (fun p hp => ?_) hS hl hbits, fun base k1 k2 k3 => hF base k1 k2 fun p hp => k3 _ (List.mem_map.mpr ⟨p, hp, rfl⟩)⟩
      · obtain ⟨q, hq, e⟩ := List.mem_map.mp hp
        rw [← e]
        exact c.empty q hq
      · obtain ⟨q, hq, e⟩ := List.mem_map.mp hp
        rw [← e]
        exact c.out q hq
      · obtain ⟨q, hq, e⟩ := List.mem_map.mp hp
        rw [← e]
        exact codeHd_of_K KX (c.hd q hq)
      · obtain ⟨q, hq, e⟩ := List.mem_map.mp hp
        rw [← e]
        exact hT _ (List.mem_map.mpr ⟨q, hq, rfl⟩)
