import PyProof.Rows.All
import Wide.All
import OpenK.AllK
import Wide.FinOn
import HandS.ForMost
import HandS.Deep
import HandS.IsInst
import HandS.Exc
import HandS.ExcOwn
import HandS.TryOnly
import HandS.TryMany
import HandS.Conv
import KE.KDictKeyed
import KE.KeyNested
import HandS.TupAny
import HandS.Style
import KE.DataEq
import PyProof.StrBlock2
import HandS.Walk
import HandS.Defaults
import HandS.HeadHook2
import HandS.HeadWalk
import HandS.Text
import KE.SortData
import KE.DataMinMax
import KE.DataCmp
import HandS.StrMore
import HandS.StrSplit
import HandS.MapJoin
import KE.SortKeyHeap
import HandS.FromBytesMap
import HandS.SortKw
import HandS.TupLe
import HandS.Iter
import KE.KDictSum
import KE.KDictCopyH
import PyProof.TupleOfSeq
import HandS.RaiseMore
import PyProof.ListStr
import HandS.JoinGen
import PyProof.TupleOfStr
import HandS.Rev
import HandS.List
import HandS.Head0
import HandS.Head1
import HandS.Head2
import HandS.HeadEnd
import HandS.HeadHook1
import PySem.Challenge.RW_strandwright_k41_whole_spans
set_option Elab.async false
set_option linter.all false
set_option maxRecDepth 100000
namespace Sw
open PySem PySem.Spec L2

/-! ### what is known of the heap, the program, the world -/
structure FgK where
  K : PySem.W.Frag
  P : Program
  w : World
instance : Coe FgK PySem.W.Frag := ⟨FgK.K⟩

/-! ### data as it lies in a heap -/
abbrev D := PyData
def kD : Key → D
  | .inl i => .int i
  | .inr x => .str x
/-- a key as data -/
def nkD : NestedKey → D := NestedKey.data
/-- what stands at a: a dict whose keys are tuples, the tuples' places by it -/
def IsN (K : FgK) (a : Addr) (xs : List (NestedKey × Addr × V)) (o : HO) : Prop :=
  o = .ext fun h => xs.length ≤ sizeLine ∧ (a == sysModules) = false ∧ (∀ x ∈ xs, ∃ z, x.1 = .tup z ∧ x.1.depth ≤ 8) ∧ ∃ us : List (NestedKey × Addr × Value), Paired (fun (p : NestedKey × Addr × V) (q : NestedKey × Addr × Value) => p.1 = q.1 ∧ p.2.1 = q.2.1 ∧ RelV p.2.2 q.2.2) xs us ∧
    ∃ ob es ep, h.get? a = some ob ∧ ob.ExactDict ∧ ob.data = .dict es ep ∧ es.toList = us.map (entryOfKey (nestedKind K.P K.w)) ∧ (us.map (·.1)).Nodup
/-- a tuple that is tracked, or written -/
def TupAt (K : FgK) (H : Hp) (a : Addr) (xs : List V) : Prop := H a = some (.tup xs) ∨ SqT K (fun _ => none) a xs
theorem TupAt.sqT {K : FgK} {H : Hp} {a : Addr} {xs : List V} (h : TupAt K H a xs) : SqT K H a xs := by
  rcases h with h | (h | ⟨o, h⟩) | h
  · exact SqT.of h
  · cases h
  · cases h
  · exact .inr h
mutual
def At (K : FgK) (H : Hp) : D → V → Prop
  | .none, v => v = .non
  | .bool b, v => v = .bl b
  | .int i, v => v = .int i
  | .str x, v => v = .str x
  | .list ds, v => ∃ a xs, v = .ref a ∧ H a = some (.lst xs) ∧ AtAll K H ds xs
  | .tuple ds, v => ∃ a xs, v = .ref a ∧ TupAt K H a xs ∧ AtAll K H ds xs
  | .dict kds, v => ∃ a od o, v = .ref a ∧ H a = some (.frz od o) ∧ ((∃ kvs, o = .dK kvs ∧ AtK K H kds kvs) ∨ ∃ xs, IsN K a xs o ∧ AtN K H kds xs)
def AtAll (K : FgK) (H : Hp) : List D → List V → Prop
  | [], xs => xs = []
  | d :: ds, xs => ∃ x r, xs = x :: r ∧ At K H d x ∧ AtAll K H ds r
def AtK (K : FgK) (H : Hp) : List (D × D) → List (Key × V) → Prop
  | [], xs => xs = []
  | (k, d) :: ds, xs => ∃ kk x r, xs = (kk, x) :: r ∧ k = kD kk ∧ At K H d x ∧ AtK K H ds r
def AtN (K : FgK) (H : Hp) : List (D × D) → List (NestedKey × Addr × V) → Prop
  | [], xs => xs = []
  | (k, d) :: ds, xs => ∃ kk b x r, xs = (kk, b, x) :: r ∧ k = nkD kk ∧ At K H k (.ref b) ∧ At K H d x ∧ AtN K H ds r
end
abbrev Le (F F' : Hp) : Prop := ∀ b o, F b = some o → F' b = some o
theorem Le.rfl' {F : Hp} : Le F F := fun _ _ h => h
theorem Le.trans' {F F' F'' : Hp} (a : Le F F') (b : Le F' F'') : Le F F'' := fun c o h => b c o (a c o h)
theorem Le.tupAt {K : FgK} {F F' : Hp} (h : Le F F') {a : Addr} {xs : List V} (q : TupAt K F a xs) : TupAt K F' a xs := by
  rcases q with q | q
  · exact .inl (h _ _ q)
  · exact .inr q
section
variable {K : FgK} {F F' : Hp}
mutual
theorem At.mono (h : Le F F') : ∀ (d : D) (v : V), At K F d v → At K F' d v
  | .none, v, q => by simpa [At] using q
  | .bool b, v, q => by simpa [At] using q
  | .int i, v, q => by simpa [At] using q
  | .str x, v, q => by simpa [At] using q
  | .list ds, v, q => by
    simp only [At] at q ⊢
    obtain ⟨a, xs, e, q, r⟩ := q
    exact ⟨a, xs, e, h _ _ q, AtAll.mono h ds xs r⟩
  | .tuple ds, v, q => by
    simp only [At] at q ⊢
    obtain ⟨a, xs, e, q, r⟩ := q
    exact ⟨a, xs, e, Le.tupAt h q, AtAll.mono h ds xs r⟩
  | .dict kds, v, q => by
    simp only [At] at q ⊢
    obtain ⟨a, od, o, e, q0, q⟩ := q
    rcases q with ⟨kvs, q, r⟩ | ⟨xs, q, r⟩
    · exact ⟨a, od, o, e, h _ _ q0, .inl ⟨kvs, q, AtK.mono h kds kvs r⟩⟩
    · exact ⟨a, od, o, e, h _ _ q0, .inr ⟨xs, q, AtN.mono h kds xs r⟩⟩
theorem AtAll.mono (h : Le F F') : ∀ (ds : List D) (xs : List V), AtAll K F ds xs → AtAll K F' ds xs
  | [], xs, q => by simpa [AtAll] using q
  | d :: ds, xs, q => by
    simp only [AtAll] at q ⊢
    obtain ⟨x, r, e, q, s⟩ := q
    exact ⟨x, r, e, At.mono h d x q, AtAll.mono h ds r s⟩
theorem AtK.mono (h : Le F F') : ∀ (ds : List (D × D)) (xs : List (Key × V)), AtK K F ds xs → AtK K F' ds xs
  | [], xs, q => by simpa [AtK] using q
  | (k, d) :: ds, xs, q => by
    simp only [AtK] at q ⊢
    obtain ⟨kk, x, r, e, e2, q, s⟩ := q
    exact ⟨kk, x, r, e, e2, At.mono h d x q, AtK.mono h ds r s⟩
theorem AtN.mono (h : Le F F') : ∀ (ds : List (D × D)) (xs : List (NestedKey × Addr × V)), AtN K F ds xs → AtN K F' ds xs
  | [], xs, q => by simpa [AtN] using q
  | (k, d) :: ds, xs, q => by
    simp only [AtN] at q ⊢
    obtain ⟨kk, b, x, r, e, e2, q1, q, s⟩ := q
    exact ⟨kk, b, x, r, e, e2, At.mono h k (.ref b) q1, At.mono h d x q, AtN.mono h ds r s⟩
end
theorem AtAll.nil : AtAll K F [] [] := by simp [AtAll]
theorem AtAll.cons {d : D} {ds : List D} {x : V} {xs : List V} (h : At K F d x) (r : AtAll K F ds xs) : AtAll K F (d :: ds) (x :: xs) := by
  simp only [AtAll]
  exact ⟨x, xs, rfl, h, r⟩
theorem AtAll.len : ∀ {ds : List D} {xs : List V}, AtAll K F ds xs → xs.length = ds.length
  | [], xs, h => by simp only [AtAll] at h; subst h; rfl
  | d :: ds, xs, h => by
    simp only [AtAll] at h
    obtain ⟨x, r, rfl, _, q⟩ := h
    simp [AtAll.len q]
theorem AtAll.app : ∀ {ds es : List D} {xs ys : List V}, AtAll K F ds xs → AtAll K F es ys → AtAll K F (ds ++ es) (xs ++ ys)
  | [], es, xs, ys, h, g => by simp only [AtAll] at h; subst h; exact g
  | d :: ds, es, xs, ys, h, g => by
    simp only [AtAll] at h
    obtain ⟨x, r, rfl, a, q⟩ := h
    exact AtAll.cons a (AtAll.app q g)
theorem AtAll.get : ∀ {ds : List D} {xs : List V} {i : Nat} {d : D}, AtAll K F ds xs → ds[i]? = some d → ∃ x, xs[i]? = some x ∧ At K F d x
  | [], _, _, _, _, e => by simp at e
  | d :: ds, xs, i, d', h, e => by
    simp only [AtAll] at h
    obtain ⟨x, r, rfl, a, q⟩ := h
    cases i with
    | zero => simp at e; subst e; exact ⟨x, rfl, a⟩
    | succ i => exact AtAll.get (i := i) q (by simpa using e)
theorem AtAll.set : ∀ {ds : List D} {xs : List V} {i : Nat} {d : D} {x : V}, AtAll K F ds xs → At K F d x → AtAll K F (ds.set i d) (xs.set i x)
  | [], xs, i, d, x, h, g => by simp only [AtAll] at h; subst h; exact AtAll.nil
  | d0 :: ds, xs, i, d, x, h, g => by
    simp only [AtAll] at h
    obtain ⟨y, r, rfl, a, q⟩ := h
    cases i with
    | zero => exact AtAll.cons g q
    | succ i => exact AtAll.cons a (AtAll.set q g)
theorem AtAll.drop : ∀ {ds : List D} {xs : List V} (n : Nat), AtAll K F ds xs → AtAll K F (ds.drop n) (xs.drop n)
  | _, _, 0, h => h
  | [], xs, n + 1, h => by simp only [AtAll] at h; subst h; exact AtAll.nil
  | d :: ds, xs, n + 1, h => by
    simp only [AtAll] at h
    obtain ⟨y, r, rfl, a, q⟩ := h
    exact AtAll.drop n q
theorem AtAll.take : ∀ {ds : List D} {xs : List V} (n : Nat), AtAll K F ds xs → AtAll K F (ds.take n) (xs.take n)
  | _, _, 0, h => by simp; exact AtAll.nil
  | [], xs, n + 1, h => by simp only [AtAll] at h; subst h; exact AtAll.nil
  | d :: ds, xs, n + 1, h => by
    simp only [AtAll] at h
    obtain ⟨y, r, rfl, a, q⟩ := h
    exact AtAll.cons a (AtAll.take n q)
theorem AtAll.erase : ∀ {ds : List D} {xs : List V} (n : Nat), AtAll K F ds xs → AtAll K F (ds.eraseIdx n) (xs.eraseIdx n)
  | [], xs, n, h => by simp only [AtAll] at h; subst h; exact AtAll.nil
  | d :: ds, xs, 0, h => by
    simp only [AtAll] at h
    obtain ⟨y, r, rfl, a, q⟩ := h
    exact q
  | d :: ds, xs, n + 1, h => by
    simp only [AtAll] at h
    obtain ⟨y, r, rfl, a, q⟩ := h
    exact AtAll.cons a (AtAll.erase n q)
theorem AtAll.rev {ds : List D} {xs : List V} (h : AtAll K F ds xs) : AtAll K F ds.reverse xs.reverse := by
  induction ds generalizing xs with
  | nil => simp only [AtAll] at h; subst h; exact AtAll.nil
  | cons d ds ih =>
    simp only [AtAll] at h
    obtain ⟨y, r, rfl, a, q⟩ := h
    simp only [List.reverse_cons]
    exact AtAll.app (ih q) (AtAll.cons a AtAll.nil)
theorem AtAll.get' : ∀ {ds : List D} {xs : List V} {i : Nat} {x : V}, AtAll K F ds xs → xs[i]? = some x → ∃ d, ds[i]? = some d ∧ At K F d x := fun {ds xs i x} h e => by
  have hl := h.len
  have hi : i < ds.length := by
    have := (List.getElem?_eq_some_iff.mp e).1
    omega
  obtain ⟨y, e1, a⟩ := h.get (List.getElem?_eq_getElem hi)
  rw [e] at e1
  cases e1
  exact ⟨_, List.getElem?_eq_getElem hi, a⟩
end

/-! ### the pure state: what the slots hold -/
inductive Ct where
  | lst (ds : List D)
  /-- t: the keys are tuples -/
  | dic (t : Bool) (kds : List (D × D))
def Ct.toD : Ct → D
  | .lst ds => .list ds
  | .dic _ kds => .dict kds
inductive SV where
  | un
  /-- a slot that holds just this value (an exception in hand) -/
  | raw (v : V)
  | dat (d : D)
  /-- a list or a dict that only this slot holds; l: it was lent by the caller -/
  | obj (l : Bool) (c : Ct)
abbrev SV.own (l : Bool) (ds : List D) : SV := .obj l (.lst ds)
abbrev SV.dic (t : Bool) (kds : List (D × D)) : SV := .obj false (.dic t kds)
/-- what stands at p is this list, this dict -/
def CtOk (K : FgK) (F : Hp) (p : Addr) (o : HO) : Ct → Prop
  | .lst ds => ∃ xs, o = .lst xs ∧ AtAll K F ds xs
  | .dic false kds => ∃ kvs, o = .dK kvs ∧ AtK K F kds kvs
  | .dic true kds => ∃ xs, IsN K p xs o ∧ AtN K F kds xs
theorem CtOk.mono {K : FgK} {F F' : Hp} (h : Le F F') {p : Addr} {o : HO} {c : Ct} (a : CtOk K F p o c) : CtOk K F' p o c := by
  cases c with
  | lst ds =>
    obtain ⟨xs, e, a⟩ := a
    exact ⟨xs, e, AtAll.mono h _ _ a⟩
  | dic t kds =>
    cases t with
    | false =>
      obtain ⟨xs, e, a⟩ := a
      exact ⟨xs, e, AtK.mono h _ _ a⟩
    | true =>
      obtain ⟨xs, e, a⟩ := a
      exact ⟨xs, e, AtN.mono h _ _ a⟩
structure Ec where
  H0 : Hp
  F0 : Hp
  la : Option Addr
def Own (σ : L2.St) (env : List SV) (b : Addr) : Prop := ∃ (i : Nat) (l : Bool) (c : Ct), env[i]? = some (SV.obj l c) ∧ σ[i]? = some (some (.ref b))
def SlotOk (K : FgK) (C : Ec) (H F : Hp) (o : Option (Option V)) : SV → Prop
  | .un => True
  | .raw v => o = some (some v)
  | .dat d => ∃ v, o = some (some v) ∧ At K F d v
  | .obj l c => ∃ p u, o = some (some (.ref p)) ∧ H p = some u ∧ F p = none ∧ (if l = true then C.la = some p else C.H0 p = none) ∧ CtOk K F p u c
structure RelB (K : FgK) (C : Ec) (σ : L2.St) (H F : Hp) (env : List SV) : Prop where
  frz : Le F H
  mono : Le C.F0 F
  new : ∀ b o, F b = some o → C.F0 b = some o ∨ C.H0 b = none
  frame : ∀ b o, C.H0 b = some o → C.la ≠ some b → H b = some o
  la : ∀ a, C.la = some a → (∃ xs, H a = some (.lst xs)) ∧ F a = none ∧ ∃ o, C.H0 a = some o
  len : env.length = σ.length
  slot : ∀ (i : Nat) (sv : SV), env[i]? = some sv → SlotOk K C H F σ[i]? sv
  dist : ∀ (i j : Nat) (l : Bool) (ds : Ct) (m : Bool) (es : Ct), env[i]? = some (SV.obj l ds) → env[j]? = some (SV.obj m es) → σ[i]? = σ[j]? → i = j
/-- a refusal: its class, its field and what the field holds -/
structure XV where
  c : Str
  f : Option (Str × D)
/-- what is wished of a refusal, with the slots as they then are -/
abbrev XP := XV → List SV → Prop
/-- a datum that is no object, as a value -/
def atomV : D → Option V
  | .none => some .non
  | .bool b => some (.bl b)
  | .int i => some (.int i)
  | .str x => some (.str x)
  | _ => none
/-- the refusal in the heap: its class's object, its own dict -/
def XvOk (mg : Str → Option Value) (H : Hp) (xv : XV) (cls : Value) (d : Option Addr) : Prop :=
  mg xv.c = some cls ∧ match xv.f with
    | none => d = none
    | some (f, x) => ∃ dd v, d = some dd ∧ H dd = some (.xd [(f, v)]) ∧ atomV x = some v
structure FgX where
  b : FgK
  mg : Str → Option Value
  W : WX
  Ep : XP
  ck : Ec → Prop
instance : Coe FgX FgK := ⟨FgX.b⟩
def XOk (K : FgX) (C : Ec) : Prop := K.ck C ∧ ∀ (σ' : L2.St) (H' F' : Hp) (env' : List SV) (cls : Value) (d : Option Addr) (xv : XV), RelB K.b C σ' H' F' env' → (∀ dd, d = some dd → C.H0 dd = none ∧ F' dd = none ∧ ¬ Own σ' env' dd) → XvOk K.mg H' xv cls d → K.Ep xv env' → K.W cls d σ' H'
structure Rel (K : FgX) (C : Ec) (σ : L2.St) (H F : Hp) (env : List SV) : Prop extends RelB K.b C σ H F env where
  xok : XOk K C
/-- a context with what is wished of refusals -/
structure Cz extends L2.Cx where
  W : WX
  Ep : XP
  tk : Takes toCx W
  ck : Ec → Prop
instance : Coe Cz L2.Cx := ⟨Cz.toCx⟩
abbrev Cz.fr (X : Cz) : FgX := ⟨⟨X.K, X.prog, X.w⟩, X.mg, X.W, X.Ep, X.ck⟩
/-- no refusal -/
abbrev wNo : WX := fun _ _ _ _ => False
abbrev pNo : XP := fun _ _ => False
abbrev of0 (X : L2.Cx) : Cz := ⟨X, wNo, pNo, takes_none5, fun _ => True⟩
theorem xok_no {K : FgX} {C : Ec} (h : K.Ep = pNo) (c : K.ck C := by trivial) : XOk K C := ⟨c, fun _ _ _ _ _ _ _ _ _ _ e => by rw [h] at e; exact e.elim⟩
structure Stp (K : FgX) (C : Ec) (σ : L2.St) (H F : Hp) (env : List SV) (H' F' : Hp) (env' : List SV) : Prop where
  rel : Rel K C σ H' F' env'
  ff : Le F F'
  fr : ∀ b o, H b = some o → ¬ Own σ env b → H' b = some o
  fn : ∀ b o, F' b = some o → F b = some o ∨ H b = none ∨ Own σ env b
  ow : ∀ (i : Nat) (l : Bool) (ds : Ct), env'[i]? = some (SV.obj l ds) → ∃ ds', env[i]? = some (SV.obj l ds')
  dm : ∀ b, H' b = none → H b = none
section
variable {K : FgX} {C : Ec} {σ : L2.St} {H F H1 F1 H2 F2 : Hp} {env env1 env2 : List SV}
theorem Stp.refl (R : Rel K C σ H F env) : Stp K C σ H F env H F env := ⟨R, fun _ _ h => h, fun _ _ h _ => h, fun _ _ h => .inl h, fun i l ds h => ⟨ds, h⟩, fun _ h => h⟩
theorem Own.sub (w : ∀ (i : Nat) (l : Bool) (ds : Ct), env1[i]? = some (SV.obj l ds) → ∃ ds', env[i]? = some (SV.obj l ds')) {b : Addr} (h : Own σ env1 b) : Own σ env b := by
  obtain ⟨i, l, ds, e, s⟩ := h
  obtain ⟨ds', e'⟩ := w i l ds e
  exact ⟨i, l, ds', e', s⟩
theorem Stp.trans (a : Stp K C σ H F env H1 F1 env1) (b : Stp K C σ H1 F1 env1 H2 F2 env2) : Stp K C σ H F env H2 F2 env2 where
  rel := b.rel
  ff := fun c o h => b.ff c o (a.ff c o h)
  fr := fun c o h n => b.fr c o (a.fr c o h n) fun z => n (Own.sub a.ow z)
  fn := fun c o h => by
    rcases b.fn c o h with z | z | z
    · exact a.fn c o z
    · exact .inr (.inl (a.dm c z))
    · exact .inr (.inr (Own.sub a.ow z))
  ow := fun i l ds h => by
    obtain ⟨ds', e⟩ := b.ow i l ds h
    exact a.ow i l ds' e
  dm := fun c h => a.dm c (b.dm c h)
/-- a new object, known for good -/
theorem Rel.alloc (R : Rel K C σ H F env) {p : Addr} {o : HO} (hp : H p = none) : Stp K C σ H F env (upd H p o) (upd F p o) env := by
  have fp : F p = none := by
    cases q : F p with
    | none => rfl
    | some u => rw [R.frz p u q] at hp; cases hp
  have h0 : C.H0 p = none := by
    cases q : C.H0 p with
    | none => rfl
    | some u =>
      by_cases hl : C.la = some p
      · obtain ⟨⟨xs, e⟩, _⟩ := R.la p hl
        rw [e] at hp; cases hp
      · rw [R.frame p u q hl] at hp; cases hp
  have ff : Le F (upd F p o) := fun b u h => by
    rw [upd_ne (ne_of_none h fp)]; exact h
  refine ⟨⟨⟨fun b u h => ?_, fun b u h => ff b u (R.mono b u h), fun b u h => ?_, fun b u h n => ?_, fun a h => ?_, R.len, fun i sv e => ?_, R.dist⟩, R.xok⟩, ff, fun b u h _ => ?_, fun b u h => ?_, fun i l ds h => ⟨ds, h⟩, fun b h => ?_⟩
  · by_cases e : b = p
    · subst e; rw [upd_same] at h ⊢; exact h
    · rw [upd_ne e] at h ⊢; exact R.frz b u h
  · by_cases e : b = p
    · subst e; exact .inr h0
    · rw [upd_ne e] at h; exact R.new b u h
  · have q := R.frame b u h n
    rw [upd_ne (ne_of_none q hp)]; exact q
  · obtain ⟨⟨xs, e⟩, f, g⟩ := R.la a h
    have ne : a ≠ p := ne_of_none e hp
    exact ⟨⟨xs, by rw [upd_ne ne]; exact e⟩, by rw [upd_ne ne]; exact f, g⟩
  · have q := R.slot i sv e
    cases sv with
    | un => trivial
    | raw z => exact q
    | dat d =>
      obtain ⟨v, e1, a⟩ := q
      exact ⟨v, e1, At.mono ff d v a⟩
    | obj l ds =>
      obtain ⟨r, xs, e1, e2, e3, e4, e5⟩ := q
      have ne : r ≠ p := ne_of_none e2 hp
      exact ⟨r, xs, e1, by rw [upd_ne ne]; exact e2, by rw [upd_ne ne]; exact e3, e4, e5.mono ff⟩
  · rw [upd_ne (ne_of_none h hp)]; exact h
  · by_cases e : b = p
    · subst e; exact .inr (.inl hp)
    · rw [upd_ne e] at h; exact .inl h
  · by_cases e : b = p
    · subst e; exact hp
    · rw [upd_ne e] at h; exact h
/-- a new object, not known -/
theorem Rel.alloc0 (R : Rel K C σ H F env) {p : Addr} {o : HO} (hp : H p = none) : Stp K C σ H F env (upd H p o) F env ∧ F p = none ∧ C.H0 p = none ∧ ¬ Own σ env p := by
  have fp : F p = none := by
    cases q : F p with
    | none => rfl
    | some u => rw [R.frz p u q] at hp; cases hp
  have h0 : C.H0 p = none := by
    cases q : C.H0 p with
    | none => rfl
    | some u =>
      by_cases hl : C.la = some p
      · obtain ⟨⟨xs, e⟩, _⟩ := R.la p hl
        rw [e] at hp; cases hp
      · rw [R.frame p u q hl] at hp; cases hp
  refine ⟨⟨⟨⟨fun b u h => ?_, R.mono, R.new, fun b u h n => ?_, fun a h => ?_, R.len, fun i sv e => ?_, R.dist⟩, R.xok⟩, Le.rfl', fun b u h _ => ?_, fun b u h => .inl h, fun i l ds h => ⟨ds, h⟩, fun b h => ?_⟩, fp, h0, fun z => ?_⟩
  · have q := R.frz b u h
    rw [upd_ne (ne_of_none q hp)]; exact q
  · have q := R.frame b u h n
    rw [upd_ne (ne_of_none q hp)]; exact q
  · obtain ⟨⟨xs, e⟩, f, g⟩ := R.la a h
    exact ⟨⟨xs, by rw [upd_ne (ne_of_none e hp)]; exact e⟩, f, g⟩
  · have q := R.slot i sv e
    cases sv with
    | un => trivial
    | raw z => exact q
    | dat d => exact q
    | obj l ds =>
      obtain ⟨r, xs, e1, e2, e3, e4, e5⟩ := q
      exact ⟨r, xs, e1, by rw [upd_ne (ne_of_none e2 hp)]; exact e2, e3, e4, e5⟩
  · rw [upd_ne (ne_of_none h hp)]; exact h
  · by_cases e : b = p
    · subst e; exact hp
    · rw [upd_ne e] at h; exact h
  · obtain ⟨i, l, ds, e, s⟩ := z
    obtain ⟨r, xs, e1, e2, _⟩ := R.slot i _ e
    rw [s] at e1
    cases e1
    rw [e2] at hp; cases hp
/-- a list that stands, not known and in no slot, is known from here on -/
theorem Rel.freeze (R : Rel K C σ H F env) {p : Addr} {o : HO} (hp : H p = some o) (fp : F p = none) (h0 : C.H0 p = none) (no : ¬ Own σ env p) : Rel K C σ H (upd F p o) env := by
  have ff : Le F (upd F p o) := fun b u h => by
    rw [upd_ne (ne_of_none h fp)]; exact h
  refine ⟨⟨fun b u h => ?_, fun b u h => ff b u (R.mono b u h), fun b u h => ?_, R.frame, fun a h => ?_, R.len, fun i sv e => ?_, R.dist⟩, R.xok⟩
  · by_cases e : b = p
    · subst e; rw [upd_same] at h; cases h; exact hp
    · rw [upd_ne e] at h; exact R.frz b u h
  · by_cases e : b = p
    · subst e; exact .inr h0
    · rw [upd_ne e] at h; exact R.new b u h
  · obtain ⟨e, f, g⟩ := R.la a h
    refine ⟨e, ?_, g⟩
    have ne : a ≠ p := by
      rintro rfl
      obtain ⟨o', g⟩ := g
      rw [g] at h0; cases h0
    rw [upd_ne ne]; exact f
  · have q := R.slot i sv e
    cases sv with
    | un => trivial
    | raw z => exact q
    | dat d =>
      obtain ⟨v, e1, a⟩ := q
      exact ⟨v, e1, At.mono ff d v a⟩
    | obj l ds =>
      obtain ⟨r, xs, e1, e2, e3, e4, e5⟩ := q
      have ne : r ≠ p := by
        rintro rfl
        exact no ⟨i, l, ds, e, e1⟩
      exact ⟨r, xs, e1, e2, by rw [upd_ne ne]; exact e3, e4, e5.mono ff⟩
/-- the list of a slot is known from here on -/
theorem Rel.freezeSlot (R : Rel K C σ H F env) {i : Nat} {ds : List D} (he : env[i]? = some (.own false ds)) :
    ∃ F1 p, σ[i]? = some (some (.ref p)) ∧ Stp K C σ H F env H F1 (env.set i (.dat (.list ds))) ∧ At K F1 (.list ds) (.ref p) := by
  obtain ⟨p, u, e1, e2, e3, e4, xs, rfl, e5⟩ := R.slot i _ he
  rw [if_neg (by decide)] at e4
  have ff : Le F (upd F p (.lst xs)) := fun b u h => by
    rw [upd_ne (ne_of_none h e3)]; exact h
  have hi : i < env.length := (List.getElem?_eq_some_iff.mp he).1
  have at1 : At K (upd F p (.lst xs)) (.list ds) (.ref p) := by
    exact (by simp only [At]; exact ⟨p, xs, rfl, upd_same, AtAll.mono ff _ _ e5⟩)
  have oth : ∀ (j : Nat) (l : Bool) (es : Ct), (env.set i (.dat (.list ds)))[j]? = some (.obj l es) → j ≠ i ∧ env[j]? = some (.obj l es) := fun j l es h => by
    by_cases e : j = i
    · subst e; rw [List.getElem?_set_self hi] at h; cases h
    · rw [List.getElem?_set_ne (Ne.symm e)] at h; exact ⟨e, h⟩
  refine ⟨upd F p (.lst xs), p, e1, ⟨⟨⟨fun b u h => ?_, fun b u h => ff b u (R.mono b u h), fun b u h => ?_, R.frame, fun a h => ?_, by rw [List.length_set]; exact R.len, fun j sv e => ?_, fun j k l es m fs h1 h2 h3 => ?_⟩, R.xok⟩, ff, fun b u h _ => h, fun b u h => ?_, fun j l es h => ⟨es, (oth j l es h).2⟩, fun _ h => h⟩, at1⟩
  · by_cases e : b = p
    · subst e; rw [upd_same] at h; cases h; exact e2
    · rw [upd_ne e] at h; exact R.frz b u h
  · by_cases e : b = p
    · subst e; exact .inr e4
    · rw [upd_ne e] at h; exact R.new b u h
  · obtain ⟨e, f, g⟩ := R.la a h
    refine ⟨e, ?_, g⟩
    have ne : a ≠ p := by
      rintro rfl
      obtain ⟨o', g⟩ := g
      rw [g] at e4; cases e4
    rw [upd_ne ne]; exact f
  · by_cases e' : j = i
    · subst e'
      rw [List.getElem?_set_self hi] at e
      cases e
      exact ⟨_, e1, at1⟩
    · rw [List.getElem?_set_ne (Ne.symm e')] at e
      have q := R.slot j sv e
      cases sv with
      | un => trivial
      | raw z => exact q
      | dat d =>
        obtain ⟨v, f1, a⟩ := q
        exact ⟨v, f1, At.mono ff d v a⟩
      | obj l es =>
        obtain ⟨r, ys, f1, f2, f3, f4, f5⟩ := q
        have ne : r ≠ p := by
          rintro rfl
          exact e' (R.dist j i l es false (.lst ds) e he (f1.trans e1.symm))
        exact ⟨r, ys, f1, f2, by rw [upd_ne ne]; exact f3, f4, f5.mono ff⟩
  · obtain ⟨_, h1⟩ := oth j l es h1
    obtain ⟨_, h2⟩ := oth k m fs h2
    exact R.dist j k l es m fs h1 h2 h3
  · by_cases e : b = p
    · subst e; exact .inr (.inr ⟨i, false, .lst ds, he, e1⟩)
    · rw [upd_ne e] at h; exact .inl h
/-- the dict of a slot is known from here on, and locked -/
theorem Rel.freezeD (R : Rel K C σ H F env) {i : Nat} {t : Bool} {kds : List (D × D)} {p : Addr} {o : HO} (he : env[i]? = some (.dic t kds)) (hs : σ[i]? = some (some (.ref p))) (hp : H p = some o) (od : Obj) :
    Stp K C σ H F env (upd H p (.frz od o)) (upd F p (.frz od o)) (env.set i (.dat (.dict kds))) := by
  obtain ⟨p', u, e1, e2, e3, e4, e5⟩ := R.slot i _ he
  rw [hs] at e1
  cases e1
  rw [hp] at e2
  cases e2
  rw [if_neg (by decide)] at e4
  have ff : Le F (upd F p (.frz od o)) := fun b u h => by
    rw [upd_ne (ne_of_none h e3)]; exact h
  have hi : i < env.length := (List.getElem?_eq_some_iff.mp he).1
  have at1 : At K (upd F p (.frz od o)) (.dict kds) (.ref p) := by
    simp only [At]
    refine ⟨p, od, o, rfl, upd_same, ?_⟩
    have e5 := e5.mono ff
    cases t with
    | false => exact .inl e5
    | true => exact .inr e5
  have oth : ∀ (j : Nat) (l : Bool) (es : Ct), (env.set i (.dat (.dict kds)))[j]? = some (.obj l es) → j ≠ i ∧ env[j]? = some (.obj l es) := fun j l es h => by
    by_cases e : j = i
    · subst e; rw [List.getElem?_set_self hi] at h; cases h
    · rw [List.getElem?_set_ne (Ne.symm e)] at h; exact ⟨e, h⟩
  refine ⟨⟨⟨fun b u h => ?_, fun b u h => ff b u (R.mono b u h), fun b u h => ?_, fun b u h n => ?_, fun a h => ?_, by rw [List.length_set]; exact R.len, fun j sv e => ?_, fun j k l es m fs h1 h2 h3 => ?_⟩, R.xok⟩, ff, fun b u h n => ?_, fun b u h => ?_, fun j l es h => ⟨es, (oth j l es h).2⟩, fun b h => ?_⟩
  · by_cases e : b = p
    · subst e; rw [upd_same] at h ⊢; exact h
    · rw [upd_ne e] at h ⊢; exact R.frz b u h
  · by_cases e : b = p
    · subst e; exact .inr e4
    · rw [upd_ne e] at h; exact R.new b u h
  · have q := R.frame b u h n
    rw [upd_ne (fun z => by rw [z, e4] at h; cases h)]; exact q
  · obtain ⟨⟨xs, e⟩, f, g⟩ := R.la a h
    have ne : a ≠ p := by
      rintro rfl
      obtain ⟨o', g⟩ := g
      rw [g] at e4; cases e4
    exact ⟨⟨xs, by rw [upd_ne ne]; exact e⟩, by rw [upd_ne ne]; exact f, g⟩
  · by_cases e' : j = i
    · subst e'
      rw [List.getElem?_set_self hi] at e
      cases e
      exact ⟨_, hs, at1⟩
    · rw [List.getElem?_set_ne (Ne.symm e')] at e
      have q := R.slot j sv e
      cases sv with
      | un => trivial
      | raw z => exact q
      | dat d =>
        obtain ⟨v, f1, a⟩ := q
        exact ⟨v, f1, At.mono ff d v a⟩
      | obj l es =>
        obtain ⟨r, ys, f1, f2, f3, f4, f5⟩ := q
        have ne : r ≠ p := by
          rintro rfl
          exact e' (R.dist j i l es false _ e he (f1.trans hs.symm))
        exact ⟨r, ys, f1, by rw [upd_ne ne]; exact f2, by rw [upd_ne ne]; exact f3, f4, f5.mono ff⟩
  · obtain ⟨_, h1⟩ := oth j l es h1
    obtain ⟨_, h2⟩ := oth k m fs h2
    exact R.dist j k l es m fs h1 h2 h3
  · have ne : b ≠ p := by
      rintro rfl
      exact n ⟨i, false, _, he, hs⟩
    rw [upd_ne ne]; exact h
  · by_cases e : b = p
    · subst e; exact .inr (.inr ⟨i, false, _, he, hs⟩)
    · rw [upd_ne e] at h; exact .inl h
  · by_cases e : b = p
    · subst e; rw [upd_same] at h; cases h
    · rw [upd_ne e] at h; exact h
/-- the list of a slot is changed -/
theorem Rel.write (R : Rel K C σ H F env) {i : Nat} {l : Bool} {ds ds' : Ct} {p : Addr} {o' : HO} (he : env[i]? = some (.obj l ds)) (hs : σ[i]? = some (some (.ref p))) (h' : CtOk K F p o' ds') (hl' : l = true → ∃ xs, o' = .lst xs) :
    Stp K C σ H F env (upd H p o') F (env.set i (.obj l ds')) := by
  obtain ⟨p', xs, e1, e2, e3, e4, e5⟩ := R.slot i _ he
  rw [hs] at e1
  cases e1
  have hi : i < env.length := (List.getElem?_eq_some_iff.mp he).1
  have oth : ∀ (j : Nat) (m : Bool) (es : Ct), (env.set i (.obj l ds'))[j]? = some (.obj m es) → ∃ es', env[j]? = some (.obj m es') := fun j m es h => by
    by_cases e : j = i
    · subst e; rw [List.getElem?_set_self hi] at h; cases h; exact ⟨ds, he⟩
    · rw [List.getElem?_set_ne (Ne.symm e)] at h; exact ⟨es, h⟩
  refine ⟨⟨⟨fun b u h => ?_, R.mono, R.new, fun b u h n => ?_, fun a h => ?_, by rw [List.length_set]; exact R.len, fun j sv e => ?_, fun j k m es n fs h1 h2 h3 => ?_⟩, R.xok⟩, Le.rfl', fun b u h n => ?_, fun b u h => .inl h, oth, fun b h => ?_⟩
  · have ne : b ≠ p := by
      rintro rfl
      rw [e3] at h; cases h
    rw [upd_ne ne]; exact R.frz b u h
  · have ne : b ≠ p := by
      rintro rfl
      cases l with
      | true => exact n (by simpa using e4)
      | false => rw [if_neg (by decide)] at e4; rw [e4] at h; cases h
    rw [upd_ne ne]; exact R.frame b u h n
  · obtain ⟨⟨ys, e⟩, f, g⟩ := R.la a h
    refine ⟨?_, f, g⟩
    by_cases ne : a = p
    · subst ne
      cases l with
      | true =>
        obtain ⟨xs', rfl⟩ := hl' rfl
        exact ⟨xs', upd_same⟩
      | false =>
        obtain ⟨o, g⟩ := g
        rw [if_neg (by decide), g] at e4
        cases e4
    · exact ⟨ys, by rw [upd_ne ne]; exact e⟩
  · by_cases e' : j = i
    · subst e'
      rw [List.getElem?_set_self hi] at e
      cases e
      exact ⟨p, o', hs, upd_same, e3, e4, h'⟩
    · rw [List.getElem?_set_ne (Ne.symm e')] at e
      have q := R.slot j sv e
      cases sv with
      | un => trivial
      | raw z => exact q
      | dat d => exact q
      | obj m es =>
        obtain ⟨r, ys, f1, f2, f3, f4, f5⟩ := q
        have ne : r ≠ p := by
          rintro rfl
          exact e' (R.dist j i m es l ds e he (f1.trans hs.symm))
        exact ⟨r, ys, f1, by rw [upd_ne ne]; exact f2, f3, f4, f5⟩
  · obtain ⟨es', h1⟩ := oth j m es h1
    obtain ⟨fs', h2⟩ := oth k n fs h2
    exact R.dist j k m es' n fs' h1 h2 h3
  · have ne : b ≠ p := by
      rintro rfl
      exact n ⟨i, l, ds, he, hs⟩
    rw [upd_ne ne]; exact h
  · by_cases ne : b = p
    · subst ne; rw [upd_same] at h; cases h
    · rw [upd_ne ne] at h; exact h
theorem Rel.slotL (R : Rel K C σ H F env) {i : Nat} {l : Bool} {ds : List D} (he : env[i]? = some (.own l ds)) : ∃ p xs, σ[i]? = some (some (.ref p)) ∧ H p = some (.lst xs) ∧ F p = none ∧ (if l = true then C.la = some p else C.H0 p = none) ∧ AtAll K F ds xs := by
  obtain ⟨p, u, e1, e2, e3, e4, xs, rfl, e5⟩ := R.slot i _ he
  exact ⟨p, xs, e1, e2, e3, e4, e5⟩
theorem Rel.writeL (R : Rel K C σ H F env) {i : Nat} {l : Bool} {ds ds' : List D} {p : Addr} {xs' : List V} (he : env[i]? = some (.own l ds)) (hs : σ[i]? = some (some (.ref p))) (h' : AtAll K F ds' xs') :
    Stp K C σ H F env (upd H p (.lst xs')) F (env.set i (.own l ds')) := R.write he hs ⟨xs', rfl, h'⟩ fun _ => ⟨xs', rfl⟩
end
end Sw

set_option Elab.async false
set_option linter.all false
set_option maxRecDepth 100000
namespace Sw
open PySem PySem.Spec L2

/-! ### values of expressions -/
inductive OV where
  | dv (x : D)
  | sl (i : Nat)
def OvOk (K : FgK) (σ : L2.St) (F : Hp) : OV → V → Prop
  | .dv x, v => At K F x v
  | .sl i, v => σ[i]? = some (some v)
def svD : SV → Option D
  | .dat d => some d
  | .obj _ c => some c.toD
  | .un => none
  | .raw _ => none
/-- the data of a value, as it is now -/
def OV.rd (env : List SV) : OV → Option D
  | .dv x => some x
  | .sl i => env[i]?.bind svD
/-- the data of a value, known from here on -/
def OV.fz (env : List SV) : OV → Option (D × List SV)
  | .dv x => some (x, env)
  | .sl i => match env[i]? with
    | some (.dat d) => some (d, env)
    | some (.obj false (.lst ds)) => some (.list ds, env.set i (.dat (.list ds)))
    | _ => none
def fzAll (env : List SV) : List OV → Option (List D × List SV)
  | [] => some ([], env)
  | o :: r => (o.fz env).bind fun p => (fzAll p.2 r).map fun q => (p.1 :: q.1, q.2)
def rdAll (env : List SV) (os : List OV) : Option (List D) := match os with
  | [] => some []
  | o :: r => (o.rd env).bind fun d => (rdAll env r).map fun q => d :: q
/-- data that is read: the outermost list may be a slot's own -/
def Vw (K : FgK) (H F : Hp) : D → V → Prop
  | .list ds, v => ∃ p xs, v = .ref p ∧ H p = some (.lst xs) ∧ AtAll K F ds xs
  | .dict kds, v => ∃ p o, v = .ref p ∧ Rd H p o ∧ ∃ t, CtOk K F p o (.dic t kds)
  | d, v => At K F d v
section
variable {K : FgX} {C : Ec} {σ : L2.St} {H F H1 F1 H2 F2 : Hp} {env env1 env2 : List SV} {ov : OV} {v : V} {d : D}
theorem OvOk.of {d : D} (h : At K F d v) : OvOk K σ F (.dv d) v := h
theorem OvOk.mono (h : Le F F1) (a : OvOk K σ F ov v) : OvOk K σ F1 ov v := by
  cases ov with
  | dv x => exact At.mono h x v a
  | sl i => exact a
theorem Vw.of (R : Le F H) (a : At K F d v) : Vw K H F d v := by
  cases d with
  | list ds =>
    simp only [At] at a
    obtain ⟨p, xs, e, h, r⟩ := a
    exact ⟨p, xs, e, R _ _ h, r⟩
  | none => exact a
  | bool b => exact a
  | int i => exact a
  | str x => exact a
  | tuple ds => exact a
  | dict kds =>
    simp only [At] at a
    obtain ⟨p, od, o, e, h, r⟩ := a
    rcases r with r | r
    · exact ⟨p, o, e, .inr ⟨od, R _ _ h⟩, false, r⟩
    · exact ⟨p, o, e, .inr ⟨od, R _ _ h⟩, true, r⟩
theorem rd_vw (R : Rel K C σ H F env) (a : OvOk K σ F ov v) (e : ov.rd env = some d) : Vw K H F d v := by
  cases ov with
  | dv x =>
    simp only [OV.rd, Option.some.injEq] at e
    subst e
    exact Vw.of R.frz a
  | sl i =>
    simp only [OV.rd] at e
    cases q : env[i]? with
    | none => rw [q] at e; cases e
    | some sv =>
      rw [q] at e
      have w := R.slot i sv q
      have a : σ[i]? = some (some v) := a
      cases sv with
      | un => cases e
      | raw z => cases e
      | dat d' =>
        simp only [Option.bind_some, svD, Option.some.injEq] at e
        subst e
        obtain ⟨v', e1, a'⟩ := w
        rw [a] at e1
        cases e1
        exact Vw.of R.frz a'
      | obj l c =>
        simp only [Option.bind_some, svD, Option.some.injEq] at e
        subst e
        obtain ⟨p, u, e1, e2, e3, e4, e5⟩ := w
        rw [a] at e1
        cases e1
        cases c with
        | lst ds =>
          obtain ⟨xs, rfl, e5⟩ := e5
          exact ⟨p, xs, rfl, e2, e5⟩
        | dic t kds => exact ⟨p, u, rfl, .inl e2, t, e5⟩
theorem fz_ok (R : Rel K C σ H F env) (a : OvOk K σ F ov v) (e : ov.fz env = some (d, env1)) : ∃ F1, Stp K C σ H F env H F1 env1 ∧ At K F1 d v := by
  cases ov with
  | dv x =>
    simp only [OV.fz, Option.some.injEq, Prod.mk.injEq] at e
    obtain ⟨rfl, rfl⟩ := e
    exact ⟨F, Stp.refl R, a⟩
  | sl i =>
    have a : σ[i]? = some (some v) := a
    simp only [OV.fz] at e
    split at e
    · rename_i d' q
      simp only [Option.some.injEq, Prod.mk.injEq] at e
      obtain ⟨rfl, rfl⟩ := e
      obtain ⟨v', e1, a'⟩ := R.slot i _ q
      rw [a] at e1
      cases e1
      exact ⟨F, Stp.refl R, a'⟩
    · rename_i ds q
      simp only [Option.some.injEq, Prod.mk.injEq] at e
      obtain ⟨rfl, rfl⟩ := e
      obtain ⟨F1, p, e1, st, a'⟩ := R.freezeSlot q
      rw [a] at e1
      cases e1
      exact ⟨F1, st, a'⟩
    · cases e
def OvsOk (K : FgK) (σ : L2.St) (F : Hp) : List OV → List V → Prop
  | [], vs => vs = []
  | o :: os, vs => ∃ v r, vs = v :: r ∧ OvOk K σ F o v ∧ OvsOk K σ F os r
theorem OvsOk.mono (h : Le F F1) : ∀ {os : List OV} {vs : List V}, OvsOk K σ F os vs → OvsOk K σ F1 os vs
  | [], vs, a => a
  | o :: os, vs, a => by
    obtain ⟨v, r, e, b, c⟩ := a
    exact ⟨v, r, e, b.mono h, OvsOk.mono h c⟩
theorem fzAll_ok : ∀ {os : List OV} {vs : List V} {ds : List D} {F : Hp} {env env1 : List SV}, Rel K C σ H F env → OvsOk K σ F os vs → fzAll env os = some (ds, env1) → ∃ F1, Stp K C σ H F env H F1 env1 ∧ AtAll K F1 ds vs
  | [], vs, ds, F, env, env1, R, a, e => by
    simp only [fzAll, Option.some.injEq, Prod.mk.injEq] at e
    obtain ⟨rfl, rfl⟩ := e
    have a : vs = [] := a
    exact ⟨F, Stp.refl R, by simpa [AtAll] using a⟩
  | o :: os, vs, ds, F, env, env1, R, a, e => by
    obtain ⟨v, r, rfl, b, c⟩ := a
    simp only [fzAll] at e
    cases q : o.fz env with
    | none => rw [q] at e; cases e
    | some p =>
      obtain ⟨d, env2⟩ := p
      rw [q] at e
      simp only [Option.bind_some] at e
      cases q2 : fzAll env2 os with
      | none => rw [q2] at e; cases e
      | some p2 =>
        obtain ⟨ds2, env3⟩ := p2
        rw [q2] at e
        simp only [Option.map_some, Option.some.injEq, Prod.mk.injEq] at e
        obtain ⟨rfl, rfl⟩ := e
        obtain ⟨F1, s1, a1⟩ := fz_ok R b q
        obtain ⟨F2, s2, a2⟩ := fzAll_ok s1.rel (c.mono s1.ff) q2
        exact ⟨F2, s1.trans s2, AtAll.cons (At.mono s2.ff _ _ a1) a2⟩
end

/-! ### the judgements -/
abbrev PE' := List SV → (OV → List SV → Prop) → Prop
abbrev PF' := List SV → (List D → List SV → Prop) → Prop
abbrev PT' := List SV → (Bool → List SV → Prop) → Prop
abbrev PA' := List SV → (List OV → List SV → Prop) → Prop
def LE (K : FgX) (t : TE) (T : PE') : Prop := ∀ (C : Ec) (σ : L2.St) (H F : Hp) (env : List SV) (Q : VK) (Qp : OV → List SV → Prop), Rel K C σ H F env →
  (∀ v H' F' env' ov, Stp K C σ H F env H' F' env' → OvOk K σ F' ov v → Qp ov env' → Q v H') → T env Qp → t σ H Q
/-- a list that nobody else holds -/
def LF (K : FgX) (t : TE) (T : PF') : Prop := ∀ (C : Ec) (σ : L2.St) (H F : Hp) (env : List SV) (Q : VK) (Qp : List D → List SV → Prop), Rel K C σ H F env →
  (∀ p xs ds H' F' env', Stp K C σ H F env H' F' env' → H' p = some (.lst xs) → F' p = none → C.H0 p = none → ¬ Own σ env' p → H p = none → AtAll K F' ds xs → Qp ds env' → Q (.ref p) H') → T env Qp → t σ H Q
def LT (K : FgX) (t : TT) (T : PT') : Prop := ∀ (C : Ec) (σ : L2.St) (H F : Hp) (env : List SV) (Q : Bool → Hp → Prop) (Qp : Bool → List SV → Prop), Rel K C σ H F env →
  (∀ b H' F' env', Stp K C σ H F env H' F' env' → Qp b env' → Q b H') → T env Qp → t σ H Q
def LA (K : FgX) (t : TA) (T : PA') : Prop := ∀ (C : Ec) (σ : L2.St) (H F : Hp) (env : List SV) (Q : List V → Hp → Prop) (Qp : List OV → List SV → Prop), Rel K C σ H F env →
  (∀ vs H' F' env' ovs, Stp K C σ H F env H' F' env' → OvsOk K σ F' ovs vs → Qp ovs env' → Q vs H') → T env Qp → t σ H Q
structure EV (X : Cz) (e : Expr) (T : PE') : Prop where
  ex : ∃ t, PE X e t ∧ LE X.fr t T
structure EF (X : Cz) (e : Expr) (T : PF') : Prop where
  ex : ∃ t, PE X e t ∧ LF X.fr t T
structure ET (X : Cz) (e : Expr) (T : PT') : Prop where
  ex : ∃ t, PT X e t ∧ LT X.fr t T
structure EW (X : Cz) (e : Expr) (T : PT') : Prop where
  ex : ∃ t, PW X e t ∧ LT X.fr t T
structure EA (X : Cz) (es : List Expr) (T : PA') : Prop where
  ex : ∃ t, PA X es t ∧ LA X.fr t T

inductive RV where
  | dt (x : D)
  | fr (ds : List D)
def RV.toD : RV → D
  | .dt x => x
  | .fr ds => .list ds
structure PEnds where
  nx : List SV → Prop
  rt : RV → List SV → Prop
  bk : List SV → Prop := fun _ => False
  ct : List SV → Prop := fun _ => False
def RvOk (K : FgK) (C : Ec) (H F : Hp) : RV → V → Prop
  | .dt x, v => At K F x v
  | .fr ds, v => ∃ p xs, v = .ref p ∧ H p = some (.lst xs) ∧ F p = none ∧ C.H0 p = none ∧ AtAll K F ds xs
structure EndsOk (K : FgX) (C : Ec) (F : Hp) (D : Ends) (Dp : PEnds) : Prop where
  nx : ∀ σ' H' F' env', Rel K C σ' H' F' env' → Le F F' → Dp.nx env' → D.nx σ' H'
  rt : ∀ σ' H' F' env' rv v, Rel K C σ' H' F' env' → Le F F' → RvOk K C H' F' rv v → Dp.rt rv env' → D.rt v H'
  bk : ∀ σ' H' F' env', Rel K C σ' H' F' env' → Le F F' → Dp.bk env' → D.bk σ' H'
  ct : ∀ σ' H' F' env', Rel K C σ' H' F' env' → Le F F' → Dp.ct env' → D.ct σ' H'
theorem EndsOk.mono {K : FgX} {C : Ec} {F F1 : Hp} {D : Ends} {Dp : PEnds} (e : EndsOk K C F D Dp) (h : Le F F1) : EndsOk K C F1 D Dp :=
  ⟨fun σ' H' F' env' R l => e.nx σ' H' F' env' R (h.trans' l), fun σ' H' F' env' rv v R l => e.rt σ' H' F' env' rv v R (h.trans' l), fun σ' H' F' env' R l => e.bk σ' H' F' env' R (h.trans' l), fun σ' H' F' env' R l => e.ct σ' H' F' env' R (h.trans' l)⟩
abbrev PS' := PEnds → List SV → Prop
def LS (K : FgX) (t : TS) (T : PS') : Prop := ∀ (C : Ec) (σ : L2.St) (H F : Hp) (env : List SV) (D : Ends) (Dp : PEnds), Rel K C σ H F env → EndsOk K C F D Dp → T Dp env → t D σ H
structure ES (X : Cz) (st : Stmt) (T : PS') : Prop where
  ex : ∃ t, PS X st t ∧ LS X.fr t T
structure EB (X : Cz) (sts : List Stmt) (T : PS') : Prop where
  ex : ∃ t, PSs X sts t ∧ LS X.fr t T

/-! ### names and constants -/
section
variable {X : Cz}
def qVar (i : Nat) : PE' := fun env Q => (∃ d, env[i]?.bind svD = some d) ∧ Q (.sl i) env
theorem qv (i : Nat) {x : Str} {pos : Pos} (hN : X.N[i]? = some x := by rfl) (hv : Vis X.env.scope x := by first | exact Or.inl rfl | exact Or.inr (Or.inl rfl) | exact Or.inr (Or.inr rfl)) (hd : (x == ("__debug__" : Str)) = false := by decide)
    (hcd : (x == ("__classdict__" : Str)) = false := by decide) : EV X (.Name x pos) (qVar i) := by
  refine ⟨_, pe_var hN hv hd hcd, fun C σ H F env Q Qp R k h => ?_⟩
  obtain ⟨⟨d, e⟩, h⟩ := h
  cases q : env[i]? with
  | none => rw [q] at e; cases e
  | some sv =>
    rw [q] at e
    have w := R.slot i sv q
    cases sv with
    | un => cases e
    | raw z => cases e
    | dat d' =>
      obtain ⟨v, e1, a⟩ := w
      exact ⟨v, e1, k v H F env (.sl i) (Stp.refl R) e1 h⟩
    | obj l ds =>
      obtain ⟨p, xs, e1, _⟩ := w
      exact ⟨.ref p, e1, k (.ref p) H F env (.sl i) (Stp.refl R) e1 h⟩
def qC (x : D) : PE' := fun env Q => Q (.dv x) env
theorem LE.const {K : FgX} {v : V} {x : D} (h : ∀ F, At K F x v) : LE K (tC v) (qC x) := fun C σ H F env Q Qp R k q => k v H F env (.dv x) (Stp.refl R) (h F) q
theorem q_int {i j pos} : EV X (.Constant (.int i) j pos) (qC (.int i)) := ⟨_, pe_int, LE.const fun F => by simp [At]⟩
theorem q_bl {b j pos} : EV X (.Constant (.bool b) j pos) (qC (.bool b)) := ⟨_, pe_bl, LE.const fun F => by simp [At]⟩
theorem q_non {j pos} : EV X (.Constant .none j pos) (qC .none) := ⟨_, pe_non, LE.const fun F => by simp [At]⟩
theorem q_str {x j pos} : EV X (.Constant (.str x) j pos) (qC (.str x)) := ⟨_, pe_str, LE.const fun F => by simp [At]⟩
theorem q_gstr {x : Str} {z : Str} {t : Tok} {pos : Pos} (hg : Gl X x) (hm : X.mg x = some (.str z t)) (hd : (x == ("__debug__" : Str)) = false := by decide) : EV X (.Name x pos) (qC (.str z)) :=
  ⟨_, pe_glob hg hm (v := .str z) ⟨t, rfl⟩ hd, LE.const fun F => by simp [At]⟩
/-- a list that nobody holds, as any value -/
def qF (T : PF') : PE' := fun env Q => T env fun ds env' => Q (.dv (.list ds)) env'
theorem EF.ev {e : Expr} {T : PF'} (h : EF X e T) : EV X e (qF T) := by
  obtain ⟨t, hp, l⟩ := h.ex
  refine ⟨t, hp, fun C σ H F env Q Qp R k q => ?_⟩
  refine l C σ H F env Q _ R (fun p xs ds H' F' env' st hp fp h0 no hn a q => ?_) q
  have ff : Le F' (upd F' p (.lst xs)) := fun b u h => by
    rw [upd_ne (ne_of_none h fp)]; exact h
  refine k (.ref p) H' (upd F' p (.lst xs)) env' (.dv (.list ds)) ⟨st.rel.freeze hp fp h0 no, st.ff.trans' ff, st.fr, fun b o h => ?_, st.ow, st.dm⟩ ?_ q
  · by_cases e : b = p
    · subst e; exact .inr (.inl hn)
    · rw [upd_ne e] at h; exact st.fn b o h
  · show At X.fr _ _ _
    simp only [At]
    exact ⟨p, xs, rfl, upd_same, AtAll.mono ff _ _ a⟩
/-! ### argument lists -/
def qNil : PA' := fun env Q => Q [] env
def qCons (T : PE') (R : PA') : PA' := fun env Q => T env fun o env1 => R env1 fun os env2 => Q (o :: os) env2
theorem qa_nil : EA X [] qNil := ⟨_, pa_nil, fun C σ H F env Q Qp R k q => k [] H F env [] (Stp.refl R) rfl q⟩
theorem qa_cons {e : Expr} {es : List Expr} {T : PE'} {R : PA'} (ha : EV X e T) (hr : EA X es R) (hs : starEach (e :: es) X.env = (false, eval e X.env) :: starEach es X.env := by rfl) : EA X (e :: es) (qCons T R) := by
  obtain ⟨t, h1, l1⟩ := ha.ex
  obtain ⟨u, h2, l2⟩ := hr.ex
  refine ⟨_, pa_cons h1 h2 hs, fun C σ H F env Q Qp R k q => ?_⟩
  refine l1 C σ H F env _ _ R (fun v H1 F1 env1 ov s1 a1 q1 => ?_) q
  refine l2 C σ H1 F1 env1 _ _ s1.rel (fun vs H2 F2 env2 ovs s2 a2 q2 => ?_) q1
  exact k (v :: vs) H2 F2 env2 (ov :: ovs) (s1.trans s2) ⟨v, vs, rfl, a1.mono s2.ff, a2⟩ q2
/-! ### displays -/
theorem At.list_of {K : FgK} {F : Hp} {p : Addr} {xs : List V} {ds : List D} (h : F p = some (.lst xs)) (a : AtAll K F ds xs) : At K F (.list ds) (.ref p) := by
  simp only [At]
  exact ⟨p, xs, rfl, h, a⟩
theorem At.tup_of {K : FgK} {F : Hp} {p : Addr} {xs : List V} {ds : List D} (h : F p = some (.tup xs)) (a : AtAll K F ds xs) : At K F (.tuple ds) (.ref p) := by
  simp only [At]
  exact ⟨p, xs, rfl, .inl h, a⟩
def qTup (T : PA') : PE' := fun env Q => T env fun os env1 => ∃ ds env2, fzAll env1 os = some (ds, env2) ∧ ds.length ≤ sizeLine ∧ Q (.dv (.tuple ds)) env2
theorem q_tup {es : List Expr} {x1} {pos : Pos} {T : PA'} (h : EA X es T) : EV X (.Tuple es x1 pos) (qTup T) := by
  obtain ⟨t, h1, l1⟩ := h.ex
  refine ⟨_, pe_tup h1, fun C σ H F env Q Qp R k q => ?_⟩
  refine l1 C σ H F env _ _ R (fun vs H1 F1 env1 os s1 a1 q1 => ?_) q
  obtain ⟨ds, env2, e, hz, q2⟩ := q1
  obtain ⟨F2, s2, a2⟩ := fzAll_ok s1.rel a1 e
  refine ⟨by rw [a2.len]; exact hz, fun p hp => ?_⟩
  have s3 := s2.rel.alloc (o := .tup vs) hp
  exact k (.ref p) _ _ env2 (.dv (.tuple ds)) ((s1.trans s2).trans s3) (At.tup_of upd_same (AtAll.mono s3.ff _ _ a2)) q2
def fLst (T : PA') : PF' := fun env Q => T env fun os env1 => ∃ ds env2, fzAll env1 os = some (ds, env2) ∧ ds.length ≤ sizeLine ∧ Q ds env2
theorem f_lst {es : List Expr} {pos : Pos} {T : PA'} (h : EA X es T) : EF X (.List es pos) (fLst T) := by
  obtain ⟨t, h1, l1⟩ := h.ex
  refine ⟨_, pe_lst h1, fun C σ H F env Q Qp R k q => ?_⟩
  refine l1 C σ H F env _ _ R (fun vs H1 F1 env1 os s1 a1 q1 => ?_) q
  obtain ⟨ds, env2, e, hz, q2⟩ := q1
  obtain ⟨F2, s2, a2⟩ := fzAll_ok s1.rel a1 e
  refine ⟨by rw [a2.len]; exact hz, fun p hp => ?_⟩
  obtain ⟨s3, f3, h3, n3⟩ := s2.rel.alloc0 (o := .lst vs) hp
  exact k p vs ds _ F2 env2 ((s1.trans s2).trans s3) upd_same f3 h3 n3 (s1.dm p (s2.dm p hp)) a2 q2
end
end Sw

set_option Elab.async false
set_option linter.all false
set_option maxRecDepth 100000
namespace Sw
open PySem PySem.Spec L2

/-! ### operators by data -/
def LO2 (K : FgX) (r : R2) (g : D → D → Option D) : Prop := ∀ (C : Ec) (σ : L2.St) (H F : Hp) (env : List SV) (x y : V) (dx dy d : D) (Q : VK), Rel K C σ H F env → Vw K H F dx x → Vw K H F dy y → g dx dy = some d →
  (∀ v H' F', Stp K C σ H F env H' F' env → At K F' d v → Q v H') → r x y H Q
theorem LO2.or {K : FgX} {r r' : R2} {g g' : D → D → Option D} (h : LO2 K r g) (h' : LO2 K r' g') : LO2 K (fun x y H Q => r x y H Q ∨ r' x y H Q) (fun a b => (g a b).or (g' a b)) := fun C σ H F env x y dx dy d Q R a b e k => by
  have e : (g dx dy).or (g' dx dy) = some d := e
  cases q : g dx dy with
  | none =>
    rw [q] at e
    exact .inr (h' C σ H F env x y dx dy d Q R a b e k)
  | some z =>
    rw [q] at e
    cases e
    exact .inl (h C σ H F env x y dx dy d Q R a b q k)
section
variable {X : Cz} {K : FgX}
def qOp (g : D → D → Option D) (A B : PE') : PE' := fun env Q => A env fun o1 env1 => B env1 fun o2 env2 => ∃ d1, o1.rd env2 = some d1 ∧ ∃ d2, o2.rd env2 = some d2 ∧ ∃ d, g d1 d2 = some d ∧ Q (.dv d) env2
theorem LE.op {r : R2} {g : D → D → Option D} {ta tb : TE} {A B : PE'} (hl : LO2 K r g) (la : LE K ta A) (lb : LE K tb B) : LE K (tOp r ta tb) (qOp g A B) := fun C σ H F env Q Qp R k q => by
  refine la C σ H F env _ _ R (fun v1 H1 F1 env1 o1 s1 a1 q1 => ?_) q
  refine lb C σ H1 F1 env1 _ _ s1.rel (fun v2 H2 F2 env2 o2 s2 a2 q2 => ?_) q1
  obtain ⟨d1, e1, d2, e2, d, e, q2⟩ := q2
  exact hl C σ H2 F2 env2 v1 v2 d1 d2 d Q s2.rel (rd_vw s2.rel (a1.mono s2.ff) e1) (rd_vw s2.rel a2 e2) e fun v H' F' s3 a3 => k v H' F' env2 (.dv d) ((s1.trans s2).trans s3) a3 q2
theorem q_op {op : Operator} {r : R2} {g : D → D → Option D} {a b : Expr} {A B : PE'} {pos : Pos} (ho : OpR X (binaryOp op) r) (hl : LO2 X.fr r g) (ha : EV X a A) (hb : EV X b B) : EV X (.BinOp a op b pos) (qOp g A B) := by
  obtain ⟨ta, h1, l1⟩ := ha.ex
  obtain ⟨tb, h2, l2⟩ := hb.ex
  exact ⟨_, pe_op ho h1 h2, LE.op hl l1 l2⟩
theorem q_cmp {op : CmpOp} {r : R2} {g : D → D → Option D} {a b : Expr} {A B : PE'} {pos : Pos} (ho : OpR X (compareOp op) r) (hl : LO2 X.fr r g) (ha : EV X a A) (hb : EV X b B) (hm : behindInMarks op b = false) : EV X (.Compare a [op] [b] pos) (qOp g A B) := by
  obtain ⟨ta, h1, l1⟩ := ha.ex
  obtain ⟨tb, h2, l2⟩ := hb.ex
  exact ⟨_, pe_cmpR ho h1 h2 hm, LE.op hl l1 l2⟩
/-- a value that is a bool, as a test -/
def qTest (A : PE') : PT' := fun env Q => A env fun o env1 => ∃ b, o.rd env1 = some (.bool b) ∧ Q b env1
theorem LT.test {ta : TE} {A : PE'} (la : LE K ta A) : LT K (fun σ H Q => ta σ H fun x H' => ∃ k, x = .bl k ∧ Q k H') (qTest A) := fun C σ H F env Q Qp R k q => by
  refine la C σ H F env _ _ R (fun v1 H1 F1 env1 o1 s1 a1 q1 => ?_) q
  obtain ⟨b, e, q1⟩ := q1
  have w := rd_vw s1.rel a1 e
  have w : v1 = .bl b := by simpa [Vw, At] using w
  exact ⟨b, w, k b H1 F1 env1 s1 q1⟩
theorem t_cmp {op : CmpOp} {r : R2} {g : D → D → Option D} {a b : Expr} {A B : PE'} {pos : Pos} (ho : OpR X (compareOp op) r) (hl : LO2 X.fr r g) (ha : EV X a A) (hb : EV X b B) (hm : behindInMarks op b = false) : ET X (.Compare a [op] [b] pos) (qTest (qOp g A B)) := by
  obtain ⟨ta, h1, l1⟩ := ha.ex
  obtain ⟨tb, h2, l2⟩ := hb.ex
  exact ⟨_, pt_cmpR ho h1 h2 hm, LT.test (LE.op hl l1 l2)⟩
theorem t_val {e : Expr} {A : PE'} (h : EV X e A) (he : ∀ whole, isTrue e X.env whole = (do let v ← whole; standAt e.pos; holding [v] (truthy v)) := by intro _; rfl) : ET X e (qTest A) := by
  obtain ⟨t, h1, l1⟩ := h.ex
  exact ⟨_, pt_val h1 he, LT.test l1⟩
/-! ### and, or, not -/
def tAnd' (A B : PT') : PT' := fun env Q => A env fun c env1 => if c = true then B env1 Q else Q false env1
def tOr' (A B : PT') : PT' := fun env Q => A env fun c env1 => if c = true then Q true env1 else B env1 Q
def tNot' (A : PT') : PT' := fun env Q => A env fun c env1 => Q (!c) env1
theorem EW.et {e : Expr} {T : PT'} (h : EW X e T) : ET X e T := by
  obtain ⟨t, h1, l1⟩ := h.ex
  exact ⟨t, h1.pt, l1⟩
theorem w_and1 {a : Expr} {pos : Pos} {A : PT'} (h : ET X a A) : EW X (.BoolOp .And [a] pos) A := by
  obtain ⟨t, h1, l1⟩ := h.ex
  exact ⟨t, pw_and1 h1, l1⟩
theorem w_or1 {a : Expr} {pos : Pos} {A : PT'} (h : ET X a A) : EW X (.BoolOp .Or [a] pos) A := by
  obtain ⟨t, h1, l1⟩ := h.ex
  exact ⟨t, pw_or1 h1, l1⟩
theorem w_and {a b : Expr} {rest : List Expr} {pos : Pos} {A B : PT'} (h : ET X a A) (g : EW X (.BoolOp .And (b :: rest) pos) B) : EW X (.BoolOp .And (a :: b :: rest) pos) (tAnd' A B) := by
  obtain ⟨t, h1, l1⟩ := h.ex
  obtain ⟨u, h2, l2⟩ := g.ex
  refine ⟨_, pw_and h1 h2, fun C σ H F env Q Qp R k q => ?_⟩
  refine l1 C σ H F env _ _ R (fun c H1 F1 env1 s1 q1 => ?_) q
  cases c with
  | true =>
    rw [if_pos rfl] at q1 ⊢
    exact l2 C σ H1 F1 env1 _ _ s1.rel (fun b H2 F2 env2 s2 q2 => k b H2 F2 env2 (s1.trans s2) q2) q1
  | false =>
    rw [if_neg (by decide)] at q1 ⊢
    exact k false H1 F1 env1 s1 q1
theorem w_or {a b : Expr} {rest : List Expr} {pos : Pos} {A B : PT'} (h : ET X a A) (g : EW X (.BoolOp .Or (b :: rest) pos) B) : EW X (.BoolOp .Or (a :: b :: rest) pos) (tOr' A B) := by
  obtain ⟨t, h1, l1⟩ := h.ex
  obtain ⟨u, h2, l2⟩ := g.ex
  refine ⟨_, pw_or h1 h2, fun C σ H F env Q Qp R k q => ?_⟩
  refine l1 C σ H F env _ _ R (fun c H1 F1 env1 s1 q1 => ?_) q
  cases c with
  | true =>
    rw [if_pos rfl] at q1 ⊢
    exact k true H1 F1 env1 s1 q1
  | false =>
    rw [if_neg (by decide)] at q1 ⊢
    exact l2 C σ H1 F1 env1 _ _ s1.rel (fun b H2 F2 env2 s2 q2 => k b H2 F2 env2 (s1.trans s2) q2) q1
theorem t_not {a : Expr} {pos : Pos} {A : PT'} (h : ET X a A) : ET X (.UnaryOp .Not a pos) (tNot' A) := by
  obtain ⟨t, h1, l1⟩ := h.ex
  exact ⟨_, pt_not h1, fun C σ H F env Q Qp R k q => l1 C σ H F env _ _ R (fun c H1 F1 env1 s1 q1 => k (!c) H1 F1 env1 s1 q1) q⟩
/-! .. as values -/
def qAnd (A B : PE') : PE' := fun env Q => qTest A env fun c env1 => if c = true then B env1 Q else Q (.dv (.bool false)) env1
def qOr (A B : PE') : PE' := fun env Q => qTest A env fun c env1 => if c = true then Q (.dv (.bool true)) env1 else B env1 Q
def qNot (A : PE') : PE' := fun env Q => qTest A env fun c env1 => Q (.dv (.bool (!c))) env1
theorem q_one {op} {a : Expr} {pos : Pos} {A : PE'} (h : EV X a A) : EV X (.BoolOp op [a] pos) A := by
  obtain ⟨t, h1, l1⟩ := h.ex
  exact ⟨t, pe_one h1, l1⟩
theorem q_and {a b : Expr} {rest : List Expr} {pos : Pos} {A B : PE'} (h : EV X a A) (g : EV X (.BoolOp .And (b :: rest) pos) B) : EV X (.BoolOp .And (a :: b :: rest) pos) (qAnd A B) := by
  obtain ⟨t, h1, l1⟩ := h.ex
  obtain ⟨u, h2, l2⟩ := g.ex
  refine ⟨_, pe_and h1 h2, fun C σ H F env Q Qp R k q => ?_⟩
  refine (LT.test l1) C σ H F env (fun c H1 => if c = true then u σ H1 Q else Q (.bl false) H1) _ R (fun c H1 F1 env1 s1 q1 => ?_) q
  cases c with
  | true =>
    rw [if_pos rfl] at q1 ⊢
    exact l2 C σ H1 F1 env1 _ _ s1.rel (fun v H2 F2 env2 o s2 a2 q2 => k v H2 F2 env2 o (s1.trans s2) a2 q2) q1
  | false =>
    rw [if_neg (by decide)] at q1 ⊢
    exact k (.bl false) H1 F1 env1 (.dv (.bool false)) s1 (by simp [OvOk, At]) q1
theorem q_or {a b : Expr} {rest : List Expr} {pos : Pos} {A B : PE'} (h : EV X a A) (g : EV X (.BoolOp .Or (b :: rest) pos) B) : EV X (.BoolOp .Or (a :: b :: rest) pos) (qOr A B) := by
  obtain ⟨t, h1, l1⟩ := h.ex
  obtain ⟨u, h2, l2⟩ := g.ex
  refine ⟨_, pe_or h1 h2, fun C σ H F env Q Qp R k q => ?_⟩
  refine (LT.test l1) C σ H F env (fun c H1 => if c = true then Q (.bl true) H1 else u σ H1 Q) _ R (fun c H1 F1 env1 s1 q1 => ?_) q
  cases c with
  | true =>
    rw [if_pos rfl] at q1 ⊢
    exact k (.bl true) H1 F1 env1 (.dv (.bool true)) s1 (by simp [OvOk, At]) q1
  | false =>
    rw [if_neg (by decide)] at q1 ⊢
    exact l2 C σ H1 F1 env1 _ _ s1.rel (fun v H2 F2 env2 o s2 a2 q2 => k v H2 F2 env2 o (s1.trans s2) a2 q2) q1
theorem q_not {a : Expr} {pos : Pos} {A : PE'} (h : EV X a A) : EV X (.UnaryOp .Not a pos) (qNot A) := by
  obtain ⟨t, h1, l1⟩ := h.ex
  refine ⟨_, pe_not h1, fun C σ H F env Q Qp R k q => ?_⟩
  exact (LT.test l1) C σ H F env (fun c H1 => Q (.bl (!c)) H1) _ R (fun c H1 F1 env1 s1 q1 => k (.bl (!c)) H1 F1 env1 (.dv (.bool (!c))) s1 (by simp [OvOk, At]) q1) q
/-! ### the operators -/
theorem Vw.int {H F : Hp} {i : Int} {x : V} (h : Vw K H F (.int i) x) : x = .int i := by simpa [Vw, At] using h
theorem Vw.str {H F : Hp} {i : Str} {x : V} (h : Vw K H F (.str i) x) : x = .str i := by simpa [Vw, At] using h
theorem Vw.bl {H F : Hp} {i : Bool} {x : V} (h : Vw K H F (.bool i) x) : x = .bl i := by simpa [Vw, At] using h
theorem Vw.non {H F : Hp} {x : V} (h : Vw K H F .none x) : x = .non := by simpa [Vw, At] using h
theorem Vw.tup0 {H F : Hp} {ds : List D} {x : V} (R : Le F H) (h : Vw K H F (.tuple ds) x) : ∃ a xs, x = .ref a ∧ TupAt K H a xs ∧ AtAll K F ds xs := by
  have h : At K F (.tuple ds) x := h
  simp only [At] at h
  obtain ⟨a, xs, e, q, r⟩ := h
  exact ⟨a, xs, e, Le.tupAt R q, r⟩
theorem Vw.tup {H F : Hp} {ds : List D} {x : V} (R : Le F H) (h : Vw K H F (.tuple ds) x) : ∃ a xs, x = .ref a ∧ SqT K H a xs ∧ AtAll K F ds xs := by
  obtain ⟨a, xs, e, q, r⟩ := h.tup0 R
  exact ⟨a, xs, e, q.sqT, r⟩
/-- of two ints -/
def gI (g : Int → Int → Option D) : D → D → Option D
  | .int i, .int j => g i j
  | _, _ => none
theorem LO2.ints {r : R2} {g : Int → Int → Option D} (h : ∀ (i j : Int) (d : D) (H : Hp) (Q : VK), g i j = some d → (∀ v, (∀ F, At K F d v) → Q v H) → r (.int i) (.int j) H Q) : LO2 K r (gI g) := fun C σ H F env x y dx dy d Q R a b e k => by
  cases dx with
  | int i =>
    cases dy with
    | int j =>
      rw [a.int, b.int]
      exact h i j d H Q e fun v hv => k v H F (Stp.refl R) (hv F)
    | _ => cases e
  | _ => cases e
def dSub : Int → Int → Option D := fun i j => some (.int (i - j))
theorem l_sub : LO2 K (rI0 fun i j => .int (i - j)) (gI dSub) := LO2.ints fun i j d H Q e k => by cases e; exact ⟨i, j, rfl, rfl, k _ fun F => by simp [At]⟩
def gDiv : Int → Int → Option D := fun i j => if 0 < j ∧ j < 1073741824 then some (.int (i / j)) else none
theorem l_div : LO2 K (rI CDiv fun i j => .int (i / j)) (gI gDiv) := LO2.ints fun i j d H Q e k => by
  unfold gDiv at e
  split at e
  · cases e; exact ⟨i, j, rfl, rfl, ‹_›, k _ fun F => by simp [At]⟩
  · cases e
def gMod : Int → Int → Option D := fun i j => if 0 < j then some (.int (i % j)) else none
theorem l_mod : LO2 K (rI (fun _ j => 0 < j) fun i j => .int (i % j)) (gI gMod) := LO2.ints fun i j d H Q e k => by
  unfold gMod at e
  split at e
  · cases e; exact ⟨i, j, rfl, rfl, ‹_›, k _ fun F => by simp [At]⟩
  · cases e
def gPow : Int → Int → Option D := fun i j => if 0 ≤ j ∧ j ≤ 1000000 ∧ i.natAbs < 2 ^ 64 then some (.int (i ^ j.toNat)) else none
theorem l_pow : LO2 K (rI CPow fun i j => .int (i ^ j.toNat)) (gI gPow) := LO2.ints fun i j d H Q e k => by
  unfold gPow at e
  split at e
  · cases e; exact ⟨i, j, rfl, rfl, ‹_›, k _ fun F => by simp [At]⟩
  · cases e
def gCmp (p : Int → Int → Bool) : Int → Int → Option D := fun i j => some (.bool (p i j))
theorem l_cmp {p : Int → Int → Bool} : LO2 K (rI0 fun i j => .bl (p i j)) (gI (gCmp p)) := LO2.ints fun i j d H Q e k => by cases e; exact ⟨i, j, rfl, rfl, k _ fun F => by simp [At]⟩
/-- a + b -/
def gAdd : D → D → Option D
  | .int a, .int b => some (.int (a + b))
  | .str a, .str b => if a.length + b.length ≤ sizeLine then some (.str (a ++ b)) else none
  | .list a, .list b => if a.length + b.length ≤ sizeLine then some (.list (a ++ b)) else none
  | .tuple a, .tuple b => if a.length + b.length ≤ sizeLine then some (.tuple (a ++ b)) else none
  | _, _ => none
abbrev rAddA (K : FgK) : R2 := fun x y H Q => rI0 (fun i j => .int (i + j)) x y H Q ∨ (fun x y H Q => (∃ i j, x = .str i ∧ y = .str j ∧ i.length + j.length ≤ sizeLine ∧ Q (.str (i ++ j)) H) ∨ (fun x y H Q => rCat x y H Q ∨ rCatA K x y H Q) x y H Q) x y H Q
theorem op_addA : OpR X (binaryOp .Add) (rAddA X.fr) := op_add.or (op_add_str.or (op_cat.or op_catA))
theorem l_add : LO2 K (rAddA K) gAdd := fun C σ H F env x y dx dy d Q R a b e k => by
  unfold gAdd at e
  split at e
  · cases e
    rw [a.int, b.int]
    exact .inl ⟨_, _, rfl, rfl, k _ H F (Stp.refl R) (by simp [At])⟩
  · split at e
    · cases e
      rw [a.str, b.str]
      exact .inr (.inl ⟨_, _, rfl, rfl, ‹_›, k _ H F (Stp.refl R) (by simp [At])⟩)
    · cases e
  · split at e
    · cases e
      obtain ⟨p, xs, rfl, e1, a1⟩ := a
      obtain ⟨q, ys, rfl, e2, a2⟩ := b
      refine .inr (.inr (.inl ⟨p, q, xs, ys, rfl, rfl, e1, e2, by rw [a1.len, a2.len]; assumption, fun r hr => ?_⟩))
      have s := R.alloc (o := .lst (xs ++ ys)) hr
      exact k _ _ _ s (At.list_of upd_same (AtAll.mono s.ff _ _ (AtAll.app a1 a2)))
    · cases e
  · split at e
    · cases e
      rename_i as bs hz
      obtain ⟨p, xs, rfl, e1, a1⟩ := a.tup R.frz
      obtain ⟨q, ys, rfl, e2, a2⟩ := b.tup R.frz
      refine .inr (.inr (.inr ⟨p, q, xs, ys, rfl, rfl, e1, e2, by rw [a1.len, a2.len]; assumption, fun h => ?_, fun h1 h2 => ?_, fun h1 h2 r hr => ?_⟩))
      · have : as = [] := List.eq_nil_of_length_eq_zero (by rw [← a1.len, h]; rfl)
        subst this
        refine k _ _ _ (Stp.refl R) ?_
        exact b
      · have : bs = [] := List.eq_nil_of_length_eq_zero (by rw [← a2.len, h2]; rfl)
        subst this
        rw [List.append_nil] at k
        refine k _ _ _ (Stp.refl R) ?_
        exact a
      · have s := R.alloc (o := .tup (xs ++ ys)) hr
        exact k _ _ _ s (At.tup_of upd_same (AtAll.mono s.ff _ _ (AtAll.app a1 a2)))
    · cases e
  · cases e
/-- a * b -/
def gMul : D → D → Option D
  | .int a, .int b => if (-(2 ^ 64) < a ∧ a < 2 ^ 64) ∨ (-(2 ^ 64) < b ∧ b < 2 ^ 64) then some (.int (a * b)) else none
  | .str a, .int n => if n ≤ 1000 ∧ -1000 ≤ n ∧ a.length ≤ 1000 then some (.str (Txt.mul a n)) else none
  | _, _ => none
theorem op_mul_str : OpR X (binaryOp .Mult) (fun x y H Q => ∃ a n, x = .str a ∧ y = .int n ∧ n ≤ 1000 ∧ -1000 ≤ n ∧ a.length ≤ 1000 ∧ Q (.str (Txt.mul a n)) H) := by
  intro pins s σ H x y v u Q I rx ry h
  obtain ⟨a, n, rfl, rfl, h1, h2, h3, q⟩ := h
  obtain ⟨t, rfl⟩ := rx
  obtain ⟨t', rfl⟩ := ry
  refine SB.mul ⟨?_, fun hn _ => ?_, fun hn _ => ?_⟩ fun t' k => ⟨.str _, H, I.tok _, ⟨_, rfl⟩, q⟩
  · rw [Bool.or_eq_false_iff]
    exact ⟨decide_eq_false (by omega), decide_eq_false (by omega)⟩
  · intro hh
    have hd : (1000 : Int) ≤ (2 ^ 63 - 1) / n := Int.le_ediv_of_mul_le (by omega) (by omega)
    omega
  · have hm : a.length * n.toNat ≤ 1000 * 1000 := Nat.mul_le_mul h3 (by omega)
    unfold Builtin.Str.tooLong
    simp only [decide_eq_false_iff_not]
    rw [sizeLine_eq]
    omega
end
end Sw

set_option Elab.async false
set_option linter.all false
set_option maxRecDepth 100000
namespace Sw
open PySem PySem.Spec L2

/-! ### == and in, over data without dicts -/
mutual
theorem At.dp {K : FgK} {H : Hp} : ∀ (d : D) (v : V), d.plain = true → At K H d v → Dp K H v d
  | .none, v, _, a => by simp only [At] at a; subst a; exact .non
  | .bool b, v, _, a => by simp only [At] at a; subst a; exact .bl b
  | .int i, v, _, a => by simp only [At] at a; subst a; exact .int i
  | .str x, v, _, a => by simp only [At] at a; subst a; exact .str x
  | .list ds, v, h, a => by
    simp only [At] at a
    obtain ⟨p, xs, rfl, e, r⟩ := a
    simp only [PyData.plain] at h
    exact .lst (SqL.of e) (AtAll.dp ds xs h r)
  | .tuple ds, v, h, a => by
    simp only [At] at a
    obtain ⟨p, xs, rfl, e, r⟩ := a
    simp only [PyData.plain] at h
    exact .tup e.sqT (AtAll.dp ds xs h r)
  | .dict _, _, h, _ => nomatch h
theorem AtAll.dp {K : FgK} {H : Hp} : ∀ (ds : List D) (xs : List V), PyData.plainAll ds = true → AtAll K H ds xs → DpAll K H xs ds
  | [], xs, _, a => by simp only [AtAll] at a; subst a; exact .nil
  | d :: ds, xs, h, a => by
    simp only [AtAll] at a
    obtain ⟨x, r, rfl, a, q⟩ := a
    have h' : d.plain = true ∧ PyData.plainAll ds = true := by simpa [PyData.plainAll] using h
    exact .cons (At.dp d x h'.1 a) (AtAll.dp ds r h'.2 q)
end
theorem Vw.dp {K : FgK} {H F : Hp} (R : Le F H) {d : D} {v : V} (h : d.plain = true) (a : Vw K H F d v) : Dp K H v d := by
  cases d with
  | list ds =>
    obtain ⟨p, xs, rfl, e, r⟩ := a
    simp only [PyData.plain] at h
    exact .lst (SqL.of e) (AtAll.dp ds xs h (AtAll.mono R _ _ r))
  | none => exact At.dp _ _ h (At.mono R _ _ a)
  | bool b => exact At.dp _ _ h (At.mono R _ _ a)
  | int i => exact At.dp _ _ h (At.mono R _ _ a)
  | str x => exact At.dp _ _ h (At.mono R _ _ a)
  | tuple ds => exact At.dp _ _ h (At.mono R _ _ a)
  | dict kds => exact nomatch h
/-- plain, and not too deep -/
def okD (d : D) : Bool := d.plain && decide (d.depth ≤ 40)
theorem okD_plain {d : D} (h : okD d = true) : d.plain = true := (Bool.and_eq_true_iff.mp h).1
theorem okD_depth {d : D} (h : okD d = true) : d.depth ≤ 40 := of_decide_eq_true (Bool.and_eq_true_iff.mp h).2
section
variable {X : Cz} {K : FgX}
def rEqP (K : FgK) (neg : Bool) : R2 := fun x y H Q => ∃ d e, Dp K H x d ∧ Dp K H y e ∧ okD d = true ∧ okD e = true ∧ Q (.bl (if neg then !PyData.eqv d e else PyData.eqv d e)) H
theorem op_eqP (hu : X.A.units + 64 < cLine) : OpR X (compareOp .Eq) (rEqP X.fr false) := by
  intro pins s σ H x y v u Q I rx ry h
  obtain ⟨d, e, hd, he, h1, h2, q⟩ := h
  obtain ⟨as, r1⟩ := Dp.reads I d x v hd rx
  obtain ⟨bs, r2⟩ := Dp.reads I e y u he ry
  have := okD_depth h1
  have := Nat.min_le_left d.depth e.depth
  exact SeqAt.eq_plain r1 r2 (okD_plain h1) (okD_plain h2) (by omega) ⟨.bl _, H, I, rfl, q⟩
theorem op_neP (hu : X.A.units + 64 < cLine) : OpR X (compareOp .NotEq) (rEqP X.fr true) := by
  intro pins s σ H x y v u Q I rx ry h
  obtain ⟨d, e, hd, he, h1, h2, q⟩ := h
  obtain ⟨as, r1⟩ := Dp.reads I d x v hd rx
  obtain ⟨bs, r2⟩ := Dp.reads I e y u he ry
  have := okD_depth h1
  have := Nat.min_le_left d.depth e.depth
  exact SeqAt.ne_plain r1 r2 (okD_plain h1) (okD_plain h2) (by omega) ⟨.bl _, H, I, rfl, q⟩
def gEq (neg : Bool) : D → D → Option D := fun a b => if okD a = true ∧ okD b = true then some (.bool (if neg then !PyData.eqv a b else PyData.eqv a b)) else none
theorem l_eq {neg : Bool} : LO2 K (rEqP K neg) (gEq neg) := fun C σ H F env x y dx dy d Q R a b e k => by
  unfold gEq at e
  split at e
  · rename_i h
    cases e
    exact ⟨dx, dy, a.dp R.frz (okD_plain h.1), b.dp R.frz (okD_plain h.2), h.1, h.2, k _ H F (Stp.refl R) (by simp [At])⟩
  · cases e
/-- x in xs (a list, a tuple) -/
def rInP (K : FgK) (neg : Bool) : R2 := fun x y H Q => ∃ d ds, Dp K H x d ∧ (Dp K H y (.list ds) ∨ Dp K H y (.tuple ds)) ∧ okD d = true ∧ okD (.list ds) = true ∧ Q (.bl (if neg then !(ds.any fun z => PyData.eqv z d) else ds.any fun z => PyData.eqv z d)) H
theorem op_inP (hu : X.A.units + 64 < cLine) : OpR X (compareOp .In) (rInP X.fr false) := by
  intro pins s σ H x y v u Q I rx ry h
  obtain ⟨d, ds, hd, he, h1, h2, q⟩ := h
  obtain ⟨as, r1⟩ := Dp.reads I d x v hd rx
  have := okD_depth h1
  have := Nat.min_le_right (PyData.depthAll ds) d.depth
  have hp : PyData.plainAll ds = true := okD_plain h2
  rcases he with he | he
  · obtain ⟨bs, r2⟩ := Dp.reads I _ y u he ry
    exact SeqAt.in_list_data r2 r1 hp (okD_plain h1) (by omega) ⟨.bl _, H, I, rfl, q⟩
  · obtain ⟨bs, r2⟩ := Dp.reads I _ y u he ry
    exact SeqAt.in_tuple_data r2 r1 hp (okD_plain h1) (by omega) ⟨.bl _, H, I, rfl, q⟩
theorem op_ninP (hu : X.A.units + 64 < cLine) : OpR X (compareOp .NotIn) (rInP X.fr true) := by
  intro pins s σ H x y v u Q I rx ry h
  obtain ⟨d, ds, hd, he, h1, h2, q⟩ := h
  obtain ⟨as, r1⟩ := Dp.reads I d x v hd rx
  have := okD_depth h1
  have := Nat.min_le_right (PyData.depthAll ds) d.depth
  have hp : PyData.plainAll ds = true := okD_plain h2
  rcases he with he | he
  · obtain ⟨bs, r2⟩ := Dp.reads I _ y u he ry
    exact SeqAt.notIn_list_data r2 r1 hp (okD_plain h1) (by omega) ⟨.bl _, H, I, rfl, q⟩
  · obtain ⟨bs, r2⟩ := Dp.reads I _ y u he ry
    exact SeqAt.notIn_tuple_data r2 r1 hp (okD_plain h1) (by omega) ⟨.bl _, H, I, rfl, q⟩
def inB (neg : Bool) (x : D) (ds : List D) : D := .bool (if neg then !(ds.any fun z => PyData.eqv z x) else ds.any fun z => PyData.eqv z x)
def gIn (neg : Bool) : D → D → Option D
  | x, .list ds => if okD x = true ∧ okD (.list ds) = true then some (inB neg x ds) else none
  | x, .tuple ds => if okD x = true ∧ okD (.list ds) = true then some (inB neg x ds) else none
  | .str c, .str z => if c.length = 1 then some (.bool (if neg then !decide (c.cps.getD 0 0 ∈ z.cps.toList) else decide (c.cps.getD 0 0 ∈ z.cps.toList))) else none
  | _, _ => none
theorem one_sign {c : Str} (h : c.length = 1) : c = ⟨#[c.cps.getD 0 0]⟩ := by
  obtain ⟨a⟩ := c
  have h : a.size = 1 := h
  have : a = #[a.getD 0 0] := by
    apply Array.ext
    · simp [h]
    · intro i h1 h2
      have : i = 0 := by omega
      subst this
      simp [Array.getD, h]
  exact congrArg Str.mk this
abbrev rInA (K : FgK) : R2 := fun x y H Q => rInP K false x y H Q ∨ (fun x y H Q => ∃ (c : Nat) (z : Str), x = .str ⟨#[c]⟩ ∧ y = .str z ∧ Q (.bl (decide (c ∈ z.cps.toList))) H) x y H Q
abbrev rNinA (K : FgK) : R2 := fun x y H Q => rInP K true x y H Q ∨ (fun x y H Q => ∃ (c : Nat) (z : Str), x = .str ⟨#[c]⟩ ∧ y = .str z ∧ Q (.bl (!decide (c ∈ z.cps.toList))) H) x y H Q
theorem op_inA (hu : X.A.units + 64 < cLine) : OpR X (compareOp .In) (rInA X.fr) := (op_inP hu).or op_in_sign
theorem op_ninA (hu : X.A.units + 64 < cLine) : OpR X (compareOp .NotIn) (rNinA X.fr) := (op_ninP hu).or op_notIn_sign
theorem Vw.inD {H F : Hp} (R : Le F H) {ds : List D} {y : V} (h : okD (.list ds) = true) (b : Vw K H F (.list ds) y ∨ Vw K H F (.tuple ds) y) : Dp K H y (.list ds) ∨ Dp K H y (.tuple ds) := by
  rcases b with b | b
  · exact .inl (b.dp R (okD_plain h))
  · exact .inr (b.dp R (show (PyData.tuple ds).plain = true from okD_plain h))
theorem l_in : LO2 K (rInA K) (gIn false) := fun C σ H F env x y dx dy d Q R a b e k => by
  unfold gIn at e
  split at e
  · rename_i dx' ds
    split at e
    · rename_i h
      cases e
      exact .inl ⟨_, ds, a.dp R.frz (okD_plain h.1), Vw.inD R.frz h.2 (.inl b), h.1, h.2, k _ H F (Stp.refl R) (by simp [At, inB])⟩
    · cases e
  · rename_i dx' ds
    split at e
    · rename_i h
      cases e
      exact .inl ⟨_, ds, a.dp R.frz (okD_plain h.1), Vw.inD R.frz h.2 (.inr b), h.1, h.2, k _ H F (Stp.refl R) (by simp [At, inB])⟩
    · cases e
  · rename_i c z
    split at e
    · rename_i h
      cases e
      rw [a.str, b.str]
      exact .inr ⟨c.cps.getD 0 0, z, congrArg V.str (one_sign h), rfl, k _ H F (Stp.refl R) (by simp [At])⟩
    · cases e
  · cases e
theorem l_nin : LO2 K (rNinA K) (gIn true) := fun C σ H F env x y dx dy d Q R a b e k => by
  unfold gIn at e
  split at e
  · rename_i dx' ds
    split at e
    · rename_i h
      cases e
      exact .inl ⟨_, ds, a.dp R.frz (okD_plain h.1), Vw.inD R.frz h.2 (.inl b), h.1, h.2, k _ H F (Stp.refl R) (by simp [At, inB])⟩
    · cases e
  · rename_i dx' ds
    split at e
    · rename_i h
      cases e
      exact .inl ⟨_, ds, a.dp R.frz (okD_plain h.1), Vw.inD R.frz h.2 (.inr b), h.1, h.2, k _ H F (Stp.refl R) (by simp [At, inB])⟩
    · cases e
  · rename_i c z
    split at e
    · rename_i h
      cases e
      rw [a.str, b.str]
      exact .inr ⟨c.cps.getD 0 0, z, congrArg V.str (one_sign h), rfl, k _ H F (Stp.refl R) (by simp [At])⟩
    · cases e
  · cases e
/-! ### is None -/
def gIsN (neg : Bool) : D → D → Option D
  | .none, .none => some (.bool !neg)
  | _, .none => some (.bool neg)
  | _, _ => none
theorem Vw.isN {H F : Hp} {d : D} {x : V} (a : Vw K H F d x) (h : d ≠ .none) : decide (x = V.non) = false := by
  refine decide_eq_false fun e => ?_
  subst e
  cases d with
  | none => exact h rfl
  | bool b => simp [Vw, At] at a
  | int b => simp [Vw, At] at a
  | str b => simp [Vw, At] at a
  | list b => obtain ⟨_, _, e, _⟩ := a; cases e
  | tuple b => simp [Vw, At] at a
  | dict b => simp [Vw, At] at a
theorem l_isN : LO2 K (fun x y H Q => y = V.non ∧ Q (.bl (decide (x = .non))) H) (gIsN false) := fun C σ H F env x y dx dy d Q R a b e k => by
  unfold gIsN at e
  split at e
  · cases e
    rw [a.non]
    exact ⟨b.non, k _ H F (Stp.refl R) (by simp [At])⟩
  · rename_i hn
    cases e
    rw [a.isN (fun z => hn z)]
    exact ⟨b.non, k _ H F (Stp.refl R) (by simp [At])⟩
  · cases e
theorem l_notN : LO2 K (fun x y H Q => y = V.non ∧ Q (.bl (!decide (x = .non))) H) (gIsN true) := fun C σ H F env x y dx dy d Q R a b e k => by
  unfold gIsN at e
  split at e
  · cases e
    rw [a.non]
    exact ⟨b.non, k _ H F (Stp.refl R) (by simp [At])⟩
  · rename_i hn
    cases e
    rw [a.isN (fun z => hn z)]
    exact ⟨b.non, k _ H F (Stp.refl R) (by simp [At])⟩
  · cases e
/-! ### order of texts -/
def gStr (p : Str → Str → Bool) : D → D → Option D
  | .str a, .str b => some (.bool (p a b))
  | _, _ => none
def ltS (a b : Str) : Bool := decide (a.cps.toList < b.cps.toList)
def gLt : D → D → Option D
  | .int a, .int b => some (.bool (decide (a < b)))
  | .str a, .str b => some (.bool (ltS a b))
  | _, _ => none
abbrev rLtA : R2 := fun x y H Q => rI0 (fun i j => .bl (decide (i < j))) x y H Q ∨ (fun x y H Q => ∃ i j, x = .str i ∧ y = .str j ∧ Q (.bl (decide (i.cps.toList < j.cps.toList))) H) x y H Q
theorem op_ltA : OpR X (compareOp .Lt) rLtA := op_lt.or op_lt_str
theorem l_lt : LO2 K rLtA gLt := fun C σ H F env x y dx dy d Q R a b e k => by
  unfold gLt at e
  split at e
  · cases e
    rw [a.int, b.int]
    exact .inl ⟨_, _, rfl, rfl, k _ H F (Stp.refl R) (by simp [At])⟩
  · cases e
    rw [a.str, b.str]
    exact .inr ⟨_, _, rfl, rfl, k _ H F (Stp.refl R) (by simp [At, ltS])⟩
  · cases e
/-! ### items -/
def gIx : D → D → Option D
  | .list ds, .int i => atI ds i
  | .tuple ds, .int i => atI ds i
  | .str z, .int i => if z.length ≤ sizeLine then (atI z.cps.toList i).map fun c => .str ⟨#[c]⟩ else none
  | _, _ => none
theorem atI_all {F : Hp} {ds : List D} {xs : List V} {i : Int} {d : D} (h : AtAll K F ds xs) (e : atI ds i = some d) : ∃ x, atI xs i = some x ∧ At K F d x := by
  unfold atI at e ⊢
  rw [h.len]
  cases q : ixN ds.length i with
  | none => rw [q] at e; cases e
  | some j =>
    rw [q] at e
    exact h.get e
theorem l_ix : LO2 K (rIx K) gIx := fun C σ H F env x y dx dy d Q R a b e k => by
  unfold gIx at e
  split at e
  · obtain ⟨p, xs, rfl, e1, a1⟩ := a
    obtain ⟨v, e2, a2⟩ := atI_all a1 e
    rw [b.int]
    exact .inl ⟨p, xs, _, v, rfl, rfl, SqL.of e1, e2, k _ H F (Stp.refl R) a2⟩
  · obtain ⟨p, xs, rfl, e1, a1⟩ := a.tup R.frz
    obtain ⟨v, e2, a2⟩ := atI_all a1 e
    rw [b.int]
    exact .inr (.inl ⟨p, xs, _, v, rfl, rfl, e1, e2, k _ H F (Stp.refl R) a2⟩)
  · split at e
    · rename_i z i hz
      cases q : atI z.cps.toList i with
      | none => rw [q] at e; cases e
      | some c =>
        rw [q] at e
        cases e
        rw [a.str, b.int]
        exact .inr (.inr ⟨z, i, c, rfl, rfl, hz, q, k _ H F (Stp.refl R) (by simp [At])⟩)
    · cases e
  · cases e
theorem q_ix {a b : Expr} {A B : PE'} {pos : Pos} (ha : EV X a A) (hb : EV X b B) (hs : PlainIx b := by intro _ _; rfl) : EV X (.Subscript a b pos) (qOp gIx A B) := by
  obtain ⟨ta, h1, l1⟩ := ha.ex
  obtain ⟨tb, h2, l2⟩ := hb.ex
  exact ⟨_, pe_ix ix_seq h1 h2 hs, LE.op l_ix l1 l2⟩
end
end Sw

set_option Elab.async false
set_option linter.all false
set_option maxRecDepth 100000
namespace Sw
open PySem PySem.Spec L2

/-! ### slices -/
def cutD {α : Type} (xs : List α) (lo hi : Option Int) : List α := (xs.drop (HT.sIx xs.length 0 lo)).take (HT.sIx xs.length xs.length hi - HT.sIx xs.length 0 lo)
abbrev PO' := List SV → (Option Int → List SV → Prop) → Prop
def LO (K : FgX) (t : TO) (T : PO') : Prop := ∀ (C : Ec) (σ : L2.St) (H F : Hp) (env : List SV) (Q : Option Int → Hp → Prop) (Qp : Option Int → List SV → Prop), Rel K C σ H F env →
  (∀ o H' F' env', Stp K C σ H F env H' F' env' → Qp o env' → Q o H') → T env Qp → t σ H Q
structure EO (X : Cz) (e : Option Expr) (T : PO') : Prop where
  ex : ∃ t, PO X e t ∧ LO X.fr t T
section
variable {X : Cz} {K : FgX}
def qPn : PO' := fun env Q => Q none env
def qPs (A : PE') : PO' := fun env Q => A env fun o env1 => ∃ i, o.rd env1 = some (.int i) ∧ Q (some i) env1
theorem o_none : EO X none qPn := ⟨_, po_none, fun C σ H F env Q Qp R k q => k none H F env (Stp.refl R) q⟩
theorem o_some {e : Expr} {A : PE'} (h : EV X e A) : EO X (some e) (qPs A) := by
  obtain ⟨t, h1, l1⟩ := h.ex
  refine ⟨_, po_some h1, fun C σ H F env Q Qp R k q => ?_⟩
  refine l1 C σ H F env _ _ R (fun v H1 F1 env1 o s1 a1 q1 => ?_) q
  obtain ⟨i, e, q1⟩ := q1
  exact ⟨i, (rd_vw s1.rel a1 e).int, k (some i) H1 F1 env1 s1 q1⟩
def gSl : D → Option Int → Option Int → Option D
  | .list ds, lo, hi => some (.list (cutD ds lo hi))
  | .tuple ds, lo, hi => some (.tuple (cutD ds lo hi))
  | .str z, lo, hi => if z.length ≤ sizeLine then some (.str (cutS z lo hi)) else none
  | _, _, _ => none
theorem AtAll.cut {F : Hp} {ds : List D} {xs : List V} {lo hi : Option Int} (h : AtAll K F ds xs) : AtAll K F (cutD ds lo hi) (cutV xs lo hi) := by
  unfold cutD cutV
  rw [h.len]
  exact (h.drop _).take _
theorem sIx_le' (n : Nat) (o : Option Int) : HT.sIx n n o ≤ n := HT.sIx_le n n (Nat.le_refl _) o
theorem cut_whole {xs : List D} {lo hi : Option Int} (h : HT.sIx xs.length 0 lo = 0 ∧ HT.sIx xs.length xs.length hi = xs.length) : cutD xs lo hi = xs := by
  unfold cutD
  rw [h.1, h.2]
  simp
def qSl (A : PE') (L U : PO') : PE' := fun env Q => A env fun o env1 => L env1 fun l env2 => U env2 fun u env3 => ∃ d, o.rd env3 = some d ∧ ∃ d', gSl d l u = some d' ∧ Q (.dv d') env3
theorem q_sl {e : Expr} {lo hi : Option Expr} {A : PE'} {L U : PO'} {p2 pos : Pos} (he : EV X e A) (hl : EO X lo L) (hu : EO X hi U) : EV X (.Subscript e (.Slice lo hi none p2) pos) (qSl A L U) := by
  obtain ⟨t, h1, l1⟩ := he.ex
  obtain ⟨tl, h2, l2⟩ := hl.ex
  obtain ⟨tu, h3, l3⟩ := hu.ex
  refine ⟨_, pe_slice (sl_list.or (sl_tupA.or sl_str)) h1 h2 h3, fun C σ H F env Q Qp R k q => ?_⟩
  refine l1 C σ H F env _ _ R (fun v H1 F1 env1 o s1 a1 q1 => ?_) q
  refine l2 C σ H1 F1 env1 _ _ s1.rel (fun l H2 F2 env2 s2 q2 => ?_) q1
  refine l3 C σ H2 F2 env2 _ _ s2.rel (fun u H3 F3 env3 s3 q3 => ?_) q2
  obtain ⟨d, e, d', e', q3⟩ := q3
  have w := rd_vw s3.rel (a1.mono (s2.ff.trans' s3.ff)) e
  have s := (s1.trans s2).trans s3
  unfold gSl at e'
  split at e'
  · cases e'
    obtain ⟨p, xs, rfl, e1, a2⟩ := w
    refine .inl ⟨p, xs, rfl, SqL.of e1, fun r hr => ?_⟩
    have s4 := s3.rel.alloc (o := .lst (cutV xs l u)) hr
    exact k _ _ _ _ (.dv _) (s.trans s4) (OvOk.of (At.list_of upd_same (AtAll.mono s4.ff _ _ a2.cut))) q3
  · cases e'
    have w' := w
    obtain ⟨p, xs, rfl, e1, a2⟩ := w.tup s3.rel.frz
    refine .inr (.inl ⟨p, xs, rfl, e1, fun h => ?_, fun h r hr => ?_⟩)
    · rw [a2.len] at h
      rw [cut_whole h] at q3
      exact k _ _ _ _ (.dv _) s w' q3
    · have s4 := s3.rel.alloc (o := .tup (cutV xs l u)) hr
      exact k _ _ _ _ (.dv _) (s.trans s4) (OvOk.of (At.tup_of upd_same (AtAll.mono s4.ff _ _ a2.cut))) q3
  · split at e'
    · cases e'
      rw [w.str]
      exact .inr (.inr ⟨_, rfl, ‹_›, k _ _ _ _ (.dv _) s (by simp [OvOk, At]) q3⟩)
    · cases e'
  · cases e'
/-- xs[::-1] of a list -/
def qRev (A : PE') : PE' := fun env Q => A env fun o env1 => ∃ ds, o.rd env1 = some (.list ds) ∧ Q (.dv (.list ds.reverse)) env1
theorem q_revL {e : Expr} {A : PE'} {k : Nat} {p1 p2 p3 pos : Pos} (he : EV X e A) : EV X (.Subscript e (.Slice none none (some (.UnaryOp .USub (.Constant (.int 1) k p1) p2)) p3) pos) (qRev A) := by
  obtain ⟨t, h1, l1⟩ := he.ex
  refine ⟨_, pe_revL h1, fun C σ H F env Q Qp R k q => ?_⟩
  refine l1 C σ H F env _ _ R (fun v H1 F1 env1 o s1 a1 q1 => ?_) q
  obtain ⟨ds, e, q1⟩ := q1
  obtain ⟨p, xs, rfl, e1, a2⟩ := rd_vw s1.rel a1 e
  refine ⟨p, xs, rfl, SqL.of e1, fun r hr => ?_⟩
  have s4 := s1.rel.alloc (o := .lst xs.reverse) hr
  exact k _ _ _ _ (.dv _) (s1.trans s4) (OvOk.of (At.list_of upd_same (AtAll.mono s4.ff _ _ a2.rev))) q1

/-! ### built-in functions by data -/
def VwAll (K : FgK) (H F : Hp) : List D → List V → Prop
  | [], xs => xs = []
  | d :: ds, xs => ∃ x r, xs = x :: r ∧ Vw K H F d x ∧ VwAll K H F ds r
theorem rdAll_vw {C : Ec} {σ : L2.St} {H F : Hp} {env : List SV} (R : Rel K C σ H F env) : ∀ {os : List OV} {vs : List V} {ds : List D}, OvsOk K σ F os vs → rdAll env os = some ds → VwAll K H F ds vs
  | [], vs, ds, a, e => by
    have a : vs = [] := a
    simp only [rdAll, Option.some.injEq] at e
    subst e
    exact a
  | o :: os, vs, ds, a, e => by
    obtain ⟨v, r, rfl, b, c⟩ := a
    simp only [rdAll] at e
    cases q : o.rd env with
    | none => rw [q] at e; cases e
    | some d =>
      rw [q] at e
      cases q2 : rdAll env os with
      | none => rw [q2] at e; cases e
      | some ds2 =>
        rw [q2] at e
        cases e
        exact ⟨v, r, rfl, rd_vw R b q, rdAll_vw R c q2⟩
def LC (K : FgX) (r : List V → Hp → VK → Prop) (g : List D → Option D) : Prop := ∀ (C : Ec) (σ : L2.St) (H F : Hp) (env : List SV) (xs : List V) (ds : List D) (d : D) (Q : VK), Rel K C σ H F env → VwAll K H F ds xs → g ds = some d →
  (∀ v H' F', Stp K C σ H F env H' F' env → At K F' d v → Q v H') → r xs H Q
def LCF (K : FgX) (r : List V → Hp → VK → Prop) (g : List D → Option (List D)) : Prop := ∀ (C : Ec) (σ : L2.St) (H F : Hp) (env : List SV) (xs : List V) (ds es : List D) (Q : VK), Rel K C σ H F env → VwAll K H F ds xs → g ds = some es →
  (∀ p ys F', (Stp K C σ H F env (upd H p (.lst ys)) F' env) → F' p = none → C.H0 p = none → ¬ Own σ env p → H p = none → AtAll K F' es ys → Q (.ref p) (upd H p (.lst ys))) → r xs H Q
def qCB (g : List D → Option D) (T : PA') : PE' := fun env Q => T env fun os env1 => ∃ ds, rdAll env1 os = some ds ∧ ∃ d, g ds = some d ∧ Q (.dv d) env1
def fCB (g : List D → Option (List D)) (T : PA') : PF' := fun env Q => T env fun os env1 => ∃ ds, rdAll env1 os = some ds ∧ ∃ es, g ds = some es ∧ Q es env1
theorem LE.cb {r : List V → Hp → VK → Prop} {g : List D → Option D} {t : TA} {T : PA'} (hl : LC K r g) (l1 : LA K t T) : LE K (tCB r t) (qCB g T) := fun C σ H F env Q Qp R k q => by
  refine l1 C σ H F env _ _ R (fun vs H1 F1 env1 os s1 a1 q1 => ?_) q
  obtain ⟨ds, e, d, e', q1⟩ := q1
  exact hl C σ H1 F1 env1 vs ds d Q s1.rel (rdAll_vw s1.rel a1 e) e' fun v H' F' s2 a2 => k v H' F' env1 (.dv d) (s1.trans s2) a2 q1
theorem LF.cb {r : List V → Hp → VK → Prop} {g : List D → Option (List D)} {t : TA} {T : PA'} (hl : LCF K r g) (l1 : LA K t T) : LF K (tCB r t) (fCB g T) := fun C σ H F env Q Qp R k q => by
  refine l1 C σ H F env _ _ R (fun vs H1 F1 env1 os s1 a1 q1 => ?_) q
  obtain ⟨ds, e, es, e', q1⟩ := q1
  exact hl C σ H1 F1 env1 vs ds es Q s1.rel (rdAll_vw s1.rel a1 e) e' fun p ys F' s2 f2 h2 n2 z2 a2 => k p ys es _ F' env1 (s1.trans s2) upd_same f2 h2 n2 (s1.dm p z2) a2 q1
theorem q_callB {id : String} {r : List V → Hp → VK → Prop} {g : List D → Option D} {x : Str} {e : Expr} {es : List Expr} {T : PA'} {p pos : Pos} (hl : LC X.fr r g) (hc : CallR X (.builtin id) r) (hg : Gl X x) (hm : X.mg x = none) (hv : bootBuiltins x = some (.builtin id)) (ha : EA X (e :: es) T) (hn : x ≠ "__name__" := by decide) (hdb : (x == ("__debug__" : Str)) = false := by decide)
    (he : starEach (e :: es) X.env = (false, eval e X.env) :: starEach es X.env := by rfl) (hpl : (backTo pos (starEach es X.env)).any (·.1) = false := by rfl) : EV X (.Call (.Name x p) (e :: es) [] pos) (qCB g T) := by
  obtain ⟨t, h1, l1⟩ := ha.ex
  exact ⟨_, pe_callB hc hg hm hv h1 hn hdb he hpl, LE.cb hl l1⟩
theorem q_callTy {id : String} {r : List V → Hp → VK → Prop} {g : List D → Option D} {x : Str} {e : Expr} {es : List Expr} {T : PA'} {p pos : Pos} (hl : LC X.fr r g) (hc : CallR X (.type id) r) (hg : Gl X x) (hm : X.mg x = none) (hv : bootBuiltins x = some (.type id)) (ha : EA X (e :: es) T) (hn : x ≠ "__name__" := by decide) (hdb : (x == ("__debug__" : Str)) = false := by decide)
    (he : starEach (e :: es) X.env = (false, eval e X.env) :: starEach es X.env := by rfl) (hpl : (backTo pos (starEach es X.env)).any (·.1) = false := by rfl) : EV X (.Call (.Name x p) (e :: es) [] pos) (qCB g T) := by
  obtain ⟨t, h1, l1⟩ := ha.ex
  exact ⟨_, pe_callTy hc hg hm hv h1 hn hdb he hpl, LE.cb hl l1⟩
theorem f_callTy {id : String} {r : List V → Hp → VK → Prop} {g : List D → Option (List D)} {x : Str} {e : Expr} {es : List Expr} {T : PA'} {p pos : Pos} (hl : LCF X.fr r g) (hc : CallR X (.type id) r) (hg : Gl X x) (hm : X.mg x = none) (hv : bootBuiltins x = some (.type id)) (ha : EA X (e :: es) T) (hn : x ≠ "__name__" := by decide) (hdb : (x == ("__debug__" : Str)) = false := by decide)
    (he : starEach (e :: es) X.env = (false, eval e X.env) :: starEach es X.env := by rfl) (hpl : (backTo pos (starEach es X.env)).any (·.1) = false := by rfl) : EF X (.Call (.Name x p) (e :: es) [] pos) (fCB g T) := by
  obtain ⟨t, h1, l1⟩ := ha.ex
  exact ⟨_, pe_callTy hc hg hm hv h1 hn hdb he hpl, LF.cb hl l1⟩
theorem f_callB {id : String} {r : List V → Hp → VK → Prop} {g : List D → Option (List D)} {x : Str} {e : Expr} {es : List Expr} {T : PA'} {p pos : Pos} (hl : LCF X.fr r g) (hc : CallR X (.builtin id) r) (hg : Gl X x) (hm : X.mg x = none) (hv : bootBuiltins x = some (.builtin id)) (ha : EA X (e :: es) T) (hn : x ≠ "__name__" := by decide) (hdb : (x == ("__debug__" : Str)) = false := by decide)
    (he : starEach (e :: es) X.env = (false, eval e X.env) :: starEach es X.env := by rfl) (hpl : (backTo pos (starEach es X.env)).any (·.1) = false := by rfl) : EF X (.Call (.Name x p) (e :: es) [] pos) (fCB g T) := by
  obtain ⟨t, h1, l1⟩ := ha.ex
  exact ⟨_, pe_callB hc hg hm hv h1 hn hdb he hpl, LF.cb hl l1⟩
theorem VwAll.one {H F : Hp} {d : D} {xs : List V} (h : VwAll K H F [d] xs) : ∃ x, xs = [x] ∧ Vw K H F d x := by
  obtain ⟨x, r, rfl, a, q⟩ := h
  have q : r = [] := q
  subst q
  exact ⟨x, rfl, a⟩
theorem VwAll.two {H F : Hp} {d e : D} {xs : List V} (h : VwAll K H F [d, e] xs) : ∃ x y, xs = [x, y] ∧ Vw K H F d x ∧ Vw K H F e y := by
  obtain ⟨x, r, rfl, a, q⟩ := h
  obtain ⟨y, rfl, b⟩ := VwAll.one q
  exact ⟨x, y, rfl, a, b⟩
/-! len -/
def gLen : List D → Option D
  | [.list ds] => some (.int ds.length)
  | [.tuple ds] => some (.int ds.length)
  | [.str z] => if z.length ≤ sizeLine then some (.int z.length) else none
  | _ => none
theorem l_len : LC K (fun xs H Q => ∃ x n, xs = [x] ∧ LenV K x H n ∧ Q (.int n) H) gLen := fun C σ H F env xs ds d Q R a e k => by
  unfold gLen at e
  split at e
  · cases e
    obtain ⟨x, rfl, w⟩ := a.one
    obtain ⟨p, ys, rfl, e1, a2⟩ := w
    exact ⟨_, _, rfl, .inl ⟨ys, SqL.of e1, rfl⟩, by rw [a2.len]; exact k _ H F (Stp.refl R) (by simp [At])⟩
  · cases e
    obtain ⟨x, rfl, w⟩ := a.one
    obtain ⟨p, ys, rfl, e1, a2⟩ := w.tup R.frz
    exact ⟨_, _, rfl, .inr ⟨ys, e1, rfl⟩, by rw [a2.len]; exact k _ H F (Stp.refl R) (by simp [At])⟩
  · split at e
    · cases e
      obtain ⟨x, rfl, w⟩ := a.one
      rw [w.str]
      exact ⟨_, _, rfl, ⟨‹_›, rfl⟩, k _ H F (Stp.refl R) (by simp [At])⟩
    · cases e
  · cases e
/-! list(..), tuple(..) -/
def gListF : List D → Option (List D)
  | [.list ds] => some ds
  | [.tuple ds] => some ds
  | _ => none
theorem l_listF : LCF K (fun xs H Q => ∃ p ys, xs = [V.ref p] ∧ (SqL K H p ys ∨ SqT K H p ys) ∧ ∀ l, H l = none → Q (.ref l) (upd H l (.lst ys))) gListF := fun C σ H F env xs ds es Q R a e k => by
  unfold gListF at e
  split at e
  · cases e
    obtain ⟨x, rfl, w⟩ := a.one
    obtain ⟨p, ys, rfl, e1, a2⟩ := w
    refine ⟨p, ys, rfl, .inl (SqL.of e1), fun l hl => ?_⟩
    obtain ⟨s, f, h, n⟩ := R.alloc0 (o := .lst ys) hl
    exact k l ys F s f h n hl a2
  · cases e
    obtain ⟨x, rfl, w⟩ := a.one
    obtain ⟨p, ys, rfl, e1, a2⟩ := w.tup R.frz
    refine ⟨p, ys, rfl, .inr e1, fun l hl => ?_⟩
    obtain ⟨s, f, h, n⟩ := R.alloc0 (o := .lst ys) hl
    exact k l ys F s f h n hl a2
  · cases e
def gTuple : List D → Option D
  | [.list ds] => some (.tuple ds)
  | [.tuple ds] => some (.tuple ds)
  | _ => none
theorem l_tuple : LC K (fun xs H Q => ∃ p ys, xs = [V.ref p] ∧ ((SqL K H p ys ∧ ∀ l, H l = none → Q (.ref l) (upd H l (.tup ys))) ∨ (SqT K H p ys ∧ Q (.ref p) H))) gTuple := fun C σ H F env xs ds d Q R a e k => by
  unfold gTuple at e
  split at e
  · cases e
    obtain ⟨x, rfl, w⟩ := a.one
    obtain ⟨p, ys, rfl, e1, a2⟩ := w
    refine ⟨p, ys, rfl, .inl ⟨SqL.of e1, fun l hl => ?_⟩⟩
    have s := R.alloc (o := .tup ys) hl
    exact k _ _ _ s (At.tup_of upd_same (AtAll.mono s.ff _ _ a2))
  · cases e
    obtain ⟨x, rfl, w⟩ := a.one
    have w' := w
    obtain ⟨p, ys, rfl, e1, a2⟩ := w.tup R.frz
    exact ⟨p, ys, rfl, .inr ⟨e1, k _ H F (Stp.refl R) w'⟩⟩
  · cases e
/-! all, any -/
def boolsOf : List D → Option (List Bool)
  | [] => some []
  | .bool b :: r => (boolsOf r).map (b :: ·)
  | _ => none
theorem boolsOf_map {bs : List Bool} : boolsOf (bs.map PyData.bool) = some bs := by
  induction bs with
  | nil => rfl
  | cons b bs ih => simp [boolsOf, ih]
theorem AtAll.bools {F : Hp} : ∀ {ds : List D} {bs : List Bool} {xs : List V}, boolsOf ds = some bs → AtAll K F ds xs → xs = bs.map V.bl
  | [], bs, xs, e, a => by
    simp only [boolsOf, Option.some.injEq] at e
    subst e
    simpa [AtAll] using a
  | d :: ds, bs, xs, e, a => by
    cases d with
    | bool b =>
      simp only [boolsOf] at e
      cases q : boolsOf ds with
      | none => rw [q] at e; cases e
      | some cs =>
        rw [q] at e
        cases e
        simp only [AtAll] at a
        obtain ⟨x, r, rfl, a, q2⟩ := a
        simp only [At] at a
        subst a
        rw [AtAll.bools q q2]
        rfl
    | _ => simp [boolsOf] at e
def gAll : List D → Option D
  | [.list ds] => (boolsOf ds).map fun bs => .bool (bs.all id)
  | _ => none
theorem l_all : LC K (rAll K) gAll := fun C σ H F env xs ds d Q R a e k => by
  unfold gAll at e
  split at e
  · rename_i ds'
    cases q : boolsOf ds' with
    | none => rw [q] at e; cases e
    | some bs =>
      rw [q] at e
      cases e
      obtain ⟨x, rfl, w⟩ := a.one
      obtain ⟨p, ys, rfl, e1, a2⟩ := w
      have := a2.bools q
      subst this
      exact ⟨p, bs, rfl, SqL.of e1, k _ H F (Stp.refl R) (by simp [At])⟩
  · cases e
def gAny : List D → Option D
  | [.list ds] => (boolsOf ds).map fun bs => .bool (bs.any id)
  | _ => none
theorem l_any : LC K (rAny K) gAny := fun C σ H F env xs ds d Q R a e k => by
  unfold gAny at e
  split at e
  · rename_i ds'
    cases q : boolsOf ds' with
    | none => rw [q] at e; cases e
    | some bs =>
      rw [q] at e
      cases e
      obtain ⟨x, rfl, w⟩ := a.one
      obtain ⟨p, ys, rfl, e1, a2⟩ := w
      have := a2.bools q
      subst this
      exact ⟨p, bs, rfl, SqL.of e1, k _ H F (Stp.refl R) (by simp [At])⟩
  · cases e
/-! ord -/
def gOrd : List D → Option D
  | [.str z] => if z.length = 1 then some (.int (z.cps.getD 0 0 : Nat)) else none
  | _ => none
theorem l_ord : LC K (fun xs H Q => ∃ x, xs = [V.str x] ∧ x.length = 1 ∧ Q (.int (x.cps.getD 0 0 : Nat)) H) gOrd := fun C σ H F env xs ds d Q R a e k => by
  unfold gOrd at e
  split at e
  · split at e
    · cases e
      obtain ⟨x, rfl, w⟩ := a.one
      rw [w.str]
      exact ⟨_, rfl, ‹_›, k _ H F (Stp.refl R) (by simp [At])⟩
    · cases e
  · cases e
/-! int(..) of an int, a truth -/
def gInt1 : List D → Option D
  | [.int i] => some (.int i)
  | [.bool b] => some (.int (if b then 1 else 0))
  | _ => none
theorem l_int1 : LC K (fun xs H Q => (∃ i, xs = [V.int i] ∧ Q (.int i) H) ∨ ∃ k, xs = [V.bl k] ∧ Q (.int (if k then 1 else 0)) H) gInt1 := fun C σ H F env xs ds d Q R a e k => by
  unfold gInt1 at e
  split at e
  · cases e
    obtain ⟨x, rfl, w⟩ := a.one
    rw [w.int]
    exact .inl ⟨_, rfl, k _ H F (Stp.refl R) (by simp [At])⟩
  · cases e
    obtain ⟨x, rfl, w⟩ := a.one
    rw [w.bl]
    exact .inr ⟨_, rfl, k _ H F (Stp.refl R) (by simp [At])⟩
  · cases e
/-! isinstance(e, T), T a built-in class -/
def tyN : D → String
  | .none => "NoneType" | .bool _ => "bool" | .int _ => "int" | .str _ => "str" | .list _ => "list" | .tuple _ => "tuple" | .dict _ => "dict"
/-- the classes asked for -/
inductive Ty where | str | int | bool | list | tuple | dict
def Ty.name : Ty → String
  | .str => "str" | .int => "int" | .bool => "bool" | .list => "list" | .tuple => "tuple" | .dict => "dict"
def isi : Ty → D → Bool
  | .str, .str _ => true
  | .int, .int _ => true
  | .int, .bool _ => true
  | .bool, .bool _ => true
  | .list, .list _ => true
  | .tuple, .tuple _ => true
  | .dict, .dict _ => true
  | _, _ => false
theorem isi_kit (T : Ty) (d : D) : kitB (tyN d) T.name = some (isi T d) := by
  cases T <;> cases d <;> (simp only [tyN, Ty.name, isi]; decide +kernel)
/-- the type of a value; of a dict whose keys are tuples, too -/
def TyA (K : FgK) (H : Hp) (x : V) (t : Value) : Prop := TyX K H x t ∨ ∃ a o zs, x = .ref a ∧ Rd H a o ∧ IsN K a zs o ∧ t = .type "dict"
theorem IsN.obj {P : Program} {w : World} {K : FgK} {a : Addr} {zs : List (NestedKey × Addr × V)} {o : HO} {H : Hp} {h : Heap} (n : IsN K a zs o) (q : ObjOk P w H h a o) : zs.length ≤ sizeLine ∧ (a == sysModules) = false ∧ (∀ x ∈ zs, ∃ z, x.1 = .tup z ∧ x.1.depth ≤ 8) ∧ ∃ us : List (NestedKey × Addr × Value), Paired (fun (p : NestedKey × Addr × V) (q : NestedKey × Addr × Value) => p.1 = q.1 ∧ p.2.1 = q.2.1 ∧ RelV p.2.2 q.2.2) zs us ∧
    ∃ ob es ep, h.get? a = some ob ∧ ob.ExactDict ∧ ob.data = .dict es ep ∧ es.toList = us.map (entryOfKey (nestedKind K.P K.w)) ∧ (us.map (·.1)).Nodup := by
  have n : o = _ := n
  subst n
  exact q.1
theorem Vw.ty {H F : Hp} (R : Le F H) {d : D} {x : V} (a : Vw K H F d x) : TyA K H x (.type (tyN d)) := by
  cases d with
  | none => rw [a.non]; exact .inl (.base .non)
  | bool b => rw [a.bl]; exact .inl (.base (.bl b))
  | int b => rw [a.int]; exact .inl (.base (.int b))
  | str b => rw [a.str]; exact .inl (.base (.str b))
  | list ds =>
    obtain ⟨p, xs, rfl, e, _⟩ := a
    exact .inl (.base (.lst e))
  | tuple ds =>
    obtain ⟨p, xs, rfl, e, _⟩ := a.tup0 R
    rcases e with e | (e | ⟨o, e⟩) | ⟨o, its, n, e, c, _⟩
    · exact .inl (.base (.tup e))
    · cases e
    · cases e
    · exact .inl (.kTuple e c)
  | dict kds =>
    obtain ⟨p, o, rfl, e, t, c⟩ := a
    cases t with
    | false =>
      obtain ⟨kvs, rfl, _⟩ := c
      rcases e with e | ⟨od, e⟩
      · exact .inl (.base (.dK e))
      · exact .inl (.fDict e)
    | true =>
      obtain ⟨zs, c, _⟩ := c
      exact .inr ⟨p, o, zs, rfl, e, c, rfl⟩
end
end Sw

set_option Elab.async false
set_option linter.all false
set_option maxRecDepth 100000
namespace Sw
open PySem PySem.Spec L2

section
variable {X : Cz} {K : FgX}
/-! ### isinstance, join -/
def rIsiA (K : FgK) : List V → Hp → VK → Prop := fun xs H Q => ∃ x c t u b, xs = [x, c] ∧ ClsV c u ∧ TyA K H x t ∧ PySem.W.kitOne K.K t u = some b ∧ Q (.bl b) H
theorem call_isiA : CallR X (.builtin "isinstance") (rIsiA X.fr) := by
  intro pins s σ H xs us Q I r h
  obtain ⟨x, c, t, u, b, rfl, k, ty, e, q⟩ := h
  rcases ty with ty | ⟨a, o, zs, rfl, ha, hn, rfl⟩
  · exact call_isi pins s σ H _ us Q I r ⟨x, c, t, u, b, rfl, k, ty, e, q⟩
  · obtain ⟨u1, u2, rfl, r1, r2⟩ := vals2 r
    have e2 := k.eq r2
    subst e2
    cases (show u1 = Value.ref a from r1)
    obtain ⟨_, _, _, us', _, ob, es, ep, h1, h2, _⟩ := hn.obj (ha.ok I.hok)
    exact PySem.W.kia_one PySem.W.kitx_dict I.kIn ⟨ob, h1, h2.1⟩ e (fun z => nomatch z) fun tk => ⟨.bl b, H, I.tok tk, rfl, q⟩
def qIsi (T : Ty) (A : PE') : PE' := fun env Q => A env fun o env1 => ∃ d, o.rd env1 = some d ∧ Q (.dv (.bool (isi T d))) env1
theorem q_isi (T : Ty) {e : Expr} {A : PE'} {y : Str} {p p2 pos : Pos} (h : EV X e A) (hg : Gl X "isinstance") (hm : X.mg "isinstance" = none) (hg2 : Gl X y) (hm2 : X.mg y = none) (hv : bootBuiltins y = some (.type T.name)) (hn : y ≠ "__name__" := by decide) (hdb : (y == ("__debug__" : Str)) = false := by decide)
    (hs : starEach [e, .Name y p2] X.env = (false, eval e X.env) :: starEach [.Name y p2] X.env := by rfl) (hs2 : starEach [.Name y p2] X.env = (false, eval (.Name y p2) X.env) :: starEach [] X.env := by rfl) (hpl : (backTo pos (starEach [.Name y p2] X.env)).any (·.1) = false := by rfl) :
    EV X (.Call (.Name "isinstance" p) [e, .Name y p2] [] pos) (qIsi T A) := by
  obtain ⟨t, h1, l1⟩ := h.ex
  refine ⟨_, pe_callB call_isiA hg hm (by decide +kernel) (pa_cons h1 (pa_cons (pe_bltn (v := .ty T.name) hg2 hm2 hv rfl hn hdb) pa_nil hs2) hs) (by decide) (by decide) hs hpl, fun C σ H F env Q Qp R k q => ?_⟩
  refine l1 C σ H F env _ _ R (fun v H1 F1 env1 o s1 a1 q1 => ?_) q
  obtain ⟨d, e, q1⟩ := q1
  have w := rd_vw s1.rel a1 e
  exact ⟨v, .ty T.name, .type (tyN d), .type T.name, isi T d, rfl, .ty _, w.ty s1.rel.frz, kit_ty (isi_kit T d), k (.bl (isi T d)) H1 F1 env1 (.dv (.bool (isi T d))) s1 (by simp [OvOk, At]) q1⟩
def strsOf : List D → Option (List Str)
  | [] => some []
  | .str b :: r => (strsOf r).map (b :: ·)
  | _ => none
theorem strsOf_map {bs : List Str} : strsOf (bs.map PyData.str) = some bs := by
  induction bs with
  | nil => rfl
  | cons b bs ih => simp [strsOf, ih]
theorem AtAll.strs {F : Hp} : ∀ {ds : List D} {bs : List Str} {xs : List V}, strsOf ds = some bs → AtAll K F ds xs → xs = bs.map V.str
  | [], bs, xs, e, a => by
    simp only [strsOf, Option.some.injEq] at e
    subst e
    simpa [AtAll] using a
  | d :: ds, bs, xs, e, a => by
    cases d with
    | str b =>
      simp only [strsOf] at e
      cases q : strsOf ds with
      | none => rw [q] at e; cases e
      | some cs =>
        rw [q] at e
        cases e
        simp only [AtAll] at a
        obtain ⟨x, r, rfl, a, q2⟩ := a
        simp only [At] at a
        subst a
        rw [AtAll.strs q q2]
        rfl
    | _ => simp [strsOf] at e
def gJoin (z : Str) (ds : List D) : Option D := (strsOf ds).bind fun ys => if (ys.map (·.length)).sum + ys.length * z.length ≤ 16777216 then some (.str (Txt.join z ys)) else none
def seqOf : D → Option (List D)
  | .list ds => some ds
  | .tuple ds => some ds
  | _ => none
def qJoin (A B : PE') : PE' := fun env Q => A env fun o env1 => ∃ z, o = .dv (.str z) ∧ B env1 fun o2 env2 => ∃ d, o2.rd env2 = some d ∧ ∃ ds, seqOf d = some ds ∧ ∃ d', gJoin z ds = some d' ∧ Q (.dv d') env2
theorem q_join {a e : Expr} {A B : PE'} {apos pos : Pos} (ha : EV X a A) (hb : EV X e B) (hs : starEach [e] X.env = [(false, eval e X.env)] := by rfl) (hbase : attributeBase a "join" X.env (eval a X.env) = eval a X.env := by rfl) (hline : (apos.endLine == pos.line) = true := by rfl) :
    EV X (.Call (.Attribute a "join" apos) [e] [] pos) (qJoin A B) := by
  obtain ⟨t, h1, l1⟩ := ha.ex
  obtain ⟨u, h2, l2⟩ := hb.ex
  refine ⟨_, pe_join h1 h2 hs hbase hline, fun C σ H F env Q Qp R k q => ?_⟩
  refine l1 C σ H F env _ _ R (fun v H1 F1 env1 o s1 a1 q1 => ?_) q
  obtain ⟨z, rfl, q1⟩ := q1
  have a1 : v = .str z := by simpa [OvOk, At] using a1
  subst a1
  refine ⟨⟨z, rfl⟩, ?_⟩
  refine l2 C σ H1 F1 env1 _ _ s1.rel (fun v2 H2 F2 env2 o2 s2 a2 q2 => ?_) q1
  obtain ⟨d, e, ds, e2, d', e3, q2⟩ := q2
  have w := rd_vw s2.rel a2 e
  unfold gJoin at e3
  cases q : strsOf ds with
  | none => rw [q] at e3; cases e3
  | some ys =>
    rw [q] at e3
    simp only [Option.bind_some] at e3
    split at e3
    · cases e3
      unfold seqOf at e2
      split at e2
      · cases e2
        obtain ⟨p, xs, rfl, f1, f2⟩ := w
        have := f2.strs q
        subst this
        exact ⟨z, p, ys, rfl, rfl, .inl (SqL.of f1), ‹_›, k _ H2 F2 env2 (.dv _) (s1.trans s2) (by simp [OvOk, At]) q2⟩
      · cases e2
        obtain ⟨p, xs, rfl, f1, f2⟩ := w.tup s2.rel.frz
        have := f2.strs q
        subst this
        exact ⟨z, p, ys, rfl, rfl, .inr f1, ‹_›, k _ H2 F2 env2 (.dv _) (s1.trans s2) (by simp [OvOk, At]) q2⟩
      · cases e2
    · cases e3

/-! ### slots -/
section
variable {C : Ec} {σ : L2.St} {H F : Hp} {env : List SV}
theorem set_oth {i j : Nat} {l : Bool} {es : Ct} {d : D} (h : (env.set i (.dat d))[j]? = some (SV.obj l es)) : j ≠ i ∧ env[j]? = some (SV.obj l es) := by
  by_cases e : j = i
  · subst e
    by_cases hi : j < env.length
    · rw [List.getElem?_set_self hi] at h; cases h
    · rw [List.getElem?_eq_none (by rw [List.length_set]; omega)] at h; cases h
  · rw [List.getElem?_set_ne (Ne.symm e)] at h; exact ⟨e, h⟩
theorem Rel.assign (R : Rel K C σ H F env) {i : Nat} {d : D} {v : V} (hi : i < σ.length) (a : At K F d v) : Rel K C (σ.set i (some v)) H F (env.set i (.dat d)) := by
  refine ⟨⟨R.frz, R.mono, R.new, R.frame, R.la, by rw [List.length_set, List.length_set]; exact R.len, fun j sv e => ?_, fun j k l ds m es h1 h2 h3 => ?_⟩, R.xok⟩
  · by_cases e' : j = i
    · subst e'
      rw [List.getElem?_set_self (by rw [R.len]; exact hi)] at e
      cases e
      exact ⟨v, List.getElem?_set_self hi, a⟩
    · rw [List.getElem?_set_ne (Ne.symm e')] at e ⊢
      exact R.slot j sv e
  · obtain ⟨n1, h1⟩ := set_oth h1
    obtain ⟨n2, h2⟩ := set_oth h2
    rw [List.getElem?_set_ne (Ne.symm n1), List.getElem?_set_ne (Ne.symm n2)] at h3
    exact R.dist j k l ds m es h1 h2 h3
theorem Rel.assignO (R : Rel K C σ H F env) {i : Nat} {ds : Ct} {p : Addr} {xs : HO} (hi : i < σ.length) (hp : H p = some xs) (fp : F p = none) (h0 : C.H0 p = none) (no : ¬ Own σ env p) (a : CtOk K F p xs ds) :
    Rel K C (σ.set i (some (.ref p))) H F (env.set i (.obj false ds)) := by
  have hi' : i < env.length := by rw [R.len]; exact hi
  refine ⟨⟨R.frz, R.mono, R.new, R.frame, R.la, by rw [List.length_set, List.length_set]; exact R.len, fun j sv e => ?_, fun j k l es m fs h1 h2 h3 => ?_⟩, R.xok⟩
  · by_cases e' : j = i
    · subst e'
      rw [List.getElem?_set_self hi'] at e
      cases e
      exact ⟨p, xs, List.getElem?_set_self hi, hp, fp, by rw [if_neg (by decide)]; exact h0, a⟩
    · rw [List.getElem?_set_ne (Ne.symm e')] at e ⊢
      exact R.slot j sv e
  · by_cases e1 : j = i
    · by_cases e2 : k = i
      · rw [e1, e2]
      · subst e1
        rw [List.getElem?_set_self hi, List.getElem?_set_ne (Ne.symm e2)] at h3
        rw [List.getElem?_set_ne (Ne.symm e2)] at h2
        exact absurd ⟨k, m, fs, h2, h3.symm⟩ no
    · by_cases e2 : k = i
      · subst e2
        rw [List.getElem?_set_self hi, List.getElem?_set_ne (Ne.symm e1)] at h3
        rw [List.getElem?_set_ne (Ne.symm e1)] at h1
        exact absurd ⟨j, l, es, h1, h3⟩ no
      · rw [List.getElem?_set_ne (Ne.symm e1), List.getElem?_set_ne (Ne.symm e2)] at h3
        rw [List.getElem?_set_ne (Ne.symm e1)] at h1
        rw [List.getElem?_set_ne (Ne.symm e2)] at h2
        exact R.dist j k l es m fs h1 h2 h3
theorem Rel.assignF (R : Rel K C σ H F env) {i : Nat} {ds : List D} {p : Addr} {xs : List V} (hi : i < σ.length) (hp : H p = some (.lst xs)) (fp : F p = none) (h0 : C.H0 p = none) (no : ¬ Own σ env p) (a : AtAll K F ds xs) :
    Rel K C (σ.set i (some (.ref p))) H F (env.set i (.own false ds)) := R.assignO hi hp fp h0 no ⟨xs, rfl, a⟩
end

/-! ### statements -/
def sNil : PS' := fun Dp env => Dp.nx env
def sSeq (A B : PS') : PS' := fun Dp env => A { Dp with nx := B Dp } env
theorem s_nil : EB X [] sNil := ⟨_, pss_nil, fun C σ H F env D Dp R k q => k.nx σ H F env R Le.rfl' q⟩
theorem s_cons {st : Stmt} {rest : List Stmt} {A B : PS'} (h : ES X st A) (g : EB X rest B) : EB X (st :: rest) (sSeq A B) := by
  obtain ⟨t, h1, l1⟩ := h.ex
  obtain ⟨u, h2, l2⟩ := g.ex
  refine ⟨_, pss_cons h1 h2, fun C σ H F env D Dp R k q => ?_⟩
  exact l1 C σ H F env { D with nx := u D } { Dp with nx := B Dp } R ⟨fun σ' H' F' env' R' l q' => l2 C σ' H' F' env' D Dp R' (k.mono l) q', k.rt, k.bk, k.ct⟩ q
theorem s_one {st : Stmt} {A : PS'} (h : ES X st A) : EB X [st] A := by
  obtain ⟨t, h1, l1⟩ := h.ex
  exact ⟨_, pss_one h1, l1⟩
def sPass : PS' := fun Dp env => Dp.nx env
theorem s_pass {pos : Pos} : ES X (.Pass pos) sPass := ⟨_, ps_pass, fun C σ H F env D Dp R k q => k.nx σ H F env R Le.rfl' q⟩
def sBreak : PS' := fun Dp env => Dp.bk env
theorem s_break {pos : Pos} : ES X (.Break pos) sBreak := ⟨_, ps_break, fun C σ H F env D Dp R k q => k.bk σ H F env R Le.rfl' q⟩
def sCont : PS' := fun Dp env => Dp.ct env
theorem s_cont {pos : Pos} : ES X (.Continue pos) sCont := ⟨_, ps_continue, fun C σ H F env D Dp R k q => k.ct σ H F env R Le.rfl' q⟩
def sIf (c : PT') (A B : PS') : PS' := fun Dp env => c env fun b env1 => if b = true then A Dp env1 else B Dp env1
theorem s_if {c : Expr} {a b : List Stmt} {pos : Pos} {T : PT'} {A B : PS'} (hc : ET X c T) (ha : EB X a A) (hb : EB X b B) : ES X (.If c a b pos) (sIf T A B) := by
  obtain ⟨t, h1, l1⟩ := hc.ex
  obtain ⟨u, h2, l2⟩ := ha.ex
  obtain ⟨w, h3, l3⟩ := hb.ex
  refine ⟨_, ps_if h1 h2 h3, fun C σ H F env D Dp R k q => ?_⟩
  refine l1 C σ H F env _ _ R (fun b H1 F1 env1 s1 q1 => ?_) q
  cases b with
  | true => exact l2 C σ H1 F1 env1 D Dp s1.rel (k.mono s1.ff) q1
  | false => exact l3 C σ H1 F1 env1 D Dp s1.rel (k.mono s1.ff) q1
def sRet (A : PE') : PS' := fun Dp env => A env fun o env1 => ∃ d env2, o.fz env1 = some (d, env2) ∧ Dp.rt (.dt d) env2
theorem s_ret {e : Expr} {A : PE'} {pos : Pos} (h : EV X e A) : ES X (.Return (some e) pos) (sRet A) := by
  obtain ⟨t, h1, l1⟩ := h.ex
  refine ⟨_, ps_ret h1, fun C σ H F env D Dp R k q => ?_⟩
  refine l1 C σ H F env _ _ R (fun v H1 F1 env1 o s1 a1 q1 => ?_) q
  obtain ⟨d, env2, e, q1⟩ := q1
  obtain ⟨F2, s2, a2⟩ := fz_ok s1.rel a1 e
  exact k.rt σ H1 F2 env2 (.dt d) v s2.rel (s1.ff.trans' s2.ff) a2 q1
/-- a list that nobody holds is handed back -/
def sRetF (T : PF') : PS' := fun Dp env => T env fun ds env1 => Dp.rt (.fr ds) env1
theorem s_retF {e : Expr} {T : PF'} {pos : Pos} (h : EF X e T) : ES X (.Return (some e) pos) (sRetF T) := by
  obtain ⟨t, h1, l1⟩ := h.ex
  refine ⟨_, ps_ret h1, fun C σ H F env D Dp R k q => ?_⟩
  refine l1 C σ H F env _ _ R (fun p xs ds H1 F1 env1 s1 hp fp h0 no hn a q1 => ?_) q
  exact k.rt σ H1 F1 env1 (.fr ds) (.ref p) s1.rel s1.ff ⟨p, xs, rfl, hp, fp, h0, a⟩ q1
def sRetS (i : Nat) : PS' := fun Dp env => ∃ ds, env[i]? = some (.own false ds) ∧ Dp.rt (.fr ds) env
theorem s_retS (i : Nat) {x : Str} {p pos : Pos} (hN : X.N[i]? = some x := by rfl) (hv : Vis X.env.scope x := by first | exact Or.inl rfl | exact Or.inr (Or.inl rfl) | exact Or.inr (Or.inr rfl)) (hd : (x == ("__debug__" : Str)) = false := by decide)
    (hcd : (x == ("__classdict__" : Str)) = false := by decide) : ES X (.Return (some (.Name x p)) pos) (sRetS i) := by
  refine ⟨_, ps_ret (pe_var hN hv hd hcd), fun C σ H F env D Dp R k q => ?_⟩
  obtain ⟨ds, e, q⟩ := q
  obtain ⟨p, u, e1, e2, e3, e4, xs, rfl, e5⟩ := R.slot i _ e
  exact ⟨.ref p, e1, k.rt σ H F env (.fr ds) (.ref p) R Le.rfl' ⟨p, xs, rfl, e2, e3, by simpa using e4, e5⟩ q⟩
def sDrop (A : PE') : PS' := fun Dp env => A env fun _ env1 => Dp.nx env1
theorem s_expr {e : Expr} {A : PE'} {pos : Pos} (h : EV X e A) (hs : swapsWith e none pos.line X.env = pure false := by rfl) : ES X (.Expr e pos) (sDrop A) := by
  obtain ⟨t, h1, l1⟩ := h.ex
  refine ⟨_, ps_expr h1 hs, fun C σ H F env D Dp R k q => ?_⟩
  refine l1 C σ H F env _ _ R (fun v H1 F1 env1 o s1 a1 q1 => ?_) q
  exact k.nx σ H1 F1 env1 s1.rel s1.ff q1
def sAsg (i : Nat) (A : PE') : PS' := fun Dp env => A env fun o env1 => ∃ d env2, o.fz env1 = some (d, env2) ∧ i < env2.length ∧ Dp.nx (env2.set i (.dat d))
theorem s_set {i : Nat} {x : Str} {e : Expr} {A : PE'} {pos pos' : Pos} (hN : X.N.Nodup) (hi : X.N[i]? = some x) (hx : Loc X.env.scope x) (h : EV X e A) (hs : swapsWith e (some (.Name x pos')) pos.line X.env = pure false := by rfl) (hf : X.fn x = true ∨ X.env.scope.names.lookup x = some .local := by first | exact .inl rfl | exact .inr rfl | assumption) :
    ES X (.Assign [.Name x pos'] e pos) (sAsg i A) := by
  obtain ⟨t, h1, l1⟩ := h.ex
  refine ⟨_, ps_set hN hi hx h1 hs hf, fun C σ H F env D Dp R k q => ?_⟩
  refine l1 C σ H F env _ _ R (fun v H1 F1 env1 o s1 a1 q1 => ?_) q
  obtain ⟨d, env2, e, hl, q1⟩ := q1
  obtain ⟨F2, s2, a2⟩ := fz_ok s1.rel a1 e
  exact k.nx _ H1 F2 _ (s2.rel.assign (by rw [← s2.rel.len]; exact hl) a2) (s1.ff.trans' s2.ff) q1
def sAsgF (i : Nat) (T : PF') : PS' := fun Dp env => T env fun ds env1 => i < env1.length ∧ Dp.nx (env1.set i (.own false ds))
theorem s_setF {i : Nat} {x : Str} {e : Expr} {T : PF'} {pos pos' : Pos} (hN : X.N.Nodup) (hi : X.N[i]? = some x) (hx : Loc X.env.scope x) (h : EF X e T) (hs : swapsWith e (some (.Name x pos')) pos.line X.env = pure false := by rfl) (hf : X.fn x = true ∨ X.env.scope.names.lookup x = some .local := by first | exact .inl rfl | exact .inr rfl | assumption) :
    ES X (.Assign [.Name x pos'] e pos) (sAsgF i T) := by
  obtain ⟨t, h1, l1⟩ := h.ex
  refine ⟨_, ps_set hN hi hx h1 hs hf, fun C σ H F env D Dp R k q => ?_⟩
  refine l1 C σ H F env _ _ R (fun p xs ds H1 F1 env1 s1 hp fp h0 no hn a q1 => ?_) q
  exact k.nx _ H1 F1 _ (s1.rel.assignF (by rw [← s1.rel.len]; exact q1.1) hp fp h0 no a) s1.ff q1.2
/-- xs[k] = e, xs a slot's own list -/
def sSetIx (i : Nat) (A B : PE') : PS' := fun Dp env => A env fun o env1 => ∃ d env2, o.fz env1 = some (d, env2) ∧ (∃ l0 ds0, env2[i]? = some (.own l0 ds0)) ∧ B env2 fun ok env3 => ∃ n, ok.rd env3 = some (.int n) ∧ ∃ l ds, env3[i]? = some (.own l ds) ∧ ∃ j, ixN ds.length n = some j ∧ Dp.nx (env3.set i (.own l (ds.set j d)))
theorem s_setIx (i : Nat) {x : Str} {a b : Expr} {A B : PE'} {p p2 pos : Pos} (ha : EV X a A) (hb : EV X b B) (hN : X.N[i]? = some x := by rfl) (hv : Vis X.env.scope x := by first | exact Or.inl rfl | exact Or.inr (Or.inl rfl) | exact Or.inr (Or.inr rfl)) (hd : (x == ("__debug__" : Str)) = false := by decide)
    (hcd : (x == ("__classdict__" : Str)) = false := by decide) (hs : swapsWithSole [.Subscript (.Name x p) b p2] a pos.line X.env = pure false := by rfl) (hw : swappedStores [.Subscript (.Name x p) b p2] a X.env = pure none := by rfl)
    (h1 : (assignEach [.Subscript (.Name x p) b p2] X.env).map (·.2) = [assign (.Subscript (.Name x p) b p2) X.env] := by rfl)
    (has : ∀ v, assign (.Subscript (.Name x p) b p2) X.env v = (do
      let ov ← holding [v] (eval (.Name x p) X.env)
      let iv ← holding [v, ov] (eval b X.env)
      standAt p2
      holding [v, ov, iv] (setItem ov iv v)
      release [v, ov, iv] []) := by intro _; rfl) : ES X (.Assign [.Subscript (.Name x p) b p2] a pos) (sSetIx i A B) := by
  obtain ⟨t, g1, l1⟩ := ha.ex
  obtain ⟨u, g2, l2⟩ := hb.ex
  refine ⟨_, ps_asg g1 (pg_sub (pe_var hN hv hd hcd) g2 set_list has) hs hw h1, fun C σ H F env D Dp R k q => ?_⟩
  refine l1 C σ H F env _ _ R (fun v H1 F1 env1 o s1 a1 q1 => ?_) q
  obtain ⟨d, env2, e, ⟨l0, ds0, e0⟩, q1⟩ := q1
  obtain ⟨F2, s2, a2⟩ := fz_ok s1.rel a1 e
  -- the slot's address
  have key : ∀ (p' : Addr), σ[i]? = some (some (.ref p')) → u σ H1 fun iv H2 => rSetL (.ref p') iv v H2 fun H3 => D.nx σ H3 := fun p' hp' => by
    refine l2 C σ H1 F2 env2 _ _ s2.rel (fun iv H2 F3 env3 ok s3 a3 q3 => ?_) q1
    obtain ⟨n, e3, l, ds, e4, j, e5, q3⟩ := q3
    obtain ⟨p2, u2, f1, f2, f3, f4, xs, rfl, f5⟩ := s3.rel.slot i _ e4
    rw [hp'] at f1
    cases f1
    have w := (rd_vw s3.rel a3 e3).int
    subst w
    refine ⟨p', xs, n, j, rfl, rfl, f2, by rw [f5.len]; exact e5, ?_⟩
    have s4 := s3.rel.write (ds' := .lst (ds.set j d)) e4 hp' ⟨_, rfl, f5.set (i := j) (At.mono s3.ff _ _ a2)⟩ fun _ => ⟨_, rfl⟩
    exact k.nx σ _ F3 _ s4.rel (((s1.ff.trans' s2.ff).trans' s3.ff).trans' s4.ff) q3
  obtain ⟨p', xs0, hp', _⟩ := s2.rel.slot i _ e0
  exact ⟨.ref p', hp', key p' hp'⟩
end
end Sw

set_option Elab.async false
set_option linter.all false
set_option maxRecDepth 100000
namespace Sw
open PySem PySem.Spec L2

section
variable {X : Cz} {K : FgX}
/-! ### targets -/
abbrev TG' := D → List SV → (List SV → Prop) → Prop
abbrev TGs' := List D → List SV → (List SV → Prop) → Prop
/-- what a target leaves: only the slots S have changed, they hold data -/
structure Tgt (S : List Nat) (σ σ' : L2.St) (env env' : List SV) : Prop where
  oth : ∀ j, j ∉ S → σ'[j]? = σ[j]? ∧ env'[j]? = env[j]?
  mem : ∀ j l ds, j ∈ S → env'[j]? = some (SV.obj l ds) → env[j]? = some (SV.obj l ds) ∧ σ'[j]? = σ[j]?
  len : σ'.length = σ.length
def LG (K : FgX) (S : List Nat) (t : TG) (T : TG') : Prop := ∀ (C : Ec) (σ : L2.St) (H F : Hp) (env : List SV) (v : V) (d : D) (Q : L2.St → Hp → Prop) (Qp : List SV → Prop), Rel K C σ H F env → At K F d v →
  (∀ σ' env', Rel K C σ' H F env' → Tgt S σ σ' env env' → Qp env' → Q σ' H) → T d env Qp → t v σ H Q
def LGs (K : FgX) (S : List Nat) (t : TGs) (T : TGs') : Prop := ∀ (C : Ec) (σ : L2.St) (H F : Hp) (env : List SV) (vs : List V) (ds : List D) (Q : L2.St → Hp → Prop) (Qp : List SV → Prop), Rel K C σ H F env → AtAll K F ds vs →
  (∀ σ' env', Rel K C σ' H F env' → Tgt S σ σ' env env' → Qp env' → Q σ' H) → T ds env Qp → t vs σ H Q
structure EG (X : Cz) (S : List Nat) (e : Expr) (T : TG') : Prop where
  ex : ∃ t, PG X e t ∧ LG X.fr S t T
structure EGs (X : Cz) (S : List Nat) (es : List Expr) (T : TGs') : Prop where
  ex : ∃ t, PGs X es t ∧ LGs X.fr S t T
def gN (i : Nat) : TG' := fun d env Q => i < env.length ∧ Q (env.set i (.dat d))
theorem g_name {i : Nat} {x : Str} {pos : Pos} (hN : X.N.Nodup) (hi : X.N[i]? = some x) (hx : Loc X.env.scope x) (hf : X.fn x = true ∨ X.env.scope.names.lookup x = some .local := by first | exact .inl rfl | exact .inr rfl | assumption) : EG X [i] (.Name x pos) (gN i) := by
  refine ⟨_, pg_name hN hi hx hf, fun C σ H F env v d Q Qp R a k q => ?_⟩
  refine k _ _ (R.assign (by rw [← R.len]; exact q.1) a) ⟨fun j hj => ?_, fun j l ds hj h => ?_, by rw [List.length_set]⟩ q.2
  · have ne : i ≠ j := fun e => hj (by simp [e])
    exact ⟨List.getElem?_set_ne ne, List.getElem?_set_ne ne⟩
  · have e : j = i := by simpa using hj
    subst e
    rw [List.getElem?_set_self q.1] at h
    cases h
def gsN : TGs' := fun ds env Q => ds = [] ∧ Q env
def gsC (T : TG') (U : TGs') : TGs' := fun ds env Q => ∃ d r, ds = d :: r ∧ T d env fun env1 => U r env1 Q
theorem gs_nil : EGs X [] [] gsN := by
  refine ⟨_, pgs_nil, fun C σ H F env vs ds Q Qp R a k q => ?_⟩
  obtain ⟨rfl, q⟩ := q
  have a : vs = [] := by simpa [AtAll] using a
  exact ⟨a, k σ env R ⟨fun _ _ => ⟨rfl, rfl⟩, fun _ _ _ h _ => by simp at h, rfl⟩ q⟩
theorem Tgt.trans {S S' : List Nat} {σ σ1 σ2 : L2.St} {env env1 env2 : List SV} (a : Tgt S σ σ1 env env1) (b : Tgt S' σ1 σ2 env1 env2) : Tgt (S ++ S') σ σ2 env env2 := by
  refine ⟨fun j hj => ?_, fun j l ds hj h => ?_, b.len.trans a.len⟩
  · rw [List.mem_append, not_or] at hj
    obtain ⟨e1, e2⟩ := a.oth j hj.1
    obtain ⟨e3, e4⟩ := b.oth j hj.2
    exact ⟨e3.trans e1, e4.trans e2⟩
  · by_cases hb : j ∈ S'
    · obtain ⟨e1, e2⟩ := b.mem j l ds hb h
      by_cases ha : j ∈ S
      · obtain ⟨e3, e4⟩ := a.mem j l ds ha e1
        exact ⟨e3, e2.trans e4⟩
      · obtain ⟨e3, e4⟩ := a.oth j ha
        exact ⟨e4.symm.trans e1, e2.trans e3⟩
    · obtain ⟨e1, e2⟩ := b.oth j hb
      rw [e2] at h
      by_cases ha : j ∈ S
      · obtain ⟨e3, e4⟩ := a.mem j l ds ha h
        exact ⟨e3, e1.trans e4⟩
      · obtain ⟨e3, e4⟩ := a.oth j ha
        exact ⟨e4.symm.trans h, e1.trans e3⟩
theorem gs_cons {S S' : List Nat} {e : Expr} {es : List Expr} {T : TG'} {U : TGs'} (h : EG X S e T) (g : EGs X S' es U) (hs : (assignEach (e :: es) X.env).map (·.2) = assign e X.env :: (assignEach es X.env).map (·.2) := by rfl) : EGs X (S ++ S') (e :: es) (gsC T U) := by
  obtain ⟨t, h1, l1⟩ := h.ex
  obtain ⟨u, h2, l2⟩ := g.ex
  refine ⟨_, pgs_cons h1 h2 hs, fun C σ H F env vs ds Q Qp R a k q => ?_⟩
  obtain ⟨d, r, rfl, q⟩ := q
  simp only [AtAll] at a
  obtain ⟨v, vr, rfl, a1, a2⟩ := a
  refine ⟨v, vr, rfl, ?_⟩
  refine l1 C σ H F env v d _ _ R a1 (fun σ1 env1 R1 t1 q1 => ?_) q
  exact l2 C σ1 H F env1 vr r _ _ R1 a2 (fun σ2 env2 R2 t2 q2 => k σ2 env2 R2 (t1.trans t2) q2) q1
def gT (n : Nat) (T : TGs') : TG' := fun d env Q => ∃ ds, d = .tuple ds ∧ ds.length = n ∧ T ds env Q
theorem g_tup {S : List Nat} {es : List Expr} {k n : Nat} {T : TGs'} {pos : Pos} (hc : X.calm = true) (h : EGs X S es T) (hn : (assignEach es X.env).length = n := by rfl) (hst : (assignEach es X.env).findIdx? (·.1) = none := by rfl) : EG X S (.Tuple es k pos) (gT n T) := by
  obtain ⟨t, h1, l1⟩ := h.ex
  refine ⟨_, pg_tup hc h1 hn hst, fun C σ H F env v d Q Qp R a kk q => ?_⟩
  obtain ⟨ds, rfl, hl, q⟩ := q
  simp only [At] at a
  obtain ⟨p, xs, rfl, e, a⟩ := a
  exact ⟨p, xs, rfl, (Le.tupAt R.frz e).sqT, by rw [a.len]; exact hl, l1 C σ H F env xs ds Q Qp R a kk q⟩
/-- target = e -/
def sAsgG (A : PE') (G : TG') : PS' := fun Dp env => A env fun o env1 => ∃ d env2, o.fz env1 = some (d, env2) ∧ G d env2 Dp.nx
theorem s_asg {S : List Nat} {tg e : Expr} {A : PE'} {G : TG'} {pos : Pos} (he : EV X e A) (hg : EG X S tg G) (hs : swapsWithSole [tg] e pos.line X.env = pure false := by rfl) (hw : swappedStores [tg] e X.env = pure none := by rfl)
    (h1 : (assignEach [tg] X.env).map (·.2) = [assign tg X.env] := by rfl) : ES X (.Assign [tg] e pos) (sAsgG A G) := by
  obtain ⟨t, g1, l1⟩ := he.ex
  obtain ⟨u, g2, l2⟩ := hg.ex
  refine ⟨_, ps_asg g1 g2 hs hw h1, fun C σ H F env D Dp R k q => ?_⟩
  refine l1 C σ H F env _ _ R (fun v H1 F1 env1 o s1 a1 q1 => ?_) q
  obtain ⟨d, env2, e, q1⟩ := q1
  obtain ⟨F2, s2, a2⟩ := fz_ok s1.rel a1 e
  exact l2 C σ H1 F2 env2 v d _ _ s2.rel a2 (fun σ' env' R' _ q' => k.nx σ' H1 F2 env' R' (s1.ff.trans' s2.ff) q') q1

/-! ### what is walked -/
def YOk (K : FgK) (F : Hp) (o : Option D) (H : Hp) (x : V) (H' : Hp) : Prop :=
  (H' = H ∧ ∃ d, o = some d ∧ At K F d x) ∨ ∃ T xs es, H T = none ∧ H' = upd H T (.tup xs) ∧ x = .ref T ∧ o = some (.tuple es) ∧ AtAll K F es xs
def ItOk (K : FgK) (J : It) (F : Hp) (ds : List D) : Prop := ∃ G Y, Walk J ds.length G Y ∧ (∀ H, Le F H → G H) ∧ ∀ i H x H', i < ds.length → Le F H → Y i H x H' → YOk K F ds[i]? H x H'
abbrev PI' := List SV → (List D → List SV → Prop) → Prop
def LI (K : FgX) (wi : TI) (T : PI') : Prop := ∀ (C : Ec) (σ : L2.St) (H F : Hp) (env : List SV) (R : It → Hp → Prop) (Qp : List D → List SV → Prop), Rel K C σ H F env →
  (∀ J ds H' F' env', Stp K C σ H F env H' F' env' → ItOk K J F' ds → Qp ds env' → R J H') → T env Qp → wi σ H R
structure EI (X : Cz) (tg e : Expr) (T : PI') : Prop where
  ex : ∃ wi, PI X tg e wi ∧ LI X.fr wi T
/-- a list, a tuple or a text is walked -/
def wAny (K : FgK) (t : TE) : TI := fun σ H R => t σ H fun x H1 => (∃ a, x = .ref a ∧ (∃ xs, SqL K H1 a xs) ∧ R (Itl K a) H1) ∨ (∃ a, x = .ref a ∧ (∃ xs, SqT K H1 a xs) ∧ R (Itt K a) H1) ∨ ∃ z, x = .str z ∧ R (Its z) H1
theorem pi_any {tg l : Expr} {t : TE} (hl : PE X l t) : PI X tg l (wAny X.fr t) := by
  refine ⟨fun pins s σ H R I h => ?_⟩
  refine thn (hl.run pins s σ H _ I h) fun v s1 ⟨x, H1, I1, r1, q1⟩ => ?_
  rcases q1 with ⟨a, e, ⟨xs, hq⟩, q⟩ | ⟨a, e, ⟨xs, hq⟩, q⟩ | ⟨z, e, q⟩
  · subst e
    cases r1
    obtain ⟨its, rv, p, hz⟩ := I1.list hq
    refine wpAny_pyIter_list p.isList ?_
    refine ⟨s1.heap.objs.size, [s1.heap.objs.size], _, _, H1, rfl, I1.kept (t' := s1.toks) fun b o e => Heap.get?_push_of_some _ e, turn_list a _, ⟨_, Heap.get?_push_size _ rfl, rfl, rfl⟩, fun b hb => ?_, q⟩
    have e : b = s1.heap.objs.size := by simpa using hb
    subst e
    exact I1.fpOk (Nat.le_refl _) (I1.hok.fresh (Nat.le_refl _))
  · subst e
    cases r1
    obtain ⟨its, rv, p, hz⟩ := I1.tuple hq
    refine wpAny_pyIter_tuple (show s1.heap.IsTuple a its.toArray from p) ?_
    refine ⟨s1.heap.objs.size, [s1.heap.objs.size], _, _, H1, rfl, I1.kept (t' := s1.toks) fun b o e => Heap.get?_push_of_some _ e, turn_tuple a _, ⟨_, Heap.get?_push_size _ rfl, rfl, rfl⟩, fun b hb => ?_, q⟩
    have e : b = s1.heap.objs.size := by simpa using hb
    subst e
    exact I1.fpOk (Nat.le_refl _) (I1.hok.fresh (Nat.le_refl _))
  · subst e
    obtain ⟨t, rfl⟩ := r1
    cases ha : z.cps.all (· < 128)
    · exact wpAny_pyIter_wide ha (pi_one (tk := s1.toks) I1 _ (turn_str _ z t "str_iterator" (.inr rfl)) ⟨_, Heap.get?_push_size _ rfl, rfl, rfl⟩ q)
    · exact wpAny_pyIter_ascii ha (pi_one (tk := s1.toks) I1 _ (turn_str _ z t "str_ascii_iterator" (.inl rfl)) ⟨_, Heap.get?_push_size _ rfl, rfl, rfl⟩ q)
def signD (c : Nat) : D := .str ⟨#[c]⟩
def itemsOf : D → Option (List D)
  | .list ds => some ds
  | .tuple ds => some ds
  | .str z => some (z.cps.toList.map signD)
  | _ => none
def iAny (A : PE') : PI' := fun env Q => A env fun o env1 => ∃ d env2, o.fz env1 = some (d, env2) ∧ ∃ ds, itemsOf d = some ds ∧ Q ds env2
theorem yAt_ok {F : Hp} {ds : List D} {xs : List V} (a : AtAll K F ds xs) {i : Nat} {H H' : Hp} {x : V} (y : YAt xs i H x H') : YOk K F ds[i]? H x H' := by
  obtain ⟨e, h⟩ := y
  obtain ⟨d, e2, a2⟩ := a.get' h
  exact .inl ⟨e, d, e2, a2⟩
theorem i_any {tg e : Expr} {A : PE'} (h : EV X e A) : EI X tg e (iAny A) := by
  obtain ⟨t, h1, l1⟩ := h.ex
  refine ⟨_, pi_any h1, fun C σ H F env R Qp Rl k q => ?_⟩
  refine l1 C σ H F env _ _ Rl (fun v H1 F1 env1 o s1 a1 q1 => ?_) q
  obtain ⟨d, env2, e, ds, e2, q1⟩ := q1
  obtain ⟨F2, s2, a2⟩ := fz_ok s1.rel a1 e
  unfold itemsOf at e2
  split at e2
  · cases e2
    simp only [At] at a2
    obtain ⟨p, xs, rfl, f1, f2⟩ := a2
    refine .inl ⟨p, rfl, ⟨xs, SqL.of (s2.rel.frz _ _ f1)⟩, k _ ds H1 F2 env2 (s1.trans s2) ⟨_, _, f2.len ▸ walk_list (xs := xs), fun H l => SqL.of (l _ _ f1), fun i H x H' hi l y => yAt_ok f2 y⟩ q1⟩
  · cases e2
    simp only [At] at a2
    obtain ⟨p, xs, rfl, f1, f2⟩ := a2
    refine .inr (.inl ⟨p, rfl, ⟨xs, (Le.tupAt s2.rel.frz f1).sqT⟩, k _ ds H1 F2 env2 (s1.trans s2) ⟨_, _, f2.len ▸ walk_tup (xs := xs), fun H l => (Le.tupAt l f1).sqT, fun i H x H' hi l y => yAt_ok f2 y⟩ q1⟩)
  · cases e2
    rename_i z
    have a2 : v = .str z := by simpa [At] using a2
    subst a2
    refine .inr (.inr ⟨z, rfl, k _ _ H1 F2 env2 (s1.trans s2) ⟨fun _ => True, fun i H v H' => H' = H ∧ ∃ c, z.cps[i]? = some c ∧ v = .str ⟨#[c]⟩, ?_, fun H l => trivial, fun i H x H' hi l y => ?_⟩ q1⟩)
    · rw [List.length_map, Array.length_toList]
      exact walk_str
    · obtain ⟨e, c, h1, rfl⟩ := y
      refine .inl ⟨e, signD c, ?_, by simp [At, signD]⟩
      rw [List.getElem?_map]
      have : z.cps.toList[i]? = some c := by rw [Array.getElem?_toList]; exact h1
      rw [this]
      rfl
  · cases e2
def rgD (lo : Int) (n : Nat) : List D := (List.range n).map fun (i : Nat) => PyData.int (lo + (i : Int))
theorem rg_ok {F : Hp} {lo : Int} {n : Nat} : ItOk K (Itr lo n) F (rgD lo n) := by
  refine ⟨fun _ => True, YFn fun i => .int (lo + i), ?_, fun H l => trivial, fun i H x H' hi l y => ?_⟩
  · unfold rgD
    rw [List.length_map, List.length_range]
    exact walk_range
  · obtain ⟨e, rfl⟩ := y
    refine .inl ⟨e, .int (lo + i), ?_, by simp [At]⟩
    unfold rgD at hi ⊢
    rw [List.length_map, List.length_range] at hi
    rw [List.getElem?_map, List.getElem?_range hi]
    rfl
def iRg1 (A : PE') : PI' := fun env Q => A env fun o env1 => ∃ j, o.rd env1 = some (.int j) ∧ (-(2 ^ 62) ≤ j ∧ j < 2 ^ 62) ∧ Q (rgD 0 j.toNat) env1
theorem i_rg1 {tg a : Expr} {A : PE'} {p pos : Pos} (h : EV X a A) (hg : Gl X "range") (hm : X.mg "range" = none) (hs : starEach [a] X.env = [(false, eval a X.env)] := by rfl) (hs' : starEach (a :: []) X.env = (false, eval a X.env) :: starEach [] X.env := by rfl) : EI X tg (.Call (.Name "range" p) [a] [] pos) (iRg1 A) := by
  obtain ⟨t, h1, l1⟩ := h.ex
  refine ⟨_, pi_range1 hg hm (pa_cons h1 pa_nil hs') hs, fun C σ H F env R Qp Rl k q => ?_⟩
  refine l1 C σ H F env _ _ Rl (fun v H1 F1 env1 o s1 a1 q1 => ?_) q
  obtain ⟨j, e, ⟨b1, b2⟩, q1⟩ := q1
  have w := (rd_vw s1.rel a1 e).int
  subst w
  exact ⟨j, rfl, b1, b2, k _ _ H1 F1 env1 s1 rg_ok q1⟩
def iRg2 (A B : PE') : PI' := fun env Q => A env fun o env1 => B env1 fun o2 env2 => ∃ i, o.rd env2 = some (.int i) ∧ ∃ j, o2.rd env2 = some (.int j) ∧ (-(2 ^ 62) ≤ i ∧ i < 2 ^ 62 ∧ -(2 ^ 62) ≤ j ∧ j < 2 ^ 62) ∧ Q (rgD i (j - i).toNat) env2
theorem i_rg2 {tg a b : Expr} {A B : PE'} {p pos : Pos} (h : EV X a A) (g : EV X b B) (hg : Gl X "range") (hm : X.mg "range" = none) (hs : starEach [a, b] X.env = [(false, eval a X.env), (false, eval b X.env)] := by rfl) (hs2 : starEach [b] X.env = [(false, eval b X.env)] := by rfl)
    (hs' : starEach [a, b] X.env = (false, eval a X.env) :: starEach [b] X.env := by rfl) (hs2' : starEach [b] X.env = (false, eval b X.env) :: starEach [] X.env := by rfl) : EI X tg (.Call (.Name "range" p) [a, b] [] pos) (iRg2 A B) := by
  obtain ⟨t, h1, l1⟩ := h.ex
  obtain ⟨u, h2, l2⟩ := g.ex
  refine ⟨_, pi_range2 hg hm (pa_cons h1 (pa_cons h2 pa_nil hs2') hs') hs hs2, fun C σ H F env R Qp Rl k q => ?_⟩
  refine l1 C σ H F env _ _ Rl (fun v H1 F1 env1 o s1 a1 q1 => ?_) q
  refine l2 C σ H1 F1 env1 _ _ s1.rel (fun v2 H2 F2 env2 o2 s2 a2 q2 => ?_) q1
  obtain ⟨i, e1, j, e2, b, q2⟩ := q2
  have w1 := (rd_vw s2.rel (a1.mono s2.ff) e1).int
  have w2 := (rd_vw s2.rel a2 e2).int
  subst w1 w2
  exact ⟨i, j, rfl, b, k _ _ H2 F2 env2 (s1.trans s2) rg_ok q2⟩
def enD : Nat → List D → List D
  | _, [] => []
  | i, d :: r => .tuple [.int (i : Nat), d] :: enD (i + 1) r
theorem enD_len : ∀ (i : Nat) (ds : List D), (enD i ds).length = ds.length
  | _, [] => rfl
  | i, d :: r => by simp [enD, enD_len (i + 1) r]
theorem enD_get : ∀ (j i : Nat) (ds : List D), (enD i ds)[j]? = ds[j]?.map fun d => .tuple [.int ((i + j : Nat) : Int), d]
  | _, _, [] => by simp [enD]
  | 0, i, d :: r => by simp [enD]
  | j + 1, i, d :: r => by
    simp only [enD, List.getElem?_cons_succ]
    rw [enD_get j (i + 1) r]
    congr 1
    funext d
    rw [show i + 1 + j = i + (j + 1) by omega]
/-- enumerate(a list) -/
def iEnu (A : PE') : PI' := fun env Q => A env fun o env1 => ∃ d env2, o.fz env1 = some (d, env2) ∧ ∃ ds, d = .list ds ∧ Q (enD 0 ds) env2
theorem i_enu {a : Expr} {A : PE'} {elts : List Expr} {kk : Nat} {p pos tpos : Pos} (h : EV X a A) (hg : Gl X "enumerate") (hm : X.mg "enumerate" = none) (hs : starEach [a] X.env = [(false, eval a X.env)] := by rfl) (hs' : starEach (a :: []) X.env = (false, eval a X.env) :: starEach [] X.env := by rfl) : EI X (.Tuple elts kk tpos) (.Call (.Name "enumerate" p) [a] [] pos) (iEnu A) := by
  obtain ⟨t, h1, l1⟩ := h.ex
  refine ⟨_, pi_enum hg hm (pa_cons h1 pa_nil hs') hs, fun C σ H F env R Qp Rl k q => ?_⟩
  refine l1 C σ H F env _ _ Rl (fun v H1 F1 env1 o s1 a1 q1 => ?_) q
  obtain ⟨d, env2, e, ds, rfl, q1⟩ := q1
  obtain ⟨F2, s2, a2⟩ := fz_ok s1.rel a1 e
  simp only [At] at a2
  obtain ⟨p, xs, rfl, f1, f2⟩ := a2
  refine ⟨p, xs, rfl, SqL.of (s2.rel.frz _ _ f1), k _ _ H1 F2 env2 (s1.trans s2) ⟨fun H => SqL X.fr H p xs, YPair (fun i => some (.int (i : Nat))) (fun i => xs[i]?), ?_, fun H l => SqL.of (l _ _ f1), fun i H x H' hi l y => ?_⟩ q1⟩
  · rw [enD_len, ← f2.len]
    exact walk_enum
  · obtain ⟨T, x1, x2, rfl, nT, rfl, h1, h2⟩ := y
    cases h1
    obtain ⟨d, e3, a3⟩ := f2.get' h2
    refine .inr ⟨T, _, [.int (i : Nat), d], nT, rfl, rfl, ?_, AtAll.cons (by simp [At]) (AtAll.cons a3 AtAll.nil)⟩
    rw [enD_get, e3]
    simp

/-! ### for -/
def pFor (G : TG') (B : PS') (Dp : PEnds) : List D → List SV → Prop
  | [], env => Dp.nx env
  | d :: r, env => G d env fun env1 => B { Dp with nx := pFor G B Dp r, ct := pFor G B Dp r, bk := Dp.nx } env1
def sFor (I : PI') (G : TG') (B : PS') : PS' := fun Dp env => I env fun ds env1 => pFor G B Dp ds env1
/-- an item has come -/
theorem YOk.rel {C : Ec} {σ : L2.St} {H F : Hp} {env : List SV} {o : Option D} {x : V} {H' : Hp} (R : Rel K C σ H F env) (y : YOk K F o H x H') : ∃ F' d, o = some d ∧ Stp K C σ H F env H' F' env ∧ At K F' d x := by
  rcases y with ⟨rfl, d, e, a⟩ | ⟨T, xs, es, hT, rfl, rfl, e, a⟩
  · exact ⟨F, d, e, Stp.refl R, a⟩
  · have s := R.alloc (o := .tup xs) hT
    exact ⟨_, _, e, s, At.tup_of upd_same (AtAll.mono s.ff _ _ a)⟩
theorem YOk.mono {F F' : Hp} (h : Le F F') {o : Option D} {H H' : Hp} {x : V} (y : YOk K F o H x H') : YOk K F' o H x H' := by
  rcases y with ⟨e, d, e2, a⟩ | ⟨T, xs, es, hT, e1, e2, e, a⟩
  · exact .inl ⟨e, d, e2, At.mono h _ _ a⟩
  · exact .inr ⟨T, xs, es, hT, e1, e2, e, AtAll.mono h _ _ a⟩
theorem s_for {S : List Nat} {tg iter : Expr} {body : List Stmt} {I : PI'} {G : TG'} {B : PS'} {pos : Pos} (hp : PassesOwn (model X.prog X.w) X.A X.env X.xe) (hc : X.calm = true) (hi : EI X tg iter I) (hg : EG X S tg G) (hb : EB X body B)
    (hs : ∀ x, foldedSetIterable iter X.env x = pure x := by intro _; rfl) : ES X (.For tg iter body [] pos) (sFor I G B) := by
  obtain ⟨wi, h1, l1⟩ := hi.ex
  obtain ⟨g, h2, l2⟩ := hg.ex
  obtain ⟨tb, h3, l3⟩ := hb.ex
  refine ⟨_, ps_for hp hc h1 h2 h3 hs, fun C σ H F env D Dp R k q => ?_⟩
  refine l1 C σ H F env _ _ R (fun J ds H1 F1 env1 s1 it q1 => ?_) q
  obtain ⟨Gd, Y, w, gd, yd⟩ := it
  have k1 := k.mono s1.ff
  refine for_it w (fun i σ H => ∃ F2 env2, Rel X.fr C σ H F2 env2 ∧ Le F1 F2 ∧ pFor G B Dp (ds.drop i) env2) ⟨F1, env1, s1.rel, Le.rfl', by simpa using q1⟩ (fun i σ H hi ⟨F2, env2, R2, l, _⟩ => gd H (l.trans' R2.frz)) (fun i x σ H H' hi ⟨F2, env2, R2, l, q2⟩ y => ?_) (fun σ H ⟨F2, env2, R2, l, q2⟩ => ?_)
  · obtain ⟨F3, d, e, s3, a3⟩ := (YOk.mono l (yd i H x H' hi (l.trans' R2.frz) y)).rel R2
    have e2 : ds.drop i = d :: ds.drop (i + 1) := by
      obtain ⟨hlt, e4⟩ := List.getElem?_eq_some_iff.mp e
      rw [List.drop_eq_getElem_cons hlt, e4]
    rw [e2] at q2
    have l3' := l.trans' s3.ff
    refine l2 C σ H' F3 env2 x d _ _ s3.rel a3 (fun σ' env' R' _ q' => ?_) q2
    refine l3 C σ' H' F3 env' _ { Dp with nx := pFor G B Dp (ds.drop (i + 1)), ct := pFor G B Dp (ds.drop (i + 1)), bk := Dp.nx } R' ⟨fun σ4 H4 F4 env4 R4 m q4 => ⟨F4, env4, R4, l3'.trans' m, q4⟩, fun σ4 H4 F4 env4 rv v R4 m r q4 => k1.rt σ4 H4 F4 env4 rv v R4 (l3'.trans' m) r q4, fun σ4 H4 F4 env4 R4 m q4 => k1.nx σ4 H4 F4 env4 R4 (l3'.trans' m) q4, fun σ4 H4 F4 env4 R4 m q4 => ⟨F4, env4, R4, l3'.trans' m, q4⟩⟩ q'
  · rw [List.drop_length] at q2
    exact k1.nx σ H F2 env2 R2 l q2
/-! ### while -/
def pWh (c : PT') (B : PS') (Dp : PEnds) : Nat → List SV → Prop
  | 0, _ => False
  | n + 1, env => c env fun b env1 => if b = true then B { Dp with nx := pWh c B Dp n, ct := pWh c B Dp n, bk := Dp.nx } env1 else Dp.nx env1
def sWh (c : PT') (B : PS') : PS' := fun Dp env => ∃ n, pWh c B Dp n env
theorem s_while {c : Expr} {body : List Stmt} {T : PT'} {B : PS'} {pos : Pos} (hp : PassesOwn (model X.prog X.w) X.A X.env X.xe) (hc : ET X c T) (hb : EB X body B) : ES X (.While c body [] pos) (sWh T B) := by
  obtain ⟨t, h1, l1⟩ := hc.ex
  obtain ⟨tb, h3, l3⟩ := hb.ex
  refine ⟨_, ps_while hp h1 h3, fun C σ H F env D Dp R k q => ?_⟩
  obtain ⟨n, q⟩ := q
  refine ⟨fun m σ H => ∃ F2 env2, Rel X.fr C σ H F2 env2 ∧ Le F F2 ∧ pWh T B Dp m env2, ⟨n, F, env, R, Le.rfl', q⟩, ?_⟩
  rintro m σ2 H2 ⟨F2, env2, R2, l, q2⟩
  cases m with
  | zero => exact q2.elim
  | succ m =>
    refine l1 C σ2 H2 F2 env2 _ _ R2 (fun b H3 F3 env3 s3 q3 => ?_) q2
    have l' := l.trans' s3.ff
    cases b with
    | true =>
      rw [if_pos rfl] at q3 ⊢
      refine ⟨fun σ4 H4 => ∃ F4 env4, Rel X.fr C σ4 H4 F4 env4 ∧ Le F F4 ∧ pWh T B Dp m env4, fun σ4 H4 z => ⟨m, Nat.lt_succ_self _, z⟩, ?_⟩
      exact l3 C σ2 H3 F3 env3 _ { Dp with nx := pWh T B Dp m, ct := pWh T B Dp m, bk := Dp.nx } s3.rel ⟨fun σ4 H4 F4 env4 R4 m q4 => ⟨F4, env4, R4, l'.trans' m, q4⟩, fun σ4 H4 F4 env4 rv v R4 m r q4 => k.rt σ4 H4 F4 env4 rv v R4 (l'.trans' m) r q4, fun σ4 H4 F4 env4 R4 m q4 => k.nx σ4 H4 F4 env4 R4 (l'.trans' m) q4, fun σ4 H4 F4 env4 R4 m q4 => ⟨F4, env4, R4, l'.trans' m, q4⟩⟩ q3
    | false =>
      rw [if_neg (by decide)] at q3 ⊢
      exact k.nx σ2 H3 F3 env3 s3.rel l' q3
end
end Sw

set_option Elab.async false
set_option linter.all false
set_option maxRecDepth 100000
namespace Sw
open PySem PySem.Spec L2

/-! ### methods of a slot's own list -/
section
variable {X : Cz} {K : FgX}
def LMO (K : FgK) (r : V → List V → Hp → VK → Prop) (g : List D → List D → Option (D × List D)) : Prop := ∀ (H F : Hp) (p : Addr) (xs ys : List V) (ds es ds' : List D) (d : D) (Q : VK), H p = some (.lst xs) → AtAll K F ds xs → AtAll K F es ys → g ds es = some (d, ds') →
  (∀ v xs', At K F d v → AtAll K F ds' xs' → Q v (upd H p (.lst xs'))) → r (.ref p) ys H Q
def qMO (i : Nat) (g : List D → List D → Option (D × List D)) (T : PA') : PE' := fun env Q => (∃ l ds, env[i]? = some (.own l ds)) ∧ T env fun os env1 => ∃ es env2, fzAll env1 os = some (es, env2) ∧ ∃ l ds, env2[i]? = some (.own l ds) ∧ ∃ d ds', g ds es = some (d, ds') ∧ Q (.dv d) (env2.set i (.own l ds'))
theorem q_mo (i : Nat) {id : String} {r : V → List V → Hp → VK → Prop} {g : List D → List D → Option (D × List D)} {name x : Str} {p apos cpos : Pos} {e : Expr} {es : List Expr} {T : PA'} (hl : LMO X.fr r g) (slot : Slot "list" name id) (hty : typeOf (.builtin id) = pure (.type "method_descriptor")) (hm : MtR X id r) (ha : EA X (e :: es) T)
    (hN : X.N[i]? = some x := by rfl) (hv : Vis X.env.scope x := by first | exact Or.inl rfl | exact Or.inr (Or.inl rfl) | exact Or.inr (Or.inr rfl)) (hd : (x == ("__debug__" : Str)) = false := by decide) (hcd : (x == ("__classdict__" : Str)) = false := by decide)
    (hbase : attributeBase (.Name x p) name X.env (eval (.Name x p) X.env) = eval (.Name x p) X.env := by rfl)
    (hfew : ((backTo cpos (starEach (e :: es) X.env)).all (fun x => !x.1) && (backToKw cpos (keywordEach [] X.env)).all (fun x => x.1.isSome)
      && decide ((e :: es).length + ([] : List Keyword).length + (if ([] : List Keyword).isEmpty then 0 else 1) < 30)) = true := by rfl)
    (hline : (apos.endLine == cpos.line) = true := by rfl) (hs : starEach (e :: es) X.env = (false, eval e X.env) :: starEach es X.env := by rfl) (hplain : (backTo cpos (starEach es X.env)).any (·.1) = false := by rfl) :
    EV X (.Call (.Attribute (.Name x p) name apos) (e :: es) [] cpos) (qMO i g T) := by
  obtain ⟨t, h1, l1⟩ := ha.ex
  refine ⟨_, pe_bm PySem.F.plainAttrs_list slot hty hm (pe_var hN hv hd hcd) h1 hbase hfew hline hs hplain, fun C σ H F env Q Qp R k q => ?_⟩
  obtain ⟨⟨l0, ds0, e0⟩, q⟩ := q
  obtain ⟨a, xs0, f1, f2, f3, f4, f5⟩ := R.slotL e0
  refine ⟨.ref a, f1, .inl ⟨rfl, xs0, SqL.of f2⟩, ?_⟩
  refine l1 C σ H F env _ _ R (fun vs H1 F1 env1 os s1 a1 q1 => ?_) q
  obtain ⟨es', env2, e1, l, ds, e2, d, ds', e3, q1⟩ := q1
  obtain ⟨F2, s2, a2⟩ := fzAll_ok s1.rel a1 e1
  obtain ⟨a', xs, g1, g2, g3, g4, g5⟩ := s2.rel.slotL e2
  rw [f1] at g1
  cases g1
  refine hl H1 F2 a xs vs ds es' ds' d _ g2 g5 a2 e3 fun v xs' av ax => ?_
  have s3 := s2.rel.writeL e2 f1 ax
  exact k v _ F2 _ (.dv d) ((s1.trans s2).trans s3) (OvOk.of av) q1
def qMO0 (i : Nat) (g : List D → List D → Option (D × List D)) : PE' := fun env Q => ∃ l ds, env[i]? = some (.own l ds) ∧ ∃ d ds', g ds [] = some (d, ds') ∧ Q (.dv d) (env.set i (.own l ds'))
theorem q_mo0 (i : Nat) {id : String} {r : V → List V → Hp → VK → Prop} {g : List D → List D → Option (D × List D)} {name x : Str} {p apos cpos : Pos} (hl : LMO X.fr r g) (slot : Slot "list" name id) (hty : typeOf (.builtin id) = pure (.type "method_descriptor")) (hm : MtR X id r)
    (hN : X.N[i]? = some x := by rfl) (hv : Vis X.env.scope x := by first | exact Or.inl rfl | exact Or.inr (Or.inl rfl) | exact Or.inr (Or.inr rfl)) (hd : (x == ("__debug__" : Str)) = false := by decide) (hcd : (x == ("__classdict__" : Str)) = false := by decide)
    (hbase : attributeBase (.Name x p) name X.env (eval (.Name x p) X.env) = eval (.Name x p) X.env := by rfl) (hline : (apos.endLine == cpos.line) = true := by rfl) :
    EV X (.Call (.Attribute (.Name x p) name apos) [] [] cpos) (qMO0 i g) := by
  refine ⟨_, pe_bm0 PySem.F.plainAttrs_list slot hty hm (pe_var hN hv hd hcd) hbase hline, fun C σ H F env Q Qp R k q => ?_⟩
  obtain ⟨l, ds, e2, d, ds', e3, q⟩ := q
  obtain ⟨a, xs, f1, f2, f3, f4, f5⟩ := R.slotL e2
  refine ⟨.ref a, f1, .inl ⟨rfl, xs, SqL.of f2⟩, ?_⟩
  refine hl H F a xs [] ds [] ds' d _ f2 f5 AtAll.nil e3 fun v xs' av ax => ?_
  have s3 := R.writeL e2 f1 ax
  exact k v _ F _ (.dv d) s3 (OvOk.of av) q
theorem AtAll.one {F : Hp} {d : D} {xs : List V} (h : AtAll K F [d] xs) : ∃ x, xs = [x] ∧ At K F d x := by
  simp only [AtAll] at h
  obtain ⟨x, r, rfl, a, q⟩ := h
  subst q
  exact ⟨x, rfl, a⟩
def gAppend : List D → List D → Option (D × List D)
  | ds, [y] => if ds.length < sizeLine then some (.none, ds ++ [y]) else none
  | _, _ => none
theorem l_append : LMO K rAppend gAppend := fun H F p xs ys ds es ds' d Q hp a b e k => by
  unfold gAppend at e
  split at e
  · split at e
    · cases e
      obtain ⟨y, rfl, ay⟩ := b.one
      exact ⟨p, xs, y, rfl, rfl, hp, by rw [a.len]; assumption, k _ _ (by simp [At]) (AtAll.app a (AtAll.cons ay AtAll.nil))⟩
    · cases e
  · cases e
def gPopAt : List D → List D → Option (D × List D)
  | ds, [.int i] => if -(2 ^ 63) ≤ i ∧ i < 2 ^ 63 then (seqIndex? i ds.length).bind fun j => ds[j]?.map fun d => (d, ds.eraseIdx j) else none
  | _, _ => none
theorem l_popAt : LMO K rPopAt gPopAt := fun H F p xs ys ds es ds' d Q hp a b e k => by
  unfold gPopAt at e
  split at e
  · rename_i i
    split at e
    · rename_i hb
      cases q : seqIndex? i ds.length with
      | none => rw [q] at e; cases e
      | some j =>
        rw [q] at e
        simp only [Option.bind_some] at e
        cases q2 : ds[j]? with
        | none => rw [q2] at e; cases e
        | some d0 =>
          rw [q2] at e
          cases e
          obtain ⟨y, rfl, ay⟩ := b.one
          have ay : y = .int i := by simpa [At] using ay
          subst ay
          obtain ⟨v, e1, av⟩ := a.get q2
          exact ⟨p, xs, i, j, v, rfl, rfl, hp, hb.1, hb.2, by rw [a.len]; exact q, e1, k _ _ av (a.erase j)⟩
    · cases e
  · cases e
def gPop : List D → List D → Option (D × List D)
  | ds, [] => ds[ds.length - 1]?.map fun d => (d, ds.dropLast)
  | _, _ => none
theorem AtAll.dropLast {F : Hp} {ds : List D} {xs : List V} (h : AtAll K F ds xs) : AtAll K F ds.dropLast xs.dropLast := by
  rw [List.dropLast_eq_take, List.dropLast_eq_take, h.len]
  exact h.take _
theorem l_pop : LMO K rPop gPop := fun H F p xs ys ds es ds' d Q hp a b e k => by
  unfold gPop at e
  split at e
  · cases q2 : ds[ds.length - 1]? with
    | none => rw [q2] at e; cases e
    | some d0 =>
      rw [q2] at e
      cases e
      have b : ys = [] := by simpa [AtAll] using b
      subst b
      obtain ⟨v, e1, av⟩ := a.get q2
      exact ⟨p, xs, v, rfl, rfl, hp, by rw [a.len]; exact e1, k _ _ av a.dropLast⟩
  · cases e
end

/-! ### comprehensions -/
def wipeE (env : List SV) : List Nat → List SV
  | [] => env
  | v :: vs => (wipeE env vs).set v .un
theorem wipeE_len (env : List SV) : ∀ vs : List Nat, (wipeE env vs).length = env.length
  | [] => rfl
  | v :: vs => by unfold wipeE; rw [List.length_set, wipeE_len env vs]
theorem wipeE_oth {env : List SV} {j : Nat} : ∀ {vs : List Nat}, j ∉ vs → (wipeE env vs)[j]? = env[j]?
  | [], _ => rfl
  | v :: vs, h => by
    simp only [List.mem_cons, not_or] at h
    unfold wipeE
    rw [List.getElem?_set_ne (Ne.symm h.1)]
    exact wipeE_oth h.2
theorem wipeE_mem {env : List SV} {j : Nat} {sv : SV} : ∀ {vs : List Nat}, j ∈ vs → (wipeE env vs)[j]? = some sv → sv = .un
  | v :: vs, h, e => by
    unfold wipeE at e
    by_cases q : v = j
    · subst q
      rw [List.getElem?_set] at e
      split at e
      · split at e
        · exact (Option.some.inj e).symm
        · cases e
      · exact absurd rfl ‹_›
    · rw [List.getElem?_set_ne q] at e
      rcases List.mem_cons.mp h with z | z
      · exact absurd z.symm q
      · exact wipeE_mem z e
theorem wipe_oth {σ : L2.St} {j : Nat} : ∀ {vs : List Nat}, j ∉ vs → (wipe σ vs)[j]? = σ[j]?
  | [], _ => rfl
  | v :: vs, h => by
    simp only [List.mem_cons, not_or] at h
    unfold wipe
    rw [List.getElem?_set_ne (Ne.symm h.1)]
    exact wipe_oth h.2
theorem wipe_ext : ∀ {vs : List Nat} {σ τ : L2.St}, σ.length = τ.length → (∀ j, j ∉ vs → σ[j]? = τ[j]?) → wipe σ vs = wipe τ vs := fun {vs σ τ} hl h => by
  have key : ∀ (ws : List Nat) (j : Nat), j ∈ ws → (wipe σ ws)[j]? = (wipe τ ws)[j]? := fun ws => by
    induction ws with
    | nil => intro j hj; cases hj
    | cons v ws ih =>
      intro j hj
      unfold wipe
      by_cases e : v = j
      · subst e
        rw [List.getElem?_set, List.getElem?_set]
        simp only [if_true]
        rw [wipe_length, wipe_length, hl]
      · rw [List.getElem?_set_ne e, List.getElem?_set_ne e]
        rcases List.mem_cons.mp hj with z | z
        · exact absurd z.symm e
        · exact ih j z
  apply List.ext_getElem?
  intro j
  by_cases hj : j ∈ vs
  · exact key vs j hj
  · rw [wipe_oth hj, wipe_oth hj]
    exact h j hj
theorem wipe_wipe (σ : L2.St) (vs : List Nat) : wipe (wipe σ vs) vs = wipe σ vs := wipe_ext (wipe_length σ vs) fun j hj => wipe_oth hj
section
variable {K : FgX} {C : Ec} {σ : L2.St} {H F : Hp} {env : List SV} {vs : List Nat}
theorem own_wipe {j : Nat} {l : Bool} {ds : Ct} (h : (wipeE env vs)[j]? = some (SV.obj l ds)) : j ∉ vs ∧ env[j]? = some (SV.obj l ds) := by
  by_cases hj : j ∈ vs
  · cases wipeE_mem hj h
  · rw [wipeE_oth hj] at h
    exact ⟨hj, h⟩
theorem Rel.wipe (R : Rel K C σ H F env) (vs : List Nat) : Rel K C (wipe σ vs) H F (wipeE env vs) := by
  refine ⟨⟨R.frz, R.mono, R.new, R.frame, R.la, by rw [wipeE_len, wipe_length]; exact R.len, fun j sv e => ?_, fun j k l ds m es h1 h2 h3 => ?_⟩, R.xok⟩
  · by_cases hj : j ∈ vs
    · rw [wipeE_mem hj e]
      trivial
    · rw [wipeE_oth hj] at e
      rw [wipe_oth hj]
      exact R.slot j sv e
  · obtain ⟨n1, h1⟩ := own_wipe h1
    obtain ⟨n2, h2⟩ := own_wipe h2
    rw [wipe_oth n1, wipe_oth n2] at h3
    exact R.dist j k l ds m es h1 h2 h3
theorem Rel.unwipe (R : Rel K C (L2.wipe σ vs) H F env) (he : wipeE env vs = env) : Rel K C σ H F env := by
  have ow : ∀ (j : Nat) (l : Bool) (ds : Ct), env[j]? = some (SV.obj l ds) → j ∉ vs := fun j l ds h => by
    rw [← he] at h
    exact (own_wipe h).1
  refine ⟨⟨R.frz, R.mono, R.new, R.frame, R.la, by rw [R.len, wipe_length], fun j sv e => ?_, fun j k l ds m es h1 h2 h3 => ?_⟩, R.xok⟩
  · by_cases hj : j ∈ vs
    · rw [← he] at e
      rw [wipeE_mem hj e]
      trivial
    · have q := R.slot j sv e
      rw [wipe_oth hj] at q
      exact q
  · refine R.dist j k l ds m es h1 h2 ?_
    rw [wipe_oth (ow j l ds h1), wipe_oth (ow k m es h2)]
    exact h3
theorem Own.unwipe (he : wipeE env vs = env) {b : Addr} : Own (L2.wipe σ vs) env b ↔ Own σ env b := by
  constructor
  · rintro ⟨j, l, ds, e, s⟩
    have e' := e
    rw [← he] at e'
    rw [wipe_oth (own_wipe e').1] at s
    exact ⟨j, l, ds, e, s⟩
  · rintro ⟨j, l, ds, e, s⟩
    have e' := e
    rw [← he] at e'
    refine ⟨j, l, ds, e, ?_⟩
    rw [wipe_oth (own_wipe e').1]
    exact s
/-- a turn's steps, seen from the comprehension's start -/
theorem Stp.under {τ σ2 : L2.St} {S : List Nat} {H1 F1 H2 F2 H4 F4 : Hp} {env1 env2 env3 env4 : List SV} (hτ : L2.wipe τ vs = τ) (hS : ∀ j ∈ S, j ∈ vs) (acc : Stp K C τ H1 F1 env1 H2 F2 env2) (tg : Tgt S τ σ2 env2 env3) (st : Stp K C σ2 H2 F2 env3 H4 F4 env4) :
    L2.wipe σ2 vs = τ ∧ Stp K C τ H1 F1 env1 H4 F4 (wipeE env4 vs) := by
  have e1 : L2.wipe σ2 vs = τ := by
    rw [← hτ]
    exact wipe_ext tg.len fun j hj => (tg.oth j fun z => hj (hS j z)).1
  have o1 : ∀ b, Own σ2 env3 b → Own τ env2 b := fun b ⟨j, l, ds, e, s⟩ => by
    by_cases hj : j ∈ S
    · obtain ⟨q1, q2⟩ := tg.mem j l ds hj e
      exact ⟨j, l, ds, q1, q2 ▸ s⟩
    · obtain ⟨q1, q2⟩ := tg.oth j hj
      exact ⟨j, l, ds, q2 ▸ e, q1 ▸ s⟩
  have R4 := st.rel.wipe vs
  rw [e1] at R4
  refine ⟨e1, R4, acc.ff.trans' st.ff, fun b o h n => ?_, fun b o h => ?_, fun j l ds h => ?_, fun b h => acc.dm b (st.dm b h)⟩
  · exact st.fr b o (acc.fr b o h n) fun z => n (Own.sub acc.ow (o1 b z))
  · rcases st.fn b o h with z | z | z
    · exact acc.fn b o z
    · exact .inr (.inl (acc.dm b z))
    · exact .inr (.inr (Own.sub acc.ow (o1 b z)))
  · obtain ⟨_, h⟩ := own_wipe h
    obtain ⟨ds3, h⟩ := st.ow j l ds h
    have h2 : env2[j]? = some (SV.obj l ds3) := by
      by_cases hj : j ∈ S
      · exact (tg.mem j l ds3 hj h).1
      · exact (tg.oth j hj).2 ▸ h
    exact acc.ow j l ds3 h2
/-- an object that nobody knows is changed -/
theorem Stp.other {H1 F1 H4 F4 : Hp} {env1 env4 : List SV} (acc : Stp K C σ H1 F1 env1 H4 F4 env4) {p : Addr} {o u : HO} (h1 : H1 p = none) (hp : H4 p = some u) (fp : F4 p = none) (h0 : C.H0 p = none) (no : ¬ Own σ env4 p) : Stp K C σ H1 F1 env1 (upd H4 p o) F4 env4 := by
  have R := acc.rel
  refine ⟨⟨⟨fun b v h => ?_, R.mono, R.new, fun b v h n => ?_, fun a h => ?_, R.len, fun i sv e => ?_, R.dist⟩, R.xok⟩, acc.ff, fun b v h n => ?_, acc.fn, acc.ow, fun b h => ?_⟩
  · rw [upd_ne (ne_of_none h fp)]; exact R.frz b v h
  · rw [upd_ne (ne_of_none h h0)]; exact R.frame b v h n
  · obtain ⟨e, f, o', g⟩ := R.la a h
    refine ⟨?_, f, o', g⟩
    obtain ⟨xs, e⟩ := e
    exact ⟨xs, by rw [upd_ne (ne_of_none g h0)]; exact e⟩
  · have q := R.slot i sv e
    cases sv with
    | un => trivial
    | raw z => exact q
    | dat d => exact q
    | obj l ds =>
      obtain ⟨r, xs, e1, e2, e3, e4, e5⟩ := q
      have ne : r ≠ p := by
        rintro rfl
        exact no ⟨i, l, ds, e, e1⟩
      exact ⟨r, xs, e1, by rw [upd_ne ne]; exact e2, e3, e4, e5⟩
  · rw [upd_ne (ne_of_none h h1)]; exact acc.fr b v h n
  · by_cases e : b = p
    · subst e; exact h1
    · rw [upd_ne e] at h; exact acc.dm b h
end
section
variable {X : Cz}
structure ETs (X : Cz) (ifs : List Expr) (T : PT') : Prop where
  ex : ∃ t, PTs X ifs t ∧ LT X.fr t T
def tYes' : PT' := fun env Q => Q true env
theorem ts_nil : ETs X [] tYes' := ⟨_, pts_nil, fun C σ H F env Q Qp R k q => k true H F env (Stp.refl R) q⟩
theorem ts_one {c : Expr} {T : PT'} (h : ET X c T) : ETs X [c] T := by
  obtain ⟨t, h1, l1⟩ := h.ex
  exact ⟨_, pts_one h1, l1⟩
/-- the same in every block -/
abbrev Blk (X : Cz) (scope : Scope) (P : Cz → Prop) : Prop := ∀ (s : Shared) (H : Hp) (C : Addr) (cl : List (Str × Addr)) (fp : List Addr), P (of0 (X.toCx.blk s H scope (compEnvC scope cl C X.env) fp))
abbrev FgX.no (K : FgX) : FgX := ⟨K.b, K.mg, wNo, pNo, fun _ => True⟩
section
variable {K : FgX} {C : Ec} {σ : L2.St} {H F H' F' : Hp} {env env' : List SV}
theorem Rel.dn (R : Rel K C σ H F env) : Rel K.no C σ H F env := ⟨R.toRelB, xok_no rfl⟩
theorem Rel.up (R : Rel K.no C σ H F env) (x : XOk K C) : Rel K C σ H F env := ⟨R.toRelB, x⟩
theorem Stp.up (s : Stp K.no C σ H F env H' F' env') (x : XOk K C) : Stp K C σ H F env H' F' env' := ⟨s.rel.up x, s.ff, s.fr, s.fn, s.ow, s.dm⟩
theorem LE.up {t : TE} {T : PE'} (h : LE K.no t T) : LE K t T := fun C σ H F env Q Qp R k q => h C σ H F env Q Qp R.dn (fun v H' F' env' ov st => k v H' F' env' ov (st.up R.xok)) q
theorem LT.up {t : TT} {T : PT'} (h : LT K.no t T) : LT K t T := fun C σ H F env Q Qp R k q => h C σ H F env Q Qp R.dn (fun b H' F' env' st => k b H' F' env' (st.up R.xok)) q
theorem LG.up {S : List Nat} {t : TG} {T : TG'} (h : LG K.no S t T) : LG K S t T := fun C σ H F env v d Q Qp R a k q => h C σ H F env v d Q Qp R.dn a (fun σ' env' R' => k σ' env' (R'.up R.xok)) q
end
theorem blk_ev {scope : Scope} {e : Expr} {T : PE'} (h : Blk X scope fun Y => EV Y e T) : ∃ t, (Blk X scope fun Y => PE Y e t) ∧ LE X.fr t T := by
  refine ⟨fun σ H Q => ∀ s H0 C cl fp, (Classical.choose (h s H0 C cl fp).ex) σ H Q, fun s H0 C cl fp => ⟨fun pins s1 σ H Q I q => ?_⟩, fun C σ H F env Q Qp R k q s H0 C0 cl fp => ?_⟩
  · exact (Classical.choose_spec (h s H0 C cl fp).ex).1.run pins s1 σ H Q I (q s H0 C cl fp)
  · exact LE.up (K := X.fr) (Classical.choose_spec (h s H0 C0 cl fp).ex).2 C σ H F env Q Qp R k q
theorem blk_ts {scope : Scope} {ifs : List Expr} {T : PT'} (h : Blk X scope fun Y => ETs Y ifs T) : ∃ t, (Blk X scope fun Y => PTs Y ifs t) ∧ LT X.fr t T := by
  refine ⟨fun σ H Q => ∀ s H0 C cl fp, (Classical.choose (h s H0 C cl fp).ex) σ H Q, fun s H0 C cl fp => ⟨fun pins s1 σ H Q I q => ?_⟩, fun C σ H F env Q Qp R k q s H0 C0 cl fp => ?_⟩
  · exact (Classical.choose_spec (h s H0 C cl fp).ex).1.run pins s1 σ H Q I (q s H0 C cl fp)
  · exact LT.up (K := X.fr) (Classical.choose_spec (h s H0 C0 cl fp).ex).2 C σ H F env Q Qp R k q
theorem blk_g {scope : Scope} {S : List Nat} {e : Expr} {T : TG'} (h : Blk X scope fun Y => EG Y S e T) : ∃ t, (Blk X scope fun Y => PG Y e t) ∧ LG X.fr S t T := by
  refine ⟨fun v σ H Q => ∀ s H0 C cl fp, (Classical.choose (h s H0 C cl fp).ex) v σ H Q, fun s H0 C cl fp => ⟨fun pins s1 σ H v u Q I r q => ?_⟩, fun C σ H F env v d Q Qp R a k q s H0 C0 cl fp => ?_⟩
  · exact (Classical.choose_spec (h s H0 C cl fp).ex).1.run pins s1 σ H v u Q I r (q s H0 C cl fp)
  · exact LG.up (K := X.fr) (Classical.choose_spec (h s H0 C0 cl fp).ex).2 C σ H F env v d Q Qp R a k q
def pLc (G : TG') (TT : PT') (TE : PE') (vs : List Nat) (Q : List D → List SV → Prop) : List D → List D → List SV → Prop
  | [], acc, env => Q acc env
  | d :: r, acc, env => G d env fun env1 => TT env1 fun b env2 => if b = true then TE env2 fun o env3 => ∃ y env4, o.fz env3 = some (y, env4) ∧ pLc G TT TE vs Q r (acc ++ [y]) (wipeE env4 vs) else pLc G TT TE vs Q r acc (wipeE env2 vs)
def fLc (I : PI') (G : TG') (TT : PT') (TE : PE') (vs : List Nat) : PF' := fun env Q => I env fun ds env1 => wipeE env1 vs = env1 ∧ ds.length ≤ 16777215 ∧ pLc G TT TE vs Q ds [] env1
theorem lc_sound {wi : TI} {g : TG} {tt : TT} {te : TE} {K : FgX} {I : PI'} {S : List Nat} {G : TG'} {TT : PT'} {TE : PE'} {vs : List Nat} (l1 : LI K wi I) (l2 : LG K S g G) (l3 : LT K tt TT) (l4 : LE K te TE) (hS : ∀ j ∈ S, j ∈ vs) : LF K (tLc wi g tt te vs) (fLc I G TT TE vs) := fun C σ H F env Q Qp R k q => by
  refine l1 C σ H F env _ _ R (fun J ds H1 F1 env1 s1 it q1 => ?_) q
  obtain ⟨hw, hlen, q1⟩ := q1
  obtain ⟨Gd, Y, w, gd, yd⟩ := it
  intro Dp hD
  obtain ⟨sD, fD, h0D, noD⟩ := s1.rel.alloc0 (o := .lst []) hD
  have hτ : L2.wipe (L2.wipe σ vs) vs = L2.wipe σ vs := wipe_wipe σ vs
  have R1 : Rel K C (L2.wipe σ vs) H1 F1 env1 := by
    have := s1.rel.wipe vs
    rw [hw] at this
    exact this
  obtain ⟨sD', _, _, noD'⟩ := R1.alloc0 (o := .lst []) hD
  refine lc_it w (Pv := fun i H => ∃ F2 env2 acc accv, Stp K C (L2.wipe σ vs) H1 F1 env1 H F2 env2 ∧ H Dp = some (.lst accv) ∧ F2 Dp = none ∧ ¬ Own (L2.wipe σ vs) env2 Dp ∧ AtAll K F2 acc accv ∧ acc.length ≤ i ∧ wipeE env2 vs = env2 ∧ pLc G TT TE vs Qp (ds.drop i) acc env2)
    ⟨F1, env1, [], [], sD', upd_same, fD, noD', AtAll.nil, Nat.le_refl _, hw, by simpa using q1⟩ (fun i H hi ⟨F2, env2, acc, accv, s2, _⟩ => gd H (s2.ff.trans' s2.rel.frz)) (fun i x H H' hi ⟨F2, env2, acc, accv, s2, hDl, fD2, noD2, aa, hl, hw2, q2⟩ y => ?_) (fun H ⟨F2, env2, acc, accv, s2, hDl, fD2, noD2, aa, hl, hw2, q2⟩ => ?_)
  · obtain ⟨F3, d, e, s3, a3⟩ := (YOk.mono s2.ff (yd i H x H' hi (s2.ff.trans' s2.rel.frz) y)).rel s2.rel
    have e2 : ds.drop i = d :: ds.drop (i + 1) := by
      obtain ⟨hlt, e4⟩ := List.getElem?_eq_some_iff.mp e
      rw [List.drop_eq_getElem_cons hlt, e4]
    rw [e2] at q2
    have acc3 := s2.trans s3
    have hD3 : H' Dp = some (.lst accv) := s3.fr _ _ hDl noD2
    have fD3 : F3 Dp = none := by
      cases qq : F3 Dp with
      | none => rfl
      | some u =>
        rcases s3.fn _ _ qq with z | z | z
        · rw [fD2] at z; cases z
        · rw [hDl] at z; cases z
        · exact absurd z noD2
    refine l2 C _ H' F3 env2 x d _ _ s3.rel a3 (fun σ2 env3 R3 tg q3 => ?_) q2
    have r3 : L2.wipe σ2 vs = L2.wipe σ vs := (Stp.under hτ hS acc3 tg (Stp.refl R3)).1
    refine ⟨r3, ?_⟩
    have no3 : ¬ Own σ2 env3 Dp := fun ⟨j, l, es, e1, e2⟩ => by
      by_cases hj : j ∈ S
      · obtain ⟨f1, f2⟩ := tg.mem j l es hj e1
        exact noD2 ⟨j, l, es, f1, f2 ▸ e2⟩
      · obtain ⟨f1, f2⟩ := tg.oth j hj
        exact noD2 ⟨j, l, es, f2 ▸ e1, f1 ▸ e2⟩
    refine l3 C σ2 H' F3 env3 _ _ R3 (fun b H5 F5 env5 s5 q5 => ?_) q3
    have hD5 : H5 Dp = some (.lst accv) := s5.fr _ _ hD3 no3
    have fD5 : F5 Dp = none := by
      cases qq : F5 Dp with
      | none => rfl
      | some u =>
        rcases s5.fn _ _ qq with z | z | z
        · rw [fD3] at z; cases z
        · rw [hD3] at z; cases z
        · exact absurd z no3
    cases b with
    | true =>
      rw [if_pos rfl] at q5 ⊢
      refine l4 C σ2 H5 F5 env5 _ _ s5.rel (fun v H6 F6 env6 o s6 a6 q6 => ?_) q5
      obtain ⟨y', env7, e7, q7⟩ := q6
      obtain ⟨F7, s7, a7⟩ := fz_ok s6.rel a6 e7
      have st := (s5.trans s6).trans s7
      have no5 : ¬ Own σ2 env5 Dp := fun z => no3 (Own.sub s5.ow z)
      have hD6 : H6 Dp = some (.lst accv) := (s6.fr _ _ hD5 no5)
      have fD7 : F7 Dp = none := by
        cases qq : F7 Dp with
        | none => rfl
        | some u =>
          rcases st.fn _ _ qq with z | z | z
          · rw [fD3] at z; cases z
          · rw [hD3] at z; cases z
          · exact absurd z no3
      obtain ⟨_, u7⟩ := Stp.under hτ hS acc3 tg st
      have no7 : ¬ Own (L2.wipe σ vs) (wipeE env7 vs) Dp := fun z => noD2 (by
        have z1 := Own.sub u7.ow z
        exact absurd z1 noD')
      refine ⟨accv, hD6, ?_, F7, wipeE env7 vs, acc ++ [y'], accv ++ [v], ?_, upd_same, fD7, no7, AtAll.app (AtAll.mono ((s3.ff.trans' st.ff)) _ _ aa) (AtAll.cons a7 AtAll.nil), by rw [List.length_append]; simp only [List.length_cons, List.length_nil]; omega, ?_, q7⟩
      · rw [aa.len, sizeLine_eq]
        have := hi
        omega
      · exact u7.other hD hD6 fD7 h0D no7
      · -- wiped twice
        apply List.ext_getElem?
        intro j
        by_cases hj : j ∈ vs
        · cases z : (wipeE env7 vs)[j]? with
          | none =>
            rw [List.getElem?_eq_none_iff] at z ⊢
            rw [wipeE_len]; exact z
          | some sv =>
            have z1 := wipeE_mem hj z
            have hjl : j < (wipeE (wipeE env7 vs) vs).length := by
              rw [wipeE_len]
              exact (List.getElem?_eq_some_iff.mp z).1
            have z2 := wipeE_mem hj (List.getElem?_eq_getElem hjl)
            rw [List.getElem?_eq_getElem hjl, z2, z1]
        · rw [wipeE_oth hj]
    | false =>
      rw [if_neg (by decide)] at q5 ⊢
      obtain ⟨_, u7⟩ := Stp.under hτ hS acc3 tg s5
      have no7 : ¬ Own (L2.wipe σ vs) (wipeE env5 vs) Dp := fun z => noD' (Own.sub u7.ow z)
      refine ⟨F5, wipeE env5 vs, acc, accv, u7, hD5, fD5, no7, AtAll.mono (s3.ff.trans' s5.ff) _ _ aa, by omega, ?_, q5⟩
      apply List.ext_getElem?
      intro j
      by_cases hj : j ∈ vs
      · cases z : (wipeE env5 vs)[j]? with
        | none =>
          rw [List.getElem?_eq_none_iff] at z ⊢
          rw [wipeE_len]; exact z
        | some sv =>
          have z1 := wipeE_mem hj z
          have hjl : j < (wipeE (wipeE env5 vs) vs).length := by
            rw [wipeE_len]
            exact (List.getElem?_eq_some_iff.mp z).1
          have z2 := wipeE_mem hj (List.getElem?_eq_getElem hjl)
          rw [List.getElem?_eq_getElem hjl, z2, z1]
      · rw [wipeE_oth hj]
  · rw [List.drop_length] at q2
    have q2 : Qp acc env2 := q2
    have R2 := s2.rel.unwipe hw2
    have st : Stp K C σ H1 F1 env1 H F2 env2 := ⟨R2, s2.ff, fun b o h n => s2.fr b o h fun z => n ((Own.unwipe hw).mp z), fun b o h => by
      rcases s2.fn b o h with z | z | z
      · exact .inl z
      · exact .inr (.inl z)
      · exact .inr (.inr ((Own.unwipe hw).mp z)), s2.ow, s2.dm⟩
    exact k Dp accv acc H F2 env2 (s1.trans st) hDl fD2 h0D (fun z => noD2 ((Own.unwipe hw2).mpr z)) (s1.dm _ hD) aa q2
theorem f_lc {elt tg iter : Expr} {ifs : List Expr} {scope : Scope} {own : List (Str × Nat)} {pos : Pos} {I : PI'} {S : List Nat} {G : TG'} {TT : PT'} {TE : PE'} (hc : X.calm = true) (hN : X.N.Nodup) (ok : BlkOk X.N X.env.scope scope own) (hi : EI X tg iter I) (hg : Blk X scope fun Y => EG Y S tg G) (ht : Blk X scope fun Y => ETs Y ifs TT) (he : Blk X scope fun Y => EV Y elt TE)
    (hS : ∀ j ∈ S, j ∈ own.map (·.2) := by decide) (hs : ∀ x, foldedSetIterable iter X.env x = pure x := by intro _; rfl) : EF X (.ListComp elt [⟨tg, iter, ifs, 0⟩] scope pos) (fLc I G TT TE (own.map (·.2))) := by
  obtain ⟨wi, h1, l1⟩ := hi.ex
  obtain ⟨g, h2, l2⟩ := blk_g hg
  obtain ⟨tt, h3, l3⟩ := blk_ts ht
  obtain ⟨te, h4, l4⟩ := blk_ev he
  exact ⟨_, pe_lc hc hN h1 ok h2 h3 h4 hs, lc_sound l1 l2 l3 l4 hS⟩
/-- name = [..] on one line -/
theorem s_setLcF {i : Nat} {y : Str} {py : Pos} {elt tg iter : Expr} {ifs : List Expr} {scope : Scope} {own : List (Str × Nat)} {pos spos : Pos} {I : PI'} {S : List Nat} {G : TG'} {TT : PT'} {TE : PE'} (hc : X.calm = true) (hN : X.N.Nodup) (hy : X.N[i]? = some y) (hyl : X.env.scope.names.lookup y = some .local)
    (hsw : swapsWith (.ListComp elt [⟨tg, iter, ifs, 0⟩] scope pos) (some (.Name y py)) spos.line X.env = pure true) (ok : BlkOk X.N X.env.scope scope own) (hi : EI X tg iter I) (hg : Blk X scope fun Y => EG Y S tg G) (ht : Blk X scope fun Y => ETs Y ifs TT) (he : Blk X scope fun Y => EV Y elt TE)
    (hS : ∀ j ∈ S, j ∈ own.map (·.2) := by decide) (hs : ∀ x, foldedSetIterable iter X.env x = pure x := by intro _; rfl) : ES X (.Assign [.Name y py] (.ListComp elt [⟨tg, iter, ifs, 0⟩] scope pos) spos) (sAsgF i (fLc I G TT TE (own.map (·.2)))) := by
  obtain ⟨wi, h1, l1⟩ := hi.ex
  obtain ⟨g, h2, l2⟩ := blk_g hg
  obtain ⟨tt, h3, l3⟩ := blk_ts ht
  obtain ⟨te, h4, l4⟩ := blk_ev he
  refine ⟨_, ps_setLc hc hN hy hyl hsw h1 ok h2 h3 h4 hs, fun C σ H F env D Dp R k q => ?_⟩
  refine (lc_sound l1 l2 l3 l4 hS) C σ H F env _ _ R (fun p xs ds H1 F1 env1 s1 hp fp h0 no hn a q1 => ?_) q
  exact k.nx _ H1 F1 _ (s1.rel.assignF (by rw [← s1.rel.len]; exact q1.1) hp fp h0 no a) s1.ff q1.2
theorem s_setLc {i : Nat} {y : Str} {py : Pos} {elt tg iter : Expr} {ifs : List Expr} {scope : Scope} {own : List (Str × Nat)} {pos spos : Pos} {I : PI'} {S : List Nat} {G : TG'} {TT : PT'} {TE : PE'} (hc : X.calm = true) (hN : X.N.Nodup) (hy : X.N[i]? = some y) (hyl : X.env.scope.names.lookup y = some .local)
    (hsw : swapsWith (.ListComp elt [⟨tg, iter, ifs, 0⟩] scope pos) (some (.Name y py)) spos.line X.env = pure true) (ok : BlkOk X.N X.env.scope scope own) (hi : EI X tg iter I) (hg : Blk X scope fun Y => EG Y S tg G) (ht : Blk X scope fun Y => ETs Y ifs TT) (he : Blk X scope fun Y => EV Y elt TE)
    (hS : ∀ j ∈ S, j ∈ own.map (·.2) := by decide) (hs : ∀ x, foldedSetIterable iter X.env x = pure x := by intro _; rfl) : ES X (.Assign [.Name y py] (.ListComp elt [⟨tg, iter, ifs, 0⟩] scope pos) spos) (sAsg i (qF (fLc I G TT TE (own.map (·.2))))) := by
  obtain ⟨wi, h1, l1⟩ := hi.ex
  obtain ⟨g, h2, l2⟩ := blk_g hg
  obtain ⟨tt, h3, l3⟩ := blk_ts ht
  obtain ⟨te, h4, l4⟩ := blk_ev he
  refine ⟨_, ps_setLc hc hN hy hyl hsw h1 ok h2 h3 h4 hs, fun C σ H F env D Dp R k q => ?_⟩
  refine (lc_sound l1 l2 l3 l4 hS) C σ H F env _ _ R (fun p xs ds H1 F1 env1 s1 hp fp h0 no hn a q1 => ?_) q
  obtain ⟨d, env2, e, hl, q1⟩ := q1
  simp only [OV.fz, Option.some.injEq, Prod.mk.injEq] at e
  obtain ⟨rfl, rfl⟩ := e
  have ff : Le F1 (upd F1 p (.lst xs)) := fun b u h => by
    rw [upd_ne (ne_of_none h fp)]; exact h
  have R1 := s1.rel.freeze hp fp h0 no
  exact k.nx _ H1 _ _ (R1.assign (by rw [← R1.len]; exact hl) (At.list_of upd_same (AtAll.mono ff _ _ a))) (s1.ff.trans' ff) q1
end
end Sw

set_option Elab.async false
set_option linter.all false
set_option maxRecDepth 100000
namespace Sw
open PySem PySem.Spec L2

/-! ### what a def is worth: the lent list, the data; what comes back, the lent list behind -/
abbrev PSp := Option (List D) → List D → (RV → Option (List D) → Prop) → Prop
def LentE (l : Bool) (env : List SV) (fl : Option (List D)) : Prop := if l = true then ∃ ds, env[0]? = some (SV.own true ds) ∧ fl = some ds else fl = none
/-- behind a call -/
structure Post (K : FgK) (la : Option Addr) (H F : Hp) (rv : RV) (fl : Option (List D)) (v : V) (H' F' : Hp) : Prop where
  frz : Le F' H'
  mono : Le F F'
  new : ∀ b o, F' b = some o → F b = some o ∨ H b = none
  frame : ∀ b o, H b = some o → la ≠ some b → H' b = some o
  lent : ∀ a, la = some a → ∃ xs ds, H' a = some (.lst xs) ∧ F' a = none ∧ fl = some ds ∧ AtAll K F' ds xs
  res : RvOk K ⟨H, F, la⟩ H' F' rv v
/-- the promise of a def by data -/
def spOf (K : FgK) (l : Bool) (ps : PSp) : Sp := fun vs H Q _ => ∃ (F : Hp) (la : Option Addr) (fl : Option (List D)) (ds : List D) (ws : List V), Le F H ∧ AtAll K F ds ws ∧
  (if l = true then ∃ a xs fd, vs = .ref a :: ws ∧ la = some a ∧ H a = some (.lst xs) ∧ F a = none ∧ fl = some fd ∧ AtAll K F fd xs else vs = ws ∧ la = none ∧ fl = none) ∧
  ∃ Qp, ps fl ds Qp ∧ ∀ v H' F' rv fl', Post K la H F rv fl' v H' F' → Qp rv fl' → Q v H'
/-- the slots at a def's entry -/
def startE (l : Bool) (N : List Str) (fl : Option (List D)) (ds : List D) : List SV :=
  (match l, fl with | true, some fd => [SV.own true fd] | _, _ => []) ++ ds.map SV.dat ++ List.replicate (N.length - (ds.length + if l = true then 1 else 0)) SV.un
/-- what a def's body is to reach -/
def endsOf (l : Bool) (Q : RV → Option (List D) → Prop) : PEnds := { nx := fun env => ∃ fl, LentE l env fl ∧ Q (.dt .none) fl, rt := fun rv env => ∃ fl, LentE l env fl ∧ Q rv fl }
section
variable {P : Program} {w : World} {K : PySem.W.Frag} {mg : Str → Option Value} {base : Heap}
theorem start_rel {K : FgK} {H F : Hp} {N : List Str} {l : Bool} {vs ws : List V} {la : Option Addr} {fl : Option (List D)} {ds : List D} (hF : Le F H) (ha : AtAll K F ds ws)
    (hl : if l = true then ∃ a xs fd, vs = .ref a :: ws ∧ la = some a ∧ H a = some (.lst xs) ∧ F a = none ∧ fl = some fd ∧ AtAll K F fd xs else vs = ws ∧ la = none ∧ fl = none) (hn : vs.length ≤ N.length) : RelB K ⟨H, F, la⟩ (start N vs) H F (startE l N fl ds) := by
  cases l with
  | false =>
    obtain ⟨rfl, rfl, rfl⟩ := hl
    have e1 : start N vs = vs.map some ++ List.replicate (N.length - vs.length) none := rfl
    have e2 : startE false N none ds = ds.map SV.dat ++ List.replicate (N.length - ds.length) SV.un := by simp [startE]
    have noown : ∀ (i : Nat) (m : Bool) (es : Ct), (startE false N none ds)[i]? ≠ some (SV.obj m es) := fun i m es h => by
      rw [e2] at h
      have := List.mem_of_getElem? h
      rw [List.mem_append] at this
      rcases this with q | q
      · obtain ⟨d, _, e⟩ := List.mem_map.mp q
        cases e
      · have := List.eq_of_mem_replicate q
        cases this
    refine ⟨hF, Le.rfl', fun b o h => .inl h, fun b o h _ => h, fun a h => (by cases h), ?_, fun i sv e => ?_, fun i j m ds' n es h1 => absurd h1 (noown i m ds')⟩
    · rw [e1, e2]
      simp [ha.len]
    · rw [e2] at e
      by_cases hi : i < ds.length
      · rw [List.getElem?_append_left (by rw [List.length_map]; exact hi), List.getElem?_map] at e
        rw [List.getElem?_eq_getElem hi] at e
        cases e
        obtain ⟨v, e3, a3⟩ := ha.get (List.getElem?_eq_getElem hi)
        refine ⟨v, ?_, a3⟩
        rw [e1, List.getElem?_append_left (by rw [List.length_map, ha.len]; exact hi), List.getElem?_map, e3]
        rfl
      · rw [List.getElem?_append_right (by rw [List.length_map]; omega)] at e
        have := List.eq_of_mem_replicate (List.mem_of_getElem? e)
        subst this
        trivial
  | true =>
    obtain ⟨a, xs, fd, rfl, rfl, h1, h2, rfl, h3⟩ := hl
    have e1 : start N (.ref a :: ws) = some (.ref a) :: (ws.map some ++ List.replicate (N.length - (ws.length + 1)) none) := rfl
    have e2 : startE true N (some fd) ds = SV.own true fd :: (ds.map SV.dat ++ List.replicate (N.length - (ds.length + 1)) SV.un) := by simp [startE]
    have own0 : ∀ (i : Nat) (m : Bool) (es : Ct), (startE true N (some fd) ds)[i]? = some (SV.obj m es) → i = 0 := fun i m es h => by
      rw [e2] at h
      cases i with
      | zero => rfl
      | succ i =>
        rw [List.getElem?_cons_succ] at h
        have := List.mem_of_getElem? h
        rw [List.mem_append] at this
        rcases this with q | q
        · obtain ⟨d, _, e⟩ := List.mem_map.mp q
          cases e
        · have := List.eq_of_mem_replicate q
          cases this
    refine ⟨hF, Le.rfl', fun b o h => .inl h, fun b o h _ => h, fun b h => ?_, ?_, fun i sv e => ?_, fun i j m ds' n es g1 g2 _ => by rw [own0 i m ds' g1, own0 j n es g2]⟩
    · cases h
      exact ⟨⟨xs, h1⟩, h2, _, h1⟩
    · rw [e1, e2]
      simp [ha.len]
    · rw [e2] at e
      rw [e1]
      cases i with
      | zero =>
        cases e
        exact ⟨a, _, rfl, h1, h2, rfl, xs, rfl, h3⟩
      | succ i =>
        rw [List.getElem?_cons_succ] at e ⊢
        by_cases hi : i < ds.length
        · rw [List.getElem?_append_left (by rw [List.length_map]; exact hi), List.getElem?_map] at e
          rw [List.getElem?_eq_getElem hi] at e
          cases e
          obtain ⟨v, e3, a3⟩ := ha.get (List.getElem?_eq_getElem hi)
          refine ⟨v, ?_, a3⟩
          rw [List.getElem?_append_left (by rw [List.length_map, ha.len]; exact hi), List.getElem?_map, e3]
          rfl
        · rw [List.getElem?_append_right (by rw [List.length_map]; omega)] at e
          have := List.eq_of_mem_replicate (List.mem_of_getElem? e)
          subst this
          trivial
theorem ends_ok {K : FgX} {H F : Hp} {la : Option Addr} {l : Bool} {Q : VK} {Qp : RV → Option (List D) → Prop} (hl : l = true ↔ la ≠ none) (k : ∀ v H' F' rv fl', Post K la H F rv fl' v H' F' → Qp rv fl' → Q v H') :
    EndsOk K ⟨H, F, la⟩ F { nx := fun _ H' => Q .non H', rt := Q } (endsOf l Qp) := by
  have main : ∀ σ' H' F' env' rv v, Rel K ⟨H, F, la⟩ σ' H' F' env' → RvOk K ⟨H, F, la⟩ H' F' rv v → (∃ fl, LentE l env' fl ∧ Qp rv fl) → Q v H' := fun σ' H' F' env' rv v R a ⟨fl, e, q⟩ => by
    refine k v H' F' rv fl ⟨R.frz, R.mono, R.new, R.frame, fun b hb => ?_, a⟩ q
    have hb : la = some b := hb
    have : l = true := hl.mpr (by rw [hb]; exact fun z => nomatch z)
    subst this
    obtain ⟨ds, e1, rfl⟩ := e
    obtain ⟨p, xs, f1, f2, f3, f4, f5⟩ := R.slotL e1
    rw [if_pos rfl] at f4
    have f4 : la = some p := f4
    rw [hb] at f4
    cases f4
    exact ⟨xs, ds, f2, f3, rfl, f5⟩
  exact ⟨fun σ' H' F' env' R _ q => main σ' H' F' env' (.dt .none) .non R (by simp [RvOk, At]) q, fun σ' H' F' env' rv v R _ a q => main σ' H' F' env' rv v R a q, fun _ _ _ _ _ _ h => h.elim, fun _ _ _ _ _ _ h => h.elim⟩
/-- THE RULE of a def -/
theorem def_ok {x qual : Str} {st : Stmt} {f : Addr} {fd : FuncData} {N ps : List Str} {k : Nat} {sp : PSp} (l : Bool) (F : Fun K x qual st f fd) (S : FnScope N ps (defScope st)) (len : ∀ fl ds Q, sp fl ds Q → ds.length + (if l = true then 1 else 0) = ps.length)
    (hn : ps.length ≤ N.length) (hbody : ∀ (cdv : Value) (A : Around) (outer : List Env) (s : Shared) (H : Hp) (E : XK), Room k (A.deeper (PyProof.Rows.envOfC qual (defScope st) s.heap.objs.size f cdv)) →
      ∃ T, EB (of0 (cxOf CX0 P w K mg base N qual (defScope st) f cdv A outer s H E).nox) (defBody st) T ∧ ∀ fl ds Q, (l = true ↔ fl ≠ none) → sp fl ds Q → T (endsOf l Q) (startE l N fl ds)) : FnOk P w K mg base CX0 (k + 1) f fd ps (spOf ⟨K, P, w⟩ l sp) := by
  have lens : ∀ vs H Q E, spOf ⟨K, P, w⟩ l sp vs H Q E → vs.length = ps.length := fun vs H Q E h => by
    obtain ⟨F, la, fl, ds, ws, hF, ha, hl, Qp, hp, k⟩ := h
    have := len fl ds Qp hp
    cases l with
    | false =>
      obtain ⟨rfl, _, _⟩ := hl
      rw [ha.len]
      simpa using this
    | true =>
      obtain ⟨a, xs, fd, rfl, _⟩ := hl
      rw [List.length_cons, ha.len]
      simpa using this
  refine F.ok S lens (fun cdv A outer s H vs Q E hr h => ?_)
  have hlen := lens vs H Q E h
  obtain ⟨F0, la, fl, ds, ws, hF, ha, hl, Qp, hp, k⟩ := h
  obtain ⟨T, hb, ht⟩ := hbody cdv A outer s H E hr
  obtain ⟨t, h1, l1⟩ := hb.ex
  refine ⟨t, h1, ?_⟩
  have hll : (l = true ↔ la ≠ none) ∧ (l = true ↔ fl ≠ none) := by
    cases l with
    | false =>
      obtain ⟨_, rfl, rfl⟩ := hl
      simp
    | true =>
      obtain ⟨a, xs, fd, _, rfl, _, _, rfl, _⟩ := hl
      simp
  exact l1 ⟨H, F0, la⟩ (start N vs) H F0 (startE l N fl ds) _ (endsOf l Qp) ⟨start_rel hF ha hl (by omega), xok_no rfl⟩ (ends_ok hll.1 k) (ht fl ds Qp hll.2 hp)
end
/-! ### calls -/
section
variable {X : Cz}
/-- behind a call the slots stand -/
theorem Post.stp {K : FgX} {C : Ec} {σ : L2.St} {H F : Hp} {env : List SV} {rv : RV} {fl : Option (List D)} {v : V} {H' F' : Hp} (R : Rel K C σ H F env) (p : Post K none H F rv fl v H' F') : Stp K C σ H F env H' F' env := by
  have no : ∀ b o, H b = some o → F b = none → F' b = none := fun b o h f => by
    cases q : F' b with
    | none => rfl
    | some u =>
      rcases p.new b u q with z | z
      · rw [f] at z; cases z
      · rw [h] at z; cases z
  refine ⟨⟨⟨p.frz, R.mono.trans' p.mono, fun b o h => ?_, fun b o h n => p.frame b o (R.frame b o h n) (fun z => nomatch z), fun a h => ?_, R.len, fun i sv e => ?_, R.dist⟩, R.xok⟩, p.mono, fun b o h _ => p.frame b o h (fun z => nomatch z), fun b o h => ?_, fun i l ds h => ⟨ds, h⟩, fun b h => ?_⟩
  · rcases p.new b o h with z | z
    · exact R.new b o z
    · cases q : C.H0 b with
      | none => exact .inr rfl
      | some u =>
        by_cases hl : C.la = some b
        · obtain ⟨⟨xs, e⟩, _⟩ := R.la b hl
          rw [e] at z; cases z
        · rw [R.frame b u q hl] at z; cases z
  · obtain ⟨⟨xs, e⟩, f, g⟩ := R.la a h
    exact ⟨⟨xs, p.frame a _ e (fun z => nomatch z)⟩, no a _ e f, g⟩
  · have q := R.slot i sv e
    cases sv with
    | un => trivial
    | raw z => exact q
    | dat d =>
      obtain ⟨v, e1, a⟩ := q
      exact ⟨v, e1, At.mono p.mono _ _ a⟩
    | obj l ds =>
      obtain ⟨r, xs, e1, e2, e3, e4, e5⟩ := q
      exact ⟨r, xs, e1, p.frame r _ e2 (fun z => nomatch z), no r _ e2 e3, e4, e5.mono p.mono⟩
  · rcases p.new b o h with z | z
    · exact .inl z
    · exact .inr (.inl z)
  · cases q : H b with
    | none => rfl
    | some u =>
      rw [p.frame b u q (fun z => nomatch z)] at h; cases h
theorem Post.stpL {K : FgX} {C : Ec} {σ : L2.St} {H F : Hp} {env : List SV} {i : Nat} {l : Bool} {ds ds' : List D} {a : Addr} {rv : RV} {v : V} {H' F' : Hp} (R : Rel K C σ H F env) (he : env[i]? = some (.own l ds)) (hs : σ[i]? = some (some (.ref a))) (p : Post K (some a) H F rv (some ds') v H' F') :
    Stp K C σ H F env H' F' (env.set i (.own l ds')) := by
  obtain ⟨a', xs0, g1, g2, g3, g4, g5⟩ := R.slotL he
  rw [hs] at g1
  cases g1
  obtain ⟨xs', ds2, k1, k2, k3, k4⟩ := p.lent a rfl
  cases k3
  have hi : i < env.length := (List.getElem?_eq_some_iff.mp he).1
  have no : ∀ b o, H b = some o → F b = none → F' b = none := fun b o h f => by
    cases q : F' b with
    | none => rfl
    | some u =>
      rcases p.new b u q with z | z
      · rw [f] at z; cases z
      · rw [h] at z; cases z
  have oth : ∀ (j : Nat) (m : Bool) (es : Ct), (env.set i (.own l ds'))[j]? = some (SV.obj m es) → ∃ es', env[j]? = some (SV.obj m es') := fun j m es h => by
    by_cases e : j = i
    · subst e; rw [List.getElem?_set_self hi] at h; cases h; exact ⟨.lst ds, he⟩
    · rw [List.getElem?_set_ne (Ne.symm e)] at h; exact ⟨es, h⟩
  have la' : ∀ b, b ≠ a → (some a : Option Addr) ≠ some b := fun b h z => h (Option.some.inj z).symm
  refine ⟨⟨⟨p.frz, R.mono.trans' p.mono, fun b o h => ?_, fun b o h n => ?_, fun b h => ?_, by rw [List.length_set]; exact R.len, fun j sv e => ?_, fun j k m es n fs h1 h2 h3 => ?_⟩, R.xok⟩, p.mono, fun b o h n => ?_, fun b o h => ?_, oth, fun b h => ?_⟩
  · rcases p.new b o h with z | z
    · exact R.new b o z
    · cases q : C.H0 b with
      | none => exact .inr rfl
      | some u =>
        by_cases hl : C.la = some b
        · obtain ⟨⟨xs, e⟩, _⟩ := R.la b hl
          rw [e] at z; cases z
        · rw [R.frame b u q hl] at z; cases z
  · have q := R.frame b o h n
    refine p.frame b o q (la' b ?_)
    rintro rfl
    cases l with
    | true => exact n (by simpa using g4)
    | false => rw [if_neg (by decide)] at g4; rw [g4] at h; cases h
  · obtain ⟨⟨xs, e⟩, f, g⟩ := R.la b h
    by_cases hb : b = a
    · subst hb
      exact ⟨⟨xs', k1⟩, k2, g⟩
    · exact ⟨⟨xs, p.frame b _ e (la' b hb)⟩, no b _ e f, g⟩
  · by_cases e' : j = i
    · subst e'
      rw [List.getElem?_set_self hi] at e
      cases e
      exact ⟨a, _, hs, k1, k2, g4, xs', rfl, k4⟩
    · rw [List.getElem?_set_ne (Ne.symm e')] at e
      have q := R.slot j sv e
      cases sv with
      | un => trivial
      | raw z => exact q
      | dat d =>
        obtain ⟨v, e1, a⟩ := q
        exact ⟨v, e1, At.mono p.mono _ _ a⟩
      | obj m es =>
        obtain ⟨r, xs, e1, e2, e3, e4, e5⟩ := q
        have ne : r ≠ a := by
          rintro rfl
          exact e' (R.dist j i m es l (.lst ds) e he (e1.trans hs.symm))
        exact ⟨r, xs, e1, p.frame r _ e2 (la' r ne), no r _ e2 e3, e4, e5.mono p.mono⟩
  · obtain ⟨es', h1⟩ := oth j m es h1
    obtain ⟨fs', h2⟩ := oth k n fs h2
    exact R.dist j k m es' n fs' h1 h2 h3
  · refine p.frame b o h (la' b ?_)
    rintro rfl
    exact n ⟨i, l, .lst ds, he, hs⟩
  · rcases p.new b o h with z | z
    · exact .inl z
    · exact .inr (.inl z)
  · by_cases hb : b = a
    · subst hb
      rw [k1] at h; cases h
    · cases q : H b with
      | none => rfl
      | some u =>
        rw [p.frame b u q (la' b hb)] at h; cases h
/-- a list that came back is nobody's -/
theorem fresh_of {K : FgX} {C : Ec} {σ : L2.St} {H F H' F' : Hp} {env env' : List SV} (R : Rel K C σ H F env) (s : Stp K C σ H F env H' F' env') {p : Addr} (h : H p = none) : C.H0 p = none ∧ ¬ Own σ env' p := by
  constructor
  · cases q : C.H0 p with
    | none => rfl
    | some u =>
      by_cases hl : C.la = some p
      · obtain ⟨⟨xs, e⟩, _⟩ := R.la p hl
        rw [e] at h; cases h
      · rw [R.frame p u q hl] at h; cases h
  · intro z
    obtain ⟨i, l, ds, e, e2⟩ := Own.sub s.ow z
    obtain ⟨r, xs, e1, e3, _⟩ := R.slot i _ e
    rw [e2] at e1
    cases e1
    rw [e3] at h; cases h
theorem Stp.freeze {K : FgX} {C : Ec} {σ : L2.St} {H F H' F' : Hp} {env env' : List SV} (s : Stp K C σ H F env H' F' env') {p : Addr} {o : HO} (hn : H p = none) (hp : H' p = some o) (fp : F' p = none) (h0 : C.H0 p = none) (no : ¬ Own σ env' p) : Stp K C σ H F env H' (upd F' p o) env' := by
  have ff : Le F' (upd F' p o) := fun b u h => by
    rw [upd_ne (ne_of_none h fp)]; exact h
  refine ⟨s.rel.freeze hp fp h0 no, s.ff.trans' ff, s.fr, fun b u h => ?_, s.ow, s.dm⟩
  by_cases e : b = p
  · subst e; exact .inr (.inl hn)
  · rw [upd_ne e] at h; exact s.fn b u h
theorem known_of {K : FgX} {C : Ec} {σ : L2.St} {H F H' F' : Hp} {env env' : List SV} {la : Option Addr} {rv : RV} {v : V} (R : Rel K C σ H F env) (s : Stp K C σ H F env H' F' env') (r : RvOk K ⟨H, F, la⟩ H' F' rv v) : ∃ F2, Stp K C σ H F env H' F2 env' ∧ At K F2 rv.toD v := by
  cases rv with
  | dt d => exact ⟨F', s, r⟩
  | fr ds =>
    obtain ⟨p, xs, rfl, h1, h2, h3, h4⟩ := r
    have h3 : H p = none := h3
    obtain ⟨h0, no⟩ := fresh_of R s h3
    have ff : Le F' (upd F' p (.lst xs)) := fun b u h => by
      rw [upd_ne (ne_of_none h h2)]; exact h
    exact ⟨_, s.freeze h3 h1 h2 h0 no, At.list_of upd_same (AtAll.mono ff _ _ h4)⟩
def qCall (sp : PSp) (T : PA') : PE' := fun env Q => T env fun os env1 => ∃ ds env2, fzAll env1 os = some (ds, env2) ∧ sp none ds fun rv _ => Q (.dv rv.toD) env2
def fCall (sp : PSp) (T : PA') : PF' := fun env Q => T env fun os env1 => ∃ ds env2, fzAll env1 os = some (ds, env2) ∧ sp none ds fun rv _ => ∃ es, rv = .fr es ∧ Q es env2
variable {k : Nat} {f : Addr} {fd : FuncData} {ps : List Str} {sp : PSp} {x : Str} {e : Expr} {es : List Expr} {T : PA'} {p pos : Pos}
/-- the defaults of a def: constants -/
def constsOk (dvs : List V) (dds : List D) : Prop := ∀ (K : FgK) (F : Hp), AtAll K F dds dvs
def qAddD (T : PA') (dds : List D) : PA' := fun env Q => T env fun os env1 => Q (os ++ dds.map OV.dv) env1
theorem OvsOk.app {K : FgK} {σ : L2.St} {F : Hp} {dds : List D} {dvs : List V} (h : AtAll K F dds dvs) : ∀ {os : List OV} {vs : List V}, OvsOk K σ F os vs → OvsOk K σ F (os ++ dds.map OV.dv) (vs ++ dvs)
  | [], vs, a => by
    have a : vs = [] := a
    subst a
    simp only [List.nil_append]
    have key : ∀ (dds : List D) (dvs : List V), AtAll K F dds dvs → OvsOk K σ F (dds.map OV.dv) dvs := fun dds => by
      induction dds with
      | nil => intro dvs h; exact (show dvs = [] by simpa [AtAll] using h)
      | cons d dds ih =>
        intro dvs h
        simp only [AtAll] at h
        obtain ⟨x, r, rfl, a, q⟩ := h
        exact ⟨x, r, rfl, a, ih r q⟩
    exact key dds dvs h
  | o :: os, vs, a => by
    obtain ⟨v, r, rfl, b, c⟩ := a
    exact ⟨v, r ++ dvs, rfl, b, OvsOk.app h c⟩
theorem LE.call {t : TA} {dvs : List V} {dds : List D} {E : XK} (hd : constsOk dvs dds) (l1 : LA X.fr t T) : LE X.fr (tCall (spOf X.fr false sp) dvs E t) (qCall sp (qAddD T dds)) := fun C σ H F env Q Qp R kk q => by
  refine l1 C σ H F env _ _ R (fun vs H1 F1 env1 os s1 a1 q1 => ?_) q
  obtain ⟨ds, env2, e1, q1⟩ := q1
  obtain ⟨F2, s2, a2⟩ := fzAll_ok s1.rel (a1.app (hd X.fr F1)) e1
  refine ⟨F2, none, none, ds, vs ++ dvs, s2.rel.frz, a2, by rw [if_neg (by decide)]; exact ⟨rfl, rfl, rfl⟩, _, q1, fun v H' F' rv fl' pp qq => ?_⟩
  have s3 := pp.stp s2.rel
  obtain ⟨F3, s4, a4⟩ := known_of s2.rel s3 pp.res
  exact kk v H' F3 env2 (.dv rv.toD) ((s1.trans s2).trans s4) a4 qq
theorem LF.call {t : TA} {dvs : List V} {dds : List D} {E : XK} (hd : constsOk dvs dds) (l1 : LA X.fr t T) : LF X.fr (tCall (spOf X.fr false sp) dvs E t) (fCall sp (qAddD T dds)) := fun C σ H F env Q Qp R kk q => by
  refine l1 C σ H F env _ _ R (fun vs H1 F1 env1 os s1 a1 q1 => ?_) q
  obtain ⟨ds, env2, e1, q1⟩ := q1
  obtain ⟨F2, s2, a2⟩ := fzAll_ok s1.rel (a1.app (hd X.fr F1)) e1
  refine ⟨F2, none, none, ds, vs ++ dvs, s2.rel.frz, a2, by rw [if_neg (by decide)]; exact ⟨rfl, rfl, rfl⟩, _, q1, fun v H' F' rv fl' pp qq => ?_⟩
  have s3 := pp.stp s2.rel
  obtain ⟨es', rfl, qq⟩ := qq
  obtain ⟨r, xs, rfl, h1, h2, h3, h4⟩ := pp.res
  have h3 : H1 r = none := h3
  obtain ⟨h0, no⟩ := fresh_of s2.rel s3 h3
  exact kk r xs es' H' F' env2 ((s1.trans s2).trans s3) h1 h2 h0 no (s1.dm r (s2.dm r h3)) h4 qq
theorem consts_nil : constsOk [] [] := fun _ _ => AtAll.nil
theorem q_call {dvs : List V} {dds : List D} {ds : List Value} (F : FnOk X.prog X.w X.fr X.mg X.base CX0 k f fd ps (spOf X.fr false sp)) (hr : Room k X.A) (hg : Gl X x) (hm : X.mg x = some (.ref f)) (hk : PySem.W.keepIn X.fr (.ref f) = true) (hb : Binds X.fr fd ps ds) (hd : Vals dvs ds) (hdd : constsOk dvs dds)
    (ha : EA X (e :: es) T) (hdb : (x == ("__debug__" : Str)) = false := by decide) (he : starEach (e :: es) X.env = (false, eval e X.env) :: starEach es X.env := by rfl) (hpl : (backTo pos (starEach es X.env)).any (·.1) = false := by rfl) :
    EV X (.Call (.Name x p) (e :: es) [] pos) (qCall sp (qAddD T dds)) := by
  obtain ⟨t, h1, l1⟩ := ha.ex
  exact ⟨_, pe_call F hr hg hm hk hb hd pass0 h1 hdb he hpl, LE.call hdd l1⟩
theorem f_call {dvs : List V} {dds : List D} {ds : List Value} (F : FnOk X.prog X.w X.fr X.mg X.base CX0 k f fd ps (spOf X.fr false sp)) (hr : Room k X.A) (hg : Gl X x) (hm : X.mg x = some (.ref f)) (hk : PySem.W.keepIn X.fr (.ref f) = true) (hb : Binds X.fr fd ps ds) (hd : Vals dvs ds) (hdd : constsOk dvs dds)
    (ha : EA X (e :: es) T) (hdb : (x == ("__debug__" : Str)) = false := by decide) (he : starEach (e :: es) X.env = (false, eval e X.env) :: starEach es X.env := by rfl) (hpl : (backTo pos (starEach es X.env)).any (·.1) = false := by rfl) :
    EF X (.Call (.Name x p) (e :: es) [] pos) (fCall sp (qAddD T dds)) := by
  obtain ⟨t, h1, l1⟩ := ha.ex
  exact ⟨_, pe_call F hr hg hm hk hb hd pass0 h1 hdb he hpl, LF.call hdd l1⟩
theorem q_call0 {ds : List Value} (F : FnOk X.prog X.w X.fr X.mg X.base CX0 k f fd ps (spOf X.fr false sp)) (hr : Room k X.A) (hg : Gl X x) (hm : X.mg x = some (.ref f)) (hk : PySem.W.keepIn X.fr (.ref f) = true) (hb : Binds X.fr fd ps ds) (hd : Vals [] ds)
    (hdb : (x == ("__debug__" : Str)) = false := by decide) : EV X (.Call (.Name x p) [] [] pos) (qCall sp (qAddD qNil [])) :=
  ⟨_, pe_call0 F hr hg hm hk hb hd pass0 hdb, LE.call (t := tNil) consts_nil (fun C σ H F env Q Qp R k q => k [] H F env [] (Stp.refl R) rfl q)⟩
/-- f(a slot's list, lent; ..) -/
def qCallL (sp : PSp) (i : Nat) (T : PA') : PE' := fun env Q => (∃ l0 ds0, env[i]? = some (.own l0 ds0)) ∧ T env fun os env1 => ∃ ds env2, fzAll env1 os = some (ds, env2) ∧ ∃ l fd, env2[i]? = some (.own l fd) ∧ sp (some fd) ds fun rv fl => ∃ fd', fl = some fd' ∧ Q (.dv rv.toD) (env2.set i (.own l fd'))
def fCallL (sp : PSp) (i : Nat) (T : PA') : PF' := fun env Q => (∃ l0 ds0, env[i]? = some (.own l0 ds0)) ∧ T env fun os env1 => ∃ ds env2, fzAll env1 os = some (ds, env2) ∧ ∃ l fd, env2[i]? = some (.own l fd) ∧ sp (some fd) ds fun rv fl => ∃ fd' es, fl = some fd' ∧ rv = .fr es ∧ Q es (env2.set i (.own l fd'))
theorem LE.callL {t : TA} {dvs : List V} {dds : List D} {E : XK} (i : Nat) (hd : constsOk dvs dds) (l1 : LA X.fr t T) : LE X.fr (tCall (spOf X.fr true sp) dvs E (tCons (tVar i) t)) (qCallL sp i (qAddD T dds)) := fun C σ H F env Q Qp R kk q => by
  obtain ⟨⟨l0, ds0, e0⟩, q⟩ := q
  obtain ⟨a, xs0, f1, f2, f3, f4, f5⟩ := R.slotL e0
  refine ⟨.ref a, f1, ?_⟩
  refine l1 C σ H F env _ _ R (fun vs H1 F1 env1 os s1 a1 q1 => ?_) q
  obtain ⟨ds, env2, e1, l, fd, e2, q1⟩ := q1
  obtain ⟨F2, s2, a2⟩ := fzAll_ok s1.rel (a1.app (hd X.fr F1)) e1
  obtain ⟨a', xs, g1, g2, g3, g4, g5⟩ := s2.rel.slotL e2
  rw [f1] at g1
  cases g1
  refine ⟨F2, some a, some fd, ds, vs ++ dvs, s2.rel.frz, a2, by rw [if_pos rfl]; exact ⟨a, xs, fd, rfl, rfl, g2, g3, rfl, g5⟩, _, q1, fun v H' F' rv fl' pp qq => ?_⟩
  obtain ⟨fd', rfl, qq⟩ := qq
  have s3 := pp.stpL s2.rel e2 f1
  obtain ⟨F3, s4, a4⟩ := known_of s2.rel s3 pp.res
  exact kk v H' F3 _ (.dv rv.toD) ((s1.trans s2).trans s4) a4 qq
theorem LF.callL {t : TA} {dvs : List V} {dds : List D} {E : XK} (i : Nat) (hd : constsOk dvs dds) (l1 : LA X.fr t T) : LF X.fr (tCall (spOf X.fr true sp) dvs E (tCons (tVar i) t)) (fCallL sp i (qAddD T dds)) := fun C σ H F env Q Qp R kk q => by
  obtain ⟨⟨l0, ds0, e0⟩, q⟩ := q
  obtain ⟨a, xs0, f1, f2, f3, f4, f5⟩ := R.slotL e0
  refine ⟨.ref a, f1, ?_⟩
  refine l1 C σ H F env _ _ R (fun vs H1 F1 env1 os s1 a1 q1 => ?_) q
  obtain ⟨ds, env2, e1, l, fd, e2, q1⟩ := q1
  obtain ⟨F2, s2, a2⟩ := fzAll_ok s1.rel (a1.app (hd X.fr F1)) e1
  obtain ⟨a', xs, g1, g2, g3, g4, g5⟩ := s2.rel.slotL e2
  rw [f1] at g1
  cases g1
  refine ⟨F2, some a, some fd, ds, vs ++ dvs, s2.rel.frz, a2, by rw [if_pos rfl]; exact ⟨a, xs, fd, rfl, rfl, g2, g3, rfl, g5⟩, _, q1, fun v H' F' rv fl' pp qq => ?_⟩
  obtain ⟨fd', es', rfl, rfl, qq⟩ := qq
  have s3 := pp.stpL s2.rel e2 f1
  obtain ⟨r, ys, rfl, h1, h2, h3, h4⟩ := pp.res
  have h3 : H1 r = none := h3
  obtain ⟨h0, no⟩ := fresh_of s2.rel s3 h3
  exact kk r ys es' H' F' _ ((s1.trans s2).trans s3) h1 h2 h0 no (s1.dm r (s2.dm r h3)) h4 qq
theorem q_callL (i : Nat) {y : Str} {py : Pos} {dvs : List V} {dds : List D} {ds : List Value} (F : FnOk X.prog X.w X.fr X.mg X.base CX0 k f fd ps (spOf X.fr true sp)) (hr : Room k X.A) (hg : Gl X x) (hm : X.mg x = some (.ref f)) (hk : PySem.W.keepIn X.fr (.ref f) = true) (hb : Binds X.fr fd ps ds) (hd : Vals dvs ds) (hdd : constsOk dvs dds)
    (ha : EA X es T) (hN : X.N[i]? = some y := by rfl) (hv : Vis X.env.scope y := by first | exact Or.inl rfl | exact Or.inr (Or.inl rfl) | exact Or.inr (Or.inr rfl)) (hd1 : (y == ("__debug__" : Str)) = false := by decide) (hcd : (y == ("__classdict__" : Str)) = false := by decide)
    (hdb : (x == ("__debug__" : Str)) = false := by decide) (he : starEach (.Name y py :: es) X.env = (false, eval (.Name y py) X.env) :: starEach es X.env := by rfl) (hpl : (backTo pos (starEach es X.env)).any (·.1) = false := by rfl) :
    EV X (.Call (.Name x p) (.Name y py :: es) [] pos) (qCallL sp i (qAddD T dds)) := by
  obtain ⟨t, h1, l1⟩ := ha.ex
  exact ⟨_, pe_call F hr hg hm hk hb hd pass0 (pa_cons (pe_var hN hv hd1 hcd) h1 he) hdb he hpl, LE.callL i hdd l1⟩
theorem f_callL (i : Nat) {y : Str} {py : Pos} {dvs : List V} {dds : List D} {ds : List Value} (F : FnOk X.prog X.w X.fr X.mg X.base CX0 k f fd ps (spOf X.fr true sp)) (hr : Room k X.A) (hg : Gl X x) (hm : X.mg x = some (.ref f)) (hk : PySem.W.keepIn X.fr (.ref f) = true) (hb : Binds X.fr fd ps ds) (hd : Vals dvs ds) (hdd : constsOk dvs dds)
    (ha : EA X es T) (hN : X.N[i]? = some y := by rfl) (hv : Vis X.env.scope y := by first | exact Or.inl rfl | exact Or.inr (Or.inl rfl) | exact Or.inr (Or.inr rfl)) (hd1 : (y == ("__debug__" : Str)) = false := by decide) (hcd : (y == ("__classdict__" : Str)) = false := by decide)
    (hdb : (x == ("__debug__" : Str)) = false := by decide) (he : starEach (.Name y py :: es) X.env = (false, eval (.Name y py) X.env) :: starEach es X.env := by rfl) (hpl : (backTo pos (starEach es X.env)).any (·.1) = false := by rfl) :
    EF X (.Call (.Name x p) (.Name y py :: es) [] pos) (fCallL sp i (qAddD T dds)) := by
  obtain ⟨t, h1, l1⟩ := ha.ex
  exact ⟨_, pe_call F hr hg hm hk hb hd pass0 (pa_cons (pe_var hN hv hd1 hcd) h1 he) hdb he hpl, LF.callL i hdd l1⟩
end
end Sw

set_option Elab.async false
set_option linter.all false
set_option maxRecDepth 100000
namespace Sw
open PySem PySem.Spec L2

section
variable {P : Program} {w : World} {K : PySem.W.Frag} {mg : Str → Option Value} {base : Heap}
/-- THE RULE of a def -/
theorem defD_ok {x qual : Str} {params : Arguments} {body : List Stmt} {scope : Scope} {dvs : List V} {kws : List (Str × V)} {f : Addr} {fd : FuncData} {N ps : List Str} {k : Nat} {sp : PSp} (l : Bool) (F : FunD K x qual params body scope dvs kws f fd) (S : FnScope N ps scope) (len : ∀ fl ds Q, sp fl ds Q → ds.length + (if l = true then 1 else 0) = ps.length)
    (hn : ps.length ≤ N.length) (hbody : ∀ (cdv : Value) (A : Around) (outer : List Env) (s : Shared) (H : Hp) (E : XK), Room k (A.deeper (PyProof.Rows.envOfC qual scope s.heap.objs.size f cdv)) →
      ∃ T, EB (of0 (cxOf CX0 P w K mg base N qual scope f cdv A outer s H E).nox) body T ∧ ∀ fl ds Q, (l = true ↔ fl ≠ none) → sp fl ds Q → T (endsOf l Q) (startE l N fl ds)) : FnOk P w K mg base CX0 (k + 1) f fd ps (spOf ⟨K, P, w⟩ l sp) := by
  have lens : ∀ vs H Q E, spOf ⟨K, P, w⟩ l sp vs H Q E → vs.length = ps.length := fun vs H Q E h => by
    obtain ⟨F, la, fl, ds, ws, hF, ha, hl, Qp, hp, k⟩ := h
    have := len fl ds Qp hp
    cases l with
    | false =>
      obtain ⟨rfl, _, _⟩ := hl
      rw [ha.len]
      simpa using this
    | true =>
      obtain ⟨a, xs, fd, rfl, _⟩ := hl
      rw [List.length_cons, ha.len]
      simpa using this
  refine F.ok S lens (fun cdv A outer s H vs Q E hr h => ?_)
  have hlen := lens vs H Q E h
  obtain ⟨F0, la, fl, ds, ws, hF, ha, hl, Qp, hp, k⟩ := h
  obtain ⟨T, hb, ht⟩ := hbody cdv A outer s H E hr
  obtain ⟨t, h1, l1⟩ := hb.ex
  refine ⟨t, h1.nox, ?_⟩
  have hll : (l = true ↔ la ≠ none) ∧ (l = true ↔ fl ≠ none) := by
    cases l with
    | false =>
      obtain ⟨_, rfl, rfl⟩ := hl
      simp
    | true =>
      obtain ⟨a, xs, fd, _, rfl, _, _, rfl, _⟩ := hl
      simp
  exact l1 ⟨H, F0, la⟩ (start N vs) H F0 (startE l N fl ds) _ (endsOf l Qp) ⟨start_rel hF ha hl (by omega), xok_no rfl⟩ (ends_ok hll.1 k) (ht fl ds Qp hll.2 hp)
/-- a def that can be called: the name, whether its first argument is lent, its parameters, what defaults are put in, its worth -/
structure Cal (P : Program) (w : World) (K : PySem.W.Frag) (mg : Str → Option Value) (base : Heap) (k : Nat) (x : Str) (l : Bool) (ps : List Str) (dds : List D) (sp : PSp) : Prop where
  ex : ∃ (f : Addr) (fd : FuncData) (dvs : List V) (ds : List Value), FnOk P w K mg base CX0 k f fd ps (spOf ⟨K, P, w⟩ l sp) ∧ mg x = some (.ref f) ∧ PySem.W.keepIn K (.ref f) = true ∧ Binds K fd ps ds ∧ Vals dvs ds ∧ constsOk dvs dds
theorem Cal.mono {k k' : Nat} {x : Str} {l : Bool} {ps : List Str} {dds : List D} {sp : PSp} (c : Cal P w K mg base k x l ps dds sp) (h : k ≤ k') : Cal P w K mg base k' x l ps dds sp := by
  obtain ⟨f, fd, dvs, ds, h1, h2⟩ := c.ex
  exact ⟨f, fd, dvs, ds, h1.mono h, h2⟩
theorem Cal.imp {k : Nat} {x : Str} {l : Bool} {ps : List Str} {dds : List D} {sp sp' : PSp} (c : Cal P w K mg base k x l ps dds sp) (h : ∀ fl ds Q, sp' fl ds Q → sp fl ds Q) : Cal P w K mg base k x l ps dds sp' := by
  obtain ⟨f, fd, dvs, ds, h1, h2⟩ := c.ex
  refine ⟨f, fd, dvs, ds, h1.imp fun vs H Q E q => ?_, h2⟩
  obtain ⟨F, la, fl, ds, ws, hF, ha, hl, Qp, hp, k⟩ := q
  exact ⟨F, la, fl, ds, ws, hF, ha, hl, Qp, h _ _ _ hp, k⟩
end
section
variable {X : Cz} {k j : Nat} {ps : List Str} {sp : PSp} {x : Str} {e : Expr} {es : List Expr} {T : PA'} {p pos : Pos} {dds : List D}
theorem q_cal (c : Cal X.prog X.w X.K X.mg X.base k x false ps dds sp) (hr : Room j X.A) (hkj : k ≤ j) (hg : Gl X x) (ha : EA X (e :: es) T) (hdb : (x == ("__debug__" : Str)) = false := by decide) (he : starEach (e :: es) X.env = (false, eval e X.env) :: starEach es X.env := by rfl) (hpl : (backTo pos (starEach es X.env)).any (·.1) = false := by rfl) :
    EV X (.Call (.Name x p) (e :: es) [] pos) (qCall sp (qAddD T dds)) := by
  obtain ⟨f, fd, dvs, ds, h1, h2, h3, h4, h5, h6⟩ := c.ex
  exact q_call h1 (hr.mono hkj) hg h2 h3 h4 h5 h6 ha hdb he hpl
theorem f_cal (c : Cal X.prog X.w X.K X.mg X.base k x false ps dds sp) (hr : Room j X.A) (hkj : k ≤ j) (hg : Gl X x) (ha : EA X (e :: es) T) (hdb : (x == ("__debug__" : Str)) = false := by decide) (he : starEach (e :: es) X.env = (false, eval e X.env) :: starEach es X.env := by rfl) (hpl : (backTo pos (starEach es X.env)).any (·.1) = false := by rfl) :
    EF X (.Call (.Name x p) (e :: es) [] pos) (fCall sp (qAddD T dds)) := by
  obtain ⟨f, fd, dvs, ds, h1, h2, h3, h4, h5, h6⟩ := c.ex
  exact f_call h1 (hr.mono hkj) hg h2 h3 h4 h5 h6 ha hdb he hpl
theorem q_cal0 (c : Cal X.prog X.w X.K X.mg X.base k x false [] [] sp) (hr : Room j X.A) (hkj : k ≤ j) (hg : Gl X x) (hdb : (x == ("__debug__" : Str)) = false := by decide) : EV X (.Call (.Name x p) [] [] pos) (qCall sp (qAddD qNil [])) := by
  obtain ⟨f, fd, dvs, ds, h1, h2, h3, h4, h5, h6⟩ := c.ex
  have h6 : dvs = [] := by simpa [AtAll] using h6 X.fr (fun _ => none)
  subst h6
  exact q_call0 h1 (hr.mono hkj) hg h2 h3 h4 h5 hdb
theorem q_calL (i : Nat) {y : Str} {py : Pos} (c : Cal X.prog X.w X.K X.mg X.base k x true ps dds sp) (hr : Room j X.A) (hkj : k ≤ j) (hg : Gl X x) (ha : EA X es T) (hN : X.N[i]? = some y := by rfl) (hv : Vis X.env.scope y := by first | exact Or.inl rfl | exact Or.inr (Or.inl rfl) | exact Or.inr (Or.inr rfl)) (hd1 : (y == ("__debug__" : Str)) = false := by decide) (hcd : (y == ("__classdict__" : Str)) = false := by decide)
    (hdb : (x == ("__debug__" : Str)) = false := by decide) (he : starEach (.Name y py :: es) X.env = (false, eval (.Name y py) X.env) :: starEach es X.env := by rfl) (hpl : (backTo pos (starEach es X.env)).any (·.1) = false := by rfl) :
    EV X (.Call (.Name x p) (.Name y py :: es) [] pos) (qCallL sp i (qAddD T dds)) := by
  obtain ⟨f, fd, dvs, ds, h1, h2, h3, h4, h5, h6⟩ := c.ex
  exact q_callL i h1 (hr.mono hkj) hg h2 h3 h4 h5 h6 ha hN hv hd1 hcd hdb he hpl
theorem f_calL (i : Nat) {y : Str} {py : Pos} (c : Cal X.prog X.w X.K X.mg X.base k x true ps dds sp) (hr : Room j X.A) (hkj : k ≤ j) (hg : Gl X x) (ha : EA X es T) (hN : X.N[i]? = some y := by rfl) (hv : Vis X.env.scope y := by first | exact Or.inl rfl | exact Or.inr (Or.inl rfl) | exact Or.inr (Or.inr rfl)) (hd1 : (y == ("__debug__" : Str)) = false := by decide) (hcd : (y == ("__classdict__" : Str)) = false := by decide)
    (hdb : (x == ("__debug__" : Str)) = false := by decide) (he : starEach (.Name y py :: es) X.env = (false, eval (.Name y py) X.env) :: starEach es X.env := by rfl) (hpl : (backTo pos (starEach es X.env)).any (·.1) = false := by rfl) :
    EF X (.Call (.Name x p) (.Name y py :: es) [] pos) (fCallL sp i (qAddD T dds)) := by
  obtain ⟨f, fd, dvs, ds, h1, h2, h3, h4, h5, h6⟩ := c.ex
  exact f_callL i h1 (hr.mono hkj) hg h2 h3 h4 h5 h6 ha hN hv hd1 hcd hdb he hpl
end
section
variable {X : Cz} {K : FgX}
/-! ### a * b -/
abbrev rMulA : R2 := fun x y H Q => rI CMul (fun i j => .int (i * j)) x y H Q ∨ (fun x y H Q => ∃ a n, x = V.str a ∧ y = V.int n ∧ n ≤ 1000 ∧ -1000 ≤ n ∧ a.length ≤ 1000 ∧ Q (.str (Txt.mul a n)) H) x y H Q
theorem op_mulA : OpR X (binaryOp .Mult) rMulA := op_mul.or op_mul_str
theorem l_mul : LO2 K rMulA gMul := fun C σ H F env x y dx dy d Q R a b e k => by
  unfold gMul at e
  split at e
  · split at e
    · cases e
      rw [a.int, b.int]
      exact .inl ⟨_, _, rfl, rfl, ‹_›, k _ H F (Stp.refl R) (by simp [At])⟩
    · cases e
  · split at e
    · rename_i h
      cases e
      rw [a.str, b.int]
      exact .inr ⟨_, _, rfl, rfl, h.1, h.2.1, h.2.2, k _ H F (Stp.refl R) (by simp [At])⟩
    · cases e
  · cases e
/-! ### a + b of lists, a list that nobody holds -/
def fOp (g : D → D → Option (List D)) (A B : PE') : PF' := fun env Q => A env fun o1 env1 => B env1 fun o2 env2 => ∃ d1, o1.rd env2 = some d1 ∧ ∃ d2, o2.rd env2 = some d2 ∧ ∃ ds, g d1 d2 = some ds ∧ Q ds env2
def gCatF : D → D → Option (List D)
  | .list a, .list b => if a.length + b.length ≤ sizeLine then some (a ++ b) else none
  | _, _ => none
theorem f_add {a b : Expr} {A B : PE'} {pos : Pos} (ha : EV X a A) (hb : EV X b B) : EF X (.BinOp a .Add b pos) (fOp gCatF A B) := by
  obtain ⟨ta, h1, l1⟩ := ha.ex
  obtain ⟨tb, h2, l2⟩ := hb.ex
  refine ⟨_, pe_op op_cat h1 h2, fun C σ H F env Q Qp R k q => ?_⟩
  refine l1 C σ H F env _ _ R (fun v1 H1 F1 env1 o1 s1 a1 q1 => ?_) q
  refine l2 C σ H1 F1 env1 _ _ s1.rel (fun v2 H2 F2 env2 o2 s2 a2 q2 => ?_) q1
  obtain ⟨d1, e1, d2, e2, ds, e, q2⟩ := q2
  have w1 := rd_vw s2.rel (a1.mono s2.ff) e1
  have w2 := rd_vw s2.rel a2 e2
  unfold gCatF at e
  split at e
  · split at e
    · cases e
      obtain ⟨p, xs, rfl, f1, b1⟩ := w1
      obtain ⟨q, ys, rfl, f2, b2⟩ := w2
      refine ⟨p, q, xs, ys, rfl, rfl, f1, f2, by rw [b1.len, b2.len]; assumption, fun r hr => ?_⟩
      obtain ⟨s, f, h, n⟩ := s2.rel.alloc0 (o := .lst (xs ++ ys)) hr
      exact k r _ _ _ F2 env2 ((s1.trans s2).trans s) upd_same f h n (s1.dm r (s2.dm r hr)) (AtAll.app b1 b2) q2
    · cases e
  · cases e
end
/-! ### what holds of the built-in names -/
abbrev Bts : List Str := ["len", "isinstance", "str", "int", "bool", "list", "tuple", "dict", "range", "all", "any", "sorted", "set", "min", "max", "ord", "enumerate", "sum", "abs", "reversed", "zip"]
abbrev Bt (mg : Str → Option Value) : Prop := ∀ x ∈ Bts, mg x = none
end Sw

set_option Elab.async false
set_option linter.all false
set_option maxRecDepth 100000
namespace Sw
open PySem PySem.Spec L2
theorem cut_seq {A B : PS'} {Dp : PEnds} {env : List SV} (I : List SV → Prop) (hB : ∀ env', I env' → B Dp env') (hA : ∀ nx : List SV → Prop, (∀ env', I env' → nx env') → A { Dp with nx := nx } env) : sSeq A B Dp env := hA _ hB
theorem ex_some {α : Type} {a : α} {P : α → Prop} : (∃ b, some a = some b ∧ P b) ↔ P a := ⟨fun ⟨b, e, h⟩ => by cases e; exact h, fun h => ⟨a, rfl, h⟩⟩
theorem ex_fz {a : D} {env : List SV} {P : D → List SV → Prop} : (∃ d env2, some (a, env) = some (d, env2) ∧ P d env2) ↔ P a env := ⟨fun ⟨d, e2, e, h⟩ => by cases e; exact h, fun h => ⟨a, env, rfl, h⟩⟩
theorem ex_fzs {a : List D} {env : List SV} {P : List D → List SV → Prop} : (∃ d env2, some (a, env) = some (d, env2) ∧ P d env2) ↔ P a env := ⟨fun ⟨d, e2, e, h⟩ => by cases e; exact h, fun h => ⟨a, env, rfl, h⟩⟩
theorem ex_own {l : Bool} {ds : List D} {P : Bool → List D → Prop} : (∃ l' ds', some (SV.own l ds) = some (SV.own l' ds') ∧ P l' ds') ↔ P l ds := ⟨fun ⟨d, e2, e, h⟩ => by cases e; exact h, fun h => ⟨_, _, rfl, h⟩⟩
theorem ex_own0 {l : Bool} {ds : List D} : (∃ l' ds', some (SV.own l ds) = some (SV.own l' ds')) ↔ True := ⟨fun _ => trivial, fun _ => ⟨_, _, rfl⟩⟩
theorem ex_ownF {ds : List D} {P : List D → Prop} : (∃ ds', some (SV.own false ds) = some (SV.own false ds') ∧ P ds') ↔ P ds := ⟨fun ⟨d, e, h⟩ => by cases e; exact h, fun h => ⟨_, rfl, h⟩⟩
theorem ex_bool {b : Bool} {P : Bool → Prop} : (∃ b', some (PyData.bool b) = some (.bool b') ∧ P b') ↔ P b := ⟨fun ⟨d, e, h⟩ => by cases e; exact h, fun h => ⟨_, rfl, h⟩⟩
theorem ex_int {b : Int} {P : Int → Prop} : (∃ b', some (PyData.int b) = some (.int b') ∧ P b') ↔ P b := ⟨fun ⟨d, e, h⟩ => by cases e; exact h, fun h => ⟨_, rfl, h⟩⟩
theorem ex_lst {b : List D} {P : List D → Prop} : (∃ b', some (PyData.list b) = some (.list b') ∧ P b') ↔ P b := ⟨fun ⟨d, e, h⟩ => by cases e; exact h, fun h => ⟨_, rfl, h⟩⟩
theorem ex_strv {b : Str} {P : Str → Prop} : (∃ b', OV.dv (PyData.str b) = OV.dv (.str b') ∧ P b') ↔ P b := ⟨fun ⟨d, e, h⟩ => by cases e; exact h, fun h => ⟨_, rfl, h⟩⟩
theorem ex_sv {d0 : SV} {d : D} (h : svD d0 = some d) : (∃ d, svD d0 = some d) ↔ True := ⟨fun _ => trivial, fun _ => ⟨d, h⟩⟩
theorem ex_svd {d : D} : (∃ d', svD (SV.dat d) = some d') ↔ True := ⟨fun _ => trivial, fun _ => ⟨d, rfl⟩⟩
theorem ex_svo {l : Bool} {ds : List D} : (∃ d', svD (SV.own l ds) = some d') ↔ True := ⟨fun _ => trivial, fun _ => ⟨_, rfl⟩⟩
theorem bindS {α β : Type} {a : α} {f : α → Option β} : (some a).bind f = f a := rfl
theorem mapS {α β : Type} {a : α} {f : α → β} : (some a).map f = some (f a) := rfl
/-! items at written places -/
theorem atI_ofNat {α : Type} {xs : List α} (n : Nat) {v : α} (h : xs[n]? = some v) : atI xs (OfNat.ofNat n) = some v := atI_nat (j := n) h
theorem atI_at {α : Type} {xs : List α} {i : Int} (h0 : 0 ≤ i) : atI xs i = xs[i.toNat]? := by
  unfold atI ixN
  rw [if_pos h0]
  by_cases h : i < xs.length
  · rw [if_pos h]
    rfl
  · rw [if_neg h, List.getElem?_eq_none (by omega)]
    rfl
theorem atI_neg1 {α : Type} {xs : List α} {v : α} (h : xs.getLast? = some v) : atI xs (-1) = some v := by
  obtain ⟨ys, rfl⟩ := List.getLast?_eq_some_iff.mp h
  exact atI_last ys v
theorem ixN_ofNat {n k : Nat} (h : k < n) : ixN n (OfNat.ofNat k : Int) = some k := by
  unfold ixN
  have e : (OfNat.ofNat k : Int) = (k : Int) := rfl
  rw [e, if_pos (by omega), if_pos (by omega)]
  simp
end Sw
namespace Sw
open PySem PySem.Spec L2
theorem ex_if {α : Type} {c : Prop} [Decidable c] {x : α} {P : α → Prop} : (∃ d, (if c then some x else none) = some d ∧ P d) ↔ c ∧ P x := by
  constructor
  · rintro ⟨d, e, h⟩
    split at e
    · cases e; exact ⟨‹_›, h⟩
    · cases e
  · rintro ⟨h, p⟩
    exact ⟨x, by rw [if_pos h], p⟩
theorem ex_ifb {c : Prop} [Decidable c] {x : Bool} {P : Bool → Prop} : (∃ b, (if c then some (PyData.bool x) else none) = some (PyData.bool b) ∧ P b) ↔ c ∧ P x := by
  constructor
  · rintro ⟨d, e, h⟩
    split at e
    · cases e; exact ⟨‹_›, h⟩
    · cases e
  · rintro ⟨h, p⟩
    exact ⟨x, by rw [if_pos h], p⟩
theorem ex_som0 {α : Type} {a : α} : (∃ d, some a = some d) ↔ True := ⟨fun _ => trivial, fun _ => ⟨a, rfl⟩⟩
theorem ex_fl {x : List D} {P : Option (List D) → Prop} : (∃ fl, (∃ ds, some (SV.own true x) = some (SV.own true ds) ∧ fl = some ds) ∧ P fl) ↔ P (some x) := by
  constructor
  · rintro ⟨fl, ⟨ds, e, rfl⟩, h⟩
    cases e
    exact h
  · intro h
    exact ⟨_, ⟨x, rfl, rfl⟩, h⟩
theorem ex_flN {P : Option (List D) → Prop} : (∃ fl, fl = none ∧ P fl) ↔ P none := ⟨fun ⟨_, e, h⟩ => by cases e; exact h, fun h => ⟨none, rfl, h⟩⟩
theorem ex_flS {x : List D} {P : List D → Prop} : (∃ fd, some x = some fd ∧ P fd) ↔ P x := ex_some
theorem atI_lit {α : Type} {xs : List α} {n : Nat} : atI xs (no_index (@OfNat.ofNat Int n instOfNat)) = xs[n]? := atI_at (i := ((n : Nat) : Int)) (by omega)
theorem ixN_lit {n k : Nat} : ixN n (no_index (@OfNat.ofNat Int k instOfNat)) = if k < n then some k else none := by
  show ixN n ((k : Nat) : Int) = _
  unfold ixN
  rw [if_pos (by omega)]
  by_cases h : k < n
  · rw [if_pos (by omega), if_pos h]
    simp
  · rw [if_neg (by omega), if_neg h]
theorem gI_ii {g : Int → Int → Option D} {i j : Int} : gI g (.int i) (.int j) = g i j := rfl
theorem gAdd_ii {a b : Int} : gAdd (.int a) (.int b) = some (.int (a + b)) := rfl
theorem gAdd_ss {a b : Str} : gAdd (.str a) (.str b) = if a.length + b.length ≤ sizeLine then some (.str (a ++ b)) else none := rfl
theorem gAdd_ll {a b : List D} : gAdd (.list a) (.list b) = if a.length + b.length ≤ sizeLine then some (.list (a ++ b)) else none := rfl
theorem gAdd_tt {a b : List D} : gAdd (.tuple a) (.tuple b) = if a.length + b.length ≤ sizeLine then some (.tuple (a ++ b)) else none := rfl
theorem gMul_ii {a b : Int} : gMul (.int a) (.int b) = if (-(2 ^ 64) < a ∧ a < 2 ^ 64) ∨ (-(2 ^ 64) < b ∧ b < 2 ^ 64) then some (.int (a * b)) else none := rfl
theorem gMul_si {a : Str} {n : Int} : gMul (.str a) (.int n) = if n ≤ 1000 ∧ -1000 ≤ n ∧ a.length ≤ 1000 then some (.str (Txt.mul a n)) else none := rfl
theorem gLt_ii {a b : Int} : gLt (.int a) (.int b) = some (.bool (decide (a < b))) := rfl
theorem gLt_ss {a b : Str} : gLt (.str a) (.str b) = some (.bool (ltS a b)) := rfl
theorem gIx_li {ds : List D} {i : Int} : gIx (.list ds) (.int i) = atI ds i := rfl
theorem gIx_ti {ds : List D} {i : Int} : gIx (.tuple ds) (.int i) = atI ds i := rfl
theorem gIx_si {z : Str} {i : Int} : gIx (.str z) (.int i) = if z.length ≤ sizeLine then (atI z.cps.toList i).map fun c => .str ⟨#[c]⟩ else none := rfl
theorem gLen_l {ds : List D} : gLen [.list ds] = some (.int ds.length) := rfl
theorem gLen_t {ds : List D} : gLen [.tuple ds] = some (.int ds.length) := rfl
theorem gLen_s {z : Str} : gLen [.str z] = if z.length ≤ sizeLine then some (.int z.length) else none := rfl
theorem gListF_l {ds : List D} : gListF [.list ds] = some ds := rfl
theorem gListF_t {ds : List D} : gListF [.tuple ds] = some ds := rfl
theorem gTuple_l {ds : List D} : gTuple [.list ds] = some (.tuple ds) := rfl
theorem gTuple_t {ds : List D} : gTuple [.tuple ds] = some (.tuple ds) := rfl
theorem gCatF_ll {a b : List D} : gCatF (.list a) (.list b) = if a.length + b.length ≤ sizeLine then some (a ++ b) else none := rfl
theorem gEq_ii {a b : Int} : gEq false (.int a) (.int b) = some (.bool (a == b)) := rfl
theorem gNe_ii {a b : Int} : gEq true (.int a) (.int b) = some (.bool (!(a == b))) := rfl
theorem gEq_ss {a b : Str} : gEq false (.str a) (.str b) = some (.bool (a == b)) := rfl
theorem gNe_ss {a b : Str} : gEq true (.str a) (.str b) = some (.bool (!(a == b))) := rfl
theorem gEq_bb {a b : Bool} : gEq false (.bool a) (.bool b) = some (.bool (a == b)) := rfl
theorem gNe_bb {a b : Bool} : gEq true (.bool a) (.bool b) = some (.bool (!(a == b))) := rfl
theorem gSl_l {ds : List D} {lo hi : Option Int} : gSl (.list ds) lo hi = some (.list (cutD ds lo hi)) := rfl
theorem gSl_t {ds : List D} {lo hi : Option Int} : gSl (.tuple ds) lo hi = some (.tuple (cutD ds lo hi)) := rfl
theorem gSl_s {z : Str} {lo hi : Option Int} : gSl (.str z) lo hi = if z.length ≤ sizeLine then some (.str (cutS z lo hi)) else none := rfl
theorem gIsN_n : gIsN false .none .none = some (.bool true) := rfl
theorem gNotN_n : gIsN true .none .none = some (.bool false) := rfl
theorem gIsN_x {d : D} (h : d ≠ .none) : gIsN false d .none = some (.bool false) := by cases d <;> first | rfl | exact absurd rfl h
theorem gNotN_x {d : D} (h : d ≠ .none) : gIsN true d .none = some (.bool true) := by cases d <;> first | rfl | exact absurd rfl h
theorem gAppend_1 {ds : List D} {y : D} : gAppend ds [y] = if ds.length < sizeLine then some (.none, ds ++ [y]) else none := rfl
theorem ex_ifp {c : Prop} [Decidable c] {x : D} {y : List D} {P : D → List D → Prop} : (∃ d ds, (if c then some (x, y) else none) = some (d, ds) ∧ P d ds) ↔ c ∧ P x y := by
  constructor
  · rintro ⟨d, ds, e, h⟩
    split at e
    · cases e; exact ⟨‹_›, h⟩
    · cases e
  · rintro ⟨h, p⟩
    exact ⟨x, y, by rw [if_pos h], p⟩
end Sw

set_option Elab.async false
set_option linter.all false
set_option maxRecDepth 100000
namespace Sw
open PySem PySem.Spec L2
theorem pLc_inv {G : TG'} {TT : PT'} {TE : PE'} {vs : List Nat} {Q : List D → List SV → Prop} {ds : List D} {env : List SV} (I : Nat → List D → List SV → Prop) (h0 : I 0 [] env)
    (hs : ∀ i d, ds[i]? = some d → ∀ acc env, I i acc env → ∀ K : List D → List SV → Prop, (∀ acc' env', I (i + 1) acc' env' → K acc' env') →
      G d env fun env1 => TT env1 fun b env2 => if b = true then TE env2 fun o env3 => ∃ y env4, o.fz env3 = some (y, env4) ∧ K (acc ++ [y]) (wipeE env4 vs) else K acc (wipeE env2 vs))
    (hd : ∀ acc env, I ds.length acc env → Q acc env) : pLc G TT TE vs Q ds [] env := by
  have key : ∀ (n i : Nat) (acc : List D) (env : List SV), i + n = ds.length → I i acc env → pLc G TT TE vs Q (ds.drop i) acc env := by
    intro n
    induction n with
    | zero =>
      intro i acc env h hi
      have : ds.drop i = [] := by rw [List.drop_eq_nil_iff]; omega
      rw [this]
      have e : i = ds.length := by omega
      rw [e] at hi
      exact hd acc env hi
    | succ n ih =>
      intro i acc env h hi
      have hlt : i < ds.length := by omega
      rw [List.drop_eq_getElem_cons hlt]
      exact hs i ds[i] (List.getElem?_eq_getElem hlt) acc env hi (fun acc' env' => pLc G TT TE vs Q (ds.drop (i + 1)) acc' env') fun acc' env' h' => ih (i + 1) acc' env' (by omega) h'
  exact key ds.length 0 [] env (by omega) h0
theorem pFor_inv {G : TG'} {B : PS'} {Dp : PEnds} {ds : List D} {env : List SV} (I : Nat → List SV → Prop) (h0 : I 0 env)
    (hs : ∀ i d, ds[i]? = some d → ∀ env, I i env → ∀ K : List SV → Prop, (∀ env', I (i + 1) env' → K env') → G d env fun env1 => B { Dp with nx := K, ct := K, bk := Dp.nx } env1)
    (hd : ∀ env, I ds.length env → Dp.nx env) : pFor G B Dp ds env := by
  have key : ∀ (n i : Nat) (env : List SV), i + n = ds.length → I i env → pFor G B Dp (ds.drop i) env := by
    intro n
    induction n with
    | zero =>
      intro i env h hi
      have : ds.drop i = [] := by rw [List.drop_eq_nil_iff]; omega
      rw [this]
      have e : i = ds.length := by omega
      rw [e] at hi
      exact hd env hi
    | succ n ih =>
      intro i env h hi
      have hlt : i < ds.length := by omega
      rw [List.drop_eq_getElem_cons hlt]
      exact hs i ds[i] (List.getElem?_eq_getElem hlt) env hi (fun env' => pFor G B Dp (ds.drop (i + 1)) env') fun env' h' => ih (i + 1) env' (by omega) h'
  exact key ds.length 0 env (by omega) h0
theorem pWh_inv {c : PT'} {B : PS'} {Dp : PEnds} {env : List SV} (I : List SV → Prop) (μ : List SV → Nat) (h0 : I env)
    (hs : ∀ env, I env → ∀ K : List SV → Prop, (∀ env', I env' → μ env' < μ env → K env') → c env fun b env1 => if b = true then B { Dp with nx := K, ct := K, bk := Dp.nx } env1 else Dp.nx env1) : sWh c B Dp env := by
  have key : ∀ (n : Nat) (env : List SV), I env → μ env < n → pWh c B Dp n env := by
    intro n
    induction n with
    | zero => intro env _ h; omega
    | succ n ih =>
      intro env hi hm
      exact hs env hi (fun env' => pWh c B Dp n env') fun env' h' hm' => ih env' h' (by omega)
  exact ⟨μ env + 1, key (μ env + 1) env h0 (Nat.lt_succ_self _)⟩
theorem rgD_get {lo : Int} {n i : Nat} {d : D} (h : (rgD lo n)[i]? = some d) : i < n ∧ d = .int (lo + (i : Int)) := by
  unfold rgD at h
  rw [List.getElem?_map] at h
  by_cases hi : i < n
  · rw [List.getElem?_range hi] at h
    cases h
    exact ⟨hi, rfl⟩
  · rw [List.getElem?_eq_none (by rw [List.length_range]; omega)] at h
    cases h
theorem rgD_len {lo : Int} {n : Nat} : (rgD lo n).length = n := by simp [rgD]
/-! ### texts -/
/-- all signs are small letters -/
def Low (z : Str) : Prop := ∀ c ∈ z.cps.toList, 97 ≤ c ∧ c ≤ 122
/-- a name -/
def Nm (z : Str) : Prop := Low z ∧ 1 ≤ z.length ∧ z.length ≤ 6
theorem len_tl (z : Str) : z.length = z.cps.toList.length := rfl
theorem tl_app (a b : Str) : (a ++ b).cps.toList = a.cps.toList ++ b.cps.toList := by
  show (a.cps ++ b.cps).toList = _
  simp
theorem len_app (a b : Str) : (a ++ b).length = a.length + b.length := by
  rw [len_tl, len_tl, len_tl, tl_app, List.length_append]
theorem Low.app {a b : Str} (h : Low a) (g : Low b) : Low (a ++ b) := fun c hc => by
  rw [tl_app] at hc
  rcases List.mem_append.mp hc with z | z
  · exact h c z
  · exact g c z
theorem ext_tl {a b : Str} (h : a.cps.toList = b.cps.toList) : a = b := by
  obtain ⟨a⟩ := a
  obtain ⟨b⟩ := b
  exact congrArg Str.mk (Array.toList_inj.mp h)
theorem joinL_nil : ∀ xs : List (List Nat), TL.joinL [] xs = xs.flatten
  | [] => rfl
  | [x] => by simp [TL.joinL]
  | x :: y :: r => by
    rw [TL.joinL, joinL_nil (y :: r)]
    rfl
theorem joinE (ys : List Str) : (Txt.join (Str.ofString "") ys).cps.toList = (ys.map fun y => y.cps.toList).flatten := by
  rw [TL.join_eq]
  have h := TL.tl_join (Str.ofString "") ys
  rw [show TL.tl (Str.ofString "") = [] by decide +kernel, joinL_nil] at h
  exact h
end Sw

set_option Elab.async false
set_option linter.all false
set_option maxRecDepth 100000
namespace PySem.AutoSeq1
theorem list_extend_list_tupleA (l : Addr) (items : Array Value) (n : Nat) (b : Addr) (items2 : Array Value) (n2 : Nat) (dd : Option Addr) (sl : Array (Option Value)) (hs0 : ¬(!items.isEmpty && Builtin.List.listTooLong (items.size + items2.size)) = true) (hs1 : items.size ≤ sizeLine) (hs2 : items.size + items2.size ≤ sizeLine + 1) :
    Meets (Builtin.«list.extend» ⟨[.ref l, .ref b], []⟩) (fun _ R s => s.heap.get? l = some { cls := .type "list", dict := none, data := .seq items n, slots := #[] } ∧ s.heap.get? b = some { cls := .type "tuple", dict := dd, data := .seq items2 n2, slots := sl } ∧ R (.ok (.ret Value.none)) { s with heap := s.heap.update l (Obj.mapSeq fun x => x ++ items2), toks := s.toks }) :=
  .of_wp fun prog w A R s h => by
    obtain ⟨hp, g, d, tk, os⟩ := s; obtain ⟨hl, hb, h⟩ := h; have f1 := idx_int; have f2 := sub_tuple_tuple; have f3 := sub_list_list; have f4 := sub_tuple_list; have f5 := sub_list_tuple;
    have hz' : (items ++ items2).size ≤ sizeLine + 1 := by rw [Array.size_append]; exact hs2
    wp_walk using (wpAny_updateSeq hl rfl (hz := hs1) (_hz' := hz')), wpAny_loadPart' hl, wpAny_loadPart' hb; exact ⟨_, rfl, h⟩
end PySem.AutoSeq1
namespace SwX
open PySem PySem.Spec PyProof.Rows HT L2 PySem.AutoSeq1
section
variable {prog : Program} {w : World} {A : Around} {E : Value → Shared → Prop} {s : Shared}
theorem filterMap_ext {α β : Type} {f g : α → Option β} : ∀ {l : List α}, (∀ x ∈ l, f x = g x) → l.filterMap f = l.filterMap g
  | [], _ => rfl
  | x :: r, h => by
    rw [List.filterMap_cons, List.filterMap_cons, h x List.mem_cons_self, filterMap_ext fun y hy => h y (List.mem_cons_of_mem _ hy)]
/-- t[::-1] of a tuple -/
theorem getItem_tuple_rev {t sl : Addr} {items : Array Value} {vl vu vs : Value} {Q : Value → Shared → Prop} (ht : IsTup s.heap t items) (hs : s.heap.IsSliceOf sl vl vu vs) (pl : IsPart vl none) (pu : IsPart vu none) (ps : IsPart vs (some (-1)))
    (h : Q (.ref s.heap.objs.size) { s with heap := s.heap.push { cls := .type "tuple", data := .seq items.toList.reverse.toArray } })
    (hsz : items.size ≤ sizeLine) : wpAny (model prog w) A (getItem (.ref t) (.ref sl)) Q E s := by
  have htake : sizeOk (.seq items.toList.reverse.toArray) := by
    show items.toList.reverse.toArray.size ≤ sizeLine
    rw [List.size_toArray, List.length_reverse, Array.length_toList]
    omega
  obtain ⟨os, hos, hcs, hds⟩ := id hs
  have hTs : s.TypeIs (.ref sl) "slice" := ⟨os, hos, hcs⟩
  have el : vl = .none := by cases pl; rfl
  have eu : vu = .none := by cases pu; rfl
  obtain ⟨tk, rfl⟩ : ∃ tk, vs = .int (-1) tk := by cases ps; exact ⟨_, rfl⟩
  subst el eu
  unfold getItem
  try with_reducible refine wpAny_holding ?_
  first | refine wpAny_bind (wpAny_pure ?_) | skip
  refine wpAny_bind (wpAny_sequenceKey ht.typeIs (by decide) ?_)
  refine wpAny_bind (wpAny_callSpecial?_slot (name := Str.ofString "__getitem__") ht.typeIs PyProof.Rows.slot_tuple_getitem
    (wpAny_call_entry PyProof.Rows.slot_tuple_getitem ht.typeIs entry_tuple_getitem ?_ (args_tuple_getitem _ _)))
  show wpAny _ _ (Builtin.Tuple.tupleItemsOf (.ref t) >>= _) _ _ s
  refine wpAny_bind (tupleItemsOf_ ht ?_)
  refine wpAny_bind (wpAny_typeOf hTs ?_)
  rw [if_pos (by decide)]
  have app : ∀ {A : Around} {Q : Int × Int × Nat → Shared → Prop} {E : Value → Shared → Prop}, Q ((items.size : Int) - 1, -1, items.size) s → wpAny (model prog w) A (Builtin.Slice.sliceApplied (.ref sl) (pure (items.size : Int))) Q E s := fun {A Q E} h => by
    unfold Builtin.Slice.sliceApplied Builtin.Slice.sliceFields
    refine wpAny_bind (wpAny_bind (wpAny_field hos hds (x := .none) rfl (wpAny_bind (wpAny_field hos hds (x := .none) rfl (wpAny_bind (wpAny_field hos hds (x := .int (-1) tk) rfl (wpAny_pure ?_)))))))
    refine wpAny_bind (slicePart_int ?_)
    show wpAny _ _ (if ((-1 : Int) == 0) = true then _ else _) _ _ s
    rw [if_neg (by decide)]
    refine wpAny_bind (slicePart_none (wpAny_bind (slicePart_none (wpAny_bind (wpAny_pure ?_)))))
    have e : Builtin.Slice.sliceAdjust none none (-1) (items.size : Int) = ((items.size : Int) - 1, -1) := by
      first | rfl | simp [Builtin.Slice.sliceAdjust]
    show wpAny _ _ (match Builtin.Slice.sliceAdjust none none (-1) (items.size : Int) with | (lo, hi) => pure (lo, (-1 : Int), Builtin.Slice.slicePlaces lo hi (-1))) _ _ s
    rw [e]
    have e2 : Builtin.Slice.slicePlaces ((items.size : Int) - 1) (-1) (-1) = items.size := by
      unfold Builtin.Slice.slicePlaces
      rw [if_neg (by decide)]
      by_cases h0 : (items.size : Int) - 1 > -1
      · rw [if_pos h0]
        have : (- -1 : Int) = 1 := by decide
        rw [this, Int.ediv_one]
        omega
      · rw [if_neg h0]
        omega
    show wpAny _ _ (pure ((items.size : Int) - 1, (-1 : Int), Builtin.Slice.slicePlaces ((items.size : Int) - 1) (-1) (-1))) _ _ s
    rw [e2]
    exact wpAny_pure h
  refine wpAny_bind (app ?_)
  have hno : ¬ ((((items.size : Int) - 1) == 0 && (-1 : Int) == 1 && items.size == items.size) = true) := by
    intro q
    rw [Bool.and_eq_true, Bool.and_eq_true] at q
    have q1 : (-1 : Int) = 1 := eq_of_beq q.1.2
    exact absurd q1 (by decide)
  show wpAny _ _ (if (((items.size : Int) - 1) == 0 && (-1 : Int) == 1 && items.size == items.size) = true then _ else _) _ _ s
  have pick : ((List.range items.size).filterMap fun (m : Nat) => items[(((items.size : Int) - 1) + (m : Int) * (-1)).toNat]?).toArray = items.toList.reverse.toArray := by
    rw [← PySem.W.krv_all items, ← List.filterMap_reverse, ← PySem.W.krv_range, List.filterMap_map]
    refine congrArg List.toArray (filterMap_ext fun m hm => ?_)
    have := List.mem_range.mp hm
    show items[_]? = items[_]?
    congr 1
    show _ = items.size - 1 - m
    omega
  rw [if_neg hno, pick]
  first
    | exact wpAny_bind (m := Builtin.Tuple.tupleExact _) (wpAny_newObj_type (wpAny_pure ⟨_, rfl, wpAny_pure h⟩) htake)
    | exact wpAny_bind (m := Builtin.Tuple.tupleExact _) (wpAny_newObj_type (wpAny_bind (wpAny_pure (wpAny_pure ⟨_, rfl, wpAny_pure h⟩))) htake)
    | exact wpAny_bind (wpAny_bind (m := Builtin.Tuple.tupleExact _) (wpAny_newObj_type (wpAny_pure (wpAny_pure ⟨_, rfl, wpAny_pure h⟩)) htake))
    | exact wpAny_bind (wpAny_bind (m := Builtin.Tuple.tupleExact _) (wpAny_newObj_type (wpAny_pure ⟨_, rfl, wpAny_pure h⟩) htake))
end
section
variable {X : Sw.Cz}
/-- e[::-1] of a list or a tuple -/
def tRevA (K : Sw.FgK) (te : TE) : TE := fun σ H Q => te σ H fun x H1 => (∃ a xs, x = .ref a ∧ SqL K H1 a xs ∧ ∀ p, H1 p = none → Q (.ref p) (upd H1 p (.lst xs.reverse))) ∨ ∃ a xs, x = .ref a ∧ SqT K H1 a xs ∧ ∀ p, H1 p = none → Q (.ref p) (upd H1 p (.tup xs.reverse))
theorem pe_revA {e : Expr} {te : TE} {k : Nat} {p1 p2 p3 pos : Pos} (he : PE X e te) : PE X (.Subscript e (.Slice none none (some (.UnaryOp .USub (.Constant (.int 1) k p1) p2)) p3) pos) (tRevA X.fr te) := by
  refine ⟨fun pins s σ H Q I h => ?_⟩
  refine Subscript_ (thn (he.run pins s σ H _ I h) fun v s1 ⟨x, H1, I1, r1, q1⟩ => ?_)
  have hst : PO X (some (.UnaryOp .USub (.Constant (.int 1) k p1) p2)) (tPart (tUn (rU fun i => .int (-i)) (tC (.int 1)))) := po_some (pe_un un_neg pe_int)
  refine wpAny_Slice (thn (po_none.run pins s1 σ H1 (fun o H2 => o = none ∧ H2 = H1) I1 ⟨rfl, rfl⟩) fun vl s2 ⟨l, H2, I2, pl, el, e2⟩ => ?_)
  subst el e2
  refine thn (po_none.run pins s2 σ H2 (fun o H3 => o = none ∧ H3 = H2) I2 ⟨rfl, rfl⟩) fun vu s3 ⟨u, H3, I3, pu, eu, e3⟩ => ?_
  subst eu e3
  refine thn (hst.run pins s3 σ H3 (fun o H4 => o = some (-1) ∧ H4 = H3) I3 ⟨1, rfl, -1, rfl, rfl, rfl⟩) fun vs s4 ⟨o, H4, I4, ps, eo, e4⟩ => ?_
  subst eo e4
  have I5 : Inv X pins σ H4 { s4 with heap := s4.heap.push { cls := .type "slice", data := .fields #[vl, vu, vs] } } := I4.kept (t' := s4.toks) fun b ob q => Heap.get?_push_of_some _ q
  rcases q1 with ⟨a, xs, ex, hx, q⟩ | ⟨a, xs, ex, hx, q⟩
  · subst ex
    cases r1
    obtain ⟨its, r, ht, hz⟩ := I5.list hx
    have hlen := r.length
    show wpAny (model X.prog X.w) X.A (subscriptTail e (.Slice none none (some (.UnaryOp .USub (.Constant (.int 1) k p1) p2)) p3) (.ref a) (.ref s4.heap.objs.size)) (EP X pins σ Q) X.xe { s4 with heap := s4.heap.push { cls := .type "slice", data := .fields #[vl, vu, vs] } }
    refine tail_any (ops := [.ref a, .ref s4.heap.objs.size]) ht.isList.typeIs (PySem.slot_list_getitem.lookup) ?_ (by with_unfolding_all rfl)
    refine wpAny_getItem_list_slice ht.isList (Heap.IsSliceOf.new _ vl vu vs) pl pu ps (by decide) ?_ (by rw [List.size_toArray]; omega)
    rw [PySem.W.krv_pick]
    refine ⟨.ref _, _, I5.laid (t' := s4.toks) (o := .lst xs.reverse) (fun b ob q => Heap.get?_push_of_some _ q) (Nat.le_refl _) ?_, rfl, q _ (I5.hok.fresh (Nat.le_refl _))⟩
    exact ⟨by rw [List.length_reverse]; exact hz, _, 0, r.reverse, Heap.get?_push_size _ rfl⟩
  · subst ex
    cases r1
    obtain ⟨its, r, ht, hz⟩ := I5.tuple hx
    have hlen := r.length
    show wpAny (model X.prog X.w) X.A (subscriptTail e (.Slice none none (some (.UnaryOp .USub (.Constant (.int 1) k p1) p2)) p3) (.ref a) (.ref s4.heap.objs.size)) (EP X pins σ Q) X.xe { s4 with heap := s4.heap.push { cls := .type "slice", data := .fields #[vl, vu, vs] } }
    refine tail_any (ops := [.ref a, .ref s4.heap.objs.size]) ht.typeIs (PyProof.Rows.slot_tuple_getitem.lookup) ?_ (by with_unfolding_all rfl)
    refine getItem_tuple_rev ht (Heap.IsSliceOf.new _ vl vu vs) pl pu ps ?_ (by rw [List.size_toArray]; omega)
    refine ⟨.ref _, _, I5.laid (t' := s4.toks) (o := .tup xs.reverse) (fun b ob q => Heap.get?_push_of_some _ q) (Nat.le_refl _) ?_, rfl, q _ (I5.hok.fresh (Nat.le_refl _))⟩
    exact ⟨by rw [List.length_reverse]; exact hz, _, r.reverse, IsTup.new _ _⟩
/-- xs.extend(ys), ys a list or a tuple -/
def rExtA (K : Sw.FgK) : V → List V → Hp → VK → Prop := fun x vs H Q => rExtend x vs H Q ∨ ∃ l b xs zs, x = .ref l ∧ vs = [.ref b] ∧ H l = some (.lst xs) ∧ SqT K H b zs ∧ xs.length + zs.length ≤ sizeLine ∧ Q .non (upd H l (.lst (xs ++ zs)))
theorem mt_extendA : MtM X "list.extend" (rExtA X.fr) := by
  intro pins s σ H x vs v us Q I rx rv h
  rcases h with h | ⟨l, b, xs, zs, rfl, rfl, hH, hB, hz, q⟩
  · exact mt_extend pins s σ H x vs v us Q I rx rv h
  · cases rx
    obtain ⟨u, rfl, ru⟩ := rv.one
    cases ru
    obtain ⟨z, its, n, r, hl, e⟩ := I.lstM hH
    obtain ⟨its2, r2, ht, hz2⟩ := I.tuple hB
    have hl2 := r2.length
    obtain ⟨⟨oc, od, odat, osl⟩, ho, hc, n2, hd⟩ := ht
    have hc : oc = .type "tuple" := hc
    have hd : odat = .seq its2.toArray n2 := hd
    subst hc hd
    have hsz : its.toArray.size + its2.toArray.size ≤ sizeLine := by rw [List.size_toArray, List.size_toArray]; omega
    have hlong : ¬ (!its.toArray.isEmpty && Builtin.List.listTooLong (its.toArray.size + its2.toArray.size)) = true := by
      rw [notLongL hsz, Bool.and_false]
      exact Bool.false_ne_true
    refine call_meets F.slot_list_extend ⟨_, e, rfl⟩ F.entry_list_extend (F.args_list_extend_2 _ _)
      (list_extend_list_tupleA l its.toArray n b its2.toArray n2 od osl hlong (by rw [List.size_toArray]; omega) (by omega)) ⟨e, ho, ?_⟩
    refine ⟨.non, _, I.lset (its' := its ++ its2) hH e (by simp) (r.append r2) ?_, rfl, q⟩
    rw [List.length_append]
    omega
end
end SwX

namespace Sw
open PySem PySem.Spec L2
section
variable {X : Sw.Cz} {K : FgX}
def gRevD : D → Option D
  | .list ds => some (.list ds.reverse)
  | .tuple ds => some (.tuple ds.reverse)
  | _ => none
def qRevA (A : PE') : PE' := fun env Q => A env fun o env1 => ∃ d, o.rd env1 = some d ∧ ∃ d', gRevD d = some d' ∧ Q (.dv d') env1
theorem q_rev {e : Expr} {A : PE'} {k : Nat} {p1 p2 p3 pos : Pos} (he : EV X e A) : EV X (.Subscript e (.Slice none none (some (.UnaryOp .USub (.Constant (.int 1) k p1) p2)) p3) pos) (qRevA A) := by
  obtain ⟨t, h1, l1⟩ := he.ex
  refine ⟨_, SwX.pe_revA h1, fun C σ H F env Q Qp R k q => ?_⟩
  refine l1 C σ H F env _ _ R (fun v H1 F1 env1 o s1 a1 q1 => ?_) q
  obtain ⟨d, e, d', e', q1⟩ := q1
  have w := rd_vw s1.rel a1 e
  unfold gRevD at e'
  split at e'
  · cases e'
    obtain ⟨p, xs, rfl, e1, a2⟩ := w
    refine .inl ⟨p, xs, rfl, SqL.of e1, fun r hr => ?_⟩
    have s4 := s1.rel.alloc (o := .lst xs.reverse) hr
    exact k _ _ _ _ (.dv _) (s1.trans s4) (OvOk.of (At.list_of upd_same (AtAll.mono s4.ff _ _ a2.rev))) q1
  · cases e'
    obtain ⟨p, xs, rfl, e1, a2⟩ := w.tup s1.rel.frz
    refine .inr ⟨p, xs, rfl, e1, fun r hr => ?_⟩
    have s4 := s1.rel.alloc (o := .tup xs.reverse) hr
    exact k _ _ _ _ (.dv _) (s1.trans s4) (OvOk.of (At.tup_of upd_same (AtAll.mono s4.ff _ _ a2.rev))) q1
  · cases e'
theorem gRev_l {ds : List D} : gRevD (.list ds) = some (.list ds.reverse) := rfl
theorem gRev_t {ds : List D} : gRevD (.tuple ds) = some (.tuple ds.reverse) := rfl
/-! xs.extend(..) -/
def gExtend : List D → List D → Option (D × List D)
  | ds, [.list es] => if ds.length + es.length ≤ sizeLine then some (.none, ds ++ es) else none
  | ds, [.tuple es] => if ds.length + es.length ≤ sizeLine then some (.none, ds ++ es) else none
  | _, _ => none
theorem gExtend_l {ds es : List D} : gExtend ds [.list es] = if ds.length + es.length ≤ sizeLine then some (.none, ds ++ es) else none := rfl
theorem gExtend_t {ds es : List D} : gExtend ds [.tuple es] = if ds.length + es.length ≤ sizeLine then some (.none, ds ++ es) else none := rfl
/-- a method of a slot's own list that reads what it is handed: the heap's known part lies within -/
def LMO' (K : FgK) (r : V → List V → Hp → VK → Prop) (g : List D → List D → Option (D × List D)) : Prop := ∀ (H F : Hp) (p : Addr) (xs ys : List V) (ds es ds' : List D) (d : D) (Q : VK), Le F H → H p = some (.lst xs) → AtAll K F ds xs → AtAll K F es ys → g ds es = some (d, ds') →
  (∀ v xs', At K F d v → AtAll K F ds' xs' → Q v (upd H p (.lst xs'))) → r (.ref p) ys H Q
theorem LMO.le {r : V → List V → Hp → VK → Prop} {g : List D → List D → Option (D × List D)} (h : LMO K r g) : LMO' K r g := fun H F p xs ys ds es ds' d Q _ => h H F p xs ys ds es ds' d Q
theorem l_extend : LMO' K (SwX.rExtA K) gExtend := fun H F p xs ys ds es ds' d Q hle hp a b e k => by
  unfold gExtend at e
  split at e
  · split at e
    · cases e
      obtain ⟨y, rfl, ay⟩ := b.one
      simp only [At] at ay
      obtain ⟨q, zs, rfl, e1, a1⟩ := ay
      exact .inl ⟨p, q, xs, zs, rfl, rfl, hp, hle _ _ e1, by rw [a.len, a1.len]; assumption, k _ _ (by simp [At]) (AtAll.app a a1)⟩
    · cases e
  · split at e
    · cases e
      obtain ⟨y, rfl, ay⟩ := b.one
      simp only [At] at ay
      obtain ⟨q, zs, rfl, e1, a1⟩ := ay
      exact .inr ⟨p, q, xs, zs, rfl, rfl, hp, (Le.tupAt hle e1).sqT, by rw [a.len, a1.len]; assumption, k _ _ (by simp [At]) (AtAll.app a a1)⟩
    · cases e
  · cases e
theorem q_moE (i : Nat) {name x : Str} {p apos cpos : Pos} {e : Expr} {es : List Expr} {T : PA'} (hname : name = "extend") (ha : EA X (e :: es) T)
    (hN : X.N[i]? = some x := by rfl) (hv : Vis X.env.scope x := by first | exact Or.inl rfl | exact Or.inr (Or.inl rfl) | exact Or.inr (Or.inr rfl)) (hd : (x == ("__debug__" : Str)) = false := by decide) (hcd : (x == ("__classdict__" : Str)) = false := by decide)
    (hbase : attributeBase (.Name x p) name X.env (eval (.Name x p) X.env) = eval (.Name x p) X.env := by rfl)
    (hfew : ((backTo cpos (starEach (e :: es) X.env)).all (fun x => !x.1) && (backToKw cpos (keywordEach [] X.env)).all (fun x => x.1.isSome)
      && decide ((e :: es).length + ([] : List Keyword).length + (if ([] : List Keyword).isEmpty then 0 else 1) < 30)) = true := by rfl)
    (hline : (apos.endLine == cpos.line) = true := by rfl) (hs : starEach (e :: es) X.env = (false, eval e X.env) :: starEach es X.env := by rfl) (hplain : (backTo cpos (starEach es X.env)).any (·.1) = false := by rfl) :
    EV X (.Call (.Attribute (.Name x p) name apos) (e :: es) [] cpos) (qMO i gExtend T) := by
  subst hname
  obtain ⟨t, h1, l1⟩ := ha.ex
  refine ⟨_, pe_bm PySem.F.plainAttrs_list PySem.F.slot_list_extend PySem.F.type_list_extend SwX.mt_extendA (pe_var hN hv hd hcd) h1 hbase hfew hline hs hplain, fun C σ H F env Q Qp R k q => ?_⟩
  obtain ⟨⟨l0, ds0, e0⟩, q⟩ := q
  obtain ⟨a, xs0, f1, f2, f3, f4, f5⟩ := R.slotL e0
  refine ⟨.ref a, f1, .inl ⟨rfl, xs0, SqL.of f2⟩, ?_⟩
  refine l1 C σ H F env _ _ R (fun vs H1 F1 env1 os s1 a1 q1 => ?_) q
  obtain ⟨es', env2, e1, l, ds, e2, d, ds', e3, q1⟩ := q1
  obtain ⟨F2, s2, a2⟩ := fzAll_ok s1.rel a1 e1
  obtain ⟨a', xs, g1, g2, g3, g4, g5⟩ := s2.rel.slotL e2
  rw [f1] at g1
  cases g1
  refine l_extend H1 F2 a xs vs ds es' ds' d _ s2.rel.frz g2 g5 a2 e3 fun v xs' av ax => ?_
  have s3 := s2.rel.writeL e2 f1 ax
  exact k v _ F2 _ (.dv d) ((s1.trans s2).trans s3) (OvOk.of av) q1
/-! sorted(..) of texts -/
def insS (x : Str) : List Str → List Str
  | [] => [x]
  | y :: r => if ltS y x = true then y :: insS x r else x :: y :: r
def sortS : List Str → List Str
  | [] => []
  | x :: r => insS x (sortS r)
def gSorted : List D → Option (List D)
  | [.list ds] => (strsOf ds).bind fun ys => if ys.length < 64 then some ((sortS ys).map .str) else none
  | _ => none
theorem insS_perm (x : Str) : ∀ ys : List Str, (insS x ys).Perm (x :: ys)
  | [] => List.Perm.refl _
  | y :: r => by
    unfold insS
    split
    · exact ((insS_perm x r).cons y).trans (List.Perm.swap x y r)
    · exact List.Perm.refl _
theorem sortS_perm : ∀ ys : List Str, (sortS ys).Perm ys
  | [] => List.Perm.refl _
  | x :: r => (insS_perm x (sortS r)).trans ((sortS_perm r).cons x)
end
end Sw

set_option Elab.async false
set_option linter.all false
set_option maxRecDepth 100000
namespace Sw
open PySem PySem.Spec L2
theorem perm_eq_pw {α : Type} {r : α → α → Prop} (anti : ∀ a b, r a b → r b a → a = b) : ∀ {l m : List α}, l.Perm m → l.Pairwise r → m.Pairwise r → l = m
  | [], m, p, _, _ => (List.nil_perm.mp p).symm
  | a :: l, [], p, _, _ => absurd p.symm (by simp)
  | a :: l, b :: m, p, h1, h2 => by
    have hab : a = b := by
      by_cases e : a = b
      · exact e
      · have ha : a ∈ m := by
          have := p.mem_iff.mp (List.mem_cons_self (a := a) (l := l))
          rcases List.mem_cons.mp this with z | z
          · exact absurd z e
          · exact z
        have hb : b ∈ l := by
          have := p.mem_iff.mpr (List.mem_cons_self (a := b) (l := m))
          rcases List.mem_cons.mp this with z | z
          · exact absurd z.symm e
          · exact z
        exact anti a b ((List.pairwise_cons.mp h1).1 b hb) ((List.pairwise_cons.mp h2).1 a ha)
    subst hab
    rw [perm_eq_pw anti (List.Perm.cons_inv p) (List.pairwise_cons.mp h1).2 (List.pairwise_cons.mp h2).2]
theorem ltS_iff {a b : Str} : ltS a b = true ↔ a.cps.toList < b.cps.toList := decide_eq_true_iff
theorem ltS_irr (a : Str) : ltS a a = false := by
  rw [← Bool.not_eq_true, ltS_iff]
  exact List.lt_irrefl _
theorem ltS_tr {a b c : Str} (h : ltS a b = true) (g : ltS b c = true) : ltS a c = true := by
  rw [ltS_iff] at *
  exact List.lt_trans h g
theorem ltS_as {a b : Str} (h : ltS a b = true) : ltS b a = false := by
  rw [← Bool.not_eq_true]
  intro g
  have := ltS_tr h g
  rw [ltS_irr] at this
  cases this
theorem ltS_tri {a b : Str} (h : ltS a b = false) (g : ltS b a = false) : a = b := by
  rw [← Bool.not_eq_true, ltS_iff] at h g
  exact ext_tl (List.le_antisymm (as := a.cps.toList) (bs := b.cps.toList) g h)
/-- a ≤ b -/
def leS (a b : Str) : Prop := ltS b a = false
theorem leS_tr {a b c : Str} (h : leS a b) (g : leS b c) : leS a c := by
  unfold leS at *
  cases q : ltS c a with
  | false => rfl
  | true =>
    exfalso
    by_cases e : ltS b c = true
    · have := ltS_tr e q
      rw [this] at h; cases h
    · have e : ltS b c = false := by simpa using e
      have := ltS_tri e g
      subst this
      rw [q] at h; cases h
theorem insS_pw {x : Str} : ∀ {ys : List Str}, ys.Pairwise leS → (insS x ys).Pairwise leS
  | [], _ => by simp [insS]
  | y :: r, h => by
    have h' := List.pairwise_cons.mp h
    unfold insS
    split
    · rename_i hy
      refine List.pairwise_cons.mpr ⟨fun z hz => ?_, insS_pw h'.2⟩
      rcases List.mem_cons.mp ((insS_perm x r).mem_iff.mp hz) with e | e
      · subst e
        exact ltS_as hy
      · exact h'.1 z e
    · rename_i hy
      have hy : leS x y := by unfold leS; simpa using hy
      refine List.pairwise_cons.mpr ⟨fun z hz => ?_, h⟩
      rcases List.mem_cons.mp hz with e | e
      · subst e; exact hy
      · exact leS_tr hy (h'.1 z e)
theorem sortS_pw : ∀ ys : List Str, (sortS ys).Pairwise leS
  | [] => List.Pairwise.nil
  | x :: r => insS_pw (sortS_pw r)
theorem sortS_of {xs ys : List Str} (p : ys.Perm xs) (h : ys.Pairwise leS) : ys = sortS xs := perm_eq_pw (r := leS) (fun a b h g => ltS_tri g h) (p.trans (sortS_perm xs).symm) h (sortS_pw xs)
theorem sortS_congr {xs ys : List Str} (p : ys.Perm xs) : sortS ys = sortS xs := sortS_of ((sortS_perm ys).trans p) (sortS_pw ys)
end Sw
namespace Sw
open PySem PySem.Spec L2
open PyProof.Rows (sortedS risingS ltCps_eq)
theorem risingS_pw : ∀ (xs : List Str) (p : Str), risingS p xs = true → (p :: xs).Pairwise leS
  | [], p, _ => by simp
  | x :: r, p, h => by
    unfold risingS at h
    rw [Bool.and_eq_true, ltCps_eq] at h
    have hx : leS p x := by
      have := h.1
      unfold leS ltS
      simpa using this
    have ih := risingS_pw r x h.2
    refine List.pairwise_cons.mpr ⟨fun z hz => ?_, ih⟩
    rcases List.mem_cons.mp hz with e | e
    · subst e; exact hx
    · exact leS_tr hx ((List.pairwise_cons.mp ih).1 z e)
theorem sortedS_pw : ∀ xs : List Str, sortedS xs = true → xs.Pairwise leS
  | [], _ => List.Pairwise.nil
  | x :: r, h => risingS_pw r x h
theorem AtAll.ofStrs {K : FgX} {F : Hp} : ∀ ys : List Str, AtAll K F (ys.map .str) (ys.map V.str)
  | [] => AtAll.nil
  | y :: r => AtAll.cons (by simp [At]) (AtAll.ofStrs r)
theorem l_sortedF {K : FgX} : LCF K (rSortedS K) gSorted := fun C σ H F env xs ds es Q R a e k => by
  unfold gSorted at e
  split at e
  · rename_i ds'
    cases q : strsOf ds' with
    | none => rw [q] at e; cases e
    | some ys =>
      rw [q] at e
      simp only [Option.bind_some] at e
      split at e
      · cases e
        obtain ⟨x, rfl, w⟩ := a.one
        obtain ⟨p, zs, rfl, e1, a2⟩ := w
        have := a2.strs q
        subst this
        refine ⟨p, ys, rfl, SqL.of e1, ‹_›, fun ws l hp hs hl => ?_⟩
        have := sortS_of hp (sortedS_pw ws hs)
        subst this
        obtain ⟨s, f, h, n⟩ := R.alloc0 (o := .lst ((sortS ys).map V.str)) hl
        exact k l _ F s f h n hl (AtAll.ofStrs _)
      · cases e
  · cases e
theorem gSorted_s {ys : List Str} : gSorted [.list (ys.map .str)] = if ys.length < 64 then some ((sortS ys).map .str) else none := by
  show ((strsOf (ys.map PyData.str)).bind fun ys => if ys.length < 64 then some ((sortS ys).map PyData.str) else none) = _
  rw [strsOf_map]
  rfl
end Sw
namespace Sw
open PySem PySem.Spec L2
theorem seqOf_l {ds : List D} : seqOf (.list ds) = some ds := rfl
theorem seqOf_t {ds : List D} : seqOf (.tuple ds) = some ds := rfl
theorem itemsOf_l {ds : List D} : itemsOf (.list ds) = some ds := rfl
theorem itemsOf_t {ds : List D} : itemsOf (.tuple ds) = some ds := rfl
theorem itemsOf_s {z : Str} : itemsOf (.str z) = some (z.cps.toList.map signD) := rfl
theorem gJoin_s {z : Str} {ys : List Str} : gJoin z (ys.map .str) = if (ys.map (·.length)).sum + ys.length * z.length ≤ 16777216 then some (.str (Txt.join z ys)) else none := by
  show ((strsOf (ys.map .str)).bind _) = _
  rw [strsOf_map]
  rfl
theorem gAll_b {bs : List Bool} : gAll [.list (bs.map .bool)] = some (.bool (bs.all id)) := by
  show (boolsOf (bs.map .bool)).map _ = _
  rw [boolsOf_map]
  rfl
theorem gAny_b {bs : List Bool} : gAny [.list (bs.map .bool)] = some (.bool (bs.any id)) := by
  show (boolsOf (bs.map .bool)).map _ = _
  rw [boolsOf_map]
  rfl
theorem gPopAt_1 {ds : List D} {i : Int} : gPopAt ds [.int i] = if -(2 ^ 63) ≤ i ∧ i < 2 ^ 63 then (seqIndex? i ds.length).bind fun j => ds[j]?.map fun d => (d, ds.eraseIdx j) else none := rfl
theorem isi_str {T : Ty} {z : Str} : isi T (.str z) = match T with | .str => true | _ => false := by cases T <;> rfl
theorem isi_int {T : Ty} {z : Int} : isi T (.int z) = match T with | .int => true | _ => false := by cases T <;> rfl
theorem isi_bool {T : Ty} {z : Bool} : isi T (.bool z) = match T with | .int => true | .bool => true | _ => false := by cases T <;> rfl
theorem isi_list {T : Ty} {z : List D} : isi T (.list z) = match T with | .list => true | _ => false := by cases T <;> rfl
theorem isi_tuple {T : Ty} {z : List D} : isi T (.tuple z) = match T with | .tuple => true | _ => false := by cases T <;> rfl
theorem isi_none {T : Ty} : isi T .none = false := by cases T <;> rfl
/-! plain data -/
def okI (d : D) : Prop := d.plain = true ∧ d.depth ≤ 39
theorem okD_list {xs : List D} (h : ∀ x ∈ xs, okI x) : okD (.list xs) = true ∧ okD (.tuple xs) = true := by
  have hp : PyData.plainAll xs = true := by
    induction xs with
    | nil => rfl
    | cons x r ih =>
      rw [PyData.plainAll, (h x List.mem_cons_self).1, ih fun y hy => h y (List.mem_cons_of_mem _ hy)]
      rfl
  have hd : PyData.depthAll xs ≤ 39 := by
    clear hp
    induction xs with
    | nil => exact Nat.zero_le _
    | cons x r ih =>
      have h1 := (h x List.mem_cons_self).2
      have h2 := ih fun y hy => h y (List.mem_cons_of_mem _ hy)
      rw [PyData.depthAll]
      omega
  unfold okD
  constructor
  · rw [show (PyData.list xs).plain = true from hp, PyData.depth, Bool.true_and, decide_eq_true_eq]
    omega
  · rw [show (PyData.tuple xs).plain = true from hp, PyData.depth, Bool.true_and, decide_eq_true_eq]
    omega
theorem okI_str (z : Str) : okI (.str z) := ⟨rfl, by simp [PyData.depth]⟩
theorem okI_int (z : Int) : okI (.int z) := ⟨rfl, by simp [PyData.depth]⟩
theorem okI_bool (z : Bool) : okI (.bool z) := ⟨rfl, by simp [PyData.depth]⟩
theorem okI_none : okI .none := ⟨rfl, by simp [PyData.depth]⟩
theorem okD_of {d : D} (h : okI d) : okD d = true := by
  have h2 := h.2
  unfold okD
  rw [h.1, Bool.true_and, decide_eq_true_eq]
  omega
theorem okD_strs (ys : List Str) : okD (.list (ys.map .str)) = true ∧ okD (.tuple (ys.map .str)) = true := okD_list fun x hx => by
  obtain ⟨y, _, rfl⟩ := List.mem_map.mp hx
  exact okI_str y
theorem gIn_strs {neg : Bool} {z : Str} {ys : List Str} : gIn neg (.str z) (.list (ys.map .str)) = some (.bool (if neg then !decide (z ∈ ys) else decide (z ∈ ys))) := by
  show (if okD (PyData.str z) = true ∧ okD (.list (ys.map PyData.str)) = true then some (inB neg (.str z) (ys.map PyData.str)) else none) = _
  unfold inB
  have e : ((ys.map PyData.str).any fun y => PyData.eqv y (.str z)) = decide (z ∈ ys) := by
    induction ys with
    | nil => rfl
    | cons y r ih =>
      rw [List.map_cons, List.any_cons, ih]
      show ((y == z) || decide (z ∈ r)) = decide (z ∈ y :: r)
      by_cases h1 : y = z
      · rw [h1, beq_self_eq_true, Bool.true_or]
        exact (decide_eq_true List.mem_cons_self).symm
      · rw [beq_eq_false_iff_ne.mpr h1, Bool.false_or]
        by_cases h2 : z ∈ r
        · rw [decide_eq_true h2]
          exact (decide_eq_true (List.mem_cons_of_mem _ h2)).symm
        · rw [decide_eq_false h2]
          refine (decide_eq_false fun h3 => ?_).symm
          rcases List.mem_cons.mp h3 with e | e
          · exact h1 e.symm
          · exact h2 e
  rw [if_pos ⟨okD_of (okI_str z), (okD_strs ys).1⟩, e]
theorem gNe_nil {xs : List D} (h : ∀ x ∈ xs, okI x) : gEq true (.list xs) (.list []) = some (.bool (!xs.isEmpty)) := by
  show (if okD (.list xs) = true ∧ okD (.list []) = true then some (PyData.bool (!PyData.eqv (.list xs) (.list []))) else none) = _
  rw [if_pos ⟨(okD_list h).1, by rfl⟩]
  cases xs <;> rfl
end Sw
namespace Sw
open PySem PySem.Spec L2
theorem gIsN_b {neg : Bool} {b : Bool} : gIsN neg (.bool b) .none = some (.bool neg) := rfl
theorem gIsN_i {neg : Bool} {b : Int} : gIsN neg (.int b) .none = some (.bool neg) := rfl
theorem gIsN_s {neg : Bool} {b : Str} : gIsN neg (.str b) .none = some (.bool neg) := rfl
theorem gIsN_l {neg : Bool} {b : List D} : gIsN neg (.list b) .none = some (.bool neg) := rfl
theorem gIsN_t {neg : Bool} {b : List D} : gIsN neg (.tuple b) .none = some (.bool neg) := rfl
theorem gIsN_d {neg : Bool} {b : List (D × D)} : gIsN neg (.dict b) .none = some (.bool neg) := rfl
end Sw
namespace Sw
open PySem PySem.Spec L2
/-! a call that hands back a number, a truth, a text or None: what it was handed is only read -/
def atomD : D → Prop
  | .list _ => False
  | .tuple _ => False
  | .dict _ => False
  | _ => True
theorem At.atom {K : FgK} {F F' : Hp} {d : D} {v : V} (h : atomD d) (a : At K F d v) : At K F' d v := by
  cases d with
  | list _ => exact h.elim
  | tuple _ => exact h.elim
  | dict _ => exact h.elim
  | none => simpa [At] using a
  | bool b => simpa [At] using a
  | int b => simpa [At] using a
  | str b => simpa [At] using a
def qCallV (sp : PSp) (T : PA') : PE' := fun env Q => T env fun os env1 => ∃ ds env2, fzAll env1 os = some (ds, env2) ∧ sp none ds fun rv _ => ∃ d, rv = .dt d ∧ atomD d ∧ Q (.dv d) env1
theorem LE.callV {X : Cz} {sp : PSp} {T : PA'} {t : TA} {dvs : List V} {dds : List D} {E : XK} (hd : constsOk dvs dds) (l1 : LA X.fr t T) : LE X.fr (tCall (spOf X.fr false sp) dvs E t) (qCallV sp (qAddD T dds)) := fun C σ H F env Q Qp R kk q => by
  refine l1 C σ H F env _ _ R (fun vs H1 F1 env1 os s1 a1 q1 => ?_) q
  obtain ⟨ds, env2, e1, q1⟩ := q1
  obtain ⟨F2, s2, a2⟩ := fzAll_ok s1.rel (a1.app (hd X.fr F1)) e1
  refine ⟨F2, none, none, ds, vs ++ dvs, s2.rel.frz, a2, by rw [if_neg (by decide)]; exact ⟨rfl, rfl, rfl⟩, _, q1, fun v H' F' rv fl' pp qq => ?_⟩
  obtain ⟨d, rfl, ha, qq⟩ := qq
  have keep : ∀ b o, H1 b = some o → H' b = some o := fun b o h => pp.frame b o h (fun z => nomatch z)
  have R1 := s1.rel
  have st : Stp X.fr C σ H1 F1 env1 H' F1 env1 := by
    refine ⟨⟨⟨fun b o h => keep b o (R1.frz b o h), R1.mono, R1.new, fun b o h n => keep b o (R1.frame b o h n), fun a h => ?_, R1.len, fun i sv e => ?_, R1.dist⟩, R1.xok⟩, Le.rfl', fun b o h _ => keep b o h, fun b o h => .inl h, fun i l ds h => ⟨ds, h⟩, fun b h => ?_⟩
    · obtain ⟨⟨xs, e⟩, f, g⟩ := R1.la a h
      exact ⟨⟨xs, keep a _ e⟩, f, g⟩
    · have q := R1.slot i sv e
      cases sv with
      | un => trivial
      | raw z => exact q
      | dat d => exact q
      | obj l ds =>
        obtain ⟨r, xs, e1, e2, e3, e4, e5⟩ := q
        exact ⟨r, xs, e1, keep r _ e2, e3, e4, e5⟩
    · cases q : H1 b with
      | none => rfl
      | some u =>
        rw [keep b u q] at h; cases h
  exact kk v H' F1 env1 (.dv d) (s1.trans st) (At.atom ha pp.res) qq
theorem q_calV {X : Cz} {k j : Nat} {ps : List Str} {sp : PSp} {x : Str} {e : Expr} {es : List Expr} {T : PA'} {p pos : Pos} {dds : List D} (c : Cal X.prog X.w X.fr X.mg X.base k x false ps dds sp) (hr : Room j X.A) (hkj : k ≤ j) (hg : Gl X x) (ha : EA X (e :: es) T) (hdb : (x == ("__debug__" : Str)) = false := by decide) (he : starEach (e :: es) X.env = (false, eval e X.env) :: starEach es X.env := by rfl) (hpl : (backTo pos (starEach es X.env)).any (·.1) = false := by rfl) :
    EV X (.Call (.Name x p) (e :: es) [] pos) (qCallV sp (qAddD T dds)) := by
  obtain ⟨f, fd, dvs, ds, h1, h2, h3, h4, h5, h6⟩ := c.ex
  obtain ⟨t, g1, l1⟩ := ha.ex
  exact ⟨_, pe_call h1 (hr.mono hkj) hg h2 h3 h4 h5 pass0 g1 hdb he hpl, LE.callV h6 l1⟩
theorem ex_dt {d : D} {P : D → Prop} : (∃ d', RV.dt d = RV.dt d' ∧ P d') ↔ P d := ⟨fun ⟨_, e, h⟩ => by cases e; exact h, fun h => ⟨d, rfl, h⟩⟩
theorem ex_fr {ds : List D} {P : List D → Prop} : (∃ es, RV.fr ds = RV.fr es ∧ P es) ↔ P ds := ⟨fun ⟨_, e, h⟩ => by cases e; exact h, fun h => ⟨ds, rfl, h⟩⟩
theorem ex_frL {fd ds : List D} {P : List D → List D → Prop} : (∃ fd' es, some fd = some fd' ∧ RV.fr ds = RV.fr es ∧ P fd' es) ↔ P fd ds := ⟨fun ⟨_, _, e, e2, h⟩ => by cases e; cases e2; exact h, fun h => ⟨fd, ds, rfl, rfl, h⟩⟩
theorem atom_b {b : Bool} : atomD (.bool b) ↔ True := Iff.rfl
theorem atom_i {b : Int} : atomD (.int b) ↔ True := Iff.rfl
theorem atom_s {b : Str} : atomD (.str b) ↔ True := Iff.rfl
theorem atom_n : atomD .none ↔ True := Iff.rfl
end Sw
namespace Sw
open PySem PySem.Spec L2
theorem ex_tupv {a : List D} {P : List D → Prop} : (∃ ds, PyData.tuple a = .tuple ds ∧ P ds) ↔ P a := ⟨fun ⟨_, e, h⟩ => by cases e; exact h, fun h => ⟨a, rfl, h⟩⟩
theorem ex_consv {a : D} {b : List D} {P : D → List D → Prop} : (∃ d r, a :: b = d :: r ∧ P d r) ↔ P a b := ⟨fun ⟨_, _, e, h⟩ => by cases e; exact h, fun h => ⟨a, b, rfl, h⟩⟩
end Sw

set_option Elab.async false
set_option linter.all false
set_option maxRecDepth 100000
namespace Sw
open PySem PySem.Spec L2
/-! ### the law's def: its first statement makes the flow out of the script -/
abbrev rLstF (K : FgK) : List V → Hp → VK → Prop := fun xs H Q => ∃ p ys, xs = [V.ref p] ∧ (SqL K H p ys ∨ SqT K H p ys) ∧ ∀ l, H l = none → Q (.ref l) (upd H l (.lst ys))
def t_flow (K : FgK) : TS := tRet (tLst (tCons (tCB (rLstF K) (tCons (tVar 0) tNil)) (tCons (tC (.int 0)) (tCons (tC (.int 0)) (tCons (tC (.int 1)) (tCons (tC (.int 0)) tNil))))))
def spFlow (K : FgK) : Sp := fun vs H Q _ => ∃ (a : Addr) (xs : List V), vs = [.ref a] ∧ SqL K H a xs ∧ ∀ c p, p ≠ c → Q (.ref p) (upd (upd H c (.lst xs)) p (.lst [.ref c, .int 0, .int 0, .int 1, .int 0]))
theorem pure_flow {K : FgK} (vs : List V) (H : Hp) (Q : VK) (E : XK) (h : spFlow K vs H Q E) : t_flow K { nx := fun _ H' => Q .non H', rt := Q } (start ["_law_script"] vs) H := by
  obtain ⟨a, xs, rfl, hs, k⟩ := h
  refine ⟨_, rfl, a, xs, rfl, .inl hs, fun c hc => ?_⟩
  refine ⟨by rw [sizeLine_eq]; simp, fun p hp => ?_⟩
  refine k c p ?_
  rintro rfl
  rw [upd_same] at hp
  cases hp
theorem len_flow {K : FgK} (vs : List V) (H : Hp) (Q : VK) (E : XK) (h : spFlow K vs H Q E) : vs.length = 1 := by
  obtain ⟨a, xs, rfl, _⟩ := h
  rfl
/-- what a law promises -/
def spLaw (K : FgK) : Sp := fun vs H Q _ => ∃ (a : Addr) (ns : List Int), vs = [.ref a] ∧ ns.length ≤ 63 ∧ SqL K H a (ns.map V.int) ∧ ∀ H', Q (.bl true) H'
abbrev flow0 (ns : List Int) : List D := [.list (ns.map .int), .int 0, .int 0, .int 1, .int 0]
theorem at_ints {K : FgK} {F : Hp} : ∀ ns : List Int, AtAll K F (ns.map PyData.int) (ns.map V.int)
  | [] => AtAll.nil
  | n :: r => AtAll.cons (by simp [At]) (at_ints r)
theorem law_start {K : FgK} {H : Hp} {ns : List Int} {c p a : Addr} (hpc : p ≠ c) (N : List Str) (hN : 2 ≤ N.length) :
    RelB K ⟨fun _ => none, fun _ => none, none⟩ ((start N [.ref a]).set 1 (some (.ref p))) (upd (upd H c (.lst (ns.map V.int))) p (.lst [.ref c, .int 0, .int 0, .int 1, .int 0])) (upd (fun _ => none) c (.lst (ns.map V.int)))
      (SV.un :: SV.own false (flow0 ns) :: List.replicate (N.length - 2) SV.un) := by
  obtain ⟨n, e⟩ : ∃ n, N.length = n + 2 := ⟨N.length - 2, by omega⟩
  have es : (start N [.ref a]).set 1 (some (.ref p)) = some (.ref a) :: some (.ref p) :: List.replicate n none := by
    unfold L2.start
    rw [e]
    show List.set (some (V.ref a) :: List.replicate (n + 1) none) 1 _ = _
    rw [List.replicate_succ]
    rfl
  rw [es, e, Nat.add_sub_cancel]
  have own : ∀ (i : Nat) (l : Bool) (ds : Ct), (SV.un :: SV.own false (flow0 ns) :: List.replicate n SV.un)[i]? = some (SV.obj l ds) → i = 1 ∧ l = false ∧ ds = .lst (flow0 ns) := fun i l ds h => by
    match i, h with
    | 0, h => cases h
    | 1, h => cases h; exact ⟨rfl, rfl, rfl⟩
    | i + 2, h =>
      have h : (List.replicate n SV.un)[i]? = some (SV.obj l ds) := h
      have := (List.mem_replicate.mp (List.mem_of_getElem? h)).2
      cases this
  refine ⟨fun b o h => ?_, fun b o h => (nomatch h), fun b o h => .inr rfl, fun b o h => (nomatch h), fun a h => (nomatch h), by simp, fun i sv h => ?_, fun i j l ds m es h1 h2 _ => ?_⟩
  · by_cases eb : b = c
    · subst eb
      rw [upd_same] at h
      cases h
      rw [upd_ne hpc.symm, upd_same]
    · rw [upd_ne eb] at h
      cases h
  · cases sv with
    | un => trivial
    | raw z =>
      match i, h with
      | 0, h => cases h
      | 1, h => cases h
      | i + 2, h =>
        have h : (List.replicate n SV.un)[i]? = some (SV.raw z) := h
        have := (List.mem_replicate.mp (List.mem_of_getElem? h)).2
        cases this
    | dat d =>
      match i, h with
      | 0, h => cases h
      | 1, h => cases h
      | i + 2, h =>
        have h : (List.replicate n SV.un)[i]? = some (SV.dat d) := h
        have := (List.mem_replicate.mp (List.mem_of_getElem? h)).2
        cases this
    | obj l ds =>
      obtain ⟨rfl, rfl, rfl⟩ := own i l ds h
      refine ⟨p, _, rfl, upd_same, ?_, rfl, ?_⟩
      · rw [upd_ne hpc]
      · refine ⟨_, rfl, ?_⟩
        refine AtAll.cons ?_ (AtAll.cons (by simp [At]) (AtAll.cons (by simp [At]) (AtAll.cons (by simp [At]) (AtAll.cons (by simp [At]) AtAll.nil))))
        simp only [At]
        exact ⟨c, _, rfl, upd_same, at_ints ns⟩
  · rw [(own i l ds h1).1, (own j m es h2).1]
theorem law_ends {K : FgX} {C : Ec} {F : Hp} {Q : VK} (k : ∀ H', Q (.bl true) H') : EndsOk K C F { nx := fun _ H' => Q .non H', rt := Q } (endsOf false fun rv _ => rv = .dt (.bool true)) := by
  refine ⟨fun σ' H' F' env' R l h => ?_, fun σ' H' F' env' rv v R l hv h => ?_, fun σ' H' F' env' R l h => h.elim, fun σ' H' F' env' R l h => h.elim⟩
  · obtain ⟨fl, _, h⟩ := h
    cases h
  · obtain ⟨fl, _, rfl⟩ := h
    have hv : At K F' (.bool true) v := hv
    simp only [At] at hv
    subst hv
    exact k H'
section
variable {P : Program} {w : World} {K : PySem.W.Frag} {mg : Str → Option Value} {base : Heap}
theorem law_ok {x qual y : Str} {params : Arguments} {st : Stmt} {rest : List Stmt} {scope : Scope} {f : Addr} {fd : FuncData} {N : List Str} {k : Nat} {T : PS'} (F : FunD K x qual params (st :: rest) scope [] [] f fd) (S : FnScope N [y] scope) (hN : 2 ≤ N.length)
    (hbody : ∀ (cdv : Value) (A : Around) (outer : List Env) (s : Shared) (H : Hp) (E : XK), Room k (A.deeper (PyProof.Rows.envOfC qual scope s.heap.objs.size f cdv)) →
      PS (cxOf CX0 P w K mg base N qual scope f cdv A outer s H E).nox st (tAsg (tCall (spFlow ⟨K, P, w⟩) [] E0 (tCons (tVar 0) tNil)) (gName 1)) ∧ EB (of0 (cxOf CX0 P w K mg base N qual scope f cdv A outer s H E).nox) rest T)
    (hT : ∀ ns : List Int, ns.length ≤ 63 → T (endsOf false fun rv _ => rv = .dt (.bool true)) (SV.un :: SV.own false (flow0 ns) :: List.replicate (N.length - 2) SV.un)) : FnOk P w K mg base CX0 (k + 1) f fd [y] (spLaw ⟨K, P, w⟩) := by
  refine F.ok S (fun vs H Q E h => ?_) (fun cdv A outer s H vs Q E hr h => ?_)
  · obtain ⟨a, ns, rfl, _⟩ := h
    rfl
  · obtain ⟨a, ns, rfl, hl, hs, hQ⟩ := h
    obtain ⟨h1, h2⟩ := hbody cdv A outer s H E hr
    obtain ⟨t, g1, l1⟩ := h2.ex
    refine ⟨_, PSs.nox (pss_cons h1 g1), ?_⟩
    refine ⟨V.ref a, ?_, a, ns.map V.int, rfl, hs, fun c p hpc => ?_⟩
    · unfold L2.start
      rfl
    · exact l1 _ _ _ _ _ _ _ ⟨law_start hpc N hN, xok_no rfl⟩ (law_ends hQ) (hT ns hl)
end
end Sw

set_option Elab.async false
set_option linter.all false
set_option maxRecDepth 100000
namespace Sw
open PySem PySem.Spec L2 PyProof.Rows
/-! ### data in order -/
def noneD : D → Bool
  | .none => true
  | _ => false
def cmpOk (a b : D) : Bool := okD a && (okD b && (W.alike a b && !noneD a))
def leD (a b : D) : Bool := !W.dataLt b a
def tup1 : D → Bool
  | .tuple (_ :: _) => true
  | _ => false
def noTup : D → Bool
  | .tuple _ => false
  | d => !noneD d
def okSort (ds : List D) : Bool := ds.all okD && (ds.all (fun d => ds.all fun e => W.alike d e) && (ds.all tup1 || ds.all noTup))
def srtD (ds : List D) : List D := ds.mergeSort leD
theorem cmpOk_spec {a b : D} (h : cmpOk a b = true) : okD a = true ∧ okD b = true ∧ W.alike a b = true ∧ a ≠ .none := by
  unfold cmpOk at h
  obtain ⟨h1, h⟩ := Bool.and_eq_true_iff.mp h
  obtain ⟨h2, h⟩ := Bool.and_eq_true_iff.mp h
  obtain ⟨h3, h⟩ := Bool.and_eq_true_iff.mp h
  refine ⟨h1, h2, h3, ?_⟩
  rintro rfl
  cases h
theorem okSort_spec {ds : List D} (h : okSort ds = true) : (∀ d ∈ ds, okD d = true) ∧ W.AllAlike ds ∧ W.Sortable ds := by
  unfold okSort at h
  obtain ⟨h1, h⟩ := Bool.and_eq_true_iff.mp h
  obtain ⟨h2, h⟩ := Bool.and_eq_true_iff.mp h
  refine ⟨List.all_eq_true.mp h1, fun d hd e he => List.all_eq_true.mp (List.all_eq_true.mp h2 d hd) e he, ?_⟩
  rcases Bool.or_eq_true_iff.mp h with h | h
  · refine .inl fun d hd => ?_
    have := List.all_eq_true.mp h d hd
    unfold tup1 at this
    split at this
    · exact ⟨_, _, rfl⟩
    · cases this
  · refine .inr fun d hd => ?_
    have := List.all_eq_true.mp h d hd
    constructor
    · rintro rfl
      cases this
    · rintro xs rfl
      cases this
section
variable {X : Cz}
/-! ### < of data -/
def rLtD (K : FgK) : R2 := fun x y H Q => ∃ d e, Dp K H x d ∧ Dp K H y e ∧ cmpOk d e = true ∧ Q (.bl (W.dataLt d e)) H
theorem op_ltD (hu : X.A.units + 64 < cLine) : OpR X (compareOp .Lt) (rLtD X.fr) := by
  intro pins s σ H x y v u Q I rx ry h
  obtain ⟨d, e, hd, he, hc, q⟩ := h
  obtain ⟨h1, h2, h3, h4⟩ := cmpOk_spec hc
  obtain ⟨as, r1⟩ := Dp.reads I d x v hd rx
  obtain ⟨bs, r2⟩ := Dp.reads I e y u he ry
  have z1 := okD_depth h1
  have z2 := Nat.min_le_left d.depth e.depth
  exact W.lt_data r1 r2 h3 h4 (by omega) ⟨.bl _, H, I, rfl, q⟩
/-! ### sorted -/
abbrev zipSort (xs : List V) (ds : List D) : List (V × D) := (xs.zip ds).mergeSort fun p q => leD p.2 q.2
def rSortedD (K : FgK) : List V → Hp → VK → Prop := fun vs H Q => ∃ (a : Addr) (xs : List V) (ds : List D), vs = [V.ref a] ∧ SqL K H a xs ∧ DpAll K H xs ds ∧ okSort ds = true ∧
  ∀ p, H p = none → Q (.ref p) (upd H p (.lst ((zipSort xs ds).map Prod.fst)))
theorem zip_each {R : Value → D → Prop} : ∀ {xs : List V} {its : List Value} {ds : List D}, Vals xs its → W.EachIs R its ds → W.EachIs (fun v (b : V × D) => RelV b.1 v ∧ R v b.2) its (xs.zip ds)
  | _, _, _, .nil, .nil => .nil
  | _, _, _, .cons r q, .cons a b => .cons ⟨r, a⟩ (zip_each q b)
theorem dp_len {K : FgK} {H : Hp} : ∀ {xs : List V} {ds : List D}, DpAll K H xs ds → xs.length = ds.length
  | _, _, .nil => rfl
  | _, _, .cons _ r => by rw [List.length_cons, List.length_cons, dp_len r]
theorem each_vals : ∀ {out : List Value} {bs : List (V × D)}, W.EachIs (fun v (b : V × D) => RelV b.1 v) out bs → Vals (bs.map Prod.fst) out
  | _, _, .nil => .nil
  | _, _, .cons a r => .cons a (each_vals r)
theorem cr_sortedD (hu : X.A.units + 64 < cLine) : CallR X (.builtin "sorted") (rSortedD X.fr) := by
  intro pins s σ H vs us Q I r h
  obtain ⟨a, xs, ds, rfl, hs, hd, ho, q⟩ := h
  obtain ⟨o1, o2, o3⟩ := okSort_spec ho
  obtain ⟨its, rv, hl, hz⟩ := I.list hs
  obtain ⟨u, rfl, ru⟩ := vals1 r
  obtain rfl : u = Value.ref a := ru
  obtain ⟨as, rr⟩ := Dp.readsAll I ds xs its hd rv
  have len := dp_len hd
  have e0 : W.EachIs (fun v d => ∃ as, Reads s.heap v d as) its ds := W.readsAll_each (enc := fun d => d) (by rw [List.map_id']; exact rr)
  have e1 := zip_each rv e0
  have es : (xs.zip ds).map Prod.snd = ds := List.map_snd_zip (Nat.le_of_eq len.symm)
  refine W.sorted_data (enc := Prod.snd) (R := fun v (b : V × D) => RelV b.1 v) hl.isList (e1.mono fun _ _ h => h.1) (e1.mono fun _ _ h => h.2) (by rw [es]; exact o2) (by rw [es]; exact o3) ?_ (fun b hb => ?_) fun out hlen ho => ?_
  · rw [List.length_zip, ← len, Nat.min_self]
    exact hz
  · have : b.2 ∈ ds := (List.of_mem_zip hb).2
    have := okD_depth (o1 _ this)
    omega
  · obtain ⟨n, hn⟩ := sortedAll_at s.heap its (List.toArray out)
    have hd' : s.heap.objs.size ≤ s.heap.objs.size + 1 := Nat.le_succ _
    refine ⟨.ref (s.heap.objs.size + 1), upd H (s.heap.objs.size + 1) (.lst ((zipSort xs ds).map Prod.fst)), I.laid (t' := s.toks) (fun b o e => sortedAll_old e) hd' ⟨?_, out, n, each_vals ho, hn⟩, rfl, q _ (I.hok.fresh hd')⟩
    rw [List.length_map, List.length_mergeSort, List.length_zip, ← len, Nat.min_self]
    exact hz
end
section
variable {prog : Program} {w : World} {A : Around} {E : Value → Shared → Prop} {s : Shared}
/-! ### min, max of two -/
theorem two_tuple (h : Heap) (a b : Value) : (h.push { cls := .type "tuple", data := .seq #[a, b] }).IsTuple h.objs.size #[a, b] := ⟨_, Heap.get?_push_size _ rfl, rfl, 0, rfl⟩
theorem min2_data {a b : Value} {x y : D} {as : List Addr} {Q : Value → Shared → Prop} (hh : A.handled = none) (rr : ReadsAll s.heap [a, b] [x, y] as) (ha : W.AlikeAll [x, y]) (hu : A.units + 1 + PyData.depthAll [x, y] < cLine)
    (h : ∀ h' tk, (∀ c o, s.heap.get? c = some o → h'.get? c = some o) → Q (if W.dataLt y x = true then b else a) { s with heap := h', toks := tk }) : wpAny (model prog w) A (call (.builtin "min") [a, b]) Q E s := by
  have loopName : (toString "min" ++ toString ".loop" : String) = "min.loop" := by decide
  refine call_function_tree F.kind_min F.plain_min F.entry_min (F.args_min2 _ _) ?_
  show wpAny _ A.in1 (Builtin.Builtins.bindParams "min" _ 0 _ >>= _) _ _ s
  refine wpAny_bind (wpAny_of_eq (show _ = pure [none, none] from rfl) ?_)
  refine wpAny_bind (wpAny_newObj_type ?_)
  have old : ∀ c o, s.heap.get? c = some o → (s.heap.push { cls := .type "tuple", data := .seq #[a, b] }).get? c = some o := fun c o e => Heap.get?_push_of_some _ e
  refine wpAny_bind (W.iter_tupleW (A := A.in1) hh (two_tuple s.heap a b) fun s₂ e Wk st hfp hw hk => ?_)
  refine wpAny_bind (wpAny_newObj_type ?_)
  have hS : s₂.heap.objs.size ∉ [(s.heap.push { cls := .type "tuple", data := .seq #[a, b] }).objs.size, s.heap.objs.size] := fun hm => Nat.lt_irrefl _ (hfp _ hm)
  rw [loopName]
  have hcmp := W.cmpIn_lt (prog := prog) (w := w) (A := A.in1) (s := s) (vs := #[a, b]) rr ha hu
  refine wpAny_pure ⟨plainId_quiet F.plain_min_loop _, codeAny_min_loop_firstH Wk s.heap (fun b o e => hw b o (old b o e)) _ hcmp s₂.heap.objs.size hS (fresh_in fun b o e => hk b o (old b o e)) _ (Nat.zero_lt_succ 1) (fun b o e => Heap.get?_push_of_some _ (hk b o (old b o e))) (Wk.frame 0 s₂ _ s₂.toks st (Nat.le_refl _) fun b _ o e => Heap.get?_push_of_some _ e) (Heap.get?_push_size _ rfl) fun v s' hP hm => ?_⟩
  obtain ⟨h', tk, rfl, hk'⟩ := W.moved_old (s := { s with heap := s.heap.push { cls := .type "tuple", data := .seq #[a, b] } }) e rfl (Moved.drop_new (tk := s₂.toks) hm (Nat.le_refl _))
  have hv : v = if W.dataLt y x = true then b else a := by
    by_cases c : W.dataLt y x = true
    · rw [if_pos c]
      have e1 : argBest (fun i j => W.dataLt ([x, y].getD i .none) ([x, y].getD j .none)) 1 = 1 := by
        show (if W.dataLt y x = true then 1 else 0) = 1
        rw [if_pos c]
      have hP : #[a, b][argBest (fun i j => W.dataLt ([x, y].getD i .none) ([x, y].getD j .none)) 1]? = some v := hP
      rw [e1] at hP
      exact (Option.some.inj hP).symm
    · rw [if_neg c]
      have e1 : argBest (fun i j => W.dataLt ([x, y].getD i .none) ([x, y].getD j .none)) 1 = 0 := by
        show (if W.dataLt y x = true then 1 else 0) = 0
        rw [if_neg c]
      have hP : #[a, b][argBest (fun i j => W.dataLt ([x, y].getD i .none) ([x, y].getD j .none)) 1]? = some v := hP
      rw [e1] at hP
      exact (Option.some.inj hP).symm
  rw [hv]
  exact h h' tk fun c o e => hk' c o (old c o e)
theorem max2_data {a b : Value} {x y : D} {as : List Addr} {Q : Value → Shared → Prop} (hh : A.handled = none) (rr : ReadsAll s.heap [a, b] [x, y] as) (ha : W.AlikeAll [x, y]) (hu : A.units + 1 + PyData.depthAll [x, y] < cLine)
    (h : ∀ h' tk, (∀ c o, s.heap.get? c = some o → h'.get? c = some o) → Q (if W.dataLt x y = true then b else a) { s with heap := h', toks := tk }) : wpAny (model prog w) A (call (.builtin "max") [a, b]) Q E s := by
  have loopName : (toString "max" ++ toString ".loop" : String) = "max.loop" := by decide
  refine call_function_tree F.kind_max F.plain_max F.entry_max (F.args_max2 _ _) ?_
  show wpAny _ A.in1 (Builtin.Builtins.bindParams "max" _ 0 _ >>= _) _ _ s
  refine wpAny_bind (wpAny_of_eq (show _ = pure [none, none] from rfl) ?_)
  refine wpAny_bind (wpAny_newObj_type ?_)
  have old : ∀ c o, s.heap.get? c = some o → (s.heap.push { cls := .type "tuple", data := .seq #[a, b] }).get? c = some o := fun c o e => Heap.get?_push_of_some _ e
  refine wpAny_bind (W.iter_tupleW (A := A.in1) hh (two_tuple s.heap a b) fun s₂ e Wk st hfp hw hk => ?_)
  refine wpAny_bind (wpAny_newObj_type ?_)
  have hS : s₂.heap.objs.size ∉ [(s.heap.push { cls := .type "tuple", data := .seq #[a, b] }).objs.size, s.heap.objs.size] := fun hm => Nat.lt_irrefl _ (hfp _ hm)
  rw [loopName]
  have hcmp := W.cmpIn_gt (prog := prog) (w := w) (A := A.in1) (s := s) (vs := #[a, b]) rr ha hu
  refine wpAny_pure ⟨plainId_quiet F.plain_max_loop _, codeAny_max_loop_firstH Wk s.heap (fun b o e => hw b o (old b o e)) _ hcmp s₂.heap.objs.size hS (fresh_in fun b o e => hk b o (old b o e)) _ (Nat.zero_lt_succ 1) (fun b o e => Heap.get?_push_of_some _ (hk b o (old b o e))) (Wk.frame 0 s₂ _ s₂.toks st (Nat.le_refl _) fun b _ o e => Heap.get?_push_of_some _ e) (Heap.get?_push_size _ rfl) fun v s' hP hm => ?_⟩
  obtain ⟨h', tk, rfl, hk'⟩ := W.moved_old (s := { s with heap := s.heap.push { cls := .type "tuple", data := .seq #[a, b] } }) e rfl (Moved.drop_new (tk := s₂.toks) hm (Nat.le_refl _))
  have hv : v = if W.dataLt x y = true then b else a := by
    by_cases c : W.dataLt x y = true
    · rw [if_pos c]
      have e1 : argBest (fun i j => W.dataLt ([x, y].getD j .none) ([x, y].getD i .none)) 1 = 1 := by
        show (if W.dataLt x y = true then 1 else 0) = 1
        rw [if_pos c]
      have hP : #[a, b][argBest (fun i j => W.dataLt ([x, y].getD j .none) ([x, y].getD i .none)) 1]? = some v := hP
      rw [e1] at hP
      exact (Option.some.inj hP).symm
    · rw [if_neg c]
      have e1 : argBest (fun i j => W.dataLt ([x, y].getD j .none) ([x, y].getD i .none)) 1 = 0 := by
        show (if W.dataLt x y = true then 1 else 0) = 0
        rw [if_neg c]
      have hP : #[a, b][argBest (fun i j => W.dataLt ([x, y].getD j .none) ([x, y].getD i .none)) 1]? = some v := hP
      rw [e1] at hP
      exact (Option.some.inj hP).symm
  rw [hv]
  exact h h' tk fun c o e => hk' c o (old c o e)
end
def noList : D → Bool
  | .list _ => false
  | .dict _ => false
  | _ => true
def twoOk (d e : D) : Bool := cmpOk d e && (cmpOk e d && (cmpOk d d && (cmpOk e e && (noList d && noList e))))
theorem twoOk_spec {d e : D} (h : twoOk d e = true) : okD d = true ∧ okD e = true ∧ W.AlikeAll [d, e] ∧ noList d = true ∧ noList e = true := by
  unfold twoOk at h
  obtain ⟨h1, h⟩ := Bool.and_eq_true_iff.mp h
  obtain ⟨h2, h⟩ := Bool.and_eq_true_iff.mp h
  obtain ⟨h3, h⟩ := Bool.and_eq_true_iff.mp h
  obtain ⟨h4, h⟩ := Bool.and_eq_true_iff.mp h
  obtain ⟨h5, h6⟩ := Bool.and_eq_true_iff.mp h
  obtain ⟨a1, a2, a3, a4⟩ := cmpOk_spec h1
  obtain ⟨b1, b2, b3, b4⟩ := cmpOk_spec h2
  obtain ⟨c1, c2, c3, c4⟩ := cmpOk_spec h3
  obtain ⟨d1, d2, d3, d4⟩ := cmpOk_spec h4
  refine ⟨a1, a2, ⟨fun x hx y hy => ?_, fun x hx => ?_⟩, h5, h6⟩
  · rcases List.mem_cons.mp hx with rfl | hx
    · rcases List.mem_cons.mp hy with rfl | hy
      · exact c3
      · rw [List.mem_singleton.mp hy]; exact a3
    · rw [List.mem_singleton.mp hx]
      rcases List.mem_cons.mp hy with rfl | hy
      · exact b3
      · rw [List.mem_singleton.mp hy]; exact d3
  · rcases List.mem_cons.mp hx with rfl | hx
    · exact a4
    · rw [List.mem_singleton.mp hx]; exact b4
theorem noList_vw {K : FgK} {H F : Hp} {d : D} {v : V} (h : noList d = true) (a : Vw K H F d v) : At K F d v := by
  cases d with
  | list ds => cases h
  | dict kds => cases h
  | _ => exact a
section
variable {X : Cz}
def rMin2D (K : FgK) : List V → Hp → VK → Prop := fun xs H Q => ∃ x y d e, xs = [x, y] ∧ Dp K H x d ∧ Dp K H y e ∧ twoOk d e = true ∧ Q (if W.dataLt e d = true then y else x) H
def rMax2D (K : FgK) : List V → Hp → VK → Prop := fun xs H Q => ∃ x y d e, xs = [x, y] ∧ Dp K H x d ∧ Dp K H y e ∧ twoOk d e = true ∧ Q (if W.dataLt d e = true then y else x) H
theorem two_depth {d e : D} (h1 : okD d = true) (h2 : okD e = true) : PyData.depthAll [d, e] ≤ 40 := by
  have := okD_depth h1
  have := okD_depth h2
  simp only [PyData.depthAll]
  omega
theorem call_min2D (hc : X.calm = true) (hu : X.A.units + 64 < cLine) : CallR X (.builtin "min") (rMin2D X.fr) := by
  intro pins s σ H xs us Q I r h
  obtain ⟨x, y, d, e, rfl, h1, h2, ho, q⟩ := h
  obtain ⟨u, v, rfl, ru, rv⟩ := vals2 r
  obtain ⟨o1, o2, o3, _, _⟩ := twoOk_spec ho
  obtain ⟨as, rr⟩ := Dp.readsAll I [d, e] [x, y] [u, v] (.cons h1 (.cons h2 .nil)) r
  have := two_depth o1 o2
  refine min2_data (I.ok.hd hc) rr o3 (by omega) fun h' tk k => ⟨_, H, I.kept k, ?_, q⟩
  by_cases c : W.dataLt e d = true
  · rw [if_pos c, if_pos c]; exact rv
  · rw [if_neg c, if_neg c]; exact ru
theorem call_max2D (hc : X.calm = true) (hu : X.A.units + 64 < cLine) : CallR X (.builtin "max") (rMax2D X.fr) := by
  intro pins s σ H xs us Q I r h
  obtain ⟨x, y, d, e, rfl, h1, h2, ho, q⟩ := h
  obtain ⟨u, v, rfl, ru, rv⟩ := vals2 r
  obtain ⟨o1, o2, o3, _, _⟩ := twoOk_spec ho
  obtain ⟨as, rr⟩ := Dp.readsAll I [d, e] [x, y] [u, v] (.cons h1 (.cons h2 .nil)) r
  have := two_depth o1 o2
  refine max2_data (I.ok.hd hc) rr o3 (by omega) fun h' tk k => ⟨_, H, I.kept k, ?_, q⟩
  by_cases c : W.dataLt d e = true
  · rw [if_pos c, if_pos c]; exact rv
  · rw [if_neg c, if_neg c]; exact ru
end
section
variable {K : FgX}
def gMin : List D → Option D
  | [a, b] => if twoOk a b = true then some (if W.dataLt b a = true then b else a) else none
  | _ => none
def gMax : List D → Option D
  | [a, b] => if twoOk a b = true then some (if W.dataLt a b = true then b else a) else none
  | _ => none
theorem l_min : LC K (rMin2D K) gMin := fun C σ H F env xs ds d Q R a e k => by
  unfold gMin at e
  split at e
  · split at e
    · rename_i ho
      cases e
      obtain ⟨x, y, rfl, w1, w2⟩ := a.two
      obtain ⟨o1, o2, o3, o4, o5⟩ := twoOk_spec ho
      refine ⟨x, y, _, _, rfl, w1.dp R.frz (okD_plain o1), w2.dp R.frz (okD_plain o2), ho, k _ H F (Stp.refl R) ?_⟩
      split
      · exact noList_vw o5 w2
      · exact noList_vw o4 w1
    · cases e
  · cases e
theorem l_max : LC K (rMax2D K) gMax := fun C σ H F env xs ds d Q R a e k => by
  unfold gMax at e
  split at e
  · split at e
    · rename_i ho
      cases e
      obtain ⟨x, y, rfl, w1, w2⟩ := a.two
      obtain ⟨o1, o2, o3, o4, o5⟩ := twoOk_spec ho
      refine ⟨x, y, _, _, rfl, w1.dp R.frz (okD_plain o1), w2.dp R.frz (okD_plain o2), ho, k _ H F (Stp.refl R) ?_⟩
      split
      · exact noList_vw o5 w2
      · exact noList_vw o4 w1
    · cases e
  · cases e
/-! sorted -/
def gSortD : List D → Option (List D)
  | [.list ds] => if okSort ds = true then some (srtD ds) else none
  | _ => none
theorem at_zip {F : Hp} : ∀ {ds : List D} {xs : List V}, AtAll K F ds xs → xs.length = ds.length ∧ ∀ p ∈ xs.zip ds, At K F p.2 p.1
  | [], xs, h => by
    simp only [AtAll] at h
    subst h
    exact ⟨rfl, fun p hp => nomatch hp⟩
  | d :: ds, xs, h => by
    simp only [AtAll] at h
    obtain ⟨x, r, rfl, a, q⟩ := h
    obtain ⟨h1, h2⟩ := at_zip q
    refine ⟨by rw [List.length_cons, List.length_cons, h1], fun p hp => ?_⟩
    rcases List.mem_cons.mp (show p ∈ (x, d) :: r.zip ds from hp) with rfl | hp
    · exact a
    · exact h2 p hp
theorem of_pairs {F : Hp} : ∀ {ps : List (V × D)}, (∀ p ∈ ps, At K F p.2 p.1) → AtAll K F (ps.map Prod.snd) (ps.map Prod.fst)
  | [], _ => AtAll.nil
  | p :: r, h => AtAll.cons (h p List.mem_cons_self) (of_pairs fun q hq => h q (List.mem_cons_of_mem _ hq))
theorem zipSort_snd {xs : List V} {ds : List D} (h : xs.length = ds.length) : (zipSort xs ds).map Prod.snd = srtD ds := by
  unfold zipSort srtD
  rw [W.sort_maps (r := fun p q : V × D => leD p.2 q.2) (s := leD) Prod.snd (fun _ _ _ _ => rfl), List.map_snd_zip (Nat.le_of_eq h.symm)]
theorem plain_of : ∀ {ds : List D}, (∀ d ∈ ds, okD d = true) → PyData.plainAll ds = true
  | [], _ => rfl
  | d :: r, h => by
    simp only [PyData.plainAll, okD_plain (h d List.mem_cons_self), Bool.true_and]
    exact plain_of fun x hx => h x (List.mem_cons_of_mem _ hx)
theorem okSort_plain {ds : List D} (h : okSort ds = true) : PyData.plainAll ds = true := plain_of (okSort_spec h).1
theorem l_sortD : LCF K (rSortedD K) gSortD := fun C σ H F env xs ds es Q R a e k => by
  unfold gSortD at e
  split at e
  · split at e
    · rename_i ho
      cases e
      obtain ⟨x, rfl, w⟩ := a.one
      obtain ⟨p, zs, rfl, e1, a2⟩ := w
      refine ⟨p, zs, _, rfl, SqL.of e1, AtAll.dp _ _ (okSort_plain ho) (AtAll.mono R.frz _ _ a2), ho, fun l hl => ?_⟩
      obtain ⟨s, f, h, n⟩ := R.alloc0 (o := .lst ((zipSort zs _).map Prod.fst)) hl
      refine k l _ F s f h n hl ?_
      obtain ⟨z1, z2⟩ := at_zip a2
      rw [← zipSort_snd z1]
      exact of_pairs fun q hq => z2 q ((List.mergeSort_perm _ _).mem_iff.mp hq)
    · cases e
  · cases e
end
/-! ### texts sorted -/
theorem okSort_strs (ys : List Str) : okSort (ys.map .str) = true := by
  have h1 : (ys.map PyData.str).all okD = true := List.all_eq_true.mpr fun x hx => by
    obtain ⟨y, _, rfl⟩ := List.mem_map.mp hx
    exact okD_of (okI_str y)
  have h2 : (ys.map PyData.str).all noTup = true := List.all_eq_true.mpr fun x hx => by
    obtain ⟨y, _, rfl⟩ := List.mem_map.mp hx
    rfl
  have h3 : ((ys.map PyData.str).all fun d => (ys.map PyData.str).all fun e => W.alike d e) = true := List.all_eq_true.mpr fun x hx => List.all_eq_true.mpr fun z hz => by
    obtain ⟨y, _, rfl⟩ := List.mem_map.mp hx
    obtain ⟨y2, _, rfl⟩ := List.mem_map.mp hz
    rfl
  unfold okSort
  rw [h1, h2, h3, Bool.or_true]
  rfl
theorem leD_str (a b : Str) : leD (.str a) (.str b) = !ltS b a := by
  have h := congrFun (congrFun (W.dataLe_str (fun b : Str => b)) a) b
  have h : leD (.str a) (.str b) = decide (a.cps.toList ≤ b.cps.toList) := h
  rw [h]
  unfold ltS
  by_cases c : b.cps.toList < a.cps.toList
  · rw [decide_eq_true c, decide_eq_false fun z => z c]
    rfl
  · rw [decide_eq_false c]
    exact decide_eq_true (show a.cps.toList ≤ b.cps.toList from c)
theorem srtD_strs (ys : List Str) : srtD (ys.map .str) = (sortS ys).map .str := by
  unfold srtD
  rw [← W.sort_maps (r := fun a b : Str => !ltS b a) (s := leD) PyData.str fun a _ b _ => (leD_str a b).symm]
  congr 1
  refine sortS_of (List.mergeSort_perm _ _) ?_
  have tot : W.TotalLe fun a b : Str => !ltS b a := ⟨fun a b c h g => ?_, fun a b => ?_⟩
  · refine (W.sort_pairwise tot ys).imp fun {a b} h => ?_
    simpa [leS] using h
  · have h : leS a b := by simpa [leS] using h
    have g : leS b c := by simpa [leS] using g
    have := leS_tr h g
    simpa [leS] using this
  · cases q : ltS b a with
    | false => exact .inl rfl
    | true => exact .inr (by rw [ltS_as q]; rfl)
theorem gSortD_s {ys : List Str} : gSortD [.list (ys.map .str)] = some ((sortS ys).map .str) := by
  show (if okSort (ys.map PyData.str) = true then some (srtD (ys.map PyData.str)) else none) = _
  rw [if_pos (okSort_strs ys), srtD_strs]
end Sw

set_option Elab.async false
set_option linter.all false
set_option maxRecDepth 100000
namespace Sw
open PySem PySem.Spec L2
section
variable {X : Cz}
def qNeg (A : PE') : PE' := fun env Q => A env fun o env1 => ∃ i, o.rd env1 = some (.int i) ∧ Q (.dv (.int (-i))) env1
theorem q_neg {a : Expr} {A : PE'} {pos : Pos} (h : EV X a A) : EV X (.UnaryOp .USub a pos) (qNeg A) := by
  obtain ⟨t, h1, l1⟩ := h.ex
  refine ⟨_, pe_un un_neg h1, fun C σ H F env Q Qp R k q => ?_⟩
  refine l1 C σ H F env _ _ R (fun v H1 F1 env1 o s1 a1 q1 => ?_) q
  obtain ⟨i, e, q1⟩ := q1
  have w := rd_vw s1.rel a1 e
  exact ⟨i, w.int, k (.int (-i)) H1 F1 env1 (.dv (.int (-i))) s1 (by simp [OvOk, At]) q1⟩
end
/-- the slots' names do not matter -/
theorem pure_ren {M N : List Str} (h : M.length = N.length) {T : PS'} {l : Bool} {sp : PSp} (p : ∀ fl ds Q, (l = true ↔ fl ≠ none) → sp fl ds Q → T (endsOf l Q) (startE l N fl ds)) : ∀ fl ds Q, (l = true ↔ fl ≠ none) → sp fl ds Q → T (endsOf l Q) (startE l M fl ds) := fun fl ds Q a b => by
  have e : startE l M fl ds = startE l N fl ds := by
    unfold startE
    rw [h]
  rw [e]
  exact p fl ds Q a b
/-! ### the order of data -/
theorem leD_total : W.TotalLe leD := W.sortLe_total (PyProof.Rows.listOrd PyProof.Rows.itemOrd) false W.keyToks
theorem srtD_perm (ds : List D) : (srtD ds).Perm ds := List.mergeSort_perm _ _
theorem srtD_len (ds : List D) : (srtD ds).length = ds.length := (srtD_perm ds).length_eq
theorem srtD_pw (ds : List D) : (srtD ds).Pairwise fun a b => leD a b = true := W.sort_pairwise leD_total ds
mutual
theorem eq_of_eqv : ∀ x y : D, W.alike x y = true → PyData.eqv x y = true → x = y
  | .none, y, h, e => by cases y <;> simp_all [W.alike]
  | .bool a, y, h, e => by cases y <;> simp_all [W.alike, PyData.eqv]
  | .int a, y, h, e => by cases y <;> simp_all [W.alike, PyData.eqv]
  | .str a, y, h, e => by cases y <;> simp_all [W.alike, PyData.eqv]
  | .list xs, y, h, e => by
    cases y with
    | list ys => rw [eq_of_eqvAll xs ys (by simpa [W.alike] using h) (by simpa [PyData.eqv] using e)]
    | _ => simp [W.alike] at h
  | .tuple xs, y, h, e => by
    cases y with
    | tuple ys => rw [eq_of_eqvAll xs ys (by simpa [W.alike] using h) (by simpa [PyData.eqv] using e)]
    | _ => simp [W.alike] at h
  | .dict xs, y, h, e => by cases y <;> simp_all [W.alike]
theorem eq_of_eqvAll : ∀ xs ys : List D, W.alikeAll xs ys = true → PyData.eqvAll xs ys = true → xs = ys
  | [], ys, h, e => by cases ys <;> simp_all [PyData.eqvAll]
  | x :: xs, ys, h, e => by
    cases ys with
    | nil => simp [PyData.eqvAll] at e
    | cons y ys =>
      simp only [W.alikeAll, Bool.and_eq_true] at h
      simp only [PyData.eqvAll, Bool.and_eq_true] at e
      rw [eq_of_eqv x y h.1 e.1, eq_of_eqvAll xs ys h.2 e.2]
end
theorem leD_anti {x y : D} (h : W.alike x y = true) (h1 : leD x y = true) (h2 : leD y x = true) : x = y := by
  have h1 : W.dataLt y x = false := by simpa [leD] using h1
  have h2 : W.dataLt x y = false := by simpa [leD] using h2
  have e : W.keyToks x = W.keyToks y := PyProof.Rows.lex_total _ _ h2 h1
  cases q : PyData.eqv x y with
  | true => exact eq_of_eqv x y h q
  | false =>
    exfalso
    have := (W.toks_eqv x y h).2 q [] [.inl 0]
    rw [e, W.lex_pre, PyProof.Rows.lex_irrefl] at this
    cases this
/-- two orders of the same alike data: sorted the same -/
theorem perm_eq_mem {α : Type} {r : α → α → Prop} : ∀ {l m : List α}, (∀ a ∈ l, ∀ b ∈ l, r a b → r b a → a = b) → l.Perm m → l.Pairwise r → m.Pairwise r → l = m
  | [], m, _, p, _, _ => (List.nil_perm.mp p).symm
  | a :: l, [], _, p, _, _ => absurd p.symm (by simp)
  | a :: l, b :: m, anti, p, h1, h2 => by
    have hb0 : b ∈ a :: l := p.mem_iff.mpr List.mem_cons_self
    have hab : a = b := by
      by_cases e : a = b
      · exact e
      · have ha : a ∈ m := by
          rcases List.mem_cons.mp (p.mem_iff.mp (List.mem_cons_self (a := a) (l := l))) with z | z
          · exact absurd z e
          · exact z
        have hb : b ∈ l := by
          rcases List.mem_cons.mp hb0 with z | z
          · exact absurd z.symm e
          · exact z
        exact anti a List.mem_cons_self b hb0 ((List.pairwise_cons.mp h1).1 b hb) ((List.pairwise_cons.mp h2).1 a ha)
    subst hab
    rw [perm_eq_mem (fun x hx y hy => anti x (List.mem_cons_of_mem _ hx) y (List.mem_cons_of_mem _ hy)) (List.Perm.cons_inv p) (List.pairwise_cons.mp h1).2 (List.pairwise_cons.mp h2).2]
theorem srtD_eq {xs ys : List D} (ho : W.AllAlike xs) (p : ys.Perm xs) (hs : ys.Pairwise fun a b => leD a b = true) : ys = srtD xs :=
  perm_eq_mem (r := fun a b => leD a b = true) (fun a ha b hb h1 h2 => leD_anti (ho a (p.mem_iff.mp ha) b (p.mem_iff.mp hb)) h1 h2) (p.trans (srtD_perm xs).symm) hs (srtD_pw xs)
theorem srtD_congr {xs ys : List D} (ho : W.AllAlike xs) (p : ys.Perm xs) : srtD ys = srtD xs := srtD_eq ho ((srtD_perm ys).trans p) (srtD_pw ys)
theorem srtD_two (x y : D) : srtD [x, y] = if W.dataLt y x = true then [y, x] else [x, y] := by
  have h : srtD [x, y] = if leD x y = true then [x, y] else [y, x] := by
    unfold srtD
    simp [List.mergeSort, List.merge, List.MergeSort.Internal.splitInTwo]
  rw [h]
  unfold leD
  cases W.dataLt y x <;> rfl
end Sw

set_option Elab.async false
set_option linter.all false
set_option maxRecDepth 100000
namespace Sw
open PySem PySem.Spec L2
section
variable {X : Cz} {K : FgX}
/-! ### methods that only read -/
def tyD (T : String) : D → Prop
  | .str _ => T = "str"
  | .list _ => T = "list"
  | _ => False
def LMV (K : FgX) (r : V → List V → Hp → VK → Prop) (g : D → List D → Option D) : Prop := ∀ (C : Ec) (σ : L2.St) (H F : Hp) (env : List SV) (x : V) (xs : List V) (dx : D) (ds : List D) (d : D) (Q : VK), Rel K C σ H F env → Vw K H F dx x → VwAll K H F ds xs → g dx ds = some d →
  (∀ v H' F', Stp K C σ H F env H' F' env → At K F' d v → Q v H') → r x xs H Q
def LMF (K : FgX) (r : V → List V → Hp → VK → Prop) (g : D → List D → Option (List D)) : Prop := ∀ (C : Ec) (σ : L2.St) (H F : Hp) (env : List SV) (x : V) (xs : List V) (dx : D) (ds es : List D) (Q : VK), Rel K C σ H F env → Vw K H F dx x → VwAll K H F ds xs → g dx ds = some es →
  (∀ p ys F', (Stp K C σ H F env (upd H p (.lst ys)) F' env) → F' p = none → C.H0 p = none → ¬ Own σ env p → H p = none → AtAll K F' es ys → Q (.ref p) (upd H p (.lst ys))) → r x xs H Q
def qVM (T : String) (g : D → List D → Option D) (A : PE') (U : PA') : PE' := fun env Q => A env fun o env1 => (∃ d0, o.rd env1 = some d0 ∧ tyD T d0) ∧ U env1 fun os env2 => ∃ d, o.rd env2 = some d ∧ ∃ ds, rdAll env2 os = some ds ∧ ∃ r, g d ds = some r ∧ Q (.dv r) env2
def fVM (T : String) (g : D → List D → Option (List D)) (A : PE') (U : PA') : PF' := fun env Q => A env fun o env1 => (∃ d0, o.rd env1 = some d0 ∧ tyD T d0) ∧ U env1 fun os env2 => ∃ d, o.rd env2 = some d ∧ ∃ ds, rdAll env2 os = some ds ∧ ∃ r, g d ds = some r ∧ Q r env2
theorem ty_vw {T : String} {H F : Hp} {d : D} {v : V} (h : tyD T d) (a : Vw K H F d v) : tyV K T v H := by
  cases d with
  | str z =>
    have a : At K F (.str z) v := a
    simp only [At] at a
    subst a
    exact h
  | list ds =>
    obtain ⟨p, xs, rfl, e, _⟩ := a
    exact .inl ⟨h, xs, SqL.of e⟩
  | _ => exact h.elim
theorem q_vm {T id : String} {r : V → List V → Hp → VK → Prop} {g : D → List D → Option D} {name : Str} {a e : Expr} {es : List Expr} {A : PE'} {U : PA'} {apos cpos : Pos} (hl : LMV X.fr r g) (pa : PlainAttrs T) (slot : Slot T name id) (hty : typeOf (.builtin id) = pure (.type "method_descriptor")) (hm : MtR X id r)
    (ha : EV X a A) (hu : EA X (e :: es) U) (hbase : attributeBase a name X.env (eval a X.env) = eval a X.env := by rfl)
    (hfew : ((backTo cpos (starEach (e :: es) X.env)).all (fun x => !x.1) && (backToKw cpos (keywordEach [] X.env)).all (fun x => x.1.isSome)
      && decide ((e :: es).length + ([] : List Keyword).length + (if ([] : List Keyword).isEmpty then 0 else 1) < 30)) = true := by rfl)
    (hline : (apos.endLine == cpos.line) = true := by rfl) (hs : starEach (e :: es) X.env = (false, eval e X.env) :: starEach es X.env := by rfl) (hplain : (backTo cpos (starEach es X.env)).any (·.1) = false := by rfl) :
    EV X (.Call (.Attribute a name apos) (e :: es) [] cpos) (qVM T g A U) := by
  obtain ⟨t, h1, l1⟩ := ha.ex
  obtain ⟨u, h2, l2⟩ := hu.ex
  refine ⟨_, pe_bm pa slot hty hm h1 h2 hbase hfew hline hs hplain, fun C σ H F env Q Qp R k q => ?_⟩
  refine l1 C σ H F env _ _ R (fun v H1 F1 env1 o s1 a1 q1 => ?_) q
  obtain ⟨⟨d0, e0, ht⟩, q1⟩ := q1
  refine ⟨ty_vw ht (rd_vw s1.rel a1 e0), ?_⟩
  refine l2 C σ H1 F1 env1 _ _ s1.rel (fun vs H2 F2 env2 os s2 a2 q2 => ?_) q1
  obtain ⟨d, e1, ds, e2, r, e3, q2⟩ := q2
  exact hl C σ H2 F2 env2 v vs d ds r Q s2.rel (rd_vw s2.rel (a1.mono s2.ff) e1) (rdAll_vw s2.rel a2 e2) e3 fun v H' F' s3 a3 => k v H' F' env2 (.dv r) ((s1.trans s2).trans s3) a3 q2
theorem f_vm {T id : String} {r : V → List V → Hp → VK → Prop} {g : D → List D → Option (List D)} {name : Str} {a e : Expr} {es : List Expr} {A : PE'} {U : PA'} {apos cpos : Pos} (hl : LMF X.fr r g) (pa : PlainAttrs T) (slot : Slot T name id) (hty : typeOf (.builtin id) = pure (.type "method_descriptor")) (hm : MtR X id r)
    (ha : EV X a A) (hu : EA X (e :: es) U) (hbase : attributeBase a name X.env (eval a X.env) = eval a X.env := by rfl)
    (hfew : ((backTo cpos (starEach (e :: es) X.env)).all (fun x => !x.1) && (backToKw cpos (keywordEach [] X.env)).all (fun x => x.1.isSome)
      && decide ((e :: es).length + ([] : List Keyword).length + (if ([] : List Keyword).isEmpty then 0 else 1) < 30)) = true := by rfl)
    (hline : (apos.endLine == cpos.line) = true := by rfl) (hs : starEach (e :: es) X.env = (false, eval e X.env) :: starEach es X.env := by rfl) (hplain : (backTo cpos (starEach es X.env)).any (·.1) = false := by rfl) :
    EF X (.Call (.Attribute a name apos) (e :: es) [] cpos) (fVM T g A U) := by
  obtain ⟨t, h1, l1⟩ := ha.ex
  obtain ⟨u, h2, l2⟩ := hu.ex
  refine ⟨_, pe_bm pa slot hty hm h1 h2 hbase hfew hline hs hplain, fun C σ H F env Q Qp R k q => ?_⟩
  refine l1 C σ H F env _ _ R (fun v H1 F1 env1 o s1 a1 q1 => ?_) q
  obtain ⟨⟨d0, e0, ht⟩, q1⟩ := q1
  refine ⟨ty_vw ht (rd_vw s1.rel a1 e0), ?_⟩
  refine l2 C σ H1 F1 env1 _ _ s1.rel (fun vs H2 F2 env2 os s2 a2 q2 => ?_) q1
  obtain ⟨d, e1, ds, e2, r, e3, q2⟩ := q2
  exact hl C σ H2 F2 env2 v vs d ds r Q s2.rel (rd_vw s2.rel (a1.mono s2.ff) e1) (rdAll_vw s2.rel a2 e2) e3 fun p ys F' s3 f h n hn ay => k p ys r _ F' env2 ((s1.trans s2).trans s3) upd_same f h n (s1.dm p (s2.dm p hn)) ay q2
/-! ### text methods -/
def gStripC : D → List D → Option D
  | .str a, [.str b] => if a.length ≤ sizeLine then some (.str (Txt.stripChars a b)) else none
  | _, _ => none
theorem l_stripC : LMV K (fun x xs H Q => ∃ a b, x = V.str a ∧ xs = [.str b] ∧ a.length ≤ sizeLine ∧ Q (.str (Txt.stripChars a b)) H) gStripC := fun C σ H F env x xs dx ds d Q R a b e k => by
  unfold gStripC at e
  split at e
  · split at e
    · cases e
      obtain ⟨y, rfl, w⟩ := b.one
      rw [a.str, w.str]
      exact ⟨_, _, rfl, rfl, ‹_›, k _ H F (Stp.refl R) (by simp [At])⟩
    · cases e
  · cases e
/-! ### l.index(x) -/
def gIndex : D → List D → Option D
  | .list ds, [d] => if SeqAt.shaped (.list ds) = true ∧ SeqAt.shaped d = true then (ds.findIdx? fun z => PyData.eqv z d).map fun j => .int (j : Nat) else none
  | _, _ => none
theorem l_index : LMV K (rIndexD K) gIndex := fun C σ H F env x xs dx ds d Q R a b e k => by
  unfold gIndex at e
  split at e
  · rename_i es dd
    split at e
    · rename_i ho
      cases q : es.findIdx? (fun z => PyData.eqv z dd) with
      | none => rw [q] at e; cases e
      | some j =>
        rw [q] at e
        cases e
        obtain ⟨y, rfl, w⟩ := b.one
        obtain ⟨p, ys, rfl, e1, a2⟩ := a
        have hp1 : PyData.plainAll es = true := PyData.plainAll_of_canLay0 _ (SeqAt.canLay_of_shaped ho.1)
        have hp2 : dd.plain = true := PyData.plain_of_canLay0 _ (SeqAt.canLay_of_shaped ho.2)
        obtain ⟨hj, h1, h2⟩ := List.findIdx?_eq_some_iff_getElem.mp q
        refine ⟨p, y, dd, es, j, es[j], rfl, rfl, .lst (SqL.of e1) (AtAll.dp _ _ hp1 (AtAll.mono R.frz _ _ a2)), w.dp R.frz hp2, ho.1, ho.2, List.getElem?_eq_getElem hj, h1, fun m z hm hz => ?_, k _ H F (Stp.refl R) (by simp [At])⟩
        have hml : m < es.length := by omega
        rw [List.getElem?_eq_getElem hml] at hz
        cases hz
        simpa using h2 m hm
    · cases e
  · cases e
end
end Sw

set_option Elab.async false
set_option linter.all false
set_option maxRecDepth 100000
/-! sorted(xs, key=f), f a def of the program: the calls may make tracked things -/
namespace Sw
open PySem PySem.Spec PySem.Calls PyProof.Rows
section
variable {prog : Program} {w : World} {A : Around} {E : Value → Shared → Prop} {s : Shared} {a kS : Addr} {b : Bool} {vs : List Value} {keys : Array Value} {e e1 : Nat} {P : PySem.Fin → Shared → Prop}
/-- what stood at other places than these two stands; they are written one behind the other -/
abbrev But2 (a c : Addr) (h h' : Heap) : Prop := ∃ g : Heap, (∀ x o, x ≠ c → h.get? x = some o → g.get? x = some o) ∧ ∀ x o, x ≠ a → g.get? x = some o → h'.get? x = some o
theorem kTail {st : SortSt} {out : List Value} (nk : s.heap.get? kS = some (seqObj "list" keys e)) (na : s.heap.get? a = some (seqObj "list" #[] e1)) (hka : kS ≠ a) (hsz : keys.size ≤ sizeLine) (hz : out.length ≤ sizeLine) (hfl : failedOf st = none)
    (ho : (if b = true then ((arrOf st).map (·.2)).reverse else (arrOf st).map (·.2)) = out.toArray)
    (h : ∀ h' tk c, But2 a kS s.heap h' → h'.get? a = some (seqObj "list" out.toArray c) → P (.done (.ret .none)) { s with heap := h', toks := tk }) : wpAny (model prog w) A (ksk_tail a b e1 (.ref kS) st) P E s := by
  have s1 := Heap.SameBut.update s.heap kS (Obj.mapSeq fun _ => (#[] : Array Value))
  generalize hg : s.heap.update kS (Obj.mapSeq fun _ => (#[] : Array Value)) = g at s1
  have na1 : g.get? a = some (seqObj "list" #[] e1) := (s1.2 a hka.symm).trans na
  have s2 := Heap.SameBut.update g a (Obj.mapSeq fun _ => out.toArray)
  obtain ⟨c2, hc2⟩ : ∃ c2, (g.update a (Obj.mapSeq fun _ => out.toArray)).get? a = some (seqObj "list" out.toArray c2) := ⟨_, get?_update_seq na1 fun _ => out.toArray⟩
  have hz2 : out.toArray.size ≤ sizeLine + 1 := by rw [List.size_toArray]; omega
  unfold ksk_tail
  try dsimp only
  rw [ho]
  refine wpAny_bind (listUpdate_at nk rfl ?_ hsz (Nat.zero_le _))
  rw [hg]
  refine wpAny_bind (wpAny_letGo (wpAny_bind (seqEpoch_at na1 rfl ?_)))
  refine wpAny_bind (listUpdate_at na1 rfl ?_ (Nat.zero_le _) hz2)
  rw [hfl]
  simp only [bne_self_eq_false, Bool.false_eq_true, if_false]
  exact wpAny_pure (h _ _ c2 ⟨g, fun x o h2 q => (s1.2 x h2).trans q, fun x o h1 q => (s2.2 x h1).trans q⟩ hc2)
theorem kEnd {κ : PyProof.Rows.KeyKind} (nk : s.heap.get? kS = some (seqObj "list" keys e)) (na : s.heap.get? a = some (seqObj "list" #[] e1)) (hka : kS ≠ a) (S : W.SortsAt prog w A s κ keys.toList) (hsz : keys.size = vs.length) (hZ : vs.length ≤ sizeLine)
    (h : ∀ h' tk c, But2 a kS s.heap h' → h'.get? a = some (seqObj "list" (W.sortVals κ b keys.toList vs).toArray c) → P (.done (.ret .none)) { s with heap := h', toks := tk }) : wpAny (model prog w) A (ksk_end a b vs.toArray e1 (.ref kS) keys) P E s := by
  obtain ⟨kd, h1, h2⟩ := S.kind
  generalize hp0 : (if b = true then (keys.zip vs.toArray).reverse else keys.zip vs.toArray) = p0
  have hkl : keys.toList.length = vs.length := by rw [Array.length_toList, hsz]
  have hK : PyProof.Rows.KeysOf κ (keys.zip vs.toArray) := W.keysOf_zip S.keys
  have hol : (W.sortVals κ b keys.toList vs).length = vs.length := W.sortVals_length b hkl
  have hstart : p0.Perm (keys.zip vs.toArray) := by
    rw [← hp0]
    split
    · exact Array.perm_iff_toList_perm.mpr (by rw [Array.toList_reverse]; exact List.reverse_perm _)
    · exact Array.Perm.refl _
  have hss : p0.size = vs.length := by rw [hstart.size_eq, Array.size_zip, hsz, List.size_toArray, Nat.min_self]
  have fin : ∀ st' : SortSt, (arrOf st').Perm p0 → SortedToK κ (arrOf st') p0.size → Stable κ (arrOf st') p0 →
      (if b = true then ((arrOf st').map (·.2)).reverse else (arrOf st').map (·.2)) = (W.sortVals κ b keys.toList vs).toArray := fun st' hp hs ht => by
    subst hp0
    have q := congrArg List.toArray (W.sort_out (rev := b) (keys := keys) (items := vs.toArray) (xs := arrOf st') (κ := κ) hK hp hs ht)
    rwa [Array.toArray_toList] at q
  have step : ∀ t : Sem PySem.Fin, wpAny (model prog w) A t P E s → wpAny (model prog w) A (if b = true then (do let _ ← rule "list.sort.reverse"; t) else t) P E s := fun t ht => by
    split
    · exact wpAny_bind (wpAny_rule ht)
    · exact ht
  unfold ksk_end
  try dsimp only
  rw [hp0]
  refine step _ ?_
  by_cases hl2 : vs.toArray.size < 2
  · rw [if_pos hl2, if_pos hl2]
    refine wpAny_bind (wpAny_pure ?_)
    rw [StateT.run_pure]
    refine wpAny_bind (wpAny_pure ?_)
    try dsimp only
    refine kTail (st := SortSt.mk' general' p0 #[] 7 none) nk na hka (by rw [hsz]; exact hZ) (by rw [hol]; exact hZ) rfl (fin _ (Array.Perm.refl _) ?_ (Stable.refl _)) h
    intro i j hij hj
    rw [hss] at hj
    rw [List.size_toArray] at hl2
    obtain rfl : i = j := by omega
    exact KeyOrd.kle_refl _
  · rw [if_neg hl2, if_neg hl2]
    rw [List.size_toArray] at hl2
    refine wpAny_bind (h2 (by omega) _ ?_)
    refine wpAny_bind (wpAny_mono (H.wpS_sortRunsSt (κ := κ) (kd := kd) (a₀ := p0) (st := SortSt.mk' kd p0 #[] 7 none)
      (Q := fun _ st' => failedOf st' = none ∧ (if b = true then ((arrOf st').map (·.2)).reverse else (arrOf st').map (·.2)) = (W.sortVals κ b keys.toList vs).toArray)
      h1 (hK.perm hstart) ⟨Array.Perm.refl _, rfl, rfl⟩ rfl (Stable.refl _) (by rw [hss]; omega) fun st' a1 a2 a3 a4 => ⟨a2, fin st' a1 a3 a4⟩) ?_ fun _ _ e => e)
    rintro ⟨⟨⟩, st'⟩ s' ⟨rfl, hf, ho⟩
    try dsimp only at ho ⊢
    exact kTail nk na hka (by rw [hsz]; exact hZ) (by rw [hol]; exact hZ) hf ho h
end
end Sw
namespace Sw
open PySem PySem.Spec L2 FbM PyProof.Rows
section
variable {X : Cz} {pins : List (Addr × Obj)} {σ : L2.St}
/-- an untracked record of ours is tracked from here on -/
theorem adopt {H : Hp} {s : Shared} {a : Addr} {o : HO} (I : Inv X pins σ H s) (r : Rec X pins a) (n : H a = none) (new : ObjOk X.prog X.w (upd H a o) s.heap a o) : Inv X pins σ (upd H a o) s := by
  have ne : ∀ b u, H b = some u → b ≠ a := fun b u e z => by rw [z, n] at e; cases e
  refine I.call' (ch := [a]) rfl ⟨fun b o e _ _ _ => e, fun b o e _ _ _ => ⟨o.slots, e⟩, fun b o _ hb hx => ?_, fun b o e _ => ⟨o, e⟩, fun b xs e => ?_, fun b o u e => ?_, fun b ps e => ⟨#[], ?_⟩⟩ (fun b u e => ?_) I.bare fun b hb => ?_
  · rw [upd_ne (fun z => hx (by rw [z]; exact List.mem_cons_self))]
    exact hb
  · rw [upd_ne (ne _ _ e)]; exact e
  · rw [upd_ne (ne _ _ e)]; exact e
  · rw [upd_ne (ne _ _ e), e]; simp
  · by_cases hb : b = a
    · subst hb
      rw [upd_same] at e
      cases e
      exact new
    · rw [upd_ne hb] at e
      refine (I.hok b u e).stay (fun c v _ q => q) (fun c q => ?_) fun c xs q => ?_
      · rw [upd_ne (ne _ _ q)]; exact q
      · rw [upd_ne (ne _ _ q)]; exact q
  · rw [List.mem_singleton.mp hb]
    exact ⟨.inr r.ge, r.nl, r.ce, r.pn⟩
/-- the keys, one call behind the other -/
def tKeys (sp : Sp) : List V → List V → Hp → (List V → Hp → Prop) → Prop
  | [], acc, H, Q => Q acc H
  | x :: r, acc, H, Q => sp [x] H (fun v H' => tKeys sp r (acc ++ [v]) H' Q) E0
theorem each_of_vals : ∀ {ks : List V} {us : List Value} {ds : List D} {h : Heap}, Vals ks us → (∃ as, ReadsAll h us ds as) → W.EachIs (fun v d => ∃ as, Reads h v d as) us ds := fun _ ⟨as, r⟩ => W.readsAll_each (enc := fun d => d) (by rw [List.map_id']; exact r)
theorem vals_zip : ∀ {xs : List V} {us : List Value} {ds : List D}, Vals xs us → ds.length = xs.length → W.EachIs (fun v (b : V × D) => RelV b.1 v) us (xs.zip ds)
  | _, _, [], .nil, _ => .nil
  | _, _, d :: ds, .cons r q, h => .cons r (vals_zip q (by simpa using h))
theorem kRest {f : Addr} {fd : FuncData} {ps : List Str} {sp : Sp} {k : Nat} (F : FnOk X.prog X.w X.fr X.mg X.base CX0 k f fd ps sp) (hb : Binds X.fr fd ps []) (hr : Room k X.A.in1.in1) {a kS : Addr} {e1 : Nat} (ra : Rec X pins a) (rk : Rec X pins kS) (hka : kS ≠ a) {xs : List V} {vs : List Value} (rv : Vals xs vs) (hZ : vs.length ≤ sizeLine)
    {s : Shared} {H : Hp} (I : Inv X pins σ H s) (na : H a = none) (nk : H kS = none) (ga : s.heap.get? a = some (seqObj "list" #[] e1)) (gk : s.heap.get? kS = some (seqObj "list" #[] 0)) {QK : List V → List D → Hp → Prop}
    (hq : tKeys sp xs [] H fun ks H2 => ∃ ds, DpAll X.fr H2 ks ds ∧ okSort ds = true ∧ QK ks ds H2) {P : PySem.Fin → Shared → Prop} {E : Value → Shared → Prop}
    (fin : ∀ s' H' ks ds out c, Inv X pins σ H' s' → H' a = none → s'.heap.get? a = some (seqObj "list" (List.toArray out) c) → ks.length = xs.length → ds.length = xs.length → W.EachIs (fun v (b : V × D) => RelV b.1 v) out (zipSort xs ds) → QK ks ds H' → P (.done (.ret .none)) s') :
    wpAny (model X.prog X.w) X.A.in1.in1 (ksk_rest a (.ref f) false vs.toArray e1 (.ref kS)) P E s := by
  have hlx := rv.length
  unfold ksk_rest
  refine wpAny_bind (wpAny_rule ?_)
  first
    | rw [List.forIn_toArray]
    | (rw [← Array.forIn_toList]; simp only [List.toList_toArray])
    | rw [← Array.forIn_toList]
  refine wpAny_bind (ksk_fold (fun i s' => ∃ Hi kA e ac, Inv X pins σ Hi s' ∧ Hi a = none ∧ Hi kS = none ∧ s'.heap.get? kS = some (seqObj "list" kA e) ∧ s'.heap.get? a = some (seqObj "list" #[] e1) ∧ Vals ac kA.toList ∧ ac.length = i ∧
    tKeys sp (xs.drop i) ac Hi fun ks H2 => ∃ ds, DpAll X.fr H2 ks ds ∧ okSort ds = true ∧ QK ks ds H2) vs 0 s ⟨H, #[], 0, [], I, na, nk, gk, ga, .nil, rfl, hq⟩ ?step ?done)
  case step =>
    rintro j x s' hx ⟨Hi, kA, e, ac, I1, n1, n2, g1, g2, r1, l1, q1⟩
    simp only [Nat.zero_add] at l1 q1 ⊢
    have hj : j < vs.length := (List.getElem?_eq_some_iff.mp hx).1
    have hjx : j < xs.length := by omega
    obtain ⟨u, hu, rx⟩ := rv.get (List.getElem?_eq_getElem hjx)
    rw [hx] at hu
    cases hu
    rw [List.drop_eq_getElem_cons hjx] at q1
    have q1 : sp ([xs[j]] ++ []) Hi (fun v H' => tKeys sp (xs.drop (j + 1)) (ac ++ [v]) H' fun ks H2 => ∃ ds, DpAll X.fr H2 ks ds ∧ okSort ds = true ∧ QK ks ds H2) E0 := q1
    have rr : Vals ([xs[j]] ++ []) ([x] ++ []) := .cons rx .nil
    have hl : ([x] ++ ([] : List Value)).length = ps.length := by rw [← rr.length]; exact F.len _ _ _ _ q1
    have ks : kA.size = j := by
      have h1 : ac.length = kA.toList.length := r1.length
      have h2 : kA.toList.length = kA.size := Array.length_toList
      rw [← h2, ← h1]
      exact l1
    refine wpAny_bind (wpAny_attempt (wpAny_call (codeAny_mono (F.run X.A.in1.in1 X.stack s' Hi ⟨[x], []⟩ ([x] ++ []) ([xs[j]] ++ []) _ E0 hr I1.env0.in1.in1 (hb s' [x] I1.kIn hl) rr q1) fun r s2 hq => ?_)))
    cases r with
    | error e => exact hq.elim
    | ok fl =>
      cases fl with
      | next => exact hq.elim
      | brk => exact hq.elim
      | cont => exact hq.elim
      | ret u =>
        obtain ⟨v', H', os, bare, un, hok, rv', q2⟩ := (show CE X.stack X.prog X.w Hi s' _ u s2 from hq)
        have I2 : Inv X pins σ H' s2 := I1.call' os un hok bare fun b y => absurd y List.not_mem_nil
        have g3 : s2.heap.get? kS = some (seqObj "list" kA e) := un.keep _ _ g1 n2 rk.fr List.not_mem_nil
        have g4 : s2.heap.get? a = some (seqObj "list" #[] e1) := un.keep _ _ g2 n1 ra.fr List.not_mem_nil
        have m1 : H' a = none := un.free _ _ g2 n1 List.not_mem_nil
        have m2 : H' kS = none := un.free _ _ g1 n2 List.not_mem_nil
        have sb := Heap.SameBut.update s2.heap kS (Obj.mapSeq (·.push u))
        obtain ⟨c2, hc2⟩ : ∃ c2, (s2.heap.update kS (Obj.mapSeq (·.push u))).get? kS = some (seqObj "list" (kA.push u) c2) := ⟨_, get?_update_seq g3 (·.push u)⟩
        try dsimp only
        refine wpAny_bind (listUpdate_at g3 rfl ?_ (by omega) (by rw [Array.size_push]; omega))
        refine wpAny_pure ⟨rfl, H', kA.push u, c2, ac ++ [v'], rk.turn (t' := s2.toks) I2 m2 (fun c o h q => (sb.2 c h).trans q), m1, m2, hc2, (sb.2 a hka.symm).trans g4, ?_, ?_, q2⟩
        · rw [Array.toList_push]
          exact r1.append (.cons rv' .nil)
        · rw [List.length_append, l1]
          rfl
  case done =>
    rintro s' ⟨Hi, kA, e, ac, I1, n1, n2, g1, g2, r1, l1, q1⟩
    simp only [Nat.zero_add] at l1 q1
    rw [List.drop_eq_nil_of_le (by omega)] at q1
    obtain ⟨ds, hd, ho, qk⟩ := (show ∃ ds, DpAll X.fr Hi ac ds ∧ okSort ds = true ∧ QK ac ds Hi from q1)
    obtain ⟨o1, o2, o3⟩ := okSort_spec ho
    have hdl := dp_len hd
    have er := each_of_vals r1 (Dp.readsAll I1 ds ac kA.toList hd r1)
    have hks : kA.size = vs.length := by
      have h1 : ac.length = kA.toList.length := r1.length
      have h2 : kA.toList.length = kA.size := Array.length_toList
      omega
    try dsimp only
    refine wpAny_bind (listItems_at g1 rfl ?_)
    refine kEnd (κ := W.dataKind s'.heap ds) g1 g2 hka (W.SortsAt.data er o2 o3 fun d hd' => ?_) hks hZ fun h' tk c hB hg => ?_
    · have := okD_depth (o1 d hd')
      have := hr.un
      omega
    · obtain ⟨g, b1, b2⟩ := hB
      have J1 : Inv X pins σ Hi { s' with heap := g, toks := s'.toks } := rk.turn (t' := s'.toks) I1 n2 b1
      have J2 : Inv X pins σ Hi { s' with heap := h', toks := tk } := ra.turn (s := { s' with heap := g, toks := s'.toks }) (h' := h') (t' := tk) J1 n1 b2
      have hz : (xs.zip ds).map Prod.snd = ds := List.map_snd_zip (by omega)
      have hke : W.EachIs (fun v (b : V × D) => RelV b.1 v) vs (xs.zip ds) := vals_zip rv (by omega)
      refine fin _ Hi ac ds _ c J2 n1 hg (by omega) (by omega) ?_ qk
      have ko : W.KeyedOut false ((xs.zip ds).map Prod.snd) vs (W.sortVals (W.dataKind s'.heap ds) false kA.toList vs) := by
        rw [hz]
        exact ⟨s'.heap, kA.toList, o2, rfl, er⟩
      exact W.keyedOut_each Prod.snd ko hke
/-- sorted(xs, key=f) -/
def rSortK (K : FgK) (f : Addr) (sp : Sp) : List V → List V → Hp → VK → Prop := fun vs zs H Q => ∃ (l : Addr) (xs : List V), vs = [V.ref l] ∧ zs = [V.ref f] ∧ SqL K H l xs ∧
  tKeys sp xs [] H fun ks H2 => ∃ ds, DpAll K H2 ks ds ∧ okSort ds = true ∧ ∀ p, H2 p = none → Q (.ref p) (upd H2 p (.lst ((zipSort xs ds).map Prod.fst)))
theorem cr_sortedF {f : Addr} {fd : FuncData} {ps : List Str} {sp : Sp} {k : Nat} (F : FnOk X.prog X.w X.fr X.mg X.base CX0 k f fd ps sp) (hb : Binds X.fr fd ps []) (hr : Room k X.A.in1.in1) : CallRK X (.builtin "sorted") [Str.ofString "key"] (rSortK X.fr f sp) := by
  intro pins s σ H vs zs us ws Q I r rz h
  obtain ⟨l, xs, rfl, rfl, hs, hq⟩ := h
  obtain ⟨its, rv, hl, hz⟩ := I.list hs
  have hzi : its.length ≤ sizeLine := by rw [← rv.length]; exact hz
  obtain ⟨u, rfl, ru⟩ := vals1 r
  obtain rfl : u = Value.ref l := ru
  obtain ⟨g, rfl, rg⟩ := vals1 rz
  obtain rfl : g = Value.ref f := rg
  refine W.sorted_of_sort hl.isList hzi (ksk_s1 _ _) (fun _ => ksk_l1 _ _) fun E' => ?_
  have ho := W.copyHeap_at s.heap its
  obtain ⟨e1, ho1⟩ : ∃ e1, ((W.copyHeap s.heap its).update (s.heap.objs.size + 1) (Obj.mapSeq fun _ => (#[] : Array Value))).get? (s.heap.objs.size + 1) = some (seqObj "list" #[] e1) := ⟨_, get?_update_seq ho fun _ => #[]⟩
  have lt1 : s.heap.objs.size + 1 < (W.copyHeap s.heap its).objs.size := Heap.lt_size ho
  have hkS : (((W.copyHeap s.heap its).update (s.heap.objs.size + 1) (Obj.mapSeq fun _ => (#[] : Array Value))).push (seqObj "tuple" its.toArray 0)).objs.size = (W.copyHeap s.heap its).objs.size + 1 := by rw [size_push', Heap.size_update]
  show wpAny _ _ (Builtin.«list.sort» ⟨[.ref (s.heap.objs.size + 1)], [(Str.ofString "key", .ref f)]⟩) _ _ _
  rw [ksk_t1]
  have le1 : s.heap.objs.size ≤ (((W.copyHeap s.heap its).update (s.heap.objs.size + 1) (Obj.mapSeq fun _ => (#[] : Array Value))).push (seqObj "tuple" its.toArray 0)).objs.size := by rw [hkS]; omega
  have ne1 : (((W.copyHeap s.heap its).update (s.heap.objs.size + 1) (Obj.mapSeq fun _ => (#[] : Array Value))).push (seqObj "tuple" its.toArray 0)).objs.size ≠ s.heap.objs.size + 1 := by rw [hkS]; omega
  unfold ksk_tree
  refine wpAny_bind (listItems_at ho rfl ?_)
  refine wpAny_bind (listUpdate_at ho rfl ?_ (by rw [List.size_toArray]; exact hzi) (Nat.zero_le _))
  refine wpAny_bind (seqEpoch_at ho1 rfl ?_)
  refine wpAny_bind (wpAny_newTuple ?_ (by show its.length ≤ _; exact hzi))
  refine wpAny_bind (wpAny_newList ?_ (Nat.zero_le _))
  refine wpAny_holding ?_
  have I1 : Inv X pins σ H { s with heap := W.sortingHeap (W.copyHeap s.heap its) (s.heap.objs.size + 1) its } := I.kept fun b o e => W.sorting_copy_old e
  have ra : Rec X pins (s.heap.objs.size + 1) := rec_new I (Nat.le_succ _)
  refine kRest F hb hr (s := { s with heap := W.sortingHeap (W.copyHeap s.heap its) (s.heap.objs.size + 1) its }) (kS := (((W.copyHeap s.heap its).update (s.heap.objs.size + 1) (Obj.mapSeq fun _ => (#[] : Array Value))).push (seqObj "tuple" its.toArray 0)).objs.size)
    (e1 := e1) ra (rec_new I le1) ne1 rv hzi I1 (I.hok.fresh (Nat.le_succ _)) (I.hok.fresh le1) (Heap.get?_push_of_some _ (Heap.get?_push_of_some _ ho1)) (Heap.get?_push_size _ rfl) hq ?_
  intro s' H' ks ds out c J n1 hg k1 k2 he qk
  refine ⟨rfl, .ref (s.heap.objs.size + 1), _, adopt (o := .lst ((zipSort xs ds).map Prod.fst)) J ra n1 ⟨?_, out, c, each_vals he, hg⟩, rfl, qk _ n1⟩
  rw [List.length_map, List.length_mergeSort, List.length_zip, k2, Nat.min_self]
  exact hz
end
end Sw

set_option Elab.async false
set_option linter.all false
set_option maxRecDepth 100000
namespace Sw
open PySem PySem.Spec L2
section
variable {X : Cz}
/-! ### sorted(xs, key=f) by data -/
def pKeys (sp : PSp) : List D → List D → (List D → Prop) → Prop
  | [], acc, Q => Q acc
  | x :: r, acc, Q => sp none [x] fun rv _ => ∃ kd, rv = .dt kd ∧ pKeys sp r (acc ++ [kd]) Q
/-- xs in the order of the keys ks -/
def byKeys (xs ks : List D) : List D := ((xs.zip ks).mergeSort fun p q => leD p.2 q.2).map Prod.fst
def fSortK (sp : PSp) (A : PE') : PF' := fun env Q => A env fun o env1 => ∃ xs, o.rd env1 = some (.list xs) ∧ pKeys sp xs [] fun ks => okSort ks = true ∧ Q (byKeys xs ks) env1
theorem pKeys_ok {K : FgX} {C : Ec} {σ : L2.St} {env : List SV} {sp : PSp} {QV : List V → Hp → Prop} {QD : List D → Prop} {H0 F0 : Hp} (R0 : Rel K C σ H0 F0 env) :
    ∀ {xs : List D} {ys : List V} {ks : List D} {vs : List V} {H F : Hp}, Stp K C σ H0 F0 env H F env → AtAll K F xs ys → AtAll K F ks vs →
      (∀ ls vs H F, Stp K C σ H0 F0 env H F env → AtAll K F ls vs → ls.length = ks.length + xs.length → QD ls → QV vs H) → pKeys sp xs ks QD → tKeys (spOf K false sp) ys vs H QV
  | [], ys, ks, vs, H, F, st, a, b, fin, q => by
    simp only [AtAll] at a
    subst a
    exact fin ks vs H F st b rfl q
  | x :: xs, ys, ks, vs, H, F, st, a, b, fin, q => by
    simp only [AtAll] at a
    obtain ⟨y, r, rfl, a1, a2⟩ := a
    refine ⟨F, none, none, [x], [y], st.rel.frz, AtAll.cons a1 AtAll.nil, by rw [if_neg (by decide)]; exact ⟨rfl, rfl, rfl⟩, _, q, fun v H' F' rv fl' pp qq => ?_⟩
    obtain ⟨kd, rfl, qq⟩ := qq
    have s2 := Post.stp st.rel pp
    have av : At K F' kd v := pp.res
    exact pKeys_ok R0 (st.trans s2) (AtAll.mono pp.mono _ _ a2) (AtAll.app (AtAll.mono pp.mono _ _ b) (AtAll.cons av AtAll.nil)) (fun ls vs H F s a e q => fin ls vs H F s a (by rw [e, List.length_append, List.length_cons, List.length_cons, List.length_nil]; omega) q) qq
theorem zip3 {α β γ : Type} : ∀ (ys : List α) (xs : List β) (ks : List γ), ks.length = xs.length → (ys.zip (xs.zip ks)).map (fun t => (t.1, t.2.1)) = ys.zip xs ∧ (ys.zip (xs.zip ks)).map (fun t => (t.1, t.2.2)) = ys.zip ks
  | [], _, _, _ => ⟨rfl, rfl⟩
  | _ :: _, [], [], _ => ⟨rfl, rfl⟩
  | y :: ys, x :: xs, k :: ks, h => by
    obtain ⟨h1, h2⟩ := zip3 ys xs ks (by simpa using h)
    constructor
    · show (y, x) :: (ys.zip (xs.zip ks)).map (fun t => (t.1, t.2.1)) = (y, x) :: ys.zip xs
      rw [h1]
    · show (y, k) :: (ys.zip (xs.zip ks)).map (fun t => (t.1, t.2.2)) = (y, k) :: ys.zip ks
      rw [h2]
theorem byKeys_at {K : FgX} {F : Hp} {xs ks : List D} {ys : List V} (a : AtAll K F xs ys) (h : ks.length = xs.length) : AtAll K F (byKeys xs ks) ((zipSort ys ks).map Prod.fst) := by
  obtain ⟨hl, hp⟩ := at_zip a
  let T : List (V × (D × D)) := ys.zip (xs.zip ks)
  have e1 : T.map (fun t => (t.1, t.2.2)) = ys.zip ks := (zip3 ys xs ks h).2
  have e2 : T.map (fun t => t.2) = xs.zip ks := List.map_snd_zip (by rw [List.length_zip]; omega)
  have s1 : (zipSort ys ks) = (T.mergeSort fun p q => leD p.2.2 q.2.2).map fun t => (t.1, t.2.2) := by
    unfold zipSort
    rw [← e1, W.sort_maps (r := fun p q : V × (D × D) => leD p.2.2 q.2.2) (s := fun p q : V × D => leD p.2 q.2) (fun t => (t.1, t.2.2)) fun _ _ _ _ => rfl]
  have s2 : ((xs.zip ks).mergeSort fun p q => leD p.2 q.2) = (T.mergeSort fun p q => leD p.2.2 q.2.2).map fun t => t.2 := by
    rw [← e2, W.sort_maps (r := fun p q : V × (D × D) => leD p.2.2 q.2.2) (s := fun p q : D × D => leD p.2 q.2) (fun t => t.2) fun _ _ _ _ => rfl]
  unfold byKeys
  rw [s1, s2, List.map_map, List.map_map]
  have key : ∀ L : List (V × (D × D)), (∀ t ∈ L, At K F t.2.1 t.1) → AtAll K F (L.map (Prod.fst ∘ fun t => t.2)) (L.map (Prod.fst ∘ fun t => (t.1, t.2.2))) := by
    intro L
    induction L with
    | nil => intro _; exact AtAll.nil
    | cons t r ih => exact fun h => AtAll.cons (h t List.mem_cons_self) (ih fun z hz => h z (List.mem_cons_of_mem _ hz))
  refine key _ fun t ht => ?_
  have ht : t ∈ T := (List.mergeSort_perm _ _).mem_iff.mp ht
  have h3 : (t.1, t.2.1) ∈ ys.zip xs := by
    rw [← (zip3 ys xs ks h).1]
    exact List.mem_map_of_mem ht
  exact hp _ h3
theorem f_sortK {k j : Nat} {ps : List Str} {sp : PSp} {x : Str} {a : Expr} {A : PE'} {p q pos kpos : Pos} (c : Cal X.prog X.w X.fr X.mg X.base k x false ps [] sp) (hr : Room j X.A) (hkj : k + 1 ≤ j) (hgx : Gl X x) (hg : Gl X "sorted") (hm : X.mg "sorted" = none) (ha : EV X a A) (hdx : (x == ("__debug__" : Str)) = false := by decide)
    (hs : starEach [a] X.env = (false, eval a X.env) :: starEach [] X.env := by rfl) (he : backTo pos (starEach [a] X.env) = (false, eval a X.env) :: backTo pos (starEach [] X.env) := by rfl) (hpl : (backTo pos (starEach [a] X.env)).any (·.1) = false := by rfl)
    (hall : (backToKw pos (keywordEach [⟨some "key", .Name x q, kpos⟩] X.env)).all (·.1.isSome) = true := by rfl) (hnone : (backToKw pos (keywordEach [⟨some "key", .Name x q, kpos⟩] X.env)).any (·.1.isNone) = false := by rfl) (hks : (backToKw pos (keywordEach [⟨some "key", .Name x q, kpos⟩] X.env)).filterMap (·.1) = [Str.ofString "key"] := by rfl) :
    EF X (.Call (.Name "sorted" p) [a] [⟨some "key", .Name x q, kpos⟩] pos) (fSortK sp A) := by
  obtain ⟨f, fd, dvs, ds, h1, h2, h3, h4, h5, h6⟩ := c.ex
  have h6 : dvs = [] := by simpa [AtAll] using h6 X.fr (fun _ => none)
  subst h6
  cases h5
  obtain ⟨t, g1, l1⟩ := ha.ex
  have hrm : Room k X.A.in1.in1 := ⟨hr.hd, by have := hr.dp; show X.A.depth + 3 * k + 5 < _; omega, by have := hr.un; show X.A.units + 1 + 1 + 16 * k + 200 < _; omega⟩
  refine ⟨_, pe_callBK (ks := [Str.ofString "key"]) (cr_sortedF h1 h4 hrm) hg hm (by decide +kernel) (pa_cons g1 pa_nil hs) (pk_cons (pe_glob hgx h2 (v := .ref f) rfl hdx) pk_nil) (by decide) (by decide) he hpl hall hnone hks, fun C σ H F env Q Qp R kk q => ?_⟩
  refine l1 C σ H F env _ _ R (fun v H1 F1 env1 o s1 a1 q1 => ?_) q
  obtain ⟨xs, e1, q1⟩ := q1
  obtain ⟨l, ys, rfl, e2, a2⟩ := rd_vw s1.rel a1 e1
  refine ⟨l, ys, rfl, rfl, SqL.of e2, ?_⟩
  refine pKeys_ok s1.rel (Stp.refl s1.rel) a2 AtAll.nil (fun ks vs H2 F2 s2 ak ek qd => ?_) q1
  obtain ⟨ho, qq⟩ := qd
  refine ⟨ks, AtAll.dp _ _ (okSort_plain ho) (AtAll.mono s2.rel.frz _ _ ak), ho, fun r hr => ?_⟩
  obtain ⟨s3, f3, h03, n3⟩ := s2.rel.alloc0 (o := .lst ((zipSort ys ks).map Prod.fst)) hr
  have hlen : ks.length = xs.length := by
    rw [ek, List.length_nil, Nat.zero_add]
  exact kk r _ (byKeys xs ks) _ F2 env1 ((s1.trans s2).trans s3) upd_same f3 h03 n3 (s1.dm r (s2.dm r hr)) (byKeys_at (AtAll.mono s2.ff _ _ a2) hlen) qq
end
end Sw

set_option Elab.async false
set_option linter.all false
set_option maxRecDepth 100000
namespace Sw
open PySem PySem.Spec PyProof.Rows
theorem roomU {k : Nat} {A : Around} (r : L2.Room k A) : A.units + 65 < cLine := by
  have := r.un
  omega
section
variable {prog : Program} {w : World} {A : Around} {E : Value → Shared → Prop} {s : Shared}
/-! ### min, max of a list's items -/
theorem minL_data {l : Addr} {vs : List Value} {x : D} {xs : List D} {as : List Addr} {Q : Value → Shared → Prop} (hh : A.handled = none) (hl : s.heap.IsList l vs.toArray) (hr : ReadsAll s.heap vs (x :: xs) as) (ha : W.AlikeAll (x :: xs)) (hu : A.units + 1 + PyData.depthAll (x :: xs) < cLine)
    (h : ∀ (i : Nat) v h' tk, vs[i]? = some v → (x :: xs)[i]? = some (W.minD x xs) → (∀ b o, s.heap.get? b = some o → h'.get? b = some o) → Q v { s with heap := h', toks := tk }) : wpAny (model prog w) A (call (.builtin "min") [.ref l]) Q E s := by
  have hr' : ReadsAll s.heap vs.toArray.toList (x :: xs) as := hr
  have hn : vs.toArray.size = xs.length + 1 := W.readsAll_len hr'
  refine call_min_walkH (W.iter_listW (A := A.in1) hh hl fun s₂ e Wk st hfp hw hk => ?_)
  refine ⟨_, _, _, _, _, _, _, s.heap, _, rfl, Wk, st, hfp, by omega, hw, hk, W.cmpIn_lt (A := A.in1) hr' ha (by show A.units + 1 + _ < _; exact hu), fun v s' hP m => ?_⟩
  obtain ⟨h', tk, rfl, hk'⟩ := W.moved_old e rfl m
  obtain ⟨f1, f2⟩ := W.argBest_fold W.dataLt PyData.none x xs xs.length (Nat.le_refl _)
  rw [List.take_length] at f2
  have e1 : vs.toArray.size - 1 = xs.length := by omega
  rw [e1] at hP
  generalize argBest (fun i j => W.dataLt ((x :: xs).getD i PyData.none) ((x :: xs).getD j PyData.none)) xs.length = n at f1 f2 hP
  refine h n v h' tk (by simpa using hP) ?_ hk'
  have hlt : n < (x :: xs).length := by rw [List.length_cons]; omega
  rw [List.getElem?_eq_getElem hlt]
  rw [List.getD_eq_getElem?_getD, List.getElem?_eq_getElem hlt] at f2
  exact congrArg some f2
theorem maxL_data {l : Addr} {vs : List Value} {x : D} {xs : List D} {as : List Addr} {Q : Value → Shared → Prop} (hh : A.handled = none) (hl : s.heap.IsList l vs.toArray) (hr : ReadsAll s.heap vs (x :: xs) as) (ha : W.AlikeAll (x :: xs)) (hu : A.units + 1 + PyData.depthAll (x :: xs) < cLine)
    (h : ∀ (i : Nat) v h' tk, vs[i]? = some v → (x :: xs)[i]? = some (W.maxD x xs) → (∀ b o, s.heap.get? b = some o → h'.get? b = some o) → Q v { s with heap := h', toks := tk }) : wpAny (model prog w) A (call (.builtin "max") [.ref l]) Q E s := by
  have hr' : ReadsAll s.heap vs.toArray.toList (x :: xs) as := hr
  have hn : vs.toArray.size = xs.length + 1 := W.readsAll_len hr'
  refine call_max_walkH (W.iter_listW (A := A.in1) hh hl fun s₂ e Wk st hfp hw hk => ?_)
  refine ⟨_, _, _, _, _, _, _, s.heap, _, rfl, Wk, st, hfp, by omega, hw, hk, W.cmpIn_gt (A := A.in1) hr' ha (by show A.units + 1 + _ < _; exact hu), fun v s' hP m => ?_⟩
  obtain ⟨h', tk, rfl, hk'⟩ := W.moved_old e rfl m
  obtain ⟨f1, f2⟩ := W.argBest_fold (fun a b => W.dataLt b a) PyData.none x xs xs.length (Nat.le_refl _)
  rw [List.take_length] at f2
  have e1 : vs.toArray.size - 1 = xs.length := by omega
  rw [e1] at hP
  generalize argBest (fun i j => W.dataLt ((x :: xs).getD j PyData.none) ((x :: xs).getD i PyData.none)) xs.length = n at f1 f2 hP
  refine h n v h' tk (by simpa using hP) ?_ hk'
  have hlt : n < (x :: xs).length := by rw [List.length_cons]; omega
  rw [List.getElem?_eq_getElem hlt]
  rw [List.getD_eq_getElem?_getD, List.getElem?_eq_getElem hlt] at f2
  exact congrArg some f2
end
end Sw
namespace Sw
open PySem PySem.Spec L2
def minOk (ds : List D) : Bool := ds.all okD && (ds.all (fun d => ds.all fun e => W.alike d e) && ds.all fun d => !noneD d)
theorem minOk_spec {ds : List D} (h : minOk ds = true) : (∀ d ∈ ds, okD d = true) ∧ W.AlikeAll ds := by
  unfold minOk at h
  obtain ⟨h1, h⟩ := Bool.and_eq_true_iff.mp h
  obtain ⟨h2, h3⟩ := Bool.and_eq_true_iff.mp h
  refine ⟨List.all_eq_true.mp h1, fun d hd e he => List.all_eq_true.mp (List.all_eq_true.mp h2 d hd) e he, fun d hd => ?_⟩
  rintro rfl
  have := List.all_eq_true.mp h3 _ hd
  cases this
theorem depthAll_le {ds : List D} (h : ∀ d ∈ ds, okD d = true) : PyData.depthAll ds ≤ 40 := by
  induction ds with
  | nil => exact Nat.zero_le _
  | cons d r ih =>
    have h1 := okD_depth (h d List.mem_cons_self)
    have h2 := ih fun x hx => h x (List.mem_cons_of_mem _ hx)
    simp only [PyData.depthAll]
    omega
section
variable {X : Cz}
def rBestL (K : FgK) (g : D → List D → D) : List V → Hp → VK → Prop := fun vs H Q => ∃ (a : Addr) (xs : List V) (d : D) (ds : List D), vs = [V.ref a] ∧ SqL K H a xs ∧ DpAll K H xs (d :: ds) ∧ minOk (d :: ds) = true ∧ ∀ (i : Nat) (v : V), xs[i]? = some v → (d :: ds)[i]? = some (g d ds) → Q v H
theorem call_minL (hc : X.calm = true) (hu : X.A.units + 64 < cLine) : CallR X (.builtin "min") (rBestL X.fr W.minD) := by
  intro pins s σ H vs us Q I r h
  obtain ⟨a, xs, d, ds, rfl, hs, hd, ho, q⟩ := h
  obtain ⟨o1, o2⟩ := minOk_spec ho
  obtain ⟨its, rv, hl, hz⟩ := I.list hs
  obtain ⟨u, rfl, ru⟩ := vals1 r
  obtain rfl : u = Value.ref a := ru
  obtain ⟨as, rr⟩ := Dp.readsAll I _ xs its hd rv
  have := depthAll_le o1
  refine minL_data (I.ok.hd hc) hl.isList rr o2 (by omega) fun i v h' tk hv hd' hk => ?_
  have hi : i < xs.length := by rw [rv.length]; exact (List.getElem?_eq_some_iff.mp hv).1
  obtain ⟨u', hu', rx⟩ := rv.get (List.getElem?_eq_getElem hi)
  rw [hv] at hu'
  cases hu'
  exact ⟨xs[i], H, I.kept hk, rx, q i _ (List.getElem?_eq_getElem hi) hd'⟩
theorem call_maxL (hc : X.calm = true) (hu : X.A.units + 64 < cLine) : CallR X (.builtin "max") (rBestL X.fr W.maxD) := by
  intro pins s σ H vs us Q I r h
  obtain ⟨a, xs, d, ds, rfl, hs, hd, ho, q⟩ := h
  obtain ⟨o1, o2⟩ := minOk_spec ho
  obtain ⟨its, rv, hl, hz⟩ := I.list hs
  obtain ⟨u, rfl, ru⟩ := vals1 r
  obtain rfl : u = Value.ref a := ru
  obtain ⟨as, rr⟩ := Dp.readsAll I _ xs its hd rv
  have := depthAll_le o1
  refine maxL_data (I.ok.hd hc) hl.isList rr o2 (by omega) fun i v h' tk hv hd' hk => ?_
  have hi : i < xs.length := by rw [rv.length]; exact (List.getElem?_eq_some_iff.mp hv).1
  obtain ⟨u', hu', rx⟩ := rv.get (List.getElem?_eq_getElem hi)
  rw [hv] at hu'
  cases hu'
  exact ⟨xs[i], H, I.kept hk, rx, q i _ (List.getElem?_eq_getElem hi) hd'⟩
end
section
variable {K : FgX}
def gBestL (g : D → List D → D) : List D → Option D
  | [.list (d :: ds)] => if minOk (d :: ds) = true then some (g d ds) else none
  | _ => none
theorem l_bestL {g : D → List D → D} : LC K (rBestL K g) (gBestL g) := fun C σ H F env xs ds d Q R a e k => by
  unfold gBestL at e
  split at e
  · split at e
    · rename_i d0 dr ho
      cases e
      obtain ⟨x, rfl, w⟩ := a.one
      obtain ⟨p, zs, rfl, e1, a2⟩ := w
      refine ⟨p, zs, d0, dr, rfl, SqL.of e1, AtAll.dp _ _ (plain_of (minOk_spec ho).1) (AtAll.mono R.frz _ _ a2), ho, fun i v hv hd => ?_⟩
      obtain ⟨y, hy, ay⟩ := a2.get hd
      rw [hv] at hy
      cases hy
      exact k _ H F (Stp.refl R) ay
    · cases e
  · cases e
end
end Sw

set_option Elab.async false
set_option linter.all false
set_option maxRecDepth 100000
namespace Sw
open PySem PySem.Spec L2
section
variable {K : FgX}
/-! ### x is True -/
def gIsB (neg : Bool) : D → D → Option D
  | .bool a, .bool b => some (.bool (if neg = true then !decide (a = b) else decide (a = b)))
  | _, _ => none
theorem l_isB : LO2 K (fun x y H Q => ∃ a b, x = .bl a ∧ y = .bl b ∧ Q (.bl (decide (a = b))) H) (gIsB false) := fun C σ H F env x y dx dy d Q R a b e k => by
  unfold gIsB at e
  split at e
  · cases e
    exact ⟨_, _, a.bl, b.bl, k _ H F (Stp.refl R) (by simp [At])⟩
  · cases e
theorem l_notB : LO2 K (fun x y H Q => ∃ a b, x = .bl a ∧ y = .bl b ∧ Q (.bl (!decide (a = b))) H) (gIsB true) := fun C σ H F env x y dx dy d Q R a b e k => by
  unfold gIsB at e
  split at e
  · cases e
    exact ⟨_, _, a.bl, b.bl, k _ H F (Stp.refl R) (by simp [At])⟩
  · cases e
theorem gIsB_bb {a b : Bool} : gIsB false (.bool a) (.bool b) = some (.bool (decide (a = b))) := rfl
theorem gNotB_bb {a b : Bool} : gIsB true (.bool a) (.bool b) = some (.bool (!decide (a = b))) := rfl
end
end Sw

set_option Elab.async false
set_option linter.all false
set_option maxRecDepth 100000
namespace Sw
open PySem PySem.Spec L2
/-! ### comprehensions whose names stand in the def, too -/
def restE (env1 : List SV) (env2 : List SV) : List Nat → List SV
  | [] => env2
  | v :: vs => (restE env1 env2 vs).set v (env1.getD v .un)
theorem restE_len (env1 env2 : List SV) : ∀ vs : List Nat, (restE env1 env2 vs).length = env2.length
  | [] => rfl
  | v :: vs => by unfold restE; rw [List.length_set, restE_len env1 env2 vs]
theorem restE_oth {env1 env2 : List SV} {j : Nat} : ∀ {vs : List Nat}, j ∉ vs → (restE env1 env2 vs)[j]? = env2[j]?
  | [], _ => rfl
  | v :: vs, h => by
    simp only [List.mem_cons, not_or] at h
    unfold restE
    rw [List.getElem?_set_ne (Ne.symm h.1)]
    exact restE_oth h.2
theorem restE_mem {env1 env2 : List SV} (hl : env1.length = env2.length) {j : Nat} : ∀ {vs : List Nat}, j ∈ vs → (restE env1 env2 vs)[j]? = env1[j]?
  | v :: vs, h => by
    unfold restE
    by_cases q : v = j
    · subst q
      by_cases hv : v < env2.length
      · rw [List.getElem?_set_self (by rw [restE_len]; exact hv), List.getD_eq_getElem?_getD, List.getElem?_eq_getElem (by omega)]
        rfl
      · rw [List.getElem?_eq_none (by rw [List.length_set, restE_len]; omega), List.getElem?_eq_none (by omega)]
    · rw [List.getElem?_set_ne q]
      rcases List.mem_cons.mp h with z | z
      · exact absurd z.symm q
      · exact restE_mem hl z
theorem wipeE_wipeE (env : List SV) (vs : List Nat) : wipeE (wipeE env vs) vs = wipeE env vs := by
  apply List.ext_getElem?
  intro j
  by_cases hj : j ∈ vs
  · cases z : (wipeE env vs)[j]? with
    | none =>
      rw [List.getElem?_eq_none_iff] at z ⊢
      rw [wipeE_len]; exact z
    | some sv =>
      have z1 := wipeE_mem hj z
      have hjl : j < (wipeE (wipeE env vs) vs).length := by
        rw [wipeE_len]
        exact (List.getElem?_eq_some_iff.mp z).1
      have z2 := wipeE_mem hj (List.getElem?_eq_getElem hjl)
      rw [List.getElem?_eq_getElem hjl, z2, z1]
  · rw [wipeE_oth hj]
/-- no list of its own stands in these slots -/
def nob : Option SV → Prop
  | some (.obj _ _) => False
  | _ => True
def NoOwn (env : List SV) : List Nat → Prop
  | [] => True
  | v :: vs => nob env[v]? ∧ NoOwn env vs
theorem NoOwn.get {env : List SV} : ∀ {vs : List Nat}, NoOwn env vs → ∀ j ∈ vs, ∀ l ds, env[j]? ≠ some (SV.obj l ds)
  | v :: vs, h, j, hj, l, ds => fun e => by
    rcases List.mem_cons.mp hj with rfl | hj
    · have h1 := h.1
      rw [e] at h1
      exact h1
    · exact h.2.get j hj l ds e
section
variable {K : FgX} {C : Ec} {σ : L2.St} {H F H1 F1 : Hp} {env1 env2 : List SV} {vs : List Nat}
theorem Own.restore (hno : NoOwn env1 vs) (hw : wipeE env2 vs = env2) (hl : env1.length = env2.length := by first | assumption | omega) {b : Addr} : Own σ (restE env1 env2 vs) b ↔ Own (L2.wipe σ vs) env2 b := by
  constructor
  · rintro ⟨j, l, ds, e, s⟩
    by_cases hj : j ∈ vs
    · rw [restE_mem hl hj] at e
      exact absurd e (hno.get j hj l ds)
    · rw [restE_oth hj] at e
      exact ⟨j, l, ds, e, by rw [wipe_oth hj]; exact s⟩
  · rintro ⟨j, l, ds, e, s⟩
    have e' := e
    rw [← hw] at e'
    have hj := (own_wipe e').1
    rw [wipe_oth hj] at s
    exact ⟨j, l, ds, by rw [restE_oth hj]; exact e, s⟩
theorem Stp.restore (s : Stp K C (L2.wipe σ vs) H1 F1 (wipeE env1 vs) H F env2) (R : Rel K C σ H1 F1 env1) (hno : NoOwn env1 vs) (hw : wipeE env2 vs = env2) : Stp K C σ H1 F1 env1 H F (restE env1 env2 vs) := by
  have R2 := s.rel
  have hl : env1.length = env2.length := by
    have a := R.len
    have b := R2.len
    rw [wipe_length] at b
    omega
  have hlE : env1.length = (wipeE env1 vs).length := (wipeE_len env1 vs).symm
  have ow : ∀ (j : Nat) (l : Bool) (ds : Ct), (restE env1 env2 vs)[j]? = some (SV.obj l ds) → j ∉ vs ∧ env2[j]? = some (SV.obj l ds) := fun j l ds h => by
    by_cases hj : j ∈ vs
    · rw [restE_mem hl hj] at h
      exact absurd h (hno.get j hj l ds)
    · rw [restE_oth hj] at h
      exact ⟨hj, h⟩
  have own1 : ∀ b, Own (L2.wipe σ vs) (wipeE env1 vs) b → Own σ env1 b := fun b ⟨j, l, ds, e, q⟩ => by
    obtain ⟨hj, e⟩ := own_wipe e
    rw [wipe_oth hj] at q
    exact ⟨j, l, ds, e, q⟩
  refine ⟨⟨⟨R2.frz, R2.mono, R2.new, R2.frame, R2.la, by rw [restE_len]; rw [← hl]; exact R.len, fun j sv e => ?_, fun j k l ds m es h1 h2 h3 => ?_⟩, R2.xok⟩, s.ff, fun b o h n => s.fr b o h fun z => n (own1 b z), fun b o h => ?_, fun j l ds h => ?_, s.dm⟩
  · by_cases hj : j ∈ vs
    · rw [restE_mem hl hj] at e
      have q := R.slot j sv e
      cases sv with
      | un => trivial
      | raw z => exact q
      | dat d =>
        obtain ⟨v, e1, a⟩ := q
        exact ⟨v, e1, At.mono s.ff d v a⟩
      | obj l ds => exact absurd e (hno.get j hj l ds)
    · rw [restE_oth hj] at e
      have q := R2.slot j sv e
      rw [wipe_oth hj] at q
      exact q
  · obtain ⟨n1, h1⟩ := ow j l ds h1
    obtain ⟨n2, h2⟩ := ow k m es h2
    refine R2.dist j k l ds m es h1 h2 ?_
    rw [wipe_oth n1, wipe_oth n2]
    exact h3
  · rcases s.fn b o h with z | z | z
    · exact .inl z
    · exact .inr (.inl z)
    · exact .inr (.inr (own1 b z))
  · obtain ⟨hj, h⟩ := ow j l ds h
    obtain ⟨ds', e⟩ := s.ow j l ds h
    exact ⟨ds', (own_wipe e).2⟩
end
def fLcR (I : PI') (G : TG') (TT : PT') (TE : PE') (vs : List Nat) : PF' := fun env Q => I env fun ds env1 => NoOwn env1 vs ∧ ds.length ≤ 16777215 ∧ pLc G TT TE vs (fun acc env2 => Q acc (restE env1 env2 vs)) ds [] (wipeE env1 vs)
section
variable {X : Cz}
theorem lcR_sound {wi : TI} {g : TG} {tt : TT} {te : TE} {K : FgX} {I : PI'} {S : List Nat} {G : TG'} {TT : PT'} {TE : PE'} {vs : List Nat} (l1 : LI K wi I) (l2 : LG K S g G) (l3 : LT K tt TT) (l4 : LE K te TE) (hS : ∀ j ∈ S, j ∈ vs) : LF K (tLc wi g tt te vs) (fLcR I G TT TE vs) := fun C σ H F env Q Qp R k q => by
  refine l1 C σ H F env _ _ R (fun J ds H1 F1 env1 s1 it q1 => ?_) q
  obtain ⟨hno, hlen, q1⟩ := q1
  obtain ⟨Gd, Y, w, gd, yd⟩ := it
  intro Dp hD
  obtain ⟨sD, fD, h0D, noD⟩ := s1.rel.alloc0 (o := .lst []) hD
  have hτ : L2.wipe (L2.wipe σ vs) vs = L2.wipe σ vs := wipe_wipe σ vs
  have R1 : Rel K C (L2.wipe σ vs) H1 F1 (wipeE env1 vs) := s1.rel.wipe vs
  generalize hE : wipeE env1 vs = envW at R1 q1
  have hw : wipeE envW vs = envW := by rw [← hE]; exact wipeE_wipeE env1 vs
  obtain ⟨sD', _, _, noD'⟩ := R1.alloc0 (o := .lst []) hD
  refine lc_it w (Pv := fun i H => ∃ F2 env2 acc accv, Stp K C (L2.wipe σ vs) H1 F1 envW H F2 env2 ∧ H Dp = some (.lst accv) ∧ F2 Dp = none ∧ ¬ Own (L2.wipe σ vs) env2 Dp ∧ AtAll K F2 acc accv ∧ acc.length ≤ i ∧ wipeE env2 vs = env2 ∧ pLc G TT TE vs (fun acc env2 => Qp acc (restE env1 env2 vs)) (ds.drop i) acc env2)
    ⟨F1, envW, [], [], sD', upd_same, fD, noD', AtAll.nil, Nat.le_refl _, hw, by simpa using q1⟩ (fun i H hi ⟨F2, env2, acc, accv, s2, _⟩ => gd H (s2.ff.trans' s2.rel.frz)) (fun i x H H' hi ⟨F2, env2, acc, accv, s2, hDl, fD2, noD2, aa, hl, hw2, q2⟩ y => ?_) (fun H ⟨F2, env2, acc, accv, s2, hDl, fD2, noD2, aa, hl, hw2, q2⟩ => ?_)
  · obtain ⟨F3, d, e, s3, a3⟩ := (YOk.mono s2.ff (yd i H x H' hi (s2.ff.trans' s2.rel.frz) y)).rel s2.rel
    have e2 : ds.drop i = d :: ds.drop (i + 1) := by
      obtain ⟨hlt, e4⟩ := List.getElem?_eq_some_iff.mp e
      rw [List.drop_eq_getElem_cons hlt, e4]
    rw [e2] at q2
    have acc3 := s2.trans s3
    have hD3 : H' Dp = some (.lst accv) := s3.fr _ _ hDl noD2
    have fD3 : F3 Dp = none := by
      cases qq : F3 Dp with
      | none => rfl
      | some u =>
        rcases s3.fn _ _ qq with z | z | z
        · rw [fD2] at z; cases z
        · rw [hDl] at z; cases z
        · exact absurd z noD2
    refine l2 C _ H' F3 env2 x d _ _ s3.rel a3 (fun σ2 env3 R3 tg q3 => ?_) q2
    have r3 : L2.wipe σ2 vs = L2.wipe σ vs := (Stp.under hτ hS acc3 tg (Stp.refl R3)).1
    refine ⟨r3, ?_⟩
    have no3 : ¬ Own σ2 env3 Dp := fun ⟨j, l, es, e1, e2⟩ => by
      by_cases hj : j ∈ S
      · obtain ⟨f1, f2⟩ := tg.mem j l es hj e1
        exact noD2 ⟨j, l, es, f1, f2 ▸ e2⟩
      · obtain ⟨f1, f2⟩ := tg.oth j hj
        exact noD2 ⟨j, l, es, f2 ▸ e1, f1 ▸ e2⟩
    refine l3 C σ2 H' F3 env3 _ _ R3 (fun b H5 F5 env5 s5 q5 => ?_) q3
    have hD5 : H5 Dp = some (.lst accv) := s5.fr _ _ hD3 no3
    have fD5 : F5 Dp = none := by
      cases qq : F5 Dp with
      | none => rfl
      | some u =>
        rcases s5.fn _ _ qq with z | z | z
        · rw [fD3] at z; cases z
        · rw [hD3] at z; cases z
        · exact absurd z no3
    cases b with
    | true =>
      rw [if_pos rfl] at q5 ⊢
      refine l4 C σ2 H5 F5 env5 _ _ s5.rel (fun v H6 F6 env6 o s6 a6 q6 => ?_) q5
      obtain ⟨y', env7, e7, q7⟩ := q6
      obtain ⟨F7, s7, a7⟩ := fz_ok s6.rel a6 e7
      have st := (s5.trans s6).trans s7
      have no5 : ¬ Own σ2 env5 Dp := fun z => no3 (Own.sub s5.ow z)
      have hD6 : H6 Dp = some (.lst accv) := (s6.fr _ _ hD5 no5)
      have fD7 : F7 Dp = none := by
        cases qq : F7 Dp with
        | none => rfl
        | some u =>
          rcases st.fn _ _ qq with z | z | z
          · rw [fD3] at z; cases z
          · rw [hD3] at z; cases z
          · exact absurd z no3
      obtain ⟨_, u7⟩ := Stp.under hτ hS acc3 tg st
      have no7 : ¬ Own (L2.wipe σ vs) (wipeE env7 vs) Dp := fun z => noD2 (by
        have z1 := Own.sub u7.ow z
        exact absurd z1 noD')
      refine ⟨accv, hD6, ?_, F7, wipeE env7 vs, acc ++ [y'], accv ++ [v], ?_, upd_same, fD7, no7, AtAll.app (AtAll.mono ((s3.ff.trans' st.ff)) _ _ aa) (AtAll.cons a7 AtAll.nil), by rw [List.length_append]; simp only [List.length_cons, List.length_nil]; omega, ?_, q7⟩
      · rw [aa.len, sizeLine_eq]
        have := hi
        omega
      · exact u7.other hD hD6 fD7 h0D no7
      · -- wiped twice
        apply List.ext_getElem?
        intro j
        by_cases hj : j ∈ vs
        · cases z : (wipeE env7 vs)[j]? with
          | none =>
            rw [List.getElem?_eq_none_iff] at z ⊢
            rw [wipeE_len]; exact z
          | some sv =>
            have z1 := wipeE_mem hj z
            have hjl : j < (wipeE (wipeE env7 vs) vs).length := by
              rw [wipeE_len]
              exact (List.getElem?_eq_some_iff.mp z).1
            have z2 := wipeE_mem hj (List.getElem?_eq_getElem hjl)
            rw [List.getElem?_eq_getElem hjl, z2, z1]
        · rw [wipeE_oth hj]
    | false =>
      rw [if_neg (by decide)] at q5 ⊢
      obtain ⟨_, u7⟩ := Stp.under hτ hS acc3 tg s5
      have no7 : ¬ Own (L2.wipe σ vs) (wipeE env5 vs) Dp := fun z => noD' (Own.sub u7.ow z)
      refine ⟨F5, wipeE env5 vs, acc, accv, u7, hD5, fD5, no7, AtAll.mono (s3.ff.trans' s5.ff) _ _ aa, by omega, ?_, q5⟩
      apply List.ext_getElem?
      intro j
      by_cases hj : j ∈ vs
      · cases z : (wipeE env5 vs)[j]? with
        | none =>
          rw [List.getElem?_eq_none_iff] at z ⊢
          rw [wipeE_len]; exact z
        | some sv =>
          have z1 := wipeE_mem hj z
          have hjl : j < (wipeE (wipeE env5 vs) vs).length := by
            rw [wipeE_len]
            exact (List.getElem?_eq_some_iff.mp z).1
          have z2 := wipeE_mem hj (List.getElem?_eq_getElem hjl)
          rw [List.getElem?_eq_getElem hjl, z2, z1]
      · rw [wipeE_oth hj]
  · rw [List.drop_length] at q2
    have q2 : Qp acc (restE env1 env2 vs) := q2
    subst hE
    have st : Stp K C σ H1 F1 env1 H F2 (restE env1 env2 vs) := s2.restore s1.rel hno hw2
    exact k Dp accv acc H F2 _ (s1.trans st) hDl fD2 h0D (fun z => noD2 ((Own.restore hno hw2 (by have a := s1.rel.len; have b := s2.rel.len; rw [wipe_length] at b; omega)).mp z)) (s1.dm _ hD) aa q2
theorem f_lcR {elt tg iter : Expr} {ifs : List Expr} {scope : Scope} {own : List (Str × Nat)} {pos : Pos} {I : PI'} {S : List Nat} {G : TG'} {TT : PT'} {TE : PE'} (hc : X.calm = true) (hN : X.N.Nodup) (ok : BlkOk X.N X.env.scope scope own) (hi : EI X tg iter I) (hg : Blk X scope fun Y => EG Y S tg G) (ht : Blk X scope fun Y => ETs Y ifs TT) (he : Blk X scope fun Y => EV Y elt TE)
    (hS : ∀ j ∈ S, j ∈ own.map (·.2) := by decide) (hs : ∀ x, foldedSetIterable iter X.env x = pure x := by intro _; rfl) : EF X (.ListComp elt [⟨tg, iter, ifs, 0⟩] scope pos) (fLcR I G TT TE (own.map (·.2))) := by
  obtain ⟨wi, h1, l1⟩ := hi.ex
  obtain ⟨g, h2, l2⟩ := blk_g hg
  obtain ⟨tt, h3, l3⟩ := blk_ts ht
  obtain ⟨te, h4, l4⟩ := blk_ev he
  exact ⟨_, pe_lc hc hN h1 ok h2 h3 h4 hs, lcR_sound l1 l2 l3 l4 hS⟩
/-- name = [..] on one line -/
theorem s_setLcRF {i : Nat} {y : Str} {py : Pos} {elt tg iter : Expr} {ifs : List Expr} {scope : Scope} {own : List (Str × Nat)} {pos spos : Pos} {I : PI'} {S : List Nat} {G : TG'} {TT : PT'} {TE : PE'} (hc : X.calm = true) (hN : X.N.Nodup) (hy : X.N[i]? = some y) (hyl : X.env.scope.names.lookup y = some .local)
    (hsw : swapsWith (.ListComp elt [⟨tg, iter, ifs, 0⟩] scope pos) (some (.Name y py)) spos.line X.env = pure true) (ok : BlkOk X.N X.env.scope scope own) (hi : EI X tg iter I) (hg : Blk X scope fun Y => EG Y S tg G) (ht : Blk X scope fun Y => ETs Y ifs TT) (he : Blk X scope fun Y => EV Y elt TE)
    (hS : ∀ j ∈ S, j ∈ own.map (·.2) := by decide) (hs : ∀ x, foldedSetIterable iter X.env x = pure x := by intro _; rfl) : ES X (.Assign [.Name y py] (.ListComp elt [⟨tg, iter, ifs, 0⟩] scope pos) spos) (sAsgF i (fLcR I G TT TE (own.map (·.2)))) := by
  obtain ⟨wi, h1, l1⟩ := hi.ex
  obtain ⟨g, h2, l2⟩ := blk_g hg
  obtain ⟨tt, h3, l3⟩ := blk_ts ht
  obtain ⟨te, h4, l4⟩ := blk_ev he
  refine ⟨_, ps_setLc hc hN hy hyl hsw h1 ok h2 h3 h4 hs, fun C σ H F env D Dp R k q => ?_⟩
  refine (lcR_sound l1 l2 l3 l4 hS) C σ H F env _ _ R (fun p xs ds H1 F1 env1 s1 hp fp h0 no hn a q1 => ?_) q
  exact k.nx _ H1 F1 _ (s1.rel.assignF (by rw [← s1.rel.len]; exact q1.1) hp fp h0 no a) s1.ff q1.2
theorem s_setLcR {i : Nat} {y : Str} {py : Pos} {elt tg iter : Expr} {ifs : List Expr} {scope : Scope} {own : List (Str × Nat)} {pos spos : Pos} {I : PI'} {S : List Nat} {G : TG'} {TT : PT'} {TE : PE'} (hc : X.calm = true) (hN : X.N.Nodup) (hy : X.N[i]? = some y) (hyl : X.env.scope.names.lookup y = some .local)
    (hsw : swapsWith (.ListComp elt [⟨tg, iter, ifs, 0⟩] scope pos) (some (.Name y py)) spos.line X.env = pure true) (ok : BlkOk X.N X.env.scope scope own) (hi : EI X tg iter I) (hg : Blk X scope fun Y => EG Y S tg G) (ht : Blk X scope fun Y => ETs Y ifs TT) (he : Blk X scope fun Y => EV Y elt TE)
    (hS : ∀ j ∈ S, j ∈ own.map (·.2) := by decide) (hs : ∀ x, foldedSetIterable iter X.env x = pure x := by intro _; rfl) : ES X (.Assign [.Name y py] (.ListComp elt [⟨tg, iter, ifs, 0⟩] scope pos) spos) (sAsg i (qF (fLcR I G TT TE (own.map (·.2))))) := by
  obtain ⟨wi, h1, l1⟩ := hi.ex
  obtain ⟨g, h2, l2⟩ := blk_g hg
  obtain ⟨tt, h3, l3⟩ := blk_ts ht
  obtain ⟨te, h4, l4⟩ := blk_ev he
  refine ⟨_, ps_setLc hc hN hy hyl hsw h1 ok h2 h3 h4 hs, fun C σ H F env D Dp R k q => ?_⟩
  refine (lcR_sound l1 l2 l3 l4 hS) C σ H F env _ _ R (fun p xs ds H1 F1 env1 s1 hp fp h0 no hn a q1 => ?_) q
  obtain ⟨d, env2, e, hl, q1⟩ := q1
  simp only [OV.fz, Option.some.injEq, Prod.mk.injEq] at e
  obtain ⟨rfl, rfl⟩ := e
  have ff : Le F1 (upd F1 p (.lst xs)) := fun b u h => by
    rw [upd_ne (ne_of_none h fp)]; exact h
  have R1 := s1.rel.freeze hp fp h0 no
  exact k.nx _ H1 _ _ (R1.assign (by rw [← R1.len]; exact hl) (At.list_of upd_same (AtAll.mono ff _ _ a))) (s1.ff.trans' ff) q1
end
theorem nob_d {d : D} : nob (some (.dat d)) ↔ True := Iff.rfl
theorem nob_u : nob (some .un) ↔ True := Iff.rfl
end Sw

set_option Elab.async false
set_option linter.all false
set_option maxRecDepth 100000
namespace Sw
open PySem PySem.Spec L2
/-! ### what stands behind is left closed while a statement is walked -/
theorem sSeq_abs {A B : PS'} {Dp : PEnds} {env : List SV} (h : ∀ B', B' = B → sSeq A B' Dp env) : sSeq A B Dp env := h B rfl
theorem sIf_abs {c : PT'} {A B : PS'} {Dp : PEnds} {env : List SV} (h : ∀ A' B', A' = A → B' = B → sIf c A' B' Dp env) : sIf c A B Dp env := h A B rfl rfl
theorem sIf_split {c : PT'} {A B : PS'} {Dp : PEnds} {env : List SV} (h : c env fun b env1 => if b = true then A Dp env1 else B Dp env1) : sIf c A B Dp env := h
/-- the ends, closed -/
theorem ends_abs {A : PS'} {Dp : PEnds} {env : List SV} (h : ∀ D', D' = Dp → A D' env) : A Dp env := h Dp rfl
end Sw

set_option Elab.async false
set_option linter.all false
set_option maxRecDepth 100000
namespace Sw
open PySem PySem.Spec L2
/-! ### keys as data -/
mutual
theorem eqv_data : ∀ a b : NestedKey, PyData.eqv a.data b.data = NestedKey.beq a b
  | .none, b => by cases b <;> simp [NestedKey.data, PyData.eqv, NestedKey.beq]
  | .num i, b => by
    cases b with
    | num j =>
      simp only [NestedKey.data, PyData.eqv, NestedKey.beq]
      by_cases h : i = j <;> simp [h]
    | _ => simp [NestedKey.data, PyData.eqv, NestedKey.beq]
  | .text x, b => by
    cases b with
    | text y =>
      simp only [NestedKey.data, PyData.eqv, NestedKey.beq]
      by_cases h : x = y <;> simp [h]
    | _ => simp [NestedKey.data, PyData.eqv, NestedKey.beq]
  | .tup ks, b => by
    cases b with
    | tup ls =>
      simp only [NestedKey.data, PyData.eqv, NestedKey.beq]
      exact eqv_datas ks ls
    | _ => simp [NestedKey.data, PyData.eqv, NestedKey.beq]
theorem eqv_datas : ∀ ks ls : List NestedKey, PyData.eqvAll (NestedKey.datas ks) (NestedKey.datas ls) = NestedKey.beqAll ks ls
  | [], [] => rfl
  | [], _ :: _ => rfl
  | _ :: _, [] => rfl
  | k :: ks, l :: ls => by
    simp only [NestedKey.datas, PyData.eqvAll, NestedKey.beqAll]
    rw [eqv_data k l, eqv_datas ks ls]
end
theorem eqv_nk (a b : NestedKey) : PyData.eqv (nkD a) (nkD b) = decide (a = b) := by
  rw [NestedKey.decide_eq]
  exact eqv_data a b
theorem eqv_k (a b : Key) : PyData.eqv (kD a) (kD b) = decide (a = b) := by
  cases a with
  | inl i =>
    cases b with
    | inl j =>
      simp only [kD, PyData.eqv]
      by_cases h : i = j <;> simp [h]
    | inr y => simp [kD, PyData.eqv]
  | inr x =>
    cases b with
    | inl j => simp [kD, PyData.eqv]
    | inr y =>
      simp only [kD, PyData.eqv]
      by_cases h : x = y <;> simp [h]
/-- what a dict holds at a key -/
def lookD (kds : List (D × D)) (k : D) : Option D := (kds.find? fun p => PyData.eqv p.1 k).map Prod.snd
/-- the dict behind a store -/
def putD (kds : List (D × D)) (k v : D) : List (D × D) := if (lookD kds k).isSome = true then kds.map fun p => if PyData.eqv p.1 k = true then (p.1, v) else p else kds ++ [(k, v)]
/-- a key of a dict; t: the keys are tuples -/
def KeyT : Bool → D → Prop
  | false, k => ∃ kk : Key, k = kD kk
  | true, k => ∃ nk : NestedKey, k = nkD nk ∧ (∃ z, nk = .tup z) ∧ nk.depth ≤ 8
theorem lookD_nil (k : D) : lookD [] k = none := rfl
theorem lookD_cons (p : D × D) (r : List (D × D)) (k : D) : lookD (p :: r) k = if PyData.eqv p.1 k = true then some p.2 else lookD r k := by
  unfold lookD
  rw [List.find?_cons]
  cases PyData.eqv p.1 k <;> rfl
theorem putD_len (kds : List (D × D)) (k v : D) : (putD kds k v).length ≤ kds.length + 1 := by
  unfold putD
  split
  · rw [List.length_map]; omega
  · simp
/-! ### what stands in the heap -/
section
variable {X : Cz} {pins : List (Addr × Obj)} {σ : L2.St} {H F : Hp} {s : Shared}
theorem key_at {K : FgK} {kk : Key} {x : V} (h : At K F (kD kk) x) : x = kV kk := by
  cases kk with
  | inl i => simpa [kD, At, kV] using h
  | inr z => simpa [kD, At, kV] using h
mutual
theorem nested_at (I : Inv X pins σ H s) (hF : Le F H) : ∀ (nk : NestedKey) (v : V) (u : Value), At X.fr F (nkD nk) v → RelV v u → NestedIs s.heap nk u
  | .none, v, u, a, r => by
    have a : v = .non := by simpa [nkD, NestedKey.data, At] using a
    subst a
    cases (show u = Value.none from r)
    exact .none
  | .num i, v, u, a, r => by
    have a : v = .int i := by simpa [nkD, NestedKey.data, At] using a
    subst a
    obtain ⟨t, q⟩ := (show ∃ t, u = Value.int i t from r)
    cases q
    exact .int i t
  | .text x, v, u, a, r => by
    have a : v = .str x := by simpa [nkD, NestedKey.data, At] using a
    subst a
    obtain ⟨t, q⟩ := (show ∃ t, u = Value.str x t from r)
    cases q
    exact .text x t
  | .tup ks, v, u, a, r => by
    have a : At X.fr F (.tuple (NestedKey.datas ks)) v := a
    simp only [At] at a
    obtain ⟨b, xs, rfl, ht, al⟩ := a
    cases (show u = Value.ref b from r)
    obtain ⟨its, rv, ⟨ob, h1, h2, n, h3⟩, _⟩ := I.tuple (Le.tupAt hF ht).sqT
    refine .tup h1 h2 h3 ?_
    simpa using nested_ats I hF ks xs its al rv
theorem nested_ats (I : Inv X pins σ H s) (hF : Le F H) : ∀ (ks : List NestedKey) (xs : List V) (us : List Value), AtAll X.fr F (NestedKey.datas ks) xs → Vals xs us → NestedAll s.heap ks us
  | [], xs, us, a, r => by
    have a : xs = [] := by simpa [NestedKey.datas, AtAll] using a
    subst a
    cases r
    exact .nil
  | k :: ks, xs, us, a, r => by
    simp only [NestedKey.datas, AtAll] at a
    obtain ⟨x, ys, rfl, a, al⟩ := a
    cases r with
    | cons r1 r2 => exact .cons (nested_at I hF k x _ a r1) (nested_ats I hF ks ys _ al r2)
end
abbrev PairZ : List (NestedKey × Addr × V) → List (NestedKey × Addr × Value) → Prop := Paired fun p q => p.1 = q.1 ∧ p.2.1 = q.2.1 ∧ RelV p.2.2 q.2.2
theorem AtN.len {K : FgK} : ∀ {kds : List (D × D)} {zs : List (NestedKey × Addr × V)}, AtN K F kds zs → zs.length = kds.length
  | [], zs, h => by simp only [AtN] at h; subst h; rfl
  | (k, d) :: r, zs, h => by
    simp only [AtN] at h
    obtain ⟨_, _, _, zr, rfl, _, _, _, q⟩ := h
    simp [AtN.len q]
theorem AtK.len {K : FgK} : ∀ {kds : List (D × D)} {zs : List (Key × V)}, AtK K F kds zs → zs.length = kds.length
  | [], zs, h => by simp only [AtK] at h; subst h; rfl
  | (k, d) :: r, zs, h => by
    simp only [AtK] at h
    obtain ⟨_, _, zr, rfl, _, _, q⟩ := h
    simp [AtK.len q]
theorem AtN.is (I : Inv X pins σ H s) (hF : Le F H) : ∀ {kds : List (D × D)} {zs : List (NestedKey × Addr × V)} {us : List (NestedKey × Addr × Value)}, AtN X.fr F kds zs → (∀ x ∈ zs, ∃ z, x.1 = .tup z ∧ x.1.depth ≤ 8) → PairZ zs us → ∀ x ∈ us, (nestedKind X.prog X.w).is s.heap x.1 x.2.1
  | [], zs, us, h, _, p, x, hx => by
    simp only [AtN] at h
    subst h
    cases p
    cases hx
  | (k, d) :: r, zs, us, h, hd, p, x, hx => by
    simp only [AtN] at h
    obtain ⟨kk, b, v, zr, rfl, rfl, a1, a2, q⟩ := h
    cases p with
    | cons p1 p2 =>
      rcases List.mem_cons.mp hx with rfl | hx
      · obtain ⟨e1, e2, _⟩ := p1
        simp only at e1 e2
        obtain ⟨z, _, hz⟩ := hd _ List.mem_cons_self
        have n := nested_at I hF kk (.ref b) (.ref b) a1 rfl
        exact ⟨by rw [← e1, ← e2]; exact n, by rw [← e1]; exact hz⟩
      · exact AtN.is I hF q (fun y hy => hd y (List.mem_cons_of_mem _ hy)) p2 x hx
theorem keyed_of (I : Inv X pins σ H s) (hF : Le F H) {a : Addr} {o : HO} {kds : List (D × D)} {zs : List (NestedKey × Addr × V)} (ha : Rd H a o) (hn : IsN X.fr a zs o) (hz : AtN X.fr F kds zs) :
    zs.length ≤ sizeLine ∧ (a == sysModules) = false ∧ (∀ x ∈ zs, ∃ z, x.1 = .tup z ∧ x.1.depth ≤ 8) ∧ ∃ us, PairZ zs us ∧ s.heap.DictOfH (nestedKind X.prog X.w) a us := by
  obtain ⟨h1, h2, h3, us, h4, ob, es, ep, h5, h6, h7, h8, h9⟩ := hn.obj (ha.ok I.hok)
  exact ⟨h1, h2, h3, us, h4, ob, es, ep, h5, h6, h7, h8, AtN.is I hF hz h3 h4, h9⟩
/-- a look-up by data -/
theorem look_N {K : FgK} (nk : NestedKey) : ∀ {kds : List (D × D)} {zs : List (NestedKey × Addr × V)} {us : List (NestedKey × Addr × Value)}, AtN K F kds zs → PairZ zs us →
    (lookD kds (nkD nk) = none ∧ atKey us nk = none) ∨ ∃ d v p, lookD kds (nkD nk) = some d ∧ atKey us nk = some p ∧ At K F d v ∧ RelV v p.2
  | [], zs, us, h, p => by
    simp only [AtN] at h
    subst h
    cases p
    exact .inl ⟨rfl, rfl⟩
  | (k, d) :: r, zs, us, h, p => by
    simp only [AtN] at h
    obtain ⟨kk, b, v, zr, rfl, rfl, a1, a2, q⟩ := h
    cases p with
    | @cons z0 u0 _ ur p1 p2 =>
      obtain ⟨e1, e2, e3⟩ := p1
      simp only at e1 e2 e3
      have eu : atKey (u0 :: ur) nk = if u0.1 = nk then some u0.2 else atKey ur nk := by
        unfold atKey
        rw [List.find?_cons]
        by_cases h : u0.1 = nk <;> simp [h]
      rw [lookD_cons, eu, eqv_nk]
      by_cases h : kk = nk
      · rw [if_pos (by simpa using h), if_pos (by rw [← e1]; exact h)]
        exact .inr ⟨d, v, u0.2, rfl, rfl, a2, e3⟩
      · rw [if_neg (by simpa using h), if_neg (by rw [← e1]; exact h)]
        exact look_N nk q p2
theorem look_K {K : FgK} (kk : Key) : ∀ {kds : List (D × D)} {kvs : List (Key × V)}, AtK K F kds kvs → (lookD kds (kD kk) = none ∧ valV kvs kk = none) ∨ ∃ d v, lookD kds (kD kk) = some d ∧ valV kvs kk = some v ∧ At K F d v
  | [], kvs, h => by
    simp only [AtK] at h
    subst h
    exact .inl ⟨rfl, rfl⟩
  | (k, d) :: r, kvs, h => by
    simp only [AtK] at h
    obtain ⟨k2, v, zr, rfl, rfl, a2, q⟩ := h
    rw [lookD_cons, eqv_k]
    by_cases h : k2 = kk
    · rw [if_pos (by simpa using h), valV_pos (p := (k2, v)) h]
      exact .inr ⟨d, v, rfl, rfl, a2⟩
    · rw [if_neg (by simpa using h), valV_neg (p := (k2, v)) h]
      exact look_K kk q
/-- a store by data -/
theorem AtK.map_put {K : FgK} (kk : Key) {v : D} {x : V} (hv : At K F v x) : ∀ {kds : List (D × D)} {kvs : List (Key × V)}, AtK K F kds kvs → AtK K F (kds.map fun p => if PyData.eqv p.1 (kD kk) = true then (p.1, v) else p) (kvs.map fun p => if p.1 = kk then (p.1, x) else p)
  | [], kvs, h => by
    simp only [AtK] at h
    subst h
    simp [AtK]
  | (k, d) :: r, kvs, h => by
    simp only [AtK] at h
    obtain ⟨k2, y, zr, rfl, rfl, a2, q⟩ := h
    rw [List.map_cons, List.map_cons]
    have ih := AtK.map_put kk hv q
    by_cases e : k2 = kk
    · rw [if_pos (by rw [eqv_k]; simpa using e), if_pos e]
      simp only [AtK]
      exact ⟨k2, x, _, rfl, rfl, hv, ih⟩
    · rw [if_neg (by rw [eqv_k]; simpa using e), if_neg e]
      simp only [AtK]
      exact ⟨k2, y, _, rfl, rfl, a2, ih⟩
theorem AtK.snoc {K : FgK} {kk : Key} {v : D} {x : V} (hv : At K F v x) : ∀ {kds : List (D × D)} {kvs : List (Key × V)}, AtK K F kds kvs → AtK K F (kds ++ [(kD kk, v)]) (kvs ++ [(kk, x)])
  | [], kvs, h => by
    simp only [AtK] at h
    subst h
    simp only [List.nil_append, AtK]
    exact ⟨kk, x, [], rfl, rfl, hv, rfl⟩
  | (k, d) :: r, kvs, h => by
    simp only [AtK] at h
    obtain ⟨k2, y, zr, rfl, rfl, a2, q⟩ := h
    simp only [List.cons_append, AtK]
    exact ⟨k2, y, _, rfl, rfl, a2, AtK.snoc hv q⟩
theorem AtN.map_put {K : FgK} (kk : NestedKey) {v : D} {x : V} (hv : At K F v x) : ∀ {kds : List (D × D)} {kvs : List (NestedKey × Addr × V)}, AtN K F kds kvs → AtN K F (kds.map fun p => if PyData.eqv p.1 (nkD kk) = true then (p.1, v) else p) (kvs.map fun p => if p.1 = kk then (p.1, p.2.1, x) else p)
  | [], kvs, h => by
    simp only [AtN] at h
    subst h
    simp [AtN]
  | (k, d) :: r, kvs, h => by
    simp only [AtN] at h
    obtain ⟨k2, b, y, zr, rfl, rfl, a1, a2, q⟩ := h
    rw [List.map_cons, List.map_cons]
    have ih := AtN.map_put kk hv q
    by_cases e : k2 = kk
    · rw [if_pos (by rw [eqv_nk]; simpa using e), if_pos e]
      simp only [AtN]
      exact ⟨k2, b, x, _, rfl, rfl, a1, hv, ih⟩
    · rw [if_neg (by rw [eqv_nk]; simpa using e), if_neg e]
      simp only [AtN]
      exact ⟨k2, b, y, _, rfl, rfl, a1, a2, ih⟩
theorem AtN.snoc {K : FgK} {kk : NestedKey} {v : D} {b : Addr} {x : V} (hk : At K F (nkD kk) (.ref b)) (hv : At K F v x) : ∀ {kds : List (D × D)} {kvs : List (NestedKey × Addr × V)}, AtN K F kds kvs → AtN K F (kds ++ [(nkD kk, v)]) (kvs ++ [(kk, b, x)])
  | [], kvs, h => by
    simp only [AtN] at h
    subst h
    simp only [List.nil_append, AtN]
    exact ⟨kk, b, x, [], rfl, rfl, hk, hv, rfl⟩
  | (k, d) :: r, kvs, h => by
    simp only [AtN] at h
    obtain ⟨k2, c, y, zr, rfl, rfl, a1, a2, q⟩ := h
    simp only [List.cons_append, AtN]
    exact ⟨k2, c, y, _, rfl, rfl, a1, a2, AtN.snoc hk hv q⟩
theorem PairZ.map_put {kk : NestedKey} {x : V} {w : Value} (r : RelV x w) : ∀ {zs : List (NestedKey × Addr × V)} {us : List (NestedKey × Addr × Value)}, PairZ zs us → PairZ (zs.map fun p => if p.1 = kk then (p.1, p.2.1, x) else p) (us.map (putAt kk w))
  | _, _, .nil => .nil
  | _, _, .cons (a := a) (b := b) p1 p2 => by
    rw [List.map_cons, List.map_cons]
    refine .cons ?_ (PairZ.map_put r p2)
    obtain ⟨e1, e2, e3⟩ := p1
    unfold putAt
    by_cases h : a.1 = kk
    · rw [if_pos h, if_pos (by rw [← e1]; exact h)]
      exact ⟨e1, e2, r⟩
    · rw [if_neg h, if_neg (by rw [← e1]; exact h)]
      exact ⟨e1, e2, e3⟩
end
end Sw

set_option Elab.async false
set_option linter.all false
set_option maxRecDepth 100000
namespace Sw
open PySem PySem.Spec L2
/-! ### dicts: the operations -/
section
variable {X : Cz} {pins : List (Addr × Obj)} {σ : L2.St} {H F : Hp} {s : Shared} {a : Addr} {o : HO} {t : Bool} {kds : List (D × D)} {k : D} {y : V} {u : Value} {A : Around} {E : Value → Shared → Prop}
theorem IsN.intro {K : FgK} {P : Program} {w : World} {H' : Hp} {h' : Heap} {zs : List (NestedKey × Addr × V)} {us : List (NestedKey × Addr × Value)} (e1 : K.P = P) (e2 : K.w = w) (hz : zs.length ≤ sizeLine) (hd : (a == sysModules) = false) (hk : ∀ x ∈ zs, ∃ z, x.1 = .tup z ∧ x.1.depth ≤ 8) (p : PairZ zs us) (dd : h'.DictOfH (nestedKind P w) a us) : ∃ o, IsN K a zs o ∧ ObjOk P w H' h' a o := by
  obtain ⟨ob, es, ep, h5, h6, h7, h8, _, h9⟩ := dd
  subst e1 e2
  refine ⟨_, rfl, ⟨hz, hd, hk, us, p, ob, es, ep, h5, h6, h7, h8, h9⟩, ⟨ob, h5⟩, ?_⟩
  rintro h1 h2 ⟨_, _, _, us', p', ob', es', ep', g5, g6, g7, g8, g9⟩ st
  exact ⟨hz, hd, hk, us', p', ob', es', ep', st _ g5, g6, g7, g8, g9⟩
theorem dic_typeIs (I : Inv X pins σ H s) (hF : Le F H) (ha : Rd H a o) (c : CtOk X.fr F a o (.dic t kds)) : s.TypeIs (.ref a) "dict" := by
  cases t with
  | false =>
    obtain ⟨kvs, rfl, _⟩ := c
    obtain ⟨_, _, vs, _, dd⟩ := dk_rd I.hok ha
    exact dd.typeIs
  | true =>
    obtain ⟨zs, hn, hz⟩ := c
    obtain ⟨_, _, _, us, _, dd⟩ := keyed_of I hF ha hn hz
    exact dd.typeIs
theorem dic_in (neg : Bool) {Q : Value → Shared → Prop} (hu : X.A.units + 64 < cLine) (I : Inv X pins σ H s) (hF : Le F H) (ha : Rd H a o) (c : CtOk X.fr F a o (.dic t kds)) (hk : KeyT t k) (ak : At X.fr F k y) (ry : RelV y u)
    (h : ∀ s', Inv X pins σ H s' → Q (.bool (if neg then !(lookD kds k).isSome else (lookD kds k).isSome)) s') : wpAny (model X.prog X.w) X.A (compareOp (if neg then .NotIn else .In) u (.ref a)) Q E s := by
  cases t with
  | false =>
    obtain ⟨kvs, rfl, ck⟩ := c
    obtain ⟨kk, rfl⟩ := hk
    have ey := key_at ak
    subst ey
    have e : (lookD kds (kD kk)).isSome = (valV kvs kk).isSome := by
      rcases look_K kk ck with ⟨h1, h2⟩ | ⟨d, v, h1, h2, _⟩ <;> rw [h1, h2] <;> rfl
    cases neg with
    | false => exact d_in (by omega) I (.inl ⟨_, _, ha, rfl, rfl⟩) ry fun s' I' => by have := h s' I'; rw [e] at this; exact this
    | true => exact d_notIn (by omega) I (.inl ⟨_, _, ha, rfl, rfl⟩) ry fun s' I' => by have := h s' I'; rw [e] at this; exact this
  | true =>
    obtain ⟨zs, hn, hz⟩ := c
    obtain ⟨nk, rfl, ⟨z, rfl⟩, hd⟩ := hk
    obtain ⟨l, hs, hks, us, p, dd⟩ := keyed_of I hF ha hn hz
    obtain ⟨b, xs, rfl, _⟩ := (show ∃ b xs, y = V.ref b ∧ _ by have q := ak; simp only [nkD, NestedKey.data, At] at q; exact q)
    have n := nested_at I hF _ _ u ak ry
    cases (show u = Value.ref b from ry)
    have e : (lookD kds (nkD (.tup z))).isSome = (atKey us (.tup z)).isSome := by
      rcases look_N (.tup z) hz p with ⟨h1, h2⟩ | ⟨d, v, p, h1, h2, _⟩ <;> rw [h1, h2] <;> rfl
    have hr : (nestedKind X.prog X.w).room X.A.in1 := by show X.A.units + 1 + 8 < cLine; omega
    cases neg with
    | false => exact wpAny_in_heap hr ⟨n, hd⟩ hs dd (by have := h { s with toks := s.toks + (nestedKind X.prog X.w).draws (.tup z) } (I.tok _); rw [e] at this; exact this)
    | true => exact notIn_keyed hr ⟨n, hd⟩ hs ⟨us, dd, rfl⟩ (by have := h { s with toks := s.toks + (nestedKind X.prog X.w).draws (.tup z) } (I.tok _); rw [e] at this; rw [valueAt_pairsH, Option.isSome_map]; exact this)
theorem dic_get {d : D} {Q : Value → Shared → Prop} (hu : X.A.units + 64 < cLine) (I : Inv X pins σ H s) (hF : Le F H) (ha : Rd H a o) (c : CtOk X.fr F a o (.dic t kds)) (hk : KeyT t k) (ak : At X.fr F k y) (ry : RelV y u) (hl : lookD kds k = some d)
    (h : ∀ v w' s', Inv X pins σ H s' → At X.fr F d v → RelV v w' → Q w' s') : wpAny (model X.prog X.w) X.A (getItem (.ref a) u) Q E s := by
  cases t with
  | false =>
    obtain ⟨kvs, rfl, ck⟩ := c
    obtain ⟨kk, rfl⟩ := hk
    have ey := key_at ak
    subst ey
    rcases look_K kk ck with ⟨h1, h2⟩ | ⟨d', v, h1, h2, a2⟩
    · rw [h1] at hl; cases hl
    · rw [h1] at hl
      cases hl
      have g : DGet H a (kV kk) (some v) := by rw [← h2]; exact .inl ⟨_, _, ha, rfl, rfl⟩
      exact d_getItem (by omega) I g ry fun w' s' I' r => h v w' s' I' a2 r
  | true =>
    obtain ⟨zs, hn, hz⟩ := c
    obtain ⟨nk, rfl, ⟨z, rfl⟩, hd⟩ := hk
    obtain ⟨l, hs, hks, us, p, dd⟩ := keyed_of I hF ha hn hz
    obtain ⟨b, xs, rfl, _⟩ := (show ∃ b xs, y = V.ref b ∧ _ by have q := ak; simp only [nkD, NestedKey.data, At] at q; exact q)
    have n := nested_at I hF _ _ u ak ry
    cases (show u = Value.ref b from ry)
    have hr : (nestedKind X.prog X.w).room X.A.in1 := by show X.A.units + 1 + 8 < cLine; omega
    rcases look_N (.tup z) hz p with ⟨h1, h2⟩ | ⟨d', v, q, h1, h2, a2, r2⟩
    · rw [h1] at hl; cases hl
    · rw [h1] at hl
      cases hl
      exact wpAny_getItem_heap hr ⟨n, hd⟩ dd h2 (h v _ _ (I.tok _) a2 r2)
theorem dic_put {d : D} {v : V} {r : Value} {Q : Unit → Shared → Prop} (hu : X.A.units + 64 < cLine) (I : Inv X pins σ H s) (hF : Le F H) (ha : H a = some o) (fa : F a = none) (c : CtOk X.fr F a o (.dic t kds)) (hk : KeyT t k) (ak : At X.fr F k y) (ry : RelV y u) (av : At X.fr F d v) (rv : RelV v r) (hl : kds.length < sizeLine)
    (h : ∀ o' s', CtOk X.fr F a o' (.dic t (putD kds k d)) → Inv X pins σ (upd H a o') s' → Q () s') : wpAny (model X.prog X.w) X.A (setItem (.ref a) u r) Q E s := by
  cases t with
  | false =>
    obtain ⟨kvs, rfl, ck⟩ := c
    obtain ⟨kk, rfl⟩ := hk
    have ey := key_at ak
    subst ey
    refine d_setItem (by omega) I (DPut.k ha (by rw [ck.len]; exact hl)) ry rv fun s' I' => h _ s' ⟨_, rfl, ?_⟩ I'
    unfold putD
    rcases look_K kk ck with ⟨h1, h2⟩ | ⟨d', v', h1, h2, a2⟩
    · rw [h1, putK_new v h2, if_neg (by decide)]
      exact AtK.snoc av ck
    · rw [h1, if_pos (show (some d').isSome = true from rfl)]
      have e : putK kvs kk v = kvs.map fun p => if p.1 = kk then (p.1, v) else p := by
        unfold putK
        rw [valV_any, h2, if_pos (show (some v').isSome = true from rfl)]
      rw [e]
      exact AtK.map_put kk av ck
  | true =>
    obtain ⟨zs, hn, hz⟩ := c
    obtain ⟨nk, rfl, ⟨z, rfl⟩, hd⟩ := hk
    obtain ⟨l, hs, hks, us, p, dd⟩ := keyed_of I hF (.inl ha) hn hz
    obtain ⟨b, xs, rfl, _⟩ := (show ∃ b xs, y = V.ref b ∧ _ by have q := ak; simp only [nkD, NestedKey.data, At] at q; exact q)
    have n := nested_at I hF _ _ u ak ry
    cases (show u = Value.ref b from ry)
    have hr : (nestedKind X.prog X.w).room X.A.in1 := by show X.A.units + 1 + 8 < cLine; omega
    have hzl := hz.len
    refine wpAny_setItem_heap (hsz := by rw [← Paired.length p]; exact l) hr ⟨n, hd⟩ dd fun h' dd' hs' => ?_
    obtain ⟨zs', hz', hks', hzl', p'⟩ : ∃ zs', AtN X.fr F (putD kds (nkD (.tup z)) d) zs' ∧ (∀ x ∈ zs', ∃ z, x.1 = .tup z ∧ x.1.depth ≤ 8) ∧ zs'.length ≤ sizeLine ∧ PairZ zs' (storedH us (.tup z) b r) := by
      unfold putD
      rcases look_N (.tup z) hz p with ⟨h1, h2⟩ | ⟨d', v', q, h1, h2, a2, r2⟩
      · rw [h1, if_neg (by decide), storedH_new h2]
        refine ⟨zs ++ [(.tup z, b, v)], AtN.snoc ak av hz, fun x hx => ?_, by rw [List.length_append]; simp only [List.length_cons, List.length_nil]; omega, Paired.snoc p ⟨rfl, rfl, rv⟩⟩
        rcases List.mem_append.mp hx with e | e
        · exact hks x e
        · rw [List.mem_singleton.mp e]; exact ⟨z, rfl, hd⟩
      · rw [h1, if_pos (show (some d').isSome = true from rfl), storedH_old h2]
        refine ⟨_, AtN.map_put (.tup z) av hz, fun x hx => ?_, by rw [List.length_map]; exact l, PairZ.map_put rv p⟩
        obtain ⟨x0, hx0, rfl⟩ := List.mem_map.mp hx
        split
        · exact hks x0 hx0
        · exact hks x0 hx0
    have he : ∃ q, h'.get? a = some q := let ⟨q, _, _, hq, _⟩ := dd'; ⟨q, hq⟩
    have hm : Mut (H a) := by
      rw [ha]
      have e : o = _ := hn
      rw [e]
      exact True.intro
    -- the new object
    obtain ⟨ob, es, ep, h5, h6, h7, h8, _, h9⟩ := dd'
    have new : ∀ o', IsN X.fr a zs' o' → ObjOk X.prog X.w (upd H a o') h' a o' := fun o' e => by
      have e : o' = _ := e
      subst e
      refine ⟨⟨hzl', hs, hks', _, p', ob, es, ep, h5, h6, h7, h8, h9⟩, ⟨ob, h5⟩, ?_⟩
      rintro g1 g2 ⟨_, _, _, us', p2, ob', es', ep', q5, q6, q7, q8, q9⟩ st
      exact ⟨hzl', hs, hks', us', p2, ob', es', ep', st _ q5, q6, q7, q8, q9⟩
    exact h _ _ ⟨zs', rfl, hz'⟩ (d_write I hm hs' he (new _ rfl))
end
end Sw

set_option Elab.async false
set_option linter.all false
set_option maxRecDepth 100000
namespace Sw
open PySem PySem.Spec L2
/-! ### dicts: the rules -/
section
variable {X : Cz}
/-! raise, where the code never comes to -/
def sRaise : PS' := fun _ _ => False
theorem s_raise {a b : Option Expr} {pos : Pos} : ES X (.Raise a b pos) sRaise := ⟨fun _ _ _ => False, ⟨fun pins s σ H D I h => h.elim⟩, fun C σ H F env D Dp R k q => q⟩
/-! a new dict -/
def sAsgD (i : Nat) (t : Bool) : PS' := fun Dp env => i < env.length ∧ Dp.nx (env.set i (.dic t []))
theorem pe_dnewN {pos : Pos} : PE X (.Dict [] [] pos) (fun _ H Q => ∀ p o, H p = none → IsN X.fr p [] o → Q (.ref p) (upd H p o)) := ⟨fun pins s σ H Q I h => by
  refine wpAny_Dict_empty ⟨.ref s.heap.objs.size, _, I.laid (a := s.heap.objs.size) (o := .ext _) (t' := s.toks) (fun _ _ q => Heap.get?_push_of_some _ q) (Nat.le_refl _) ?_, rfl, h _ _ (I.hok.fresh (Nat.le_refl _)) rfl⟩
  refine ⟨⟨Nat.zero_le _, beq_eq_false_iff_ne.mpr (Ne.symm (Nat.ne_of_lt I.big)), fun x hx => absurd hx (by simp), [], .nil, _, #[], 0, Heap.get?_push_size _ rfl, ⟨rfl, rfl, rfl⟩, rfl, rfl, List.nodup_nil⟩, ⟨_, Heap.get?_push_size _ rfl⟩, ?_⟩
  rintro h1 h2 ⟨l, hs, hk, us, p, ob, es, ep, g5, g6, g7, g8, g9⟩ st
  exact ⟨l, hs, hk, us, p, ob, es, ep, st _ g5, g6, g7, g8, g9⟩⟩
theorem s_setDK {i : Nat} {x : Str} {p2 pos pos' : Pos} (hN : X.N.Nodup) (hi : X.N[i]? = some x) (hx : Loc X.env.scope x) (hs : swapsWith (.Dict [] [] p2) (some (.Name x pos')) pos.line X.env = pure false := by rfl) (hf : X.fn x = true ∨ X.env.scope.names.lookup x = some .local := by first | exact .inl rfl | exact .inr rfl | assumption) :
    ES X (.Assign [.Name x pos'] (.Dict [] [] p2) pos) (sAsgD i false) := by
  refine ⟨_, ps_set hN hi hx pe_dnewK hs hf, fun C σ H F env D Dp R k q => fun p hp => ?_⟩
  obtain ⟨s, f, h, n⟩ := R.alloc0 (o := .dK []) hp
  exact k.nx _ _ F _ (s.rel.assignO (ds := .dic false []) (by rw [← R.len]; exact q.1) upd_same f h n ⟨[], rfl, by simp [AtK]⟩) Le.rfl' q.2
theorem s_setDN {i : Nat} {x : Str} {p2 pos pos' : Pos} (hN : X.N.Nodup) (hi : X.N[i]? = some x) (hx : Loc X.env.scope x) (hs : swapsWith (.Dict [] [] p2) (some (.Name x pos')) pos.line X.env = pure false := by rfl) (hf : X.fn x = true ∨ X.env.scope.names.lookup x = some .local := by first | exact .inl rfl | exact .inr rfl | assumption) :
    ES X (.Assign [.Name x pos'] (.Dict [] [] p2) pos) (sAsgD i true) := by
  refine ⟨_, ps_set hN hi hx pe_dnewN hs hf, fun C σ H F env D Dp R k q => fun p o hp hn => ?_⟩
  obtain ⟨s, f, h, n⟩ := R.alloc0 (o := o) hp
  exact k.nx _ _ F _ (s.rel.assignO (ds := .dic true []) (by rw [← R.len]; exact q.1) upd_same f h n ⟨[], hn, by simp [AtN]⟩) Le.rfl' q.2
/-! which dict a value is -/
def OV.dic (env : List SV) : OV → Option (Option Bool × List (D × D))
  | .sl i => match env[i]? with
    | some (.obj _ (.dic t kds)) => some (some t, kds)
    | some (.dat (.dict kds)) => some (none, kds)
    | _ => none
  | .dv (.dict kds) => some (none, kds)
  | _ => none
def KeyO : Option Bool → List (D × D) → D → Prop
  | some t, _, k => KeyT t k
  | none, kds, k => ∃ t, (∃ p ∈ kds, KeyT t p.1) ∧ KeyT t k
theorem keyT_uniq {t t' : Bool} {k : D} (h : KeyT t k) (g : KeyT t' k) : t = t' := by
  cases t with
  | false =>
    cases t' with
    | false => rfl
    | true =>
      obtain ⟨kk, rfl⟩ := h
      obtain ⟨nk, e, ⟨z, rfl⟩, _⟩ := g
      cases kk <;> cases e
  | true =>
    cases t' with
    | true => rfl
    | false =>
      obtain ⟨kk, rfl⟩ := g
      obtain ⟨nk, e, ⟨z, rfl⟩, _⟩ := h
      cases kk <;> cases e
theorem AtK.keys {K : FgK} {F : Hp} : ∀ {kds : List (D × D)} {zs : List (Key × V)}, AtK K F kds zs → ∀ p ∈ kds, KeyT false p.1
  | [], zs, _, p, hp => nomatch hp
  | (k, d) :: r, zs, h, p, hp => by
    simp only [AtK] at h
    obtain ⟨kk, _, zr, rfl, rfl, _, q⟩ := h
    rcases List.mem_cons.mp hp with rfl | hp
    · exact ⟨kk, rfl⟩
    · exact AtK.keys q p hp
theorem AtN.keys {K : FgK} {F : Hp} : ∀ {kds : List (D × D)} {zs : List (NestedKey × Addr × V)}, AtN K F kds zs → (∀ x ∈ zs, ∃ z, x.1 = .tup z ∧ x.1.depth ≤ 8) → ∀ p ∈ kds, KeyT true p.1
  | [], zs, _, _, p, hp => nomatch hp
  | (k, d) :: r, zs, h, hk, p, hp => by
    simp only [AtN] at h
    obtain ⟨kk, b, x, zr, rfl, rfl, _, _, q⟩ := h
    rcases List.mem_cons.mp hp with rfl | hp
    · obtain ⟨z, e, hd⟩ := hk _ List.mem_cons_self
      exact ⟨kk, rfl, ⟨z, e⟩, hd⟩
    · exact AtN.keys q (fun y hy => hk y (List.mem_cons_of_mem _ hy)) p hp
theorem dic_ov {C : Ec} {σ : L2.St} {H F : Hp} {env : List SV} {ov : OV} {v : V} {ot : Option Bool} {kds : List (D × D)} (R : Rel X.fr C σ H F env) (a : OvOk X.fr σ F ov v) (e : ov.dic env = some (ot, kds)) :
    ∃ p o t, v = .ref p ∧ Rd H p o ∧ CtOk X.fr F p o (.dic t kds) ∧ (∀ t0, ot = some t0 → t0 = t) := by
  have main : ∀ v, At X.fr F (.dict kds) v → ∃ p o t, v = .ref p ∧ Rd H p o ∧ CtOk X.fr F p o (.dic t kds) := fun v a => by
    simp only [At] at a
    obtain ⟨p, od, o, rfl, e, c⟩ := a
    rcases c with c | c
    · exact ⟨p, o, false, rfl, .inr ⟨od, R.frz _ _ e⟩, c⟩
    · exact ⟨p, o, true, rfl, .inr ⟨od, R.frz _ _ e⟩, c⟩
  cases ov with
  | dv x =>
    cases x with
    | dict ks =>
      simp only [OV.dic, Option.some.injEq, Prod.mk.injEq] at e
      obtain ⟨rfl, rfl⟩ := e
      obtain ⟨p, o, t, h1, h2, h3⟩ := main v a
      exact ⟨p, o, t, h1, h2, h3, fun t0 z => nomatch z⟩
    | _ => cases e
  | sl i =>
    have a : σ[i]? = some (some v) := a
    simp only [OV.dic] at e
    split at e
    · rename_i l t ks q
      simp only [Option.some.injEq, Prod.mk.injEq] at e
      obtain ⟨rfl, rfl⟩ := e
      obtain ⟨p, u, e1, e2, e3, e4, e5⟩ := R.slot i _ q
      rw [a] at e1
      cases e1
      exact ⟨p, u, t, rfl, .inl e2, e5, fun t0 z => (Option.some.inj z).symm⟩
    · rename_i ks q
      simp only [Option.some.injEq, Prod.mk.injEq] at e
      obtain ⟨rfl, rfl⟩ := e
      obtain ⟨v', e1, a'⟩ := R.slot i _ q
      rw [a] at e1
      cases e1
      obtain ⟨p, o, t, h1, h2, h3⟩ := main v a'
      exact ⟨p, o, t, h1, h2, h3, fun t0 z => nomatch z⟩
    · cases e
/-- the key is of the dict's kind -/
theorem keyO {pins : List (Addr × Obj)} {P : Program} {w : World} {K : FgK} {H F : Hp} {h : Heap} {p : Addr} {o : HO} {t : Bool} {ot : Option Bool} {kds : List (D × D)} {k : D} (c : CtOk K F p o (.dic t kds)) (q : ObjOk P w H h p o) (e : ∀ t0, ot = some t0 → t0 = t) (hk : KeyO ot kds k) : KeyT t k := by
  cases ot with
  | some t0 =>
    have := e t0 rfl
    subst this
    exact hk
  | none =>
    obtain ⟨t', ⟨x, hx, h1⟩, h2⟩ := hk
    have : KeyT t x.1 := by
      cases t with
      | false =>
        obtain ⟨kvs, rfl, c⟩ := c
        exact c.keys x hx
      | true =>
        obtain ⟨zs, hn, c⟩ := c
        obtain ⟨_, _, hks, _⟩ := hn.obj q
        exact c.keys hks x hx
    rw [← keyT_uniq h1 this]
    exact h2
theorem vw_key {K : FgK} {H F : Hp} {t : Bool} {k : D} {v : V} (h : KeyT t k) (a : Vw K H F k v) : At K F k v := by
  cases t with
  | false =>
    obtain ⟨kk, rfl⟩ := h
    cases kk <;> exact a
  | true =>
    obtain ⟨nk, rfl, ⟨z, rfl⟩, _⟩ := h
    exact a
/-! k in d, k not in d -/
def qDIn (neg : Bool) (A B : PE') : PE' := fun env Q => A env fun o1 env1 => B env1 fun o2 env2 => ∃ k, o1.rd env2 = some k ∧ ∃ ot kds, o2.dic env2 = some (ot, kds) ∧ KeyO ot kds k ∧ Q (.dv (.bool (if neg = true then !(lookD kds k).isSome else (lookD kds k).isSome))) env2
def rDIn (K : FgK) (neg : Bool) : R2 := fun x y H Q => ∃ F a o t ot kds k, y = .ref a ∧ Le F H ∧ Rd H a o ∧ CtOk K F a o (.dic t kds) ∧ (∀ t0, ot = some t0 → t0 = t) ∧ KeyO ot kds k ∧ Vw K H F k x ∧ Q (.bl (if neg = true then !(lookD kds k).isSome else (lookD kds k).isSome)) H
theorem op_din (neg : Bool) (hu : X.A.units + 64 < cLine) : OpR X (compareOp (if neg = true then .NotIn else .In)) (rDIn X.fr neg) := by
  intro pins s σ H x y v u Q I rx ry h
  obtain ⟨F, a, o, t, ot, kds, k, rfl, hF, ha, c, e, hk, w, q⟩ := h
  cases (show u = Value.ref a from ry)
  have hk := keyO (pins := pins) c (ha.ok I.hok) e hk
  exact dic_in neg hu I hF ha c hk (vw_key hk w) rx fun s' I' => ⟨.bl _, H, I', rfl, q⟩
theorem LE.din {neg : Bool} {ta tb : TE} {A B : PE'} (la : LE X.fr ta A) (lb : LE X.fr tb B) : LE X.fr (tOp (rDIn X.fr neg) ta tb) (qDIn neg A B) := fun C σ H F env Q Qp R k q => by
  refine la C σ H F env _ _ R (fun v1 H1 F1 env1 o1 s1 a1 q1 => ?_) q
  refine lb C σ H1 F1 env1 _ _ s1.rel (fun v2 H2 F2 env2 o2 s2 a2 q2 => ?_) q1
  obtain ⟨kk, e1, ot, kds, e2, hk, q2⟩ := q2
  obtain ⟨p, o, t, rfl, rd, c, e⟩ := dic_ov s2.rel a2 e2
  exact ⟨F2, p, o, t, ot, kds, kk, rfl, s2.rel.frz, rd, c, e, hk, rd_vw s2.rel (a1.mono s2.ff) e1, k (.bl _) H2 F2 env2 (.dv (.bool _)) (s1.trans s2) (by simp [OvOk, At]) q2⟩
theorem q_din {a b : Expr} {A B : PE'} {pos : Pos} (hu : X.A.units + 64 < cLine) (ha : EV X a A) (hb : EV X b B) (hm : behindInMarks .In b = false := by rfl) : EV X (.Compare a [.In] [b] pos) (qDIn false A B) := by
  obtain ⟨ta, h1, l1⟩ := ha.ex
  obtain ⟨tb, h2, l2⟩ := hb.ex
  exact ⟨_, pe_cmpR (op_din false hu) h1 h2 hm, LE.din l1 l2⟩
theorem q_dnin {a b : Expr} {A B : PE'} {pos : Pos} (hu : X.A.units + 64 < cLine) (ha : EV X a A) (hb : EV X b B) (hm : behindInMarks .NotIn b = false := by rfl) : EV X (.Compare a [.NotIn] [b] pos) (qDIn true A B) := by
  obtain ⟨ta, h1, l1⟩ := ha.ex
  obtain ⟨tb, h2, l2⟩ := hb.ex
  exact ⟨_, pe_cmpR (op_din true hu) h1 h2 hm, LE.din l1 l2⟩
theorem t_din {a b : Expr} {A B : PE'} {pos : Pos} (hu : X.A.units + 64 < cLine) (ha : EV X a A) (hb : EV X b B) (hm : behindInMarks .In b = false := by rfl) : ET X (.Compare a [.In] [b] pos) (qTest (qDIn false A B)) := by
  obtain ⟨ta, h1, l1⟩ := ha.ex
  obtain ⟨tb, h2, l2⟩ := hb.ex
  exact ⟨_, pt_cmpR (op_din false hu) h1 h2 hm, LT.test (LE.din l1 l2)⟩
theorem t_dnin {a b : Expr} {A B : PE'} {pos : Pos} (hu : X.A.units + 64 < cLine) (ha : EV X a A) (hb : EV X b B) (hm : behindInMarks .NotIn b = false := by rfl) : ET X (.Compare a [.NotIn] [b] pos) (qTest (qDIn true A B)) := by
  obtain ⟨ta, h1, l1⟩ := ha.ex
  obtain ⟨tb, h2, l2⟩ := hb.ex
  exact ⟨_, pt_cmpR (op_din true hu) h1 h2 hm, LT.test (LE.din l1 l2)⟩
/-! d[k] -/
def qDGet (A B : PE') : PE' := fun env Q => A env fun o1 env1 => B env1 fun o2 env2 => ∃ ot kds, o1.dic env2 = some (ot, kds) ∧ ∃ k, o2.rd env2 = some k ∧ KeyO ot kds k ∧ ∃ d, lookD kds k = some d ∧ Q (.dv d) env2
def rDGet (K : FgK) : R2 := fun x y H Q => ∃ F a o t ot kds k d, x = .ref a ∧ Le F H ∧ Rd H a o ∧ CtOk K F a o (.dic t kds) ∧ (∀ t0, ot = some t0 → t0 = t) ∧ KeyO ot kds k ∧ Vw K H F k y ∧ lookD kds k = some d ∧ ∀ v, At K F d v → Q v H
theorem pe_dgetA {o i : Expr} {td ty : TE} {pos : Pos} (hu : X.A.units + 64 < cLine) (ho : PE X o td) (hi : PE X i ty) (hs : NoSl i) : PE X (.Subscript o i pos) (tOp (rDGet X.fr) td ty) := by
  refine ⟨fun pins s σ H Q I h => ?_⟩
  refine subD_of PySem.F.slot_dict_getitem.lookup hs (thn (ho.run pins s σ H _ I h) fun u s1 ⟨x, H1, I1, rx, q1⟩ => thn (hi.run pins s1 σ H1 _ I1 q1) fun iv s2 ⟨y, H2, I2, ry, F, a, o, t, ot, kds, k, d, ex, hF, ha, c, e, hk, w, hl, q2⟩ => ?_)
  subst ex
  obtain rfl : u = Value.ref a := rx
  have hk := keyO (pins := pins) c (ha.ok I2.hok) e hk
  exact ⟨dic_typeIs I2 hF ha c, dic_get hu I2 hF ha c hk (vw_key hk w) ry hl fun v w' s3 I3 av rw' => ⟨v, H2, I3, rw', q2 v av⟩⟩
theorem q_dget {a b : Expr} {A B : PE'} {pos : Pos} (hu : X.A.units + 64 < cLine) (ha : EV X a A) (hb : EV X b B) (hs : NoSl b := by intro _ _; rfl) : EV X (.Subscript a b pos) (qDGet A B) := by
  obtain ⟨ta, h1, l1⟩ := ha.ex
  obtain ⟨tb, h2, l2⟩ := hb.ex
  refine ⟨_, pe_dgetA hu h1 h2 hs, fun C σ H F env Q Qp R k q => ?_⟩
  refine l1 C σ H F env _ _ R (fun v1 H1 F1 env1 o1 s1 a1 q1 => ?_) q
  refine l2 C σ H1 F1 env1 _ _ s1.rel (fun v2 H2 F2 env2 o2 s2 a2 q2 => ?_) q1
  obtain ⟨ot, kds, e2, kk, e1, hk, d, hl, q2⟩ := q2
  obtain ⟨p, o, t, rfl, rd, c, e⟩ := dic_ov s2.rel (a1.mono s2.ff) e2
  exact ⟨F2, p, o, t, ot, kds, kk, d, rfl, s2.rel.frz, rd, c, e, hk, rd_vw s2.rel a2 e1, hl, fun v av => k v H2 F2 env2 (.dv d) (s1.trans s2) av q2⟩
/-! d[k] = v, d a slot's own -/
def rDPut (K : FgK) : V → V → V → Hp → (Hp → Prop) → Prop := fun x y v H Q => ∃ F a o t kds k d, x = .ref a ∧ Le F H ∧ H a = some o ∧ F a = none ∧ CtOk K F a o (.dic t kds) ∧ KeyT t k ∧ At K F k y ∧ At K F d v ∧ kds.length < sizeLine ∧ ∀ o', CtOk K F a o' (.dic t (putD kds k d)) → Q (upd H a o')
theorem set_D (hu : X.A.units + 64 < cLine) : PSet X (rDPut X.fr) := by
  intro pins s σ H o i v ov iv u Q I ro ri rv h
  obtain ⟨F, a, ob, t, kds, k, d, rfl, hF, ha, fa, c, hk, ak, av, hl, q⟩ := h
  cases (show ov = Value.ref a from ro)
  exact dic_put hu I hF ha fa c hk ak ri av rv hl fun o' s' c' I' => ⟨_, I', q o' c'⟩
def sPutD (i : Nat) (A B : PE') : PS' := fun Dp env => A env fun o env1 => ∃ d env2, o.fz env1 = some (d, env2) ∧ (∃ t0 ks0, env2[i]? = some (.dic t0 ks0)) ∧ B env2 fun ok env3 => ∃ k env4, ok.fz env3 = some (k, env4) ∧ ∃ t kds, env4[i]? = some (.dic t kds) ∧ KeyT t k ∧ kds.length < sizeLine ∧ Dp.nx (env4.set i (.dic t (putD kds k d)))
theorem s_putD (i : Nat) {x : Str} {a b : Expr} {A B : PE'} {p p2 pos : Pos} (hu : X.A.units + 64 < cLine) (ha : EV X a A) (hb : EV X b B) (hN : X.N[i]? = some x := by rfl) (hv : Vis X.env.scope x := by first | exact Or.inl rfl | exact Or.inr (Or.inl rfl) | exact Or.inr (Or.inr rfl)) (hd : (x == ("__debug__" : Str)) = false := by decide)
    (hcd : (x == ("__classdict__" : Str)) = false := by decide) (hs : swapsWithSole [.Subscript (.Name x p) b p2] a pos.line X.env = pure false := by rfl) (hw : swappedStores [.Subscript (.Name x p) b p2] a X.env = pure none := by rfl)
    (h1 : (assignEach [.Subscript (.Name x p) b p2] X.env).map (·.2) = [assign (.Subscript (.Name x p) b p2) X.env] := by rfl)
    (has : ∀ v, assign (.Subscript (.Name x p) b p2) X.env v = (do
      let ov ← holding [v] (eval (.Name x p) X.env)
      let iv ← holding [v, ov] (eval b X.env)
      standAt p2
      holding [v, ov, iv] (setItem ov iv v)
      release [v, ov, iv] []) := by intro _; rfl) : ES X (.Assign [.Subscript (.Name x p) b p2] a pos) (sPutD i A B) := by
  obtain ⟨t, g1, l1⟩ := ha.ex
  obtain ⟨u, g2, l2⟩ := hb.ex
  refine ⟨_, ps_asg g1 (pg_sub (pe_var hN hv hd hcd) g2 (set_D hu) has) hs hw h1, fun C σ H F env D Dp R k q => ?_⟩
  refine l1 C σ H F env _ _ R (fun v H1 F1 env1 o s1 a1 q1 => ?_) q
  obtain ⟨d, env2, e, ⟨t0, ks0, e0⟩, q1⟩ := q1
  obtain ⟨F2, s2, a2⟩ := fz_ok s1.rel a1 e
  obtain ⟨p', u0, hp', _⟩ := s2.rel.slot i _ e0
  refine ⟨.ref p', hp', ?_⟩
  refine l2 C σ H1 F2 env2 _ _ s2.rel (fun iv H2 F3 env3 ok s3 a3 q3 => ?_) q1
  obtain ⟨kk, env4, e3, t, kds, e4, hk, hl, q3⟩ := q3
  obtain ⟨F4, s4, a4⟩ := fz_ok s3.rel a3 e3
  obtain ⟨p2, u2, f1, f2, f3, f4, f5⟩ := s4.rel.slot i _ e4
  rw [hp'] at f1
  cases f1
  refine ⟨F4, p', u2, t, kds, kk, d, rfl, s4.rel.frz, f2, f3, f5, hk, a4, At.mono (s3.ff.trans' s4.ff) _ _ a2, hl, fun o' c' => ?_⟩
  have s5 := s4.rel.write e4 hp' c' (fun z => nomatch z)
  exact k.nx σ _ F4 _ s5.rel (((s1.ff.trans' s2.ff).trans' s3.ff).trans' s4.ff) q3
/-! a slot's own dict is known from here on: it is no more changed -/
def sFrzD (i : Nat) (S : PS') : PS' := fun Dp env => ∃ t kds, env[i]? = some (.dic t kds) ∧ S Dp (env.set i (.dat (.dict kds)))
def tFrz (t : TS) : TS := fun D σ H => ∃ d u, H d = some u ∧ Mut (some u) ∧ ∀ od, t D σ (upd H d (.frz od u))
theorem ps_frz {st : Stmt} {t : TS} (h : PS X st t) : PS X st (tFrz t) := by
  refine ⟨fun pins s σ H D I hw => ?_⟩
  obtain ⟨d, u, hd, mu, hw⟩ := hw
  obtain ⟨od, I1⟩ := I.lock hd mu
  exact h.run pins s σ _ _ I1 (hw od)
theorem ct_mut {K : FgK} {F : Hp} {p : Addr} {o : HO} {t : Bool} {kds : List (D × D)} (c : CtOk K F p o (.dic t kds)) : Mut (some o) := by
  cases t with
  | false =>
    obtain ⟨kvs, rfl, _⟩ := c
    exact True.intro
  | true =>
    obtain ⟨zs, hn, _⟩ := c
    have e : o = _ := hn
    rw [e]
    exact True.intro
theorem s_frzD (i : Nat) {st : Stmt} {S : PS'} (h : ES X st S) : ES X st (sFrzD i S) := by
  obtain ⟨t, h1, l1⟩ := h.ex
  refine ⟨_, ps_frz h1, fun C σ H F env D Dp R k q => ?_⟩
  obtain ⟨t, kds, e, q⟩ := q
  obtain ⟨p, u, e1, e2, e3, e4, e5⟩ := R.slot i _ e
  refine ⟨p, u, e2, ct_mut e5, fun od => ?_⟩
  have s := R.freezeD e e1 e2 od
  exact l1 C σ _ _ _ D Dp s.rel (k.mono s.ff) q
end
end Sw

set_option Elab.async false
set_option linter.all false
set_option maxRecDepth 100000
namespace Sw
open PySem PySem.Spec L2 PySem.Calls PyProof.Rows
/-! ### the keys of a dict: sorted(d), list(d), for k in d -/
theorem vals_of {xs : List V} : ∀ {us : List Value}, xs.length = us.length → (∀ (i : Nat) (x : V) (u : Value), xs[i]? = some x → us[i]? = some u → RelV x u) → Vals xs us := by
  induction xs with
  | nil =>
    intro us hl _
    cases us with
    | nil => exact .nil
    | cons => cases hl
  | cons x xs ih =>
    intro us hl h
    cases us with
    | nil => cases hl
    | cons u us => exact .cons (h 0 x u rfl rfl) (ih (by simpa using hl) fun i y v e1 e2 => h (i + 1) y v (by simpa using e1) (by simpa using e2))
section
variable {X : Cz} {pins : List (Addr × Obj)} {σ : L2.St} {H F : Hp} {s : Shared} {a : Addr} {o : HO} {t : Bool} {kds : List (D × D)}
theorem AtK.keysAt {K : FgK} : ∀ {kds : List (D × D)} {zs : List (Key × V)}, AtK K F kds zs → AtAll K F (kds.map Prod.fst) (zs.map fun p => kV p.1)
  | [], zs, h => by simp only [AtK] at h; subst h; exact AtAll.nil
  | (k, d) :: r, zs, h => by
    simp only [AtK] at h
    obtain ⟨kk, x, zr, rfl, rfl, _, q⟩ := h
    refine AtAll.cons ?_ (AtK.keysAt q)
    cases kk <;> simp [kD, kV, At]
theorem AtN.keysAt {K : FgK} : ∀ {kds : List (D × D)} {zs : List (NestedKey × Addr × V)}, AtN K F kds zs → AtAll K F (kds.map Prod.fst) (zs.map fun p => V.ref p.2.1)
  | [], zs, h => by simp only [AtN] at h; subst h; exact AtAll.nil
  | (k, d) :: r, zs, h => by
    simp only [AtN] at h
    obtain ⟨kk, b, x, zr, rfl, rfl, a1, _, q⟩ := h
    exact AtAll.cons a1 (AtN.keysAt q)
theorem pairZ_get : ∀ {zs : List (NestedKey × Addr × V)} {us : List (NestedKey × Addr × Value)}, PairZ zs us → ∀ {i : Nat} {z : NestedKey × Addr × V} {u : NestedKey × Addr × Value}, zs[i]? = some z → us[i]? = some u → z.1 = u.1 ∧ z.2.1 = u.2.1 ∧ RelV z.2.2 u.2.2
  | _, _, .nil, i, z, u, e, _ => by simp at e
  | _, _, .cons p q, 0, z, u, e1, e2 => by simp at e1 e2; subst e1 e2; exact p
  | _, _, .cons p q, i + 1, z, u, e1, e2 => pairZ_get q (i := i) (by simpa using e1) (by simpa using e2)
theorem dic_raw (I : Inv X pins σ H s) (hF : Le F H) (ha : Rd H a o) (c : CtOk X.fr F a o (.dic t kds)) : (a == sysModules) = false ∧ kds.length ≤ sizeLine ∧ ∃ es ep xs, s.heap.DictRaw a es ep ∧ es.size = kds.length ∧ Vals xs (es.toList.map DictEntry.key) ∧ AtAll X.fr F (kds.map Prod.fst) xs := by
  cases t with
  | false =>
    obtain ⟨kvs, rfl, ck⟩ := c
    obtain ⟨hz, hs, vs, kv, dd⟩ := dk_rd I.hok ha
    obtain ⟨es, ep, hr, hsz, he⟩ := dd.raw
    have hl : kvs.length = vs.length := Paired.length kv
    have hk := ck.len
    refine ⟨hs, by omega, es, ep, _, hr, by omega, vals_of (by rw [List.length_map, List.length_map]; have e1 : es.toList.length = es.size := Array.length_toList; omega) fun i x u e1 e2 => ?_, ck.keysAt⟩
    rw [List.getElem?_map] at e1 e2
    cases q : kvs[i]? with
    | none => rw [q] at e1; cases e1
    | some p =>
      rw [q] at e1
      cases e1
      obtain ⟨k, v⟩ := p
      obtain ⟨u', hu, _⟩ := kv_get kv q
      have hi : i < es.size := by
        have := (List.getElem?_eq_some_iff.mp hu).1
        omega
      rw [Array.getElem?_toList, Array.getElem?_eq_getElem hi] at e2
      cases e2
      exact relV_key (he i hi k u' hu).1
  | true =>
    obtain ⟨zs, hn, hz⟩ := c
    obtain ⟨l, hs, hks, us, p, dd⟩ := keyed_of I hF ha hn hz
    obtain ⟨es, ep, hr, hsz, he⟩ := dd.raw
    have hl : zs.length = us.length := Paired.length p
    have hk := hz.len
    refine ⟨hs, by omega, es, ep, _, hr, by omega, vals_of (by rw [List.length_map, List.length_map]; have e1 : es.toList.length = es.size := Array.length_toList; omega) fun i x u e1 e2 => ?_, hz.keysAt⟩
    rw [List.getElem?_map] at e1 e2
    cases q : zs[i]? with
    | none => rw [q] at e1; cases e1
    | some z =>
      rw [q] at e1
      cases e1
      have hi : i < es.size := by
        have := (List.getElem?_eq_some_iff.mp q).1
        omega
      rw [Array.getElem?_toList, Array.getElem?_eq_getElem hi] at e2
      cases e2
      obtain ⟨y, hy, ek, _⟩ := he i hi
      rw [ek]
      have := (pairZ_get p q hy).2.1
      exact congrArg Value.ref this.symm
/-- what a list of the entries' keys is -/
theorem items_vals {xs : List V} {es : Array DictEntry} {acc : Array Value} (h : Vals xs (es.toList.map DictEntry.key)) (g : ItemsOf (fun i v => ∃ hi : i < es.size, v = es[i].key) acc es.size) : Vals xs acc.toList := by
  have e : acc.toList = es.toList.map DictEntry.key := by
    apply List.ext_getElem?
    intro i
    rw [Array.getElem?_toList, List.getElem?_map, Array.getElem?_toList]
    by_cases hi : i < es.size
    · have ha : i < acc.size := by rw [g.1]; exact hi
      rw [Array.getElem?_eq_getElem ha, Array.getElem?_eq_getElem hi]
      obtain ⟨_, e⟩ := g.2 i acc[i] (Array.getElem?_eq_getElem ha)
      rw [e]
      rfl
    · rw [Array.getElem?_eq_none (by rw [g.1]; omega), Array.getElem?_eq_none (by omega)]
      rfl
  rw [e]
  exact h
def rListD (K : FgK) : List V → Hp → VK → Prop := fun vs H Q => ∃ F a o t kds, vs = [V.ref a] ∧ Le F H ∧ Rd H a o ∧ CtOk K F a o (.dic t kds) ∧ ∀ p ys, H p = none → AtAll K F (kds.map Prod.fst) ys → Q (.ref p) (upd H p (.lst ys))
theorem call_listD (hc : X.calm = true) : CallR X (.type "list") (rListD X.fr) := by
  intro pins s σ H vs us Q I r h
  obtain ⟨F, a, o, t, kds, rfl, hF, ha, c, q⟩ := h
  obtain ⟨u, rfl, ru⟩ := vals1 r
  obtain rfl : u = Value.ref a := ru
  obtain ⟨hs, hz, es, ep, xs, hr, hsz, hv, hx⟩ := dic_raw I hF ha c
  refine W.kdl_call (KdlSrc.rawDict hs) (I.ok.hd hc) hr (by omega) fun h' tk acc c' hk hS hacc => ?_
  have iv := items_vals hv hacc
  have hn := I.hok.fresh (Nat.le_refl s.heap.objs.size)
  refine ⟨.ref s.heap.objs.size, _, I.laid (o := .lst xs) (t' := tk) hk (Nat.le_refl _) ⟨?_, acc.toList, c', iv, ?_⟩, rfl, q _ xs hn hx⟩
  · rw [hx.len, List.length_map]; exact hz
  · rw [hS]
def rSortDic (K : FgK) : List V → Hp → VK → Prop := fun vs H Q => ∃ F a o t kds, vs = [V.ref a] ∧ Le F H ∧ Rd H a o ∧ CtOk K F a o (.dic t kds) ∧ okSort (kds.map Prod.fst) = true ∧ ∀ p ys, H p = none → AtAll K F (srtD (kds.map Prod.fst)) ys → Q (.ref p) (upd H p (.lst ys))
mutual
theorem reads_there {h : Heap} {a : Addr} : ∀ (d : PyData) (v : Value) (as : List Addr), d.plain = true → Reads h v d as → a ∈ as → ∃ o, h.get? a = some o
  | .none, _, _, _, r, m => by cases r; cases m
  | .bool _, _, _, _, r, m => by cases r; cases m
  | .int _, _, _, _, r, m => by cases r; cases m
  | .str _, _, _, _, r, m => by cases r; cases m
  | .list xs, _, _, p, r, m => by
    cases r with
    | list h1 h2 h3 h4 =>
      rcases List.mem_cons.mp m with rfl | m
      · exact ⟨_, h1⟩
      · exact reads_thereAll xs _ _ (by simpa [PyData.plain] using p) h4 m
  | .tuple xs, _, _, p, r, m => by
    cases r with
    | tuple h1 h2 h3 h4 => exact reads_thereAll xs _ _ (by simpa [PyData.plain] using p) h4 m
  | .dict _, _, _, p, _, _ => nomatch p
theorem reads_thereAll {h : Heap} {a : Addr} : ∀ (ds : List PyData) (vs : List Value) (as : List Addr), PyData.plainAll ds = true → ReadsAll h vs ds as → a ∈ as → ∃ o, h.get? a = some o
  | [], _, _, _, r, m => by cases r; cases m
  | d :: ds, _, _, p, r, m => by
    have p' : d.plain = true ∧ PyData.plainAll ds = true := by simpa [PyData.plainAll] using p
    cases r with
    | cons h1 h2 =>
      rcases List.mem_append.mp m with m | m
      · exact reads_there d _ _ p'.1 h1 m
      · exact reads_thereAll ds _ _ p'.2 h2 m
end
theorem cr_sortedDic (hc : X.calm = true) (hu : X.A.units + 64 < cLine) : CallR X (.builtin "sorted") (rSortDic X.fr) := by
  intro pins s σ H vs us Q I r h
  obtain ⟨F, a, o, t, kds, rfl, hF, ha, c, ho, q⟩ := h
  obtain ⟨u, rfl, ru⟩ := vals1 r
  obtain rfl : u = Value.ref a := ru
  obtain ⟨hs, hz, es, ep, xs, hr, hsz, hv, hx⟩ := dic_raw I hF ha c
  have hn := I.hok.fresh (Nat.le_refl s.heap.objs.size)
  generalize hds : kds.map Prod.fst = ds at ho q hx
  obtain ⟨o1, o2, o3⟩ := okSort_spec ho
  have hpl := okSort_plain ho
  have hl : xs.length = ds.length := hx.len
  have hxe : ds.length = es.size := by rw [← hds, List.length_map, hsz]
  refine call_function_entry kind_sorted plain_sorted entry_sorted (args_sorted1 _) ?_
  unfold Builtin.«sorted»
  refine wpAny_bind (m := checkCount "sorted" 1 1 _) (wpAny_pure ?_)
  refine wpAny_bind (W.kdu_collect (A := X.A.in1) (KdlSrc.rawDict hs) (I.ok.hd hc) hr (by omega) fun h' tk acc hk hacc => ?_)
  have iv := items_vals hv hacc
  have hal : acc.toList.length = ds.length := by rw [← iv.length, hl]
  refine wpAny_bind (wpAny_newList ?_ (by rw [hal]; omega))
  have I1 : Inv X pins σ H { s with heap := h', toks := tk } := I.kept hk
  have hn' := I1.hok.fresh (Nat.le_refl h'.objs.size)
  obtain ⟨as, rr⟩ := Dp.readsAll I1 ds xs acc.toList (AtAll.dp _ _ hpl (AtAll.mono hF _ _ hx)) iv
  have e0 : W.EachIs (fun v d => ∃ as, Reads h' v d as) acc.toList ds := W.readsAll_each (enc := fun d => d) (by rw [List.map_id']; exact rr)
  have e1 := zip_each iv e0
  have esn : (xs.zip ds).map Prod.snd = ds := List.map_snd_zip (Nat.le_of_eq hl.symm)
  have hzl : (xs.zip ds).length ≤ sizeLine := by
    rw [List.length_zip]
    have := Nat.min_le_right xs.length ds.length
    omega
  have new : (h'.push { cls := .type "list", data := .seq acc.toList.toArray }).get? h'.objs.size = some (seqObj "list" acc.toList.toArray 0) := Heap.get?_push_size _ rfl
  have old : ∀ b ob, h'.get? b = some ob → (h'.push { cls := .type "list", data := .seq acc.toList.toArray }).get? b = some ob := fun b ob e => Heap.get?_push_of_some _ e
  refine wpAny_bind (wpAny_holding ?_)
  refine W.list_sort_data (A := X.A.in1) (enc := Prod.snd) (R := fun v (b : V × D) => RelV b.1 v) new (e1.mono fun _ _ h => h.1) ((W.each_mem e1).mono fun v b h => ?_) (by rw [esn]; exact o2) (by rw [esn]; exact o3) ?_ (fun b hb => ?_) fun out hlen hout => ?_
  · obtain ⟨⟨h1, as, h2⟩, hb⟩ := h
    refine ⟨as, PyProof.Rows.Reads.keeps old h2, fun m => ?_⟩
    have hp : b.2.plain = true := okD_plain (o1 _ (List.of_mem_zip hb).2)
    obtain ⟨ob, e⟩ := reads_there _ _ _ hp h2 m
    exact absurd (Heap.lt_size e) (Nat.lt_irrefl _)
  · exact hzl
  · have hm : b.2 ∈ ds := (List.of_mem_zip hb).2
    have := okD_depth (o1 _ hm)
    show X.A.units + 1 + 1 + _ < _
    omega
  · refine wpAny_pure ?_
    obtain ⟨n, hn2⟩ := sortedHeap_at (vs := acc.toList) (out := List.toArray out) new
    have key : ∀ b ob, h'.get? b = some ob → (sortedHeap (h'.push { cls := .type "list", data := .seq acc.toList.toArray }) h'.objs.size acc.toList (List.toArray out)).get? b = some ob := fun b ob e => by
      have hb := Heap.lt_size e
      have hb2 : b < (h'.push { cls := .type "list", data := .seq acc.toList.toArray }).objs.size := Heap.lt_size (old b ob e)
      rw [sortedHeap_old (Nat.ne_of_lt hb) hb2]
      exact old b ob e
    obtain ⟨z1, z2⟩ := at_zip hx
    have az : AtAll X.fr F (srtD ds) ((zipSort xs ds).map Prod.fst) := by
      rw [← zipSort_snd z1]
      exact of_pairs fun p hp => z2 p ((List.mergeSort_perm _ _).mem_iff.mp hp)
    refine ⟨_, rfl, .ref h'.objs.size, _, I1.laid (o := .lst ((zipSort xs ds).map Prod.fst)) (t' := tk) key (Nat.le_refl _) ⟨?_, out, n, each_vals hout, hn2⟩, rfl, q _ _ hn' az⟩
    rw [List.length_map, List.length_mergeSort]
    exact hzl
end
end Sw

set_option Elab.async false
set_option linter.all false
set_option maxRecDepth 100000
namespace Sw
open PySem PySem.Spec L2
section
variable {X : Cz} {K : FgX}
/-! sorted(d), list(d) -/
def gSortDic : List D → Option (List D)
  | [.dict kds] => if okSort (kds.map Prod.fst) = true then some (srtD (kds.map Prod.fst)) else none
  | _ => none
theorem l_sortDic : LCF K (rSortDic K) gSortDic := fun C σ H F env xs ds es Q R a e k => by
  unfold gSortDic at e
  split at e
  · split at e
    · rename_i ho
      cases e
      obtain ⟨x, rfl, w⟩ := a.one
      obtain ⟨p, o, rfl, e1, t, c⟩ := w
      refine ⟨F, p, o, t, _, rfl, R.frz, e1, c, ho, fun l ys hl ay => ?_⟩
      obtain ⟨s, f, h, n⟩ := R.alloc0 (o := .lst ys) hl
      exact k l ys F s f h n hl ay
    · cases e
  · cases e
def gListDic : List D → Option (List D)
  | [.dict kds] => some (kds.map Prod.fst)
  | _ => none
theorem l_listDic : LCF K (rListD K) gListDic := fun C σ H F env xs ds es Q R a e k => by
  unfold gListDic at e
  split at e
  · cases e
    obtain ⟨x, rfl, w⟩ := a.one
    obtain ⟨p, o, rfl, e1, t, c⟩ := w
    refine ⟨F, p, o, t, _, rfl, R.frz, e1, c, fun l ys hl ay => ?_⟩
    obtain ⟨s, f, h, n⟩ := R.alloc0 (o := .lst ys) hl
    exact k l ys F s f h n hl ay
  · cases e
theorem gSortDic_1 {kds : List (D × D)} (h : okSort (kds.map Prod.fst) = true) : gSortDic [.dict kds] = some (srtD (kds.map Prod.fst)) := if_pos h
theorem gListDic_1 {kds : List (D × D)} : gListDic [.dict kds] = some (kds.map Prod.fst) := rfl
/-! d.get(k, x), d.get(k) -/
def qDGetO (A B C : PE') : PE' := fun env Q => A env fun o1 env1 => (∃ p, o1.dic env1 = some p) ∧ B env1 fun o2 env2 => C env2 fun o3 env3 => ∃ d env4, o3.fz env3 = some (d, env4) ∧ ∃ ot kds, o1.dic env4 = some (ot, kds) ∧ ∃ k, o2.rd env4 = some k ∧ KeyO ot kds k ∧ Q (.dv ((lookD kds k).getD d)) env4
section
variable {pins : List (Addr × Obj)} {σ : L2.St} {H F : Hp} {s : Shared} {a : Addr} {o : HO} {t : Bool} {kds : List (D × D)} {k : D} {y : V} {u : Value} {E : Value → Shared → Prop}
theorem dic_getO {d : D} {v : V} {r : Value} {Q : Value → Shared → Prop} (hu : X.A.units + 64 < cLine) (I : Inv X pins σ H s) (hF : Le F H) (ha : Rd H a o) (c : CtOk X.fr F a o (.dic t kds)) (hk : KeyT t k) (ak : At X.fr F k y) (ry : RelV y u) (av : At X.fr F d v) (rv : RelV v r)
    (h : ∀ v' w' s', Inv X pins σ H s' → At X.fr F ((lookD kds k).getD d) v' → RelV v' w' → Q w' s') : wpAny (model X.prog X.w) X.A (call (.builtin "dict.get") [.ref a, u, r]) Q E s := by
  cases t with
  | false =>
    obtain ⟨kvs, rfl, ck⟩ := c
    obtain ⟨kk, rfl⟩ := hk
    have ey := key_at ak
    subst ey
    rcases look_K kk ck with ⟨h1, h2⟩ | ⟨d', v', h1, h2, a2⟩
    · have g : DGet H a (kV kk) none := by rw [← h2]; exact .inl ⟨_, _, ha, rfl, rfl⟩
      rw [h1] at h
      exact d_get2 (by omega) I g ry rv fun w' s' I' r' => h v w' s' I' av r'
    · have g : DGet H a (kV kk) (some v') := by rw [← h2]; exact .inl ⟨_, _, ha, rfl, rfl⟩
      rw [h1] at h
      exact d_get2 (by omega) I g ry rv fun w' s' I' r' => h v' w' s' I' a2 r'
  | true =>
    obtain ⟨zs, hn, hz⟩ := c
    obtain ⟨nk, rfl, ⟨z, rfl⟩, hd⟩ := hk
    obtain ⟨l, hs, hks, us, p, dd⟩ := keyed_of I hF ha hn hz
    obtain ⟨b, xs, rfl, _⟩ := (show ∃ b xs, y = V.ref b ∧ _ by have q := ak; simp only [nkD, NestedKey.data, At] at q; exact q)
    have n := nested_at I hF _ _ u ak ry
    cases (show u = Value.ref b from ry)
    have hr : (nestedKind X.prog X.w).room X.A.in1 := by show X.A.units + 1 + 8 < cLine; omega
    refine getOr_keyed hr ⟨n, hd⟩ hs ⟨us, dd, rfl⟩ ?_
    rw [valueAt_pairsH]
    rcases look_N (.tup z) hz p with ⟨h1, h2⟩ | ⟨d', v', q, h1, h2, a2, r2⟩
    · rw [h1] at h
      rw [h2]
      exact h v r _ (I.tok _) av rv
    · rw [h1] at h
      rw [h2]
      exact h v' q.2 _ (I.tok _) a2 r2
end
def tDGetO (K : FgK) (td ty tx : TE) : TE := fun σ H Q => td σ H fun x H1 => (∃ F a o t kds, x = .ref a ∧ Le F H1 ∧ Rd H1 a o ∧ CtOk K F a o (.dic t kds)) ∧ ty σ H1 fun y H2 => tx σ H2 fun z H3 =>
  ∃ F a o t ot kds k d, x = .ref a ∧ Le F H3 ∧ Rd H3 a o ∧ CtOk K F a o (.dic t kds) ∧ (∀ t0, ot = some t0 → t0 = t) ∧ KeyO ot kds k ∧ Vw K H3 F k y ∧ At K F d z ∧ ∀ v, At K F ((lookD kds k).getD d) v → Q v H3
theorem dic_noDict {pins : List (Addr × Obj)} {σ : L2.St} {H F : Hp} {s : Shared} {a : Addr} {o : HO} {t : Bool} {kds : List (D × D)} (I : Inv X pins σ H s) (hF : Le F H) (ha : Rd H a o) (c : CtOk X.fr F a o (.dic t kds)) : ∀ b, Value.ref a = .ref b → ∃ ob, s.heap.get? b = some ob ∧ ob.dict = none := fun b q => by
  cases q
  obtain ⟨_, _, es, ep, xs, ⟨ob, h1, h2, _⟩, _⟩ := dic_raw I hF ha c
  exact ⟨ob, h1, h2.2.1⟩
theorem pe_dgetO {o e f : Expr} {apos cpos : Pos} {td ty tx : TE} (hu : X.A.units + 64 < cLine) (ho : PE X o td) (he : PE X e ty) (hf : PE X f tx) (m : M2 X o "get" apos e f cpos) : PE X (.Call (.Attribute o "get" apos) [e, f] [] cpos) (tDGetO X.fr td ty tx) := by
  refine ⟨fun pins s σ H Q I h => ?_⟩
  refine wpAny_Call_method m.base m.few m.line PySem.F.plainAttrs_dict PySem.F.slot_dict_get PySem.F.type_dict_get (thn (ho.run pins s σ H _ I h) fun u s1 ⟨x, H1, I1, rx, ⟨F, a, ob, t, kds, ex, hF, ha, c⟩, q1⟩ => ?_)
  subst ex
  obtain rfl : u = Value.ref a := rx
  refine ⟨dic_typeIs I1 hF ha c, dic_noDict I1 hF ha c, ?_⟩
  rw [m.trees]
  refine Calls.callWith_builtin rfl (Calls.evalArgs_plain (Calls.spliced_cons (thn (he.run pins s1 σ H1 _ I1 q1) fun iv s2 ⟨y, H2, I2, ry, q2⟩ =>
    Calls.spliced_cons (thn (hf.run pins s2 σ H2 _ I2 q2) fun fv s3 ⟨z, H3, I3, rz, F3, a3, o3, t3, ot, kds3, k, d, ex3, hF3, ha3, c3, e3, hk, w, az, q3⟩ => Calls.spliced_nil ?_))))
  cases ex3
  have hk := keyO (pins := pins) c3 (ha3.ok I3.hok) e3 hk
  exact dic_getO hu I3 hF3 ha3 c3 hk (vw_key hk w) ry az rz fun v' w' s4 I4 av r' => ⟨v', H3, I4, r', q3 v' av⟩
theorem q_dgetO {o e f : Expr} {A B C : PE'} {apos cpos : Pos} (hu : X.A.units + 64 < cLine) (ho : EV X o A) (he : EV X e B) (hf : EV X f C)
    (h1 : attributeBase o "get" X.env (eval o X.env) = eval o X.env := by rfl)
    (h2 : ((backTo cpos (starEach [e, f] X.env)).all (fun x => !x.1) && (backToKw cpos (keywordEach [] X.env)).all (fun x => x.1.isSome)
    && decide (([e, f] : List Expr).length + ([] : List Keyword).length + (if ([] : List Keyword).isEmpty then 0 else 1) < 30)) = true := by rfl)
    (h3 : (apos.endLine == cpos.line) = true := by rfl) (h4 : backTo cpos (starEach [e, f] X.env) = [(false, eval e X.env), (false, eval f X.env)] := by rfl) : EV X (.Call (.Attribute o "get" apos) [e, f] [] cpos) (qDGetO A B C) := by
  obtain ⟨ta, g1, l1⟩ := ho.ex
  obtain ⟨tb, g2, l2⟩ := he.ex
  obtain ⟨tc, g3, l3⟩ := hf.ex
  refine ⟨_, pe_dgetO hu g1 g2 g3 ⟨h1, h2, h3, h4⟩, fun Ec σ H F env Q Qp R k q => ?_⟩
  refine l1 Ec σ H F env _ _ R (fun v1 H1 F1 env1 o1 s1 a1 q1 => ?_) q
  obtain ⟨⟨⟨ot0, kds0⟩, e0⟩, q1⟩ := q1
  obtain ⟨p, ob, t, rfl, rd, c, _⟩ := dic_ov s1.rel a1 e0
  refine ⟨⟨F1, p, ob, t, _, rfl, s1.rel.frz, rd, c⟩, ?_⟩
  refine l2 Ec σ H1 F1 env1 _ _ s1.rel (fun v2 H2 F2 env2 o2 s2 a2 q2 => ?_) q1
  refine l3 Ec σ H2 F2 env2 _ _ s2.rel (fun v3 H3 F3 env3 o3 s3 a3 q3 => ?_) q2
  obtain ⟨d, env4, ed, ot, kds, e2, kk, e1, hk, q3⟩ := q3
  obtain ⟨F4, s4, a4⟩ := fz_ok s3.rel a3 ed
  obtain ⟨p', ob', t', e', rd', c', e''⟩ := dic_ov s4.rel ((a1.mono (s2.ff.trans' s3.ff)).mono s4.ff) e2
  cases e'
  exact ⟨F4, p, ob', t', ot, kds, kk, d, rfl, s4.rel.frz, rd', c', e'', hk, rd_vw s4.rel ((a2.mono s3.ff).mono s4.ff) e1, a4, fun v av => k v H3 F4 env4 (.dv _) (((s1.trans s2).trans s3).trans s4) av q3⟩
end
end Sw

set_option Elab.async false
set_option linter.all false
set_option maxRecDepth 100000
namespace Sw
open PySem PySem.Spec L2 PyProof.Rows
/-! ### for k in d, d known -/
section
variable {X : L2.Cx} {pins : List (Addr × Obj)} {σ : L2.St} {H : Hp} {s : Shared} {d : Addr} {od : Obj} {o : HO} {zs : List (NestedKey × Addr × V)}
theorem frzN (I : Inv X pins σ H s) (h : H d = some (.frz od o)) (hn : IsN ⟨X.K, X.prog, X.w⟩ d zs o) :
    (d == sysModules) = false ∧ s.heap.get? d = some od ∧ od.ExactDict ∧ ∃ (es : Array DictEntry) (ep : Nat), od.data = .dict es ep ∧ es.size = zs.length ∧
      ∀ (i : Nat) (z : NestedKey × Addr × V), zs[i]? = some z → ∃ en : DictEntry, es[i]? = some en ∧ en.key = .ref z.2.1 ∧ RelV z.2.2 en.val := by
  obtain ⟨hd, q⟩ := I.hok d _ h
  obtain ⟨l, hs, hk, us, p, ob, es, ep, h5, h6, h7, h8, h9⟩ := hn.obj q
  rw [hd] at h5
  cases h5
  have hl : zs.length = us.length := Paired.length p
  refine ⟨hs, hd, h6, es, ep, h7, ?_, fun i z e => ?_⟩
  · have l1 : es.size = us.length := size_of_entries h8
    omega
  · obtain ⟨u, hu, e1, e2, e3⟩ := paired_get p e
    have q := entry_at h8 i
    rw [hu] at q
    refine ⟨_, q, ?_, e3⟩
    show Value.ref u.2.1 = _
    rw [e2]
end
def ItN (d : Addr) (od : Obj) (o : HO) (zs : List (NestedKey × Addr × V)) : It :=
  ⟨fun i H => H d = some (.frz od o) ∧ i < zs.length, fun i H x H' => H' = H ∧ ∃ z, zs[i]? = some z ∧ x = .ref z.2.1, fun i H => H d = some (.frz od o) ∧ zs.length ≤ i⟩
section
variable {P : Program} {w : World} {K : PySem.W.Frag} {tg : Expr} {d : Addr} {od : Obj} {o : HO} {es : Array DictEntry} {ep : Nat}
theorem turn_N {zs : List (NestedKey × Addr × V)} (it : Addr) (hod : od.data = .dict es ep) (hn : IsN ⟨K, P, w⟩ d zs o) : Turn P w K tg (ItN d od o zs) [it] it (fun i h => h.IsKeyIter it d i zs.length ep) where
  mem := by simp
  obj := fun i h st b hb => by
    have e : b = it := by simpa using hb
    subst e
    obtain ⟨oi, e, c, dd⟩ := st
    exact ⟨oi, e, fun v z => by rw [dd] at z; cases z⟩
  keep := fun i h h' st k => st.at fun oi e => k it (by simp) oi e
  item := by
    intro X hP hw hK hc i pins s σ H E I hf st hg
    subst hP hw hK
    obtain ⟨hd, hi⟩ := hg
    obtain ⟨f0, f1, f2, f3, f4, f5⟩ := hf it (by simp)
    obtain ⟨hs, hgd, hx, es', ep', hdt, hsz, ent⟩ := frzN I hd hn
    obtain ⟨rfl, rfl⟩ := dict_ep hod hdt
    obtain ⟨z, hz⟩ : ∃ p, zs[i]? = some p := ⟨zs[i], List.getElem?_eq_getElem hi⟩
    obtain ⟨en, hen, hkey, _⟩ := ent i z hz
    refine next_key_item st hgd hdt hsz hen fun h' st' sb => ?_
    have I1 : Inv X pins σ H { s with heap := h' } := I.turned (t' := s.toks) (fun b ob hb e => (sb.2 b hb).trans e) f0 f1 f3 f4 f5
    obtain ⟨oi, e, c, dd⟩ := id st'
    exact ⟨en.key, rfl, go_of (s := { s with heap := h' }) e c dd (by decide) ⟨.ref z.2.1, H, I1, hkey, ⟨rfl, z, hz, rfl⟩, st', fun b hb => (hf b hb).1⟩⟩
  done := by
    intro X hP hw hK hc i pins s σ H E I hf st hg
    subst hP hw hK
    obtain ⟨hd, hi⟩ := hg
    obtain ⟨f0, f1, f2, f3, f4, f5⟩ := hf it (by simp)
    obtain ⟨hs, hgd, hx, es', ep', hdt, hsz, ent⟩ := frzN I hd hn
    obtain ⟨rfl, rfl⟩ := dict_ep hod hdt
    exact next_key_end (I.ok.hd hc) st hgd hdt hsz hi fun h' eb => ⟨rfl, I.turned (t' := s.toks) (fun b ob hb e => eb b ob hb e) f0 f1 f3 f4 f5⟩
  self := fun A i s Q E st h => by
    refine wpAny_pyIter_slot st.typeIs F.slot_dict_keyiterator_iter (wpAny_call_entry F.slot_dict_keyiterator_iter st.typeIs F.entry_dict_keyiterator_iter ?_ (F.args_dict_keyiterator_iter_1 _))
    show wpAny _ _ (ret (.ref it)) _ _ s
    exact wpAny_pure ⟨_, rfl, "dict_keyiterator", _, st.typeIs, F.slot_dict_keyiterator_next.lookup, h⟩
theorem walk_N {zs : List (NestedKey × Addr × V)} : Walk (ItN d od o zs) zs.length (fun H => H d = some (.frz od o)) (fun i H x H' => H' = H ∧ ∃ z, zs[i]? = some z ∧ x = .ref z.2.1) :=
  ⟨fun i H hi h => ⟨h, hi⟩, fun H h => ⟨h, Nat.le_refl _⟩, fun i H x H' hi h y => y⟩
end
def wKeysA (K : FgK) (t : TE) : TI := fun σ H R => t σ H fun x H1 => ∃ d od, x = .ref d ∧ ((∃ kvs, H1 d = some (.frz od (.dK kvs)) ∧ R (Itk d od kvs) H1) ∨ ∃ zs o, IsN K d zs o ∧ H1 d = some (.frz od o) ∧ R (ItN d od o zs) H1)
section
variable {X : Cz} {K : FgX}
theorem pi_keysA {tg e : Expr} {td : TE} (he : PE X e td) : PI X tg e (wKeysA X.fr td) := by
  refine ⟨fun pins s σ H R I h => ?_⟩
  refine thn (he.run pins s σ H _ I h) fun u s1 ⟨x, H1, I1, rx, d, o, ex, q⟩ => ?_
  subst ex
  obtain rfl : u = Value.ref d := rx
  rcases q with ⟨kvs, hd, q⟩ | ⟨zs, ob, hn, hd, q⟩
  · obtain ⟨hs, hgd, hx, es, ep, vs, hdt, hsz, kv, hm⟩ := I1.frzK hd
    refine iter_keys hs hgd hx hdt (pi_one (tk := s1.toks) I1 _ (turn_keys _ hdt) ⟨_, Heap.get?_push_size _ rfl, rfl, ?_⟩ q)
    rw [hsz] <;> rfl
  · obtain ⟨hs, hgd, hx, es, ep, hdt, hsz, ent⟩ := frzN I1 hd hn
    refine iter_keys hs hgd hx hdt (pi_one (tk := s1.toks) I1 _ (turn_N _ hdt hn) ⟨_, Heap.get?_push_size _ rfl, rfl, ?_⟩ q)
    rw [hsz] <;> rfl
def iKeysD (A : PE') : PI' := fun env Q => A env fun o env1 => ∃ kds, o.fz env1 = some (.dict kds, env1) ∧ Q (kds.map Prod.fst) env1
theorem i_keysD {tg e : Expr} {A : PE'} (h : EV X e A) : EI X tg e (iKeysD A) := by
  obtain ⟨t, h1, l1⟩ := h.ex
  refine ⟨_, pi_keysA h1, fun C σ H F env R Qp Rl k q => ?_⟩
  refine l1 C σ H F env _ _ Rl (fun v H1 F1 env1 o s1 a1 q1 => ?_) q
  obtain ⟨kds, e, q1⟩ := q1
  obtain ⟨F2, s2, a2⟩ := fz_ok s1.rel a1 e
  have s12 := s1.trans s2
  simp only [At] at a2
  obtain ⟨p, od, o, rfl, f1, c⟩ := a2
  refine ⟨p, od, rfl, ?_⟩
  rcases c with ⟨kvs, rfl, ck⟩ | ⟨zs, hn, cz⟩
  · refine .inl ⟨kvs, s2.rel.frz _ _ f1, k _ _ H1 F2 env1 s12 ⟨_, (fun i H x H' => H' = H ∧ ∃ k v, kvs[i]? = some (k, v) ∧ x = kV k), ?_, fun H l => l _ _ f1, fun i H x H' hi l y => ?_⟩ q1⟩
    · rw [List.length_map, ← ck.len]
      exact walk_keys
    · obtain ⟨e1, kk, v, e2, rfl⟩ := y
      refine .inl ⟨e1, ?_⟩
      exact ck.keysAt.get' (by rw [List.getElem?_map, e2]; rfl)
  · refine .inr ⟨zs, o, hn, s2.rel.frz _ _ f1, k _ _ H1 F2 env1 s12 ⟨_, (fun i H x H' => H' = H ∧ ∃ z, zs[i]? = some z ∧ x = .ref z.2.1), ?_, fun H l => l _ _ f1, fun i H x H' hi l y => ?_⟩ q1⟩
    · rw [List.length_map, ← cz.len]
      exact walk_N
    · obtain ⟨e1, z, e2, rfl⟩ := y
      refine .inl ⟨e1, ?_⟩
      exact cz.keysAt.get' (by rw [List.getElem?_map, e2]; rfl)
end
end Sw

set_option Elab.async false
set_option linter.all false
set_option maxRecDepth 100000
namespace Sw
open PySem PySem.Spec L2
theorem ex_pr {α β : Type} {a : α} {b : β} {P : α → β → Prop} : (∃ x y, some (a, b) = some (x, y) ∧ P x y) ↔ P a b := ⟨fun ⟨_, _, e, h⟩ => by cases e; exact h, fun h => ⟨a, b, rfl, h⟩⟩
theorem ex_pr0 {α : Type} {a : α} : (∃ p : α, some a = some p) ↔ True := ⟨fun _ => trivial, fun _ => ⟨a, rfl⟩⟩
theorem ex_dic {t : Bool} {kds : List (D × D)} {P : Bool → List (D × D) → Prop} : (∃ t' k', some (SV.dic t kds) = some (SV.dic t' k') ∧ P t' k') ↔ P t kds := ⟨fun ⟨_, _, e, h⟩ => by cases e; exact h, fun h => ⟨t, kds, rfl, h⟩⟩
theorem ex_dic0 {t : Bool} {kds : List (D × D)} : (∃ t' k', some (SV.dic t kds) = some (SV.dic t' k')) ↔ True := ⟨fun _ => trivial, fun _ => ⟨t, kds, rfl⟩⟩
theorem ex_kds {kds : List (D × D)} {e : List SV} {P : List (D × D) → Prop} : (∃ k', some (PyData.dict kds, e) = some (.dict k', e) ∧ P k') ↔ P kds := ⟨fun ⟨_, e, h⟩ => by cases e; exact h, fun h => ⟨kds, rfl, h⟩⟩
theorem keyO_some {t : Bool} {kds : List (D × D)} {k : D} : KeyO (some t) kds k ↔ KeyT t k := Iff.rfl
theorem keyT_str (z : Str) : KeyT false (.str z) := ⟨.inr z, rfl⟩
theorem keyT_int (i : Int) : KeyT false (.int i) := ⟨.inl i, rfl⟩
theorem keyO_of {kds : List (D × D)} {k : D} {t : Bool} (h : ∃ p ∈ kds, KeyT t p.1) (g : KeyT t k) : KeyO none kds k := ⟨t, h, g⟩
/-! look-ups in dicts that are told by a row of things -/
theorem lookD_none {kds : List (D × D)} {k : D} (h : ∀ p ∈ kds, PyData.eqv p.1 k = false) : lookD kds k = none := by
  unfold lookD
  rw [List.find?_eq_none.mpr fun p hp => by rw [h p hp]; decide]
  rfl
theorem lookD_mem {kds : List (D × D)} {k d : D} (h : lookD kds k = some d) : ∃ p ∈ kds, PyData.eqv p.1 k = true ∧ p.2 = d := by
  unfold lookD at h
  cases q : kds.find? fun p => PyData.eqv p.1 k with
  | none => rw [q] at h; cases h
  | some p =>
    rw [q] at h
    cases h
    exact ⟨p, List.mem_of_find?_eq_some q, (by have := List.find?_some q; exact this), rfl⟩
theorem lookD_app {a b : List (D × D)} {k : D} : lookD (a ++ b) k = (lookD a k).or (lookD b k) := by
  unfold lookD
  rw [List.find?_append]
  cases a.find? fun p => PyData.eqv p.1 k <;> rfl
end Sw

set_option Elab.async false
set_option linter.all false
set_option maxRecDepth 100000
namespace Sw
open PySem PySem.Spec L2 PySem.Calls PyProof.Rows

section
variable {X : Cz}
/-! sorted of a tuple -/
def rSortT (K : FgK) : List V → Hp → VK → Prop := fun vs H Q => ∃ (a : Addr) (xs : List V) (ds : List D), vs = [V.ref a] ∧ SqT K H a xs ∧ DpAll K H xs ds ∧ okSort ds = true ∧
  ∀ p, H p = none → Q (.ref p) (upd H p (.lst ((zipSort xs ds).map Prod.fst)))
theorem cr_sortedT (hu : X.A.units + 64 < cLine) : CallR X (.builtin "sorted") (rSortT X.fr) := by
  intro pins s σ H vs us Q I r h
  obtain ⟨a, xs, ds, rfl, hs, hd, ho, q⟩ := h
  obtain ⟨o1, o2, o3⟩ := okSort_spec ho
  obtain ⟨its, rv, ⟨ob, g1, g2, n, g3⟩, hz⟩ := I.tuple hs
  obtain ⟨u, rfl, ru⟩ := vals1 r
  obtain rfl : u = Value.ref a := ru
  have len := dp_len hd
  have hil : its.length = xs.length := rv.length.symm
  refine call_function_entry kind_sorted plain_sorted entry_sorted (args_sorted1 _) ?_
  unfold Builtin.«sorted»
  refine wpAny_bind (m := checkCount "sorted" 1 1 _) (wpAny_pure ?_)
  refine wpAny_bind (wpAny_collect_seq (A := X.A.in1) a (.inr rfl) g1 g2 g3 (fun h' hk => ?_) (by rw [List.size_toArray, hil]; exact hz))
  have ea : its.toArray.toList = its := rfl
  rw [ea]
  refine wpAny_bind (wpAny_newList ?_ (by rw [hil]; exact hz))
  have I1 : Inv X pins σ H { s with heap := h' } := I.kept hk
  have hn' := I1.hok.fresh (Nat.le_refl h'.objs.size)
  obtain ⟨as, rr⟩ := Dp.readsAll I1 ds xs its hd rv
  have e0 : W.EachIs (fun v d => ∃ as, Reads h' v d as) its ds := W.readsAll_each (enc := fun d => d) (by rw [List.map_id']; exact rr)
  have e1 := zip_each rv e0
  have esn : (xs.zip ds).map Prod.snd = ds := List.map_snd_zip (Nat.le_of_eq len.symm)
  have hzl : (xs.zip ds).length ≤ sizeLine := by
    rw [List.length_zip, ← len, Nat.min_self]
    exact hz
  have new : (h'.push { cls := .type "list", data := .seq its.toArray }).get? h'.objs.size = some (seqObj "list" its.toArray 0) := Heap.get?_push_size _ rfl
  have old : ∀ b ob, h'.get? b = some ob → (h'.push { cls := .type "list", data := .seq its.toArray }).get? b = some ob := fun b ob e => Heap.get?_push_of_some _ e
  refine wpAny_bind (wpAny_holding ?_)
  refine W.list_sort_data (A := X.A.in1) (enc := Prod.snd) (R := fun v (b : V × D) => RelV b.1 v) new (e1.mono fun _ _ h => h.1) ((W.each_mem e1).mono fun v b h => ?_) (by rw [esn]; exact o2) (by rw [esn]; exact o3) ?_ (fun b hb => ?_) fun out hlen hout => ?_
  · obtain ⟨⟨h1, as, h2⟩, hb⟩ := h
    refine ⟨as, PyProof.Rows.Reads.keeps old h2, fun m => ?_⟩
    have hp : b.2.plain = true := okD_plain (o1 _ (List.of_mem_zip hb).2)
    obtain ⟨ob, e⟩ := reads_there _ _ _ hp h2 m
    exact absurd (Heap.lt_size e) (Nat.lt_irrefl _)
  · exact hzl
  · have hm : b.2 ∈ ds := (List.of_mem_zip hb).2
    have := okD_depth (o1 _ hm)
    show X.A.units + 1 + 1 + _ < _
    omega
  · refine wpAny_pure ?_
    obtain ⟨n, hn2⟩ := sortedHeap_at (vs := its) (out := List.toArray out) new
    have key : ∀ b ob, h'.get? b = some ob → (sortedHeap (h'.push { cls := .type "list", data := .seq its.toArray }) h'.objs.size its (List.toArray out)).get? b = some ob := fun b ob e => by
      have hb := Heap.lt_size e
      have hb2 : b < (h'.push { cls := .type "list", data := .seq its.toArray }).objs.size := Heap.lt_size (old b ob e)
      rw [sortedHeap_old (Nat.ne_of_lt hb) hb2]
      exact old b ob e
    refine ⟨_, rfl, .ref h'.objs.size, _, I1.laid (o := .lst ((zipSort xs ds).map Prod.fst)) (t' := s.toks) key (Nat.le_refl _) ⟨?_, out, n, each_vals hout, hn2⟩, rfl, q _ hn'⟩
    rw [List.length_map, List.length_mergeSort]
    exact hzl
end
section
variable {K : FgX}
def gSortT : List D → Option (List D)
  | [.tuple ds] => if okSort ds = true then some (srtD ds) else none
  | _ => none
theorem gSortT_ok {ds : List D} (h : okSort ds = true) : gSortT [.tuple ds] = some (srtD ds) := if_pos h
theorem l_sortT : LCF K (rSortT K) gSortT := fun C σ H F env xs ds es Q R a e k => by
  unfold gSortT at e
  split at e
  · split at e
    · rename_i ho
      cases e
      obtain ⟨x, rfl, w⟩ := a.one
      obtain ⟨p, zs, rfl, e1, a2⟩ := w.tup R.frz
      refine ⟨p, zs, _, rfl, e1, AtAll.dp _ _ (okSort_plain ho) (AtAll.mono R.frz _ _ a2), ho, fun l hl => ?_⟩
      obtain ⟨s, f, h, n⟩ := R.alloc0 (o := .lst ((zipSort zs _).map Prod.fst)) hl
      refine k l _ F s f h n hl ?_
      obtain ⟨z1, z2⟩ := at_zip a2
      rw [← zipSort_snd z1]
      exact of_pairs fun q hq => z2 q ((List.mergeSort_perm _ _).mem_iff.mp hq)
    · cases e
  · cases e
/-! str of a number or of a text -/
def gStrI : List D → Option D
  | [.int i] => if i.natAbs.log2 < 1920 then some (.str (Str.ofString (toString i))) else none
  | [.str a] => some (.str a)
  | _ => none
abbrev rStrI : List V → Hp → VK → Prop := fun xs H Q => (∃ i, xs = [V.int i] ∧ i.natAbs.log2 < 1920 ∧ Q (.str (Str.ofString (toString i))) H) ∨ ∃ a, xs = [V.str a] ∧ Q (.str a) H
theorem call_strA {X : Cz} : CallR X (.type "str") rStrI := by
  intro pins s σ H xs us Q I r h
  rcases h with h | h
  · exact call_str_int pins s σ H xs us Q I r h
  · exact SkE.call_str_str pins s σ H xs us Q I r h
theorem l_strI : LC K rStrI gStrI := fun C σ H F env xs ds d Q R a e k => by
  unfold gStrI at e
  split at e
  · split at e
    · rename_i ho
      cases e
      obtain ⟨x, rfl, w⟩ := a.one
      cases w
      exact .inl ⟨_, rfl, ho, k _ H F (Stp.refl R) (by simp [At])⟩
    · cases e
  · cases e
    obtain ⟨x, rfl, w⟩ := a.one
    cases w
    exact .inr ⟨_, rfl, k _ H F (Stp.refl R) (by simp [At])⟩
  · cases e
theorem gStrI_i {i : Int} (h : i.natAbs < 1000000) : gStrI [.int i] = some (.str (Str.ofString (toString i))) := if_pos (by
  by_cases h0 : i.natAbs = 0
  · rw [h0]; decide
  · exact (Nat.log2_lt h0).mpr (Nat.lt_of_lt_of_le h (Nat.le_trans (by decide : 1000000 ≤ 2 ^ 20) (Nat.pow_le_pow_right (by decide) (by decide)))))
theorem gStrI_s {z : Str} : gStrI [.str z] = some (.str z) := rfl
end
end Sw

set_option Elab.async false
set_option linter.all false
set_option maxRecDepth 100000
namespace Sw
open PySem PySem.Spec L2 PySem.Calls PyProof.Rows
section
variable {X : Cz}
/-! a < b <= c < .. of numbers -/
def qRest : List ((Int → Int → Bool) × PE') → Int → PT'
  | [], _ => fun env Q => Q true env
  | [(p, B)], i => fun env Q => B env fun o env1 => ∃ j, o.rd env1 = some (.int j) ∧ Q (p i j) env1
  | (p, B) :: r, i => fun env Q => B env fun o env1 => ∃ j, o.rd env1 = some (.int j) ∧ if p i j = true then qRest r j env1 Q else Q false env1
def qChain (A : PE') (ls : List ((Int → Int → Bool) × PE')) : PT' := fun env Q => A env fun o env1 => ∃ i, o.rd env1 = some (.int i) ∧ qRest ls i env1 Q
structure ECh (X : Cz) (ops : List CmpOp) (es : List Expr) (ls : List ((Int → Int → Bool) × PE')) : Prop where
  ex : ∃ t : Int → TT, (∀ (pos : Pos) (pins : List (Addr × Obj)) (s : Shared) (σ : L2.St) (H : Hp) (Q : Bool → Hp → Prop) (i : Int) (a : Value), RelV (.int i) a → Inv X pins σ H s → t i σ H Q → wpAny (model X.prog X.w) X.A (testChain pos a ops (evalEach es X.env)) (TP X pins σ Q) X.xe s) ∧ ∀ i, LT X.fr (t i) (qRest ls i)
theorem ech_one {op : CmpOp} {p : Int → Int → Bool} {e : Expr} {B : PE'} (ho : OpR X (compareOp op) (rI0 fun i j => .bl (p i j))) (hb : EV X e B) : ECh X [op] [e] [(p, B)] := by
  obtain ⟨tb, h1, l1⟩ := hb.ex
  refine ⟨fun i σ H Q => tb σ H fun y H1 => ∃ j, y = .int j ∧ Q (p i j) H1, fun pos pins s σ H Q i a ra I h => ?_, fun i C σ H F env Q Qp R k q => ?_⟩
  · refine test_last (thn (h1.run pins s σ H _ I h) fun u s2 ⟨y, H2, I2, r2, j, e2, q2⟩ => ?_)
    subst e2
    refine thn (ho pins s2 σ H2 (.int i) (.int j) a u (fun z H' => z = .bl (p i j) ∧ Q (p i j) H') I2 ra r2 ⟨i, j, rfl, rfl, rfl, q2⟩) fun d s3 ⟨z, H3, I3, r3, e3, q3⟩ => ?_
    subst e3
    cases r3
    exact wpAny_truthy_bool ⟨H3, I3, q3⟩
  · refine l1 C σ H F env _ _ R (fun v1 H1 F1 env1 o1 s1 a1 q1 => ?_) q
    obtain ⟨j, e, q1⟩ := q1
    have w := rd_vw s1.rel a1 e
    have w : v1 = .int j := by simpa [Vw, At] using w
    exact ⟨j, w, k _ H1 F1 env1 s1 q1⟩
theorem ech_more {op op' : CmpOp} {ops : List CmpOp} {p : Int → Int → Bool} {e e' : Expr} {es : List Expr} {B : PE'} {l : (Int → Int → Bool) × PE'} {ls : List ((Int → Int → Bool) × PE')} (ho : OpR X (compareOp op) (rI0 fun i j => .bl (p i j))) (hb : EV X e B) (r : ECh X (op' :: ops) (e' :: es) (l :: ls)) : ECh X (op :: op' :: ops) (e :: e' :: es) ((p, B) :: l :: ls) := by
  obtain ⟨tb, h1, l1⟩ := hb.ex
  obtain ⟨tr, h2, l2⟩ := r.ex
  refine ⟨fun i σ H Q => tb σ H fun y H1 => ∃ j, y = .int j ∧ if p i j = true then tr j σ H1 Q else Q false H1, fun pos pins s σ H Q i a ra I h => ?_, fun i C σ H F env Q Qp R k q => ?_⟩
  · refine test_link (thn (h1.run pins s σ H _ I h) fun u s2 ⟨y, H2, I2, r2, j, e2, q2⟩ => ?_)
    subst e2
    refine thn (ho pins s2 σ H2 (.int i) (.int j) a u (fun z H' => z = .bl (p i j) ∧ if p i j = true then tr j σ H' Q else Q false H') I2 ra r2 ⟨i, j, rfl, rfl, rfl, q2⟩) fun d s3 ⟨z, H3, I3, r3, e3, q3⟩ => ?_
    subst e3
    cases r3
    refine wpAny_truthy_bool ?_
    cases hp : p i j with
    | false =>
      rw [hp, if_neg (by decide)] at q3
      exact ite_ff ⟨H3, I3, q3⟩
    | true =>
      rw [hp, if_pos rfl] at q3
      exact ite_tt (h2 pos pins s3 σ H3 Q j u r2 I3 q3)
  · refine l1 C σ H F env _ _ R (fun v1 H1 F1 env1 o1 s1 a1 q1 => ?_) q
    obtain ⟨j, e, q1⟩ := q1
    have w := rd_vw s1.rel a1 e
    have w : v1 = .int j := by simpa [Vw, At] using w
    refine ⟨j, w, ?_⟩
    cases hp : p i j with
    | false =>
      rw [hp, if_neg (by decide)] at q1
      rw [if_neg (by decide)]
      exact k _ H1 F1 env1 s1 q1
    | true =>
      rw [hp, if_pos rfl] at q1
      rw [if_pos rfl]
      exact l2 j C σ H1 F1 env1 Q Qp s1.rel (fun b H' F' env' s2 q2 => k b H' F' env' (s1.trans s2) q2) q1
theorem t_chain {a : Expr} {op op' : CmpOp} {ops : List CmpOp} {e e' : Expr} {es : List Expr} {pos : Pos} {A : PE'} {ls : List ((Int → Int → Bool) × PE')} (ha : EV X a A) (hc : ECh X (op :: op' :: ops) (e :: e' :: es) ls) (hm : lastMarks (op :: op' :: ops) (e :: e' :: es) = false) : ET X (.Compare a (op :: op' :: ops) (e :: e' :: es) pos) (qChain A ls) := by
  obtain ⟨ta, h1, l1⟩ := ha.ex
  obtain ⟨tr, h2, l2⟩ := hc.ex
  refine ⟨fun σ H Q => ta σ H fun x H1 => ∃ i, x = .int i ∧ tr i σ H1 Q, ⟨fun pins s σ H Q I h => ?_⟩, fun C σ H F env Q Qp R k q => ?_⟩
  · refine isTrue_chain (thn (h1.run pins s σ H _ I h) fun v s1 ⟨x, H1, I1, r1, i, e1, q1⟩ => ?_) hm
    subst e1
    exact h2 pos pins s1 σ H1 Q i v r1 I1 q1
  · refine l1 C σ H F env _ _ R (fun v1 H1 F1 env1 o1 s1 a1 q1 => ?_) q
    obtain ⟨i, e, q1⟩ := q1
    have w := rd_vw s1.rel a1 e
    have w : v1 = .int i := by simpa [Vw, At] using w
    exact ⟨i, w, l2 i C σ H1 F1 env1 Q Qp s1.rel (fun b H' F' env' s2 q2 => k b H' F' env' (s1.trans s2) q2) q1⟩
end
section
variable {K : FgX}
/-! l.clear() -/
def gClear : List D → List D → Option (D × List D)
  | _, [] => some (.none, [])
  | _, _ => none
theorem l_clear : LMO K rClear gClear := fun H F p xs ys ds es ds' d Q hp a b e k => by
  unfold gClear at e
  split at e
  · cases e
    have b : ys = [] := by simpa [AtAll] using b
    subst b
    exact ⟨p, xs, rfl, rfl, hp, k _ _ (by simp [At]) AtAll.nil⟩
  · cases e
theorem gClear_0 {ds : List D} : gClear ds [] = some (.none, []) := rfl
end
end Sw

set_option Elab.async false
set_option linter.all false
set_option maxRecDepth 100000
namespace Sw
open PySem PySem.Spec L2 PySem.Calls PyProof.Rows
section
variable {X : Cz}
/-! {k: v} as a datum; k a text or a number -/
def tLock (t : TE) : TE := fun σ H Q => t σ H fun x H1 => ∃ d u, x = .ref d ∧ H1 d = some u ∧ Mut (some u) ∧ ∀ od, Q x (upd H1 d (.frz od u))
theorem pe_lock {e : Expr} {t : TE} (h : PE X e t) : PE X e (tLock t) := ⟨fun pins s σ H Q I q => thn (h.run pins s σ H _ I q) fun v s1 ⟨x, H1, I1, r1, d, u, ex, hd, mu, q1⟩ => by
  obtain ⟨od, I2⟩ := I1.lock hd mu
  exact ⟨x, _, I2, r1, q1 od⟩⟩
def qDisp1 (A B : PE') : PE' := fun env Q => A env fun o env1 => B env1 fun o2 env2 => ∃ kd, o.rd env2 = some kd ∧ KeyT false kd ∧ ∃ vd env3, o2.fz env2 = some (vd, env3) ∧ Q (.dv (.dict [(kd, vd)])) env3
theorem LE.disp1 {ta tb : TE} {A B : PE'} (l1 : LE X.fr ta A) (l2 : LE X.fr tb B) : LE X.fr (tLock (tDisp [(ta, tb)])) (qDisp1 A B) := fun C σ H F env Q Qp R kk q => by
  intro p hp
  obtain ⟨s, f, h0, n⟩ := R.alloc0 (o := .dK []) hp
  refine l1 C σ _ F env _ _ s.rel (fun x H1 F1 env1 o1 s1 a1 q1 => ?_) q
  refine l2 C σ H1 F1 env1 _ _ s1.rel (fun y H2 F2 env2 o2 s2 a2 q2 => ?_) q1
  obtain ⟨kd, e1, hk, vd, env3, e2, q3⟩ := q2
  have w := rd_vw s2.rel (a1.mono s2.ff) e1
  obtain ⟨kk', rfl⟩ := hk
  obtain ⟨F3, s3, a3⟩ := fz_ok s2.rel a2 e2
  have st := (s1.trans s2).trans s3
  have tot := s.trans st
  have hx : x = kV kk' := by
    cases kk' with
    | inl i => show x = V.int i; simpa [Vw, At, kD] using w
    | inr z => show x = V.str z; simpa [Vw, At, kD] using w
  have hp2 : H2 p = some (.dK []) := (s1.trans s2).fr p _ upd_same n
  have fp3 : F3 p = none := by
    cases e : F3 p with
    | none => rfl
    | some u =>
      rcases st.fn p u e with g | g | g
      · rw [f] at g; cases g
      · rw [upd_same] at g; cases g
      · exact absurd g n
  obtain ⟨h0', no⟩ := fresh_of R tot hp
  refine ⟨hp2, [(kk', y)], by rw [hx]; rfl, by simp, p, .dK [(kk', y)], rfl, upd_same, True.intro, fun od => ?_⟩
  have st4 := tot.other (o := .dK [(kk', y)]) hp hp2 fp3 h0' no
  have st5 := st4.other (o := .frz od (.dK [(kk', y)])) hp upd_same fp3 h0' no
  have st6 := st5.freeze hp upd_same fp3 h0' no
  have ff : Le F3 (upd F3 p (.frz od (.dK [(kk', y)]))) := fun b u h => by
    rw [upd_ne (ne_of_none h fp3)]; exact h
  refine kk _ _ _ env3 (.dv (.dict [(kD kk', vd)])) st6 ?_ q3
  show At _ _ (.dict [(kD kk', vd)]) (.ref p)
  simp only [At]
  refine ⟨p, od, _, rfl, upd_same, .inl ⟨[(kk', y)], rfl, ?_⟩⟩
  simp only [AtK]
  exact ⟨kk', y, [], rfl, rfl, At.mono ff _ _ a3, rfl⟩
theorem q_disp1 {a b : Expr} {A B : PE'} {pos : Pos} (ha : EV X a A) (hb : EV X b B) : EV X (.Dict [some a] [b] pos) (qDisp1 A B) := by
  obtain ⟨ta, h1, l1⟩ := ha.ex
  obtain ⟨tb, h2, l2⟩ := hb.ex
  exact ⟨_, pe_lock (pe_disp (pps_cons h1 h2 pps_nil) rfl rfl (by simp) (by simp)), LE.disp1 l1 l2⟩
end
section
variable {X : Cz}
/-! list(text), tuple(text) -/
theorem sign_vals {z : Str} {acc : Array Value} (h : ItemsOf (SignAt z) acc z.cps.size) : Vals (z.cps.toList.map fun c => V.str ⟨#[c]⟩) acc.toList := by
  refine vals_of (by rw [List.length_map, Array.length_toList, Array.length_toList, h.1]) fun i x u hx hu => ?_
  rw [List.getElem?_map] at hx
  cases q : z.cps.toList[i]? with
  | none => rw [q] at hx; cases hx
  | some c =>
    rw [q] at hx
    cases hx
    rw [Array.getElem?_toList] at hu q
    obtain ⟨c', u', e1, rfl⟩ := h.2 i u hu
    rw [q] at e1
    cases e1
    exact ⟨u', rfl⟩
theorem call_list_txt (hc : X.calm = true) : CallR X (.type "list") (fun xs H Q => ∃ z, xs = [V.str z] ∧ z.length ≤ sizeLine ∧ ∀ l, H l = none → Q (.ref l) (upd H l (.lst (z.cps.toList.map fun c => V.str ⟨#[c]⟩)))) := by
  intro pins s σ H xs us Q I r h
  obtain ⟨z, rfl, hz, q⟩ := h
  obtain ⟨u, rfl, rx⟩ := vals1 r
  obtain ⟨t, rfl⟩ := rx
  refine PySem.call_list_str (hn := hz) (I.ok.hd hc) z t fun h' tk acc c' hk hS hacc => ?_
  have iv := sign_vals hacc
  refine ⟨.ref s.heap.objs.size, _, I.laid (o := .lst (z.cps.toList.map fun c => V.str ⟨#[c]⟩)) (t' := tk) hk (Nat.le_refl _) ⟨?_, acc.toList, c', iv, ?_⟩, rfl, q _ (I.hok.fresh (Nat.le_refl s.heap.objs.size))⟩
  · rw [List.length_map]; exact hz
  · exact hS
theorem call_tuple_txt (hc : X.calm = true) : CallR X (.type "tuple") (fun xs H Q => ∃ z, xs = [V.str z] ∧ z.length ≤ sizeLine ∧ ∀ l, H l = none → Q (.ref l) (upd H l (.tup (z.cps.toList.map fun c => V.str ⟨#[c]⟩)))) := by
  intro pins s σ H xs us Q I r h
  obtain ⟨z, rfl, hz, q⟩ := h
  obtain ⟨u, rfl, rx⟩ := vals1 r
  obtain ⟨t, rfl⟩ := rx
  refine PySem.call_tuple_str (hsz := hz) (I.ok.hd hc) z t fun h' tk acc hk hacc => ?_
  have iv := sign_vals hacc
  have I1 : Inv X pins σ H { s with heap := h', toks := tk } := I.kept hk
  have ea : acc.toList.toArray = acc := rfl
  have I2 : Inv X pins σ (upd H h'.objs.size (.tup (z.cps.toList.map fun c => V.str ⟨#[c]⟩))) { s with heap := h'.push { cls := .type "tuple", data := .seq acc }, toks := tk } :=
    I1.laid (t' := tk) (fun b o e => Heap.get?_push_of_some _ e) (Nat.le_refl _) (show ObjOk X.prog X.w _ _ _ (.tup _) from ⟨by rw [List.length_map]; exact hz, acc.toList, iv, IsTup.new _ _⟩)
  exact ⟨.ref h'.objs.size, _, I2, rfl, q _ (I1.hok.fresh (Nat.le_refl _))⟩
end
section
variable {K : FgX}
theorem signs_at {F : Hp} (cs : List Nat) : AtAll K F (cs.map signD) (cs.map fun c => V.str ⟨#[c]⟩) := by
  induction cs with
  | nil => exact AtAll.nil
  | cons c r ih => exact AtAll.cons (by simp [signD, At]) ih
def gListS : List D → Option (List D)
  | [.str z] => if z.length ≤ sizeLine then some (z.cps.toList.map signD) else none
  | _ => none
theorem l_listS : LCF K (fun xs H Q => ∃ z, xs = [V.str z] ∧ z.length ≤ sizeLine ∧ ∀ l, H l = none → Q (.ref l) (upd H l (.lst (z.cps.toList.map fun c => V.str ⟨#[c]⟩)))) gListS := fun C σ H F env xs ds es Q R a e k => by
  unfold gListS at e
  split at e
  · split at e
    · rename_i hz
      cases e
      obtain ⟨x, rfl, w⟩ := a.one
      rw [w.str]
      refine ⟨_, rfl, hz, fun l hl => ?_⟩
      obtain ⟨s, f, h, n⟩ := R.alloc0 (o := .lst _) hl
      exact k l _ F s f h n hl (signs_at _)
    · cases e
  · cases e
def gTupleS : List D → Option D
  | [.str z] => if z.length ≤ sizeLine then some (.tuple (z.cps.toList.map signD)) else none
  | _ => none
theorem l_tupleS : LC K (fun xs H Q => ∃ z, xs = [V.str z] ∧ z.length ≤ sizeLine ∧ ∀ l, H l = none → Q (.ref l) (upd H l (.tup (z.cps.toList.map fun c => V.str ⟨#[c]⟩)))) gTupleS := fun C σ H F env xs ds d Q R a e k => by
  unfold gTupleS at e
  split at e
  · split at e
    · rename_i hz
      cases e
      rename_i z
      obtain ⟨x, rfl, w⟩ := a.one
      rw [w.str]
      refine ⟨_, rfl, hz, fun l hl => ?_⟩
      have s := R.alloc (o := .tup (z.cps.toList.map fun c => V.str ⟨#[c]⟩)) hl
      exact k _ _ _ s (At.tup_of upd_same (signs_at _))
    · cases e
  · cases e
theorem gListS_1 {z : Str} (h : z.length ≤ sizeLine) : gListS [.str z] = some (z.cps.toList.map signD) := if_pos h
theorem gTupleS_1 {z : Str} (h : z.length ≤ sizeLine) : gTupleS [.str z] = some (.tuple (z.cps.toList.map signD)) := if_pos h
end
end Sw

set_option Elab.async false
set_option linter.all false
set_option maxRecDepth 100000
set_option maxHeartbeats 4000000
namespace Sw
open PySem PySem.Spec L2
/-! a call of a def with a lent list that hands back a number, a truth, a text or None: what else it was handed is only read -/
theorem AtAll.atoms {K : FgK} {F F' : Hp} : ∀ {ds : List D} {xs : List V}, (∀ d ∈ ds, atomD d) → AtAll K F ds xs → AtAll K F' ds xs
  | [], xs, _, a => by
    have : xs = [] := by simpa [AtAll] using a
    subst this
    exact AtAll.nil
  | d :: ds, xs, h, a => by
    simp only [AtAll] at a
    obtain ⟨x, r, rfl, b, c⟩ := a
    exact AtAll.cons (At.atom (h d List.mem_cons_self) b) (AtAll.atoms (fun z hz => h z (List.mem_cons_of_mem _ hz)) c)
def qCallLV (sp : PSp) (i : Nat) (T : PA') : PE' := fun env Q => (∃ l ds, env[i]? = some (.own l ds)) ∧ T env fun os env1 => ∃ ds env2, fzAll env1 os = some (ds, env2) ∧ ∃ l fd, env1[i]? = some (.own l fd) ∧ env2[i]? = some (.own l fd) ∧ sp (some fd) ds fun rv fl' => ∃ fd', fl' = some fd' ∧ (∀ d ∈ fd', atomD d) ∧ ∃ d, rv = .dt d ∧ atomD d ∧ Q (.dv d) (env1.set i (.own l fd'))
theorem LE.callLV {X : Cz} {sp : PSp} {T : PA'} {t : TA} {dvs : List V} {dds : List D} {E : XK} (i : Nat) (hd : constsOk dvs dds) (l1 : LA X.fr t T) : LE X.fr (tCall (spOf X.fr true sp) dvs E (tCons (tVar i) t)) (qCallLV sp i (qAddD T dds)) := fun C σ H F env Q Qp R kk q => by
  obtain ⟨⟨l0, ds0, e0⟩, q⟩ := q
  obtain ⟨a, xs0, f1, f2, f3, f4, f5⟩ := R.slotL e0
  refine ⟨.ref a, f1, ?_⟩
  refine l1 C σ H F env _ _ R (fun vs H1 F1 env1 os s1 a1 q1 => ?_) q
  obtain ⟨ds, env2, e1, l, fd, he, e2, q1⟩ := q1
  obtain ⟨F2, s2, a2⟩ := fzAll_ok s1.rel (a1.app (hd X.fr F1)) e1
  have R1 := s1.rel
  obtain ⟨a', xs, g1, g2, g3, g4, g5⟩ := s2.rel.slotL e2
  rw [f1] at g1
  cases g1
  obtain ⟨a'', ys, j1, j2, j3, j4, j5⟩ := R1.slotL he
  rw [f1] at j1
  cases j1
  refine ⟨F2, some a, some fd, ds, vs ++ dvs, s2.rel.frz, a2, by rw [if_pos rfl]; exact ⟨a, xs, fd, rfl, rfl, g2, g3, rfl, g5⟩, _, q1, fun v H' F' rv fl' pp qq => ?_⟩
  obtain ⟨fd', rfl, hfa, d, rfl, ha, qq⟩ := qq
  obtain ⟨xs', ds2, k1, k2, k3, k4⟩ := pp.lent a rfl
  cases k3
  have keep : ∀ b o, b ≠ a → H1 b = some o → H' b = some o := fun b o n h => pp.frame b o h (fun z => n (Option.some.inj z).symm)
  have hi : i < env1.length := (List.getElem?_eq_some_iff.mp he).1
  have oth : ∀ (j : Nat) (m : Bool) (es : Ct), (env1.set i (.own l fd'))[j]? = some (SV.obj m es) → ∃ es', env1[j]? = some (SV.obj m es') := fun j m es h => by
    by_cases e : j = i
    · subst e; rw [List.getElem?_set_self hi] at h; cases h; exact ⟨.lst fd, he⟩
    · rw [List.getElem?_set_ne (Ne.symm e)] at h; exact ⟨es, h⟩
  have st : Stp X.fr C σ H1 F1 env1 H' F1 (env1.set i (.own l fd')) := by
    refine ⟨⟨⟨fun b o h => ?_, R1.mono, R1.new, fun b o h n => ?_, fun b h => ?_, by rw [List.length_set]; exact R1.len, fun j sv e => ?_, fun j k m es n fs h1 h2 h3 => ?_⟩, R1.xok⟩, Le.rfl', fun b o h n => ?_, fun b o h => .inl h, oth, fun b h => ?_⟩
    · refine keep b o ?_ (R1.frz b o h)
      rintro rfl
      rw [j3] at h; cases h
    · have q := R1.frame b o h n
      refine keep b o ?_ q
      rintro rfl
      cases l with
      | true => exact n (by simpa using j4)
      | false => rw [if_neg (by decide)] at j4; rw [j4] at h; cases h
    · obtain ⟨⟨zs, e⟩, f, g⟩ := R1.la b h
      by_cases hb : b = a
      · subst hb
        exact ⟨⟨xs', k1⟩, f, g⟩
      · exact ⟨⟨zs, keep b _ hb e⟩, f, g⟩
    · by_cases e' : j = i
      · subst e'
        rw [List.getElem?_set_self hi] at e
        cases e
        exact ⟨a, _, f1, k1, j3, j4, xs', rfl, AtAll.atoms hfa k4⟩
      · rw [List.getElem?_set_ne (Ne.symm e')] at e
        have q := R1.slot j sv e
        cases sv with
        | un => trivial
        | raw z => exact q
        | dat d => exact q
        | obj m es =>
          obtain ⟨r, zs, e1, e2, e3, e4, e5⟩ := q
          have ne : r ≠ a := by
            rintro rfl
            exact e' (R1.dist j i m es l (.lst fd) e he (e1.trans f1.symm))
          exact ⟨r, zs, e1, keep r _ ne e2, e3, e4, e5⟩
    · obtain ⟨es', h1⟩ := oth j m es h1
      obtain ⟨fs', h2⟩ := oth k n fs h2
      exact R1.dist j k m es' n fs' h1 h2 h3
    · refine keep b o ?_ h
      rintro rfl
      exact n ⟨i, l, .lst fd, he, f1⟩
    · by_cases hb : b = a
      · subst hb
        rw [k1] at h; cases h
      · cases q : H1 b with
        | none => rfl
        | some u =>
          rw [keep b u hb q] at h; cases h
  exact kk v H' F1 _ (.dv d) (s1.trans st) (At.atom ha pp.res) qq
theorem q_calLV {X : Cz} {k j : Nat} {ps : List Str} {sp : PSp} {x : Str} {es : List Expr} {T : PA'} {p pos : Pos} {dds : List D} (i : Nat) {y : Str} {py : Pos} (c : Cal X.prog X.w X.fr X.mg X.base k x true ps dds sp) (hr : Room j X.A) (hkj : k ≤ j) (hg : Gl X x) (ha : EA X es T) (hN : X.N[i]? = some y := by rfl) (hv : Vis X.env.scope y := by first | exact Or.inl rfl | exact Or.inr (Or.inl rfl) | exact Or.inr (Or.inr rfl)) (hd1 : (y == ("__debug__" : Str)) = false := by decide) (hcd : (y == ("__classdict__" : Str)) = false := by decide)
    (hdb : (x == ("__debug__" : Str)) = false := by decide) (he : starEach (.Name y py :: es) X.env = (false, eval (.Name y py) X.env) :: starEach es X.env := by rfl) (hpl : (backTo pos (starEach es X.env)).any (·.1) = false := by rfl) :
    EV X (.Call (.Name x p) (.Name y py :: es) [] pos) (qCallLV sp i (qAddD T dds)) := by
  obtain ⟨f, fd, dvs, ds, h1, h2, h3, h4, h5, h6⟩ := c.ex
  obtain ⟨t, g1, l1⟩ := ha.ex
  exact ⟨_, pe_call h1 (hr.mono hkj) hg h2 h3 h4 h5 pass0 (pa_cons (pe_var hN hv hd1 hcd) g1 he) hdb he hpl, LE.callLV i h6 l1⟩
theorem ex_hn {a : List D} {P : List D → Prop} : (∃ ds, some a = some ds ∧ P ds) ↔ P a := ⟨fun ⟨_, e, h⟩ => by cases e; exact h, fun h => ⟨a, rfl, h⟩⟩
end Sw

set_option Elab.async false
set_option linter.all false
set_option maxRecDepth 100000
set_option maxHeartbeats 4000000
namespace Sw
open PySem PySem.Spec L2
/-! a call that hands back data without lists and dicts: what it was handed is only read -/
mutual
def bareD : D → Bool
  | .list _ => false
  | .dict _ => false
  | .tuple ds => bareL ds
  | _ => true
def bareL : List D → Bool
  | [] => true
  | d :: r => bareD d && bareL r
end
/-- what of F' stays known: what was known ahead, and tuples -/
def keepT (F F' : Hp) : Hp := fun b => match F b with
  | some o => some o
  | none => match F' b with
    | some (.tup xs) => some (.tup xs)
    | _ => none
theorem keepT_old {F F' : Hp} {b : Addr} {o : HO} (h : F b = some o) : keepT F F' b = some o := by
  unfold keepT
  rw [h]
theorem keepT_of {F F' : Hp} {b : Addr} {o : HO} (h : keepT F F' b = some o) : F b = some o ∨ (F b = none ∧ F' b = some o ∧ ∃ xs, o = .tup xs) := by
  unfold keepT at h
  split at h
  · exact .inl (by rw [← h]; assumption)
  · rename_i e
    split at h
    · rename_i xs e2
      cases h
      exact .inr ⟨e, e2, xs, rfl⟩
    · cases h
theorem keepT_tup {F F' : Hp} {b : Addr} {xs : List V} (l : Le F F') (h : F' b = some (.tup xs)) : keepT F F' b = some (.tup xs) := by
  unfold keepT
  cases q : F b with
  | some o =>
    have := l b o q
    rw [h] at this
    cases this
    rfl
  | none =>
    simp only [h]
end Sw
namespace Sw
open PySem PySem.Spec L2
theorem not_tup {K : FgK} {F : Hp} {p : Addr} {xs : List V} {c : Ct} (h : CtOk K F p (.tup xs) c) : False := by
  cases c with
  | lst ds =>
    obtain ⟨ys, e, _⟩ := h
    cases e
  | dic t kds =>
    cases t with
    | false =>
      obtain ⟨ys, e, _⟩ := h
      cases e
    | true =>
      obtain ⟨ys, e, _⟩ := h
      unfold IsN at e
      simp at e
mutual
theorem bare_at {K : FgK} {F F' : Hp} (l : Le F F') : ∀ (d : D) (v : V), bareD d = true → At K F' d v → At K (keepT F F') d v
  | .none, v, _, a => by simpa [At] using a
  | .bool b, v, _, a => by simpa [At] using a
  | .int b, v, _, a => by simpa [At] using a
  | .str b, v, _, a => by simpa [At] using a
  | .list _, v, h, _ => by simp [bareD] at h
  | .dict _, v, h, _ => by simp [bareD] at h
  | .tuple ds, v, h, a => by
    simp only [At] at a ⊢
    obtain ⟨p, xs, e, q, r⟩ := a
    refine ⟨p, xs, e, ?_, bare_all l ds xs (by simpa [bareD] using h) r⟩
    rcases q with q | q
    · exact .inl (keepT_tup l q)
    · exact .inr q
theorem bare_all {K : FgK} {F F' : Hp} (l : Le F F') : ∀ (ds : List D) (xs : List V), bareL ds = true → AtAll K F' ds xs → AtAll K (keepT F F') ds xs
  | [], xs, _, a => by simpa [AtAll] using a
  | d :: r, xs, h, a => by
    simp only [AtAll] at a ⊢
    simp only [bareL, Bool.and_eq_true] at h
    obtain ⟨x, ys, e, q, b⟩ := a
    exact ⟨x, ys, e, bare_at l d x h.1 q, bare_all l r ys h.2 b⟩
end
def qCallR (sp : PSp) (T : PA') : PE' := fun env Q => T env fun os env1 => ∃ ds env2, fzAll env1 os = some (ds, env2) ∧ sp none ds fun rv _ => ∃ d, rv = .dt d ∧ bareD d = true ∧ Q (.dv d) env1
theorem LE.callR {X : Cz} {sp : PSp} {T : PA'} {t : TA} {dvs : List V} {dds : List D} {E : XK} (hd : constsOk dvs dds) (l1 : LA X.fr t T) : LE X.fr (tCall (spOf X.fr false sp) dvs E t) (qCallR sp (qAddD T dds)) := fun C σ H F env Q Qp R kk q => by
  refine l1 C σ H F env _ _ R (fun vs H1 F1 env1 os s1 a1 q1 => ?_) q
  obtain ⟨ds, env2, e1, q1⟩ := q1
  obtain ⟨F2, s2, a2⟩ := fzAll_ok s1.rel (a1.app (hd X.fr F1)) e1
  refine ⟨F2, none, none, ds, vs ++ dvs, s2.rel.frz, a2, by rw [if_neg (by decide)]; exact ⟨rfl, rfl, rfl⟩, _, q1, fun v H' F' rv fl' pp qq => ?_⟩
  obtain ⟨d, rfl, ha, qq⟩ := qq
  have keep : ∀ b o, H1 b = some o → H' b = some o := fun b o h => pp.frame b o h (fun z => nomatch z)
  have R1 := s1.rel
  have l12 : Le F1 F' := Le.trans' s2.ff pp.mono
  -- a tuple known now, and not ahead, is new
  have nw : ∀ b xs, F1 b = none → F' b = some (.tup xs) → H1 b = none := fun b xs h1 h2 => by
    rcases pp.new b _ h2 with z | z
    · rcases s2.fn b _ z with y | y | ⟨i, l, c, y1, y2⟩
      · rw [h1] at y; cases y
      · exact y
      · have := s2.rel.frz b _ z
        obtain ⟨p, u, w1, w2, _, _, w5⟩ := R1.slot i _ y1
        rw [y2] at w1
        cases w1
        rw [this] at w2
        cases w2
        exact (not_tup w5).elim
    · exact z
  have none_of : ∀ b u, F1 b = none → H1 b = some u → (∀ xs, u ≠ .tup xs) → keepT F1 F' b = none := fun b u h1 h2 h3 => by
    cases q : keepT F1 F' b with
    | none => rfl
    | some o =>
      rcases keepT_of q with z | ⟨_, z, xs, rfl⟩
      · rw [h1] at z; cases z
      · have := nw b xs h1 z
        rw [h2] at this; cases this
  have st : Stp X.fr C σ H1 F1 env1 H' (keepT F1 F') env1 := by
    refine ⟨⟨⟨fun b o h => ?_, R1.mono.trans' fun b o h => keepT_old h, fun b o h => ?_, fun b o h n => keep b o (R1.frame b o h n), fun a h => ?_, R1.len, fun i sv e => ?_, R1.dist⟩, R1.xok⟩, fun b o h => keepT_old h, fun b o h _ => keep b o h, fun b o h => ?_, fun i l ds h => ⟨ds, h⟩, fun b h => ?_⟩
    · rcases keepT_of h with z | ⟨_, z, _⟩
      · exact keep b o (R1.frz b o z)
      · exact pp.frz b o z
    · rcases keepT_of h with z | ⟨z1, z, xs, rfl⟩
      · exact R1.new b o z
      · have hn := nw b xs z1 z
        cases q : C.H0 b with
        | none => exact .inr rfl
        | some u =>
          by_cases hl : C.la = some b
          · obtain ⟨⟨xs, e⟩, _⟩ := R1.la b hl
            rw [e] at hn; cases hn
          · rw [R1.frame b u q hl] at hn; cases hn
    · obtain ⟨⟨xs, e⟩, f, g⟩ := R1.la a h
      exact ⟨⟨xs, keep a _ e⟩, none_of a _ f e (fun ys z => nomatch z), g⟩
    · have q := R1.slot i sv e
      cases sv with
      | un => trivial
      | raw z => exact q
      | dat d =>
        obtain ⟨v, e1, a⟩ := q
        exact ⟨v, e1, At.mono (fun b o h => keepT_old h) _ _ a⟩
      | obj l ds =>
        obtain ⟨r, xs, e1, e2, e3, e4, e5⟩ := q
        exact ⟨r, xs, e1, keep r _ e2, none_of r _ e3 e2 (fun ys z => by subst z; exact not_tup e5), e4, e5.mono fun b o h => keepT_old h⟩
    · rcases keepT_of h with z | ⟨z1, z, xs, rfl⟩
      · exact .inl z
      · exact .inr (.inl (nw b xs z1 z))
    · cases q : H1 b with
      | none => rfl
      | some u =>
        rw [keep b u q] at h; cases h
  exact kk v H' _ env1 (.dv d) (s1.trans st) (bare_at l12 d v ha pp.res) qq
theorem q_calR {X : Cz} {k j : Nat} {ps : List Str} {sp : PSp} {x : Str} {e : Expr} {es : List Expr} {T : PA'} {p pos : Pos} {dds : List D} (c : Cal X.prog X.w X.fr X.mg X.base k x false ps dds sp) (hr : Room j X.A) (hkj : k ≤ j) (hg : Gl X x) (ha : EA X (e :: es) T) (hdb : (x == ("__debug__" : Str)) = false := by decide) (he : starEach (e :: es) X.env = (false, eval e X.env) :: starEach es X.env := by rfl) (hpl : (backTo pos (starEach es X.env)).any (·.1) = false := by rfl) :
    EV X (.Call (.Name x p) (e :: es) [] pos) (qCallR sp (qAddD T dds)) := by
  obtain ⟨f, fd, dvs, ds, h1, h2, h3, h4, h5, h6⟩ := c.ex
  obtain ⟨t, g1, l1⟩ := ha.ex
  exact ⟨_, pe_call h1 (hr.mono hkj) hg h2 h3 h4 h5 pass0 g1 hdb he hpl, LE.callR h6 l1⟩
end Sw

set_option Elab.async false
set_option linter.all false
set_option maxRecDepth 100000
set_option maxHeartbeats 4000000
namespace Sw
open PySem PySem.Spec L2 PyProof.Rows
/-! ### a loop over a list of our own, which the loop's body leaves as it is -/
/-- the context of a def without a lent list -/
abbrev ofN (X : L2.Cx) : Cz := ⟨X, wNo, pNo, takes_none5, fun C => C.la = none⟩
def gO (i : Nat) (ds : List D) (G : TG') : TG' := fun d env Q => env[i]? = some (SV.own true ds) ∧ G d env Q
def endsO (i : Nat) (ds : List D) (Dp : PEnds) : PEnds :=
  { nx := fun env => env[i]? = some (SV.own true ds) ∧ Dp.nx (env.set i (SV.own false ds)),
    rt := fun rv env => env[i]? = some (SV.own true ds) ∧ Dp.rt rv (env.set i (SV.own false ds)),
    bk := fun env => env[i]? = some (SV.own true ds) ∧ Dp.bk (env.set i (SV.own false ds)),
    ct := fun env => env[i]? = some (SV.own true ds) ∧ Dp.ct (env.set i (SV.own false ds)) }
def sForO (i : Nat) (G : TG') (B : PS') : PS' := fun Dp env => ∃ ds, env[i]? = some (SV.own false ds) ∧ pFor (gO i ds G) B (endsO i ds Dp) ds (env.set i (SV.own true ds))
theorem forO_slot {i : Nat} {ds l : List D} {G : TG'} {B : PS'} {Dp : PEnds} {env : List SV} (h : pFor (gO i ds G) B (endsO i ds Dp) l env) : env[i]? = some (SV.own true ds) := by
  cases l with
  | nil => exact h.1
  | cons d r => exact h.1
section
variable {K : FgK} {C : Ec} {σ : L2.St} {H F : Hp} {env : List SV} {i : Nat} {ds : List D} {p : Addr} {xs : List V}
def toO (C : Ec) (p : Addr) (xs : List V) : Ec := ⟨upd C.H0 p (.lst xs), C.F0, some p⟩
theorem set_get {α : Type} {l : List α} {i j : Nat} {a b : α} (h : (l.set i a)[j]? = some b) : (i = j ∧ b = a) ∨ (i ≠ j ∧ l[j]? = some b) := by
  by_cases e : i = j
  · subst e
    have hl : i < l.length := by
      have := (List.getElem?_eq_some_iff.mp h).1
      rwa [List.length_set] at this
    rw [List.getElem?_set_self hl] at h
    exact .inl ⟨rfl, by injection h with h; exact h.symm⟩
  · rw [List.getElem?_set_ne e] at h
    exact .inr ⟨e, h⟩
theorem toO_rel (R : RelB K C σ H F env) (hla : C.la = none) (he : env[i]? = some (SV.own false ds)) (e1 : σ[i]? = some (some (.ref p))) (e2 : H p = some (.lst xs)) (e3 : F p = none) (e4 : C.H0 p = none) (ax : AtAll K F ds xs) : RelB K (toO C p xs) σ H F (env.set i (SV.own true ds)) where
  frz := R.frz
  mono := R.mono
  new := fun b o h => by
    rcases R.new b o h with z | z
    · exact .inl z
    · refine .inr ?_
      show upd C.H0 p (.lst xs) b = none
      rw [upd_ne (fun e => by rw [e, e3] at h; cases h)]
      exact z
  frame := fun b o h n => by
    have hb : b ≠ p := fun e => n (by rw [e]; rfl)
    have h : upd C.H0 p (.lst xs) b = some o := h
    rw [upd_ne hb] at h
    exact R.frame b o h (by rw [hla]; exact fun z => nomatch z)
  la := fun a h => by
    have h : some p = some a := h
    cases h
    exact ⟨⟨xs, e2⟩, e3, _, upd_same⟩
  len := by rw [List.length_set]; exact R.len
  slot := fun j sv h => by
    rcases set_get h with ⟨rfl, rfl⟩ | ⟨hne, h⟩
    · exact ⟨p, _, e1, e2, e3, by rw [if_pos rfl]; rfl, xs, rfl, ax⟩
    · have s := R.slot j sv h
      cases sv with
      | obj l c =>
        obtain ⟨p', u, s1, s2, s3, s4, s5⟩ := s
        cases l with
        | true => rw [if_pos rfl, hla] at s4; cases s4
        | false =>
          rw [if_neg (by decide)] at s4
          refine ⟨p', u, s1, s2, s3, ?_, s5⟩
          rw [if_neg (by decide)]
          show upd C.H0 p (.lst xs) p' = none
          rw [upd_ne (fun e => hne (R.dist i j _ _ _ _ he h (by rw [e1, s1, e])))]
          exact s4
      | _ => exact s
  dist := fun j m l c l' c' hj hm e => by
    have fix : ∀ (j : Nat) (l : Bool) (c : Ct), (env.set i (SV.own true ds))[j]? = some (SV.obj l c) → ∃ l c, env[j]? = some (SV.obj l c) := fun j l c h => by
      rcases set_get h with ⟨rfl, _⟩ | ⟨_, h⟩
      · exact ⟨_, _, he⟩
      · exact ⟨_, _, h⟩
    obtain ⟨_, _, g1⟩ := fix j l c hj
    obtain ⟨_, _, g2⟩ := fix m l' c' hm
    exact R.dist j m _ _ _ _ g1 g2 e
theorem ofO_rel (R : RelB K (toO C p xs) σ H F env) (hla : C.la = none) (e4 : C.H0 p = none) (he : env[i]? = some (SV.own true ds)) : RelB K C σ H F (env.set i (SV.own false ds)) := by
  obtain ⟨p', u, e1, e2, e3, e5, c⟩ := R.slot i _ he
  rw [if_pos rfl] at e5
  have e5 : some p = some p' := e5
  cases e5
  have h0 : ∀ b, (toO C p xs).H0 b = none → C.H0 b = none := fun b h => by
    by_cases e : b = p
    · rw [e]; exact e4
    · have h : upd C.H0 p (.lst xs) b = none := h
      rwa [upd_ne e] at h
  refine ⟨R.frz, R.mono, fun b o h => (R.new b o h).imp id (h0 b), fun b o h _ => ?_, fun a h => ?_, by rw [List.length_set]; exact R.len, fun j sv h => ?_, fun j m l c l' c' hj hm e => ?_⟩
  · have hb : b ≠ p := fun e => by rw [e, e4] at h; cases h
    refine R.frame b o (show upd C.H0 p (.lst xs) b = some o by rw [upd_ne hb]; exact h) fun z => hb ?_
    have z : some p = some b := z
    cases z
    rfl
  · rw [hla] at h; cases h
  · rcases set_get h with ⟨rfl, rfl⟩ | ⟨hne, h⟩
    · exact ⟨p, u, e1, e2, e3, by rw [if_neg (by decide)]; exact e4, c⟩
    · have s := R.slot j sv h
      cases sv with
      | obj l c =>
        obtain ⟨p', u, s1, s2, s3, s4, s5⟩ := s
        cases l with
        | true =>
          rw [if_pos rfl] at s4
          have s4 : some p = some p' := s4
          cases s4
          exact absurd (R.dist i j _ _ _ _ he h (by rw [e1, s1])) hne
        | false =>
          rw [if_neg (by decide)] at s4
          exact ⟨p', u, s1, s2, s3, by rw [if_neg (by decide)]; exact h0 _ s4, s5⟩
      | _ => exact s
  · have fix : ∀ (j : Nat) (l : Bool) (c : Ct), (env.set i (SV.own false ds))[j]? = some (SV.obj l c) → ∃ l c, env[j]? = some (SV.obj l c) := fun j l c h => by
      rcases set_get h with ⟨rfl, _⟩ | ⟨_, h⟩
      · exact ⟨_, _, he⟩
      · exact ⟨_, _, h⟩
    obtain ⟨_, _, g1⟩ := fix j l c hj
    obtain ⟨_, _, g2⟩ := fix m l' c' hm
    exact R.dist j m _ _ _ _ g1 g2 e
end
def GO (K : PySem.W.Frag) (p : Addr) (n : Nat) (H : Hp) : Prop := ∃ ys, SqL K H p ys ∧ ys.length = n
def YO (K : PySem.W.Frag) (p : Addr) (j : Nat) (H : Hp) (x : V) (H' : Hp) : Prop := H' = H ∧ ∀ ys, SqL K H p ys → ys[j]? = some x
theorem walkO {K : PySem.W.Frag} {p : Addr} {n : Nat} : Walk (Itl K p) n (GO K p n) (YO K p) :=
  ⟨fun i H hi ⟨ys, h, e⟩ => ⟨ys, ys[i]'(by omega), h, List.getElem?_eq_getElem (by omega)⟩, fun H ⟨ys, h, e⟩ => ⟨ys, h, by omega⟩, fun i H x H' hi h y => y⟩
theorem s_forO {X : L2.Cx} {S : List Nat} {tg : Expr} {x : Str} {body : List Stmt} {G : TG'} {B : PS'} {pos p' : Pos} (i : Nat) (hp : PassesOwn (model X.prog X.w) X.A X.env X.xe) (hc : X.calm = true) (hg : EG (of0 X) S tg G) (hb : EB (of0 X) body B)
    (hN : X.N[i]? = some x := by rfl) (hv : Vis X.env.scope x := by first | exact Or.inl rfl | exact Or.inr (Or.inl rfl) | exact Or.inr (Or.inr rfl)) (hd : (x == ("__debug__" : Str)) = false := by decide) (hcd : (x == ("__classdict__" : Str)) = false := by decide)
    (hs : ∀ y, foldedSetIterable (.Name x p') X.env y = pure y := by intro _; rfl) : ES (ofN X) (.For tg (.Name x p') body [] pos) (sForO i G B) := by
  obtain ⟨g, h2, l2⟩ := hg.ex
  obtain ⟨tb, h3, l3⟩ := hb.ex
  refine ⟨_, ps_for hp hc (pi_any (X := ofN X) (pe_var hN hv hd hcd)) h2 h3 hs, fun C σ H F env D Dp R k q => ?_⟩
  obtain ⟨ds, he, q⟩ := q
  obtain ⟨p, u, e1, e2, e3, e4, c⟩ := R.slot i _ he
  obtain ⟨xs, rfl, ax⟩ := c
  rw [if_neg (by decide)] at e4
  have hla : C.la = none := R.xok.1
  have R1 := toO_rel R.toRelB hla he e1 e2 e3 e4 ax
  have h0 : ∀ b, (toO C p xs).H0 b = none → C.H0 b = none := fun b h => by
    by_cases e : b = p
    · rw [e]; exact e4
    · have h : upd C.H0 p (.lst xs) b = none := h
      rwa [upd_ne e] at h
  have back : ∀ {σ' H' F' env'}, Rel (of0 X).fr (toO C p xs) σ' H' F' env' → env'[i]? = some (SV.own true ds) → Rel (ofN X).fr C σ' H' F' (env'.set i (SV.own false ds)) := fun R' h => ⟨ofO_rel R'.toRelB hla e4 h, R.xok⟩
  have pt : ∀ {σ' H' F' env'}, Rel (of0 X).fr (toO C p xs) σ' H' F' env' → env'[i]? = some (SV.own true ds) → ∃ ys, H' p = some (.lst ys) ∧ AtAll (of0 X).fr F' ds ys := fun R' h => by
    obtain ⟨p', u', s1, s2, s3, s4, ys, rfl, s5⟩ := R'.slot i _ h
    rw [if_pos rfl] at s4
    have s4 : some p = some p' := s4
    cases s4
    exact ⟨ys, s2, s5⟩
  have kO : ∀ {F1}, Le F F1 → ∀ nx ct : List SV → Prop, True := fun _ _ _ => trivial
  refine ⟨_, e1, .inl ⟨p, rfl, ⟨xs, SqL.of e2⟩, ?_⟩⟩
  refine for_it (walkO (n := ds.length)) (fun j σ H => ∃ F2 env2, Rel (of0 X).fr (toO C p xs) σ H F2 env2 ∧ Le F F2 ∧ pFor (gO i ds G) B (endsO i ds Dp) (ds.drop j) env2) ⟨F, _, ⟨R1, xok_no rfl trivial⟩, Le.rfl', by simpa using q⟩ (fun j σ H hj ⟨F2, env2, R2, l, q2⟩ => ?_) (fun j y σ H H' hj ⟨F2, env2, R2, l, q2⟩ yy => ?_) (fun σ H ⟨F2, env2, R2, l, q2⟩ => ?_)
  · obtain ⟨ys, g1, g2⟩ := pt R2 (forO_slot q2)
    exact ⟨ys, SqL.of g1, g2.len⟩
  · obtain ⟨ys, g1, g2⟩ := pt R2 (forO_slot q2)
    obtain ⟨rfl, yy⟩ := yy
    obtain ⟨d, ed, ad⟩ := g2.get' (yy ys (SqL.of g1))
    have e2' : ds.drop j = d :: ds.drop (j + 1) := by
      obtain ⟨hlt, e4⟩ := List.getElem?_eq_some_iff.mp ed
      rw [List.drop_eq_getElem_cons hlt, e4]
    rw [e2'] at q2
    refine l2 (toO C p xs) σ H' F2 env2 y d _ _ R2 ad (fun σ' env' R' _ q' => ?_) q2.2
    refine l3 (toO C p xs) σ' H' F2 env' _ { endsO i ds Dp with nx := pFor (gO i ds G) B (endsO i ds Dp) (ds.drop (j + 1)), ct := pFor (gO i ds G) B (endsO i ds Dp) (ds.drop (j + 1)), bk := (endsO i ds Dp).nx } R' ⟨fun σ4 H4 F4 env4 R4 m q4 => ⟨F4, env4, R4, l.trans' m, q4⟩, fun σ4 H4 F4 env4 rv v R4 m r q4 => k.rt σ4 H4 F4 _ rv v (back R4 q4.1) (l.trans' m) (by
      cases rv with
      | dt x => exact r
      | fr es =>
        obtain ⟨p', zs, r1, r2, r3, r4, r5⟩ := r
        exact ⟨p', zs, r1, r2, r3, h0 _ r4, r5⟩) q4.2, fun σ4 H4 F4 env4 R4 m q4 => k.nx σ4 H4 F4 _ (back R4 q4.1) (l.trans' m) q4.2, fun σ4 H4 F4 env4 R4 m q4 => ⟨F4, env4, R4, l.trans' m, q4⟩⟩ q'
  · rw [List.drop_length] at q2
    exact k.nx σ H F2 _ (back R2 q2.1) l q2.2
end Sw

set_option Elab.async false
set_option linter.all false
set_option maxRecDepth 100000
set_option maxHeartbeats 4000000
namespace Sw
open PySem PySem.Spec L2 PyProof.Rows
section
variable {X : Cz}
/-! ### list(range(a, b)) -/
theorem ints_at {K : FgK} {F : Hp} (f : Nat → Int) (l : List Nat) : AtAll K F (l.map fun i => PyData.int (f i)) (l.map fun i => V.int (f i)) := by
  induction l with
  | nil => exact AtAll.nil
  | cons i r ih => exact AtAll.cons (by simp [At]) ih
theorem rgD_at {K : FgK} {F : Hp} (a b : Int) : AtAll K F (rgD a (b - a).toNat) (rgV a b) := ints_at (fun i => a + (i : Int)) _
def fListRg1 (A : PE') : PF' := fun env Q => A env fun o env1 => ∃ j, o.rd env1 = some (.int j) ∧ RgOk 0 j ∧ Q (rgD 0 j.toNat) env1
def fListRg2 (A B : PE') : PF' := fun env Q => A env fun o env1 => B env1 fun o2 env2 => ∃ i, o.rd env2 = some (.int i) ∧ ∃ j, o2.rd env2 = some (.int j) ∧ RgOk i j ∧ Q (rgD i (j - i).toNat) env2
theorem f_listRg1 {a : Expr} {A : PE'} {p p2 pos pos2 : Pos} (hc : X.calm = true) (h : EV X a A) (hl : Gl X "list") (hml : X.mg "list" = none) (hg : Gl X "range") (hm : X.mg "range" = none) (na : starEach [a] X.env = (false, eval a X.env) :: starEach [] X.env := by rfl)
    (nb : starEach [.Call (.Name "range" p2) [a] [] pos2] X.env = (false, eval (.Call (.Name "range" p2) [a] [] pos2) X.env) :: starEach [] X.env := by rfl) : EF X (.Call (.Name "list" p) [.Call (.Name "range" p2) [a] [] pos2] [] pos) (fListRg1 A) := by
  obtain ⟨t, h1, l1⟩ := h.ex
  refine ⟨_, pe_listRg hc hl hml (prg_1 hg hm h1 na) nb, fun C σ H F env Q Qp R k q => ?_⟩
  refine l1 C σ H F env _ _ R (fun v H1 F1 env1 o s1 a1 q1 => ?_) q
  obtain ⟨j, e, b, q1⟩ := q1
  have w := (rd_vw s1.rel a1 e).int
  subst w
  refine ⟨j, rfl, b, fun r hr => ?_⟩
  obtain ⟨s, f, h, n⟩ := s1.rel.alloc0 (o := .lst (rgV 0 j)) hr
  exact k r _ _ _ F1 env1 (s1.trans s) upd_same f h n (s1.dm r hr) (by have := rgD_at (K := X.fr) (F := F1) 0 j; simpa using this) q1
theorem f_listRg2 {a c : Expr} {A B : PE'} {p p2 pos pos2 : Pos} (hc : X.calm = true) (h : EV X a A) (g : EV X c B) (hl : Gl X "list") (hml : X.mg "list" = none) (hg : Gl X "range") (hm : X.mg "range" = none) (na : starEach [a, c] X.env = (false, eval a X.env) :: starEach [c] X.env := by rfl) (na2 : starEach [c] X.env = (false, eval c X.env) :: starEach [] X.env := by rfl)
    (hpl : (backTo pos2 (starEach [c] X.env)).any (·.1) = false := by rfl)
    (nb : starEach [.Call (.Name "range" p2) [a, c] [] pos2] X.env = (false, eval (.Call (.Name "range" p2) [a, c] [] pos2) X.env) :: starEach [] X.env := by rfl) : EF X (.Call (.Name "list" p) [.Call (.Name "range" p2) [a, c] [] pos2] [] pos) (fListRg2 A B) := by
  obtain ⟨t, h1, l1⟩ := h.ex
  obtain ⟨u, h2, l2⟩ := g.ex
  refine ⟨_, pe_listRg hc hl hml (prg_2 hg hm h1 h2 na na2 hpl) nb, fun C σ H F env Q Qp R k q => ?_⟩
  refine l1 C σ H F env _ _ R (fun v H1 F1 env1 o s1 a1 q1 => ?_) q
  refine l2 C σ H1 F1 env1 _ _ s1.rel (fun v2 H2 F2 env2 o2 s2 a2 q2 => ?_) q1
  obtain ⟨i, e1, j, e2, b, q2⟩ := q2
  have w1 := (rd_vw s2.rel (a1.mono s2.ff) e1).int
  have w2 := (rd_vw s2.rel a2 e2).int
  subst w1 w2
  refine ⟨i, j, rfl, rfl, b, fun r hr => ?_⟩
  obtain ⟨s, f, h, n⟩ := s2.rel.alloc0 (o := .lst (rgV i j)) hr
  exact k r _ _ _ F2 env2 ((s1.trans s2).trans s) upd_same f h n (s1.dm r (s2.dm r hr)) (rgD_at i j) q2
/-! ### for x in reversed(a list) -/
theorem walk_rev {K : PySem.W.Frag} {a : Addr} {xs : List V} : Walk (Itv K a xs.length) xs.length (fun H => SqL K H a xs) (fun i H x H' => H' = H ∧ ∀ ys, SqL K H a ys → ys[xs.length - 1 - i]? = some x) :=
  ⟨fun i H hi h => ⟨hi, xs, xs[xs.length - 1 - i]'(by omega), h, List.getElem?_eq_getElem (by omega)⟩, fun H _ => Nat.le_refl _, fun i H x H' hi h y => y⟩
def iRevL (A : PE') : PI' := fun env Q => A env fun o env1 => ∃ ds env2, o.fz env1 = some (.list ds, env2) ∧ Q ds.reverse env2
theorem i_revL {tg a : Expr} {A : PE'} {p pos : Pos} (h : EV X a A) (hg : Gl X "reversed") (hm : X.mg "reversed" = none) (hs : starEach [a] X.env = (false, eval a X.env) :: starEach [] X.env := by rfl) : EI X tg (.Call (.Name "reversed" p) [a] [] pos) (iRevL A) := by
  obtain ⟨t, h1, l1⟩ := h.ex
  refine ⟨_, RT.pi_revA hg hm h1 hs, fun C σ H F env R Qp Rl k q => ?_⟩
  refine l1 C σ H F env _ _ Rl (fun v H1 F1 env1 o s1 a1 q1 => ?_) q
  obtain ⟨ds, env2, e, q1⟩ := q1
  obtain ⟨F2, s2, a2⟩ := fz_ok s1.rel a1 e
  simp only [At] at a2
  obtain ⟨b, xs, rfl, f1, f2⟩ := a2
  refine ⟨b, xs, rfl, .inl ⟨SqL.of (s2.rel.frz _ _ f1), k _ _ H1 F2 env2 (s1.trans s2) ⟨_, _, by rw [List.length_reverse, ← f2.len]; exact walk_rev (xs := xs), fun H l => SqL.of (l _ _ f1), fun i H x H' hi l y => ?_⟩ q1⟩⟩
  obtain ⟨rfl, y⟩ := y
  rw [List.length_reverse] at hi
  have hx := y xs (SqL.of (l _ _ f1))
  obtain ⟨d, ed, ad⟩ := f2.get' hx
  refine .inl ⟨rfl, d, ?_, ad⟩
  rw [List.getElem?_reverse hi, ← f2.len]
  exact ed
end
section
variable {K : FgX}
/-! l.reverse() -/
def gReverse : List D → List D → Option (D × List D)
  | ds, [] => some (.none, ds.reverse)
  | _, _ => none
theorem AtAll.reverse' {K : FgK} {F : Hp} {ds : List D} {xs : List V} (h : AtAll K F ds xs) : AtAll K F ds.reverse xs.reverse := h.rev
theorem l_reverse : LMO K rReverse gReverse := fun H F p xs ys ds es ds' d Q hp a b e k => by
  unfold gReverse at e
  split at e
  · cases e
    have b : ys = [] := by simpa [AtAll] using b
    subst b
    exact ⟨p, xs, rfl, rfl, hp, k _ _ (by simp [At]) a.rev⟩
  · cases e
theorem gReverse_0 {ds : List D} : gReverse ds [] = some (.none, ds.reverse) := rfl
end
section
variable {X : Cz}
/-! ### a call that reads a list of our own and hands back a new list of plain things -/
theorem stp_R {K : FgX} {C : Ec} {σ : L2.St} {H1 F1 F2 H' F' : Hp} {env1 env2 : List SV} (R1 : Rel K C σ H1 F1 env1) (s2 : Stp K C σ H1 F1 env1 H1 F2 env2) (keep : ∀ b o, H1 b = some o → H' b = some o) (l2 : Le F2 F') (frz : Le F' H') (new : ∀ b o, F' b = some o → F2 b = some o ∨ H1 b = none) :
    Stp K C σ H1 F1 env1 H' (keepT F1 F') env1 := by
  have l12 : Le F1 F' := Le.trans' s2.ff l2
  have nw : ∀ b xs, F1 b = none → F' b = some (.tup xs) → H1 b = none := fun b xs h1 h2 => by
    rcases new b _ h2 with z | z
    · rcases s2.fn b _ z with y | y | ⟨i, l, c, y1, y2⟩
      · rw [h1] at y; cases y
      · exact y
      · have := s2.rel.frz b _ z
        obtain ⟨p, u, w1, w2, _, _, w5⟩ := R1.slot i _ y1
        rw [y2] at w1
        cases w1
        rw [this] at w2
        cases w2
        exact (not_tup w5).elim
    · exact z
  have none_of : ∀ b u, F1 b = none → H1 b = some u → (∀ xs, u ≠ .tup xs) → keepT F1 F' b = none := fun b u h1 h2 h3 => by
    cases q : keepT F1 F' b with
    | none => rfl
    | some o =>
      rcases keepT_of q with z | ⟨_, z, xs, rfl⟩
      · rw [h1] at z; cases z
      · have := nw b xs h1 z
        rw [h2] at this; cases this
  refine ⟨⟨⟨fun b o h => ?_, R1.mono.trans' fun b o h => keepT_old h, fun b o h => ?_, fun b o h n => keep b o (R1.frame b o h n), fun a h => ?_, R1.len, fun i sv e => ?_, R1.dist⟩, R1.xok⟩, fun b o h => keepT_old h, fun b o h _ => keep b o h, fun b o h => ?_, fun i l ds h => ⟨ds, h⟩, fun b h => ?_⟩
  · rcases keepT_of h with z | ⟨_, z, _⟩
    · exact keep b o (R1.frz b o z)
    · exact frz b o z
  · rcases keepT_of h with z | ⟨z1, z, xs, rfl⟩
    · exact R1.new b o z
    · have hn := nw b xs z1 z
      cases q : C.H0 b with
      | none => exact .inr rfl
      | some u =>
        by_cases hl : C.la = some b
        · obtain ⟨⟨xs, e⟩, _⟩ := R1.la b hl
          rw [e] at hn; cases hn
        · rw [R1.frame b u q hl] at hn; cases hn
  · obtain ⟨⟨xs, e⟩, f, g⟩ := R1.la a h
    exact ⟨⟨xs, keep a _ e⟩, none_of a _ f e (fun ys z => nomatch z), g⟩
  · have q := R1.slot i sv e
    cases sv with
    | un => trivial
    | raw z => exact q
    | dat d =>
      obtain ⟨v, e1, a⟩ := q
      exact ⟨v, e1, At.mono (fun b o h => keepT_old h) _ _ a⟩
    | obj l ds =>
      obtain ⟨r, xs, e1, e2, e3, e4, e5⟩ := q
      exact ⟨r, xs, e1, keep r _ e2, none_of r _ e3 e2 (fun ys z => by subst z; exact not_tup e5), e4, e5.mono fun b o h => keepT_old h⟩
  · rcases keepT_of h with z | ⟨z1, z, xs, rfl⟩
    · exact .inl z
    · exact .inr (.inl (nw b xs z1 z))
  · cases q : H1 b with
    | none => rfl
    | some u =>
      rw [keep b u q] at h; cases h
def fCallR (sp : PSp) (T : PA') : PF' := fun env Q => T env fun os env1 => ∃ ds env2, fzAll env1 os = some (ds, env2) ∧ sp none ds fun rv _ => ∃ es, rv = .fr es ∧ bareL es = true ∧ Q es env1
theorem LF.callR {sp : PSp} {T : PA'} {t : TA} {dvs : List V} {dds : List D} {E : XK} (hd : constsOk dvs dds) (l1 : LA X.fr t T) : LF X.fr (tCall (spOf X.fr false sp) dvs E t) (fCallR sp (qAddD T dds)) := fun C σ H F env Q Qp R kk q => by
  refine l1 C σ H F env _ _ R (fun vs H1 F1 env1 os s1 a1 q1 => ?_) q
  obtain ⟨ds, env2, e1, q1⟩ := q1
  obtain ⟨F2, s2, a2⟩ := fzAll_ok s1.rel (a1.app (hd X.fr F1)) e1
  refine ⟨F2, none, none, ds, vs ++ dvs, s2.rel.frz, a2, by rw [if_neg (by decide)]; exact ⟨rfl, rfl, rfl⟩, _, q1, fun v H' F' rv fl' pp qq => ?_⟩
  obtain ⟨es, rfl, ha, qq⟩ := qq
  have keep : ∀ b o, H1 b = some o → H' b = some o := fun b o h => pp.frame b o h (fun z => nomatch z)
  have st : Stp X.fr C σ H1 F1 env1 H' (keepT F1 F') env1 := stp_R s1.rel s2 keep pp.mono pp.frz pp.new
  obtain ⟨r, xs, rfl, h1, h2, h3, h4⟩ := pp.res
  have h3 : H1 r = none := h3
  obtain ⟨h0, no⟩ := fresh_of s1.rel st h3
  have hf : keepT F1 F' r = none := by
    cases q : keepT F1 F' r with
    | none => rfl
    | some o =>
      rcases keepT_of q with z | ⟨_, z, _⟩
      · have := s1.rel.frz r _ z
        rw [h3] at this; cases this
      · rw [h2] at z; cases z
  exact kk r xs es H' (keepT F1 F') env1 (s1.trans st) h1 hf h0 no (s1.dm r h3) (bare_all (Le.trans' s2.ff pp.mono) es xs ha h4) qq
theorem f_calR {k j : Nat} {ps : List Str} {sp : PSp} {x : Str} {e : Expr} {es : List Expr} {T : PA'} {p pos : Pos} {dds : List D} (c : Cal X.prog X.w X.fr X.mg X.base k x false ps dds sp) (hr : Room j X.A) (hkj : k ≤ j) (hg : Gl X x) (ha : EA X (e :: es) T) (hdb : (x == ("__debug__" : Str)) = false := by decide) (he : starEach (e :: es) X.env = (false, eval e X.env) :: starEach es X.env := by rfl) (hpl : (backTo pos (starEach es X.env)).any (·.1) = false := by rfl) :
    EF X (.Call (.Name x p) (e :: es) [] pos) (fCallR sp (qAddD T dds)) := by
  obtain ⟨f, fd, dvs, ds, h1, h2, h3, h4, h5, h6⟩ := c.ex
  obtain ⟨t, g1, l1⟩ := ha.ex
  exact ⟨_, pe_call h1 (hr.mono hkj) hg h2 h3 h4 h5 pass0 g1 hdb he hpl, LF.callR h6 l1⟩
end
end Sw

set_option Elab.async false
set_option linter.all false
set_option maxRecDepth 100000
set_option maxHeartbeats 4000000
namespace Sw
open PySem PySem.Spec L2 PyProof.Rows
/-! ### xs[:] = a list that nobody holds -/
section
variable {prog : Program} {w : World} {A : Around} {E : Value → Shared → Prop} {s : Shared}
theorem bounds_all {n : Nat} : sliceBounds none none none n = ((0 : Int), (n : Int), 1) := by
  simp [sliceBounds]
theorem splice_all (its its2 : List Value) : its.toArray.extract 0 0 ++ its2.toArray ++ its.toArray.extract its.length its.toArray.size = its2.toArray := by
  apply Array.toList_inj.mp
  simp
/-- the whole of a list is put anew by another list's items -/
theorem setItem_whole {l b sl : Addr} {items new : Array Value} {n n2 : Nat} {Q : Unit → Shared → Prop}
    (e : s.heap.get? l = some { cls := .type "list", data := .seq items n }) (e2 : s.heap.get? b = some { cls := .type "list", data := .seq new n2 }) (hne : l ≠ b)
    (hs : s.heap.IsSliceOf sl .none .none .none) (hsz : items.size + new.size ≤ sizeLine) (h : Q () { s with heap := s.heap.update l (Obj.mapSeq fun xs => xs.extract 0 0 ++ new ++ xs.extract items.size xs.size) }) :
    wpAny (model prog w) A (setItem (.ref l) (.ref sl) (.ref b)) Q E s := by
  have hl : s.heap.IsList l items := PySem.IsL.isList e
  have hb : s.heap.IsList b new := PySem.IsL.isList e2
  obtain ⟨os, hos, hcs, hds⟩ := id hs
  have hTs : s.TypeIs (.ref sl) "slice" := ⟨os, hos, hcs⟩
  have hstep : ¬ ((rawPart none == rawInt 0) = true) := Bool.false_ne_true
  have hsame : Builtin.List.listSameRef (.ref l) (.ref b) = false := by
    unfold Builtin.List.listSameRef
    exact beq_eq_false_iff_ne.mpr hne
  have hmax : (max (0 : Int) (items.size : Int)).toNat = items.size := by omega
  have hz' : ((fun xs : Array Value => xs.extract 0 0 ++ new ++ xs.extract items.size xs.size) items).size ≤ sizeLine + 1 := by
    simp only [Array.size_append, Array.size_extract]
    omega
  unfold setItem
  try with_reducible refine wpAny_holding ?_
  first | refine wpAny_bind (wpAny_pure ?_) | skip
  refine wpAny_bind (wpAny_sequenceKey hl.typeIs (by decide) ?_)
  refine wpAny_bind (wpAny_callSpecial?_slot (name := Str.ofString "__setitem__") hl.typeIs slot_list_setitem
    (wpAny_call_entry slot_list_setitem hl.typeIs entry_list_setitem ?_ (args_list_setitem _ _ _)))
  show wpAny _ _ (Builtin.List.listSubscript? (.ref sl) >>= _) _ _ s
  refine wpAny_bind ?_
  unfold Builtin.List.listSubscript?
  refine wpAny_bind (wpAny_specialOf hTs slice_no_index ?_)
  simp only [Option.isNone_none, if_true]
  refine wpAny_pure ?_
  show wpAny _ _ (typeOf (.ref sl) >>= _) _ _ s
  refine wpAny_bind (wpAny_typeOf hTs ?_)
  first
    | rw [if_neg (by decide)]
    | refine PySem.W.KFB.if_not (by decide) ?_
  rw [listSliceParts_eq]
  refine wpAny_bind (wpAny_bind (wpAny_field hos hds (x := .none) rfl (wpAny_bind (wpAny_listPart .none ?_))))
  rw [if_neg hstep]
  refine wpAny_bind (wpAny_field hos hds (x := .none) rfl (wpAny_bind (wpAny_listPart .none ?_)))
  refine wpAny_bind (wpAny_field hos hds (x := .none) rfl (wpAny_bind (wpAny_listPart .none (wpAny_pure ?_))))
  first
    | simp only [hsame, Bool.false_eq_true, if_false]
    | refine PySem.W.KFB.if_not hsame ?_
    | (dsimp only
       rw [if_neg (by rw [hsame]; exact Bool.false_ne_true)])
  refine wpAny_bind (m := Builtin.List.listAllItems (.ref b) "must assign iterable to extended slice") ?_
  unfold Builtin.List.listAllItems
  refine wpAny_bind (wpAny_typeOf hb.typeIs ?_)
  first
    | refine PySem.W.KFB.if_so (by decide) ?_
    | rw [if_pos (by decide)]
    | simp only [beq_self_eq_true, Bool.true_or, if_true]
  unfold Builtin.List.listItems
  refine wpAny_bind (wpAny_seqItems e2 rfl (wpAny_pure ?_))
  refine wpAny_bind (wpAny_bind (wpAny_seqItems e rfl (wpAny_pure ?_)))
  refine wpAny_bind (wpAny_of_eq ((sliceIndices_raw none none none items.size (by simp)).trans (congrArg (pure : Int × Int × Int → Sem (Int × Int × Int)) bounds_all)) ?_)
  show wpAny _ _ (if ((1 : Int) == 1) = true then _ else _) _ _ s
  rw [if_pos (by decide)]
  refine wpAny_bind (wpAny_rule ?_)
  first
    | simp only [notLongL hsz, Bool.false_eq_true, if_false]
    | refine PySem.W.KFB.if_not (notLongL hsz) ?_
  first | refine wpAny_bind (wpAny_pure ?_) | skip
  show wpAny _ _ (updateSeq l (fun xs => xs.extract 0 ((0 : Int)).toNat ++ new ++ xs.extract (max (0 : Int) (items.size : Int)).toNat xs.size) >>= _) _ _ s
  rw [hmax, show ((0 : Int)).toNat = 0 from rfl]
  refine wpAny_bind (wpAny_updateSeq (hz := Nat.le_trans (Nat.le_add_right _ _) hsz) (_hz' := hz') e rfl ?_)
  refine wpAny_bind (wpAny_letGo ?_)
  first
    | exact wpAny_bind (wpAny_pure (wpAny_pure ⟨.none, rfl, wpAny_pure h⟩))
    | exact wpAny_pure ⟨.none, rfl, wpAny_pure h⟩
end
section
variable {X : L2.Cx}
theorem set_whole {pins : List (Addr × Obj)} {s : Shared} {σ : L2.St} {H : Hp} {l b sl : Addr} {xs ys : List V} {Q : Unit → Shared → Prop} (I : Inv X pins σ H s)
    (hH : H l = some (.lst xs)) (hB : H b = some (.lst ys)) (hne : l ≠ b) (hs : s.heap.IsSliceOf sl .none .none .none)
    (hz : xs.length + ys.length ≤ sizeLine) (h : ∀ s', Inv X pins σ (upd H l (.lst ys)) s' → Q () s') :
    wpAny (model X.prog X.w) X.A (setItem (.ref l) (.ref sl) (.ref b)) Q X.xe s := by
  obtain ⟨z, its, n, r, hl, e⟩ := I.lstM hH
  obtain ⟨z2, its2, n2, r2, hl2, e2⟩ := I.lstM hB
  refine setItem_whole e e2 hne hs (by rw [List.size_toArray, List.size_toArray]; omega) (h _ ?_)
  refine I.lset (its' := its2) (t' := s.toks) hH e ?_ r2 (by omega)
  rw [List.size_toArray]
  exact splice_all its its2
def tAll (i : Nat) (te : TE) : TS := fun D σ H => te σ H fun v H1 => tVar i σ H1 fun o H2 => ∃ l b xs ys, o = .ref l ∧ v = .ref b ∧ H2 l = some (.lst xs) ∧ H2 b = some (.lst ys) ∧ l ≠ b ∧ xs.length + ys.length ≤ sizeLine ∧ D.nx σ (upd H2 l (.lst ys))
theorem ps_all {i : Nat} {x : Str} {e : Expr} {te : TE} {p p2 p3 pos : Pos} (he : PE X e te) (hN : X.N[i]? = some x) (hv : Vis X.env.scope x) (hd : (x == ("__debug__" : Str)) = false) (hcd : (x == ("__classdict__" : Str)) = false) (hs : swapsWith e (some (.Subscript (.Name x p) (.Slice none none none p2) p3)) pos.line X.env = pure false) :
    PS X (.Assign [.Subscript (.Name x p) (.Slice none none none p2) p3] e pos) (tAll i te) := by
  refine ⟨fun pins s σ H D I h => ?_⟩
  refine wpAny_Assign_Subscript (thn (he.run pins s σ H _ I h) fun r s1 ⟨v, H1, I1, rv, q1⟩ => thn ((pe_var hN hv hd hcd).run pins s1 σ H1 _ I1 q1) fun u s2 ⟨y, H2, I2, ry, l, b, xs, ys, e1, e2, g1, g2, hne, hz, q2⟩ => ?_) hs
  subst e1 e2
  obtain rfl : u = Value.ref l := ry
  obtain rfl : r = Value.ref b := rv
  refine wpAny_Slice ?_
  rw [evalPart_none]
  refine wpAny_pure (wpAny_pure (wpAny_pure ?_))
  have I4 : Inv X pins σ H2 { s2 with heap := s2.heap.push { cls := .type "slice", data := .fields #[.none, .none, .none] } } := I2.kept (t' := s2.toks) fun b ob q => Heap.get?_push_of_some _ q
  exact set_whole I4 g1 g2 hne (Heap.IsSliceOf.new ..) hz fun s3 I3 => ⟨σ, _, I3, q2⟩
end
section
variable {X : Cz}
def sSetAll (i : Nat) (T : PF') : PS' := fun Dp env => T env fun ds env1 => ∃ l es, env1[i]? = some (SV.own l es) ∧ es.length + ds.length ≤ sizeLine ∧ Dp.nx (env1.set i (SV.own l ds))
theorem s_setAll (i : Nat) {x : Str} {e : Expr} {T : PF'} {p p2 p3 pos : Pos} (h : EF X e T) (hN : X.N[i]? = some x := by rfl) (hv : Vis X.env.scope x := by first | exact Or.inl rfl | exact Or.inr (Or.inl rfl) | exact Or.inr (Or.inr rfl)) (hd : (x == ("__debug__" : Str)) = false := by decide) (hcd : (x == ("__classdict__" : Str)) = false := by decide)
    (hs : swapsWith e (some (.Subscript (.Name x p) (.Slice none none none p2) p3)) pos.line X.env = pure false := by rfl) : ES X (.Assign [.Subscript (.Name x p) (.Slice none none none p2) p3] e pos) (sSetAll i T) := by
  obtain ⟨t, h1, l1⟩ := h.ex
  refine ⟨_, ps_all h1 hN hv hd hcd hs, fun C σ H F env D Dp R k q => ?_⟩
  refine l1 C σ H F env _ _ R (fun b ys ds H1 F1 env1 s1 hp fp h0 no hn a q1 => ?_) q
  obtain ⟨l, es, e1, hz, q1⟩ := q1
  obtain ⟨c, xs, g1, g2, g3, g4, g5⟩ := s1.rel.slotL e1
  have hne : c ≠ b := fun e => no ⟨i, l, _, e1, by rw [← e]; exact g1⟩
  refine ⟨.ref c, g1, c, b, xs, ys, rfl, rfl, g2, hp, hne, by rw [g5.len, a.len]; exact hz, ?_⟩
  have s2 := s1.rel.writeL e1 g1 a
  exact k.nx σ _ F1 _ s2.rel (s1.ff.trans' s2.ff) q1
end
end Sw

set_option Elab.async false
set_option linter.all false
set_option maxRecDepth 100000
namespace Sw
open PySem PySem.Spec L2
section
variable {P : Program} {w : World} {K : PySem.W.Frag} {mg : Str → Option Value} {base : Heap}
/-- THE RULE of a def without a lent list, that walks a list of its own -/
theorem defN_ok {x qual : Str} {params : Arguments} {body : List Stmt} {scope : Scope} {dvs : List V} {kws : List (Str × V)} {f : Addr} {fd : FuncData} {N ps : List Str} {k : Nat} {sp : PSp} (l : Bool) (F : FunD K x qual params body scope dvs kws f fd) (S : FnScope N ps scope) (len : ∀ fl ds Q, sp fl ds Q → ds.length + (if l = true then 1 else 0) = ps.length)
    (hn : ps.length ≤ N.length) (hbody : ∀ (cdv : Value) (A : Around) (outer : List Env) (s : Shared) (H : Hp) (E : XK), Room k (A.deeper (PyProof.Rows.envOfC qual scope s.heap.objs.size f cdv)) →
      ∃ T, EB (ofN (cxOf CX0 P w K mg base N qual scope f cdv A outer s H E).nox) body T ∧ ∀ fl ds Q, (l = true ↔ fl ≠ none) → sp fl ds Q → T (endsOf l Q) (startE l N fl ds)) (hl0 : l = false := by rfl) : FnOk P w K mg base CX0 (k + 1) f fd ps (spOf ⟨K, P, w⟩ l sp) := by
  subst hl0
  have lens : ∀ vs H Q E, spOf ⟨K, P, w⟩ false sp vs H Q E → vs.length = ps.length := fun vs H Q E h => by
    obtain ⟨F, la, fl, ds, ws, hF, ha, hl, Qp, hp, k⟩ := h
    have := len fl ds Qp hp
    obtain ⟨rfl, _, _⟩ := hl
    rw [ha.len]
    simpa using this
  refine F.ok S lens (fun cdv A outer s H vs Q E hr h => ?_)
  have hlen := lens vs H Q E h
  obtain ⟨F0, la, fl, ds, ws, hF, ha, hl, Qp, hp, k⟩ := h
  obtain ⟨T, hb, ht⟩ := hbody cdv A outer s H E hr
  obtain ⟨t, h1, l1⟩ := hb.ex
  refine ⟨t, h1.nox, ?_⟩
  have hll : (false = true ↔ la ≠ none) ∧ (false = true ↔ fl ≠ none) ∧ la = none := by
    obtain ⟨_, rfl, rfl⟩ := hl
    simp
  exact l1 ⟨H, F0, la⟩ (start N vs) H F0 (startE false N fl ds) _ (endsOf false Qp) ⟨start_rel hF ha hl (by omega), xok_no rfl hll.2.2⟩ (ends_ok hll.1 k) (ht fl ds Qp hll.2.1 hp)
end
section
variable {K : FgX}
/-! abs(a number) -/
def gAbs : List D → Option D
  | [.int i] => some (.int (i.natAbs : Int))
  | _ => none
theorem gAbs_1 {i : Int} : gAbs [.int i] = some (.int (i.natAbs : Int)) := rfl
theorem l_abs : LC K (fun xs H Q => ∃ i, xs = [V.int i] ∧ Q (.int (if i < 0 then -i else i)) H) gAbs := fun C σ H F env xs ds d Q R a e k => by
  unfold gAbs at e
  split at e
  · cases e
    rename_i i
    obtain ⟨x, rfl, w⟩ := a.one
    rw [w.int]
    refine ⟨_, rfl, ?_⟩
    have h : (if i < 0 then -i else i) = (i.natAbs : Int) := by split <;> omega
    rw [h]
    exact k _ H F (Stp.refl R) (by simp [At])
  · cases e
end
end Sw

set_option Elab.async false
set_option linter.all false
set_option maxRecDepth 100000
set_option maxHeartbeats 4000000
namespace Sw
open PySem PySem.Spec L2
/-! ### defs that are handed the script itself -/
/-- the context of a def whose first argument is the script: at a the numbers ns -/
abbrev ofS (X : L2.Cx) (a : Addr) (ns : List Int) : Cz := ⟨X, wNo, pNo, takes_none5, fun C => C.la = none ∧ SqL X.K C.H0 a (ns.map V.int)⟩
theorem sqL_at {K : FgX} {C : Ec} {σ : L2.St} {H F : Hp} {env : List SV} {a : Addr} {xs : List V} (R : RelB K C σ H F env) (hl : C.la = none) (h : SqL K.b.K C.H0 a xs) : SqL K.b.K H a xs := by
  rcases h with (h | ⟨o, h⟩) | h
  · exact .inl (.inl (R.frame _ _ h (by rw [hl]; exact fun z => nomatch z)))
  · exact .inl (.inr ⟨o, R.frame _ _ h (by rw [hl]; exact fun z => nomatch z)⟩)
  · exact .inr h
section
variable {X : L2.Cx} {a : Addr} {ns : List Int}
def qLenS (a : Addr) (ns : List Int) (i : Nat) : PE' := fun env Q => env[i]? = some (SV.raw (.ref a)) ∧ Q (.dv (.int (ns.length : Nat))) env
theorem q_lenS (i : Nat) {x y : Str} {p q pos : Pos} (hN : X.N[i]? = some y := by rfl) (hv : Vis X.env.scope y := by first | exact Or.inl rfl | exact Or.inr (Or.inl rfl) | exact Or.inr (Or.inr rfl)) (hd1 : (y == ("__debug__" : Str)) = false := by decide) (hcd : (y == ("__classdict__" : Str)) = false := by decide)
    (hg : Gl X x) (hm : X.mg x = none) (hb : bootBuiltins x = some (.builtin "len")) (hn : x ≠ "__name__" := by decide) (hdb : (x == ("__debug__" : Str)) = false := by decide) (he : starEach (.Name y q :: []) X.env = (false, eval (.Name y q) X.env) :: starEach [] X.env := by rfl) (hpl : (backTo pos (starEach [] X.env)).any (·.1) = false := by rfl) :
    EV (ofS X a ns) (.Call (.Name x p) [.Name y q] [] pos) (qLenS a ns i) := by
  refine ⟨_, pe_callB (X := X) call_len_seq hg hm hb (pa_cons (pe_var hN hv hd1 hcd) pa_nil he) hn hdb he hpl, fun C σ H F env Q Qp R k q => ?_⟩
  obtain ⟨e, q⟩ := q
  have s := R.slot i _ e
  have s : σ[i]? = some (some (.ref a)) := s
  refine ⟨_, s, a, ns.map V.int, rfl, .inl (sqL_at R.toRelB R.xok.1.1 R.xok.1.2), ?_⟩
  rw [List.length_map]
  exact k _ H F env (.dv (.int (ns.length : Nat))) (Stp.refl R) (OvOk.of (by simp [At])) q
def qIxS (a : Addr) (ns : List Int) (i : Nat) (B : PE') : PE' := fun env Q => env[i]? = some (SV.raw (.ref a)) ∧ B env fun o env1 => ∃ j, o.rd env1 = some (.int j) ∧ 0 ≤ j ∧ j < (ns.length : Nat) ∧ Q (.dv (.int (ns.getD j.toNat 0))) env1
theorem q_ixS (i : Nat) {y : Str} {b : Expr} {B : PE'} {q pos : Pos} (hb : EV (ofS X a ns) b B) (hs : PlainIx b := by intro _ _; rfl) (hN : X.N[i]? = some y := by rfl) (hv : Vis X.env.scope y := by first | exact Or.inl rfl | exact Or.inr (Or.inl rfl) | exact Or.inr (Or.inr rfl)) (hd1 : (y == ("__debug__" : Str)) = false := by decide) (hcd : (y == ("__classdict__" : Str)) = false := by decide) :
    EV (ofS X a ns) (.Subscript (.Name y q) b pos) (qIxS a ns i B) := by
  obtain ⟨tb, h2, l2⟩ := hb.ex
  refine ⟨_, pe_ix ix_list (pe_var hN hv hd1 hcd) h2 hs, fun C σ H F env Q Qp R k q => ?_⟩
  obtain ⟨e, q⟩ := q
  have s : σ[i]? = some (some (.ref a)) := R.slot i _ e
  refine ⟨_, s, ?_⟩
  refine l2 C σ H F env _ _ R (fun v H1 F1 env1 o s1 a1 q1 => ?_) q
  obtain ⟨j, ej, j0, j1, q1⟩ := q1
  have w := (rd_vw s1.rel a1 ej).int
  subst w
  refine ⟨a, ns.map V.int, j, .int (ns.getD j.toNat 0), rfl, rfl, sqL_at s1.rel.toRelB s1.rel.xok.1.1 s1.rel.xok.1.2, ?_, k _ H1 F1 env1 (.dv (.int (ns.getD j.toNat 0))) s1 (OvOk.of (by simp [At])) q1⟩
  rw [atI_at j0, List.getElem?_map, List.getD_eq_getElem?_getD, List.getElem?_eq_getElem (by omega : j.toNat < ns.length)]
  rfl
end
/-- what a def promises that is handed the script and data -/
abbrev PSpS := List Int → List D → (RV → Prop) → Prop
def spS (K : FgK) (sp : PSpS) : Sp := fun vs H Q _ => ∃ (F : Hp) (a : Addr) (ns : List Int) (ds : List D) (ws : List V), vs = .ref a :: ws ∧ Le F H ∧ SqL K.K H a (ns.map V.int) ∧ AtAll K F ds ws ∧ ∃ Qp : RV → Prop, sp ns ds Qp ∧ ∀ v H' F' rv fl, Post K none H F rv fl v H' F' → Qp rv → Q v H'
def startS (N : List Str) (a : Addr) (ds : List D) : List SV := SV.raw (.ref a) :: (ds.map SV.dat ++ List.replicate (N.length - (ds.length + 1)) SV.un)
theorem startS_rel {K : FgK} {N : List Str} {H F : Hp} {a : Addr} {ds : List D} {ws : List V} (hF : Le F H) (ha : AtAll K F ds ws) (hn : ds.length + 1 ≤ N.length) : RelB K ⟨H, F, none⟩ (L2.start N (.ref a :: ws)) H F (startS N a ds) := by
  have e1 : L2.start N (.ref a :: ws) = some (.ref a) :: (ws.map some ++ List.replicate (N.length - (ws.length + 1)) none) := rfl
  have own : ∀ (i : Nat) (l : Bool) (c : Ct), (startS N a ds)[i]? = some (SV.obj l c) → False := fun i l c h => by
    have := List.mem_of_getElem? h
    unfold startS at this
    rcases List.mem_cons.mp this with z | z
    · cases z
    · rcases List.mem_append.mp z with z | z
      · obtain ⟨d, _, e⟩ := List.mem_map.mp z
        cases e
      · have := List.eq_of_mem_replicate z
        cases this
  refine ⟨hF, Le.rfl', fun b o h => .inl h, fun b o h _ => h, fun b h => (nomatch h), ?_, fun i sv e => ?_, fun i j l c m c' h1 _ _ => (own i l c h1).elim⟩
  · rw [e1]
    unfold startS
    simp [ha.len]
  · rw [e1]
    unfold startS at e
    cases i with
    | zero =>
      cases e
      rfl
    | succ i =>
      rw [List.getElem?_cons_succ] at e ⊢
      by_cases hi : i < ds.length
      · rw [List.getElem?_append_left (by rw [List.length_map]; exact hi), List.getElem?_map] at e
        rw [List.getElem?_eq_getElem hi] at e
        cases e
        obtain ⟨v, e3, a3⟩ := ha.get (List.getElem?_eq_getElem hi)
        refine ⟨v, ?_, a3⟩
        rw [List.getElem?_append_left (by rw [List.length_map, ha.len]; exact hi), List.getElem?_map, e3]
        rfl
      · rw [List.getElem?_append_right (by rw [List.length_map]; omega)] at e
        have := List.eq_of_mem_replicate (List.mem_of_getElem? e)
        subst this
        trivial
section
variable {P : Program} {w : World} {K : PySem.W.Frag} {mg : Str → Option Value} {base : Heap}
/-- THE RULE of a def that is handed the script -/
theorem defS_ok {x qual : Str} {params : Arguments} {body : List Stmt} {scope : Scope} {dvs : List V} {kws : List (Str × V)} {f : Addr} {fd : FuncData} {N ps : List Str} {k : Nat} {sp : PSpS} (F : FunD K x qual params body scope dvs kws f fd) (S : FnScope N ps scope) (len : ∀ ns ds Q, sp ns ds Q → ds.length + 1 = ps.length)
    (hn : ps.length ≤ N.length) (hbody : ∀ (cdv : Value) (A : Around) (outer : List Env) (s : Shared) (H : Hp) (E : XK) (a : Addr) (ns : List Int), Room k (A.deeper (PyProof.Rows.envOfC qual scope s.heap.objs.size f cdv)) →
      ∃ T, EB (ofS (cxOf CX0 P w K mg base N qual scope f cdv A outer s H E).nox a ns) body T ∧ ∀ ds Q, sp ns ds Q → T (endsOf false fun rv _ => Q rv) (startS N a ds)) : FnOk P w K mg base CX0 (k + 1) f fd ps (spS ⟨K, P, w⟩ sp) := by
  have lens : ∀ vs H Q E, spS ⟨K, P, w⟩ sp vs H Q E → vs.length = ps.length := fun vs H Q E h => by
    obtain ⟨F, a, ns, ds, ws, rfl, hF, hs, ha, Qp, hp, k⟩ := h
    have := len ns ds Qp hp
    rw [List.length_cons, ha.len]
    exact this
  refine F.ok S lens (fun cdv A outer s H vs Q E hr h => ?_)
  have hlen := lens vs H Q E h
  obtain ⟨F0, a, ns, ds, ws, rfl, hF, hs, ha, Qp, hp, k⟩ := h
  obtain ⟨T, hb, ht⟩ := hbody cdv A outer s H E a ns hr
  obtain ⟨t, h1, l1⟩ := hb.ex
  refine ⟨t, h1.nox, ?_⟩
  rw [List.length_cons] at hlen
  have hl := ha.len
  exact l1 ⟨H, F0, none⟩ (L2.start N (.ref a :: ws)) H F0 (startS N a ds) _ (endsOf false fun rv _ => Qp rv) ⟨startS_rel hF ha (by omega), xok_no rfl ⟨rfl, hs⟩⟩ (ends_ok (by simp) k) (ht ds Qp hp)
/-- such a def, to be called -/
structure CalS (P : Program) (w : World) (K : PySem.W.Frag) (mg : Str → Option Value) (base : Heap) (k : Nat) (x : Str) (ps : List Str) (sp : PSpS) : Prop where
  ex : ∃ (f : Addr) (fd : FuncData), FnOk P w K mg base CX0 k f fd ps (spS ⟨K, P, w⟩ sp) ∧ mg x = some (.ref f) ∧ PySem.W.keepIn K (.ref f) = true ∧ Binds K fd ps []
/-- THE RULE of a law's def that is handed the script -/
theorem lawS_ok {x qual y : Str} {params : Arguments} {body : List Stmt} {scope : Scope} {f : Addr} {fd : FuncData} {N : List Str} {k : Nat} {T : Addr → List Int → PS'} (F : FunD K x qual params body scope [] [] f fd) (S : FnScope N [y] scope) (hN : 1 ≤ N.length)
    (hbody : ∀ (cdv : Value) (A : Around) (outer : List Env) (s : Shared) (H : Hp) (E : XK) (a : Addr) (ns : List Int), Room k (A.deeper (PyProof.Rows.envOfC qual scope s.heap.objs.size f cdv)) →
      EB (ofS (cxOf CX0 P w K mg base N qual scope f cdv A outer s H E).nox a ns) body (T a ns))
    (hT : ∀ (a : Addr) (ns : List Int), ns.length ≤ 63 → T a ns (endsOf false fun rv _ => rv = .dt (.bool true)) (SV.raw (.ref a) :: List.replicate (N.length - 1) SV.un)) : FnOk P w K mg base CX0 (k + 1) f fd [y] (spLaw ⟨K, P, w⟩) := by
  have h := defS_ok (sp := fun ns ds Q => ns.length ≤ 63 ∧ ds = [] ∧ Q = fun rv => rv = .dt (.bool true)) F S (fun ns ds Q h => by obtain ⟨_, rfl, _⟩ := h; rfl) hN (P := P) (w := w) (mg := mg) (base := base) (k := k) fun cdv A outer s H E a ns hr =>
    ⟨T a ns, hbody cdv A outer s H E a ns hr, fun ds Q h => by
      obtain ⟨hl, rfl, rfl⟩ := h
      have := hT a ns hl
      unfold startS
      simpa using this⟩
  refine h.imp fun vs H Q E q => ?_
  obtain ⟨a, ns, rfl, hl, hs, hQ⟩ := q
  refine ⟨fun _ => none, a, ns, [], [], rfl, fun b o h => (nomatch h), hs, AtAll.nil, fun rv => rv = .dt (.bool true), ⟨hl, rfl, rfl⟩, fun v H' F' rv fl p e => ?_⟩
  subst e
  have := p.res
  have hv : At (⟨K, P, w⟩ : FgK) F' (.bool true) v := this
  simp only [At] at hv
  subst hv
  exact hQ H'
end
section
variable {X : L2.Cx} {a : Addr} {ns : List Int}
def fCallS (a : Addr) (ns : List Int) (sp : PSpS) (i : Nat) (T : PA') : PF' := fun env Q => env[i]? = some (SV.raw (.ref a)) ∧ T env fun os env1 => ∃ ds env2, fzAll env1 os = some (ds, env2) ∧ sp ns ds fun rv => ∃ es, rv = .fr es ∧ Q es env2
theorem f_calS {k j : Nat} {ps : List Str} {sp : PSpS} {x y : Str} {es : List Expr} {T : PA'} {p q pos : Pos} (i : Nat) (c : CalS X.prog X.w X.K X.mg X.base k x ps sp) (hr : Room j X.A) (hkj : k ≤ j) (hg : Gl X x) (ha : EA (ofS X a ns) es T)
    (hN : X.N[i]? = some y := by rfl) (hv : Vis X.env.scope y := by first | exact Or.inl rfl | exact Or.inr (Or.inl rfl) | exact Or.inr (Or.inr rfl)) (hd1 : (y == ("__debug__" : Str)) = false := by decide) (hcd : (y == ("__classdict__" : Str)) = false := by decide)
    (hdb : (x == ("__debug__" : Str)) = false := by decide) (he : starEach (.Name y q :: es) X.env = (false, eval (.Name y q) X.env) :: starEach es X.env := by rfl) (hpl : (backTo pos (starEach es X.env)).any (·.1) = false := by rfl) :
    EF (ofS X a ns) (.Call (.Name x p) (.Name y q :: es) [] pos) (fCallS a ns sp i T) := by
  obtain ⟨f, fd, h1, h2, h3, h4⟩ := c.ex
  obtain ⟨t, g1, l1⟩ := ha.ex
  refine ⟨_, pe_call (X := X) h1 (hr.mono hkj) hg h2 h3 h4 .nil pass0 (pa_cons (pe_var hN hv hd1 hcd) g1 he) hdb he hpl, fun C σ H F env Q Qp R kk q => ?_⟩
  obtain ⟨e, q⟩ := q
  have s : σ[i]? = some (some (.ref a)) := R.slot i _ e
  refine ⟨_, s, ?_⟩
  refine l1 C σ H F env _ _ R (fun vs H1 F1 env1 os s1 a1 q1 => ?_) q
  obtain ⟨ds, env2, e1, q1⟩ := q1
  obtain ⟨F2, s2, a2⟩ := fzAll_ok s1.rel a1 e1
  refine ⟨F2, a, ns, ds, vs, by simp, s2.rel.frz, sqL_at s2.rel.toRelB s2.rel.xok.1.1 s2.rel.xok.1.2, a2, _, q1, fun v H' F' rv fl' pp qq => ?_⟩
  have s3 := pp.stp s2.rel
  obtain ⟨es', rfl, qq⟩ := qq
  obtain ⟨r, xs, rfl, h1, h2, h3, h4⟩ := pp.res
  have h3 : H1 r = none := h3
  obtain ⟨h0, no⟩ := fresh_of s2.rel s3 h3
  exact kk r xs es' H' F' env2 ((s1.trans s2).trans s3) h1 h2 h0 no (s1.dm r (s2.dm r h3)) h4 qq
end
end Sw

set_option maxHeartbeats 2000000
set_option Elab.async false
set_option linter.all false
set_option maxRecDepth 100000
open PySem PySem.Spec L2 Sw
local macro_rules | `(tactic| walk_at "wp") => `(tactic| simp only [sSeq, sIf, sNil, sPass, sBreak, sCont, sRet, sRetF, sRetS, sDrop, sAsg, sAsgF, sSetIx, sAsgG, sFor, sRaise, sAsgD, sPutD, sFrzD, qDIn, qDGet, qDGetO, iKeysD, OV.dic, ex_pr, ex_pr0, ex_dic, ex_dic0, ex_kds, keyO_some, gListDic_1, gClear_0, qDisp1, qChain, qRest, tAnd', tOr', tNot', qTest, qAnd, qOr, qNot, qOp, qVar, qC, qF, qSl, qPn, qPs, qTup, fLst, qCB, fCB, qIsi, qJoin, fOp, qCons, qNil, qMO, qMO0, qAddD, qCall, qCallL, fCall, fCallL, qCallV, ex_dt, ex_fr, ex_frL, atom_b, atom_i, atom_s, atom_n, ex_tupv, ex_consv, eq_self, fLc, fLcR, restE, NoOwn, nob_d, nob_u, List.getD_cons_zero, List.getD_cons_succ, wipeE, iAny, iRg1, iRg2, iEnu, gN, gT, gsC, gsN, tYes', endsOf, LentE,
  svD, Ct.toD, OV.rd, OV.fz, rdAll, fzAll, bindS, mapS, ex_some, ex_fz, ex_fzs, ex_own, ex_own0, ex_ownF, ex_bool, ex_int, ex_lst, ex_strv, ex_svd, ex_svo, ex_if, ex_ifb, ex_som0, ex_fl, ex_flN, ex_ifp, true_and, and_true,
  List.getElem?_cons_zero, List.getElem?_cons_succ, List.set_cons_zero, List.set_cons_succ, List.length_cons, List.length_nil, List.append_nil, List.nil_append, List.cons_append, List.map_nil, List.map_cons, List.length_set,
  atI_lit, ixN_lit, gI_ii, gAdd_ii, gAdd_ss, gAdd_ll, gAdd_tt, gMul_ii, gMul_si, gLt_ii, gLt_ss, gIx_li, gIx_ti, gIx_si, gLen_l, gLen_t, gLen_s, gListF_l, gListF_t, gTuple_l, gTuple_t, gCatF_ll, gEq_ii, gNe_ii, gEq_ss, gNe_ss, gEq_bb, gNe_bb, gSl_l, gSl_t, gSl_s, gIsN_n, gNotN_n, gIsN_b, gIsN_i, gIsN_s, gIsN_l, gIsN_t, gIsN_d, ne_eq, not_true_eq_false, not_false_eq_true, gAppend_1, gExtend_l, gExtend_t, gRev_l, gRev_t, qRevA, RV.toD, seqOf_l, seqOf_t, itemsOf_l, itemsOf_t, itemsOf_s, gSortD_s, gIsB_bb, gNotB_bb, qNeg, qVM, fVM, fSortK, gJoin_s, gAll_b, gAny_b, gPopAt_1, isi_str, isi_int, isi_bool, isi_list, isi_tuple, isi_none, dSub, gDiv, gMod, gPow, gCmp,
  Bool.not_true, Bool.not_false, if_true, if_false, ite_true, ite_false, reduceIte, decide_eq_true_eq, beq_iff_eq, Bool.not_eq_true', beq_eq_false_iff_ne, Bool.false_eq_true, Nat.reduceLT, Nat.reduceAdd, Nat.reduceLeDiff, Nat.lt_add_one, Nat.zero_lt_succ, Nat.not_lt_zero])
namespace Sw
/-- a flow: the cells, the place, the digits left, the mix, the count -/
def FlOk (fd : List D) : Prop := ∃ (cs : List Int) (p b m n : Int), fd = [.list (cs.map .int), .int p, .int b, .int m, .int n] ∧ 0 ≤ p ∧ 0 ≤ b ∧ 0 ≤ m ∧ m < 2147483647 ∧ 0 ≤ n
def sp_law_pick : PSp := fun fl ds Q => ∃ fd many, fl = some fd ∧ FlOk fd ∧ ds = [.int many] ∧ 1 ≤ many ∧ many < 1073741824 ∧ ∀ d fd2, 0 ≤ d → d < many → FlOk fd2 → Q (.dt (.int d)) (some fd2)
/-! law_pick (lent) level 1 -/
abbrev N_law_pick : List Str := ["_law_flow_here", "_law_many", "_law_cell", "_law_digit"]
def T_law_pick : PS' := (sSeq (sIf (tAnd' (qTest (qOp (gEq false) (qOp gIx (qVar 0) (qC (.int 2))) (qC (.int 0)))) (qTest (qOp gLt (qOp gIx (qVar 0) (qC (.int 1))) (qCB gLen (qCons (qOp gIx (qVar 0) (qC (.int 0))) qNil))))) (sSeq (sAsg 2 (qOp gIx (qOp gIx (qVar 0) (qC (.int 0))) (qOp gIx (qVar 0) (qC (.int 1)))))
  (sSeq (sSetIx 0 (qOp gAdd (qOp gIx (qVar 0) (qC (.int 1))) (qC (.int 1))) (qC (.int 1)))
  (sIf (qTest (qOp (gI (gCmp fun i j => decide (j ≤ i))) (qVar 2) (qOp (gI gPow) (qC (.int 10)) (qC (.int 18))))) (sSetIx 0 (qVar 2) (qC (.int 2))) (sSetIx 0 (qOp (gI gMod) (qOp gAdd (qOp gAdd (qOp gMul (qOp gIx (qVar 0) (qC (.int 3))) (qC (.int 40013))) (qOp (gI gMod) (qVar 2) (qC (.int 1000003)))) (qC (.int 1))) (qC (.int 2147483647))) (qC (.int 3)))))) sNil)
  (sSeq (sIf (qTest (qOp (gI (gCmp fun i j => decide (j < i))) (qOp gIx (qVar 0) (qC (.int 2))) (qC (.int 0)))) (sSeq (sAsg 3 (qOp (gI gMod) (qOp gIx (qVar 0) (qC (.int 2))) (qVar 1)))
  (sSeq (sSetIx 0 (qOp (gI gDiv) (qOp gIx (qVar 0) (qC (.int 2))) (qVar 1)) (qC (.int 2)))
  (sRet (qVar 3)))) sNil)
  (sSeq (sSetIx 0 (qOp gAdd (qOp gIx (qVar 0) (qC (.int 4))) (qC (.int 1))) (qC (.int 4)))
  (sSeq (sSetIx 0 (qOp (gI gMod) (qOp gAdd (qOp gAdd (qOp gMul (qOp gIx (qVar 0) (qC (.int 3))) (qC (.int 48271))) (qC (.int 12820163))) (qOp gIx (qVar 0) (qC (.int 4)))) (qC (.int 2147483647))) (qC (.int 3)))
  (sRet (qOp (gI gMod) (qOp (gI gDiv) (qOp (gI gMod) (qOp gMul (qOp gAdd (qOp (gI gMod) (qOp gIx (qVar 0) (qC (.int 3))) (qC (.int 65521))) (qC (.int 1))) (qOp gAdd (qOp (gI gDiv) (qOp gIx (qVar 0) (qC (.int 3))) (qC (.int 65521))) (qC (.int 7919)))) (qC (.int 1000003))) (qC (.int 7))) (qVar 1)))))))
theorem pure_law_pick (fl : Option (List D)) (ds : List D) (Q : RV → Option (List D) → Prop) (_ : true = true ↔ fl ≠ none) (h : sp_law_pick fl ds Q) : T_law_pick (endsOf true Q) (startE true N_law_pick fl ds) := by
  obtain ⟨fd, many, rfl, ⟨cs, p, b, m, n, rfl, hp, hb, hm, hm2, hn⟩, rfl, h1, h2, k⟩ := h
  show T_law_pick _ [SV.own true _, SV.dat _, SV.un, SV.un]
  unfold T_law_pick
  refine cut_seq (fun env => ∃ p b m, 0 ≤ p ∧ 0 ≤ b ∧ 0 ≤ m ∧ m < 2147483647 ∧ ∃ y, env = [SV.own true [.list (cs.map .int), .int p, .int b, .int m, .int n], SV.dat (.int many), y, SV.un]) ?_ ?_
  · rintro env ⟨p, b, m, hp, hb, hm, hm2, y, rfl⟩
    walk_at "wp"
    split
    · exact ⟨by omega, ⟨by omega, h2⟩, k _ _ (Int.emod_nonneg _ (by omega)) (Int.emod_lt_of_pos _ (by omega)) ⟨cs, p, b / many, m, n, rfl, hp, Int.ediv_nonneg hb (by omega), hm, hm2, hn⟩⟩
    · have g1 : 0 ≤ (m * 48271 + 12820163 + (n + 1)) % 2147483647 := Int.emod_nonneg _ (by decide)
      have g2 : (m * 48271 + 12820163 + (n + 1)) % 2147483647 < 2147483647 := Int.emod_lt_of_pos _ (by decide)
      generalize (m * 48271 + 12820163 + (n + 1)) % 2147483647 = x at g1 g2 ⊢
      refine ⟨.inr ⟨by decide, by decide⟩, by decide, by decide, ⟨by decide, by decide⟩, .inl ⟨by omega, by omega⟩, by decide, ⟨by decide, by decide⟩, by omega, k _ _ (Int.emod_nonneg _ (by omega)) (Int.emod_lt_of_pos _ (by omega)) ⟨cs, p, b, x, n + 1, rfl, hp, hb, g1, g2, by omega⟩⟩
  · intro nx hnx
    walk_at "wp"
    split
    · split
      · rename_i hlt
        rw [List.length_map] at hlt
        rw [atI_at hp, List.getElem?_map, List.getElem?_eq_getElem (by omega : p.toNat < cs.length)]
        walk_at "wp"
        refine ⟨⟨by decide, by decide, by decide⟩, ?_⟩
        have e18 : (10 : Int) ^ Int.toNat 18 = 1000000000000000000 := by decide
        split
        · exact hnx _ ⟨p + 1, _, m, by omega, by omega, hm, hm2, _, rfl⟩
        · refine ⟨.inr ⟨by decide, by decide⟩, by decide, by decide, hnx _ ⟨p + 1, b, _, by omega, hb, Int.emod_nonneg _ (by decide), Int.emod_lt_of_pos _ (by decide), _, rfl⟩⟩
      · exact hnx _ ⟨p, b, m, hp, hb, hm, hm2, _, rfl⟩
    · exact hnx _ ⟨p, b, m, hp, hb, hm, hm2, _, rfl⟩

end Sw

open PySem PySem.Spec L2 Sw
namespace Sw
def abc : Str := Str.ofString "abcdefghijklmnopqrstuvwxyz"
theorem abc_tl : abc.cps.toList = List.range' 97 26 := by decide +kernel
theorem abc_ix {d : Int} (h0 : 0 ≤ d) (h1 : d < 26) : (if (Str.ofString "abcdefghijklmnopqrstuvwxyz").length ≤ sizeLine then Option.map (fun c => PyData.str ⟨#[c]⟩) (atI (Str.ofString "abcdefghijklmnopqrstuvwxyz").cps.toList d) else none) = some (.str ⟨#[97 + d.toNat]⟩) := by
  show (if abc.length ≤ sizeLine then (atI abc.cps.toList d).map fun c => PyData.str ⟨#[c]⟩ else none) = _
  rw [if_pos (by rw [len_tl, abc_tl, sizeLine_eq]; decide), abc_tl, atI_at h0, List.getElem?_range' (by omega)]
  simp
theorem sizeL {n : Nat} (h : n ≤ 16777216) : n ≤ sizeLine := by rw [sizeLine_eq]; exact h
theorem low1 {n : Nat} (h : n < 26) : Low ⟨#[97 + n]⟩ := fun c hc => by
  have : c = 97 + n := by simpa using hc
  omega
theorem sum_ones : ∀ {zs : List Str}, (∀ z ∈ zs, z.length = 1) → (zs.map (·.length)).sum = zs.length
  | [], _ => rfl
  | z :: r, h => by
    rw [List.map_cons, List.sum_cons, h z List.mem_cons_self, sum_ones fun y hy => h y (List.mem_cons_of_mem _ hy), List.length_cons]
    omega
theorem join_len (zs : List Str) : (Txt.join (Str.ofString "") zs).length = (zs.map (·.length)).sum := by
  rw [len_tl, joinE, List.length_flatten, List.map_map]
  rfl
theorem join_low {zs : List Str} (h : ∀ z ∈ zs, Low z) : Low (Txt.join (Str.ofString "") zs) := fun c hc => by
  rw [joinE] at hc
  obtain ⟨l, hl, hc⟩ := List.mem_flatten.mp hc
  obtain ⟨z, hz, rfl⟩ := List.mem_map.mp hl
  exact h z hz c hc
def sp_law_letters : PSp := fun fl ds Q => ∃ fd many, fl = some fd ∧ FlOk fd ∧ ds = [.int many] ∧ 0 ≤ many ∧ many ≤ 1000 ∧ ∀ z fd2, Low z → (z.length : Int) = many → FlOk fd2 → Q (.dt (.str z)) (some fd2)
/-! law_letters (lent) level 2 -/
abbrev N_law_letters : List Str := ["_law_flow_here", "_law_many", "_law_k"]
def T_law_letters : PS' := (sRet (qJoin (qC (.str "")) (qF (fLc (iRg1 (qVar 1)) (gN 2) tYes' (qOp gIx (qC (.str "abcdefghijklmnopqrstuvwxyz")) (qCallL sp_law_pick 0 (qAddD (qCons (qC (.int 26)) qNil) []))) [2]))))
theorem pure_law_letters (fl : Option (List D)) (ds : List D) (Q : RV → Option (List D) → Prop) (_ : true = true ↔ fl ≠ none) (h : sp_law_letters fl ds Q) : T_law_letters (endsOf true Q) (startE true N_law_letters fl ds) := by
  obtain ⟨fd, many, rfl, hf, rfl, h1, h2, k⟩ := h
  show T_law_letters _ [SV.own true _, SV.dat _, SV.un]
  unfold T_law_letters
  walk_at "wp"
  refine ⟨⟨by omega, by omega⟩, by rw [rgD_len]; omega, ?_⟩
  refine pLc_inv (fun i acc env => ∃ (zs : List Str) (fd : List D), acc = zs.map PyData.str ∧ zs.length = i ∧ (∀ z ∈ zs, Low z ∧ z.length = 1) ∧ FlOk fd ∧ env = [SV.own true fd, SV.dat (.int many), SV.un]) ⟨[], fd, rfl, rfl, by simp, hf, rfl⟩ ?_ ?_
  · rintro i d hd acc env ⟨zs, fd, rfl, rfl, hz, hf, rfl⟩ K hK
    obtain ⟨hi, rfl⟩ := rgD_get hd
    walk_at "wp"
    refine ⟨fd, 26, rfl, hf, rfl, by omega, by omega, fun d fd2 h0 h1 hf2 => ?_⟩
    walk_at "wp"
    rw [abc_ix h0 h1]
    walk_at "wp"
    refine hK _ _ ⟨zs ++ [⟨#[97 + d.toNat]⟩], fd2, by rw [List.map_append]; rfl, by simp, fun z hz' => ?_, hf2, rfl⟩
    rcases List.mem_append.mp hz' with e | e
    · exact hz z e
    · have e : z = ⟨#[97 + d.toNat]⟩ := by simpa using e
      subst e
      exact ⟨low1 (by omega), rfl⟩
  · rintro acc env ⟨zs, fd, rfl, hl, hz, hf, rfl⟩
    rw [rgD_len] at hl
    have hs := sum_ones fun z hz' => (hz z hz').2
    walk_at "wp"
    refine ⟨?_, k _ _ (join_low fun z hz' => (hz z hz').1) (by rw [join_len, hs, hl]; omega) hf⟩
    rw [hs, hl]
    have : (Str.ofString "").length = 0 := by decide +kernel
    rw [this]
    omega
/-! ### names -/
def nmB (z : Str) : Bool := z.cps.toList.all (fun c => decide (97 ≤ c ∧ c ≤ 122)) && decide (1 ≤ z.length ∧ z.length ≤ 6)
theorem nmB_iff {z : Str} : nmB z = true ↔ Nm z := by
  unfold nmB Nm Low
  rw [Bool.and_eq_true, List.all_eq_true, decide_eq_true_eq]
  simp only [decide_eq_true_eq]
def lawWords : List Str := [Str.ofString "to", Str.ofString "turn", Str.ofString "turns", Str.ofString "ring", Str.ofString "rings", Str.ofString "odd", Str.ofString "ours", Str.ofString "row", Str.ofString "rows", Str.ofString "cuts", Str.ofString "knots", Str.ofString "cover", Str.ofString "change", Str.ofString "joins", Str.ofString "theirs", Str.ofString "one", Str.ofString "two", Str.ofString "home", Str.ofString "none", Str.ofString "open", Str.ofString "keep", Str.ofString "tox", Str.ofString "onex"]
theorem lawWords_ok : lawWords.all nmB = true := by decide +kernel
def sp_law_name : PSp := fun fl ds Q => ∃ fd stem, fl = some fd ∧ FlOk fd ∧ ds = [.str stem] ∧ Low stem ∧ stem.length ≤ 4 ∧ ∀ z fd2, Nm z → FlOk fd2 → Q (.dt (.str z)) (some fd2)
/-! law_name (lent) level 3 -/
abbrev N_law_name : List Str := ["_law_flow_here", "_law_stem", "_law_words"]
def T_law_name : PS' := (sSeq (sIf (qTest (qOp (gEq true) (qVar 1) (qC (.str "")))) (sRet (qOp gAdd (qVar 1) (qCallL sp_law_letters 0 (qAddD (qCons (qOp gAdd (qC (.int 1)) (qCallL sp_law_pick 0 (qAddD (qCons (qC (.int 2)) qNil) []))) qNil) [])))) sNil)
  (sSeq (sIf (qTest (qOp (gEq false) (qCallL sp_law_pick 0 (qAddD (qCons (qC (.int 7)) qNil) [])) (qC (.int 0)))) (sSeq (sAsg 2 (qF (fLst (qCons (qC (.str "to")) (qCons (qC (.str "turn")) (qCons (qC (.str "turns")) (qCons (qC (.str "ring")) (qCons (qC (.str "rings")) (qCons (qC (.str "odd")) (qCons (qC (.str "ours")) (qCons (qC (.str "row")) (qCons (qC (.str "rows")) (qCons (qC (.str "cuts")) (qCons (qC (.str "knots")) (qCons (qC (.str "cover")) qNil)))))))))))))))
  (sSeq (sAsg 2 (qOp gAdd (qVar 2) (qF (fLst (qCons (qC (.str "change")) (qCons (qC (.str "joins")) (qCons (qC (.str "theirs")) (qCons (qC (.str "one")) (qCons (qC (.str "two")) (qCons (qC (.str "home")) (qCons (qC (.str "none")) (qCons (qC (.str "open")) (qCons (qC (.str "keep")) (qCons (qC (.str "tox")) (qCons (qC (.str "onex")) qNil)))))))))))))))
  (sRet (qOp gIx (qVar 2) (qCallL sp_law_pick 0 (qAddD (qCons (qC (.int 23)) qNil) [])))))) sNil)
  (sRet (qCallL sp_law_letters 0 (qAddD (qCons (qOp gAdd (qC (.int 1)) (qCallL sp_law_pick 0 (qAddD (qCons (qC (.int 6)) qNil) []))) qNil) [])))))
theorem pure_law_name (fl : Option (List D)) (ds : List D) (Q : RV → Option (List D) → Prop) (_ : true = true ↔ fl ≠ none) (h : sp_law_name fl ds Q) : T_law_name (endsOf true Q) (startE true N_law_name fl ds) := by
  obtain ⟨fd, stem, rfl, hf, rfl, h1, h2, k⟩ := h
  show T_law_name _ [SV.own true _, SV.dat _, SV.un]
  unfold T_law_name
  refine cut_seq (fun env => ∃ fd, FlOk fd ∧ env = [SV.own true fd, SV.dat (.str stem), SV.un]) ?_ fun nx hnx => ?_
  · rintro env ⟨fd, hf, rfl⟩
    walk_at "wp"
    refine ⟨fd, 7, rfl, hf, rfl, by omega, by omega, fun d fd2 h0 h7 hf2 => ?_⟩
    walk_at "wp"
    split
    · refine ⟨sizeL (by decide), sizeL (by decide), sizeL (by decide), fd2, 23, rfl, hf2, rfl, by omega, by omega, fun d fd3 g0 g1 hf3 => ?_⟩
      walk_at "wp"
      obtain ⟨w, e1, e2⟩ : ∃ w, lawWords[d.toNat]? = some w ∧ Nm w := by
        have hlt : d.toNat < lawWords.length := by
          show d.toNat < 23
          omega
        exact ⟨_, List.getElem?_eq_getElem hlt, nmB_iff.mp (List.all_eq_true.mp lawWords_ok _ (List.getElem_mem hlt))⟩
      have e3 : atI (lawWords.map PyData.str) d = some (.str w) := by
        rw [atI_at g0, List.getElem?_map, e1]
        rfl
      refine ⟨_, e3, k _ _ e2 hf3⟩
    · refine ⟨fd2, 6, rfl, hf2, rfl, by omega, by omega, fun d fd3 g0 g1 hf3 => ?_⟩
      walk_at "wp"
      refine ⟨fd3, 1 + d, rfl, hf3, rfl, by omega, by omega, fun z fd4 hz hl hf4 => ?_⟩
      walk_at "wp"
      exact k _ _ ⟨hz, by omega, by omega⟩ hf4
  · walk_at "wp"
    split
    · rename_i hne
      refine ⟨fd, 2, rfl, hf, rfl, by omega, by omega, fun d fd2 h0 h7 hf2 => ?_⟩
      walk_at "wp"
      refine ⟨fd2, 1 + d, rfl, hf2, rfl, by omega, by omega, fun z fd3 hz hl hf3 => ?_⟩
      walk_at "wp"
      have hs : 1 ≤ stem.length := by
        cases q : stem.length with
        | zero =>
          exfalso
          refine hne (ext_tl ?_)
          rw [List.eq_nil_of_length_eq_zero (show stem.cps.toList.length = 0 from q)]
          decide +kernel
        | succ n => omega
      exact ⟨sizeL (by omega), k _ _ ⟨h1.app hz, by rw [len_app]; omega, by rw [len_app]; omega⟩ hf3⟩
    · exact hnx _ ⟨fd, hf, rfl⟩

end Sw

open PySem PySem.Spec L2 Sw
namespace Sw
theorem mul_tl (z : Str) {n : Int} (h : 1 ≤ n) : (Txt.mul z n).cps.toList = (List.replicate n.toNat z.cps.toList).flatten := by
  unfold Txt.mul
  rw [if_neg (by omega)]
  split
  · rename_i h2
    rw [Bool.or_eq_true] at h2
    rcases h2 with h2 | h2
    · have : n = 1 := by simpa using h2
      subst this
      simp
    · have h3 : z.cps.toList.length = 0 := by
        have : z.length = 0 := by simpa using h2
        exact this
      have h4 : z.cps.toList = [] := List.eq_nil_of_length_eq_zero h3
      rw [h4]
      simp
  · have key : ∀ (k : Nat) (acc : Array Nat), ((List.replicate k z.cps).foldl (· ++ ·) acc).toList = acc.toList ++ (List.replicate k z.cps.toList).flatten := by
      intro k
      induction k with
      | zero => intro acc; simp
      | succ k ih =>
        intro acc
        rw [List.replicate_succ, List.foldl_cons, ih, List.replicate_succ, List.flatten_cons, Array.toList_append, List.append_assoc]
    show ((List.replicate n.toNat z.cps).foldl (· ++ ·) #[]).toList = _
    rw [key]
    simp
theorem nodup_len_le {α : Type} [DecidableEq α] : ∀ {l m : List α}, l.Nodup → (∀ x ∈ l, x ∈ m) → l.length ≤ m.length
  | [], _, _, _ => Nat.zero_le _
  | x :: r, m, h, hs => by
    have h' := List.nodup_cons.mp h
    have hx := hs x List.mem_cons_self
    have ih := nodup_len_le (l := r) (m := m.erase x) h'.2 fun y hy => by
      have hne : y ≠ x := by
        rintro rfl
        exact h'.1 hy
      exact (List.mem_erase_of_ne hne).mpr (hs y (List.mem_cons_of_mem _ hy))
    rw [List.length_erase_of_mem hx] at ih
    have : 0 < m.length := List.length_pos_of_mem hx
    rw [List.length_cons]
    omega
theorem tl_nil : (Str.ofString "").cps.toList = [] := by decide +kernel
theorem low_nil : Low (Str.ofString "") := fun c hc => by
  rw [tl_nil] at hc
  cases hc
/-- the spare names -/
def cand (s : Nat) : Str := Txt.mul ⟨#[97 + s % 26]⟩ (1 + (s / 26 : Nat))
theorem rep_one (k c : Nat) : (List.replicate k [c]).flatten = List.replicate k c := by
  induction k with
  | zero => rfl
  | succ k ih => rw [List.replicate_succ, List.flatten_cons, ih, List.replicate_succ]; rfl
theorem cand_tl (s : Nat) : (cand s).cps.toList = List.replicate (1 + s / 26) (97 + s % 26) := by
  unfold cand
  rw [mul_tl _ (by omega)]
  have : (1 + ((s / 26 : Nat) : Int)).toNat = 1 + s / 26 := by omega
  rw [this]
  exact rep_one _ _
theorem cand_inj {s t : Nat} (h : cand s = cand t) : s = t := by
  have e := congrArg (fun z : Str => z.cps.toList) h
  have e : (cand s).cps.toList = (cand t).cps.toList := e
  rw [cand_tl, cand_tl] at e
  have h1 : 1 + s / 26 = 1 + t / 26 := by
    have := congrArg List.length e
    simpa using this
  have h2 : 97 + s % 26 = 97 + t % 26 := by
    have := congrArg List.head? e
    rw [show 1 + s / 26 = (s / 26) + 1 by omega, show 1 + t / 26 = (t / 26) + 1 by omega, List.replicate_succ, List.replicate_succ] at this
    simpa using this
  omega
theorem cand_nm {s : Nat} (h : s < 156) : Nm (cand s) := by
  refine ⟨fun c hc => ?_, ?_, ?_⟩
  · rw [cand_tl] at hc
    have := List.eq_of_mem_replicate hc
    omega
  · rw [len_tl, cand_tl, List.length_replicate]
    omega
  · rw [len_tl, cand_tl, List.length_replicate]
    omega
theorem cand_few {ns : List Str} {s : Nat} (h : ∀ j, j < s → cand j ∈ ns) : s ≤ ns.length := by
  have nd : ((List.range s).map cand).Nodup := by
    rw [List.Nodup, List.pairwise_map]
    exact List.Pairwise.imp (fun hab e => hab (cand_inj e)) (List.nodup_range (n := s))
  have sub : ∀ x ∈ (List.range s).map cand, x ∈ ns := fun x hx => by
    obtain ⟨j, hj, rfl⟩ := List.mem_map.mp hx
    exact h j (List.mem_range.mp hj)
  have := nodup_len_le nd sub
  simpa using this
def sp_law_names : PSp := fun fl ds Q => ∃ fd many, fl = some fd ∧ FlOk fd ∧ ds = [.int many] ∧ 0 ≤ many ∧ many ≤ 80 ∧ ∀ (ns : List Str) fd2, ns.Nodup → (∀ z ∈ ns, Nm z) → (ns.length : Int) = many → FlOk fd2 → Q (.fr (ns.map PyData.str)) (some fd2)
/-! law_names (lent) level 4 fresh -/
abbrev N_law_names : List Str := ["_law_flow_here", "_law_many", "_law_stem", "_law_names_here", "_law_k", "_law_name_here", "_law_spare"]
def T_law_names : PS' := (sSeq (sAsg 2 (qC (.str "")))
  (sSeq (sIf (qTest (qOp (gEq false) (qCallL sp_law_pick 0 (qAddD (qCons (qC (.int 3)) qNil) [])) (qC (.int 0)))) (sAsg 2 (qCallL sp_law_letters 0 (qAddD (qCons (qOp gAdd (qC (.int 1)) (qCallL sp_law_pick 0 (qAddD (qCons (qC (.int 4)) qNil) []))) qNil) []))) sNil)
  (sSeq (sAsgF 3 (fLst (qNil)))
  (sSeq (sFor (iRg1 (qVar 1)) (gN 4) (sSeq (sAsg 5 (qCallL sp_law_name 0 (qAddD (qCons (qVar 2) qNil) [])))
  (sSeq (sAsg 6 (qC (.int 0)))
  (sSeq (sWh (qTest (qOp (gIn false) (qVar 5) (qVar 3))) (sSeq (sAsg 5 (qOp gMul (qOp gIx (qC (.str "abcdefghijklmnopqrstuvwxyz")) (qOp (gI gMod) (qVar 6) (qC (.int 26)))) (qOp gAdd (qC (.int 1)) (qOp (gI gDiv) (qVar 6) (qC (.int 26))))))
  (sAsg 6 (qOp gAdd (qVar 6) (qC (.int 1))))))
  (sDrop (qMO 3 gAppend (qCons (qVar 5) qNil)))))))
  (sRetS 3)))))
theorem pure_law_names (fl : Option (List D)) (ds : List D) (Q : RV → Option (List D) → Prop) (_ : true = true ↔ fl ≠ none) (h : sp_law_names fl ds Q) : T_law_names (endsOf true Q) (startE true N_law_names fl ds) := by
  obtain ⟨fd, many, rfl, hf, rfl, h1, h2, k⟩ := h
  show T_law_names _ [SV.own true _, SV.dat _, SV.un, SV.un, SV.un, SV.un, SV.un]
  unfold T_law_names
  refine cut_seq (fun env => FlOk fd ∧ env = [SV.own true fd, SV.dat (.int many), SV.dat (.str (Str.ofString "")), SV.un, SV.un, SV.un, SV.un]) ?_ fun nx hnx => ?_
  · rintro env ⟨hf, rfl⟩
    refine cut_seq (fun env => ∃ fd stem, FlOk fd ∧ Low stem ∧ stem.length ≤ 4 ∧ env = [SV.own true fd, SV.dat (.int many), SV.dat (.str stem), SV.un, SV.un, SV.un, SV.un]) ?_ fun nx hnx => ?_
    · rintro env ⟨fd, stem, hf, hs1, hs2, rfl⟩
      walk_at "wp"
      refine ⟨sizeL (by decide), ⟨by omega, by omega⟩, ?_⟩
      refine pFor_inv (fun i env => ∃ (ns : List Str) (fd : List D) (y1 y2 y3 : SV), ns.length = i ∧ ns.Nodup ∧ (∀ z ∈ ns, Nm z) ∧ FlOk fd ∧ env = [SV.own true fd, SV.dat (.int many), SV.dat (.str stem), SV.own false (ns.map PyData.str), y1, y2, y3]) ⟨[], fd, _, _, _, rfl, List.nodup_nil, by simp, hf, rfl⟩ ?_ ?_
      · rintro i d hd env ⟨ns, fd, y1, y2, y3, rfl, hn1, hn2, hf, rfl⟩ K hK
        obtain ⟨hi, rfl⟩ := rgD_get hd
        walk_at "wp"
        refine ⟨fd, stem, rfl, hf, rfl, hs1, hs2, fun z fd2 hz hf2 => ?_⟩
        walk_at "wp"
        refine pWh_inv (fun env => ∃ (s : Nat) (z : Str), Nm z ∧ s ≤ ns.length + 1 ∧ (∀ j, j + 1 < s → cand j ∈ ns) ∧ (0 < s → z = cand (s - 1)) ∧ env = [SV.own true fd2, SV.dat (.int many), SV.dat (.str stem), SV.own false (ns.map PyData.str), SV.dat (.int (0 + (ns.length : Int))), SV.dat (.str z), SV.dat (.int (s : Int))])
          (fun env : List SV => match env[6]? with | some (SV.dat (PyData.int s)) => (100 - s).toNat | _ => 0) ⟨0, z, hz, by omega, by omega, by omega, rfl⟩ ?_
        rintro env ⟨s, z, hz, hs, hc, hzc, rfl⟩ K2 hK2
        walk_at "wp"
        rw [gIn_strs]
        walk_at "wp"
        split
        · rename_i hin
          have hc2 : ∀ j, j < s → cand j ∈ ns := fun j hj => by
            by_cases e : j + 1 < s
            · exact hc j e
            · have e1 : j = s - 1 := by omega
              rw [e1, ← hzc (by omega)]
              exact hin
          have hfew := cand_few hc2
          have hmany : ns.length < 80 := by omega
          have e1 : ((s : Int) % 26) = ((s % 26 : Nat) : Int) := by omega
          have e2 : ((s : Int) / 26) = ((s / 26 : Nat) : Int) := by omega
          rw [abc_ix (by omega) (by omega)]
          walk_at "wp"
          refine ⟨by decide, ⟨by decide, by decide⟩, ⟨by omega, by omega, by show 1 ≤ 1000; decide⟩, ?_⟩
          have e3 : Txt.mul ⟨#[97 + ((s : Int) % 26).toNat]⟩ (1 + (s : Int) / 26) = cand s := by
            unfold cand
            rw [e1, e2]
            rfl
          rw [e3]
          refine hK2 _ ⟨s + 1, cand s, cand_nm (by omega), by omega, fun j hj => hc2 j (by omega), fun _ => rfl, rfl⟩ ?_
          show (100 - ((s : Int) + 1)).toNat < (100 - (s : Int)).toNat
          omega
        · rename_i hnin
          refine ⟨?_, hK _ ⟨ns ++ [z], fd2, _, _, _, by simp, ?_, fun y hy => ?_, hf2, by rw [List.map_append]; rfl⟩⟩
          · rw [List.length_map, sizeLine_eq]
            omega
          · rw [List.nodup_append]
            refine ⟨hn1, by simp, fun a ha b hb => ?_⟩
            have : b = z := by simpa using hb
            rintro rfl
            exact hnin (this ▸ ha)
          · rcases List.mem_append.mp hy with e | e
            · exact hn2 y e
            · have : y = z := by simpa using e
              exact this ▸ hz
      · rintro env ⟨ns, fd, y1, y2, y3, hl, hn1, hn2, hf, rfl⟩
        rw [rgD_len] at hl
        walk_at "wp"
        exact k ns fd hn1 hn2 (by omega) hf
    · walk_at "wp"
      refine ⟨fd, 3, rfl, hf, rfl, by omega, by omega, fun d fd2 g0 g1 hf2 => ?_⟩
      walk_at "wp"
      split
      · refine ⟨fd2, 4, rfl, hf2, rfl, by omega, by omega, fun d fd3 g0 g1 hf3 => ?_⟩
        walk_at "wp"
        refine ⟨fd3, 1 + d, rfl, hf3, rfl, by omega, by omega, fun z fd4 hz hl hf4 => ?_⟩
        walk_at "wp"
        exact hnx _ ⟨fd4, z, hf4, hz, by omega, rfl⟩
      · exact hnx _ ⟨fd2, _, hf2, low_nil, by decide +kernel, rfl⟩
  · walk_at "wp"
    exact hnx _ ⟨hf, rfl⟩

end Sw

open PySem PySem.Spec L2 Sw
namespace Sw
/-! ### drawn in any order -/
def sp_law_shuffled : PSp := fun fl ds Q => ∃ fd c xs, fl = some fd ∧ FlOk fd ∧ ds = [c] ∧ (c = .list xs ∨ c = .tuple xs) ∧ xs.length ≤ 1000 ∧ (∀ x ∈ xs, okI x) ∧ ∀ ys fd2, ys.Perm xs → FlOk fd2 → Q (.fr ys) (some fd2)
/-! law_shuffled (lent) level 2 fresh -/
abbrev N_law_shuffled : List Str := ["_law_flow_here", "_law_things", "_law_left", "_law_told"]
def T_law_shuffled : PS' := (sSeq (sAsgF 2 (fCB gListF (qCons (qVar 1) qNil)))
  (sSeq (sAsgF 3 (fLst (qNil)))
  (sSeq (sWh (qTest (qOp (gEq true) (qVar 2) (qF (fLst (qNil))))) (sDrop (qMO 3 gAppend (qCons (qMO 2 gPopAt (qCons (qCallL sp_law_pick 0 (qAddD (qCons (qCB gLen (qCons (qVar 2) qNil)) qNil) [])) qNil)) qNil))))
  (sRetS 3))))
theorem erase_perm {α : Type} : ∀ {l : List α} {j : Nat} {x : α}, l[j]? = some x → (x :: l.eraseIdx j).Perm l
  | [], _, _, h => by simp at h
  | a :: r, 0, x, h => by
    simp at h
    subst h
    exact List.Perm.refl _
  | a :: r, j + 1, x, h => by
    have ih := erase_perm (l := r) (j := j) (x := x) (by simpa using h)
    exact (List.Perm.swap a x _).trans (ih.cons a)
theorem seqIx {d : Int} {n : Nat} (h0 : 0 ≤ d) (h1 : d < n) : seqIndex? d n = some d.toNat := by
  refine (ixN_seq (n := n) (i := d) ?_).1
  unfold ixN
  rw [if_pos h0, if_pos h1]
theorem pure_law_shuffled (fl : Option (List D)) (ds : List D) (Q : RV → Option (List D) → Prop) (_ : true = true ↔ fl ≠ none) (h : sp_law_shuffled fl ds Q) : T_law_shuffled (endsOf true Q) (startE true N_law_shuffled fl ds) := by
  obtain ⟨fd, c, xs, rfl, hf, rfl, hc, hl, ho, k⟩ := h
  show T_law_shuffled _ [SV.own true _, SV.dat _, SV.un, SV.un]
  unfold T_law_shuffled
  refine cut_seq (fun env => env = [SV.own true fd, SV.dat c, SV.own false xs, SV.un]) ?_ fun nx hnx => ?_
  · rintro env rfl
    walk_at "wp"
    refine ⟨Nat.zero_le _, ?_⟩
    refine pWh_inv (fun env => ∃ (left told : List D) (fd : List D), (told ++ left).Perm xs ∧ FlOk fd ∧ env = [SV.own true fd, SV.dat c, SV.own false left, SV.own false told])
      (fun env : List SV => match env[2]? with | some (SV.obj _ (Ct.lst l)) => l.length | _ => 0) ⟨xs, [], fd, List.Perm.refl _, hf, rfl⟩ ?_
    rintro env ⟨left, told, fd, hp, hf, rfl⟩ K hK
    have ho' : ∀ x ∈ left, okI x := fun x hx => ho x (hp.mem_iff.mp (List.mem_append_right _ hx))
    have hl' : told.length + left.length = xs.length := by
      have := hp.length_eq
      rw [List.length_append] at this
      exact this
    walk_at "wp"
    refine ⟨Nat.zero_le _, ?_⟩
    rw [gNe_nil ho']
    walk_at "wp"
    split
    · rename_i hne
      have hpos : 1 ≤ left.length := by
        cases left with
        | nil => cases hne
        | cons a r => simp
      refine ⟨fd, _, rfl, hf, rfl, by omega, by omega, fun d fd2 h0 h1 hf2 => ?_⟩
      walk_at "wp"
      have hlt : d.toNat < left.length := by omega
      refine ⟨left[d.toNat], left.eraseIdx d.toNat, ?_, ?_, hK _ ⟨left.eraseIdx d.toNat, told ++ [left[d.toNat]], fd2, ?_, hf2, rfl⟩ ?_⟩
      · rw [if_pos ⟨by omega, by omega⟩, seqIx h0 h1]
        walk_at "wp"
        rw [List.getElem?_eq_getElem hlt]
        rfl
      · rw [sizeLine_eq]
        omega
      · rw [List.append_assoc]
        exact ((erase_perm (List.getElem?_eq_getElem hlt)).append_left told).trans hp
      · show (left.eraseIdx d.toNat).length < left.length
        rw [List.length_eraseIdx_of_lt hlt]
        omega
    · rename_i hne
      have : left = [] := by
        cases left with
        | nil => rfl
        | cons a r => exact absurd rfl hne
      subst this
      rw [List.append_nil] at hp
      exact k told fd hp hf
  · walk_at "wp"
    refine ⟨xs, ?_, hnx _ rfl⟩
    rcases hc with rfl | rfl <;> rfl
/-! ### placed beads -/
abbrev Bead := Bool × Str
def bdS (b : Bead) : Str := if b.1 = true then Str.ofString "-" ++ b.2 else b.2
def bdD (b : Bead) : D := .str (bdS b)
def mirB (b : Bead) : Bead := (!b.1, b.2)
theorem dash_tl : (Str.ofString "-").cps.toList = [45] := by decide +kernel
theorem mul_dash {d : Int} (h0 : 0 ≤ d) (h1 : d < 2) (z : Str) : Txt.mul (Str.ofString "-") d ++ z = bdS (decide (d = 1), z) := by
  unfold bdS
  by_cases e : d = 1
  · subst e
    rw [if_pos (by simp)]
    congr 1
  · have : d = 0 := by omega
    subst this
    rw [if_neg (by simp)]
    refine ext_tl ?_
    rw [tl_app]
    have : (Txt.mul (Str.ofString "-") 0).cps.toList = [] := by decide +kernel
    rw [this, List.nil_append]
theorem bdS_len (b : Bead) : (bdS b).length ≤ b.2.length + 1 := by
  unfold bdS
  split
  · rw [len_app]
    have : (Str.ofString "-").length = 1 := by decide +kernel
    omega
  · omega
def sp_law_line : PSp := fun fl ds Q => ∃ fd c ns, fl = some fd ∧ FlOk fd ∧ ds = [c] ∧ (c = .list (ns.map PyData.str) ∨ c = .tuple (ns.map PyData.str)) ∧ ns.length ≤ 1000 ∧ (∀ z ∈ ns, Nm z) ∧ ∀ (bs : List Bead) fd2, (bs.map Prod.snd).Perm ns → FlOk fd2 → Q (.dt (.tuple (bs.map bdD))) (some fd2)
/-! law_line (lent) level 3 -/
abbrev N_law_line : List Str := ["_law_flow_here", "_law_names_here", "_law_name_here"]
def T_law_line : PS' := (sRet (qCB gTuple (qCons (qF (fLc (iAny (qCallL sp_law_shuffled 0 (qAddD (qCons (qVar 1) qNil) []))) (gN 2) tYes' (qOp gAdd (qOp gMul (qC (.str "-")) (qCallL sp_law_pick 0 (qAddD (qCons (qC (.int 2)) qNil) []))) (qVar 2)) [2])) qNil)))
theorem strs_of_perm {ys : List D} {ns : List Str} (h : ys.Perm (ns.map PyData.str)) : ∃ ms : List Str, ys = ms.map PyData.str ∧ ms.Perm ns := by
  have key : ∀ (l m : List D), l.Perm m → ∀ ns : List Str, m = ns.map PyData.str → ∃ ms : List Str, l = ms.map PyData.str ∧ ms.Perm ns := by
    intro l m h
    induction h with
    | nil => intro ns e; exact ⟨[], rfl, by cases ns with | nil => exact List.Perm.refl _ | cons => cases e⟩
    | cons x h ih =>
      intro ns e
      cases ns with
      | nil => cases e
      | cons n r =>
        injection e with e1 e2
        obtain ⟨ms, rfl, hp⟩ := ih r e2
        exact ⟨n :: ms, by rw [List.map_cons, e1], hp.cons n⟩
    | swap x y l =>
      intro ns e
      cases ns with
      | nil => cases e
      | cons n r =>
        cases r with
        | nil => injection e with e1 e2; cases e2
        | cons m r =>
          injection e with e1 e2
          injection e2 with e2 e3
          exact ⟨m :: n :: r, by rw [List.map_cons, List.map_cons, e1, e2, e3], List.Perm.swap _ _ _⟩
    | trans h1 h2 ih1 ih2 =>
      intro ns e
      obtain ⟨ms, e1, p1⟩ := ih2 ns e
      obtain ⟨ks, e2, p2⟩ := ih1 ms e1
      exact ⟨ks, e2, p2.trans p1⟩
  exact key _ _ h ns rfl
theorem pure_law_line (fl : Option (List D)) (ds : List D) (Q : RV → Option (List D) → Prop) (_ : true = true ↔ fl ≠ none) (h : sp_law_line fl ds Q) : T_law_line (endsOf true Q) (startE true N_law_line fl ds) := by
  obtain ⟨fd, c, ns, rfl, hf, rfl, hc, hl, hn, k⟩ := h
  show T_law_line _ [SV.own true _, SV.dat _, SV.un]
  unfold T_law_line
  walk_at "wp"
  refine ⟨fd, c, ns.map PyData.str, rfl, hf, rfl, hc, by rw [List.length_map]; exact hl, fun x hx => ?_, fun ys fd2 hp hf2 => ?_⟩
  · obtain ⟨z, _, rfl⟩ := List.mem_map.mp hx
    exact okI_str z
  · obtain ⟨ms, rfl, hpm⟩ := strs_of_perm hp
    have hml := hpm.length_eq
    walk_at "wp"
    refine ⟨by rw [List.length_map]; omega, ?_⟩
    refine pLc_inv (fun i acc env => ∃ (bs : List Bead) (fd : List D), acc = bs.map bdD ∧ bs.map Prod.snd = ms.take i ∧ FlOk fd ∧ env = [SV.own true fd, SV.dat c, SV.un]) ⟨[], fd2, rfl, rfl, hf2, rfl⟩ ?_ ?_
    · rintro i d hd acc env ⟨bs, fd, rfl, hb, hf, rfl⟩ K hK
      rw [List.getElem?_map] at hd
      cases q : ms[i]? with
      | none => rw [q] at hd; cases hd
      | some z =>
        rw [q] at hd
        cases hd
        have hz : Nm z := hn z (hpm.mem_iff.mp (List.mem_of_getElem? q))
        walk_at "wp"
        refine ⟨fd, 2, rfl, hf, rfl, by omega, by omega, fun d fd3 g0 g1 hf3 => ?_⟩
        walk_at "wp"
        refine ⟨⟨by omega, by omega, by decide⟩, ?_, ?_⟩
        · refine sizeL ?_
          have h2 := hz.2.2
          have : (Txt.mul (Str.ofString "-") d).length ≤ 1 := by
            by_cases e : d = 1
            · subst e; decide +kernel
            · have : d = 0 := by omega
              subst this; decide +kernel
          omega
        · rw [mul_dash g0 g1]
          refine hK _ _ ⟨bs ++ [(decide (d = 1), z)], fd3, by rw [List.map_append]; rfl, ?_, hf3, rfl⟩
          rw [List.map_append, hb, List.take_add_one, q]
          rfl
    · rintro acc env ⟨bs, fd, rfl, hb, hf, rfl⟩
      rw [List.length_map, List.take_length] at hb
      walk_at "wp"
      exact k bs fd (by rw [hb]; exact hpm) hf

end Sw

open PySem PySem.Spec L2 Sw
namespace Sw
/-! ### strands, sets -/
abbrev Strand := Bool × List Bead
def stD (s : Strand) : D := .tuple [.str (if s.1 = true then Str.ofString "ring" else Str.ofString "open"), .tuple (s.2.map bdD)]
def beadsOf (ss : List Strand) : List Bead := ss.flatMap Prod.snd
theorem beadsOf_app (a b : List Strand) : beadsOf (a ++ b) = beadsOf a ++ beadsOf b := List.flatMap_append
def sp_law_set : PSp := fun fl ds Q => ∃ fd c ns rings, fl = some fd ∧ FlOk fd ∧ ds = [c, .bool rings] ∧ (c = .list (ns.map PyData.str) ∨ c = .tuple (ns.map PyData.str)) ∧ ns.length ≤ 1000 ∧ (∀ z ∈ ns, Nm z) ∧
  ∀ (ss : List Strand) fd2, ((beadsOf ss).map Prod.snd).Perm ns → (∀ s ∈ ss, s.2 ≠ []) → (rings = false → ∀ s ∈ ss, s.1 = false) → FlOk fd2 → Q (.dt (.tuple (ss.map stD))) (some fd2)
/-! law_set (lent) level 4 -/
abbrev N_law_set : List Str := ["_law_flow_here", "_law_names_here", "_law_rings", "_law_strands", "_law_piece", "_law_bead"]
def T_law_set : PS' := (sSeq (sAsgF 3 (fLst (qNil)))
  (sSeq (sAsgF 4 (fLst (qNil)))
  (sSeq (sFor (iAny (qCallL sp_law_line 0 (qAddD (qCons (qVar 1) qNil) []))) (gN 5) (sSeq (sDrop (qMO 4 gAppend (qCons (qVar 5) qNil)))
  (sIf (qTest (qOp (gEq false) (qCallL sp_law_pick 0 (qAddD (qCons (qC (.int 3)) qNil) [])) (qC (.int 0)))) (sSeq (sDrop (qMO 3 gAppend (qCons (qTup (qCons (qC (.str "open")) (qCons (qCB gTuple (qCons (qVar 4) qNil)) qNil))) qNil)))
  (sAsgF 4 (fLst (qNil)))) (sIf (tAnd' (qTest (qVar 2)) (qTest (qOp (gEq false) (qCallL sp_law_pick 0 (qAddD (qCons (qC (.int 3)) qNil) [])) (qC (.int 0))))) (sSeq (sDrop (qMO 3 gAppend (qCons (qTup (qCons (qC (.str "ring")) (qCons (qCB gTuple (qCons (qVar 4) qNil)) qNil))) qNil)))
  (sAsgF 4 (fLst (qNil)))) sNil))))
  (sSeq (sIf (qTest (qOp (gEq true) (qVar 4) (qF (fLst (qNil))))) (sDrop (qMO 3 gAppend (qCons (qTup (qCons (qC (.str "open")) (qCons (qCB gTuple (qCons (qVar 4) qNil)) qNil))) qNil))) sNil)
  (sRet (qCB gTuple (qCons (qVar 3) qNil)))))))
theorem okI_bds (bs : List Bead) : ∀ x ∈ bs.map bdD, okI x := fun x hx => by
  obtain ⟨b, _, rfl⟩ := List.mem_map.mp hx
  exact okI_str _
theorem ne_nil_of {α : Type} {xs : List α} (h : ¬ xs.isEmpty = true) : xs ≠ [] := fun e => h (by rw [e]; rfl)
theorem beads_few (ss : List Strand) (h : ∀ s ∈ ss, s.2 ≠ []) : ss.length ≤ (beadsOf ss).length := by
  induction ss with
  | nil => exact Nat.le_refl _
  | cons s r ih =>
    have h1 := ih fun x hx => h x (List.mem_cons_of_mem _ hx)
    have h2 : 1 ≤ s.2.length := by
      have := h s List.mem_cons_self
      cases q : s.2 with
      | nil => exact absurd q this
      | cons a b => simp
    show r.length + 1 ≤ (s.2 ++ beadsOf r).length
    rw [List.length_append]
    omega
theorem pure_law_set (fl : Option (List D)) (ds : List D) (Q : RV → Option (List D) → Prop) (_ : true = true ↔ fl ≠ none) (h : sp_law_set fl ds Q) : T_law_set (endsOf true Q) (startE true N_law_set fl ds) := by
  obtain ⟨fd, c, ns, rings, rfl, hf, rfl, hc, hl, hn, k⟩ := h
  show T_law_set _ [SV.own true _, SV.dat _, SV.dat _, SV.un, SV.un, SV.un]
  unfold T_law_set
  refine cut_seq (fun env => env = [SV.own true fd, SV.dat c, SV.dat (.bool rings), SV.own false [], SV.un, SV.un]) ?_ fun nx hnx => ?_
  · rintro env rfl
    refine cut_seq (fun env => env = [SV.own true fd, SV.dat c, SV.dat (.bool rings), SV.own false [], SV.own false [], SV.un]) ?_ fun nx hnx => ?_
    · rintro env rfl
      refine cut_seq (fun env => ∃ (ss : List Strand) (piece : List Bead) (fd : List D) (y : SV), ((beadsOf ss ++ piece).map Prod.snd).Perm ns ∧ (∀ s ∈ ss, s.2 ≠ []) ∧ (rings = false → ∀ s ∈ ss, s.1 = false) ∧ FlOk fd ∧ env = [SV.own true fd, SV.dat c, SV.dat (.bool rings), SV.own false (ss.map stD), SV.own false (piece.map bdD), y]) ?_ fun nx hnx => ?_
      · rintro env ⟨ss, piece, fd, y, hp, h1, h2, hf, rfl⟩
        have hlen := hp.length_eq
        rw [List.length_map, List.length_append] at hlen
        have hfew := beads_few ss h1
        refine cut_seq (fun env => ∃ (ss : List Strand) (y1 y2 : SV), ((beadsOf ss).map Prod.snd).Perm ns ∧ (∀ s ∈ ss, s.2 ≠ []) ∧ (rings = false → ∀ s ∈ ss, s.1 = false) ∧ env = [SV.own true fd, SV.dat c, SV.dat (.bool rings), SV.own false (ss.map stD), y1, y2]) ?_ fun nx hnx => ?_
        · rintro env ⟨ss, y1, y2, hp, h1, h2, rfl⟩
          walk_at "wp"
          exact k ss fd hp h1 h2 hf
        · walk_at "wp"
          refine ⟨Nat.zero_le _, ?_⟩
          rw [gNe_nil (okI_bds piece)]
          walk_at "wp"
          split
          · rename_i hne
            refine ⟨sizeL (by decide), by rw [List.length_map, sizeLine_eq]; omega, hnx _ ⟨ss ++ [(false, piece)], _, _, ?_, fun s hs => ?_, fun hr s hs => ?_, by rw [List.map_append]; rfl⟩⟩
            · rw [beadsOf_app]
              have : beadsOf [(false, piece)] = piece := by simp [beadsOf]
              rw [this]
              exact hp
            · rcases List.mem_append.mp hs with e | e
              · exact h1 s e
              · have e : s = (false, piece) := by simpa using e
                subst e
                rintro (rfl : piece = [])
                simp at hne
            · rcases List.mem_append.mp hs with e | e
              · exact h2 hr s e
              · have e : s = (false, piece) := by simpa using e
                subst e
                rfl
          · rename_i hne
            have : piece = [] := by
              cases piece with
              | nil => rfl
              | cons a r => exact absurd rfl hne
            subst this
            rw [List.append_nil] at hp
            exact hnx _ ⟨ss, _, _, hp, h1, h2, rfl⟩
      · walk_at "wp"
        refine ⟨fd, c, ns, rfl, hf, rfl, hc, hl, hn, fun bs fd2 hp hf2 => ?_⟩
        walk_at "wp"
        have hbl := hp.length_eq
        rw [List.length_map] at hbl
        refine pFor_inv (fun i env => ∃ (ss : List Strand) (piece : List Bead) (fd : List D) (y : SV), beadsOf ss ++ piece = bs.take i ∧ (∀ s ∈ ss, s.2 ≠ []) ∧ (rings = false → ∀ s ∈ ss, s.1 = false) ∧ FlOk fd ∧ env = [SV.own true fd, SV.dat c, SV.dat (.bool rings), SV.own false (ss.map stD), SV.own false (piece.map bdD), y]) ⟨[], [], fd2, _, rfl, by simp, by simp, hf2, rfl⟩ ?_ ?_
        · rintro i d hd env ⟨ss, piece, fd, y, hb, h1, h2, hf, rfl⟩ K hK
          rw [List.getElem?_map] at hd
          cases q : bs[i]? with
          | none => rw [q] at hd; cases hd
          | some b =>
            rw [q] at hd
            cases hd
            have hb' : beadsOf ss ++ (piece ++ [b]) = bs.take (i + 1) := by
              rw [← List.append_assoc, hb, List.take_add_one, q]
              rfl
            have hfew := beads_few ss h1
            have hlen := congrArg List.length hb
            rw [List.length_append, List.length_take] at hlen
            have add : ∀ r : Bool, beadsOf (ss ++ [(r, piece ++ [b])]) ++ [] = bs.take (i + 1) := fun r => by
              rw [beadsOf_app, List.append_nil]
              have : beadsOf [(r, piece ++ [b])] = piece ++ [b] := by simp [beadsOf]
              rw [this]
              exact hb'
            have nen : ∀ (r : Bool), ∀ s ∈ ss ++ [(r, piece ++ [b])], s.2 ≠ [] := fun r s hs => by
              rcases List.mem_append.mp hs with e | e
              · exact h1 s e
              · have e : s = (r, piece ++ [b]) := by simpa using e
                subst e
                simp
            have em : piece.map bdD ++ [bdD b] = (piece ++ [b]).map bdD := by rw [List.map_append]; rfl
            have es : ∀ r : Bool, ss.map stD ++ [stD (r, piece ++ [b])] = (ss ++ [(r, piece ++ [b])]).map stD := fun r => by rw [List.map_append]; rfl
            walk_at "wp"
            refine ⟨by rw [List.length_map, sizeLine_eq]; omega, fd, 3, rfl, hf, rfl, by omega, by omega, fun d fd2 g0 g1 hf2 => ?_⟩
            walk_at "wp"
            rw [em]
            split
            · refine ⟨sizeL (by decide), by rw [List.length_map, sizeLine_eq]; omega, Nat.zero_le _, hK _ ⟨ss ++ [(false, piece ++ [b])], [], fd2, SV.dat (bdD b), add false, nen false, fun hr s hs => ?_, hf2, ?_⟩⟩
              · rcases List.mem_append.mp hs with e | e
                · exact h2 hr s e
                · have e : s = (false, piece ++ [b]) := by simpa using e
                  subst e
                  rfl
              · rw [← es]
                rfl
            · split
              · rename_i hr
                refine ⟨fd2, 3, rfl, hf2, rfl, by omega, by omega, fun d fd3 g0 g1 hf3 => ?_⟩
                walk_at "wp"
                split
                · refine ⟨sizeL (by decide), by rw [List.length_map, sizeLine_eq]; omega, Nat.zero_le _, hK _ ⟨ss ++ [(true, piece ++ [b])], [], fd3, SV.dat (bdD b), add true, nen true, fun hr2 => ?_, hf3, ?_⟩⟩
                  · rw [hr] at hr2
                    cases hr2
                  · rw [← es]
                    rfl
                · exact hK _ ⟨ss, piece ++ [b], fd3, _, hb', h1, h2, hf3, rfl⟩
              · exact hK _ ⟨ss, piece ++ [b], fd2, _, hb', h1, h2, hf2, rfl⟩
        · rintro env ⟨ss, piece, fd, y, hb, h1, h2, hf, rfl⟩
          rw [List.length_map, List.take_length] at hb
          exact hnx _ ⟨ss, piece, fd, y, by rw [hb]; exact hp, h1, h2, hf, rfl⟩
    · walk_at "wp"
      exact ⟨Nat.zero_le _, hnx _ rfl⟩
  · walk_at "wp"
    exact ⟨Nat.zero_le _, hnx _ rfl⟩
/-! ### alike -/
def okA : Nat → D → Prop
  | _, .none => True
  | _, .bool _ => True
  | _, .int _ => True
  | _, .str _ => True
  | n + 1, .list xs => xs.length ≤ 100000 ∧ ∀ x ∈ xs, okA n x
  | n + 1, .tuple xs => xs.length ≤ 100000 ∧ ∀ x ∈ xs, okA n x
  | _, _ => False
def spA : Nat → PSp
  | 0 => fun _ _ _ => False
  | n + 1 => fun fl ds Q => fl = none ∧ ∃ d, ds = [d, d] ∧ okA n d ∧ Q (.dt (.bool true)) none
def sp_law_alike : PSp := spA 12
/-! law_alike level 13 -/
abbrev N_law_alike : List Str := ["_law_found", "_law_due", "_law_k"]
def T_law_alike (sp_law_alike : PSp) : PS' := (sSeq (sIf (qTest (qOp (gIsN false) (qVar 1) (qC .none))) (sRet (qOp (gIsN false) (qVar 0) (qC .none))) sNil)
  (sSeq (sIf (tOr' (qTest (qIsi .bool (qVar 1))) (qTest (qIsi .bool (qVar 0)))) (sRet (qAnd (qIsi .bool (qVar 1)) (qAnd (qIsi .bool (qVar 0)) (qOp (gEq false) (qVar 0) (qVar 1))))) sNil)
  (sSeq (sIf (qTest (qIsi .int (qVar 1))) (sRet (qAnd (qIsi .int (qVar 0)) (qOp (gEq false) (qVar 0) (qVar 1)))) sNil)
  (sSeq (sIf (qTest (qIsi .str (qVar 1))) (sRet (qAnd (qIsi .str (qVar 0)) (qOp (gEq false) (qVar 0) (qVar 1)))) sNil)
  (sSeq (sIf (tOr' (qTest (qOp (gEq true) (qIsi .tuple (qVar 1)) (qIsi .tuple (qVar 0)))) (qTest (qOp (gEq true) (qIsi .list (qVar 1)) (qIsi .list (qVar 0))))) (sRet (qC (.bool false))) sNil)
  (sRet (qAnd (qOp (gEq false) (qCB gLen (qCons (qVar 0) qNil)) (qCB gLen (qCons (qVar 1) qNil))) (qCB gAll (qCons (qF (fLc (iRg1 (qCB gLen (qCons (qVar 1) qNil))) (gN 2) tYes' (qCall sp_law_alike (qAddD (qCons (qOp gIx (qVar 0) (qVar 2)) (qCons (qOp gIx (qVar 1) (qVar 2)) qNil)) [])) [2])) qNil)))))))))
theorem pure_law_alike (n : Nat) (fl : Option (List D)) (ds : List D) (Q : RV → Option (List D) → Prop) (_ : false = true ↔ fl ≠ none) (h : spA (n + 1) fl ds Q) : T_law_alike (spA n) (endsOf false Q) (startE false N_law_alike fl ds) := by
  obtain ⟨rfl, d, rfl, hd, k⟩ := h
  show T_law_alike _ _ [SV.dat d, SV.dat d, SV.un]
  unfold T_law_alike
  have seq : ∀ (c : D) (xs : List D), (∀ i : Int, gIx c (.int i) = atI xs i) → xs.length ≤ 100000 → (∀ x ∈ xs, ∃ m, n = m + 1 ∧ okA m x) →
      pLc (gN 2) tYes' (qCall (spA n) (qAddD (qCons (qOp gIx (qVar 0) (qVar 2)) (qCons (qOp gIx (qVar 1) (qVar 2)) qNil)) [])) [2] (fun ds env' => ∃ d, gAll [PyData.list ds] = some d ∧ Q (RV.dt d) none) (rgD 0 ((xs.length : Int)).toNat) [] [SV.dat c, SV.dat c, SV.un] := fun c xs hg hl hx => by
    refine pLc_inv (fun i acc env => ∃ bs : List Bool, acc = bs.map PyData.bool ∧ (∀ b ∈ bs, b = true) ∧ env = [SV.dat c, SV.dat c, SV.un]) ⟨[], rfl, by simp, rfl⟩ ?_ ?_
    · rintro i d hd acc env ⟨bs, rfl, hb, rfl⟩ K hK
      obtain ⟨hi, rfl⟩ := rgD_get hd
      have hlt : i < xs.length := by omega
      have e : atI xs (0 + (i : Int)) = some xs[i] := by
        rw [Int.zero_add]
        exact atI_nat (List.getElem?_eq_getElem hlt)
      obtain ⟨m, rfl, hm⟩ := hx xs[i] (List.getElem_mem hlt)
      walk_at "wp"
      rw [hg, e]
      walk_at "wp"
      refine ⟨rfl, xs[i], rfl, hm, ?_⟩
      walk_at "wp"
      refine hK _ _ ⟨bs ++ [true], by rw [List.map_append]; rfl, fun b hb' => ?_, rfl⟩
      rcases List.mem_append.mp hb' with e | e
      · exact hb b e
      · simpa using e
    · rintro acc env ⟨bs, rfl, hb, rfl⟩
      walk_at "wp"
      have : bs.all id = true := List.all_eq_true.mpr fun b h => hb b h
      rw [this]
      exact k
  cases d with
  | none => walk_at "wp"; exact k
  | bool b => walk_at "wp"; rw [beq_self_eq_true]; exact k
  | int i => walk_at "wp"; rw [beq_self_eq_true]; exact k
  | str z => walk_at "wp"; rw [beq_self_eq_true]; exact k
  | list xs =>
    have h' : xs.length ≤ 100000 ∧ ∀ x ∈ xs, ∃ m, n = m + 1 ∧ okA m x := by
      cases n with
      | zero => exact hd.elim
      | succ m => exact ⟨hd.1, fun x hx => ⟨m, rfl, hd.2 x hx⟩⟩
    walk_at "wp"
    exact ⟨⟨by omega, by omega⟩, by rw [rgD_len]; omega, seq _ xs (fun _ => rfl) h'.1 h'.2⟩
  | tuple xs =>
    have h' : xs.length ≤ 100000 ∧ ∀ x ∈ xs, ∃ m, n = m + 1 ∧ okA m x := by
      cases n with
      | zero => exact hd.elim
      | succ m => exact ⟨hd.1, fun x hx => ⟨m, rfl, hd.2 x hx⟩⟩
    walk_at "wp"
    exact ⟨⟨by omega, by omega⟩, by rw [rgD_len]; omega, seq _ xs (fun _ => rfl) h'.1 h'.2⟩
  | dict kds => cases n <;> exact hd.elim

end Sw

open PySem PySem.Spec L2 Sw
namespace Sw
/-! ### beads by the program -/
theorem bd_get0 (b : Bead) (h : Nm b.2) : ∃ c, (bdS b).cps.toList[0]? = some c ∧ (c = 45 ↔ b.1 = true) := by
  obtain ⟨t, z⟩ := b
  cases t with
  | true =>
    refine ⟨45, ?_, by simp⟩
    unfold bdS
    rw [if_pos rfl, tl_app, dash_tl]
    rfl
  | false =>
    have hz : z.cps.toList ≠ [] := fun e => by
      have h1 := h.2.1
      rw [len_tl, e] at h1
      simp at h1
    obtain ⟨c, r, e⟩ := List.exists_cons_of_ne_nil hz
    refine ⟨c, ?_, ?_⟩
    · unfold bdS
      rw [if_neg (by simp), e]
      rfl
    · have := h.1 c (by rw [e]; exact List.mem_cons_self)
      constructor
      · intro e; omega
      · intro e; cases e
theorem one_eq (c : Nat) : ((⟨#[c]⟩ : Str) == Str.ofString "-") = decide (c = 45) := by
  by_cases h : c = 45
  · subst h; decide +kernel
  · rw [decide_eq_false h]
    refine beq_eq_false_iff_ne.mpr fun e => h ?_
    have := congrArg (fun z : Str => z.cps.toList) e
    have e : [c] = (Str.ofString "-").cps.toList := this
    rw [dash_tl] at e
    simpa using e
theorem bd_len {b : Bead} (h : Nm b.2) : (bdS b).length ≤ 7 := by
  have := bdS_len b
  have := h.2.2
  omega
theorem cut_dash (z : Str) : cutS (Str.ofString "-" ++ z) (some 1) none = z := by
  refine ext_tl ?_
  unfold cutS
  have e : (Str.ofString "-" ++ z).cps.toList = 45 :: z.cps.toList := by rw [tl_app, dash_tl]; rfl
  have hl : (Str.ofString "-" ++ z).length = z.cps.toList.length + 1 := by rw [len_tl, e, List.length_cons]
  show ((Str.ofString "-" ++ z).cps.toList.drop _).take _ = _
  rw [e, HT.sIx_none, show (some (1 : Int)) = some ((1 : Nat) : Int) from rfl, HT.sIx_nat, hl]
  rw [show min 1 (z.cps.toList.length + 1) = 1 by omega]
  show List.take (z.cps.toList.length + 1 - 1) z.cps.toList = z.cps.toList
  rw [Nat.add_sub_cancel, List.take_length]
/-- the text whose first sign is asked -/
theorem bd_first (b : Bead) (h : Nm b.2) {P : D → Prop} : (∃ d, (if (bdS b).length ≤ sizeLine then Option.map (fun c => PyData.str ⟨#[c]⟩) (bdS b).cps.toList[0]? else none) = some d ∧ ∃ d', gEq false d (.str (Str.ofString "-")) = some d' ∧ P d') ↔ P (.bool b.1) := by
  obtain ⟨c, e, hc⟩ := bd_get0 b h
  have hl : (bdS b).length ≤ sizeLine := sizeL (by have := bd_len h; omega)
  rw [if_pos hl, e]
  simp only [Option.map_some, Option.some.injEq, exists_eq_left']
  rw [gEq_ss, one_eq]
  simp only [Option.some.injEq, exists_eq_left']
  have : decide (c = 45) = b.1 := by
    cases q : b.1 with
    | true => exact decide_eq_true (hc.mpr q)
    | false => exact decide_eq_false fun z => by rw [hc.mp z] at q; cases q
  rw [this]
def sp_name_of : PSp := fun fl ds Q => fl = none ∧ ∃ b : Bead, ds = [bdD b] ∧ Nm b.2 ∧ Q (.dt (.str b.2)) none
def sp_mirrored : PSp := fun fl ds Q => fl = none ∧ ∃ b : Bead, ds = [bdD b] ∧ Nm b.2 ∧ Q (.dt (bdD (mirB b))) none
def sp_law_mirrored : PSp := fun fl ds Q => fl = none ∧ ∃ b : Bead, ds = [bdD b] ∧ Nm b.2 ∧ Q (.dt (bdD (mirB b))) none
/-! name_of level 1 -/
abbrev N_name_of : List Str := ["bead"]
def T_name_of : PS' := (sSeq (sIf (qTest (qOp (gEq false) (qOp gIx (qVar 0) (qC (.int 0))) (qC (.str "-")))) (sRet (qSl (qVar 0) (qPs (qC (.int 1))) qPn)) sNil)
  (sRet (qVar 0)))
/-! mirrored level 1 -/
abbrev N_mirrored : List Str := ["bead"]
def T_mirrored : PS' := (sSeq (sIf (qTest (qOp (gEq false) (qOp gIx (qVar 0) (qC (.int 0))) (qC (.str "-")))) (sRet (qSl (qVar 0) (qPs (qC (.int 1))) qPn)) sNil)
  (sRet (qOp gAdd (qC (.str "-")) (qVar 0))))
/-! law_mirrored level 1 -/
abbrev N_law_mirrored : List Str := ["_law_bead"]
def T_law_mirrored : PS' := (sSeq (sIf (qTest (qOp (gEq false) (qOp gIx (qVar 0) (qC (.int 0))) (qC (.str "-")))) (sRet (qSl (qVar 0) (qPs (qC (.int 1))) qPn)) sNil)
  (sRet (qOp gAdd (qC (.str "-")) (qVar 0))))
theorem pure_name_of (fl : Option (List D)) (ds : List D) (Q : RV → Option (List D) → Prop) (_ : false = true ↔ fl ≠ none) (h : sp_name_of fl ds Q) : T_name_of (endsOf false Q) (startE false N_name_of fl ds) := by
  obtain ⟨rfl, b, rfl, hb, k⟩ := h
  show T_name_of _ [SV.dat (.str (bdS b))]
  unfold T_name_of
  walk_at "wp"
  rw [bd_first b hb]
  walk_at "wp"
  obtain ⟨t, z⟩ := b
  cases t with
  | true =>
    rw [if_pos rfl]
    refine ⟨sizeL (by have := bd_len hb; omega), ?_⟩
    unfold bdS
    rw [if_pos rfl, cut_dash]
    exact k
  | false =>
    rw [if_neg (by simp)]
    exact k
theorem pure_mirrored (fl : Option (List D)) (ds : List D) (Q : RV → Option (List D) → Prop) (_ : false = true ↔ fl ≠ none) (h : sp_mirrored fl ds Q) : T_mirrored (endsOf false Q) (startE false N_mirrored fl ds) := by
  obtain ⟨rfl, b, rfl, hb, k⟩ := h
  show T_mirrored _ [SV.dat (.str (bdS b))]
  unfold T_mirrored
  walk_at "wp"
  rw [bd_first b hb]
  walk_at "wp"
  obtain ⟨t, z⟩ := b
  cases t with
  | true =>
    rw [if_pos rfl]
    refine ⟨sizeL (by have := bd_len hb; omega), ?_⟩
    unfold bdS
    rw [if_pos rfl, cut_dash]
    exact k
  | false =>
    rw [if_neg (by simp)]
    refine ⟨sizeL (by have := bd_len hb; have : (Str.ofString "-").length = 1 := by decide +kernel
                      omega), k⟩
theorem pure_law_mirrored (fl : Option (List D)) (ds : List D) (Q : RV → Option (List D) → Prop) (hl : false = true ↔ fl ≠ none) (h : sp_law_mirrored fl ds Q) : T_law_mirrored (endsOf false Q) (startE false N_law_mirrored fl ds) := pure_mirrored fl ds Q hl h
/-! ### rows of beads -/
def mirR (bs : List Bead) : List Bead := bs.reverse.map mirB
def sp_mirrored_row : PSp := fun fl ds Q => fl = none ∧ ∃ bs : List Bead, (ds = [.tuple (bs.map bdD)] ∨ ds = [.list (bs.map bdD)]) ∧ bs.length ≤ 1000 ∧ (∀ b ∈ bs, Nm b.2) ∧ Q (.dt (.tuple ((mirR bs).map bdD))) none
/-! mirrored_row level 2 -/
abbrev N_mirrored_row : List Str := ["beads", "bead"]
def T_mirrored_row : PS' := (sRet (qCB gTuple (qCons (qF (fLc (iAny (qRevA (qVar 0))) (gN 1) tYes' (qCall sp_mirrored (qAddD (qCons (qVar 1) qNil) [])) [1])) qNil)))
theorem mirB_nm {bs : List Bead} (h : ∀ b ∈ bs, Nm b.2) : ∀ b ∈ mirR bs, Nm b.2 := fun b hb => by
  obtain ⟨c, hc, rfl⟩ := List.mem_map.mp hb
  exact h c (List.mem_reverse.mp hc)
theorem mirR_mirR (bs : List Bead) : mirR (mirR bs) = bs := by
  unfold mirR
  rw [← List.map_reverse, List.reverse_reverse, List.map_map]
  have : mirB ∘ mirB = id := by
    funext ⟨t, z⟩
    simp [mirB]
  rw [this, List.map_id]
theorem mirR_len (bs : List Bead) : (mirR bs).length = bs.length := by simp [mirR]
theorem mirR_snd (bs : List Bead) : (mirR bs).map Prod.snd = (bs.map Prod.snd).reverse := by
  unfold mirR
  rw [List.map_map, List.map_reverse]
  rfl
/-- each item by a call that tells f of it -/
theorem map_comp {G : TG'} {TE : PE'} {vs : List Nat} {Q : List D → List SV → Prop} {α : Type} {xs : List α} {e : α → D} {f : α → D} {env : List SV}
    (hs : ∀ x ∈ xs, ∀ K : D → List SV → Prop, K (f x) env → G (e x) env fun env1 => TE env1 fun o env3 => ∃ y env4, o.fz env3 = some (y, env4) ∧ K y (wipeE env4 vs))
    (hd : Q (xs.map f) env) : pLc G tYes' TE vs Q (xs.map e) [] env := by
  refine pLc_inv (fun i acc env' => acc = (xs.take i).map f ∧ env' = env) ⟨rfl, rfl⟩ ?_ ?_
  · rintro i d hdd acc env' ⟨rfl, rfl⟩ K hK
    rw [List.getElem?_map] at hdd
    cases q : xs[i]? with
    | none => rw [q] at hdd; cases hdd
    | some x =>
      rw [q] at hdd
      cases hdd
      have := hs x (List.mem_of_getElem? q) (fun y env4 => K ((xs.take i).map f ++ [y]) env4) (hK _ _ ⟨by rw [List.take_add_one, q, List.map_append]; rfl, rfl⟩)
      simpa [tYes'] using this
  · rintro acc env' ⟨rfl, rfl⟩
    rw [List.length_map, List.take_length]
    exact hd
theorem pure_mirrored_row (fl : Option (List D)) (ds : List D) (Q : RV → Option (List D) → Prop) (_ : false = true ↔ fl ≠ none) (h : sp_mirrored_row fl ds Q) : T_mirrored_row (endsOf false Q) (startE false N_mirrored_row fl ds) := by
  obtain ⟨rfl, bs, hds, hl, hb, k⟩ := h
  have key : ∀ c : D, (∃ d', gRevD c = some d' ∧ itemsOf d' = some (bs.reverse.map bdD)) → T_mirrored_row (endsOf false Q) [SV.dat c, SV.un] := fun c ⟨d', e1, e2⟩ => by
    unfold T_mirrored_row
    walk_at "wp"
    rw [e1]
    walk_at "wp"
    rw [e2]
    walk_at "wp"
    refine ⟨by rw [List.length_map, List.length_reverse]; omega, ?_⟩
    refine map_comp (f := fun b => bdD (mirB b)) (fun b hb' K hK => ?_) ?_
    · walk_at "wp"
      refine ⟨rfl, b, rfl, hb b (List.mem_reverse.mp hb'), ?_⟩
      walk_at "wp"
      exact hK
    · unfold mirR at k
      rw [List.map_map] at k
      exact k
  rcases hds with rfl | rfl
  · exact key _ ⟨_, rfl, by rw [List.map_reverse]; rfl⟩
  · exact key _ ⟨_, rfl, by rw [List.map_reverse]; rfl⟩
def turnS (s : Strand) : Strand := (s.1, mirR s.2)
def sp_turned_about : PSp := fun fl ds Q => fl = none ∧ ∃ s : Strand, ds = [stD s] ∧ s.2.length ≤ 1000 ∧ (∀ b ∈ s.2, Nm b.2) ∧ Q (.dt (stD (turnS s))) none
/-! turned_about level 3 -/
abbrev N_turned_about : List Str := ["strand", "kind", "beads"]
def T_turned_about : PS' := (sSeq (sAsgG (qVar 0) (gT 2 (gsC (gN 1) (gsC (gN 2) gsN))))
  (sRet (qTup (qCons (qVar 1) (qCons (qCall sp_mirrored_row (qAddD (qCons (qVar 2) qNil) [])) qNil)))))
theorem pure_turned_about (fl : Option (List D)) (ds : List D) (Q : RV → Option (List D) → Prop) (_ : false = true ↔ fl ≠ none) (h : sp_turned_about fl ds Q) : T_turned_about (endsOf false Q) (startE false N_turned_about fl ds) := by
  obtain ⟨rfl, s, rfl, hl, hb, k⟩ := h
  show T_turned_about _ [SV.dat (stD s), SV.un, SV.un]
  unfold T_turned_about stD
  walk_at "wp"
  refine ⟨rfl, s.2, .inl rfl, hl, hb, ?_⟩
  walk_at "wp"
  exact ⟨sizeL (by decide), k⟩
/-! ### the beads in a thing -/
inductive IsThing : D → List Bead → Prop
  | set (ss : List Strand) : IsThing (.tuple (ss.map stD)) (beadsOf ss)
  | setL (ss : List Strand) : IsThing (.list (ss.map stD)) (beadsOf ss)
  | line (bs : List Bead) : IsThing (.tuple (bs.map bdD)) bs
  | lineL (bs : List Bead) : IsThing (.list (bs.map bdD)) bs
def sp_beads_in : PSp := fun fl ds Q => fl = none ∧ ∃ c bs, ds = [c] ∧ IsThing c bs ∧ bs.length ≤ 1000 ∧ Q (.fr (bs.map bdD)) none
/-! beads_in level 1 fresh -/
abbrev N_beads_in : List Str := ["thing", "found", "each"]
def T_beads_in : PS' := (sSeq (sAsgF 1 (fLst (qNil)))
  (sSeq (sFor (iAny (qVar 0)) (gN 2) (sIf (qTest (qIsi .tuple (qVar 2))) (sDrop (qMO 1 gExtend (qCons (qOp gIx (qVar 2) (qC (.int 1))) qNil))) (sDrop (qMO 1 gAppend (qCons (qVar 2) qNil)))))
  (sRetS 1)))
theorem pure_beads_in (fl : Option (List D)) (ds : List D) (Q : RV → Option (List D) → Prop) (_ : false = true ↔ fl ≠ none) (h : sp_beads_in fl ds Q) : T_beads_in (endsOf false Q) (startE false N_beads_in fl ds) := by
  obtain ⟨rfl, c, bs, rfl, hc, hl, k⟩ := h
  show T_beads_in _ [SV.dat c, SV.un, SV.un]
  unfold T_beads_in
  have hset : ∀ (Dp : PEnds) (ss : List Strand), (∀ y, Dp.nx [SV.dat c, SV.own false (bs.map bdD), y]) → bs = beadsOf ss → pFor (gN 2) (sIf (qTest (qIsi .tuple (qVar 2))) (sDrop (qMO 1 gExtend (qCons (qOp gIx (qVar 2) (qC (.int 1))) qNil))) (sDrop (qMO 1 gAppend (qCons (qVar 2) qNil)))) Dp (ss.map stD) [SV.dat c, SV.own false [], SV.un] := fun Dp ss hk hbs => by
    subst hbs
    refine pFor_inv (fun i env => ∃ y, env = [SV.dat c, SV.own false ((beadsOf (ss.take i)).map bdD), y]) ⟨_, rfl⟩ ?_ ?_
    · rintro i d hd env ⟨y, rfl⟩ K hK
      rw [List.getElem?_map] at hd
      cases q : ss[i]? with
      | none => rw [q] at hd; cases hd
      | some s =>
        rw [q] at hd
        cases hd
        have e : beadsOf (ss.take (i + 1)) = beadsOf (ss.take i) ++ s.2 := by
          rw [List.take_add_one, q, beadsOf_app]
          simp [beadsOf]
        have hle : (beadsOf (ss.take i)).length + s.2.length ≤ (beadsOf ss).length := by
          have e2 : beadsOf ss = beadsOf (ss.take (i + 1)) ++ beadsOf (ss.drop (i + 1)) := by rw [← beadsOf_app, List.take_append_drop]
          rw [e2, e, List.length_append, List.length_append]
          omega
        unfold stD
        walk_at "wp"
        refine ⟨by rw [List.length_map, List.length_map, sizeLine_eq]; omega, hK _ ⟨SV.dat (stD s), ?_⟩⟩
        rw [e, List.map_append]
        rfl
    · rintro env ⟨y, rfl⟩
      rw [List.length_map, List.take_length]
      exact hk y
  have hline : ∀ (Dp : PEnds), (∀ y, Dp.nx [SV.dat c, SV.own false (bs.map bdD), y]) → pFor (gN 2) (sIf (qTest (qIsi .tuple (qVar 2))) (sDrop (qMO 1 gExtend (qCons (qOp gIx (qVar 2) (qC (.int 1))) qNil))) (sDrop (qMO 1 gAppend (qCons (qVar 2) qNil)))) Dp (bs.map bdD) [SV.dat c, SV.own false [], SV.un] := fun Dp hk => by
    refine pFor_inv (fun i env => ∃ y, env = [SV.dat c, SV.own false ((bs.take i).map bdD), y]) ⟨_, rfl⟩ ?_ ?_
    · rintro i d hd env ⟨y, rfl⟩ K hK
      rw [List.getElem?_map] at hd
      cases q : bs[i]? with
      | none => rw [q] at hd; cases hd
      | some b =>
        rw [q] at hd
        cases hd
        unfold bdD
        walk_at "wp"
        refine ⟨by rw [List.length_map, List.length_take, sizeLine_eq]; omega, hK _ ⟨SV.dat (bdD b), ?_⟩⟩
        rw [List.take_add_one, q, List.map_append]
        rfl
    · rintro env ⟨y, rfl⟩
      rw [List.length_map, List.take_length]
      exact hk y
  cases hc with
  | set ss =>
    walk_at "wp"
    exact ⟨Nat.zero_le _, hset _ ss (fun y => by walk_at "wp"; exact k) rfl⟩
  | setL ss =>
    walk_at "wp"
    exact ⟨Nat.zero_le _, hset _ ss (fun y => by walk_at "wp"; exact k) rfl⟩
  | line =>
    walk_at "wp"
    exact ⟨Nat.zero_le _, hline _ (fun y => by walk_at "wp"; exact k)⟩
  | lineL =>
    walk_at "wp"
    exact ⟨Nat.zero_le _, hline _ (fun y => by walk_at "wp"; exact k)⟩
def sp_names_in : PSp := fun fl ds Q => fl = none ∧ ∃ c bs, ds = [c] ∧ IsThing c bs ∧ bs.length ≤ 60 ∧ (∀ b ∈ bs, Nm b.2) ∧ Q (.fr ((sortS (bs.map Prod.snd)).map PyData.str)) none
/-! names_in level 2 fresh -/
abbrev N_names_in : List Str := ["thing", "bead"]
def T_names_in : PS' := (sRetF (fCB gSortD (qCons (qF (fLc (iAny (qCall sp_beads_in (qAddD (qCons (qVar 0) qNil) []))) (gN 1) tYes' (qCall sp_name_of (qAddD (qCons (qVar 1) qNil) [])) [1])) qNil)))
theorem pure_names_in (fl : Option (List D)) (ds : List D) (Q : RV → Option (List D) → Prop) (_ : false = true ↔ fl ≠ none) (h : sp_names_in fl ds Q) : T_names_in (endsOf false Q) (startE false N_names_in fl ds) := by
  obtain ⟨rfl, c, bs, rfl, hc, hl, hb, k⟩ := h
  show T_names_in _ [SV.dat c, SV.un]
  unfold T_names_in
  walk_at "wp"
  refine ⟨rfl, c, bs, rfl, hc, by omega, ?_⟩
  walk_at "wp"
  refine ⟨by rw [List.length_map]; omega, ?_⟩
  refine map_comp (f := fun b => PyData.str b.2) (fun b hb' K hK => ?_) ?_
  · walk_at "wp"
    refine ⟨rfl, b, rfl, hb b hb', ?_⟩
    walk_at "wp"
    exact hK
  · have : bs.map (fun b => PyData.str b.2) = (bs.map Prod.snd).map PyData.str := by rw [List.map_map]; rfl
    rw [this]
    walk_at "wp"
    exact k

end Sw

open PySem PySem.Spec L2 Sw
namespace Sw
/-! ### common lemmas -/
theorem okA_str (n : Nat) (z : Str) : okA n (.str z) := by cases n <;> trivial
theorem okA_bds (n : Nat) {bs : List Bead} (h : bs.length ≤ 100000) : okA (n + 1) (.tuple (bs.map bdD)) :=
  ⟨by rw [List.length_map]; exact h, fun x hx => by
    obtain ⟨b, _, rfl⟩ := List.mem_map.mp hx
    exact okA_str _ _⟩
theorem okA_st (n : Nat) {s : Strand} (h : s.2.length ≤ 100000) : okA (n + 2) (stD s) :=
  ⟨by simp, fun x hx => by
    rcases List.mem_cons.mp hx with rfl | hx
    · exact okA_str _ _
    · rcases List.mem_cons.mp hx with rfl | hx
      · exact okA_bds n h
      · cases hx⟩
theorem okA_strs (n : Nat) {ys : List Str} (h : ys.length ≤ 100000) : okA (n + 1) (.list (ys.map PyData.str)) :=
  ⟨by rw [List.length_map]; exact h, fun x hx => by
    obtain ⟨b, _, rfl⟩ := List.mem_map.mp hx
    exact okA_str _ _⟩
theorem mirB_mirB (b : Bead) : mirB (mirB b) = b := by
  obtain ⟨t, z⟩ := b
  simp [mirB]
theorem sortS_len (ys : List Str) : (sortS ys).length = ys.length := (sortS_perm ys).length_eq
/-- a comprehension of truths, all of them True -/
theorem all_comp {G : TG'} {TE : PE'} {vs : List Nat} {Q : D → List SV → Prop} {α : Type} {xs : List α} {e : α → D} {env : List SV}
    (hs : ∀ x ∈ xs, ∀ K : D → List SV → Prop, K (.bool true) env → G (e x) env fun env1 => TE env1 fun o env3 => ∃ y env4, o.fz env3 = some (y, env4) ∧ K y (wipeE env4 vs))
    (hd : Q (.bool true) env) : pLc G tYes' TE vs (fun ds env' => ∃ d, gAll [PyData.list ds] = some d ∧ Q d env') (xs.map e) [] env := by
  refine map_comp (f := fun _ => .bool true) hs ?_
  have : xs.map (fun _ => PyData.bool true) = (xs.map fun _ => true).map PyData.bool := by rw [List.map_map]; rfl
  rw [this, gAll_b]
  refine ⟨_, rfl, ?_⟩
  have : (xs.map fun _ => true).all id = true := by simp
  rw [this]
  exact hd
theorem bead_nm {bs : List Bead} {ns : List Str} (hp : (bs.map Prod.snd).Perm ns) (hn : ∀ z ∈ ns, Nm z) : ∀ b ∈ bs, Nm b.2 := fun b hb => hn _ (hp.mem_iff.mp (List.mem_map_of_mem hb))
theorem mem_beadsOf {ss : List Strand} {s : Strand} (h : s ∈ ss) {b : Bead} (hb : b ∈ s.2) : b ∈ beadsOf ss := List.mem_flatMap.mpr ⟨s, h, hb⟩
theorem len_beadsOf {ss : List Strand} {s : Strand} (h : s ∈ ss) : s.2.length ≤ (beadsOf ss).length := by
  obtain ⟨a, b, rfl⟩ := List.append_of_mem h
  rw [beadsOf_app, List.length_append]
  show _ ≤ _ + (s.2 ++ beadsOf b).length
  rw [List.length_append]
  omega
theorem flOk0 (ns : List Int) : FlOk (flow0 ns) := ⟨ns, 0, 0, 1, 0, rfl, by omega, by omega, by omega, by omega, by omega⟩

end Sw

open PySem PySem.Spec L2 Sw
namespace Sw
/-! ### ends, joints -/
def endD (z : Str) (s : Int) : D := .tuple [.str z, .int s]
def lE (b : Bead) : D := endD b.2 (if b.1 = true then 1 else 0)
def rE (b : Bead) : D := endD b.2 (if b.1 = true then 0 else 1)
/-- what is an end -/
def IsE (d : D) : Prop := ∃ z s, d = endD z s
theorem isE_l (b : Bead) : IsE (lE b) := ⟨_, _, rfl⟩
theorem isE_r (b : Bead) : IsE (rE b) := ⟨_, _, rfl⟩
theorem alike_E {x y : D} (h : IsE x) (g : IsE y) : W.alike x y = true := by
  obtain ⟨z, s, rfl⟩ := h
  obtain ⟨w, t, rfl⟩ := g
  rfl
theorem okI_E {x : D} (h : IsE x) : okI x := by
  obtain ⟨z, s, rfl⟩ := h
  exact ⟨rfl, by simp [endD, PyData.depth, PyData.depthAll]⟩
theorem okD_E {x : D} (h : IsE x) : okD x = true := okD_of (okI_E h)
theorem cmpOk_E {x y : D} (h : IsE x) (g : IsE y) : cmpOk x y = true := by
  unfold cmpOk
  rw [okD_E h, okD_E g, alike_E h g]
  obtain ⟨z, s, rfl⟩ := h
  rfl
theorem twoOk_E {x y : D} (h : IsE x) (g : IsE y) : twoOk x y = true := by
  unfold twoOk
  rw [cmpOk_E h g, cmpOk_E g h, cmpOk_E h h, cmpOk_E g g]
  obtain ⟨z, s, rfl⟩ := h
  obtain ⟨w, t, rfl⟩ := g
  rfl
/-- the joint of two ends -/
def jt (x y : D) : D := .tuple (srtD [x, y])
theorem alikeE {xs : List D} (h : ∀ x ∈ xs, IsE x) : W.AllAlike xs := fun x hx y hy => alike_E (h x hx) (h y hy)
theorem jt_comm {x y : D} (h : IsE x) (g : IsE y) : jt x y = jt y x := by
  unfold jt
  rw [srtD_congr (xs := [y, x]) (ys := [x, y]) (alikeE fun z hz => ?_) (List.Perm.swap _ _ _)]
  rcases List.mem_cons.mp hz with rfl | hz
  · exact g
  · rw [List.mem_singleton.mp hz]; exact h
def sp_left_end : PSp := fun fl ds Q => fl = none ∧ ∃ b : Bead, ds = [bdD b] ∧ Nm b.2 ∧ Q (.dt (lE b)) none
def sp_right_end : PSp := fun fl ds Q => fl = none ∧ ∃ b : Bead, ds = [bdD b] ∧ Nm b.2 ∧ Q (.dt (rE b)) none
def sp_joint_of : PSp := fun fl ds Q => fl = none ∧ ∃ x y, ds = [x, y] ∧ IsE x ∧ IsE y ∧ Q (.dt (jt x y)) none
/-! left_end level 2 -/
abbrev N_left_end : List Str := ["bead"]
def T_left_end : PS' := (sRet (qTup (qCons (qCall sp_name_of (qAddD (qCons (qVar 0) qNil) [])) (qCons (qCB gInt1 (qCons (qOp (gEq false) (qOp gIx (qVar 0) (qC (.int 0))) (qC (.str "-"))) qNil)) qNil))))
/-! right_end level 2 -/
abbrev N_right_end : List Str := ["bead"]
def T_right_end : PS' := (sRet (qTup (qCons (qCall sp_name_of (qAddD (qCons (qVar 0) qNil) [])) (qCons (qOp (gI dSub) (qC (.int 1)) (qCB gInt1 (qCons (qOp (gEq false) (qOp gIx (qVar 0) (qC (.int 0))) (qC (.str "-"))) qNil))) qNil))))
/-! joint_of level 1 -/
abbrev N_joint_of : List Str := ["one", "other"]
def T_joint_of : PS' := (sRet (qTup (qCons (qCB gMin (qCons (qVar 0) (qCons (qVar 1) qNil))) (qCons (qCB gMax (qCons (qVar 0) (qCons (qVar 1) qNil))) qNil))))
theorem gInt1_b {b : Bool} : gInt1 [.bool b] = some (.int (if b = true then 1 else 0)) := by cases b <;> rfl
theorem pure_left_end (fl : Option (List D)) (ds : List D) (Q : RV → Option (List D) → Prop) (_ : false = true ↔ fl ≠ none) (h : sp_left_end fl ds Q) : T_left_end (endsOf false Q) (startE false N_left_end fl ds) := by
  obtain ⟨rfl, b, rfl, hb, k⟩ := h
  show T_left_end _ [SV.dat (.str (bdS b))]
  unfold T_left_end
  walk_at "wp"
  refine ⟨rfl, b, rfl, hb, ?_⟩
  walk_at "wp"
  rw [bd_first b hb, gInt1_b]
  walk_at "wp"
  exact ⟨sizeL (by decide), k⟩
theorem pure_right_end (fl : Option (List D)) (ds : List D) (Q : RV → Option (List D) → Prop) (_ : false = true ↔ fl ≠ none) (h : sp_right_end fl ds Q) : T_right_end (endsOf false Q) (startE false N_right_end fl ds) := by
  obtain ⟨rfl, b, rfl, hb, k⟩ := h
  show T_right_end _ [SV.dat (.str (bdS b))]
  unfold T_right_end
  walk_at "wp"
  refine ⟨rfl, b, rfl, hb, ?_⟩
  walk_at "wp"
  rw [bd_first b hb, gInt1_b]
  walk_at "wp"
  refine ⟨sizeL (by decide), ?_⟩
  have e : (1 : Int) - (if b.1 = true then 1 else 0) = if b.1 = true then 0 else 1 := by
    cases b.1 <;> rfl
  rw [e]
  exact k
theorem gMin_2 {a b : D} : gMin [a, b] = if twoOk a b = true then some (if W.dataLt b a = true then b else a) else none := rfl
theorem gMax_2 {a b : D} : gMax [a, b] = if twoOk a b = true then some (if W.dataLt a b = true then b else a) else none := rfl
theorem pure_joint_of (fl : Option (List D)) (ds : List D) (Q : RV → Option (List D) → Prop) (_ : false = true ↔ fl ≠ none) (h : sp_joint_of fl ds Q) : T_joint_of (endsOf false Q) (startE false N_joint_of fl ds) := by
  obtain ⟨rfl, x, y, rfl, hx, hy, k⟩ := h
  show T_joint_of _ [SV.dat x, SV.dat y]
  unfold T_joint_of
  walk_at "wp"
  rw [gMin_2, gMax_2, if_pos (twoOk_E hx hy), if_pos (twoOk_E hx hy)]
  walk_at "wp"
  refine ⟨sizeL (by decide), ?_⟩
  unfold jt at k
  rw [srtD_two] at k
  by_cases c : W.dataLt y x = true
  · rw [if_pos c] at k ⊢
    have c2 : ¬ W.dataLt x y = true := fun z => by
      have := leD_total.total x y
      unfold leD at this
      rw [c, z] at this
      simp at this
    rw [if_neg c2]
    exact k
  · rw [if_neg c] at k ⊢
    by_cases c2 : W.dataLt x y = true
    · rw [if_pos c2]
      exact k
    · rw [if_neg c2]
      have e : x = y := leD_anti (alike_E hx hy) (by unfold leD; simpa using c) (by unfold leD; simpa using c2)
      subst e
      exact k
/-! ### the joints of strands -/
def b0 : Bead := (false, Str.ofString "")
def firstB (bs : List Bead) : Bead := bs.headD b0
def lastB (bs : List Bead) : Bead := bs.getLastD b0
def adjJ (bs : List Bead) : List D := List.zipWith (fun a b => jt (rE a) (lE b)) bs bs.tail
def closeJ (s : Strand) : List D := if s.1 = true then [jt (rE (lastB s.2)) (lE (firstB s.2))] else [.tuple [lE (firstB s.2)], .tuple [rE (lastB s.2)]]
def strJ (s : Strand) : List D := adjJ s.2 ++ closeJ s
def jts (ss : List Strand) : List D := ss.flatMap strJ
theorem adjJ_len (bs : List Bead) : (adjJ bs).length = bs.length - 1 := by
  unfold adjJ
  rw [List.length_zipWith, List.length_tail]
  omega
theorem adjJ_get {bs : List Bead} {k : Nat} (h : k + 1 < bs.length) : (adjJ bs)[k]? = some (jt (rE bs[k]) (lE bs[k + 1])) := by
  unfold adjJ
  rw [List.getElem?_zipWith, List.getElem?_tail, List.getElem?_eq_getElem (by omega : k < bs.length), List.getElem?_eq_getElem h]
theorem closeJ_len (s : Strand) : (closeJ s).length ≤ 2 := by
  unfold closeJ
  split <;> simp
theorem jts_len (ss : List Strand) (h : ∀ s ∈ ss, s.2 ≠ []) : (jts ss).length ≤ 2 * (beadsOf ss).length := by
  induction ss with
  | nil => exact Nat.le_refl _
  | cons s r ih =>
    have h1 := ih fun x hx => h x (List.mem_cons_of_mem _ hx)
    have h2 : 1 ≤ s.2.length := by
      have := h s List.mem_cons_self
      cases q : s.2 with
      | nil => exact absurd q this
      | cons a b => simp
    have h3 := closeJ_len s
    show (strJ s ++ jts r).length ≤ 2 * (s.2 ++ beadsOf r).length
    unfold strJ
    rw [List.length_append, List.length_append, List.length_append, adjJ_len]
    omega
theorem ring_iff (b : Bool) : ((if b = true then Str.ofString "ring" else Str.ofString "open") = Str.ofString "ring") ↔ b = true := by
  cases b with
  | true => simp
  | false => simp; decide +kernel
theorem last_ix {bs : List Bead} (h : bs ≠ []) : atI (bs.map bdD) (-1) = some (bdD (lastB bs)) := by
  refine atI_neg1 ?_
  rw [List.getLast?_map]
  unfold lastB
  rw [List.getLast?_eq_some_getLast h, List.getLastD_eq_getLast?, List.getLast?_eq_some_getLast h]
  rfl
theorem first_ix {bs : List Bead} (h : bs ≠ []) : (bs.map bdD)[0]? = some (bdD (firstB bs)) := by
  cases bs with
  | nil => exact absurd rfl h
  | cons a r => rfl
theorem first_mem {bs : List Bead} (h : bs ≠ []) : firstB bs ∈ bs := by
  cases bs with
  | nil => exact absurd rfl h
  | cons a r => exact List.mem_cons_self
theorem last_mem {bs : List Bead} (h : bs ≠ []) : lastB bs ∈ bs := by
  unfold lastB
  rw [List.getLastD_eq_getLast?, List.getLast?_eq_some_getLast h]
  exact List.getLast_mem h
/-- what is a joint, as it stands in a set's joints -/
def IsJ (d : D) : Prop := ∃ es : List D, d = .tuple es ∧ (∀ e ∈ es, IsE e) ∧ es ≠ [] ∧ es.length ≤ 2
theorem isJ_jt {x y : D} (h : IsE x) (g : IsE y) : IsJ (jt x y) := by
  refine ⟨_, rfl, fun e he => ?_, fun z => ?_, ?_⟩
  · rcases List.mem_cons.mp ((srtD_perm _).mem_iff.mp he) with rfl | he
    · exact h
    · rw [List.mem_singleton.mp he]; exact g
  · have := srtD_len [x, y]
    rw [z] at this
    cases this
  · rw [srtD_len]; exact Nat.le_refl _
theorem isJ_one {x : D} (h : IsE x) : IsJ (.tuple [x]) := ⟨_, rfl, fun e he => by rw [List.mem_singleton.mp he]; exact h, by simp, by simp⟩
theorem alikeAll_E : ∀ {xs ys : List D}, (∀ x ∈ xs, IsE x) → (∀ y ∈ ys, IsE y) → W.alikeAll xs ys = true
  | [], _, _, _ => by simp [W.alikeAll]
  | _ :: _, [], _, _ => by simp [W.alikeAll]
  | x :: xs, y :: ys, h, g => by
    simp only [W.alikeAll, Bool.and_eq_true]
    exact ⟨alike_E (h x List.mem_cons_self) (g y List.mem_cons_self), alikeAll_E (fun z hz => h z (List.mem_cons_of_mem _ hz)) fun z hz => g z (List.mem_cons_of_mem _ hz)⟩
theorem alike_J {x y : D} (h : IsJ x) (g : IsJ y) : W.alike x y = true := by
  obtain ⟨a, rfl, ha, _⟩ := h
  obtain ⟨b, rfl, hb, _⟩ := g
  simp only [W.alike]
  exact alikeAll_E ha hb
theorem okD_J {x : D} (h : IsJ x) : okD x = true := by
  obtain ⟨a, rfl, ha, _⟩ := h
  exact (okD_list fun z hz => okI_E (ha z hz)).2
theorem okI_J {x : D} (h : IsJ x) : okI x := by
  obtain ⟨a, rfl, ha, _⟩ := h
  have h1 := okD_plain (okD_list fun z hz => okI_E (ha z hz)).2
  refine ⟨h1, ?_⟩
  have : ∀ xs : List D, (∀ x ∈ xs, IsE x) → PyData.depthAll xs ≤ 2 := by
    intro xs
    induction xs with
    | nil => intro _; exact Nat.zero_le _
    | cons x r ih =>
      intro h
      have h1 := ih fun z hz => h z (List.mem_cons_of_mem _ hz)
      obtain ⟨z, s, rfl⟩ := h x List.mem_cons_self
      simp only [endD, PyData.depthAll, PyData.depth]
      omega
  have := this a ha
  simp only [PyData.depth]
  omega
theorem allAlikeJ {xs : List D} (h : ∀ x ∈ xs, IsJ x) : W.AllAlike xs := fun x hx y hy => alike_J (h x hx) (h y hy)
theorem okSort_of {xs : List D} (h1 : ∀ x ∈ xs, okD x = true) (h2 : W.AllAlike xs) (h3 : ∀ x ∈ xs, tup1 x = true) : okSort xs = true := by
  unfold okSort
  rw [List.all_eq_true.mpr h1, List.all_eq_true.mpr h3, Bool.true_or, Bool.and_true, Bool.true_and]
  exact List.all_eq_true.mpr fun x hx => List.all_eq_true.mpr fun y hy => h2 x hx y hy
theorem okSort_J {xs : List D} (h : ∀ x ∈ xs, IsJ x) : okSort xs = true := okSort_of (fun x hx => okD_J (h x hx)) (allAlikeJ h) fun x hx => by
  obtain ⟨a, rfl, _, ha, _⟩ := h x hx
  cases a with
  | nil => exact absurd rfl ha
  | cons y r => rfl
theorem okSort_E {xs : List D} (h : ∀ x ∈ xs, IsE x) : okSort xs = true := okSort_of (fun x hx => okD_E (h x hx)) (alikeE h) fun x hx => by
  obtain ⟨z, s, rfl⟩ := h x hx
  rfl
theorem adjJ_isJ (bs : List Bead) : ∀ x ∈ adjJ bs, IsJ x := fun x hx => by
  obtain ⟨i, hi⟩ := List.getElem?_of_mem hx
  have hl : i < (adjJ bs).length := (List.getElem?_eq_some_iff.mp hi).1
  rw [adjJ_len] at hl
  rw [adjJ_get (by omega)] at hi
  cases hi
  exact isJ_jt (isE_r _) (isE_l _)
theorem strJ_isJ (s : Strand) : ∀ x ∈ strJ s, IsJ x := fun x hx => by
  unfold strJ at hx
  rcases List.mem_append.mp hx with h | h
  · exact adjJ_isJ _ x h
  · unfold closeJ at h
    split at h
    · rw [List.mem_singleton.mp h]; exact isJ_jt (isE_r _) (isE_l _)
    · rcases List.mem_cons.mp h with rfl | h
      · exact isJ_one (isE_l _)
      · rw [List.mem_singleton.mp h]; exact isJ_one (isE_r _)
theorem jts_isJ (ss : List Strand) : ∀ x ∈ jts ss, IsJ x := fun x hx => by
  obtain ⟨s, _, h⟩ := List.mem_flatMap.mp hx
  exact strJ_isJ s x h
theorem jts_snoc (ss : List Strand) (s : Strand) : jts (ss ++ [s]) = jts ss ++ strJ s := by
  unfold jts
  rw [List.flatMap_append]
  simp
theorem beadsOf_take (ss : List Strand) (i : Nat) : (beadsOf (ss.take i)).length ≤ (beadsOf ss).length := by
  have e2 : beadsOf ss = beadsOf (ss.take i) ++ beadsOf (ss.drop i) := by rw [← beadsOf_app, List.take_append_drop]
  rw [e2, List.length_append]
  omega
theorem gSortD_ok {ds : List D} (h : okSort ds = true) : gSortD [.list ds] = some (srtD ds) := by
  show (if okSort ds = true then some (srtD ds) else none) = _
  rw [if_pos h]
def GoodS (ss : List Strand) : Prop := (∀ s ∈ ss, s.2 ≠ []) ∧ (beadsOf ss).length ≤ 1000 ∧ ∀ b ∈ beadsOf ss, Nm b.2
theorem GoodS.nm {ss : List Strand} (h : GoodS ss) {s : Strand} (hs : s ∈ ss) : ∀ b ∈ s.2, Nm b.2 := fun b hb => h.2.2 b (mem_beadsOf hs hb)
theorem GoodS.len {ss : List Strand} (h : GoodS ss) {s : Strand} (hs : s ∈ ss) : s.2.length ≤ 1000 := by
  have := len_beadsOf hs
  have := h.2.1
  omega
theorem GoodS.pre {ss : List Strand} (h : GoodS ss) (i : Nat) : (jts (ss.take i)).length ≤ 2000 := by
  have h1 := jts_len (ss.take i) fun s hs => h.1 s (List.mem_of_mem_take hs)
  have h2 := beadsOf_take ss i
  have := h.2.1
  omega
def sp_joints_of : PSp := fun fl ds Q => fl = none ∧ ∃ ss, ds = [.tuple (ss.map stD)] ∧ GoodS ss ∧ Q (.dt (.tuple (srtD (jts ss)))) none
/-! joints_of level 3 -/
abbrev N_joints_of : List Str := ["some", "found", "kind", "beads", "k"]
def T_joints_of : PS' := (sSeq (sAsgF 1 (fLst (qNil)))
  (sSeq (sFor (iAny (qVar 0)) (gT 2 (gsC (gN 2) (gsC (gN 3) gsN))) (sSeq (sFor (iRg2 (qC (.int 1)) (qCB gLen (qCons (qVar 3) qNil))) (gN 4) (sDrop (qMO 1 gAppend (qCons (qCall sp_joint_of (qAddD (qCons (qCall sp_right_end (qAddD (qCons (qOp gIx (qVar 3) (qOp (gI dSub) (qVar 4) (qC (.int 1)))) qNil) [])) (qCons (qCall sp_left_end (qAddD (qCons (qOp gIx (qVar 3) (qVar 4)) qNil) [])) qNil)) [])) qNil))))
  (sIf (qTest (qOp (gEq false) (qVar 2) (qC (.str "ring")))) (sDrop (qMO 1 gAppend (qCons (qCall sp_joint_of (qAddD (qCons (qCall sp_right_end (qAddD (qCons (qOp gIx (qVar 3) (qNeg (qC (.int 1)))) qNil) [])) (qCons (qCall sp_left_end (qAddD (qCons (qOp gIx (qVar 3) (qC (.int 0))) qNil) [])) qNil)) [])) qNil))) (sSeq (sDrop (qMO 1 gAppend (qCons (qTup (qCons (qCall sp_left_end (qAddD (qCons (qOp gIx (qVar 3) (qC (.int 0))) qNil) [])) qNil)) qNil)))
  (sDrop (qMO 1 gAppend (qCons (qTup (qCons (qCall sp_right_end (qAddD (qCons (qOp gIx (qVar 3) (qNeg (qC (.int 1)))) qNil) [])) qNil)) qNil)))))))
  (sRet (qCB gTuple (qCons (qF (fCB gSortD (qCons (qVar 1) qNil))) qNil)))))
theorem pure_joints_of (fl : Option (List D)) (ds : List D) (Q : RV → Option (List D) → Prop) (_ : false = true ↔ fl ≠ none) (h : sp_joints_of fl ds Q) : T_joints_of (endsOf false Q) (startE false N_joints_of fl ds) := by
  obtain ⟨rfl, ss, rfl, hg, k⟩ := h
  show T_joints_of _ [SV.dat (.tuple (ss.map stD)), SV.un, SV.un, SV.un, SV.un]
  unfold T_joints_of
  walk_at "wp"
  refine ⟨Nat.zero_le _, ?_⟩
  refine pFor_inv (fun i env => ∃ y2 y3 y4, env = [SV.dat (.tuple (ss.map stD)), SV.own false (jts (ss.take i)), y2, y3, y4]) ⟨_, _, _, rfl⟩ ?_ ?_
  · rintro i d hd env ⟨y2, y3, y4, rfl⟩ K hK
    rw [List.getElem?_map] at hd
    cases q : ss[i]? with
    | none => rw [q] at hd; cases hd
    | some s =>
      rw [q] at hd
      cases hd
      have hs := List.mem_of_getElem? q
      have hne := hg.1 s hs
      have hnm := hg.nm hs
      have hln := hg.len hs
      have hpre := hg.pre i
      have enx : jts (ss.take (i + 1)) = jts (ss.take i) ++ strJ s := by rw [List.take_add_one, q]; exact jts_snoc _ _
      have hpos : 1 ≤ s.2.length := by
        cases q : s.2 with
        | nil => exact absurd q hne
        | cons a b => simp
      simp only [gT, gsC, gsN, gN, stD, ex_tupv, ex_consv, itemsOf_t, seqOf_t, ex_some, List.set_cons_succ, List.set_cons_zero, List.length_cons, List.length_nil, true_and, eq_self, Nat.reduceAdd, bindS, mapS]
      refine ⟨by decide, by decide, ?_⟩
      refine cut_seq (fun env => ∃ y4, env = [SV.dat (.tuple (ss.map stD)), SV.own false (jts (ss.take i) ++ adjJ s.2), SV.dat (.str (if s.1 = true then Str.ofString "ring" else Str.ofString "open")), SV.dat (.tuple (s.2.map bdD)), y4]) ?_ fun nx hnx => ?_
      · rintro env ⟨y4, rfl⟩
        have hf := hnm _ (first_mem hne)
        have hl := hnm _ (last_mem hne)
        have ha := adjJ_len s.2
        have e3 : jts (ss.take i) ++ adjJ s.2 ++ closeJ s = jts (ss.take (i + 1)) := by
          rw [enx]
          unfold strJ
          rw [List.append_assoc]
        walk_at "wp"
        simp only [ring_iff]
        by_cases hr : s.1 = true
        · rw [if_pos hr]
          refine ⟨_, last_ix hne, rfl, _, rfl, hl, ?_⟩
          walk_at "wp"
          refine ⟨_, first_ix hne, rfl, _, rfl, hf, ?_⟩
          walk_at "wp"
          refine ⟨rfl, _, _, rfl, isE_r _, isE_l _, ?_⟩
          walk_at "wp"
          have e4 : jts (ss.take i) ++ adjJ s.2 ++ [jt (rE (lastB s.2)) (lE (firstB s.2))] = jts (ss.take (i + 1)) := by
            rw [← e3]
            unfold closeJ
            rw [if_pos hr]
          rw [e4]
          exact ⟨by rw [List.length_append, sizeLine_eq]; omega, hK _ ⟨_, _, _, rfl⟩⟩
        · rw [if_neg hr]
          refine ⟨_, first_ix hne, rfl, _, rfl, hf, ?_⟩
          walk_at "wp"
          refine ⟨sizeL (by decide), by rw [List.length_append, sizeLine_eq]; omega, _, last_ix hne, rfl, _, rfl, hl, ?_⟩
          walk_at "wp"
          refine ⟨sizeL (by decide), by rw [List.length_append, List.length_append, sizeLine_eq, List.length_singleton]; omega, ?_⟩
          have e4 : jts (ss.take i) ++ adjJ s.2 ++ [PyData.tuple [lE (firstB s.2)]] ++ [PyData.tuple [rE (lastB s.2)]] = jts (ss.take (i + 1)) := by
            rw [← e3]
            unfold closeJ
            rw [if_neg hr, List.append_assoc]
            rfl
          rw [e4]
          exact hK _ ⟨_, _, _, rfl⟩
      · walk_at "wp"
        refine ⟨⟨by decide, by decide, by rw [List.length_map]; omega, by rw [List.length_map]; omega⟩, ?_⟩
        refine pFor_inv (fun k env => ∃ y4, env = [SV.dat (.tuple (ss.map stD)), SV.own false (jts (ss.take i) ++ (adjJ s.2).take k), SV.dat (.str (if s.1 = true then Str.ofString "ring" else Str.ofString "open")), SV.dat (.tuple (s.2.map bdD)), y4]) ⟨_, by rw [List.take_zero, List.append_nil]⟩ ?_ ?_
        · rintro k d hd env ⟨y4, rfl⟩ K hK
          obtain ⟨hi, rfl⟩ := rgD_get hd
          rw [List.length_map] at hi
          have hk : k + 1 < s.2.length := by omega
          have e1 : atI (s.2.map bdD) (1 + (k : Int) - 1) = some (bdD s.2[k]) := by
            rw [show (1 + (k : Int) - 1) = (k : Int) by omega]
            exact atI_nat (by rw [List.getElem?_map, List.getElem?_eq_getElem (by omega : k < s.2.length)]; rfl)
          have e2 : atI (s.2.map bdD) (1 + (k : Int)) = some (bdD s.2[k + 1]) := by
            rw [show (1 + (k : Int)) = ((k + 1 : Nat) : Int) by omega]
            exact atI_nat (by rw [List.getElem?_map, List.getElem?_eq_getElem hk]; rfl)
          walk_at "wp"
          refine ⟨_, e1, rfl, _, rfl, hnm _ (List.getElem_mem _), ?_⟩
          walk_at "wp"
          refine ⟨_, e2, rfl, _, rfl, hnm _ (List.getElem_mem _), ?_⟩
          walk_at "wp"
          refine ⟨rfl, _, _, rfl, isE_r _, isE_l _, ?_⟩
          walk_at "wp"
          refine ⟨by rw [List.length_append, List.length_take, sizeLine_eq]; have := adjJ_len s.2; omega, ?_⟩
          have e4 : jts (ss.take i) ++ (adjJ s.2).take k ++ [jt (rE s.2[k]) (lE s.2[k + 1])] = jts (ss.take i) ++ (adjJ s.2).take (k + 1) := by
            rw [List.take_add_one, adjJ_get hk, ← List.append_assoc]
            rfl
          rw [e4]
          exact hK _ ⟨_, rfl⟩
        · rintro env ⟨y4, rfl⟩
          have e : (adjJ s.2).take (rgD 1 ((↑(s.2.map bdD).length - 1 : Int)).toNat).length = adjJ s.2 := by
            refine List.take_of_length_le ?_
            rw [adjJ_len, rgD_len, List.length_map]
            omega
          rw [e]
          exact hnx _ ⟨y4, rfl⟩
  · rintro env ⟨y2, y3, y4, rfl⟩
    rw [List.length_map, List.take_length]
    walk_at "wp"
    rw [gSortD_ok (okSort_J (jts_isJ ss))]
    walk_at "wp"
    exact k

end Sw

open PySem PySem.Spec L2 Sw
namespace Sw
/-! ### cuts -/
theorem cutD_drop {ds : List D} {n : Nat} (h : n ≤ ds.length) : cutD ds (some (n : Int)) none = ds.drop n := by
  unfold cutD
  rw [HT.sIx_none, HT.sIx_nat, Nat.min_eq_left h]
  refine List.take_of_length_le ?_
  rw [List.length_drop]
  exact Nat.le_refl _
theorem cutD_take {ds : List D} {n : Nat} (h : n ≤ ds.length) : cutD ds none (some (n : Int)) = ds.take n := by
  unfold cutD
  rw [HT.sIx_none, HT.sIx_nat, Nat.min_eq_left h]
  show (ds.drop 0).take (n - 0) = _
  rw [List.drop_zero, Nat.sub_zero]
theorem perm_of_map {α : Type} {f : α → D} {ys : List D} {xs : List α} (h : ys.Perm (xs.map f)) : ∃ zs : List α, ys = zs.map f ∧ zs.Perm xs := by
  have key : ∀ (l m : List D), l.Perm m → ∀ ns : List α, m = ns.map f → ∃ ms : List α, l = ms.map f ∧ ms.Perm ns := by
    intro l m h
    induction h with
    | nil => intro ns e; exact ⟨[], rfl, by cases ns with | nil => exact List.Perm.refl _ | cons => cases e⟩
    | cons x h ih =>
      intro ns e
      cases ns with
      | nil => cases e
      | cons n r =>
        injection e with e1 e2
        obtain ⟨ms, rfl, hp⟩ := ih r e2
        exact ⟨n :: ms, by rw [List.map_cons, e1], hp.cons n⟩
    | swap x y l =>
      intro ns e
      cases ns with
      | nil => cases e
      | cons n r =>
        cases r with
        | nil => injection e with e1 e2; cases e2
        | cons m r =>
          injection e with e1 e2
          injection e2 with e2 e3
          exact ⟨m :: n :: r, by rw [List.map_cons, List.map_cons, e1, e2, e3], List.Perm.swap _ _ _⟩
    | trans h1 h2 ih1 ih2 =>
      intro ns e
      obtain ⟨ms, e1, p1⟩ := ih2 ns e
      obtain ⟨ks, e2, p2⟩ := ih1 ms e1
      exact ⟨ks, e2, p2.trans p1⟩
  exact key _ _ h xs rfl
theorem okI_tuple {xs : List D} {n : Nat} (h : ∀ x ∈ xs, okI x ∧ x.depth ≤ n) (hn : n ≤ 38) : okI (.tuple xs) := by
  refine ⟨okD_plain (okD_list fun x hx => (h x hx).1).2, ?_⟩
  have : ∀ ys : List D, (∀ x ∈ ys, x.depth ≤ n) → PyData.depthAll ys ≤ n := by
    intro ys
    induction ys with
    | nil => intro _; exact Nat.zero_le _
    | cons x r ih =>
      intro h
      have h1 := ih fun z hz => h z (List.mem_cons_of_mem _ hz)
      have h2 := h x List.mem_cons_self
      simp only [PyData.depthAll]
      omega
  have := this xs fun x hx => (h x hx).2
  simp only [PyData.depth]
  omega
theorem dep_str (z : Str) : okI (.str z) ∧ (PyData.str z).depth ≤ 0 := ⟨okI_str z, by simp [PyData.depth]⟩
theorem okI_st (s : Strand) : okI (stD s) := by
  refine okI_tuple (n := 1) (fun x hx => ?_) (by omega)
  rcases List.mem_cons.mp hx with rfl | hx
  · exact ⟨okI_str _, by simp [PyData.depth]⟩
  · rw [List.mem_singleton.mp hx]
    refine ⟨okI_tuple (n := 0) (fun y hy => ?_) (by omega), ?_⟩
    · obtain ⟨b, _, rfl⟩ := List.mem_map.mp hy
      exact dep_str _
    · have : ∀ bs : List Bead, PyData.depthAll (bs.map bdD) = 0 := by
        intro bs
        induction bs with
        | nil => rfl
        | cons b r ih =>
          rw [List.map_cons, PyData.depthAll, ih]
          rfl
      simp only [PyData.depth, this]
      omega
/-! ### the ends of a bead, as the law tells them -/
def sp_law_ends : PSp := fun fl ds Q => fl = none ∧ ∃ b : Bead, ds = [bdD b] ∧ Nm b.2 ∧ Q (.dt (.tuple [lE b, rE b])) none
/-! law_ends level 1 -/
abbrev N_law_ends : List Str := ["_law_bead"]
def T_law_ends : PS' := (sSeq (sIf (qTest (qOp (gEq false) (qOp gIx (qVar 0) (qC (.int 0))) (qC (.str "-")))) (sRet (qTup (qCons (qTup (qCons (qSl (qVar 0) (qPs (qC (.int 1))) qPn) (qCons (qC (.int 1)) qNil))) (qCons (qTup (qCons (qSl (qVar 0) (qPs (qC (.int 1))) qPn) (qCons (qC (.int 0)) qNil))) qNil)))) sNil)
  (sRet (qTup (qCons (qTup (qCons (qVar 0) (qCons (qC (.int 0)) qNil))) (qCons (qTup (qCons (qVar 0) (qCons (qC (.int 1)) qNil))) qNil)))))
theorem pure_law_ends (fl : Option (List D)) (ds : List D) (Q : RV → Option (List D) → Prop) (_ : false = true ↔ fl ≠ none) (h : sp_law_ends fl ds Q) : T_law_ends (endsOf false Q) (startE false N_law_ends fl ds) := by
  obtain ⟨rfl, b, rfl, hb, k⟩ := h
  show T_law_ends _ [SV.dat (.str (bdS b))]
  unfold T_law_ends
  walk_at "wp"
  rw [bd_first b hb]
  walk_at "wp"
  obtain ⟨t, z⟩ := b
  cases t with
  | true =>
    rw [if_pos rfl]
    have h1 : (bdS (true, z)).length ≤ sizeLine := sizeL (by have := bd_len hb; omega)
    refine ⟨h1, ?_⟩
    unfold bdS at h1 ⊢
    rw [if_pos rfl] at h1 ⊢
    rw [cut_dash]
    exact ⟨sizeL (by decide), h1, sizeL (by decide), sizeL (by decide), k⟩
  | false =>
    rw [if_neg (by simp)]
    exact ⟨sizeL (by decide), sizeL (by decide), sizeL (by decide), k⟩
def sp_law_joints : PSp := fun fl ds Q => fl = none ∧ ∃ ss, ds = [.tuple (ss.map stD)] ∧ GoodS ss ∧ Q (.dt (.tuple (srtD (jts ss)))) none
/-! law_joints level 2 -/
abbrev N_law_joints : List Str := ["_law_some", "_law_joints_here", "_law_kind", "_law_beads", "_law_ends_here", "_law_k", "_law_bead"]
def T_law_joints : PS' := (sSeq (sAsgF 1 (fLst (qNil)))
  (sSeq (sFor (iAny (qVar 0)) (gT 2 (gsC (gN 2) (gsC (gN 3) gsN))) (sSeq (sAsg 4 (qF (fLc (iAny (qVar 3)) (gN 6) tYes' (qCall sp_law_ends (qAddD (qCons (qVar 6) qNil) [])) [6])))
  (sSeq (sFor (iRg1 (qOp (gI dSub) (qCB gLen (qCons (qVar 4) qNil)) (qC (.int 1)))) (gN 5) (sDrop (qMO 1 gAppend (qCons (qCB gTuple (qCons (qF (fCB gSortD (qCons (qF (fLst (qCons (qOp gIx (qOp gIx (qVar 4) (qVar 5)) (qC (.int 1))) (qCons (qOp gIx (qOp gIx (qVar 4) (qOp gAdd (qVar 5) (qC (.int 1)))) (qC (.int 0))) qNil)))) qNil))) qNil)) qNil))))
  (sIf (qTest (qOp (gEq false) (qVar 2) (qC (.str "ring")))) (sDrop (qMO 1 gAppend (qCons (qCB gTuple (qCons (qF (fCB gSortD (qCons (qF (fLst (qCons (qOp gIx (qOp gIx (qVar 4) (qNeg (qC (.int 1)))) (qC (.int 1))) (qCons (qOp gIx (qOp gIx (qVar 4) (qC (.int 0))) (qC (.int 0))) qNil)))) qNil))) qNil)) qNil))) (sSeq (sDrop (qMO 1 gAppend (qCons (qTup (qCons (qOp gIx (qOp gIx (qVar 4) (qC (.int 0))) (qC (.int 0))) qNil)) qNil)))
  (sDrop (qMO 1 gAppend (qCons (qTup (qCons (qOp gIx (qOp gIx (qVar 4) (qNeg (qC (.int 1)))) (qC (.int 1))) qNil)) qNil))))))))
  (sRet (qCB gTuple (qCons (qF (fCB gSortD (qCons (qVar 1) qNil))) qNil)))))
def lrD (b : Bead) : D := .tuple [lE b, rE b]
theorem last_lr {bs : List Bead} (h : bs ≠ []) : atI (bs.map lrD) (-1) = some (lrD (lastB bs)) := by
  refine atI_neg1 ?_
  rw [List.getLast?_map]
  unfold lastB
  rw [List.getLast?_eq_some_getLast h, List.getLastD_eq_getLast?, List.getLast?_eq_some_getLast h]
  rfl
theorem first_lr {bs : List Bead} (h : bs ≠ []) : (bs.map lrD)[0]? = some (lrD (firstB bs)) := by
  cases bs with
  | nil => exact absurd rfl h
  | cons a r => rfl
theorem get_lr {bs : List Bead} {k : Nat} (h : k < bs.length) : (bs.map lrD)[k]? = some (lrD bs[k]) := by
  rw [List.getElem?_map, List.getElem?_eq_getElem h]
  rfl
theorem sort_two {x y : D} (h : IsE x) (g : IsE y) : gSortD [.list [x, y]] = some (srtD [x, y]) := gSortD_ok (okSort_E fun z hz => by
  rcases List.mem_cons.mp hz with rfl | hz
  · exact h
  · rw [List.mem_singleton.mp hz]; exact g)
theorem pure_law_joints (fl : Option (List D)) (ds : List D) (Q : RV → Option (List D) → Prop) (_ : false = true ↔ fl ≠ none) (h : sp_law_joints fl ds Q) : T_law_joints (endsOf false Q) (startE false N_law_joints fl ds) := by
  obtain ⟨rfl, ss, rfl, hg, k⟩ := h
  show T_law_joints _ [SV.dat (.tuple (ss.map stD)), SV.un, SV.un, SV.un, SV.un, SV.un, SV.un]
  unfold T_law_joints
  walk_at "wp"
  refine ⟨Nat.zero_le _, ?_⟩
  refine pFor_inv (fun i env => ∃ y2 y3 y4 y5, env = [SV.dat (.tuple (ss.map stD)), SV.own false (jts (ss.take i)), y2, y3, y4, y5, SV.un]) ⟨_, _, _, _, rfl⟩ ?_ ?_
  · rintro i d hd env ⟨y2, y3, y4, y5, rfl⟩ K hK
    rw [List.getElem?_map] at hd
    cases q : ss[i]? with
    | none => rw [q] at hd; cases hd
    | some s =>
      rw [q] at hd
      cases hd
      have hs := List.mem_of_getElem? q
      have hne := hg.1 s hs
      have hnm := hg.nm hs
      have hln := hg.len hs
      have hpre := hg.pre i
      have ha := adjJ_len s.2
      have enx : jts (ss.take (i + 1)) = jts (ss.take i) ++ strJ s := by rw [List.take_add_one, q]; exact jts_snoc _ _
      have hpos : 1 ≤ s.2.length := by
        cases q : s.2 with
        | nil => exact absurd q hne
        | cons a b => simp
      simp only [gT, gsC, gsN, gN, stD, ex_tupv, ex_consv, itemsOf_t, seqOf_t, ex_some, List.set_cons_succ, List.set_cons_zero, List.length_cons, List.length_nil, true_and, eq_self, Nat.reduceAdd, bindS, mapS]
      refine ⟨by decide, by decide, ?_⟩
      refine cut_seq (fun env => ∃ y5, env = [SV.dat (.tuple (ss.map stD)), SV.own false (jts (ss.take i)), SV.dat (.str (if s.1 = true then Str.ofString "ring" else Str.ofString "open")), SV.dat (.tuple (s.2.map bdD)), SV.dat (.list (s.2.map lrD)), y5, SV.un]) ?_ fun nx hnx => ?_
      · rintro env ⟨y5, rfl⟩
        refine cut_seq (fun env => ∃ y5, env = [SV.dat (.tuple (ss.map stD)), SV.own false (jts (ss.take i) ++ adjJ s.2), SV.dat (.str (if s.1 = true then Str.ofString "ring" else Str.ofString "open")), SV.dat (.tuple (s.2.map bdD)), SV.dat (.list (s.2.map lrD)), y5, SV.un]) ?_ fun nx hnx => ?_
        · rintro env ⟨y5, rfl⟩
          have e3 : jts (ss.take i) ++ adjJ s.2 ++ closeJ s = jts (ss.take (i + 1)) := by
            rw [enx]
            unfold strJ
            rw [List.append_assoc]
          walk_at "wp"
          simp only [ring_iff]
          by_cases hr : s.1 = true
          · rw [if_pos hr]
            refine ⟨_, last_lr hne, ?_⟩
            unfold lrD
            walk_at "wp"
            refine ⟨_, first_lr hne, ?_⟩
            unfold lrD
            walk_at "wp"
            rw [sort_two (isE_r _) (isE_l _)]
            walk_at "wp"
            have e4 : jts (ss.take i) ++ adjJ s.2 ++ [jt (rE (lastB s.2)) (lE (firstB s.2))] = jts (ss.take (i + 1)) := by
              rw [← e3]
              unfold closeJ
              rw [if_pos hr]
            unfold jt at e4
            rw [e4]
            exact ⟨sizeL (by decide), by rw [List.length_append, sizeLine_eq]; omega, hK _ ⟨_, _, _, _, rfl⟩⟩
          · rw [if_neg hr]
            refine ⟨_, first_lr hne, ?_⟩
            unfold lrD
            walk_at "wp"
            have e4 : jts (ss.take i) ++ adjJ s.2 ++ [PyData.tuple [lE (firstB s.2)]] ++ [PyData.tuple [rE (lastB s.2)]] = jts (ss.take (i + 1)) := by
              rw [← e3]
              unfold closeJ
              rw [if_neg hr, List.append_assoc]
              rfl
            refine ⟨sizeL (by decide), by rw [List.length_append, sizeLine_eq]; omega, _, last_lr hne, _, rfl, sizeL (by decide), by rw [List.length_append, List.length_append, sizeLine_eq, List.length_singleton]; omega, ?_⟩
            rw [e4]
            exact hK _ ⟨_, _, _, _, rfl⟩
        · walk_at "wp"
          refine ⟨⟨by rw [List.length_map]; omega, by rw [List.length_map]; omega⟩, ?_⟩
          refine pFor_inv (fun k env => ∃ y5, env = [SV.dat (.tuple (ss.map stD)), SV.own false (jts (ss.take i) ++ (adjJ s.2).take k), SV.dat (.str (if s.1 = true then Str.ofString "ring" else Str.ofString "open")), SV.dat (.tuple (s.2.map bdD)), SV.dat (.list (s.2.map lrD)), y5, SV.un]) ⟨_, by rw [List.take_zero, List.append_nil]⟩ ?_ ?_
          · rintro k d hd env ⟨y5, rfl⟩ K hK
            obtain ⟨hi, rfl⟩ := rgD_get hd
            rw [List.length_map] at hi
            have hk : k + 1 < s.2.length := by omega
            have e1 : atI (s.2.map lrD) (0 + (k : Int)) = some (lrD s.2[k]) := by
              rw [Int.zero_add]
              exact atI_nat (get_lr (by omega))
            have e2 : atI (s.2.map lrD) (0 + (k : Int) + 1) = some (lrD s.2[k + 1]) := by
              rw [show (0 + (k : Int) + 1) = ((k + 1 : Nat) : Int) by omega]
              exact atI_nat (get_lr hk)
            walk_at "wp"
            refine ⟨_, e1, _, rfl, _, e2, _, rfl, sizeL (by decide), ?_⟩
            have hso := sort_two (isE_r s.2[k]) (isE_l s.2[k + 1])
            refine ⟨_, hso, ?_⟩
            refine ⟨by rw [List.length_append, List.length_take, sizeLine_eq]; omega, ?_⟩
            have e4 : jts (ss.take i) ++ (adjJ s.2).take k ++ [jt (rE s.2[k]) (lE s.2[k + 1])] = jts (ss.take i) ++ (adjJ s.2).take (k + 1) := by
              rw [List.take_add_one, adjJ_get hk, ← List.append_assoc]
              rfl
            unfold jt at e4
            rw [e4]
            exact hK _ ⟨_, rfl⟩
          · rintro env ⟨y5, rfl⟩
            have e : (adjJ s.2).take (rgD 0 ((↑(s.2.map lrD).length - 1 : Int)).toNat).length = adjJ s.2 := by
              refine List.take_of_length_le ?_
              rw [adjJ_len, rgD_len, List.length_map]
              omega
            rw [e]
            exact hnx _ ⟨y5, rfl⟩
      · walk_at "wp"
        refine ⟨by rw [List.length_map]; omega, ?_⟩
        refine map_comp (f := lrD) (fun b hb K hK => ?_) ?_
        · walk_at "wp"
          refine ⟨rfl, b, rfl, hnm b hb, ?_⟩
          walk_at "wp"
          exact hK
        · walk_at "wp"
          exact hnx _ ⟨_, rfl⟩
  · rintro env ⟨y2, y3, y4, y5, rfl⟩
    rw [List.length_map, List.take_length]
    walk_at "wp"
    rw [gSortD_ok (okSort_J (jts_isJ ss))]
    walk_at "wp"
    exact k

end Sw

open PySem PySem.Spec L2 Sw
namespace Sw
/-! ### the joints of a line -/
def postR : D := endD (Str.ofString "") 1
def postL : D := endD (Str.ofString "") 0
def rights (bs : List Bead) : List D := postR :: bs.map rE
def lefts (bs : List Bead) : List D := bs.map lE ++ [postL]
def rgt (bs : List Bead) (i : Nat) : D := (rights bs).getD i postR
def lft (bs : List Bead) (i : Nat) : D := (lefts bs).getD i postL
def lnJ (bs : List Bead) : List D := List.zipWith jt (rights bs) (lefts bs)
theorem rights_len (bs : List Bead) : (rights bs).length = bs.length + 1 := by simp [rights]
theorem lefts_len (bs : List Bead) : (lefts bs).length = bs.length + 1 := by simp [lefts]
theorem lnJ_len (bs : List Bead) : (lnJ bs).length = bs.length + 1 := by
  unfold lnJ
  rw [List.length_zipWith, rights_len, lefts_len, Nat.min_self]
theorem rights_get {bs : List Bead} {i : Nat} (h : i ≤ bs.length) : (rights bs)[i]? = some (rgt bs i) := by
  unfold rgt
  rw [List.getD_eq_getElem?_getD, List.getElem?_eq_getElem (by rw [rights_len]; omega)]
  rfl
theorem lefts_get {bs : List Bead} {i : Nat} (h : i ≤ bs.length) : (lefts bs)[i]? = some (lft bs i) := by
  unfold lft
  rw [List.getD_eq_getElem?_getD, List.getElem?_eq_getElem (by rw [lefts_len]; omega)]
  rfl
theorem lnJ_get {bs : List Bead} {i : Nat} (h : i ≤ bs.length) : (lnJ bs)[i]? = some (jt (rgt bs i) (lft bs i)) := by
  unfold lnJ
  rw [List.getElem?_zipWith, rights_get h, lefts_get h]
theorem isE_post : IsE postR ∧ IsE postL := ⟨⟨_, _, rfl⟩, ⟨_, _, rfl⟩⟩
theorem isE_rgt (bs : List Bead) : ∀ x ∈ rights bs, IsE x := fun x hx => by
  rcases List.mem_cons.mp hx with rfl | hx
  · exact isE_post.1
  · obtain ⟨b, _, rfl⟩ := List.mem_map.mp hx
    exact isE_r b
theorem isE_lft (bs : List Bead) : ∀ x ∈ lefts bs, IsE x := fun x hx => by
  rcases List.mem_append.mp hx with hx | hx
  · obtain ⟨b, _, rfl⟩ := List.mem_map.mp hx
    exact isE_l b
  · rw [List.mem_singleton.mp hx]; exact isE_post.2
theorem isE_rgt' {bs : List Bead} {i : Nat} (h : i ≤ bs.length) : IsE (rgt bs i) := isE_rgt bs _ (List.mem_of_getElem? (rights_get h))
theorem isE_lft' {bs : List Bead} {i : Nat} (h : i ≤ bs.length) : IsE (lft bs i) := isE_lft bs _ (List.mem_of_getElem? (lefts_get h))
theorem rgt_succ {bs : List Bead} {i : Nat} {b : Bead} (h : bs[i]? = some b) : rgt bs (i + 1) = rE b := by
  unfold rgt rights
  rw [List.getD_eq_getElem?_getD, List.getElem?_cons_succ, List.getElem?_map, h]
  rfl
theorem lft_get {bs : List Bead} {i : Nat} {b : Bead} (h : bs[i]? = some b) : lft bs i = lE b := by
  have hl : i < bs.length := (List.getElem?_eq_some_iff.mp h).1
  unfold lft lefts
  rw [List.getD_eq_getElem?_getD, List.getElem?_append_left (by rw [List.length_map]; exact hl), List.getElem?_map, h]
  rfl
theorem lft_last (bs : List Bead) : lft bs bs.length = postL := by
  unfold lft lefts
  rw [List.getD_eq_getElem?_getD, List.getElem?_append_right (by rw [List.length_map]; exact Nat.le_refl _), List.length_map, Nat.sub_self]
  rfl
theorem lnJ_isJ (bs : List Bead) : ∀ x ∈ lnJ bs, IsJ x := fun x hx => by
  obtain ⟨i, hi⟩ := List.getElem?_of_mem hx
  have hl : i < (lnJ bs).length := (List.getElem?_eq_some_iff.mp hi).1
  rw [lnJ_len] at hl
  have hi' : i ≤ bs.length := by omega
  rw [lnJ_get hi'] at hi
  cases hi
  exact isJ_jt (isE_rgt' hi') (isE_lft' hi')
def sp_line_joints : PSp := fun fl ds Q => fl = none ∧ ∃ bs : List Bead, ds = [.tuple (bs.map bdD)] ∧ bs.length ≤ 1000 ∧ (∀ b ∈ bs, Nm b.2) ∧ Q (.dt (.tuple (srtD (lnJ bs)))) none
/-! line_joints level 3 -/
abbrev N_line_joints : List Str := ["line", "found", "last", "bead"]
def T_line_joints : PS' := (sSeq (sAsgF 1 (fLst (qNil)))
  (sSeq (sAsg 2 (qTup (qCons (qC (.str "")) (qCons (qC (.int 1)) qNil))))
  (sSeq (sFor (iAny (qVar 0)) (gN 3) (sSeq (sDrop (qMO 1 gAppend (qCons (qCall sp_joint_of (qAddD (qCons (qVar 2) (qCons (qCall sp_left_end (qAddD (qCons (qVar 3) qNil) [])) qNil)) [])) qNil)))
  (sAsg 2 (qCall sp_right_end (qAddD (qCons (qVar 3) qNil) [])))))
  (sSeq (sDrop (qMO 1 gAppend (qCons (qCall sp_joint_of (qAddD (qCons (qVar 2) (qCons (qTup (qCons (qC (.str "")) (qCons (qC (.int 0)) qNil))) qNil)) [])) qNil)))
  (sRet (qCB gTuple (qCons (qF (fCB gSortD (qCons (qVar 1) qNil))) qNil)))))))
theorem pure_line_joints (fl : Option (List D)) (ds : List D) (Q : RV → Option (List D) → Prop) (_ : false = true ↔ fl ≠ none) (h : sp_line_joints fl ds Q) : T_line_joints (endsOf false Q) (startE false N_line_joints fl ds) := by
  obtain ⟨rfl, bs, rfl, hl, hn, k⟩ := h
  show T_line_joints _ [SV.dat (.tuple (bs.map bdD)), SV.un, SV.un, SV.un]
  unfold T_line_joints
  walk_at "wp"
  refine ⟨Nat.zero_le _, sizeL (by decide), ?_⟩
  refine pFor_inv (fun i env => ∃ y, env = [SV.dat (.tuple (bs.map bdD)), SV.own false ((lnJ bs).take i), SV.dat (rgt bs i), y]) ⟨_, rfl⟩ ?_ ?_
  · rintro i d hd env ⟨y, rfl⟩ K hK
    rw [List.getElem?_map] at hd
    cases q : bs[i]? with
    | none => rw [q] at hd; cases hd
    | some b =>
      rw [q] at hd
      cases hd
      have hi : i < bs.length := (List.getElem?_eq_some_iff.mp q).1
      have hb := hn b (List.mem_of_getElem? q)
      walk_at "wp"
      refine ⟨rfl, b, rfl, hb, ?_⟩
      walk_at "wp"
      refine ⟨rfl, _, _, rfl, isE_rgt' (by omega), isE_l b, ?_⟩
      walk_at "wp"
      refine ⟨by rw [List.length_take, sizeLine_eq]; have := lnJ_len bs; omega, rfl, b, rfl, hb, ?_⟩
      walk_at "wp"
      have e : (lnJ bs).take i ++ [jt (rgt bs i) (lE b)] = (lnJ bs).take (i + 1) := by
        rw [List.take_add_one, lnJ_get (by omega), lft_get q]
        rfl
      rw [e, ← rgt_succ q]
      exact hK _ ⟨_, rfl⟩
  · rintro env ⟨y, rfl⟩
    rw [List.length_map]
    walk_at "wp"
    refine ⟨sizeL (by decide), rfl, _, postL, rfl, isE_rgt' (Nat.le_refl _), isE_post.2, ?_⟩
    walk_at "wp"
    have e : (lnJ bs).take bs.length ++ [jt (rgt bs bs.length) postL] = lnJ bs := by
      have h1 := lnJ_get (Nat.le_refl bs.length)
      rw [lft_last] at h1
      have h2 : (lnJ bs).take (bs.length + 1) = lnJ bs := List.take_of_length_le (by rw [lnJ_len]; exact Nat.le_refl _)
      rw [List.take_add_one, h1] at h2
      exact h2
    rw [e]
    refine ⟨by rw [List.length_take, sizeLine_eq]; have := lnJ_len bs; omega, ?_⟩
    rw [gSortD_ok (okSort_J (lnJ_isJ bs))]
    walk_at "wp"
    exact k
def sp_law_line_joints : PSp := fun fl ds Q => fl = none ∧ ∃ bs : List Bead, ds = [.tuple (bs.map bdD)] ∧ bs.length ≤ 1000 ∧ (∀ b ∈ bs, Nm b.2) ∧ Q (.dt (.tuple (srtD (lnJ bs)))) none
/-! law_line_joints level 2 -/
abbrev N_law_line_joints : List Str := ["_law_line_here", "_law_ends_here", "_law_rights", "_law_lefts", "_law_bead", "_law_pair", "_law_k"]
def T_law_line_joints : PS' := (sSeq (sAsg 1 (qF (fLc (iAny (qVar 0)) (gN 4) tYes' (qCall sp_law_ends (qAddD (qCons (qVar 4) qNil) [])) [4])))
  (sSeq (sAsg 2 (qOp gAdd (qF (fLst (qCons (qTup (qCons (qC (.str "")) (qCons (qC (.int 1)) qNil))) qNil))) (qF (fLc (iAny (qVar 1)) (gN 5) tYes' (qOp gIx (qVar 5) (qC (.int 1))) [5]))))
  (sSeq (sAsg 3 (qOp gAdd (qF (fLc (iAny (qVar 1)) (gN 5) tYes' (qOp gIx (qVar 5) (qC (.int 0))) [5])) (qF (fLst (qCons (qTup (qCons (qC (.str "")) (qCons (qC (.int 0)) qNil))) qNil)))))
  (sRet (qCB gTuple (qCons (qF (fCB gSortD (qCons (qF (fLc (iRg1 (qCB gLen (qCons (qVar 3) qNil))) (gN 6) tYes' (qCB gTuple (qCons (qF (fCB gSortD (qCons (qF (fLst (qCons (qOp gIx (qVar 2) (qVar 6)) (qCons (qOp gIx (qVar 3) (qVar 6)) qNil)))) qNil))) qNil)) [6])) qNil))) qNil))))))
theorem pure_law_line_joints (fl : Option (List D)) (ds : List D) (Q : RV → Option (List D) → Prop) (_ : false = true ↔ fl ≠ none) (h : sp_law_line_joints fl ds Q) : T_law_line_joints (endsOf false Q) (startE false N_law_line_joints fl ds) := by
  obtain ⟨rfl, bs, rfl, hl, hn, k⟩ := h
  show T_law_line_joints _ [SV.dat (.tuple (bs.map bdD)), SV.un, SV.un, SV.un, SV.un, SV.un, SV.un]
  unfold T_law_line_joints
  walk_at "wp"
  refine ⟨by rw [List.length_map]; omega, ?_⟩
  refine map_comp (f := lrD) (fun b hb K hK => ?_) ?_
  · walk_at "wp"
    refine ⟨rfl, b, rfl, hn b hb, ?_⟩
    walk_at "wp"
    exact hK
  walk_at "wp"
  refine ⟨sizeL (by decide), sizeL (by decide), by rw [List.length_map]; omega, ?_⟩
  refine map_comp (f := rE) (fun b hb K hK => ?_) ?_
  · walk_at "wp"
    exact ⟨_, rfl, hK⟩
  walk_at "wp"
  refine ⟨by rw [List.length_map, sizeLine_eq]; omega, by rw [List.length_map]; omega, ?_⟩
  refine map_comp (f := lE) (fun b hb K hK => ?_) ?_
  · walk_at "wp"
    exact ⟨_, rfl, hK⟩
  walk_at "wp"
  refine ⟨sizeL (by decide), sizeL (by decide), by rw [List.length_map, sizeLine_eq]; omega, ?_⟩
  have el : ∀ n : Nat, ((List.map lE bs ++ [PyData.tuple [PyData.str (Str.ofString ""), PyData.int 0]]).length) = bs.length + 1 := fun _ => lefts_len bs
  rw [el 0]
  refine ⟨⟨by omega, by omega⟩, by rw [rgD_len]; omega, ?_⟩
  refine pLc_inv (fun i acc env => acc = (lnJ bs).take i ∧ env = [SV.dat (.tuple (bs.map bdD)), SV.dat (.list (bs.map lrD)), SV.dat (.list (rights bs)), SV.dat (.list (lefts bs)), SV.un, SV.un, SV.un]) ⟨rfl, rfl⟩ ?_ ?_
  · rintro i d hd acc env ⟨rfl, rfl⟩ K hK
    obtain ⟨hi, rfl⟩ := rgD_get hd
    have hi' : i ≤ bs.length := by omega
    have e1 : atI (rights bs) (0 + (i : Int)) = some (rgt bs i) := by
      rw [Int.zero_add]
      exact atI_nat (rights_get hi')
    have e2 : atI (lefts bs) (0 + (i : Int)) = some (lft bs i) := by
      rw [Int.zero_add]
      exact atI_nat (lefts_get hi')
    walk_at "wp"
    refine ⟨_, e1, _, e2, sizeL (by decide), _, sort_two (isE_rgt' hi') (isE_lft' hi'), ?_⟩
    refine hK _ _ ⟨?_, rfl⟩
    rw [List.take_add_one, lnJ_get hi']
    rfl
  · rintro acc env ⟨rfl, rfl⟩
    have e : (lnJ bs).take (rgD 0 (((bs.length + 1 : Nat) : Int)).toNat).length = lnJ bs := by
      refine List.take_of_length_le ?_
      rw [lnJ_len, rgD_len]
      omega
    rw [e, gSortD_ok (okSort_J (lnJ_isJ bs))]
    exact ⟨_, rfl, k⟩
/-! ### how many -/
def sp_law_many : PSp := fun fl ds Q => ∃ fd most, fl = some fd ∧ FlOk fd ∧ ds = [.int most] ∧ 0 ≤ most ∧ most ≤ 39 ∧ ∀ m fd2, 0 ≤ m → m ≤ 40 → FlOk fd2 → Q (.dt (.int m)) (some fd2)
/-! law_many (lent) level 2 -/
abbrev N_law_many : List Str := ["_law_flow_here", "_law_most"]
def T_law_many : PS' := (sSeq (sIf (qTest (qOp (gEq false) (qCallL sp_law_pick 0 (qAddD (qCons (qC (.int 8)) qNil) [])) (qC (.int 0)))) (sRet (qOp (gI dSub) (qC (.int 40)) (qCallL sp_law_pick 0 (qAddD (qCons (qC (.int 31)) qNil) [])))) sNil)
  (sRet (qCallL sp_law_pick 0 (qAddD (qCons (qOp gAdd (qVar 1) (qC (.int 1))) qNil) []))))
theorem pure_law_many (fl : Option (List D)) (ds : List D) (Q : RV → Option (List D) → Prop) (_ : true = true ↔ fl ≠ none) (h : sp_law_many fl ds Q) : T_law_many (endsOf true Q) (startE true N_law_many fl ds) := by
  obtain ⟨fd, most, rfl, hf, rfl, h1, h2, k⟩ := h
  show T_law_many _ [SV.own true _, SV.dat _]
  unfold T_law_many
  walk_at "wp"
  refine ⟨fd, 8, rfl, hf, rfl, by omega, by omega, fun d fd2 g0 g1 hf2 => ?_⟩
  walk_at "wp"
  split
  · refine ⟨fd2, 31, rfl, hf2, rfl, by omega, by omega, fun d fd3 g0 g1 hf3 => ?_⟩
    walk_at "wp"
    exact k _ _ (by omega) (by omega) hf3
  · refine ⟨fd2, most + 1, rfl, hf2, rfl, by omega, by omega, fun d fd3 g0 g1 hf3 => ?_⟩
    walk_at "wp"
    exact k _ _ (by omega) (by omega) hf3

end Sw

open PySem PySem.Spec L2 Sw
namespace Sw
/-! ### told otherwise -/
inductive All2 {α β : Type} (R : α → β → Prop) : List α → List β → Prop
  | nil : All2 R [] []
  | cons {a : α} {b : β} {as : List α} {bs : List β} : R a b → All2 R as bs → All2 R (a :: as) (b :: bs)
structure Rst (s t : Strand) : Prop where
  kind : t.1 = s.1
  beads : ∃ r, (r = s.2 ∨ (s.1 = true ∧ ∃ n, n ≤ s.2.length ∧ r = s.2.drop n ++ s.2.take n)) ∧ (t.2 = r ∨ t.2 = mirR r)
/-- ts tells the set ss otherwise -/
def Retold (ss ts : List Strand) : Prop := ∃ us, us.Perm ss ∧ All2 Rst us ts
theorem adjJ_cons (a b : Bead) (r : List Bead) : adjJ (a :: b :: r) = jt (rE a) (lE b) :: adjJ (b :: r) := rfl
theorem first_app {A B : List Bead} (h : A ≠ []) : firstB (A ++ B) = firstB A := by
  cases A with
  | nil => exact absurd rfl h
  | cons a r => rfl
theorem last_app {A B : List Bead} (h : B ≠ []) : lastB (A ++ B) = lastB B := by
  unfold lastB
  rw [List.getLastD_eq_getLast?, List.getLastD_eq_getLast?, List.getLast?_append, List.getLast?_eq_some_getLast h]
  rfl
theorem last_cons {a : Bead} {r : List Bead} (h : r ≠ []) : lastB (a :: r) = lastB r := last_app (A := [a]) h
theorem adjJ_app : ∀ {A B : List Bead}, A ≠ [] → B ≠ [] → adjJ (A ++ B) = adjJ A ++ jt (rE (lastB A)) (lE (firstB B)) :: adjJ B
  | [], _, h, _ => absurd rfl h
  | [a], [], _, h => absurd rfl h
  | [a], b :: r, _, _ => rfl
  | a :: b :: r, B, _, h => by
    have ih := adjJ_app (A := b :: r) (B := B) (by simp) h
    show jt (rE a) (lE b) :: adjJ ((b :: r) ++ B) = _
    rw [ih, last_cons (a := a) (r := b :: r) (by simp)]
    rfl
theorem mirR_ne {bs : List Bead} (h : bs ≠ []) : mirR bs ≠ [] := fun e => h (by have := congrArg List.length e; rw [mirR_len] at this; exact List.eq_nil_of_length_eq_zero this)
theorem mirR_cons (a : Bead) (r : List Bead) : mirR (a :: r) = mirR r ++ [mirB a] := by simp [mirR]
theorem last_mir {bs : List Bead} (h : bs ≠ []) : lastB (mirR bs) = mirB (firstB bs) := by
  cases bs with
  | nil => exact absurd rfl h
  | cons a r =>
    rw [mirR_cons, last_app (by simp)]
    rfl
theorem first_mir : ∀ {bs : List Bead}, bs ≠ [] → firstB (mirR bs) = mirB (lastB bs)
  | [], h => absurd rfl h
  | [a], _ => rfl
  | a :: b :: r, _ => by
    rw [mirR_cons, first_app (mirR_ne (by simp)), first_mir (bs := b :: r) (by simp), last_cons (a := a) (r := b :: r) (by simp)]
theorem lE_mir (b : Bead) : lE (mirB b) = rE b := by
  obtain ⟨t, z⟩ := b
  cases t <;> rfl
theorem rE_mir (b : Bead) : rE (mirB b) = lE b := by
  obtain ⟨t, z⟩ := b
  cases t <;> rfl
theorem adjJ_mir : ∀ bs : List Bead, adjJ (mirR bs) = (adjJ bs).reverse
  | [] => rfl
  | [a] => rfl
  | a :: b :: r => by
    have ih := adjJ_mir (b :: r)
    rw [mirR_cons, adjJ_app (mirR_ne (by simp)) (by simp), ih, last_mir (by simp), adjJ_cons, List.reverse_cons]
    show _ ++ jt (rE (mirB b)) (lE (mirB a)) :: [] = _
    rw [rE_mir, lE_mir, jt_comm (isE_l b) (isE_r a)]
theorem strJ_mir {s : Strand} (h : s.2 ≠ []) : (strJ (s.1, mirR s.2)).Perm (strJ s) := by
  unfold strJ
  rw [adjJ_mir]
  refine List.Perm.append (List.reverse_perm _) ?_
  unfold closeJ
  show List.Perm (if s.1 = true then [jt (rE (lastB (mirR s.2))) (lE (firstB (mirR s.2)))] else [.tuple [lE (firstB (mirR s.2))], .tuple [rE (lastB (mirR s.2))]]) _
  rw [last_mir h, first_mir h, rE_mir, lE_mir, jt_comm (isE_l _) (isE_r _)]
  split
  · exact List.Perm.refl _
  · exact List.Perm.swap _ _ _
theorem strJ_rot {A B : List Bead} : (strJ (true, B ++ A)).Perm (strJ (true, A ++ B)) := by
  by_cases ha : A = []
  · subst ha
    rw [List.append_nil, List.nil_append]
  by_cases hb : B = []
  · subst hb
    rw [List.append_nil, List.nil_append]
  show List.Perm (adjJ (B ++ A) ++ [jt (rE (lastB (B ++ A))) (lE (firstB (B ++ A)))]) (adjJ (A ++ B) ++ [jt (rE (lastB (A ++ B))) (lE (firstB (A ++ B)))])
  rw [adjJ_app hb ha, adjJ_app ha hb, last_app ha, last_app hb, first_app ha, first_app hb]
  have e1 : ∀ (x y : D) (P Q : List D), (P ++ x :: Q ++ [y]) = (P ++ [x]) ++ (Q ++ [y]) := fun x y P Q => by simp
  rw [e1, e1]
  exact List.perm_append_comm
theorem Rst.perm {s t : Strand} (h : Rst s t) (hs : s.2 ≠ []) : (strJ t).Perm (strJ s) ∧ (t.2.map Prod.snd).Perm (s.2.map Prod.snd) := by
  obtain ⟨hk, r, hr, ht⟩ := h
  obtain ⟨k, bs⟩ := s
  obtain ⟨k2, cs⟩ := t
  have hk : k2 = k := hk
  subst hk
  have h1 : (strJ (k2, r)).Perm (strJ (k2, bs)) ∧ (r.map Prod.snd).Perm (bs.map Prod.snd) ∧ r ≠ [] := by
    rcases hr with rfl | ⟨hk, n, hn, rfl⟩
    · exact ⟨List.Perm.refl _, List.Perm.refl _, hs⟩
    · have hk : k2 = true := hk
      subst hk
      refine ⟨?_, ?_, fun e => hs ?_⟩
      · have := strJ_rot (A := bs.take n) (B := bs.drop n)
        rw [List.take_append_drop] at this
        exact this
      · refine List.Perm.map _ ?_
        have := List.perm_append_comm (l₁ := bs.drop n) (l₂ := bs.take n)
        rw [List.take_append_drop] at this
        exact this
      · have e : bs.drop n ++ bs.take n = [] := e
        have hn : n ≤ bs.length := hn
        have := congrArg List.length e
        rw [List.length_append, List.length_drop, List.length_take, List.length_nil] at this
        exact List.eq_nil_of_length_eq_zero (show bs.length = 0 by omega)
  have ht : cs = r ∨ cs = mirR r := ht
  rcases ht with rfl | rfl
  · exact ⟨h1.1, h1.2.1⟩
  · refine ⟨(strJ_mir (s := (k2, r)) h1.2.2).trans h1.1, ?_⟩
    show (List.map Prod.snd (mirR r)).Perm _
    rw [mirR_snd]
    exact (List.reverse_perm _).trans h1.2.1
theorem All2.len {α β : Type} {R : α → β → Prop} : ∀ {as : List α} {bs : List β}, All2 R as bs → as.length = bs.length
  | _, _, .nil => rfl
  | _, _, .cons _ r => by rw [List.length_cons, List.length_cons, r.len]
theorem All2.snoc {α β : Type} {R : α → β → Prop} {a : α} {b : β} (h : R a b) : ∀ {as : List α} {bs : List β}, All2 R as bs → All2 R (as ++ [a]) (bs ++ [b])
  | _, _, .nil => .cons h .nil
  | _, _, .cons x r => .cons x (r.snoc h)
theorem retold_all : ∀ {us ts : List Strand}, All2 Rst us ts → (∀ s ∈ us, s.2 ≠ []) → (jts ts).Perm (jts us) ∧ ((beadsOf ts).map Prod.snd).Perm ((beadsOf us).map Prod.snd) ∧ ∀ t ∈ ts, t.2 ≠ []
  | _, _, .nil, _ => ⟨List.Perm.refl _, List.Perm.refl _, fun _ h => nomatch h⟩
  | _, _, .cons (a := s) (b := t) (as := us) (bs := ts) h r, hn => by
    obtain ⟨a1, a2⟩ := h.perm (hn s List.mem_cons_self)
    obtain ⟨b1, b2, b3⟩ := retold_all r fun x hx => hn x (List.mem_cons_of_mem _ hx)
    refine ⟨a1.append b1, ?_, fun x hx => ?_⟩
    · show ((t.2 ++ beadsOf ts).map Prod.snd).Perm ((s.2 ++ beadsOf us).map Prod.snd)
      rw [List.map_append, List.map_append]
      exact a2.append b2
    · rcases List.mem_cons.mp hx with rfl | hx
      · intro e
        have := a2.length_eq
        rw [e, List.length_map, List.length_map] at this
        exact hn s List.mem_cons_self (List.eq_nil_of_length_eq_zero this.symm)
      · exact b3 x hx
theorem retold {ss ts : List Strand} (h : Retold ss ts) (hn : ∀ s ∈ ss, s.2 ≠ []) : (jts ts).Perm (jts ss) ∧ ((beadsOf ts).map Prod.snd).Perm ((beadsOf ss).map Prod.snd) ∧ ∀ t ∈ ts, t.2 ≠ [] := by
  obtain ⟨us, p, h⟩ := h
  obtain ⟨a, b, c⟩ := retold_all h fun s hs => hn s (p.mem_iff.mp hs)
  exact ⟨a.trans (p.flatMap_right _), b.trans ((p.flatMap_right _).map _), c⟩
theorem names_nm {as bs : List Bead} (p : (as.map Prod.snd).Perm (bs.map Prod.snd)) (h : ∀ b ∈ bs, Nm b.2) : ∀ a ∈ as, Nm a.2 := fun a ha => by
  obtain ⟨b, hb, e⟩ := List.mem_map.mp (p.mem_iff.mp (List.mem_map_of_mem ha))
  rw [← e]
  exact h b hb
theorem retold_good {ss ts : List Strand} (h : Retold ss ts) (g : GoodS ss) : GoodS ts := by
  obtain ⟨a, b, c⟩ := retold h g.1
  have hl := b.length_eq
  rw [List.length_map, List.length_map] at hl
  exact ⟨c, by rw [hl]; exact g.2.1, names_nm b g.2.2⟩
def sp_law_restated : PSp := fun fl ds Q => ∃ fd ss, fl = some fd ∧ FlOk fd ∧ ds = [.tuple (ss.map stD)] ∧ GoodS ss ∧ ∀ ts fd2, Retold ss ts → FlOk fd2 → Q (.dt (.tuple (ts.map stD))) (some fd2)
/-! law_restated (lent) level 3 -/
abbrev N_law_restated : List Str := ["_law_flow_here", "_law_some", "_law_told", "_law_kind", "_law_beads", "_law_at", "_law_bead"]
def T_law_restated : PS' := (sSeq (sAsgF 2 (fLst (qNil)))
  (sSeq (sFor (iAny (qCallL sp_law_shuffled 0 (qAddD (qCons (qVar 1) qNil) []))) (gT 2 (gsC (gN 3) (gsC (gN 4) gsN))) (sSeq (sIf (qTest (qOp (gEq false) (qVar 3) (qC (.str "ring")))) (sSeq (sAsg 5 (qCallL sp_law_pick 0 (qAddD (qCons (qCB gLen (qCons (qVar 4) qNil)) qNil) [])))
  (sAsg 4 (qOp gAdd (qSl (qVar 4) (qPs (qVar 5)) qPn) (qSl (qVar 4) qPn (qPs (qVar 5)))))) sNil)
  (sSeq (sIf (qTest (qOp (gEq false) (qCallL sp_law_pick 0 (qAddD (qCons (qC (.int 2)) qNil) [])) (qC (.int 0)))) (sAsg 4 (qCB gTuple (qCons (qF (fLc (iAny (qRevA (qVar 4))) (gN 6) tYes' (qCall sp_law_mirrored (qAddD (qCons (qVar 6) qNil) [])) [6])) qNil))) sNil)
  (sDrop (qMO 2 gAppend (qCons (qTup (qCons (qVar 3) (qCons (qVar 4) qNil))) qNil))))))
  (sRet (qCB gTuple (qCons (qVar 2) qNil)))))
theorem pure_law_restated (fl : Option (List D)) (ds : List D) (Q : RV → Option (List D) → Prop) (_ : true = true ↔ fl ≠ none) (h : sp_law_restated fl ds Q) : T_law_restated (endsOf true Q) (startE true N_law_restated fl ds) := by
  obtain ⟨fd, ss, rfl, hf, rfl, hg, k⟩ := h
  show T_law_restated _ [SV.own true _, SV.dat (.tuple (ss.map stD)), SV.un, SV.un, SV.un, SV.un, SV.un]
  unfold T_law_restated
  have hsl : ss.length ≤ 1000 := Nat.le_trans (beads_few ss hg.1) hg.2.1
  walk_at "wp"
  refine ⟨Nat.zero_le _, fd, _, ss.map stD, rfl, hf, rfl, .inr rfl, by rw [List.length_map]; exact hsl, fun x hx => ?_, fun ys fd2 hp hf2 => ?_⟩
  · obtain ⟨s, _, rfl⟩ := List.mem_map.mp hx
    exact okI_st s
  obtain ⟨us, rfl, hq⟩ := perm_of_map hp
  have hul := hq.length_eq
  walk_at "wp"
  refine pFor_inv (fun i env => ∃ ts fd y3 y4 y5, FlOk fd ∧ All2 Rst (us.take i) ts ∧ env = [SV.own true fd, SV.dat (.tuple (ss.map stD)), SV.own false (ts.map stD), y3, y4, y5, SV.un]) ⟨[], fd2, _, _, _, hf2, .nil, rfl⟩ ?_ ?_
  · rintro i d hd env ⟨ts, fd, y3, y4, y5, hf, hr, rfl⟩ K hK
    rw [List.getElem?_map] at hd
    cases q : us[i]? with
    | none => rw [q] at hd; cases hd
    | some s =>
      rw [q] at hd
      cases hd
      have hs := hq.mem_iff.mp (List.mem_of_getElem? q)
      have hi : i < us.length := (List.getElem?_eq_some_iff.mp q).1
      have hne := hg.1 s hs
      have hnm := hg.nm hs
      have hln := hg.len hs
      have htl := hr.len
      rw [List.length_take] at htl
      have hpos : 1 ≤ s.2.length := by
        cases q : s.2 with
        | nil => exact absurd q hne
        | cons a b => simp
      simp only [gT, gsC, gsN, gN, stD, ex_tupv, ex_consv, itemsOf_t, seqOf_t, ex_some, List.set_cons_succ, List.set_cons_zero, List.length_cons, List.length_nil, true_and, eq_self, Nat.reduceAdd, bindS, mapS]
      refine ⟨by decide, by decide, ?_⟩
      refine cut_seq (fun env => ∃ fd r y5, FlOk fd ∧ (r = s.2 ∨ (s.1 = true ∧ ∃ n, n ≤ s.2.length ∧ r = s.2.drop n ++ s.2.take n)) ∧ env = [SV.own true fd, SV.dat (.tuple (ss.map stD)), SV.own false (ts.map stD), SV.dat (.str (if s.1 = true then Str.ofString "ring" else Str.ofString "open")), SV.dat (.tuple (r.map bdD)), y5, SV.un]) ?_ fun nx hnx => ?_
      · rintro env ⟨fd, r, y5, hf, hr2, rfl⟩
        have hrp : r.Perm s.2 := by
          rcases hr2 with rfl | ⟨_, n, _, rfl⟩
          · exact List.Perm.refl _
          · have := List.perm_append_comm (l₁ := s.2.drop n) (l₂ := s.2.take n)
            rw [List.take_append_drop] at this
            exact this
        have hrl := hrp.length_eq
        refine cut_seq (fun env => ∃ fd t y5, FlOk fd ∧ Rst s t ∧ env = [SV.own true fd, SV.dat (.tuple (ss.map stD)), SV.own false (ts.map stD), SV.dat (.str (if s.1 = true then Str.ofString "ring" else Str.ofString "open")), SV.dat (.tuple (t.2.map bdD)), y5, SV.un]) ?_ fun nx hnx => ?_
        · rintro env ⟨fd, t, y5, hf, hst, rfl⟩
          walk_at "wp"
          have e4 : ts.map stD ++ [PyData.tuple [PyData.str (if s.1 = true then Str.ofString "ring" else Str.ofString "open"), PyData.tuple (t.2.map bdD)]] = (ts ++ [t]).map stD := by
            rw [List.map_append, ← hst.kind]
            rfl
          rw [e4]
          refine ⟨sizeL (by decide), by rw [List.length_map, sizeLine_eq]; omega, hK _ ⟨ts ++ [t], fd, _, _, _, hf, ?_, rfl⟩⟩
          rw [List.take_add_one, q]
          exact hr.snoc hst
        · walk_at "wp"
          refine ⟨fd, 2, rfl, hf, rfl, by omega, by omega, fun d fd2 h0 h1 hf2 => ?_⟩
          walk_at "wp"
          split
          · rename_i hz
            refine ⟨by rw [List.length_reverse, List.length_map]; omega, ?_⟩
            rw [← List.map_reverse]
            refine map_comp (f := fun b => bdD (mirB b)) (fun b hb' K hK => ?_) ?_
            · walk_at "wp"
              refine ⟨rfl, b, rfl, hnm b (hrp.mem_iff.mp (List.mem_reverse.mp hb')), ?_⟩
              walk_at "wp"
              exact hK
            · have e : List.map (fun b => bdD (mirB b)) r.reverse = (mirR r).map bdD := by
                unfold mirR
                rw [List.map_map]
                rfl
              rw [e]
              walk_at "wp"
              exact hnx _ ⟨fd2, (s.1, mirR r), _, hf2, ⟨rfl, r, hr2, .inr rfl⟩, rfl⟩
          · exact hnx _ ⟨fd2, (s.1, r), _, hf2, ⟨rfl, r, hr2, .inl rfl⟩, rfl⟩
      · walk_at "wp"
        simp only [ring_iff]
        by_cases hk : s.1 = true
        · rw [if_pos hk]
          refine ⟨fd, _, rfl, hf, rfl, by rw [List.length_map]; omega, by rw [List.length_map]; omega, fun d fd2 h0 h1 hf2 => ?_⟩
          rw [List.length_map] at h1
          obtain ⟨n, rfl⟩ : ∃ n : Nat, d = n := ⟨d.toNat, by omega⟩
          have hn : n ≤ s.2.length := by omega
          have hn' : n ≤ (s.2.map bdD).length := by rw [List.length_map]; exact hn
          walk_at "wp"
          rw [cutD_drop hn', cutD_take hn', ← List.map_drop, ← List.map_take, ← List.map_append]
          refine ⟨by rw [List.length_map, List.length_map, List.length_drop, List.length_take, sizeLine_eq]; omega, hnx _ ⟨fd2, _, _, hf2, .inr ⟨hk, n, hn, rfl⟩, rfl⟩⟩
        · rw [if_neg hk]
          exact hnx _ ⟨fd, s.2, _, hf, .inl rfl, rfl⟩
  · rintro env ⟨ts, fd, y3, y4, y5, hf, hr, rfl⟩
    rw [List.length_map, List.take_length] at hr
    walk_at "wp"
    exact k ts fd ⟨us, hq, hr⟩ hf

end Sw

open PySem PySem.Spec L2 Sw
namespace Sw
/-! ### rows begun elsewhere, turned about -/
def Rot (c d : List Bead) : Prop := ∃ A B, c = A ++ B ∧ d = B ++ A
theorem Rot.refl (c : List Bead) : Rot c c := ⟨[], c, rfl, by simp⟩
theorem Rot.symm {c d : List Bead} (h : Rot c d) : Rot d c := by
  obtain ⟨A, B, rfl, rfl⟩ := h
  exact ⟨B, A, rfl, rfl⟩
theorem Rot.trans {c d e : List Bead} (h : Rot c d) (g : Rot d e) : Rot c e := by
  obtain ⟨A, B, rfl, rfl⟩ := h
  obtain ⟨C, D, h1, rfl⟩ := g
  rcases List.append_eq_append_iff.mp h1 with ⟨E, rfl, rfl⟩ | ⟨E, rfl, rfl⟩
  · exact ⟨E, D ++ B, by simp, by simp⟩
  · exact ⟨A ++ C, E, by simp, by simp⟩
theorem mirR_app (A B : List Bead) : mirR (A ++ B) = mirR B ++ mirR A := by simp [mirR]
theorem Rot.mir {c d : List Bead} (h : Rot c d) : Rot (mirR c) (mirR d) := by
  obtain ⟨A, B, rfl, rfl⟩ := h
  exact ⟨mirR B, mirR A, mirR_app A B, mirR_app B A⟩
theorem Rot.perm {c d : List Bead} (h : Rot c d) : d.Perm c := by
  obtain ⟨A, B, rfl, rfl⟩ := h
  exact List.perm_append_comm
theorem Rot.of_take (c : List Bead) (n : Nat) : Rot c (c.drop n ++ c.take n) := ⟨c.take n, c.drop n, (List.take_append_drop n c).symm, rfl⟩
/-- the same ring -/
def Cyc (c d : List Bead) : Prop := Rot c d ∨ Rot (mirR c) d
theorem Cyc.refl (c : List Bead) : Cyc c c := .inl (Rot.refl c)
theorem Cyc.symm {c d : List Bead} (h : Cyc c d) : Cyc d c := by
  rcases h with h | h
  · exact .inl h.symm
  · have := h.mir.symm
    rw [mirR_mirR] at this
    exact .inr this
theorem Cyc.trans {c d e : List Bead} (h : Cyc c d) (g : Cyc d e) : Cyc c e := by
  rcases h with h | h
  · rcases g with g | g
    · exact .inl (h.trans g)
    · exact .inr (h.mir.trans g)
  · rcases g with g | g
    · exact .inr (h.trans g)
    · have := h.mir.trans g
      rw [mirR_mirR] at this
      exact .inl this
theorem Cyc.names {c d : List Bead} (h : Cyc c d) : (d.map Prod.snd).Perm (c.map Prod.snd) := by
  rcases h with h | h
  · exact h.perm.map _
  · refine (h.perm.map _).trans ?_
    rw [mirR_snd]
    exact List.reverse_perm _
/-- a bead of its name, once -/
theorem uniq_bead {c : List Bead} (h : (c.map Prod.snd).Nodup) {a b : Bead} (ha : a ∈ c) (hb : b ∈ c) (e : a.2 = b.2) : a = b := by
  induction c with
  | nil => cases ha
  | cons x r ih =>
    rw [List.map_cons, List.nodup_cons] at h
    rcases List.mem_cons.mp ha with hy | ha2
    · subst hy
      rcases List.mem_cons.mp hb with hx | hb2
      · exact hx.symm
      · exact absurd (by rw [e]; exact List.mem_map_of_mem (f := Prod.snd) hb2) h.1
    · rcases List.mem_cons.mp hb with hx | hb2
      · subst hx
        exact absurd (by rw [← e]; exact List.mem_map_of_mem (f := Prod.snd) ha2) h.1
      · exact ih h.2 ha2 hb2
/-- two rows of one ring that begin with the same bead are one -/
theorem cyc_uniq {x : Bead} {c d : List Bead} (hn : ((x :: c).map Prod.snd).Nodup) (h : Cyc (x :: c) (x :: d)) : c = d := by
  rcases h with ⟨A, B, h1, h2⟩ | h
  · cases A with
    | nil =>
      rw [List.nil_append] at h1
      rw [List.append_nil, ← h1] at h2
      exact (List.cons.inj h2).2.symm
    | cons a A =>
      obtain ⟨rfl, rfl⟩ := List.cons.inj h1
      cases B with
      | nil =>
        rw [List.nil_append] at h2
        have e : A ++ [] = d := by rw [List.append_nil]; exact (List.cons.inj h2).2.symm
        exact e
      | cons b B =>
        obtain ⟨rfl, h2⟩ := List.cons.inj h2
        exfalso
        rw [List.map_cons, List.nodup_cons] at hn
        exact hn.1 (List.mem_map_of_mem (by simp))
  · exfalso
    have h1 : mirB x ∈ mirR (x :: c) := by simp [mirR]
    have h2 : x ∈ mirR (x :: c) := h.perm.mem_iff.mp List.mem_cons_self
    have hn2 : ((mirR (x :: c)).map Prod.snd).Nodup := by
      rw [mirR_snd]
      exact (List.reverse_perm _).nodup_iff.mpr hn
    have := uniq_bead hn2 h1 h2 rfl
    have := congrArg Prod.fst this
    simp [mirB] at this

end Sw

open PySem PySem.Spec L2 Sw
namespace Sw
/-! ### the least name, its place -/
def minS (x : Str) (xs : List Str) : Str := xs.foldl (fun a y => if ltS y a = true then y else a) x
theorem dataLt_str (a b : Str) : W.dataLt (.str a) (.str b) = ltS a b := by
  have h := leD_str b a
  unfold leD at h
  cases q : ltS a b <;> cases q2 : W.dataLt (.str a) (.str b) <;> rw [q, q2] at h <;> first | rfl | cases h
theorem minD_strs (x : Str) (xs : List Str) : W.minD (.str x) (xs.map .str) = .str (minS x xs) := by
  unfold W.minD minS
  induction xs generalizing x with
  | nil => rfl
  | cons y r ih =>
    rw [List.map_cons, List.foldl_cons, List.foldl_cons, dataLt_str]
    by_cases h : ltS y x = true
    · rw [if_pos h, if_pos h]; exact ih y
    · rw [if_neg h, if_neg h]; exact ih x
theorem minS_mem (x : Str) (xs : List Str) : minS x xs ∈ x :: xs := by
  unfold minS
  induction xs generalizing x with
  | nil => exact List.mem_cons_self
  | cons y r ih =>
    rw [List.foldl_cons]
    have := ih (if ltS y x = true then y else x)
    rcases List.mem_cons.mp this with h | h
    · rw [h]
      split
      · exact List.mem_cons_of_mem _ List.mem_cons_self
      · exact List.mem_cons_self
    · exact List.mem_cons_of_mem _ (List.mem_cons_of_mem _ h)
theorem minS_le (x : Str) (xs : List Str) : ∀ z ∈ x :: xs, leS (minS x xs) z := by
  unfold minS
  induction xs generalizing x with
  | nil =>
    intro z hz
    rw [List.mem_singleton.mp hz]
    exact ltS_irr x
  | cons y r ih =>
    intro z hz
    rw [List.foldl_cons]
    have h1 := ih (if ltS y x = true then y else x)
    have h2 := h1 _ List.mem_cons_self
    have hx : leS (if ltS y x = true then y else x) x := by
      split
      · rename_i h; exact ltS_as h
      · exact ltS_irr x
    have hy : leS (if ltS y x = true then y else x) y := by
      split
      · exact ltS_irr y
      · rename_i h; unfold leS; simpa using h
    rcases List.mem_cons.mp hz with rfl | hz
    · exact leS_tr h2 hx
    · rcases List.mem_cons.mp hz with rfl | hz
      · exact leS_tr h2 hy
      · exact h1 z (List.mem_cons_of_mem _ hz)
theorem minOk_strs (ys : List Str) : minOk (ys.map .str) = true := by
  have h1 : (ys.map PyData.str).all okD = true := List.all_eq_true.mpr fun x hx => by
    obtain ⟨y, _, rfl⟩ := List.mem_map.mp hx
    exact okD_of (okI_str y)
  have h2 : (ys.map PyData.str).all (fun d => !noneD d) = true := List.all_eq_true.mpr fun x hx => by
    obtain ⟨y, _, rfl⟩ := List.mem_map.mp hx
    rfl
  have h3 : ((ys.map PyData.str).all fun d => (ys.map PyData.str).all fun e => W.alike d e) = true := List.all_eq_true.mpr fun x hx => List.all_eq_true.mpr fun z hz => by
    obtain ⟨y, _, rfl⟩ := List.mem_map.mp hx
    obtain ⟨y2, _, rfl⟩ := List.mem_map.mp hz
    rfl
  unfold minOk
  rw [h1, h2, h3]
  rfl
theorem gMinL_strs (x : Str) (xs : List Str) : gBestL W.minD [.list ((x :: xs).map .str)] = some (.str (minS x xs)) := by
  have h : minOk (PyData.str x :: xs.map .str) = true := minOk_strs (x :: xs)
  show (if minOk (PyData.str x :: xs.map .str) = true then some (W.minD (PyData.str x) (xs.map .str)) else none) = _
  rw [if_pos h, minD_strs]
theorem shaped_str {z : Str} (h : Low z) : SeqAt.shaped (.str z) = true := by
  unfold SeqAt.shaped
  rw [Bool.and_eq_true]
  refine ⟨?_, by rw [decide_eq_true_eq]; simp [PyData.depth]⟩
  show (z.cps.all fun c => decide (c < 0x110000)) = true
  rw [← Array.all_toList, List.all_eq_true]
  intro c hc
  have := h c hc
  exact decide_eq_true (by omega)
theorem shaped_strs {ys : List Str} (h : ∀ y ∈ ys, Low y) : SeqAt.shaped (.list (ys.map .str)) = true := by
  unfold SeqAt.shaped
  rw [Bool.and_eq_true]
  constructor
  · show PyData.canLayAll0 (ys.map .str) = true
    induction ys with
    | nil => rfl
    | cons y r ih =>
      rw [List.map_cons, PyData.canLayAll0, Bool.and_eq_true]
      exact ⟨SeqAt.canLay_of_shaped (shaped_str (h y List.mem_cons_self)), ih fun z hz => h z (List.mem_cons_of_mem _ hz)⟩
  · rw [decide_eq_true_eq]
    have : ∀ ys : List Str, PyData.depthAll (ys.map .str) = 0 := by
      intro ys
      induction ys with
      | nil => rfl
      | cons y r ih => rw [List.map_cons, PyData.depthAll, ih]; rfl
    rw [PyData.depth, this]
    omega
theorem gIndex_strs {ys : List Str} {m : Str} (h : ∀ y ∈ ys, Low y) (hm : m ∈ ys) : ∃ i, ys[i]? = some m ∧ gIndex (.list (ys.map .str)) [.str m] = some (.int (i : Nat)) := by
  have e : (ys.map PyData.str).findIdx? (fun z => PyData.eqv z (.str m)) = ys.findIdx? fun z => z == m := by
    rw [List.findIdx?_map]
    rfl
  cases q : ys.findIdx? fun z => z == m with
  | none =>
    have := List.findIdx?_eq_none_iff.mp q m hm
    simp at this
  | some i =>
    obtain ⟨hi, h1, _⟩ := List.findIdx?_eq_some_iff_getElem.mp q
    refine ⟨i, by rw [List.getElem?_eq_getElem hi, eq_of_beq h1], ?_⟩
    show (if SeqAt.shaped (.list (ys.map PyData.str)) = true ∧ SeqAt.shaped (.str m) = true then ((ys.map PyData.str).findIdx? fun z => PyData.eqv z (.str m)).map fun j => PyData.int (j : Nat) else none) = _
    rw [if_pos ⟨shaped_strs h, shaped_str (h m hm)⟩, e, q]
    rfl

end Sw

open PySem PySem.Spec L2 Sw
namespace Sw
/-! ### sets that are the same -/
structure EqS (s t : Strand) : Prop where
  kind : t.1 = s.1
  op : s.1 = false → t.2 = s.2 ∨ t.2 = mirR s.2
  ri : s.1 = true → Cyc s.2 t.2
theorem EqS.refl (s : Strand) : EqS s s := ⟨rfl, fun _ => .inl rfl, fun _ => Cyc.refl _⟩
theorem EqS.symm {s t : Strand} (h : EqS s t) : EqS t s := by
  refine ⟨h.kind.symm, fun e => ?_, fun e => (h.ri (h.kind ▸ e)).symm⟩
  rcases h.op (h.kind ▸ e) with q | q
  · exact .inl q.symm
  · refine .inr ?_
    rw [q, mirR_mirR]
theorem EqS.trans {s t u : Strand} (h : EqS s t) (g : EqS t u) : EqS s u := by
  refine ⟨g.kind.trans h.kind, fun e => ?_, fun e => (h.ri e).trans (g.ri (h.kind.trans e))⟩
  rcases h.op e with q | q
  · rcases g.op (h.kind.trans e) with r | r
    · exact .inl (r.trans q)
    · exact .inr (by rw [r, q])
  · rcases g.op (h.kind.trans e) with r | r
    · exact .inr (r.trans q)
    · exact .inl (by rw [r, q, mirR_mirR])
theorem Rst.eqs {s t : Strand} (h : Rst s t) : EqS s t := by
  obtain ⟨hk, r, hr, ht⟩ := h
  refine ⟨hk, fun e => ?_, fun e => ?_⟩
  · rcases hr with rfl | ⟨h1, _⟩
    · exact ht
    · rw [e] at h1; cases h1
  · have h1 : Rot s.2 r := by
      rcases hr with rfl | ⟨_, n, _, rfl⟩
      · exact Rot.refl _
      · exact Rot.of_take _ n
    rcases ht with q | q
    · rw [q]; exact .inl h1
    · rw [q]; exact .inr h1.mir
def Equ (ss ts : List Strand) : Prop := ∃ us, us.Perm ss ∧ All2 EqS us ts
theorem All2.mono {α β : Type} {R S : α → β → Prop} (h : ∀ a b, R a b → S a b) : ∀ {as : List α} {bs : List β}, All2 R as bs → All2 S as bs
  | _, _, .nil => .nil
  | _, _, .cons a r => .cons (h _ _ a) (r.mono h)
theorem All2.flip {α β : Type} {R : α → β → Prop} : ∀ {as : List α} {bs : List β}, All2 R as bs → All2 (fun b a => R a b) bs as
  | _, _, .nil => .nil
  | _, _, .cons a r => .cons a r.flip
theorem All2.comp {α β γ : Type} {R : α → β → Prop} {S : β → γ → Prop} {T : α → γ → Prop} (h : ∀ a b c, R a b → S b c → T a c) : ∀ {as : List α} {bs : List β} {cs : List γ}, All2 R as bs → All2 S bs cs → All2 T as cs
  | _, _, _, .nil, .nil => .nil
  | _, _, _, .cons a r, .cons b q => .cons (h _ _ _ a b) (r.comp h q)
theorem All2.eq_of {α : Type} {R : α → α → Prop} : ∀ {as bs : List α}, All2 R as bs → (∀ a ∈ as, ∀ b ∈ bs, R a b → a = b) → as = bs
  | _, _, .nil, _ => rfl
  | _, _, .cons a r, h => by
    rw [h _ List.mem_cons_self _ List.mem_cons_self a, r.eq_of fun x hx y hy => h x (List.mem_cons_of_mem _ hx) y (List.mem_cons_of_mem _ hy)]
theorem All2.app {α β : Type} {R : α → β → Prop} : ∀ {as as' : List α} {bs bs' : List β}, All2 R as bs → All2 R as' bs' → All2 R (as ++ as') (bs ++ bs')
  | _, _, _, _, .nil, q => q
  | _, _, _, _, .cons a r, q => .cons a (r.app q)
/-- the second row may be put in any order -/
theorem All2.perm {α β : Type} {R : α → β → Prop} {bs cs : List β} (p : bs.Perm cs) : ∀ {as : List α}, All2 R as bs → ∃ ds, ds.Perm as ∧ All2 R ds cs := by
  induction p with
  | nil => intro as h; exact ⟨as, List.Perm.refl _, h⟩
  | cons x p ih =>
    intro as h
    cases h with
    | cons a r =>
      obtain ⟨ds, h1, h2⟩ := ih r
      exact ⟨_ :: ds, h1.cons _, .cons a h2⟩
  | swap x y l =>
    intro as h
    cases h with
    | cons a r =>
      cases r with
      | cons b r => exact ⟨_ :: _ :: _, List.Perm.swap _ _ _, .cons b (.cons a r)⟩
  | trans p q ih1 ih2 =>
    intro as h
    obtain ⟨ds, h1, h2⟩ := ih1 h
    obtain ⟨es, h3, h4⟩ := ih2 h2
    exact ⟨es, h3.trans h1, h4⟩
theorem Equ.refl (ss : List Strand) : Equ ss ss := by
  refine ⟨ss, List.Perm.refl _, ?_⟩
  induction ss with
  | nil => exact .nil
  | cons s r ih => exact .cons (EqS.refl s) ih
theorem Equ.symm {ss ts : List Strand} (h : Equ ss ts) : Equ ts ss := by
  obtain ⟨us, p, h⟩ := h
  exact (h.flip.mono fun _ _ q => EqS.symm q).perm p
theorem Equ.trans {ss ts vs : List Strand} (h : Equ ss ts) (g : Equ ts vs) : Equ ss vs := by
  obtain ⟨us, p, h⟩ := h
  obtain ⟨ws, q, g⟩ := g
  obtain ⟨xs, h1, h2⟩ := h.perm q.symm
  exact ⟨xs, h1.trans p, All2.comp (R := EqS) (S := EqS) (T := EqS) (fun _ _ _ a b => a.trans b) h2 g⟩
theorem Retold.equ {ss ts : List Strand} (h : Retold ss ts) : Equ ss ts := by
  obtain ⟨us, p, h⟩ := h
  exact ⟨us, p, h.mono fun _ _ q => q.eqs⟩
theorem rot_rst {b : Bool} {c d : List Bead} (h : Rot c d) : Rst (true, c) (true, d) := by
  obtain ⟨A, B, rfl, rfl⟩ := h
  refine ⟨rfl, B ++ A, .inr ⟨rfl, A.length, ?_, ?_⟩, .inl rfl⟩
  · show A.length ≤ (A ++ B).length
    rw [List.length_append]; omega
  · show B ++ A = (A ++ B).drop A.length ++ (A ++ B).take A.length
    rw [List.drop_left, List.take_left]
theorem EqS.perm {s t : Strand} (h : EqS s t) (hs : s.2 ≠ []) : (strJ t).Perm (strJ s) ∧ (t.2.map Prod.snd).Perm (s.2.map Prod.snd) := by
  obtain ⟨k, bs⟩ := s
  obtain ⟨k2, cs⟩ := t
  have hk : k2 = k := h.kind
  subst hk
  cases k2 with
  | false => exact Rst.perm ⟨rfl, bs, .inl rfl, h.op rfl⟩ hs
  | true =>
    rcases h.ri rfl with q | q
    · exact (rot_rst (b := true) q).perm hs
    · have h1 := (rot_rst (b := true) q).perm (mirR_ne hs)
      have h2 : (strJ (true, mirR bs)).Perm (strJ (true, bs)) := strJ_mir (s := (true, bs)) hs
      refine ⟨h1.1.trans h2, h1.2.trans ?_⟩
      show ((mirR bs).map Prod.snd).Perm (bs.map Prod.snd)
      rw [mirR_snd]
      exact List.reverse_perm _
theorem equ_all : ∀ {us ts : List Strand}, All2 EqS us ts → (∀ s ∈ us, s.2 ≠ []) → (jts ts).Perm (jts us) ∧ ((beadsOf ts).map Prod.snd).Perm ((beadsOf us).map Prod.snd) ∧ ∀ t ∈ ts, t.2 ≠ []
  | _, _, .nil, _ => ⟨List.Perm.refl _, List.Perm.refl _, fun _ h => nomatch h⟩
  | _, _, .cons (a := s) (b := t) (as := us) (bs := ts) h r, hn => by
    obtain ⟨a1, a2⟩ := h.perm (hn s List.mem_cons_self)
    obtain ⟨b1, b2, b3⟩ := equ_all r fun x hx => hn x (List.mem_cons_of_mem _ hx)
    refine ⟨a1.append b1, ?_, fun x hx => ?_⟩
    · show ((t.2 ++ beadsOf ts).map Prod.snd).Perm ((s.2 ++ beadsOf us).map Prod.snd)
      rw [List.map_append, List.map_append]
      exact a2.append b2
    · rcases List.mem_cons.mp hx with rfl | hx
      · intro e
        have := a2.length_eq
        rw [e, List.length_map, List.length_map] at this
        exact hn s List.mem_cons_self (List.eq_nil_of_length_eq_zero this.symm)
      · exact b3 x hx
theorem equ_facts {ss ts : List Strand} (h : Equ ss ts) (hn : ∀ s ∈ ss, s.2 ≠ []) : (jts ts).Perm (jts ss) ∧ ((beadsOf ts).map Prod.snd).Perm ((beadsOf ss).map Prod.snd) ∧ ∀ t ∈ ts, t.2 ≠ [] := by
  obtain ⟨us, p, h⟩ := h
  obtain ⟨a, b, c⟩ := equ_all h fun s hs => hn s (p.mem_iff.mp hs)
  exact ⟨a.trans (p.flatMap_right _), b.trans ((p.flatMap_right _).map _), c⟩
theorem equ_good {ss ts : List Strand} (h : Equ ss ts) (g : GoodS ss) : GoodS ts := by
  obtain ⟨a, b, c⟩ := equ_facts h g.1
  have hl := b.length_eq
  rw [List.length_map, List.length_map] at hl
  exact ⟨c, by rw [hl]; exact g.2.1, names_nm b g.2.2⟩

end Sw

open PySem PySem.Spec L2 Sw
namespace Sw
/-! ### canon forms -/
def FormO (bs : List Bead) : Prop := (bs.length = 1 → (firstB bs).1 = false) ∧ (1 < bs.length → ltS (lastB bs).2 (firstB bs).2 = false)
def FormR (bs : List Bead) : Prop := (firstB bs).1 = false ∧ ∀ b ∈ bs, leS (firstB bs).2 b.2
def FormS (s : Strand) : Prop := (s.1 = false → FormO s.2) ∧ (s.1 = true → FormR s.2)
theorem first_ne_last {bs : List Bead} (hn : (bs.map Prod.snd).Nodup) (h : 1 < bs.length) : (firstB bs).2 ≠ (lastB bs).2 := by
  match bs, h with
  | a :: b :: r, _ =>
    intro e
    rw [last_cons (a := a) (r := b :: r) (by simp)] at e
    rw [List.map_cons, List.nodup_cons] at hn
    have hm : lastB (b :: r) ∈ b :: r := last_mem (by simp)
    exact hn.1 (by show a.2 ∈ _; rw [show a.2 = (lastB (b :: r)).2 from e]; exact List.mem_map_of_mem hm)
theorem form_uniq {s t : Strand} (h : EqS s t) (fs : FormS s) (ft : FormS t) (hs : s.2 ≠ []) (ht : t.2 ≠ []) (hn : (s.2.map Prod.snd).Nodup) : s = t := by
  obtain ⟨k, bs⟩ := s
  obtain ⟨k2, cs⟩ := t
  have hk : k2 = k := h.kind
  subst hk
  have hs : bs ≠ [] := hs
  have ht : cs ≠ [] := ht
  cases k2 with
  | false =>
    have f1 : FormO bs := fs.1 rfl
    have f2 : FormO cs := ft.1 rfl
    rcases h.op rfl with e | e
    · have e : cs = bs := e
      rw [e]
    · exfalso
      have e : cs = mirR bs := e
      subst e
      have hl := mirR_len bs
      by_cases h1 : bs.length = 1
      · have a1 := f1.1 h1
        have a2 := f2.1 (by rw [hl]; exact h1)
        rw [first_mir hs] at a2
        obtain ⟨b, rfl⟩ := List.length_eq_one_iff.mp h1
        have a1 : b.1 = false := a1
        have a2 : (!b.1) = false := a2
        rw [a1] at a2
        cases a2
      · have h2 : 1 < bs.length := by
          cases bs with
          | nil => exact absurd rfl hs
          | cons a r => simp only [List.length_cons] at h1 ⊢; omega
        have a1 := f1.2 h2
        have a2 := f2.2 (by rw [hl]; exact h2)
        rw [first_mir hs, last_mir hs] at a2
        exact first_ne_last hn h2 (ltS_tri a2 a1)
  | true =>
    have f1 : FormR bs := fs.2 rfl
    have f2 : FormR cs := ft.2 rfl
    have hc : Cyc bs cs := h.ri rfl
    cases bs with
    | nil => exact absurd rfl hs
    | cons x c =>
      cases cs with
      | nil => exact absurd rfl ht
      | cons y d =>
        have p := hc.names
        have hy : y.2 ∈ (x :: c).map Prod.snd := p.mem_iff.mp List.mem_cons_self
        have hx : x.2 ∈ (y :: d).map Prod.snd := p.mem_iff.mpr List.mem_cons_self
        obtain ⟨b1, hb1, e1⟩ := List.mem_map.mp hy
        obtain ⟨b2, hb2, e2⟩ := List.mem_map.mp hx
        have l1 : leS x.2 y.2 := by rw [← e1]; exact f1.2 b1 hb1
        have l2 : leS y.2 x.2 := by rw [← e2]; exact f2.2 b2 hb2
        have exy : x = y := Prod.ext ((f1.1 : x.1 = false).trans (f2.1 : y.1 = false).symm) (ltS_tri l2 l1)
        subst exy
        rw [cyc_uniq hn hc]
theorem cutD_last {ds : List D} (h : 1 ≤ ds.length) : cutD ds (some (-1)) none = ds.drop (ds.length - 1) := by
  unfold cutD
  have e : HT.sIx ds.length 0 (some (-1)) = ds.length - 1 := by
    show (if (-1 : Int) < 0 then (-1 + (ds.length : Int)).toNat else min (-1 : Int).toNat ds.length) = _
    rw [if_pos (by decide)]
    omega
  rw [e, HT.sIx_none]
  refine List.take_of_length_le ?_
  rw [List.length_drop]
  exact Nat.le_refl _
theorem cutD_init {ds : List D} (h : 1 ≤ ds.length) : cutD ds none (some (-1)) = ds.take (ds.length - 1) := by
  unfold cutD
  have e : HT.sIx ds.length ds.length (some (-1)) = ds.length - 1 := by
    show (if (-1 : Int) < 0 then (-1 + (ds.length : Int)).toNat else min (-1 : Int).toNat ds.length) = _
    rw [if_pos (by decide)]
    omega
  rw [e, HT.sIx_none]
  show (ds.drop 0).take _ = _
  rw [List.drop_zero, Nat.sub_zero]
def sp_open_canon : PSp := fun fl ds Q => fl = none ∧ ∃ bs : List Bead, ds = [.tuple (bs.map bdD)] ∧ bs ≠ [] ∧ bs.length ≤ 1000 ∧ (∀ b ∈ bs, Nm b.2) ∧ ∀ c, (c = bs ∨ c = mirR bs) → FormO c → Q (.dt (.tuple (c.map bdD))) none
/-! open_canon level 3 -/
abbrev N_open_canon : List Str := ["beads"]
def T_open_canon : PS' := (sSeq (sIf (qTest (qOp (gEq false) (qCB gLen (qCons (qVar 0) qNil)) (qC (.int 1)))) (sRet (qTup (qCons (qCall sp_name_of (qAddD (qCons (qOp gIx (qVar 0) (qC (.int 0))) qNil) [])) qNil))) sNil)
  (sSeq (sIf (qTest (qOp gLt (qCall sp_name_of (qAddD (qCons (qOp gIx (qVar 0) (qNeg (qC (.int 1)))) qNil) [])) (qCall sp_name_of (qAddD (qCons (qOp gIx (qVar 0) (qC (.int 0))) qNil) [])))) (sRet (qCall sp_mirrored_row (qAddD (qCons (qVar 0) qNil) []))) sNil)
  (sRet (qCB gTuple (qCons (qVar 0) qNil)))))
theorem pure_open_canon (fl : Option (List D)) (ds : List D) (Q : RV → Option (List D) → Prop) (_ : false = true ↔ fl ≠ none) (h : sp_open_canon fl ds Q) : T_open_canon (endsOf false Q) (startE false N_open_canon fl ds) := by
  obtain ⟨rfl, bs, rfl, hne, hl, hn, k⟩ := h
  show T_open_canon _ [SV.dat (.tuple (bs.map bdD))]
  unfold T_open_canon
  walk_at "wp"
  have hf := hn _ (first_mem hne)
  have hla := hn _ (last_mem hne)
  rw [List.length_map]
  by_cases h1 : bs.length = 1
  · rw [if_pos (by omega)]
    obtain ⟨b, rfl⟩ := List.length_eq_one_iff.mp h1
    refine ⟨_, rfl, rfl, b, rfl, hf, ?_⟩
    walk_at "wp"
    refine ⟨sizeL (by decide), ?_⟩
    have := k [(false, b.2)] (by
      obtain ⟨t, z⟩ := b
      cases t with
      | false => exact .inl rfl
      | true => exact .inr rfl) ⟨fun _ => rfl, fun h => absurd h (by simp)⟩
    exact this
  · rw [if_neg (by omega)]
    have h2 : 1 < bs.length := by
      cases bs with
      | nil => exact absurd rfl hne
      | cons a r => simp only [List.length_cons] at h1 ⊢; omega
    refine ⟨_, last_ix hne, rfl, _, rfl, hla, ?_⟩
    walk_at "wp"
    refine ⟨_, first_ix hne, rfl, _, rfl, hf, ?_⟩
    walk_at "wp"
    split
    · rename_i hlt
      refine ⟨rfl, bs, .inl rfl, hl, hn, ?_⟩
      walk_at "wp"
      refine k _ (.inr rfl) ⟨fun h => absurd h (by rw [mirR_len]; exact h1), fun _ => ?_⟩
      rw [last_mir hne, first_mir hne]
      exact ltS_as hlt
    · rename_i hlt
      exact k _ (.inl rfl) ⟨fun h => absurd h h1, fun _ => by simpa using hlt⟩
theorem gIx_bd (b : Bead) : gIx (bdD b) (.int 0) = if (bdS b).length ≤ sizeLine then Option.map (fun c => PyData.str ⟨#[c]⟩) (bdS b).cps.toList[0]? else none := by
  show (if (bdS b).length ≤ sizeLine then (atI (bdS b).cps.toList 0).map fun c => PyData.str ⟨#[c]⟩ else none) = _
  rw [atI_lit]
theorem bd_firstN (b : Bead) (h : Nm b.2) {P : D → Prop} : (∃ d, (if (bdS b).length ≤ sizeLine then Option.map (fun c => PyData.str ⟨#[c]⟩) (bdS b).cps.toList[0]? else none) = some d ∧ ∃ d', gEq true d (.str (Str.ofString "-")) = some d' ∧ P d') ↔ P (.bool (!b.1)) := by
  obtain ⟨c, e, hc⟩ := bd_get0 b h
  have hl : (bdS b).length ≤ sizeLine := sizeL (by have := bd_len h; omega)
  rw [if_pos hl, e]
  simp only [Option.map_some, Option.some.injEq, exists_eq_left']
  rw [gNe_ss, one_eq]
  simp only [Option.some.injEq, exists_eq_left']
  have : decide (c = 45) = b.1 := by
    cases q : b.1 with
    | true => exact decide_eq_true (hc.mpr q)
    | false => exact decide_eq_false fun z => by rw [hc.mp z] at q; cases q
  rw [this]
def sp_ring_canon : PSp := fun fl ds Q => fl = none ∧ ∃ bs : List Bead, ds = [.tuple (bs.map bdD)] ∧ bs ≠ [] ∧ bs.length ≤ 1000 ∧ (∀ b ∈ bs, Nm b.2) ∧ ∀ c, Cyc bs c → FormR c → Q (.dt (.tuple (c.map bdD))) none
/-! ring_canon level 3 -/
abbrev N_ring_canon : List Str := ["beads", "names", "at", "begun", "turned", "bead"]
def T_ring_canon : PS' := (sSeq (sAsg 1 (qF (fLc (iAny (qVar 0)) (gN 5) tYes' (qCall sp_name_of (qAddD (qCons (qVar 5) qNil) [])) [5])))
  (sSeq (sAsg 2 (qVM "list" gIndex (qVar 1) (qCons (qCB (gBestL W.minD) (qCons (qVar 1) qNil)) qNil)))
  (sSeq (sAsg 3 (qOp gAdd (qCB gTuple (qCons (qSl (qVar 0) (qPs (qVar 2)) qPn) qNil)) (qCB gTuple (qCons (qSl (qVar 0) qPn (qPs (qVar 2))) qNil))))
  (sSeq (sIf (qTest (qOp (gEq true) (qOp gIx (qOp gIx (qVar 3) (qC (.int 0))) (qC (.int 0))) (qC (.str "-")))) (sRet (qVar 3)) sNil)
  (sSeq (sAsg 4 (qCall sp_mirrored_row (qAddD (qCons (qVar 3) qNil) [])))
  (sRet (qOp gAdd (qSl (qVar 4) (qPs (qNeg (qC (.int 1)))) qPn) (qSl (qVar 4) qPn (qPs (qNeg (qC (.int 1))))))))))))
theorem pure_ring_canon (fl : Option (List D)) (ds : List D) (Q : RV → Option (List D) → Prop) (_ : false = true ↔ fl ≠ none) (h : sp_ring_canon fl ds Q) : T_ring_canon (endsOf false Q) (startE false N_ring_canon fl ds) := by
  obtain ⟨rfl, bs, rfl, hne, hl, hn, k⟩ := h
  show T_ring_canon _ [SV.dat (.tuple (bs.map bdD)), SV.un, SV.un, SV.un, SV.un, SV.un]
  unfold T_ring_canon
  walk_at "wp"
  refine ⟨by rw [List.length_map]; omega, ?_⟩
  refine map_comp (f := fun b => PyData.str b.2) (fun b hb K hK => ?_) ?_
  · walk_at "wp"
    refine ⟨rfl, b, rfl, hn b hb, ?_⟩
    walk_at "wp"
    exact hK
  have e0 : bs.map (fun b => PyData.str b.2) = (bs.map Prod.snd).map PyData.str := by rw [List.map_map]; rfl
  rw [e0]
  obtain ⟨a, r, ebs⟩ := List.exists_cons_of_ne_nil hne
  have hlow : ∀ y ∈ bs.map Prod.snd, Low y := fun y hy => by
    obtain ⟨b, hb, rfl⟩ := List.mem_map.mp hy
    exact (hn b hb).1
  have hmin : gBestL W.minD [.list ((bs.map Prod.snd).map PyData.str)] = some (.str (minS a.2 (r.map Prod.snd))) := by
    rw [ebs]
    exact gMinL_strs _ _
  have hmm : minS a.2 (r.map Prod.snd) ∈ bs.map Prod.snd := by
    rw [ebs]
    exact minS_mem _ _
  have hml : ∀ b ∈ bs, leS (minS a.2 (r.map Prod.snd)) b.2 := fun b hb => by
    refine minS_le _ _ _ ?_
    have := List.mem_map_of_mem (f := Prod.snd) hb
    rw [ebs] at this
    exact this
  generalize minS a.2 (r.map Prod.snd) = m at hmin hmm hml
  obtain ⟨i, hi, hix⟩ := gIndex_strs hlow hmm
  have hil : i < bs.length := by
    have := (List.getElem?_eq_some_iff.mp hi).1
    rw [List.length_map] at this
    exact this
  walk_at "wp"
  have hi' : i ≤ (bs.map bdD).length := by rw [List.length_map]; omega
  refine ⟨rfl, _, hmin, _, hix, ?_⟩
  walk_at "wp"
  rw [cutD_drop hi', cutD_take hi', ← List.map_drop, ← List.map_take, ← List.map_append]
  have hrot : Rot bs (bs.drop i ++ bs.take i) := Rot.of_take bs i
  have hbg : firstB (bs.drop i ++ bs.take i) = bs[i] := by
    rw [List.drop_eq_getElem_cons hil]
    rfl
  have hbi : bs[i].2 = m := by
    rw [List.getElem?_map, List.getElem?_eq_getElem hil] at hi
    exact Option.some.inj hi
  have hrl : (bs.drop i ++ bs.take i).length = bs.length := by rw [List.length_append, List.length_drop, List.length_take]; omega
  have hrn : ∀ b ∈ bs.drop i ++ bs.take i, b ∈ bs := fun b hb => hrot.perm.mem_iff.mp hb
  have hre : bs.drop i ++ bs.take i ≠ [] := fun e => hne (List.eq_nil_of_length_eq_zero (by rw [← hrl, e]; rfl))
  generalize bs.drop i ++ bs.take i = g at hrot hbg hrl hrn hre ⊢
  have hfm : (firstB g).2 = m := by rw [hbg, hbi]
  refine ⟨by rw [List.length_map, List.length_map, List.length_drop, List.length_take, sizeLine_eq]; omega, _, first_ix hre, ?_⟩
  rw [gIx_bd, bd_firstN _ (by rw [hfm]; obtain ⟨b, hb, e⟩ := List.mem_map.mp hmm; rw [← e]; exact hn b hb)]
  walk_at "wp"
  have hform : ∀ c : List Bead, firstB c = (false, m) → (∀ b ∈ c, b.2 ∈ bs.map Prod.snd) → FormR c := fun c h1 h2 => by
    refine ⟨by rw [h1], fun b hb => ?_⟩
    obtain ⟨b2, hb2, e⟩ := List.mem_map.mp (h2 b hb)
    rw [h1, ← e]
    exact hml b2 hb2
  cases ht : (firstB g).1 with
  | false =>
    rw [if_pos rfl]
    refine k g (.inl hrot) (hform g ?_ fun b hb => List.mem_map_of_mem (hrn b hb))
    rw [← hfm, ← ht]
  | true =>
    rw [if_neg (by decide)]
    refine ⟨rfl, g, .inl rfl, by omega, fun b hb => hn b (hrn b hb), ?_⟩
    have hml2 : (mirR g).length = bs.length := by rw [mirR_len, hrl]
    have hpos : 1 ≤ ((mirR g).map bdD).length := by
      rw [List.length_map, hml2, ebs, List.length_cons]
      omega
    walk_at "wp"
    have elm : ((mirR g).map bdD).length = (mirR g).length := List.length_map ..
    rw [cutD_last hpos, cutD_init hpos, ← List.map_drop, ← List.map_take, elm]
    refine ⟨by rw [List.length_map, List.length_map, List.length_drop, List.length_take, sizeLine_eq]; omega, ?_⟩
    rw [← List.map_append]
    have hr2 : Rot (mirR g) ((mirR g).drop ((mirR g).length - 1) ++ (mirR g).take ((mirR g).length - 1)) := Rot.of_take _ _
    have hcy : Cyc bs ((mirR g).drop ((mirR g).length - 1) ++ (mirR g).take ((mirR g).length - 1)) := Cyc.trans (.inl hrot) (.inr hr2)
    refine k _ hcy (hform _ ?_ fun b hb => hcy.names.mem_iff.mp (List.mem_map_of_mem hb))
    have hme : mirR g ≠ [] := mirR_ne hre
    have h1 : (mirR g).drop ((mirR g).length - 1) = [lastB (mirR g)] := by
      have h3 := List.dropLast_concat_getLast hme
      rw [← List.length_dropLast]
      conv => lhs; arg 2; rw [← h3]
      rw [List.drop_left]
      unfold lastB
      rw [List.getLastD_eq_getLast?, List.getLast?_eq_some_getLast hme]
      rfl
    rw [h1, last_mir hre]
    show mirB (firstB g) = (false, m)
    unfold mirB
    rw [ht, hfm]
    rfl

end Sw

open PySem PySem.Spec L2 Sw
namespace Sw
/-! ### the canon of a set -/
def sp_first_name : PSp := fun fl ds Q => fl = none ∧ ∃ bs : List Bead, ds = [.tuple (bs.map bdD)] ∧ bs ≠ [] ∧ (∀ b ∈ bs, Nm b.2) ∧ Q (.dt (.str (firstB bs).2)) none
/-! first_name level 2 -/
abbrev N_first_name : List Str := ["beads"]
def T_first_name : PS' := (sRet (qCall sp_name_of (qAddD (qCons (qOp gIx (qVar 0) (qC (.int 0))) qNil) [])))
theorem pure_first_name (fl : Option (List D)) (ds : List D) (Q : RV → Option (List D) → Prop) (_ : false = true ↔ fl ≠ none) (h : sp_first_name fl ds Q) : T_first_name (endsOf false Q) (startE false N_first_name fl ds) := by
  obtain ⟨rfl, bs, rfl, hne, hn, k⟩ := h
  show T_first_name _ [SV.dat (.tuple (bs.map bdD))]
  unfold T_first_name
  walk_at "wp"
  refine ⟨_, first_ix hne, rfl, _, rfl, hn _ (first_mem hne), ?_⟩
  walk_at "wp"
  exact k
def fnm (bs : List Bead) : Str := (firstB bs).2
def leK (s t : Strand) : Prop := (s.1 = false ∧ t.1 = true) ∨ (s.1 = t.1 ∧ leS (fnm s.2) (fnm t.2))
def InForm (cs : List Strand) : Prop := (∀ s ∈ cs, FormS s) ∧ cs.Pairwise leK
def rowD (bs : List Bead) : D := .tuple (bs.map bdD)
theorem pKeys_map {α : Type} {sp : PSp} {f g : α → D} {QD : List D → Prop} : ∀ {xs : List α} {acc : List D}, (∀ x ∈ xs, ∀ Q : RV → Option (List D) → Prop, Q (.dt (g x)) none → sp none [f x] Q) → QD (acc ++ xs.map g) → pKeys sp (xs.map f) acc QD
  | [], acc, _, q => by
    rw [List.map_nil, List.append_nil] at q
    exact q
  | x :: r, acc, h, q => by
    refine h x List.mem_cons_self _ ⟨_, rfl, ?_⟩
    refine pKeys_map (fun y hy => h y (List.mem_cons_of_mem _ hy)) ?_
    rw [List.append_assoc]
    exact q
theorem byKeys_map {α : Type} (f g : α → D) (xs : List α) : byKeys (xs.map f) (xs.map g) = (xs.mergeSort fun a b => leD (g a) (g b)).map f := by
  have e : (xs.map f).zip (xs.map g) = xs.map fun x => (f x, g x) := by
    rw [List.zip_map']
  unfold byKeys
  rw [e, ← W.sort_maps (r := fun a b => leD (g a) (g b)) (s := fun p q : D × D => leD p.2 q.2) (fun x => (f x, g x)) fun _ _ _ _ => rfl, List.map_map]
  rfl
/-- rows in the order of their first names -/
def byName (os : List (List Bead)) : List (List Bead) := os.mergeSort fun a b => leD (.str (fnm a)) (.str (fnm b))
theorem byName_perm (os : List (List Bead)) : (byName os).Perm os := List.mergeSort_perm _ _
theorem byName_pw (os : List (List Bead)) : (byName os).Pairwise fun a b => leS (fnm a) (fnm b) := by
  have tot : W.TotalLe fun a b : List Bead => leD (.str (fnm a)) (.str (fnm b)) := ⟨fun a b c h g => leD_total.trans _ _ _ h g, fun a b => leD_total.total _ _⟩
  refine (W.sort_pairwise tot os).imp fun {a b} h => ?_
  rw [leD_str] at h
  simpa [leS] using h
def sp_canon : PSp := fun fl ds Q => fl = none ∧ ∃ ss, ds = [.tuple (ss.map stD)] ∧ GoodS ss ∧ ∀ cs, Equ ss cs → InForm cs → Q (.dt (.tuple (cs.map stD))) none
/-- the rows of one kind -/
def rowsK (k : Bool) (ss : List Strand) : List (List Bead) := (ss.filter fun s => s.1 == k).map Prod.snd
def KR (k : Bool) (b c : List Bead) : Prop := EqS (k, b) (k, c) ∧ FormS (k, c)
theorem canon_equ {ss : List Strand} {os rs : List (List Bead)} (h1 : All2 (KR false) (rowsK false ss) os) (h2 : All2 (KR true) (rowsK true ss) rs) :
    Equ ss ((byName os).map (fun c => (false, c)) ++ (byName rs).map fun c => (true, c)) ∧ InForm ((byName os).map (fun c => (false, c)) ++ (byName rs).map fun c => (true, c)) := by
  have kk : ∀ k : Bool, (ss.filter fun s => s.1 == k) = (rowsK k ss).map fun b => (k, b) := fun k => by
    unfold rowsK
    rw [List.map_map]
    symm
    refine (List.map_congr_left fun s hs => ?_).trans (List.map_id _)
    have := (List.mem_filter.mp hs).2
    have := eq_of_beq this
    show (k, s.2) = s
    rw [← this]
  have up : ∀ k : Bool, ∀ {as bs : List (List Bead)}, All2 (KR k) as bs → All2 EqS (as.map fun b => (k, b)) (bs.map fun b => (k, b)) := by
    intro k as bs h
    induction h with
    | nil => exact .nil
    | cons a r ih => exact .cons a.1 ih
  have fm : ∀ k : Bool, ∀ {as bs : List (List Bead)}, All2 (KR k) as bs → ∀ c ∈ bs, FormS (k, c) := by
    intro k as bs h
    induction h with
    | nil => intro c hc; cases hc
    | cons a r ih =>
      intro c hc
      rcases List.mem_cons.mp hc with rfl | hc
      · exact a.2
      · exact ih c hc
  constructor
  · have p : ((ss.filter fun s => s.1 == false) ++ ss.filter fun s => s.1 == true).Perm ss := by
      have e : (ss.filter fun s => s.1 == true) = ss.filter fun s => !(s.1 == false) := by
        congr 1
        funext s
        cases s.1 <;> rfl
      rw [e]
      exact List.filter_append_perm _ _
    have a := (up false h1).app (up true h2)
    rw [← kk false, ← kk true] at a
    obtain ⟨us, q1, q2⟩ := a.perm (((byName_perm os).symm.map fun c => (false, c)).append ((byName_perm rs).symm.map fun c => (true, c)))
    exact ⟨us, q1.trans p, q2⟩
  · refine ⟨fun s hs => ?_, ?_⟩
    · rcases List.mem_append.mp hs with hs | hs
      · obtain ⟨c, hc, rfl⟩ := List.mem_map.mp hs
        exact fm false h1 c ((byName_perm os).mem_iff.mp hc)
      · obtain ⟨c, hc, rfl⟩ := List.mem_map.mp hs
        exact fm true h2 c ((byName_perm rs).mem_iff.mp hc)
    · refine List.pairwise_append.mpr ⟨?_, ?_, fun s hs t ht => ?_⟩
      · exact List.pairwise_map.mpr ((byName_pw os).imp fun h => .inr ⟨rfl, h⟩)
      · exact List.pairwise_map.mpr ((byName_pw rs).imp fun h => .inr ⟨rfl, h⟩)
      · obtain ⟨c, _, rfl⟩ := List.mem_map.mp hs
        obtain ⟨d, _, rfl⟩ := List.mem_map.mp ht
        exact .inl ⟨rfl, rfl⟩
theorem rowsK_snoc (k : Bool) (ss : List Strand) (s : Strand) : rowsK k (ss ++ [s]) = rowsK k ss ++ (if s.1 = k then [s.2] else []) := by
  unfold rowsK
  rw [List.filter_append, List.map_append]
  congr 1
  by_cases h : s.1 = k
  · rw [if_pos h, List.filter_cons_of_pos (by rw [beq_iff_eq]; exact h)]
    rfl
  · rw [if_neg h, List.filter_cons_of_neg (by rw [beq_iff_eq]; exact h)]
    rfl
theorem open_iff (b : Bool) : ((if b = true then Str.ofString "ring" else Str.ofString "open") = Str.ofString "open") ↔ b = false := by
  cases b with
  | true => simp; decide +kernel
  | false => simp
theorem all2_mem {k : Bool} {as bs : List (List Bead)} (h : All2 (KR k) as bs) : ∀ c ∈ bs, ∃ b ∈ as, KR k b c := by
  induction h with
  | nil => intro c hc; cases hc
  | cons a r ih =>
    intro c hc
    rcases List.mem_cons.mp hc with rfl | hc
    · exact ⟨_, List.mem_cons_self, a⟩
    · obtain ⟨b, hb, q⟩ := ih c hc
      exact ⟨b, List.mem_cons_of_mem _ hb, q⟩
theorem rows_good {ss : List Strand} (hg : GoodS ss) {k : Bool} {os : List (List Bead)} (h : All2 (KR k) (rowsK k ss) os) : ∀ c ∈ os, c ≠ [] ∧ ∀ b ∈ c, Nm b.2 := fun c hc => by
  obtain ⟨b, hb, q, _⟩ := all2_mem h c hc
  obtain ⟨s, hs, rfl⟩ := List.mem_map.mp hb
  have hs := (List.mem_filter.mp hs).1
  have hp := q.perm (hg.1 s hs)
  refine ⟨fun e => ?_, names_nm (bs := s.2) hp.2 (hg.nm (s := s) hs)⟩
  have := hp.2.length_eq
  have e : c = [] := e
  rw [show ((k, c) : Strand).2 = c from rfl, e] at this
  exact hg.1 s hs (List.eq_nil_of_length_eq_zero (by simpa using this.symm))
theorem rowsK_len (k : Bool) (ss : List Strand) : (rowsK k ss).length ≤ ss.length := by
  unfold rowsK
  rw [List.length_map]
  exact List.length_filter_le _ _
/-! canon level 4 -/
abbrev N_canon : List Str := ["some", "opens", "rings", "told", "kind", "beads"]
def T_canon : PS' := (sSeq (sAsg 1 (qF (fLc (iAny (qVar 0)) (gT 2 (gsC (gN 4) (gsC (gN 5) gsN))) (qTest (qOp (gEq false) (qVar 4) (qC (.str "open")))) (qCall sp_open_canon (qAddD (qCons (qVar 5) qNil) [])) [4, 5])))
  (sSeq (sAsg 2 (qF (fLc (iAny (qVar 0)) (gT 2 (gsC (gN 4) (gsC (gN 5) gsN))) (qTest (qOp (gEq false) (qVar 4) (qC (.str "ring")))) (qCall sp_ring_canon (qAddD (qCons (qVar 5) qNil) [])) [4, 5])))
  (sSeq (sAsg 3 (qF (fLc (iAny (qF (fSortK sp_first_name (qVar 1)))) (gN 5) tYes' (qTup (qCons (qC (.str "open")) (qCons (qVar 5) qNil))) [5])))
  (sRet (qCB gTuple (qCons (qOp gAdd (qVar 3) (qF (fLc (iAny (qF (fSortK sp_first_name (qVar 2)))) (gN 5) tYes' (qTup (qCons (qC (.str "ring")) (qCons (qVar 5) qNil))) [5]))) qNil))))))
theorem pure_canon (fl : Option (List D)) (ds : List D) (Q : RV → Option (List D) → Prop) (_ : false = true ↔ fl ≠ none) (h : sp_canon fl ds Q) : T_canon (endsOf false Q) (startE false N_canon fl ds) := by
  obtain ⟨rfl, ss, rfl, hg, k⟩ := h
  show T_canon _ [SV.dat (.tuple (ss.map stD)), SV.un, SV.un, SV.un, SV.un, SV.un]
  unfold T_canon
  have hsl : ss.length ≤ 1000 := Nat.le_trans (beads_few ss hg.1) hg.2.1
  refine cut_seq (fun env => ∃ os, All2 (KR false) (rowsK false ss) os ∧ env = [SV.dat (.tuple (ss.map stD)), SV.dat (.list (os.map rowD)), SV.un, SV.un, SV.un, SV.un]) ?_ fun nx hnx => ?_
  rotate_left
  · walk_at "wp"
    refine ⟨by rw [List.length_map]; omega, ?_⟩
    refine pLc_inv (fun i acc env => ∃ os, All2 (KR false) (rowsK false (ss.take i)) os ∧ acc = os.map rowD ∧ env = [SV.dat (.tuple (ss.map stD)), SV.un, SV.un, SV.un, SV.un, SV.un]) ⟨[], .nil, rfl, rfl⟩ ?_ ?_
    · rintro i d hd acc env ⟨os, ho, rfl, rfl⟩ K hK
      rw [List.getElem?_map] at hd
      cases q : ss[i]? with
      | none => rw [q] at hd; cases hd
      | some s =>
        rw [q] at hd
        cases hd
        have hs := List.mem_of_getElem? q
        have ek : rowsK false (ss.take (i + 1)) = rowsK false (ss.take i) ++ (if s.1 = false then [s.2] else []) := by
          rw [List.take_add_one, q]
          exact rowsK_snoc _ _ _
        unfold stD
        walk_at "wp"
        simp only [open_iff]
        by_cases hk : s.1 = false
        · rw [if_pos hk]
          refine ⟨rfl, s.2, rfl, hg.1 s hs, hg.len hs, hg.nm hs, fun c hc hf => ?_⟩
          walk_at "wp"
          refine hK _ _ ⟨os ++ [c], ?_, by rw [List.map_append]; rfl, rfl⟩
          rw [ek, if_pos hk]
          exact ho.snoc ⟨⟨rfl, fun _ => hc, fun e => nomatch e⟩, ⟨fun _ => hf, fun e => nomatch e⟩⟩
        · rw [if_neg hk]
          refine hK _ _ ⟨os, ?_, rfl, rfl⟩
          rw [ek, if_neg hk, List.append_nil]
          exact ho
    · rintro acc env ⟨os, ho, rfl, rfl⟩
      rw [List.length_map, List.take_length] at ho
      exact ⟨by simp, hnx _ ⟨os, ho, rfl⟩⟩
  rintro env ⟨os, ho, rfl⟩
  refine cut_seq (fun env => ∃ rs, All2 (KR true) (rowsK true ss) rs ∧ env = [SV.dat (.tuple (ss.map stD)), SV.dat (.list (os.map rowD)), SV.dat (.list (rs.map rowD)), SV.un, SV.un, SV.un]) ?_ fun nx hnx => ?_
  rotate_left
  · walk_at "wp"
    refine ⟨by rw [List.length_map]; omega, ?_⟩
    refine pLc_inv (fun i acc env => ∃ rs, All2 (KR true) (rowsK true (ss.take i)) rs ∧ acc = rs.map rowD ∧ env = [SV.dat (.tuple (ss.map stD)), SV.dat (.list (os.map rowD)), SV.un, SV.un, SV.un, SV.un]) ⟨[], .nil, rfl, rfl⟩ ?_ ?_
    · rintro i d hd acc env ⟨rs, hr, rfl, rfl⟩ K hK
      rw [List.getElem?_map] at hd
      cases q : ss[i]? with
      | none => rw [q] at hd; cases hd
      | some s =>
        rw [q] at hd
        cases hd
        have hs := List.mem_of_getElem? q
        have ek : rowsK true (ss.take (i + 1)) = rowsK true (ss.take i) ++ (if s.1 = true then [s.2] else []) := by
          rw [List.take_add_one, q]
          exact rowsK_snoc _ _ _
        unfold stD
        walk_at "wp"
        simp only [ring_iff]
        by_cases hk : s.1 = true
        · rw [if_pos hk]
          refine ⟨rfl, s.2, rfl, hg.1 s hs, hg.len hs, hg.nm hs, fun c hc hf => ?_⟩
          walk_at "wp"
          refine hK _ _ ⟨rs ++ [c], ?_, by rw [List.map_append]; rfl, rfl⟩
          rw [ek, if_pos hk]
          exact hr.snoc ⟨⟨rfl, fun e => (nomatch e), fun _ => hc⟩, ⟨fun e => (nomatch e), fun _ => hf⟩⟩
        · rw [if_neg hk]
          refine hK _ _ ⟨rs, ?_, rfl, rfl⟩
          rw [ek, if_neg hk, List.append_nil]
          exact hr
    · rintro acc env ⟨rs, hr, rfl, rfl⟩
      rw [List.length_map, List.take_length] at hr
      exact ⟨by simp, hnx _ ⟨rs, hr, rfl⟩⟩
  rintro env ⟨rs, hr, rfl⟩
  obtain ⟨q1, q2⟩ := canon_equ ho hr
  have hob := rows_good hg ho
  have hrb := rows_good hg hr
  have hol : os.length ≤ 1000 := by have := ho.len; have := rowsK_len false ss; omega
  have hrl : rs.length ≤ 1000 := by have := hr.len; have := rowsK_len true ss; omega
  have keys : ∀ os : List (List Bead), os.map (fun c => PyData.str (fnm c)) = (os.map fnm).map PyData.str := fun os => by rw [List.map_map]; rfl
  walk_at "wp"
  refine pKeys_map (g := fun c => .str (fnm c)) (fun c hc Q hQ => ⟨rfl, c, rfl, (hob c hc).1, (hob c hc).2, hQ⟩) ?_
  rw [List.nil_append]
  refine ⟨by rw [keys]; exact okSort_strs _, ?_⟩
  rw [byKeys_map]
  have eb : ∀ os : List (List Bead), (os.mergeSort fun a b => leD (.str (fnm a)) (.str (fnm b))) = byName os := fun _ => rfl
  rw [eb]
  have bl1 := (byName_perm os).length_eq
  have bl2 := (byName_perm rs).length_eq
  refine ⟨by rw [List.length_map]; omega, ?_⟩
  refine map_comp (f := fun c => stD (false, c)) (fun c hc K hK => ?_) ?_
  · walk_at "wp"
    exact ⟨sizeL (by decide), hK⟩
  walk_at "wp"
  refine pKeys_map (g := fun c => .str (fnm c)) (fun c hc Q hQ => ⟨rfl, c, rfl, (hrb c hc).1, (hrb c hc).2, hQ⟩) ?_
  rw [List.nil_append]
  refine ⟨by rw [keys]; exact okSort_strs _, ?_⟩
  rw [byKeys_map, eb]
  refine ⟨by rw [List.length_map]; omega, ?_⟩
  refine map_comp (f := fun c => stD (true, c)) (fun c hc K hK => ?_) ?_
  · walk_at "wp"
    exact ⟨sizeL (by decide), hK⟩
  walk_at "wp"
  have e5 : (byName os).map (fun c => stD (false, c)) ++ (byName rs).map (fun c => stD (true, c)) = ((byName os).map (fun c => (false, c)) ++ (byName rs).map fun c => (true, c)).map stD := by
    rw [List.map_append, List.map_map, List.map_map]
    rfl
  rw [e5]
  exact ⟨by rw [List.length_map, List.length_map, sizeLine_eq]; omega, k _ q1 q2⟩

end Sw

open PySem PySem.Spec L2 Sw
namespace Sw
/-! ### a bead without its minus -/
theorem goes_dash (c : Nat) : (Str.ofString "-").cps.contains c = decide (c = 45) := by
  have : (Str.ofString "-").cps = #[45] := by decide +kernel
  rw [this]
  by_cases h : c = 45
  · subst h; simp
  · rw [decide_eq_false h]
    simp [h]
theorem tw_none {l : List Nat} (h : ∀ c ∈ l, c ≠ 45) : l.takeWhile (Str.ofString "-").cps.contains = [] := by
  cases l with
  | nil => rfl
  | cons a r =>
    rw [List.takeWhile_cons_of_neg]
    rw [goes_dash, decide_eq_true_eq]
    exact h a List.mem_cons_self
theorem strip_bd (b : Bead) (h : Nm b.2) : Txt.stripChars (bdS b) (Str.ofString "-") = b.2 := by
  have hz : ∀ c ∈ b.2.cps.toList, c ≠ 45 := fun c hc => by have := h.1 c hc; omega
  have hr : (b.2.cps.toList.reverse.takeWhile (Str.ofString "-").cps.contains) = [] := tw_none fun c hc => hz c (List.mem_reverse.mp hc)
  have key : ∀ x : Str, ∀ n : Nat, (x.cps.toList.takeWhile (Str.ofString "-").cps.contains).length = n → x.cps.toList.drop n = b.2.cps.toList → Txt.stripChars x (Str.ofString "-") = b.2 := fun x n h1 h2 => by
    unfold Txt.stripChars
    rw [PyProof.Rows.stripBy_eq]
    have e1 : PySem.stripLo (Str.ofString "-").cps.contains true x = n := h1
    have e2 : PySem.stripHi (Str.ofString "-").cps.contains true x n = x.length := by
      show x.length - ((x.cps.toList.drop n).reverse.takeWhile _).length = _
      rw [h2, hr]
      rfl
    rw [e1, e2]
    refine ext_tl ?_
    show (x.cps.extract n x.length).toList = _
    rw [Array.toList_extract, List.extract_eq_drop_take, ← h2]
    refine List.take_of_length_le ?_
    rw [List.length_drop]
    exact Nat.le_refl _
  obtain ⟨t, z⟩ := b
  cases t with
  | false => exact key z 0 (by rw [tw_none hz]; rfl) rfl
  | true =>
    have e : (bdS (true, z)).cps.toList = 45 :: z.cps.toList := by
      unfold bdS
      rw [if_pos rfl, tl_app, dash_tl]
      rfl
    refine key _ 1 ?_ (by rw [e]; rfl)
    rw [e, List.takeWhile_cons_of_pos (by rw [goes_dash]; rfl), tw_none hz]
    rfl

end Sw

open PySem PySem.Spec L2 Sw
namespace Sw
/-! ### the law's own look at a set -/
def kindD (b : Bool) : D := .str (if b = true then Str.ofString "ring" else Str.ofString "open")
theorem gIn_kind (b : Bool) : gIn true (kindD b) (.list [.str (Str.ofString "open"), .str (Str.ofString "ring")]) = some (.bool false) := by
  have h := gIn_strs (neg := true) (z := if b = true then Str.ofString "ring" else Str.ofString "open") (ys := [Str.ofString "open", Str.ofString "ring"])
  have e : (decide ((if b = true then Str.ofString "ring" else Str.ofString "open") ∈ [Str.ofString "open", Str.ofString "ring"])) = true := by
    cases b <;> simp
  rw [e] at h
  exact h
theorem nm_ne {z : Str} (h : Nm z) : z ≠ Str.ofString "" := fun e => by
  have := h.2.1
  rw [e] at this
  revert this
  decide +kernel
theorem gStripC_bd (b : Bead) (h : Nm b.2) : gStripC (bdD b) [.str (Str.ofString "-")] = some (.str b.2) := by
  show (if (bdS b).length ≤ sizeLine then some (PyData.str (Txt.stripChars (bdS b) (Str.ofString "-"))) else none) = _
  rw [if_pos (sizeL (by have := bd_len h; omega)), strip_bd b h]
def sp_law_is_set : PSp := fun fl ds Q => fl = none ∧ ∃ cs, ds = [.tuple (cs.map stD)] ∧ GoodS cs ∧ Q (.dt (.bool true)) none
/-! law_is_set level 1 -/
abbrev N_law_is_set : List Str := ["_law_some", "_law_strand", "_law_bead"]
def T_law_is_set : PS' := (sSeq (sIf (tNot' (qTest (qIsi .tuple (qVar 0)))) (sRet (qC (.bool false))) sNil)
  (sSeq (sFor (iAny (qVar 0)) (gN 1) (sSeq (sIf (tOr' (tNot' (qTest (qIsi .tuple (qVar 1)))) (tOr' (qTest (qOp (gEq true) (qCB gLen (qCons (qVar 1) qNil)) (qC (.int 2)))) (qTest (qOp (gIn true) (qOp gIx (qVar 1) (qC (.int 0))) (qF (fLst (qCons (qC (.str "open")) (qCons (qC (.str "ring")) qNil)))))))) (sRet (qC (.bool false))) sNil)
  (sSeq (sIf (tOr' (tNot' (qTest (qIsi .tuple (qOp gIx (qVar 1) (qC (.int 1)))))) (qTest (qOp (gEq false) (qCB gLen (qCons (qOp gIx (qVar 1) (qC (.int 1))) qNil)) (qC (.int 0))))) (sRet (qC (.bool false))) sNil)
  (sIf (tNot' (qTest (qCB gAll (qCons (qF (fLc (iAny (qOp gIx (qVar 1) (qC (.int 1)))) (gN 2) tYes' (qAnd (qIsi .str (qVar 2)) (qOp (gEq true) (qVM "str" gStripC (qVar 2) (qCons (qC (.str "-")) qNil)) (qC (.str "")))) [2])) qNil)))) (sRet (qC (.bool false))) sNil))))
  (sRet (qC (.bool true)))))
theorem pure_law_is_set (fl : Option (List D)) (ds : List D) (Q : RV → Option (List D) → Prop) (_ : false = true ↔ fl ≠ none) (h : sp_law_is_set fl ds Q) : T_law_is_set (endsOf false Q) (startE false N_law_is_set fl ds) := by
  obtain ⟨rfl, cs, rfl, hg, k⟩ := h
  show T_law_is_set _ [SV.dat (.tuple (cs.map stD)), SV.un, SV.un]
  unfold T_law_is_set
  walk_at "wp"
  refine pFor_inv (fun i env => ∃ y, env = [SV.dat (.tuple (cs.map stD)), y, SV.un]) ⟨_, rfl⟩ ?_ ?_
  · rintro i d hd env ⟨y, rfl⟩ K hK
    rw [List.getElem?_map] at hd
    cases q : cs[i]? with
    | none => rw [q] at hd; cases hd
    | some s =>
      rw [q] at hd
      cases hd
      have hs := List.mem_of_getElem? q
      have hne := hg.1 s hs
      have hl := hg.len hs
      have hpos : 1 ≤ s.2.length := by
        cases q : s.2 with
        | nil => exact absurd q hne
        | cons a b => simp
      have e : stD s = .tuple [kindD s.1, .tuple (s.2.map bdD)] := rfl
      rw [e]
      walk_at "wp"
      rw [if_neg (by decide), if_neg (by decide), gIn_kind]
      walk_at "wp"
      rw [if_neg (by decide), if_neg (by rw [List.length_map]; omega), List.length_map]
      refine ⟨sizeL (by decide), by omega, ?_⟩
      refine all_comp (fun b hb K hK => ?_) ?_
      · have hbn := hg.nm hs b hb
        have eb : isi .str (bdD b) = true := rfl
        walk_at "wp"
        rw [eb, if_pos rfl]
        refine ⟨rfl, _, gStripC_bd b hbn, ?_⟩
        walk_at "wp"
        have : (!(b.2 == Str.ofString "")) = true := by
          rw [Bool.not_eq_true', beq_eq_false_iff_ne]
          exact nm_ne hbn
        rw [this]
        exact hK
      · walk_at "wp"
        rw [if_neg (by decide)]
        exact hK _ ⟨_, rfl⟩
  · rintro env ⟨y, rfl⟩
    walk_at "wp"
    exact k

end Sw

open PySem PySem.Spec L2 Sw
namespace Sw
/-! ### the law's own look at a canon -/
def bgD (s : Strand) : D := .tuple [.int (if s.1 = true then 1 else 0), .str (fnm s.2)]
theorem alike_bg (s t : Strand) : W.alike (bgD s) (bgD t) = true := rfl
theorem okI_bg (s : Strand) : okI (bgD s) := ⟨rfl, by simp [bgD, PyData.depth, PyData.depthAll]⟩
theorem leD_bg {s t : Strand} (h : leK s t) : leD (bgD s) (bgD t) = true := by
  unfold leD bgD
  rw [W.dataLt_pair (x := .int (if t.1 = true then 1 else 0)) (x' := .int (if s.1 = true then 1 else 0)) (y := .str (fnm t.2)) (y' := .str (fnm s.2)) rfl rfl, dataLt_str]
  rcases h with ⟨h1, h2⟩ | ⟨h1, h2⟩
  · rw [h1, h2]
    rfl
  · rw [h1]
    have e : PyData.eqv (.int (if t.1 = true then 1 else 0)) (.int (if t.1 = true then 1 else 0)) = true := by simp [PyData.eqv]
    rw [if_pos e]
    have h2 : ltS (fnm t.2) (fnm s.2) = false := h2
    rw [h2]
    split <;> rfl
theorem okSort_bg (cs : List Strand) : okSort (cs.map bgD) = true := okSort_of (fun x hx => by
    obtain ⟨s, _, rfl⟩ := List.mem_map.mp hx
    exact okD_of (okI_bg s)) (fun x hx y hy => by
    obtain ⟨s, _, rfl⟩ := List.mem_map.mp hx
    obtain ⟨t, _, rfl⟩ := List.mem_map.mp hy
    rfl) fun x hx => by
    obtain ⟨s, _, rfl⟩ := List.mem_map.mp hx
    rfl
theorem srt_bg {cs : List Strand} (h : cs.Pairwise leK) : srtD (cs.map bgD) = cs.map bgD := by
  refine (srtD_eq ?_ (List.Perm.refl _) ?_).symm
  · exact (okSort_spec (okSort_bg cs)).2.1
  · exact List.pairwise_map.mpr (h.imp fun h => leD_bg h)
theorem gEq_self {L : List D} (h : ∀ x ∈ L, okI x) (ha : W.alike (.list L) (.list L) = true) : gEq false (.list L) (.list L) = some (.bool true) := by
  have ho : okD (.list L) = true := (okD_list h).1
  show (if okD (.list L) = true ∧ okD (.list L) = true then some (PyData.bool (PyData.eqv (.list L) (.list L))) else none) = _
  rw [if_pos ⟨ho, ho⟩, W.eqv_refl_alike _ ha]
theorem alike_list : ∀ {L : List D}, (∀ x ∈ L, W.alike x x = true) → W.alikeAll L L = true
  | [], _ => by simp [W.alikeAll]
  | x :: r, h => by
    simp only [W.alikeAll, Bool.and_eq_true]
    exact ⟨h x List.mem_cons_self, alike_list fun y hy => h y (List.mem_cons_of_mem _ hy)⟩
theorem gIndex_kind (b : Bool) : gIndex (.list [.str (Str.ofString "open"), .str (Str.ofString "ring")]) [kindD b] = some (.int (if b = true then 1 else 0)) := by
  show (if SeqAt.shaped (.list [.str (Str.ofString "open"), .str (Str.ofString "ring")]) = true ∧ SeqAt.shaped (kindD b) = true then ([PyData.str (Str.ofString "open"), .str (Str.ofString "ring")].findIdx? fun z => PyData.eqv z (kindD b)).map fun j => PyData.int (j : Nat) else none) = _
  cases b with
  | false =>
    have e : ([PyData.str (Str.ofString "open"), .str (Str.ofString "ring")].findIdx? fun z => PyData.eqv z (kindD false)) = some 0 := by decide +kernel
    rw [if_pos ⟨by decide +kernel, by decide +kernel⟩, e]
    rfl
  | true =>
    have e : ([PyData.str (Str.ofString "open"), .str (Str.ofString "ring")].findIdx? fun z => PyData.eqv z (kindD true)) = some 1 := by decide +kernel
    rw [if_pos ⟨by decide +kernel, by decide +kernel⟩, e]
    rfl
theorem gNe_same (z : Str) : gEq true (.str z) (.str z) = some (.bool false) := by
  rw [gNe_ss, beq_self_eq_true]
  rfl
def sp_law_is_canon : PSp := fun fl ds Q => fl = none ∧ ∃ cs, ds = [.tuple (cs.map stD)] ∧ GoodS cs ∧ InForm cs ∧ Q (.dt (.bool true)) none
/-! law_is_canon level 1 -/
abbrev N_law_is_canon : List Str := ["_law_some", "_law_begins", "_law_kind", "_law_beads", "_law_names_here", "_law_bead"]
def T_law_is_canon : PS' := (sSeq (sAsgF 1 (fLst (qNil)))
  (sSeq (sFor (iAny (qVar 0)) (gT 2 (gsC (gN 2) (gsC (gN 3) gsN))) (sSeq (sAsg 4 (qF (fLc (iAny (qVar 3)) (gN 5) tYes' (qVM "str" gStripC (qVar 5) (qCons (qC (.str "-")) qNil)) [5])))
  (sSeq (sIf (tAnd' (qTest (qOp (gEq false) (qVar 2) (qC (.str "ring")))) (tOr' (qTest (qOp (gEq true) (qOp gIx (qVar 4) (qC (.int 0))) (qCB (gBestL W.minD) (qCons (qVar 4) qNil)))) (qTest (qOp (gEq true) (qOp gIx (qVar 3) (qC (.int 0))) (qOp gIx (qVar 4) (qC (.int 0))))))) (sRet (qC (.bool false))) sNil)
  (sSeq (sIf (tAnd' (qTest (qOp (gEq false) (qVar 2) (qC (.str "open")))) (tAnd' (qTest (qOp (gEq false) (qCB gLen (qCons (qVar 3) qNil)) (qC (.int 1)))) (qTest (qOp (gEq true) (qOp gIx (qVar 3) (qC (.int 0))) (qOp gIx (qVar 4) (qC (.int 0))))))) (sRet (qC (.bool false))) sNil)
  (sSeq (sIf (tAnd' (qTest (qOp (gEq false) (qVar 2) (qC (.str "open")))) (tAnd' (qTest (qOp (gI (gCmp fun i j => decide (j < i))) (qCB gLen (qCons (qVar 3) qNil)) (qC (.int 1)))) (qTest (qOp gLt (qOp gIx (qVar 4) (qNeg (qC (.int 1)))) (qOp gIx (qVar 4) (qC (.int 0))))))) (sRet (qC (.bool false))) sNil)
  (sDrop (qMO 1 gAppend (qCons (qTup (qCons (qVM "list" gIndex (qF (fLst (qCons (qC (.str "open")) (qCons (qC (.str "ring")) qNil)))) (qCons (qVar 2) qNil)) (qCons (qOp gIx (qVar 4) (qC (.int 0))) qNil))) qNil))))))))
  (sRet (qOp (gEq false) (qVar 1) (qF (fCB gSortD (qCons (qVar 1) qNil)))))))
theorem pure_law_is_canon (fl : Option (List D)) (ds : List D) (Q : RV → Option (List D) → Prop) (_ : false = true ↔ fl ≠ none) (h : sp_law_is_canon fl ds Q) : T_law_is_canon (endsOf false Q) (startE false N_law_is_canon fl ds) := by
  obtain ⟨rfl, cs, rfl, hg, hi, k⟩ := h
  show T_law_is_canon _ [SV.dat (.tuple (cs.map stD)), SV.un, SV.un, SV.un, SV.un, SV.un]
  unfold T_law_is_canon
  have hcl : cs.length ≤ 1000 := Nat.le_trans (beads_few cs hg.1) hg.2.1
  walk_at "wp"
  refine ⟨Nat.zero_le _, ?_⟩
  refine pFor_inv (fun i env => ∃ y2 y3 y4, env = [SV.dat (.tuple (cs.map stD)), SV.own false ((cs.take i).map bgD), y2, y3, y4, SV.un]) ⟨_, _, _, rfl⟩ ?_ ?_
  · rintro i d hd env ⟨y2, y3, y4, rfl⟩ K hK
    rw [List.getElem?_map] at hd
    cases q : cs[i]? with
    | none => rw [q] at hd; cases hd
    | some s =>
      rw [q] at hd
      cases hd
      have hs := List.mem_of_getElem? q
      have hne := hg.1 s hs
      have hl := hg.len hs
      have hnm := hg.nm hs
      have hpos : 1 ≤ s.2.length := by
        cases q : s.2 with
        | nil => exact absurd q hne
        | cons a b => simp
      have e : stD s = .tuple [kindD s.1, .tuple (s.2.map bdD)] := rfl
      have fs := hi.1 s hs
      rw [e]
      simp only [gT, gsC, gsN, gN, ex_tupv, ex_consv, itemsOf_t, seqOf_t, ex_some, List.set_cons_succ, List.set_cons_zero, List.length_cons, List.length_nil, true_and, eq_self, Nat.reduceAdd, bindS, mapS]
      refine ⟨by decide, by decide, ?_⟩
      let I : List SV → Prop := fun env => env = [SV.dat (.tuple (cs.map stD)), SV.own false ((cs.take i).map bgD), SV.dat (kindD s.1), SV.dat (.tuple (s.2.map bdD)), SV.dat (.list (s.2.map fun b => PyData.str b.2)), SV.un]
      have f0 : (s.2.map fun b => PyData.str b.2)[0]? = some (.str (fnm s.2)) := by
        cases q : s.2 with
        | nil => exact absurd q hne
        | cons a r => rfl
      have fl : atI (s.2.map fun b => PyData.str b.2) (-1) = some (.str (lastB s.2).2) := by
        refine atI_neg1 ?_
        rw [List.getLast?_map]
        unfold lastB
        rw [List.getLast?_eq_some_getLast hne, List.getLastD_eq_getLast?, List.getLast?_eq_some_getLast hne]
        rfl
      have b0 := first_ix hne
      have kr : gEq false (kindD s.1) (.str (Str.ofString "ring")) = some (.bool s.1) := by
        show gEq false (.str (if s.1 = true then Str.ofString "ring" else Str.ofString "open")) _ = _
        rw [gEq_ss]
        have h : ((if s.1 = true then Str.ofString "ring" else Str.ofString "open") == Str.ofString "ring") = s.1 := by cases s.1 <;> decide +kernel
        rw [h]
      have ko : gEq false (kindD s.1) (.str (Str.ofString "open")) = some (.bool (!s.1)) := by
        show gEq false (.str (if s.1 = true then Str.ofString "ring" else Str.ofString "open")) _ = _
        rw [gEq_ss]
        have h : ((if s.1 = true then Str.ofString "ring" else Str.ofString "open") == Str.ofString "open") = (!s.1) := by cases s.1 <;> decide +kernel
        rw [h]
      refine cut_seq I ?_ fun nx hnx => ?_
      rotate_left
      · walk_at "wp"
        refine ⟨by rw [List.length_map]; omega, ?_⟩
        refine map_comp (f := fun b => PyData.str b.2) (fun b hb K hK => ?_) ?_
        · have hbn := hnm b hb
          walk_at "wp"
          exact ⟨rfl, _, gStripC_bd b hbn, hK⟩
        walk_at "wp"
        exact hnx _ rfl
      rintro env rfl
      refine cut_seq I ?_ fun nx hnx => ?_
      rotate_left
      · walk_at "wp"
        refine ⟨_, kr, _, rfl, ?_⟩
        by_cases hr : s.1 = true
        · rw [if_pos hr]
          have hf := fs.2 hr
          have hmin : gBestL W.minD [.list (s.2.map fun b => PyData.str b.2)] = some (.str (fnm s.2)) := by
            obtain ⟨a, r, ea⟩ := List.exists_cons_of_ne_nil hne
            have e1 : s.2.map (fun b => PyData.str b.2) = ((a :: r).map Prod.snd).map PyData.str := by rw [ea, List.map_map]; rfl
            rw [e1]
            have e2 := gMinL_strs a.2 (r.map Prod.snd)
            have e3 : minS a.2 (r.map Prod.snd) = fnm s.2 := by
              have h1 := minS_le a.2 (r.map Prod.snd) a.2 List.mem_cons_self
              obtain ⟨b, hb, hb2⟩ := List.mem_map.mp (show minS a.2 (r.map Prod.snd) ∈ (a :: r).map Prod.snd from minS_mem _ _)
              have h2 := hf.2 b (by rw [ea]; exact hb)
              rw [hb2] at h2
              have h3 : fnm s.2 = a.2 := by rw [ea]; rfl
              show _ = fnm s.2
              have h2 : leS (fnm s.2) (minS a.2 (r.map Prod.snd)) := h2
              rw [h3] at h2 ⊢
              exact ltS_tri h2 h1
            rw [e3] at e2
            exact e2
          have hb0 : bdD (firstB s.2) = .str (fnm s.2) := by
            unfold bdD bdS
            rw [if_neg (by rw [hf.1]; decide)]
            rfl
          refine ⟨_, f0, _, hmin, _, gNe_same _, _, rfl, ?_⟩
          rw [if_neg (by decide)]
          refine ⟨_, b0, _, f0, ?_⟩
          rw [hb0]
          refine ⟨_, gNe_same _, _, rfl, ?_⟩
          rw [if_neg (by decide)]
          exact hnx _ rfl
        · rw [if_neg hr]
          first | exact hnx _ rfl | (rw [if_neg (by decide)]; exact hnx _ rfl)
      rintro env rfl
      refine cut_seq I ?_ fun nx hnx => ?_
      rotate_left
      · walk_at "wp"
        refine ⟨_, ko, _, rfl, ?_⟩
        by_cases hr : (!s.1) = true
        · rw [if_pos hr]
          have hf := fs.1 (by simpa using hr)
          by_cases h1 : s.2.length = 1
          · have hb0 : bdD (firstB s.2) = .str (fnm s.2) := by
              unfold bdD bdS
              rw [if_neg (by rw [hf.1 h1]; decide)]
              rfl
            rw [if_pos (by rw [List.length_map]; omega)]
            refine ⟨_, b0, _, f0, ?_⟩
            rw [hb0]
            refine ⟨_, gNe_same _, _, rfl, ?_⟩
            rw [if_neg (by decide)]
            exact hnx _ rfl
          · rw [if_neg (by rw [List.length_map]; omega)]
            first | exact hnx _ rfl | (rw [if_neg (by decide)]; exact hnx _ rfl)
        · rw [if_neg hr]
          first | exact hnx _ rfl | (rw [if_neg (by decide)]; exact hnx _ rfl)
      rintro env rfl
      refine cut_seq I ?_ fun nx hnx => ?_
      rotate_left
      · walk_at "wp"
        refine ⟨_, ko, _, rfl, ?_⟩
        by_cases hr : (!s.1) = true
        · rw [if_pos hr]
          have hf := fs.1 (by simpa using hr)
          by_cases h1 : 1 < s.2.length
          · rw [if_pos (by rw [List.length_map]; omega)]
            refine ⟨_, fl, _, f0, ?_⟩
            walk_at "wp"
            have h2 : ltS (lastB s.2).2 (fnm s.2) = false := hf.2 h1
            rw [h2]
            rw [if_neg (by decide)]
            exact hnx _ rfl
          · rw [if_neg (by rw [List.length_map]; omega)]
            first | exact hnx _ rfl | (rw [if_neg (by decide)]; exact hnx _ rfl)
        · rw [if_neg hr]
          first | exact hnx _ rfl | (rw [if_neg (by decide)]; exact hnx _ rfl)
      rintro env rfl
      walk_at "wp"
      have e5 : (cs.take i).map bgD ++ [PyData.tuple [.int (if s.1 = true then 1 else 0), .str (fnm s.2)]] = (cs.take (i + 1)).map bgD := by
        rw [List.take_add_one, q, List.map_append]
        rfl
      refine ⟨sizeL (by decide), rfl, _, gIndex_kind s.1, _, f0, sizeL (by decide), by rw [List.length_map, List.length_take, sizeLine_eq]; omega, ?_⟩
      rw [e5]
      exact hK _ ⟨_, _, _, rfl⟩
  · rintro env ⟨y2, y3, y4, rfl⟩
    rw [List.length_map, List.take_length]
    walk_at "wp"
    rw [gSortD_ok (okSort_bg cs), srt_bg hi.2]
    walk_at "wp"
    rw [gEq_self (fun x hx => by obtain ⟨s, _, rfl⟩ := List.mem_map.mp hx; exact okI_bg s) (by
      simp only [W.alike]
      exact alike_list fun x hx => by obtain ⟨s, _, rfl⟩ := List.mem_map.mp hx; rfl)]
    walk_at "wp"
    exact k

end Sw

open PySem PySem.Spec L2 Sw
namespace Sw
/-! ### one canon -/
theorem sub_nodup {ss : List Strand} (h : ((beadsOf ss).map Prod.snd).Nodup) {s : Strand} (hs : s ∈ ss) : (s.2.map Prod.snd).Nodup := by
  obtain ⟨a, b, rfl⟩ := List.append_of_mem hs
  rw [beadsOf_app, List.map_append] at h
  have h1 := (List.nodup_append.mp h).2.1
  have h1 : ((s.2 ++ beadsOf b).map Prod.snd).Nodup := h1
  rw [List.map_append] at h1
  exact (List.nodup_append.mp h1).1
theorem one_strand : ∀ {ss : List Strand}, ((beadsOf ss).map Prod.snd).Nodup → ∀ {s t : Strand}, s ∈ ss → t ∈ ss → ∀ {x y : Bead}, x ∈ s.2 → y ∈ t.2 → x.2 = y.2 → s = t
  | [], _, _, _, h, _, _, _, _, _, _ => nomatch h
  | u :: r, h, s, t, hs, ht, x, y, hx, hy, e => by
    have h : ((u.2 ++ beadsOf r).map Prod.snd).Nodup := h
    rw [List.map_append] at h
    obtain ⟨_, h2, h3⟩ := List.nodup_append.mp h
    rcases List.mem_cons.mp hs with e1 | hs2
    · rcases List.mem_cons.mp ht with e2 | ht2
      · rw [e1, e2]
      · exfalso
        rw [e1] at hx
        exact h3 x.2 (List.mem_map_of_mem hx) y.2 (List.mem_map_of_mem (mem_beadsOf ht2 hy)) e
    · rcases List.mem_cons.mp ht with e2 | ht2
      · exfalso
        rw [e2] at hy
        exact h3 y.2 (List.mem_map_of_mem hy) x.2 (List.mem_map_of_mem (mem_beadsOf hs2 hx)) e.symm
      · exact one_strand h2 hs2 ht2 hx hy e
theorem canon_uniq {cs ds : List Strand} (h : Equ cs ds) (hc : InForm cs) (hd : InForm ds) (gc : ∀ s ∈ cs, s.2 ≠ []) (hn : ((beadsOf cs).map Prod.snd).Nodup) : cs = ds := by
  obtain ⟨_, _, gd⟩ := equ_facts h gc
  obtain ⟨us, p, a⟩ := h
  have e : us = ds := a.eq_of fun u hu d hd' q => form_uniq q (hc.1 u (p.mem_iff.mp hu)) (hd.1 d hd') (gc u (p.mem_iff.mp hu)) (gd d hd') (sub_nodup hn (p.mem_iff.mp hu))
  rw [e] at p
  refine perm_eq_mem (r := leK) (fun s hs t ht h1 h2 => ?_) p.symm hc.2 hd.2
  have hk : s.1 = t.1 ∧ fnm s.2 = fnm t.2 := by
    rcases h1 with ⟨a1, a2⟩ | ⟨a1, a2⟩
    · rcases h2 with ⟨b1, b2⟩ | ⟨b1, b2⟩
      · rw [b1] at a2; cases a2
      · rw [a1, a2] at b1; cases b1
    · rcases h2 with ⟨b1, b2⟩ | ⟨b1, b2⟩
      · rw [b1, b2] at a1; cases a1
      · exact ⟨a1, ltS_tri b2 a2⟩
  exact one_strand hn hs ht (first_mem (gc s hs)) (first_mem (gc t ht)) hk.2
theorem okA_sts (n : Nat) {ss : List Strand} (h : GoodS ss) : okA (n + 3) (.tuple (ss.map stD)) := by
  have hsl : ss.length ≤ 1000 := Nat.le_trans (beads_few ss h.1) h.2.1
  refine ⟨by rw [List.length_map]; omega, fun x hx => ?_⟩
  obtain ⟨s, hs, rfl⟩ := List.mem_map.mp hx
  exact okA_st n (by have := h.len hs; omega)
theorem gNe_J {js : List D} (h : ∀ j ∈ js, IsJ j) : gEq true (.tuple (srtD js)) (.tuple (srtD js)) = some (.bool false) := by
  have hJ : ∀ j ∈ srtD js, IsJ j := fun j hj => h j ((srtD_perm _).mem_iff.mp hj)
  have ho : okD (.tuple (srtD js)) = true := (okD_list fun x hx => okI_J (hJ x hx)).2
  have he : PyData.eqv (.tuple (srtD js)) (.tuple (srtD js)) = true := W.eqv_refl_alike _ (by simp only [W.alike]; exact alike_list fun x hx => alike_J (hJ x hx) (hJ x hx))
  show (if okD (.tuple (srtD js)) = true ∧ okD (.tuple (srtD js)) = true then some (PyData.bool (!PyData.eqv (.tuple (srtD js)) (.tuple (srtD js)))) else none) = _
  rw [if_pos ⟨ho, ho⟩, he]
  rfl

end Sw

open PySem PySem.Spec L2 Sw
namespace Sw
/-! ### each end stands once -/
def tupE : D → List D
  | .tuple es => es
  | _ => []
def lr (b : Bead) : List D := [lE b, rE b]
theorem adj_ends : ∀ {bs : List Bead}, bs ≠ [] → (lE (firstB bs) :: ((adjJ bs).flatMap tupE ++ [rE (lastB bs)])).Perm (bs.flatMap lr)
  | [], h => absurd rfl h
  | [a], _ => List.Perm.refl _
  | a :: b :: r, _ => by
    have ih := adj_ends (bs := b :: r) (by simp)
    rw [adjJ_cons, last_cons (a := a) (r := b :: r) (by simp)]
    show (lE a :: (tupE (jt (rE a) (lE b)) ++ (adjJ (b :: r)).flatMap tupE ++ [rE (lastB (b :: r))])).Perm (lE a :: rE a :: (b :: r).flatMap lr)
    refine List.Perm.cons _ ?_
    have h1 : (tupE (jt (rE a) (lE b))).Perm [rE a, lE b] := srtD_perm _
    rw [List.append_assoc]
    exact (h1.append_right _).trans (ih.cons _)
theorem str_ends {s : Strand} (h : s.2 ≠ []) : ((strJ s).flatMap tupE).Perm (s.2.flatMap lr) := by
  refine List.Perm.trans ?_ (adj_ends h)
  unfold strJ
  rw [List.flatMap_append]
  have hc : ((closeJ s).flatMap tupE).Perm ([rE (lastB s.2)] ++ [lE (firstB s.2)]) := by
    unfold closeJ
    split
    · have h1 : (tupE (jt (rE (lastB s.2)) (lE (firstB s.2)))).Perm [rE (lastB s.2), lE (firstB s.2)] := srtD_perm _
      simpa using h1
    · exact List.Perm.swap _ _ _
  refine (hc.append_left _).trans ?_
  rw [← List.append_assoc]
  exact List.perm_append_comm
theorem jts_ends : ∀ {ss : List Strand}, (∀ s ∈ ss, s.2 ≠ []) → ((jts ss).flatMap tupE).Perm ((beadsOf ss).flatMap lr)
  | [], _ => List.Perm.refl _
  | s :: r, h => by
    show ((strJ s ++ jts r).flatMap tupE).Perm ((s.2 ++ beadsOf r).flatMap lr)
    rw [List.flatMap_append, List.flatMap_append]
    exact (str_ends (h s List.mem_cons_self)).append (jts_ends fun x hx => h x (List.mem_cons_of_mem _ hx))
theorem two_maps {α : Type} {f g : α → D} : ∀ xs : List α, (xs.flatMap fun x => [f x, g x]).Perm (xs.map f ++ xs.map g)
  | [] => List.Perm.refl _
  | x :: r => by
    show (f x :: g x :: r.flatMap fun x => [f x, g x]).Perm (f x :: (r.map f ++ g x :: r.map g))
    refine List.Perm.cons _ ?_
    refine ((two_maps r).cons _).trans ?_
    exact List.perm_middle.symm
theorem lr_ends : ∀ bs : List Bead, (bs.flatMap lr).Perm ((bs.map Prod.snd).flatMap fun z => [endD z 0, endD z 1])
  | [] => List.Perm.refl _
  | (t, z) :: r => by
    have ih := lr_ends r
    show (lr (t, z) ++ r.flatMap lr).Perm ([endD z 0, endD z 1] ++ _)
    refine List.Perm.append ?_ ih
    cases t with
    | false => exact List.Perm.refl _
    | true => exact List.Perm.swap _ _ _
/-! ### joints tell the set -/
theorem uniq_flat {f : D → List D} : ∀ {js : List D}, (js.flatMap f).Nodup → ∀ {i j : D}, i ∈ js → j ∈ js → ∀ {e : D}, e ∈ f i → e ∈ f j → i = j
  | [], _, _, _, h, _, _, _, _ => nomatch h
  | x :: r, h, i, j, hi, hj, e, h1, h2 => by
    have h : (f x ++ r.flatMap f).Nodup := h
    obtain ⟨_, h3, h4⟩ := List.nodup_append.mp h
    rcases List.mem_cons.mp hi with a | a
    · rcases List.mem_cons.mp hj with b | b
      · rw [a, b]
      · exfalso
        rw [a] at h1
        exact h4 e h1 e (List.mem_flatMap.mpr ⟨j, b, h2⟩) rfl
    · rcases List.mem_cons.mp hj with b | b
      · exfalso
        rw [b] at h2
        exact h4 e h2 e (List.mem_flatMap.mpr ⟨i, a, h1⟩) rfl
      · exact uniq_flat h3 a b h1 h2
theorem nodup_map_inj {α β : Type} {f : α → β} (hf : ∀ a b, f a = f b → a = b) : ∀ {xs : List α}, xs.Nodup → (xs.map f).Nodup
  | [], _ => List.nodup_nil
  | x :: r, h => by
    obtain ⟨h1, h2⟩ := List.nodup_cons.mp h
    rw [List.map_cons, List.nodup_cons]
    refine ⟨fun hm => ?_, nodup_map_inj hf h2⟩
    obtain ⟨y, hy, e⟩ := List.mem_map.mp hm
    exact h1 (hf _ _ e ▸ hy)
theorem endD_inj {z w : Str} {s t : Int} (h : endD z s = endD w t) : z = w ∧ s = t := by
  unfold endD at h
  injection h with h
  injection h with h1 h
  injection h1 with h1
  injection h with h2 _
  injection h2 with h2
  exact ⟨h1, h2⟩
theorem ends_nodup {ns : List Str} (h : ns.Nodup) : (ns.map (fun z => endD z 0) ++ ns.map fun z => endD z 1).Nodup := by
  refine List.nodup_append.mpr ⟨nodup_map_inj (fun a b e => (endD_inj e).1) h, nodup_map_inj (fun a b e => (endD_inj e).1) h, fun a ha b hb e => ?_⟩
  obtain ⟨z, _, rfl⟩ := List.mem_map.mp ha
  obtain ⟨w, _, rfl⟩ := List.mem_map.mp hb
  have := (endD_inj e).2
  omega
theorem all_ends' {ss : List Strand} {ns : List Str} (h : ∀ s ∈ ss, s.2 ≠ []) (p : ((beadsOf ss).map Prod.snd).Perm ns) : ((jts ss).flatMap tupE).Perm (ns.map (fun z => endD z 0) ++ ns.map fun z => endD z 1) :=
  (jts_ends h).trans ((lr_ends _).trans ((p.flatMap_right _).trans (two_maps ns)))
theorem jts_nodup {ss : List Strand} (h : ∀ s ∈ ss, s.2 ≠ []) (hn : ((beadsOf ss).map Prod.snd).Nodup) : ((jts ss).flatMap tupE).Nodup := (all_ends' h (List.Perm.refl _)).nodup_iff.mpr (ends_nodup hn)
/-- two joints with one end are one -/
structure JN (J : D → Prop) : Prop where
  uniq : ∀ {i j e : D}, J i → J j → e ∈ tupE i → e ∈ tupE j → i = j
theorem jn_of {ss : List Strand} (h : ∀ s ∈ ss, s.2 ≠ []) (hn : ((beadsOf ss).map Prod.snd).Nodup) : JN fun j => j ∈ jts ss := ⟨fun hi hj h1 h2 => uniq_flat (jts_nodup h hn) hi hj h1 h2⟩
theorem mem_jt {x y : D} : x ∈ tupE (jt x y) ∧ y ∈ tupE (jt x y) := by
  have h : (tupE (jt x y)).Perm [x, y] := srtD_perm _
  exact ⟨h.mem_iff.mpr List.mem_cons_self, h.mem_iff.mpr (List.mem_cons_of_mem _ List.mem_cons_self)⟩
theorem jt_len (x y : D) : (tupE (jt x y)).length = 2 := srtD_len [x, y]
theorem jt_right {x y z : D} (h : jt x y = jt x z) : y = z := by
  have h : srtD [x, y] = srtD [x, z] := by
    unfold jt at h
    injection h
  have p : [x, y].Perm [x, z] := (srtD_perm _).symm.trans (h ▸ srtD_perm _)
  have := (List.perm_cons x).mp p
  simpa using this
theorem lE_inj {a b : Bead} (h : lE a = lE b) : a = b := by
  obtain ⟨t, z⟩ := a
  obtain ⟨u, w⟩ := b
  obtain ⟨h1, h2⟩ := endD_inj h
  have h1 : z = w := h1
  subst h1
  cases t <;> cases u <;> first | rfl | (simp at h2)
theorem one_ne_jt {x y z : D} : PyData.tuple [x] ≠ jt y z := fun e => by
  have := jt_len y z
  rw [← e] at this
  cases this
/-- rows that begin alike and end free are alike -/
theorem open_match {J : D → Prop} (U : JN J) : ∀ {A B : List Bead} {a : Bead}, (∀ j ∈ adjJ (a :: A), J j) → J (.tuple [rE (lastB (a :: A))]) → (∀ j ∈ adjJ (a :: B), J j) → J (.tuple [rE (lastB (a :: B))]) → A = B
  | [], [], _, _, _, _, _ => rfl
  | [], b :: B, a, _, h2, h3, _ => by
    have h := U.uniq h2 (h3 (jt (rE a) (lE b)) List.mem_cons_self) (e := rE a) (by show rE a ∈ [rE a]; exact List.mem_cons_self) mem_jt.1
    exact absurd h one_ne_jt
  | x :: A, [], a, h1, _, _, h4 => by
    have h := U.uniq h4 (h1 (jt (rE a) (lE x)) List.mem_cons_self) (e := rE a) (by show rE a ∈ [rE a]; exact List.mem_cons_self) mem_jt.1
    exact absurd h one_ne_jt
  | x :: A, y :: B, a, h1, h2, h3, h4 => by
    have h := U.uniq (h1 (jt (rE a) (lE x)) List.mem_cons_self) (h3 (jt (rE a) (lE y)) List.mem_cons_self) mem_jt.1 mem_jt.1
    have e : x = y := lE_inj (jt_right h)
    subst e
    rw [last_cons (by simp)] at h2 h4
    rw [open_match U (fun j hj => h1 j (List.mem_cons_of_mem _ hj)) h2 (fun j hj => h3 j (List.mem_cons_of_mem _ hj)) h4]
/-- rows that begin alike and close to one bead are alike -/
theorem ring_match {J : D → Prop} (U : JN J) {c : Bead} : ∀ {A B : List Bead} {a : Bead}, c ∉ A → c ∉ B → (∀ j ∈ adjJ (a :: A), J j) → J (jt (rE (lastB (a :: A))) (lE c)) → (∀ j ∈ adjJ (a :: B), J j) → J (jt (rE (lastB (a :: B))) (lE c)) → A = B
  | [], [], _, _, _, _, _, _, _ => rfl
  | [], b :: B, a, _, nb, _, h2, h3, _ => by
    have h := U.uniq h2 (h3 (jt (rE a) (lE b)) List.mem_cons_self) (e := rE a) mem_jt.1 mem_jt.1
    have e : c = b := lE_inj (jt_right h)
    exact absurd (e ▸ List.mem_cons_self) nb
  | x :: A, [], a, na, _, h1, _, _, h4 => by
    have h := U.uniq h4 (h1 (jt (rE a) (lE x)) List.mem_cons_self) (e := rE a) mem_jt.1 mem_jt.1
    have e : c = x := lE_inj (jt_right h)
    exact absurd (e ▸ List.mem_cons_self) na
  | x :: A, y :: B, a, na, nb, h1, h2, h3, h4 => by
    have h := U.uniq (h1 (jt (rE a) (lE x)) List.mem_cons_self) (h3 (jt (rE a) (lE y)) List.mem_cons_self) mem_jt.1 mem_jt.1
    have e : x = y := lE_inj (jt_right h)
    subst e
    rw [last_cons (by simp)] at h2 h4
    rw [ring_match U (fun z => na (List.mem_cons_of_mem _ z)) (fun z => nb (List.mem_cons_of_mem _ z)) (fun j hj => h1 j (List.mem_cons_of_mem _ hj)) h2 (fun j hj => h3 j (List.mem_cons_of_mem _ hj)) h4]
/-- a ring and a free row do not begin alike -/
theorem no_match {J : D → Prop} (U : JN J) {c : Bead} : ∀ {A B : List Bead} {a : Bead}, c ∉ B → (∀ j ∈ adjJ (a :: A), J j) → J (jt (rE (lastB (a :: A))) (lE c)) → (∀ j ∈ adjJ (a :: B), J j) → J (.tuple [rE (lastB (a :: B))]) → False
  | [], [], a, _, _, h2, _, h4 => one_ne_jt (U.uniq h4 h2 (e := rE a) (by show rE a ∈ [rE a]; exact List.mem_cons_self) mem_jt.1)
  | [], b :: B, a, nb, _, h2, h3, _ => by
    have h := U.uniq h2 (h3 (jt (rE a) (lE b)) List.mem_cons_self) (e := rE a) mem_jt.1 mem_jt.1
    have e : c = b := lE_inj (jt_right h)
    exact nb (e ▸ List.mem_cons_self)
  | x :: A, [], a, _, h1, _, _, h4 => one_ne_jt (U.uniq h4 (h1 (jt (rE a) (lE x)) List.mem_cons_self) (e := rE a) (by show rE a ∈ [rE a]; exact List.mem_cons_self) mem_jt.1)
  | x :: A, y :: B, a, nb, h1, h2, h3, h4 => by
    have h := U.uniq (h1 (jt (rE a) (lE x)) List.mem_cons_self) (h3 (jt (rE a) (lE y)) List.mem_cons_self) mem_jt.1 mem_jt.1
    have e : x = y := lE_inj (jt_right h)
    subst e
    rw [last_cons (by simp)] at h2 h4
    exact no_match U (fun z => nb (List.mem_cons_of_mem _ z)) (fun j hj => h1 j (List.mem_cons_of_mem _ hj)) h2 (fun j hj => h3 j (List.mem_cons_of_mem _ hj)) h4

end Sw

open PySem PySem.Spec L2 Sw
namespace Sw
theorem strJ_mem {ss : List Strand} {s : Strand} (hs : s ∈ ss) : ∀ j ∈ strJ s, j ∈ jts ss := fun j hj => List.mem_flatMap.mpr ⟨s, hs, hj⟩
theorem name_or {a b : Bead} (h : b.2 = a.2) : b = a ∨ mirB b = a := by
  obtain ⟨t, z⟩ := a
  obtain ⟨u, w⟩ := b
  have h : w = z := h
  subst h
  cases t <;> cases u
  · exact .inl rfl
  · exact .inr rfl
  · exact .inr rfl
  · exact .inl rfl
theorem adj_tail {C : List Bead} {a : Bead} {D' : List Bead} : ∀ j ∈ adjJ (a :: D'), j ∈ adjJ (C ++ a :: D') := fun j hj => by
  by_cases hc : C = []
  · subst hc; exact hj
  · rw [adjJ_app hc (by simp)]
    exact List.mem_append_right _ (List.mem_cons_of_mem _ hj)
theorem not_mem_of_nodup {a : Bead} {A : List Bead} (h : ((a :: A).map Prod.snd).Nodup) : a ∉ A := fun hm => by
  rw [List.map_cons, List.nodup_cons] at h
  exact h.1 (List.mem_map_of_mem hm)
/-- each strand of the one set is one of the other -/
theorem match_one {ss ts : List Strand} (hs : ∀ s ∈ ss, s.2 ≠ []) (ht : ∀ t ∈ ts, t.2 ≠ []) (hn : ((beadsOf ss).map Prod.snd).Nodup) (hp : ((beadsOf ts).map Prod.snd).Perm ((beadsOf ss).map Prod.snd)) (hj : ∀ j ∈ jts ts, j ∈ jts ss) {s : Strand} (h : s ∈ ss) : ∃ t ∈ ts, EqS s t := by
  have U := jn_of hs hn
  have hnt : ((beadsOf ts).map Prod.snd).Nodup := hp.nodup_iff.mpr hn
  obtain ⟨k, bs⟩ := s
  have hne : bs ≠ [] := hs _ h
  obtain ⟨a, A, rfl⟩ := List.exists_cons_of_ne_nil hne
  have hsJ := strJ_mem h
  have hsn : ((a :: A).map Prod.snd).Nodup := sub_nodup hn h
  have ha : a.2 ∈ (beadsOf ts).map Prod.snd := hp.mem_iff.mpr (List.mem_map_of_mem (mem_beadsOf h List.mem_cons_self))
  obtain ⟨b, hb, eb⟩ := List.mem_map.mp ha
  obtain ⟨t, htm, hbt⟩ := List.mem_flatMap.mp hb
  obtain ⟨l, cs⟩ := t
  have hce : cs ≠ [] := ht _ htm
  have hcn : (cs.map Prod.snd).Nodup := sub_nodup hnt htm
  have htJ : ∀ j ∈ strJ (l, cs), j ∈ jts ss := fun j q => hj j (strJ_mem htm j q)
  -- the row of t that holds a itself
  obtain ⟨cs', hcs', hac, hn', hJ'⟩ : ∃ cs', (cs = cs' ∨ cs = mirR cs') ∧ a ∈ cs' ∧ (cs'.map Prod.snd).Nodup ∧ ∀ j ∈ strJ (l, cs'), j ∈ jts ss := by
    rcases name_or eb with e | e
    · exact ⟨cs, .inl rfl, e ▸ hbt, hcn, htJ⟩
    · refine ⟨mirR cs, .inr (mirR_mirR cs).symm, ?_, ?_, fun j q => htJ j ((strJ_mir (s := (l, cs)) hce).mem_iff.mp q)⟩
      · rw [← e]
        unfold mirR
        exact List.mem_map_of_mem (List.mem_reverse.mpr hbt)
      · rw [mirR_snd]
        exact (List.reverse_perm _).nodup_iff.mpr hcn
  obtain ⟨C, E, rfl⟩ := List.append_of_mem hac
  have hrot : ((a :: (E ++ C)).map Prod.snd).Nodup := by
    have p : (a :: (E ++ C)).Perm (C ++ a :: E) := (List.perm_append_comm (l₁ := a :: E) (l₂ := C))
    exact (p.map _).nodup_iff.mpr hn'
  refine ⟨(l, cs), htm, ?_⟩
  have adjT : ∀ j ∈ adjJ (C ++ a :: E), j ∈ jts ss := fun j q => hJ' j (List.mem_append_left _ q)
  have adjS : ∀ j ∈ adjJ (a :: A), j ∈ jts ss := fun j q => hsJ j (List.mem_append_left _ q)
  have rotJ : l = true → (∀ j ∈ adjJ (a :: (E ++ C)), j ∈ jts ss) ∧ jt (rE (lastB (a :: (E ++ C)))) (lE a) ∈ jts ss := fun hl => by
    subst hl
    have p := strJ_rot (A := C) (B := a :: E)
    have q : ∀ j ∈ strJ (true, a :: (E ++ C)), j ∈ jts ss := fun j q => hJ' j (p.mem_iff.mp q)
    exact ⟨fun j z => q j (List.mem_append_left _ z), q _ (List.mem_append_right _ (by show _ ∈ [jt (rE (lastB (a :: (E ++ C)))) (lE a)]; exact List.mem_cons_self))⟩
  cases k with
  | false =>
    have f1 : PyData.tuple [lE a] ∈ jts ss := hsJ _ (List.mem_append_right _ List.mem_cons_self)
    have f2 : PyData.tuple [rE (lastB (a :: A))] ∈ jts ss := hsJ _ (List.mem_append_right _ (List.mem_cons_of_mem _ List.mem_cons_self))
    cases l with
    | true =>
      exfalso
      exact one_ne_jt (U.uniq f1 (rotJ rfl).2 (e := lE a) (by show lE a ∈ [lE a]; exact List.mem_cons_self) mem_jt.2)
    | false =>
      have hC : C = [] := by
        cases C with
        | nil => rfl
        | cons c C =>
          exfalso
          have h1 : jt (rE (lastB (c :: C))) (lE a) ∈ jts ss := adjT _ (by rw [adjJ_app (by simp) (by simp)]; exact List.mem_append_right _ List.mem_cons_self)
          exact one_ne_jt (U.uniq f1 h1 (e := lE a) (by show lE a ∈ [lE a]; exact List.mem_cons_self) mem_jt.2)
      subst hC
      have f3 : PyData.tuple [rE (lastB (a :: E))] ∈ jts ss := hJ' _ (List.mem_append_right _ (List.mem_cons_of_mem _ List.mem_cons_self))
      have e := open_match U adjS f2 adjT f3
      subst e
      refine ⟨rfl, fun _ => hcs', fun z => nomatch z⟩
  | true =>
    have f2 : jt (rE (lastB (a :: A))) (lE a) ∈ jts ss := hsJ _ (List.mem_append_right _ (by show _ ∈ [jt (rE (lastB (a :: A))) (lE a)]; exact List.mem_cons_self))
    cases l with
    | false =>
      exfalso
      have f3 : PyData.tuple [rE (lastB (C ++ a :: E))] ∈ jts ss := hJ' _ (List.mem_append_right _ (List.mem_cons_of_mem _ List.mem_cons_self))
      rw [last_app (by simp)] at f3
      have hE : a ∉ E := fun z => not_mem_of_nodup hrot (List.mem_append_left _ z)
      exact no_match U hE adjS f2 (fun j q => adjT j (adj_tail j q)) f3
    | true =>
      have e := ring_match U (c := a) (not_mem_of_nodup hsn) (not_mem_of_nodup hrot) adjS f2 (rotJ rfl).1 (rotJ rfl).2
      refine ⟨rfl, fun z => (nomatch z), fun _ => ?_⟩
      have hr : Rot (a :: A) (C ++ a :: E) := ⟨a :: E, C, by rw [e]; rfl, rfl⟩
      rcases hcs' with q | q
      · show Cyc (a :: A) cs
        rw [q]; exact .inl hr
      · show Cyc (a :: A) cs
        rw [q]; exact .inr hr.mir
theorem strands_nodup : ∀ {ss : List Strand}, (∀ s ∈ ss, s.2 ≠ []) → ((beadsOf ss).map Prod.snd).Nodup → ss.Nodup
  | [], _, _ => List.nodup_nil
  | s :: r, hs, h => by
    have h' : ((s.2 ++ beadsOf r).map Prod.snd).Nodup := h
    rw [List.map_append] at h'
    obtain ⟨_, h2, h3⟩ := List.nodup_append.mp h'
    rw [List.nodup_cons]
    refine ⟨fun hm => ?_, strands_nodup (fun x hx => hs x (List.mem_cons_of_mem _ hx)) h2⟩
    have hf := first_mem (hs s List.mem_cons_self)
    exact h3 _ (List.mem_map_of_mem hf) _ (List.mem_map_of_mem (mem_beadsOf hm hf)) rfl
/-- the joints and the names tell the set -/
theorem equ_of_joints {ss ts : List Strand} (hs : ∀ s ∈ ss, s.2 ≠ []) (ht : ∀ t ∈ ts, t.2 ≠ []) (hn : ((beadsOf ss).map Prod.snd).Nodup) (hp : ((beadsOf ts).map Prod.snd).Perm ((beadsOf ss).map Prod.snd)) (hj : ∀ j, j ∈ jts ts ↔ j ∈ jts ss) : Equ ss ts := by
  have hnt : ((beadsOf ts).map Prod.snd).Nodup := hp.nodup_iff.mpr hn
  have m : ∀ t ∈ ts, ∃ s ∈ ss, EqS s t := fun t q => by
    obtain ⟨s, h1, h2⟩ := match_one ht hs hnt hp.symm (fun j q => (hj j).mpr q) q
    exact ⟨s, h1, h2.symm⟩
  obtain ⟨us, hu, ha⟩ : ∃ us : List Strand, (∀ u ∈ us, u ∈ ss) ∧ All2 EqS us ts := by
    clear hp hj hnt ht
    induction ts with
    | nil => exact ⟨[], fun u h => (nomatch h), .nil⟩
    | cons t r ih =>
      obtain ⟨us, h1, h2⟩ := ih fun x hx => m x (List.mem_cons_of_mem _ hx)
      obtain ⟨s, h3, h4⟩ := m t List.mem_cons_self
      refine ⟨s :: us, fun u hu => ?_, .cons h4 h2⟩
      rcases List.mem_cons.mp hu with rfl | hu
      · exact h3
      · exact h1 u hu
  have hue : ∀ u ∈ us, u.2 ≠ [] := fun u q => hs u (hu u q)
  obtain ⟨_, np, _⟩ := equ_all ha hue
  have hnu : ((beadsOf us).map Prod.snd).Nodup := np.nodup_iff.mp hnt
  refine ⟨us, (List.perm_ext_iff_of_nodup (strands_nodup hue hnu) (strands_nodup hs hn)).mpr fun s => ⟨fun q => hu s q, fun q => ?_⟩, ha⟩
  have hf := first_mem (hs s q)
  have h1 : (firstB s.2).2 ∈ (beadsOf us).map Prod.snd := (np.symm.trans hp).mem_iff.mpr (List.mem_map_of_mem (mem_beadsOf q hf))
  obtain ⟨b, hb, e⟩ := List.mem_map.mp h1
  obtain ⟨u, q1, q2⟩ := List.mem_flatMap.mp hb
  have := one_strand hn (hu u q1) q q2 hf e
  rw [← this]
  exact q1

end Sw

open PySem PySem.Spec L2 Sw
namespace Sw
/-! ### equal data -/
/-- texts, numbers, and tuples and lists of such, n deep -/
def Hn : Nat → D → Prop
  | _, .str _ => True
  | _, .int _ => True
  | n + 1, .tuple ds => ∀ d ∈ ds, Hn n d
  | n + 1, .list ds => ∀ d ∈ ds, Hn n d
  | _, _ => False
theorem eqvAll_of {n : Nat} (ih : ∀ a b, Hn n a → Hn n b → (PyData.eqv a b = true ↔ a = b)) : ∀ (xs ys : List D), (∀ d ∈ xs, Hn n d) → (∀ d ∈ ys, Hn n d) → (PyData.eqvAll xs ys = true ↔ xs = ys)
  | [], [], _, _ => by simp [PyData.eqvAll]
  | [], _ :: _, _, _ => by simp [PyData.eqvAll]
  | _ :: _, [], _, _ => by simp [PyData.eqvAll]
  | x :: xs, y :: ys, h, h' => by
    rw [PyData.eqvAll, Bool.and_eq_true, ih x y (h x List.mem_cons_self) (h' y List.mem_cons_self), eqvAll_of ih xs ys (fun d hd => h d (List.mem_cons_of_mem _ hd)) fun d hd => h' d (List.mem_cons_of_mem _ hd)]
    simp
theorem eqv_hn : ∀ (n : Nat) (a b : D), Hn n a → Hn n b → (PyData.eqv a b = true ↔ a = b) := fun n => by
  induction n with
  | zero =>
    intro a b ha hb
    cases a <;> first
      | exact ha.elim
      | (cases b <;> first
          | exact hb.elim
          | simp [PyData.eqv])
  | succ n ih =>
    intro a b ha hb
    cases a <;> first
      | exact ha.elim
      | (cases b <;> first
          | exact hb.elim
          | (rw [PyData.eqv, eqvAll_of ih _ _ ha hb]; simp; done)
          | simp [PyData.eqv])
theorem plain_all {n : Nat} : ∀ ys : List D, (∀ d ∈ ys, d.plain = true ∧ d.depth ≤ n) → PyData.plainAll ys = true ∧ PyData.depthAll ys ≤ n
  | [], _ => ⟨rfl, Nat.zero_le _⟩
  | y :: r, g => by
    obtain ⟨a, b⟩ := plain_all r fun d hd => g d (List.mem_cons_of_mem _ hd)
    obtain ⟨c, e⟩ := g y List.mem_cons_self
    refine ⟨by rw [PyData.plainAll, c, a]; rfl, ?_⟩
    rw [PyData.depthAll]
    omega
theorem Hn.plainD : ∀ (n : Nat) (d : D), Hn n d → d.plain = true ∧ d.depth ≤ n := fun n => by
  induction n with
  | zero => intro d h; cases d <;> first | exact h.elim | exact ⟨rfl, by simp [PyData.depth]⟩
  | succ n ih =>
    intro d h
    cases d <;> first
      | exact h.elim
      | exact ⟨rfl, by simp [PyData.depth]⟩
      | (obtain ⟨a, b⟩ := plain_all _ fun d hd => ih d (h d hd)
         refine ⟨a, ?_⟩
         rw [PyData.depth]
         omega)
theorem Hn.okD {n : Nat} {d : D} (h : Hn n d) (hn : n ≤ 39) : okD d = true := okD_of ⟨(Hn.plainD n d h).1, Nat.le_trans (Hn.plainD n d h).2 hn⟩
theorem gEq_hn {n : Nat} {a b : D} (neg : Bool) (ha : Hn n a) (hb : Hn n b) (hn : n ≤ 39) : gEq neg a b = some (.bool (if neg = true then !PyData.eqv a b else PyData.eqv a b)) := by
  unfold gEq
  rw [if_pos ⟨ha.okD hn, hb.okD hn⟩]
theorem eq_hn {n : Nat} {a b : D} {P : D → Prop} (ha : Hn n a) (hb : Hn n b) (hn : n ≤ 39) (h1 : a = b → P (.bool true)) (h2 : a ≠ b → P (.bool false)) : ∃ d, gEq false a b = some d ∧ P d := by
  refine ⟨_, gEq_hn false ha hb hn, ?_⟩
  rw [if_neg (by decide)]
  by_cases e : a = b
  · rw [(eqv_hn n a b ha hb).mpr e]; exact h1 e
  · have : PyData.eqv a b = false := by rw [← Bool.not_eq_true, eqv_hn n a b ha hb]; exact e
    rw [this]; exact h2 e
theorem ne_hn {n : Nat} {a b : D} {P : D → Prop} (ha : Hn n a) (hb : Hn n b) (hn : n ≤ 39) (h1 : a = b → P (.bool false)) (h2 : a ≠ b → P (.bool true)) : ∃ d, gEq true a b = some d ∧ P d := by
  refine ⟨_, gEq_hn true ha hb hn, ?_⟩
  rw [if_pos rfl]
  by_cases e : a = b
  · rw [(eqv_hn n a b ha hb).mpr e]; exact h1 e
  · have : PyData.eqv a b = false := by rw [← Bool.not_eq_true, eqv_hn n a b ha hb]; exact e
    rw [this]; exact h2 e
/-! the data of the program's things -/
theorem hn_str (n : Nat) (z : Str) : Hn n (.str z) := by cases n <;> trivial
theorem hn_int (n : Nat) (z : Int) : Hn n (.int z) := by cases n <;> trivial
theorem hn_bd (n : Nat) (b : Bead) : Hn n (bdD b) := hn_str n _
theorem hn_bds (n : Nat) (bs : List Bead) : Hn (n + 1) (.tuple (bs.map bdD)) := fun d hd => by
  obtain ⟨b, _, rfl⟩ := List.mem_map.mp hd
  exact hn_bd n b
theorem hn_bdsL (n : Nat) (bs : List Bead) : Hn (n + 1) (.list (bs.map bdD)) := fun d hd => by
  obtain ⟨b, _, rfl⟩ := List.mem_map.mp hd
  exact hn_bd n b
theorem hn_st (n : Nat) (s : Strand) : Hn (n + 2) (stD s) := fun d hd => by
  rcases List.mem_cons.mp hd with rfl | hd
  · exact hn_str _ _
  · rw [List.mem_singleton.mp hd]
    exact hn_bds n _
theorem hn_sts (n : Nat) (ss : List Strand) : Hn (n + 3) (.tuple (ss.map stD)) := fun d hd => by
  obtain ⟨s, _, rfl⟩ := List.mem_map.mp hd
  exact hn_st n s
theorem hn_E {x : D} (h : IsE x) (n : Nat) : Hn (n + 1) x := by
  obtain ⟨z, s, rfl⟩ := h
  intro d hd
  rcases List.mem_cons.mp hd with rfl | hd
  · exact hn_str _ _
  · rw [List.mem_singleton.mp hd]
    exact hn_int _ _
theorem hn_J {x : D} (h : IsJ x) (n : Nat) : Hn (n + 2) x := by
  obtain ⟨es, rfl, h, _⟩ := h
  exact fun d hd => hn_E (h d hd) n
theorem hn_Js {js : List D} (h : ∀ j ∈ js, IsJ j) (n : Nat) : Hn (n + 3) (.tuple js) := fun d hd => hn_J (h d hd) n
theorem srtD_mem {js : List D} {j : D} : j ∈ srtD js ↔ j ∈ js := (srtD_perm js).mem_iff
theorem hn_SJs {js : List D} (h : ∀ j ∈ js, IsJ j) (n : Nat) : Hn (n + 3) (.tuple (srtD js)) := hn_Js (fun j hj => h j (srtD_mem.mp hj)) n
theorem dash_inj {x y : Str} (h : Str.ofString "-" ++ x = Str.ofString "-" ++ y) : x = y := by
  have := congrArg (fun z => z.cps.toList) h
  simp only [tl_app] at this
  exact ext_tl (List.append_cancel_left this)
theorem bdS_inj {a b : Bead} (ha : Nm a.2) (hb : Nm b.2) (h : bdS a = bdS b) : a = b := by
  obtain ⟨c, h1, h2⟩ := bd_get0 a ha
  obtain ⟨d, h3, h4⟩ := bd_get0 b hb
  rw [h, h3] at h1
  cases h1
  obtain ⟨s, x⟩ := a
  obtain ⟨t, y⟩ := b
  have e : (s = true) ↔ (t = true) := h2.symm.trans h4
  have e : s = t := by cases s <;> cases t <;> simp_all
  subst e
  cases s with
  | true => exact congrArg _ (dash_inj h)
  | false => exact congrArg _ h
theorem map_inj_on {α : Type} {f : α → D} : ∀ {xs ys : List α}, (∀ x ∈ xs, ∀ y ∈ ys, f x = f y → x = y) → xs.map f = ys.map f → xs = ys
  | [], [], _, _ => rfl
  | [], _ :: _, _, h => by cases h
  | _ :: _, [], _, h => by cases h
  | x :: xs, y :: ys, hi, h => by
    rw [List.map_cons, List.map_cons] at h
    injection h with h1 h2
    rw [hi x List.mem_cons_self y List.mem_cons_self h1, map_inj_on (fun a ha b hb => hi a (List.mem_cons_of_mem _ ha) b (List.mem_cons_of_mem _ hb)) h2]
theorem bdD_inj {a b : Bead} (ha : Nm a.2) (hb : Nm b.2) (h : bdD a = bdD b) : a = b := bdS_inj ha hb (by injection h)
theorem bds_inj {as bs : List Bead} (ha : ∀ a ∈ as, Nm a.2) (hb : ∀ b ∈ bs, Nm b.2) (h : as.map bdD = bs.map bdD) : as = bs := map_inj_on (fun a q b r e => bdD_inj (ha a q) (hb b r) e) h
theorem kind_inj {k l : Bool} (h : (if k = true then Str.ofString "ring" else Str.ofString "open") = if l = true then Str.ofString "ring" else Str.ofString "open") : k = l := by
  revert h
  cases k <;> cases l <;> first | (intro _; rfl) | (intro h; exact absurd h (by decide +kernel))
theorem stD_inj {s t : Strand} (hs : ∀ a ∈ s.2, Nm a.2) (ht : ∀ a ∈ t.2, Nm a.2) (h : stD s = stD t) : s = t := by
  obtain ⟨k, as⟩ := s
  obtain ⟨l, bs⟩ := t
  unfold stD at h
  injection h with h
  injection h with h1 h
  injection h with h2 _
  injection h2 with h2
  have e : as = bs := bds_inj hs ht h2
  subst e
  injection h1 with h1
  exact congrArg (fun x => (x, as)) (kind_inj h1)
theorem sts_inj {ss ts : List Strand} (hs : GoodS ss) (ht : GoodS ts) (h : ss.map stD = ts.map stD) : ss = ts := map_inj_on (fun s q t r e => stD_inj (hs.nm q) (ht.nm r) e) h
/-! ### the same set -/
def sp_same : PSp := fun fl ds Q => fl = none ∧ ∃ ss ts, ds = [.tuple (ss.map stD), .tuple (ts.map stD)] ∧ GoodS ss ∧ GoodS ts ∧ ((beadsOf ss).map Prod.snd).Nodup ∧ ((beadsOf ts).map Prod.snd).Perm ((beadsOf ss).map Prod.snd) ∧ ∀ b : Bool, (b = true ↔ srtD (jts ss) = srtD (jts ts)) → Q (.dt (.bool b)) none
/-! same level 5 -/
abbrev N_same : List Str := ["one", "other"]
def T_same : PS' := (sRet (qOp (gEq false) (qCall sp_canon (qAddD (qCons (qVar 0) qNil) [])) (qCall sp_canon (qAddD (qCons (qVar 1) qNil) []))))
theorem same_iff {ss ts cs ds : List Strand} (gs : GoodS ss) (gt : GoodS ts) (hn : ((beadsOf ss).map Prod.snd).Nodup) (hp : ((beadsOf ts).map Prod.snd).Perm ((beadsOf ss).map Prod.snd)) (h1 : Equ ss cs) (h2 : InForm cs) (h3 : Equ ts ds) (h4 : InForm ds) : cs = ds ↔ srtD (jts ss) = srtD (jts ts) := by
  obtain ⟨j1, j2, j3⟩ := equ_facts h1 gs.1
  obtain ⟨k1, k2, k3⟩ := equ_facts h3 gt.1
  constructor
  · rintro rfl
    exact (srtD_congr (allAlikeJ (jts_isJ ss)) j1).symm.trans (srtD_congr (allAlikeJ (jts_isJ ts)) k1)
  · intro h
    have hm : ∀ j, j ∈ jts ts ↔ j ∈ jts ss := fun j => by rw [← srtD_mem (js := jts ts), ← h, srtD_mem]
    have e := equ_of_joints gs.1 gt.1 hn hp hm
    exact canon_uniq (h1.symm.trans (e.trans h3)) h2 h4 j3 (j2.nodup_iff.mpr hn)
theorem pure_same (fl : Option (List D)) (ds : List D) (Q : RV → Option (List D) → Prop) (_ : false = true ↔ fl ≠ none) (h : sp_same fl ds Q) : T_same (endsOf false Q) (startE false N_same fl ds) := by
  obtain ⟨rfl, ss, ts, rfl, gs, gt, hn, hp, k⟩ := h
  show T_same _ [SV.dat (.tuple (ss.map stD)), SV.dat (.tuple (ts.map stD))]
  unfold T_same
  walk_at "wp"
  refine ⟨rfl, ss, rfl, gs, fun cs h1 h2 => ?_⟩
  walk_at "wp"
  refine ⟨rfl, ts, rfl, gt, fun es h3 h4 => ?_⟩
  walk_at "wp"
  have i := same_iff gs gt hn hp h1 h2 h3 h4
  refine eq_hn (hn_sts 0 cs) (hn_sts 0 es) (by omega) (fun e => ?_) (fun e => ?_)
  · injection e with e
    have e := sts_inj (equ_good h1 gs) (equ_good h3 gt) e
    exact k true ⟨fun _ => i.mp e, fun _ => rfl⟩
  · exact k false ⟨fun z => (nomatch z), fun z => absurd (by rw [i.mpr z]) e⟩

end Sw

open PySem PySem.Spec L2 Sw
namespace Sw
/-! ### one bead turned -/
theorem cut_at {α : Type} {xs : List α} {n : Nat} {x : α} (h : xs[n]? = some x) : xs = xs.take n ++ x :: xs.drop (n + 1) := by
  obtain ⟨hn, e⟩ := List.getElem?_eq_some_iff.mp h
  rw [← e, ← List.drop_eq_getElem_cons hn, List.take_append_drop]
theorem natOf {d : Int} {n : Nat} (h0 : 0 ≤ d) (h1 : d < n) : ∃ m : Nat, d = m ∧ m < n := ⟨d.toNat, by omega, by omega⟩
theorem atI_map {α : Type} {f : α → D} {xs : List α} {n : Nat} {x : α} (h : xs[n]? = some x) : atI (xs.map f) (n : Int) = some (f x) := by
  rw [atI_at (by omega), Int.toNat_natCast, List.getElem?_map, h]
  rfl
theorem cutD_dropS {ds : List D} {n : Nat} (h : n + 1 ≤ ds.length) : cutD ds (some ((n : Int) + 1)) none = ds.drop (n + 1) := cutD_drop (n := n + 1) h
theorem beads_nil {ss : List Strand} (h : ∀ s ∈ ss, s.2 ≠ []) (h2 : ss ≠ []) : beadsOf ss ≠ [] := by
  cases ss with
  | nil => exact absurd rfl h2
  | cons s r =>
    intro e
    have e : s.2 ++ beadsOf r = [] := e
    exact h s List.mem_cons_self (List.append_eq_nil_iff.mp e).1
theorem good_of {ss ts : List Strand} (g : GoodS ss) (hn : ∀ t ∈ ts, t.2 ≠ []) (hp : ((beadsOf ts).map Prod.snd).Perm ((beadsOf ss).map Prod.snd)) : GoodS ts := by
  have hl := hp.length_eq
  rw [List.length_map, List.length_map] at hl
  exact ⟨hn, by rw [hl]; exact g.2.1, names_nm hp g.2.2⟩
def sp_law_one_turned : PSp := fun fl ds Q => ∃ fd ss, fl = some fd ∧ FlOk fd ∧ ds = [.tuple (ss.map stD)] ∧ GoodS ss ∧ ∀ ts fd2, (∀ t ∈ ts, t.2 ≠ []) → ((beadsOf ts).map Prod.snd).Perm ((beadsOf ss).map Prod.snd) → FlOk fd2 → Q (.dt (.tuple (ts.map stD))) (some fd2)
/-! law_one_turned (lent) level 2 -/
abbrev N_law_one_turned : List Str := ["_law_flow_here", "_law_some", "_law_at", "_law_kind", "_law_beads", "_law_place"]
def T_law_one_turned : PS' := (sSeq (sIf (qTest (qOp (gEq false) (qVar 1) (qTup (qNil)))) (sRet (qVar 1)) sNil)
  (sSeq (sAsg 2 (qCallL sp_law_pick 0 (qAddD (qCons (qCB gLen (qCons (qVar 1) qNil)) qNil) [])))
  (sSeq (sAsgG (qOp gIx (qVar 1) (qVar 2)) (gT 2 (gsC (gN 3) (gsC (gN 4) gsN))))
  (sSeq (sAsg 5 (qCallL sp_law_pick 0 (qAddD (qCons (qCB gLen (qCons (qVar 4) qNil)) qNil) [])))
  (sSeq (sAsg 4 (qOp gAdd (qOp gAdd (qSl (qVar 4) qPn (qPs (qVar 5))) (qTup (qCons (qCall sp_law_mirrored (qAddD (qCons (qOp gIx (qVar 4) (qVar 5)) qNil) [])) qNil))) (qSl (qVar 4) (qPs (qOp gAdd (qVar 5) (qC (.int 1)))) qPn)))
  (sRet (qOp gAdd (qOp gAdd (qSl (qVar 1) qPn (qPs (qVar 2))) (qTup (qCons (qTup (qCons (qVar 3) (qCons (qVar 4) qNil))) qNil))) (qSl (qVar 1) (qPs (qOp gAdd (qVar 2) (qC (.int 1)))) qPn))))))))
theorem pure_law_one_turned (fl : Option (List D)) (ds : List D) (Q : RV → Option (List D) → Prop) (_ : true = true ↔ fl ≠ none) (h : sp_law_one_turned fl ds Q) : T_law_one_turned (endsOf true Q) (startE true N_law_one_turned fl ds) := by
  obtain ⟨fd, ss, rfl, hf, rfl, hg, k⟩ := h
  show T_law_one_turned _ [SV.own true _, SV.dat (.tuple (ss.map stD)), SV.un, SV.un, SV.un, SV.un]
  unfold T_law_one_turned
  have hsl : ss.length ≤ 1000 := Nat.le_trans (beads_few ss hg.1) hg.2.1
  walk_at "wp"
  refine ⟨Nat.zero_le _, ?_⟩
  refine eq_hn (hn_sts 0 ss) (show Hn 3 (.tuple []) from fun d hd => nomatch hd) (by omega) (fun e => ?_) (fun e => ?_)
  · walk_at "wp"
    exact k ss fd hg.1 (List.Perm.refl _) hf
  have hne : ss ≠ [] := fun z => e (by rw [z]; rfl)
  have hpos : 0 < ss.length := List.length_pos_iff.mpr hne
  walk_at "wp"
  rw [List.length_map]
  refine ⟨fd, _, rfl, hf, rfl, by omega, by omega, fun d fd2 h0 h1 hf2 => ?_⟩
  obtain ⟨n, rfl, hn⟩ := natOf h0 h1
  obtain ⟨s, hs⟩ : ∃ s, ss[n]? = some s := ⟨ss[n], List.getElem?_eq_getElem hn⟩
  have hsm := List.mem_of_getElem? hs
  have hsne := hg.1 s hsm
  have hsl2 := hg.len hsm
  have hspos : 0 < s.2.length := List.length_pos_iff.mpr hsne
  walk_at "wp"
  rw [atI_map hs]
  have es : stD s = .tuple [kindD s.1, .tuple (s.2.map bdD)] := rfl
  rw [es]
  walk_at "wp"
  rw [List.length_map]
  refine ⟨fd2, _, rfl, hf2, rfl, by omega, by omega, fun d fd3 h0 h1 hf3 => ?_⟩
  obtain ⟨m, rfl, hm⟩ := natOf h0 h1
  obtain ⟨b, hb⟩ : ∃ b, s.2[m]? = some b := ⟨s.2[m], List.getElem?_eq_getElem hm⟩
  have hbm := List.mem_of_getElem? hb
  walk_at "wp"
  rw [atI_map hb]
  walk_at "wp"
  refine ⟨rfl, b, rfl, hg.nm hsm b hbm, ?_⟩
  walk_at "wp"
  have l1 : m + 1 ≤ (s.2.map bdD).length := by rw [List.length_map]; omega
  have l2 : n + 1 ≤ (ss.map stD).length := by rw [List.length_map]; omega
  rw [cutD_take (Nat.le_of_succ_le l1), cutD_dropS l1, cutD_take (Nat.le_of_succ_le l2), cutD_dropS l2, ← List.map_take, ← List.map_take, ← List.map_drop, ← List.map_drop]
  have eb : s.2 = s.2.take m ++ b :: s.2.drop (m + 1) := cut_at hb
  have el : ss = ss.take n ++ s :: ss.drop (n + 1) := cut_at hs
  have sz : ∀ k : Nat, k ≤ 3000 → k ≤ sizeLine := fun k hk => sizeL (by omega)
  refine ⟨sz _ (by omega), sz _ ?_, sz _ ?_, sz _ (by omega), sz _ (by omega), sz _ ?_, sz _ ?_, ?_⟩
  any_goals simp only [List.length_append, List.length_map, List.length_take, List.length_drop, List.length_cons, List.length_nil]; omega
  have q := k (ss.take n ++ (s.1, s.2.take m ++ mirB b :: s.2.drop (m + 1)) :: ss.drop (n + 1)) fd3 (fun t ht => ?_) ?_ hf3
  · rw [List.map_append, List.map_cons] at q
    rw [List.append_assoc, List.append_assoc]
    have e3 : stD (s.1, s.2.take m ++ mirB b :: s.2.drop (m + 1)) = .tuple [kindD s.1, .tuple ((s.2.take m).map bdD ++ ([bdD (mirB b)] ++ (s.2.drop (m + 1)).map bdD))] := by
      show PyData.tuple [kindD s.1, .tuple ((s.2.take m ++ mirB b :: s.2.drop (m + 1)).map bdD)] = _
      rw [List.map_append]
      rfl
    rw [e3] at q
    exact q
  · rcases List.mem_append.mp ht with z | z
    · exact hg.1 t (List.mem_of_mem_take z)
    · rcases List.mem_cons.mp z with rfl | z
      · exact fun e => by simp at e
      · exact hg.1 t (List.mem_of_mem_drop z)
  · rw [beadsOf_app]
    conv => rhs; rw [el, beadsOf_app]
    show ((beadsOf (ss.take n) ++ ((s.2.take m ++ mirB b :: s.2.drop (m + 1)) ++ beadsOf (ss.drop (n + 1)))).map Prod.snd).Perm ((beadsOf (ss.take n) ++ (s.2 ++ beadsOf (ss.drop (n + 1)))).map Prod.snd)
    conv => rhs; rw [eb]
    simp only [List.map_append, List.map_cons]
    exact List.Perm.refl _

end Sw

open PySem PySem.Spec L2 Sw
namespace Sw
/-! ### a set near another one -/
def stL (s : Strand) : D := .tuple [kindD s.1, .list (s.2.map bdD)]
theorem hn_stL (n : Nat) (s : Strand) : Hn (n + 2) (stL s) := fun d hd => by
  rcases List.mem_cons.mp hd with rfl | hd
  · exact hn_str _ _
  · rw [List.mem_singleton.mp hd]
    exact hn_bdsL n _
theorem hn_listL (n : Nat) (ss : List Strand) : Hn (n + 3) (.list (ss.map stL)) := fun d hd => by
  obtain ⟨s, _, rfl⟩ := List.mem_map.mp hd
  exact hn_stL n s
theorem map_eraseI {α β : Type} (f : α → β) : ∀ (l : List α) (j : Nat), (l.eraseIdx j).map f = (l.map f).eraseIdx j
  | [], _ => rfl
  | _ :: _, 0 => rfl
  | a :: r, j + 1 => by
    show f a :: (r.eraseIdx j).map f = f a :: (r.map f).eraseIdx j
    rw [map_eraseI f r j]
theorem pop_map {α : Type} {f : α → D} {us : List α} {n : Nat} {u : α} (h : us[n]? = some u) (hl : us.length ≤ 100000) : gPopAt (us.map f) [.int n] = some (f u, (us.eraseIdx n).map f) := by
  obtain ⟨hn, _⟩ := List.getElem?_eq_some_iff.mp h
  rw [gPopAt_1, if_pos ⟨by omega, by omega⟩, seqIx (by omega) (by rw [List.length_map]; omega), map_eraseI]
  show ((us.map f)[n]?).map _ = _
  rw [List.getElem?_map, h]
  rfl
theorem cutD_mid {ds : List D} {n m : Nat} (h : n ≤ m) (h2 : m ≤ ds.length) : cutD ds (some (n : Int)) (some (m : Int)) = (ds.drop n).take (m - n) := by
  unfold cutD
  have e : ∀ (k dd : Nat), k ≤ ds.length → HT.sIx ds.length dd (some (k : Int)) = k := fun k dd hk => by
    simp only [HT.sIx]
    rw [if_neg (by omega)]
    omega
  rw [e n _ (by omega), e m _ h2]
theorem gNe_hn {n : Nat} {xs : List D} (h : Hn n (.list xs)) (hn : n ≤ 39) : gEq true (.list xs) (.list []) = some (.bool (!xs.isEmpty)) := by
  have h0 : Hn n (.list []) := by
    cases n with
    | zero => exact h.elim
    | succ n => exact fun d hd => nomatch hd
  rw [gEq_hn true h h0 hn, if_pos rfl]
  cases xs <;> rfl
/-- the strands in work: none without beads, the names those told -/
structure Near (rings : Bool) (ss us : List Strand) : Prop where
  ne : ∀ u ∈ us, u.2 ≠ []
  pm : ((beadsOf us).map Prod.snd).Perm ((beadsOf ss).map Prod.snd)
  op : rings = false → (∀ s ∈ ss, s.1 = false) → ∀ u ∈ us, u.1 = false
def sp_law_near : PSp := fun fl ds Q => ∃ fd ss rings, fl = some fd ∧ FlOk fd ∧ ds = [.tuple (ss.map stD), .bool rings] ∧ GoodS ss ∧ ∀ ts fd2, Near rings ss ts → FlOk fd2 → Q (.dt (.tuple (ts.map stD))) (some fd2)
/-! law_near (lent) level 2 -/
abbrev N_law_near : List Str := ["_law_flow_here", "_law_some", "_law_rings", "_law_strands", "_law_k", "_law_kind", "_law_beads", "_law_way", "_law_low", "_law_high", "_law_other", "_law_bead"]
def T_law_near : PS' := (sSeq (sAsgF 3 (fLcR (iAny (qVar 1)) (gT 2 (gsC (gN 5) (gsC (gN 6) gsN))) tYes' (qTup (qCons (qVar 5) (qCons (qF (fCB gListF (qCons (qVar 6) qNil))) qNil))) [5, 6]))
  (sSeq (sFor (iRg1 (qCallL sp_law_pick 0 (qAddD (qCons (qC (.int 4)) qNil) []))) (gN 4) (sIf (qTest (qOp (gEq true) (qVar 3) (qF (fLst (qNil))))) (sSeq (sAsgG (qMO 3 gPopAt (qCons (qCallL sp_law_pick 0 (qAddD (qCons (qCB gLen (qCons (qVar 3) qNil)) qNil) [])) qNil)) (gT 2 (gsC (gN 5) (gsC (gN 6) gsN))))
  (sSeq (sAsg 7 (qCallL sp_law_pick 0 (qAddD (qCons (qC (.int 4)) qNil) [])))
  (sSeq (sAsg 8 (qCallL sp_law_pick 0 (qAddD (qCons (qCB gLen (qCons (qVar 6) qNil)) qNil) [])))
  (sSeq (sAsg 9 (qOp gAdd (qOp gAdd (qVar 8) (qC (.int 1))) (qCallL sp_law_pick 0 (qAddD (qCons (qOp (gI dSub) (qCB gLen (qCons (qVar 6) qNil)) (qVar 8)) qNil) []))))
  (sSeq (sIf (qTest (qOp (gEq false) (qVar 7) (qC (.int 0)))) (sAsg 6 (qOp gAdd (qOp gAdd (qSl (qVar 6) qPn (qPs (qVar 8))) (qF (fLc (iAny (qRevA (qSl (qVar 6) (qPs (qVar 8)) (qPs (qVar 9))))) (gN 11) tYes' (qCall sp_law_mirrored (qAddD (qCons (qVar 11) qNil) [])) [11]))) (qSl (qVar 6) (qPs (qVar 9)) qPn))) (sIf (tAnd' (qTest (qOp (gEq false) (qVar 7) (qC (.int 1)))) (qTest (qOp (gI (gCmp fun i j => decide (j < i))) (qVar 8) (qC (.int 0))))) (sSeq (sDrop (qMO 3 gAppend (qCons (qTup (qCons (qC (.str "open")) (qCons (qSl (qVar 6) qPn (qPs (qVar 8))) qNil))) qNil)))
  (sSeq (sAsg 6 (qSl (qVar 6) (qPs (qVar 8)) qPn))
  (sAsg 5 (qC (.str "open"))))) (sIf (tAnd' (qTest (qOp (gEq false) (qVar 7) (qC (.int 2)))) (qTest (qOp (gEq true) (qVar 3) (qF (fLst (qNil)))))) (sSeq (sAsg 10 (qMO 3 gPopAt (qCons (qCallL sp_law_pick 0 (qAddD (qCons (qCB gLen (qCons (qVar 3) qNil)) qNil) [])) qNil)))
  (sAsg 6 (qOp gAdd (qVar 6) (qOp gIx (qVar 10) (qC (.int 1)))))) (sIf (tAnd' (qTest (qOp (gEq false) (qVar 7) (qC (.int 3)))) (qTest (qVar 2))) (sAsg 5 (qOp gIx (qF (fLst (qCons (qC (.str "open")) (qCons (qC (.str "ring")) qNil)))) (qCallL sp_law_pick 0 (qAddD (qCons (qC (.int 2)) qNil) [])))) sNil))))
  (sDrop (qMO 3 gAppend (qCons (qTup (qCons (qVar 5) (qCons (qVar 6) qNil))) qNil)))))))) sNil))
  (sRet (qCB gTuple (qCons (qF (fLcR (iAny (qVar 3)) (gT 2 (gsC (gN 5) (gsC (gN 6) gsN))) tYes' (qTup (qCons (qVar 5) (qCons (qCB gTuple (qCons (qVar 6) qNil)) qNil))) [5, 6])) qNil)))))
theorem bo_one (k : Bool) (bs : List Bead) : beadsOf [(k, bs)] = bs := by simp [beadsOf]
theorem near_perm {rings : Bool} {ss us vs : List Strand} (h : Near rings ss us) (p : vs.Perm us) : Near rings ss vs :=
  ⟨fun u hu => h.ne u (p.mem_iff.mp hu), ((p.flatMap_right _).map _).trans h.pm, fun a b u hu => h.op a b u (p.mem_iff.mp hu)⟩
theorem Near.len {rings : Bool} {ss us : List Strand} (h : Near rings ss us) (g : GoodS ss) : (beadsOf us).length ≤ 1000 ∧ us.length ≤ 1000 := by
  have hl := h.pm.length_eq
  rw [List.length_map, List.length_map] at hl
  have := beads_few us h.ne
  have := g.2.1
  omega
theorem ite_and' {p q x y : Prop} [Decidable p] [Decidable q] (h1 : p → q → x) (h2 : y) : if p then (if q then x else y) else y := by
  split
  · split
    · exact h1 ‹_› ‹_›
    · exact h2
  · exact h2
theorem ite_and2 {p x y r : Prop} [Decidable p] {b : Bool} (h1 : p → b = false → x) (h2 : y) (h3 : r) : if p then r ∧ (if b = false then x else y) else y := by
  split
  · refine ⟨h3, ?_⟩
    split
    · exact h1 ‹_› ‹_›
    · exact h2
  · exact h2
theorem Near.head {rings : Bool} {ss ws : List Strand} {k k' : Bool} {bs bs' : List Bead} (h : Near rings ss ((k, bs) :: ws)) (hne : bs' ≠ []) (hp : (bs'.map Prod.snd).Perm (bs.map Prod.snd)) (hk : rings = false → k = false → k' = false) : Near rings ss ((k', bs') :: ws) := by
  refine ⟨fun u hu => ?_, ?_, fun a b u hu => ?_⟩
  · rcases List.mem_cons.mp hu with rfl | hu
    · exact hne
    · exact h.ne u (List.mem_cons_of_mem _ hu)
  · have h1 : ((bs ++ beadsOf ws).map Prod.snd).Perm ((beadsOf ss).map Prod.snd) := h.pm
    show ((bs' ++ beadsOf ws).map Prod.snd).Perm _
    rw [List.map_append] at h1 ⊢
    exact (hp.append_right _).trans h1
  · rcases List.mem_cons.mp hu with rfl | hu
    · exact hk a (h.op a b _ List.mem_cons_self)
    · exact h.op a b u (List.mem_cons_of_mem _ hu)
theorem Near.cut {rings : Bool} {ss ws : List Strand} {k : Bool} {bs : List Bead} (h : Near rings ss ((k, bs) :: ws)) {m : Nat} (h0 : 0 < m) (h1 : m < bs.length) : Near rings ss ((false, bs.drop m) :: (ws ++ [(false, bs.take m)])) := by
  refine ⟨fun u hu => ?_, ?_, fun a b u hu => ?_⟩
  · rcases List.mem_cons.mp hu with rfl | hu
    · exact fun e => by
        have e : bs.drop m = [] := e
        have := congrArg List.length e
        rw [List.length_drop, List.length_nil] at this
        omega
    · rcases List.mem_append.mp hu with hu | hu
      · exact h.ne u (List.mem_cons_of_mem _ hu)
      · rw [List.mem_singleton.mp hu]
        exact fun e => by
          have e : bs.take m = [] := e
          have := congrArg List.length e
          rw [List.length_take, List.length_nil] at this
          omega
  · have h2 : ((bs ++ beadsOf ws).map Prod.snd).Perm ((beadsOf ss).map Prod.snd) := h.pm
    refine List.Perm.trans ?_ h2
    refine List.Perm.map _ ?_
    show (bs.drop m ++ beadsOf (ws ++ [(false, bs.take m)])).Perm _
    rw [beadsOf_app, bo_one]
    have e : bs.take m ++ bs.drop m = bs := List.take_append_drop m bs
    conv => rhs; rw [← e]
    have p1 : (bs.drop m ++ (beadsOf ws ++ bs.take m)).Perm ((beadsOf ws ++ bs.take m) ++ bs.drop m) := List.perm_append_comm
    refine p1.trans ?_
    rw [List.append_assoc, e]
    exact List.perm_append_comm
  · rcases List.mem_cons.mp hu with rfl | hu
    · rfl
    · rcases List.mem_append.mp hu with hu | hu
      · exact h.op a b u (List.mem_cons_of_mem _ hu)
      · rw [List.mem_singleton.mp hu]
theorem Near.join {rings : Bool} {ss ws vs : List Strand} {k : Bool} {bs : List Bead} {v : Strand} (h : Near rings ss ((k, bs) :: ws)) (p : (v :: vs).Perm ws) : Near rings ss ((k, bs ++ v.2) :: vs) := by
  have h' := near_perm h (p.cons (k, bs))
  refine ⟨fun u hu => ?_, ?_, fun a b u hu => ?_⟩
  · rcases List.mem_cons.mp hu with rfl | hu
    · exact fun e => h.ne _ List.mem_cons_self (List.append_eq_nil_iff.mp e).1
    · exact h'.ne u (List.mem_cons_of_mem _ (List.mem_cons_of_mem _ hu))
  · have h2 : ((bs ++ (v.2 ++ beadsOf vs)).map Prod.snd).Perm ((beadsOf ss).map Prod.snd) := h'.pm
    show (((bs ++ v.2) ++ beadsOf vs).map Prod.snd).Perm _
    rw [List.append_assoc]
    exact h2
  · rcases List.mem_cons.mp hu with rfl | hu
    · exact h'.op a b (k, bs) List.mem_cons_self
    · exact h'.op a b u (List.mem_cons_of_mem _ (List.mem_cons_of_mem _ hu))
theorem pure_law_near (fl : Option (List D)) (ds : List D) (Q : RV → Option (List D) → Prop) (_ : true = true ↔ fl ≠ none) (h : sp_law_near fl ds Q) : T_law_near (endsOf true Q) (startE true N_law_near fl ds) := by
  obtain ⟨fd, ss, rings, rfl, hf, rfl, hg, k⟩ := h
  show T_law_near _ [SV.own true _, SV.dat (.tuple (ss.map stD)), SV.dat (.bool rings), SV.un, SV.un, SV.un, SV.un, SV.un, SV.un, SV.un, SV.un, SV.un]
  unfold T_law_near
  have hsl : ss.length ≤ 1000 := Nat.le_trans (beads_few ss hg.1) hg.2.1
  refine cut_seq (fun env => env = [SV.own true fd, SV.dat (.tuple (ss.map stD)), SV.dat (.bool rings), SV.own false (ss.map stL), SV.un, SV.un, SV.un, SV.un, SV.un, SV.un, SV.un, SV.un]) ?_ fun nx hnx => ?_
  rotate_left
  · walk_at "wp"
    refine ⟨by rw [List.length_map]; omega, ?_⟩
    refine map_comp (f := stL) (fun s hs K hK => ?_) ?_
    · have es : stD s = .tuple [kindD s.1, .tuple (s.2.map bdD)] := rfl
      rw [es]
      walk_at "wp"
      exact ⟨sizeL (by decide), hK⟩
    · walk_at "wp"
      exact hnx _ rfl
  rintro env rfl
  refine cut_seq (fun env => ∃ us fd y4 k5 k6 y7 y8 y9 y10, Near rings ss us ∧ FlOk fd ∧ nob (some k5) ∧ nob (some k6) ∧ env = [SV.own true fd, SV.dat (.tuple (ss.map stD)), SV.dat (.bool rings), SV.own false (us.map stL), y4, k5, k6, y7, y8, y9, y10, SV.un]) ?_ fun nx hnx => ?_
  · rintro env ⟨us, fd, y4, k5, k6, y7, y8, y9, y10, hN, hf, h5, h6, rfl⟩
    have hul := (hN.len hg).2
    walk_at "wp"
    refine ⟨⟨h5, h6⟩, by rw [List.length_map]; omega, ?_⟩
    refine map_comp (f := stD) (fun s hs K hK => ?_) ?_
    · have es : stL s = .tuple [kindD s.1, .list (s.2.map bdD)] := rfl
      rw [es]
      walk_at "wp"
      exact ⟨sizeL (by decide), hK⟩
    · walk_at "wp"
      exact k us fd hN hf
  walk_at "wp"
  refine ⟨fd, 4, rfl, hf, rfl, by omega, by omega, fun d fd2 h0 h1 hf2 => ?_⟩
  walk_at "wp"
  refine ⟨⟨by omega, by omega⟩, ?_⟩
  refine pFor_inv (fun i env => ∃ us fd y4 k5 k6 y7 y8 y9 y10, Near rings ss us ∧ FlOk fd ∧ nob (some k5) ∧ nob (some k6) ∧ env = [SV.own true fd, SV.dat (.tuple (ss.map stD)), SV.dat (.bool rings), SV.own false (us.map stL), y4, k5, k6, y7, y8, y9, y10, SV.un]) ⟨ss, fd2, _, _, _, _, _, _, _, ⟨hg.1, List.Perm.refl _, fun _ h => h⟩, hf2, (show nob (some SV.un) from trivial), (show nob (some SV.un) from trivial), rfl⟩ ?_ hnx
  rintro i d hd env ⟨us, fd, y4, k5, k6, y7, y8, y9, y10, hN, hf, h5, h6, rfl⟩ K hK
  have hul := (hN.len hg).2
  refine ⟨by simp, sIf_abs fun A B hA hB => ?_⟩
  walk_at "wp"
  refine ⟨Nat.zero_le _, ?_⟩
  rw [gNe_hn (hn_listL 0 us) (by omega)]
  walk_at "wp"
  split
  rotate_left
  · subst hB
    exact hK _ ⟨us, fd, _, _, _, _, _, _, _, hN, hf, h5, h6, rfl⟩
  rename_i hne
  subst hA
  rw [List.isEmpty_map] at hne
  have hpos : 0 < us.length := by
    cases us with
    | nil => cases hne
    | cons => simp
  refine sSeq_abs fun R hR => ?_
  walk_at "wp"
  rw [List.length_map]
  refine ⟨fd, _, rfl, hf, rfl, by omega, by omega, fun d fd2 h0 h1 hf2 => ?_⟩
  obtain ⟨n, rfl, hn⟩ := natOf h0 h1
  obtain ⟨u, hu⟩ : ∃ u, us[n]? = some u := ⟨us[n], List.getElem?_eq_getElem hn⟩
  walk_at "wp"
  have ep := pop_map (f := stL) hu (by omega)
  rw [gPopAt_1] at ep
  refine ⟨_, _, ep, ?_⟩
  have hp0 := erase_perm hu
  have hN := near_perm hN hp0
  generalize us.eraseIdx n = ws at hN hp0
  have es : stL u = .tuple [kindD u.1, .list (u.2.map bdD)] := rfl
  rw [es]
  walk_at "wp"
  subst hR
  obtain ⟨ku, bu⟩ := u
  have hbne : bu ≠ [] := hN.ne _ List.mem_cons_self
  have hbpos : 0 < bu.length := List.length_pos_iff.mpr hbne
  have hbl : bu.length ≤ 1000 := by
    have h1 := (hN.len hg).1
    have h2 : (bu ++ beadsOf ws).length ≤ 1000 := h1
    rw [List.length_append] at h2
    omega
  have hwl : ws.length ≤ 1000 := by
    have := hp0.length_eq
    rw [List.length_cons] at this
    omega
  have hbn : ∀ b ∈ bu, Nm b.2 := names_nm hN.pm hg.2.2 |> fun h b hb => h b (mem_beadsOf (s := (ku, bu)) List.mem_cons_self hb)
  show sSeq _ _ _ [_, _, _, _, _, SV.dat (kindD ku), SV.dat (.list (bu.map bdD)), _, _, _, _, _]
  refine sSeq_abs fun R hR => ?_
  walk_at "wp"
  refine ⟨fd2, 4, rfl, hf2, rfl, by omega, by omega, fun way fd3 w0 w1 hf3 => ?_⟩
  walk_at "wp"
  subst hR
  refine sSeq_abs fun R hR => ?_
  walk_at "wp"
  rw [List.length_map]
  refine ⟨fd3, _, rfl, hf3, rfl, by omega, by omega, fun d fd4 h0 h1 hf4 => ?_⟩
  obtain ⟨m, rfl, hm⟩ := natOf h0 h1
  walk_at "wp"
  subst hR
  refine sSeq_abs fun R hR => ?_
  walk_at "wp"
  rw [List.length_map]
  refine ⟨fd4, _, rfl, hf4, rfl, by omega, by omega, fun d fd5 h0 h1 hf5 => ?_⟩
  obtain ⟨e, he⟩ : ∃ e : Nat, (m : Int) + 1 + d = e := ⟨((m : Int) + 1 + d).toNat, by omega⟩
  have hme : m < e ∧ e ≤ bu.length := by omega
  walk_at "wp"
  rw [he]
  subst hR
  refine cut_seq (fun env => ∃ fd ws k bs y4 y7 y8 y9 y10, FlOk fd ∧ Near rings ss ((k, bs) :: ws) ∧ env = [SV.own true fd, SV.dat (.tuple (ss.map stD)), SV.dat (.bool rings), SV.own false (ws.map stL), y4, SV.dat (kindD k), SV.dat (.list (bs.map bdD)), y7, y8, y9, y10, SV.un]) ?_ fun nx hnx => ?_
  · rintro env ⟨fd, ws, k, bs, y4, y7, y8, y9, y10, hf, hN, rfl⟩
    have hl := (hN.len hg).2
    rw [List.length_cons] at hl
    walk_at "wp"
    have e1 : ws.map stL ++ [PyData.tuple [kindD k, .list (bs.map bdD)]] = (ws ++ [(k, bs)]).map stL := by rw [List.map_append]; rfl
    rw [e1]
    refine ⟨sizeL (by decide), sizeL (by rw [List.length_map]; omega), hK _ ⟨_, fd, _, _, _, _, _, _, _, near_perm hN (List.perm_append_comm (l₁ := ws) (l₂ := [(k, bs)])), hf, (show nob (some (SV.dat _)) from trivial), (show nob (some (SV.dat _)) from trivial), rfl⟩⟩
  have sz : ∀ k : Nat, k ≤ 3000 → k ≤ sizeLine := fun k hk => sizeL (by omega)
  have le1 : m ≤ (bu.map bdD).length := by rw [List.length_map]; omega
  have le2 : e ≤ (bu.map bdD).length := by rw [List.length_map]; omega
  refine sIf_abs fun A B hA hB => ?_
  walk_at "wp"
  split
  · subst hA
    walk_at "wp"
    simp only [cutD_take le1, cutD_drop le2, cutD_mid (Nat.le_of_lt hme.1) le2]
    refine ⟨by simp only [List.length_reverse, List.length_take, List.length_drop, List.length_map]; omega, ?_⟩
    simp only [← List.map_drop, ← List.map_take, ← List.map_reverse]
    refine map_comp (f := fun b => bdD (mirB b)) (fun b hb K hK => ?_) ?_
    · walk_at "wp"
      refine ⟨rfl, b, rfl, hbn b (List.mem_of_mem_drop (List.mem_of_mem_take (List.mem_reverse.mp hb))), ?_⟩
      walk_at "wp"
      exact hK
    · have e1 : ((bu.drop m).take (e - m)).reverse.map (fun b => bdD (mirB b)) = (mirR ((bu.drop m).take (e - m))).map bdD := by
        unfold mirR
        rw [List.map_map]
        rfl
      rw [e1]
      walk_at "wp"
      rw [cutD_drop le2, ← List.map_append, ← List.map_drop, ← List.map_append]
      refine ⟨sz _ ?_, sz _ ?_, hnx _ ⟨fd5, ws, ku, _, _, _, _, _, _, hf5, hN.head (bs' := bu.take m ++ mirR ((bu.drop m).take (e - m)) ++ bu.drop e) ?_ ?_ (fun _ z => z), rfl⟩⟩
      · simp only [List.length_take, List.length_drop, List.length_map, mirR_len]; omega
      · simp only [List.length_append, List.length_take, List.length_drop, List.length_map, mirR_len]; omega
      · exact fun z => by have := congrArg List.length z; simp only [List.length_append, List.length_take, List.length_drop, mirR_len, List.length_nil] at this; omega
      · rw [List.map_append, List.map_append, mirR_snd]
        have q : ((bu.take m).map Prod.snd ++ ((bu.drop m).take (e - m)).map Prod.snd ++ (bu.drop e).map Prod.snd) = bu.map Prod.snd := by
          rw [← List.map_append, ← List.map_append]
          refine congrArg (List.map Prod.snd) ?_
          have : bu.drop e = (bu.drop m).drop (e - m) := by rw [List.drop_drop, show m + (e - m) = e by omega]
          rw [this, List.append_assoc, List.take_append_drop, List.take_append_drop]
        generalize ((bu.drop m).take (e - m)).map Prod.snd = X at q ⊢
        generalize (bu.drop e).map Prod.snd = Y at q ⊢
        generalize (bu.take m).map Prod.snd = Z at q ⊢
        rw [← q]
        exact List.Perm.append_right _ (List.Perm.append_left _ (List.reverse_perm _))
  subst hB
  refine sIf_abs fun A B hA hB => ?_
  walk_at "wp"
  refine ite_and' (fun _ hm0 => ?_) ?_
  · subst hA
    have hm0 : 0 < m := by omega
    have hmb : m < bu.length := by omega
    walk_at "wp"
    rw [cutD_take le1, cutD_drop le1]
    have e1 : ws.map stL ++ [PyData.tuple [PyData.str (Str.ofString "open"), .list ((bu.map bdD).take m)]] = (ws ++ [(false, bu.take m)]).map stL := by
      rw [List.map_append, ← List.map_take]
      rfl
    rw [e1, ← List.map_drop]
    refine ⟨sz _ (by omega), sz _ (by rw [List.length_map]; omega), hnx _ ⟨fd5, _, false, _, _, _, _, _, _, hf5, hN.cut hm0 hmb, rfl⟩⟩
  subst hB
  refine sIf_abs fun A B hA hB => ?_
  walk_at "wp"
  rw [gNe_hn (hn_listL 0 ws) (by omega)]
  walk_at "wp"
  refine ite_and2 (fun _ hne => ?_) ?_ (Nat.zero_le _)
  · rw [List.isEmpty_map] at hne
    have hwp : 0 < ws.length := by
      cases ws with
      | nil => cases hne
      | cons => simp
    subst hA
    refine sSeq_abs fun R hR => ?_
    walk_at "wp"
    rw [List.length_map]
    refine ⟨fd5, _, rfl, hf5, rfl, by omega, by omega, fun d fd6 h0 h1 hf6 => ?_⟩
    obtain ⟨j, rfl, hj⟩ := natOf h0 h1
    obtain ⟨v, hv⟩ : ∃ v, ws[j]? = some v := ⟨ws[j], List.getElem?_eq_getElem hj⟩
    walk_at "wp"
    have ep := pop_map (f := stL) hv (by omega)
    rw [gPopAt_1] at ep
    refine ⟨_, _, ep, ?_⟩
    have hN2 := hN.join (erase_perm hv)
    have hvl := (hN2.len hg).1
    have hvl : ((bu ++ v.2) ++ beadsOf (ws.eraseIdx j)).length ≤ 1000 := hvl
    rw [List.length_append] at hvl
    have es : stL v = .tuple [kindD v.1, .list (v.2.map bdD)] := rfl
    rw [es]
    subst hR
    walk_at "wp"
    rw [← List.map_append]
    exact ⟨sz _ (by rw [← List.length_append, ← List.map_append, List.length_map]; omega), hnx _ ⟨fd6, _, ku, _, _, _, _, _, _, hf6, hN2, rfl⟩⟩
  subst hB
  refine sIf_abs fun A B hA hB => ?_
  walk_at "wp"
  refine ite_and' (fun _ hr => ?_) ?_
  · subst hA
    walk_at "wp"
    refine ⟨sz _ (by omega), fd5, 2, rfl, hf5, rfl, by omega, by omega, fun d fd6 h0 h1 hf6 => ?_⟩
    have e : ∃ k', atI [PyData.str (Str.ofString "open"), PyData.str (Str.ofString "ring")] d = some (kindD k') := by
      have : d = 0 ∨ d = 1 := by omega
      rcases this with rfl | rfl
      · exact ⟨false, rfl⟩
      · exact ⟨true, rfl⟩
    obtain ⟨k', e⟩ := e
    walk_at "wp"
    refine ⟨_, e, hnx _ ⟨fd6, ws, k', bu, _, _, _, _, _, hf6, hN.head hbne (List.Perm.refl _) (fun a => ?_), rfl⟩⟩
    rw [hr] at a
    cases a
  · subst hB
    exact hnx _ ⟨fd5, ws, ku, bu, _, _, _, _, _, hf5, hN, rfl⟩

end Sw

open PySem PySem.Spec L2 Sw
namespace Sw
/-! ### the partners of ends -/
theorem keyT_E {x : D} (h : IsE x) : KeyT true x := by
  obtain ⟨z, s, rfl⟩ := h
  exact ⟨.tup [.text z, .num s], rfl, ⟨_, rfl⟩, by simp [NestedKey.depth, NestedKey.depthAll]⟩
theorem eqv_E {x y : D} (hx : IsE x) (hy : IsE y) : PyData.eqv x y = true ↔ x = y := eqv_hn 1 x y (hn_E hx 0) (hn_E hy 0)
theorem lookD_newE {kds : List (D × D)} {x : D} (hk : ∀ p ∈ kds, IsE p.1) (hx : IsE x) (hn : x ∉ kds.map Prod.fst) : lookD kds x = none := lookD_none fun p hp => by
  rw [← Bool.not_eq_true, eqv_E (hk p hp) hx]
  rintro rfl
  exact hn (List.mem_map_of_mem hp)
theorem putD_newE {kds : List (D × D)} {x v : D} (hk : ∀ p ∈ kds, IsE p.1) (hx : IsE x) (hn : x ∉ kds.map Prod.fst) : putD kds x v = kds ++ [(x, v)] := by
  unfold putD
  rw [lookD_newE hk hx hn]
  rfl
theorem putD_lastE {kds : List (D × D)} {x u v : D} (hk : ∀ p ∈ kds, IsE p.1) (hx : IsE x) (hn : x ∉ kds.map Prod.fst) : putD (kds ++ [(x, u)]) x v = kds ++ [(x, v)] := by
  have e1 : lookD (kds ++ [(x, u)]) x = some u := by
    rw [lookD_app, lookD_newE hk hx hn, lookD_cons, if_pos ((eqv_E hx hx).mpr rfl)]
    rfl
  unfold putD
  rw [e1, if_pos (show (some u).isSome = true from rfl), List.map_append]
  have e2 : kds.map (fun p => if PyData.eqv p.1 x = true then (p.1, v) else p) = kds := by
    conv => rhs; rw [← List.map_id kds]
    refine List.map_congr_left fun p hp => ?_
    rw [if_neg]
    · rfl
    · rw [eqv_E (hk p hp) hx]
      rintro rfl
      exact hn (List.mem_map_of_mem hp)
  rw [e2, List.map_cons, if_pos ((eqv_E hx hx).mpr rfl)]
  rfl
/-- a joint of one end or of two -/
inductive Jt : D → Prop
  | one {x : D} (h : IsE x) : Jt (.tuple [x])
  | two {x y : D} (h : IsE x) (g : IsE y) : Jt (.tuple [x, y])
def jP : D → List (D × D)
  | .tuple [x] => [(x, .none)]
  | .tuple [x, y] => [(x, y), (y, x)]
  | _ => []
theorem jP_keys {j : D} (h : Jt j) : (jP j).map Prod.fst = tupE j := by cases h <;> rfl
theorem jP_isE {j : D} (h : Jt j) : ∀ p ∈ jP j, IsE p.1 := fun p hp => by
  cases h with
  | one h => rw [List.mem_singleton.mp hp]; exact h
  | two h g =>
    rcases List.mem_cons.mp hp with rfl | hp
    · exact h
    · rw [List.mem_singleton.mp hp]; exact g
theorem jPs_keys {js : List D} (h : ∀ j ∈ js, Jt j) : (js.flatMap jP).map Prod.fst = js.flatMap tupE := by
  induction js with
  | nil => rfl
  | cons j r ih =>
    show ((jP j ++ r.flatMap jP).map Prod.fst) = tupE j ++ r.flatMap tupE
    rw [List.map_append, jP_keys (h j List.mem_cons_self), ih fun x hx => h x (List.mem_cons_of_mem _ hx)]
theorem jPs_isE {js : List D} (h : ∀ j ∈ js, Jt j) : ∀ p ∈ js.flatMap jP, IsE p.1 := fun p hp => by
  obtain ⟨j, hj, hp⟩ := List.mem_flatMap.mp hp
  exact jP_isE (h j hj) p hp
theorem jPs_len {js : List D} (h : ∀ j ∈ js, Jt j) : (js.flatMap jP).length ≤ 2 * js.length := by
  induction js with
  | nil => simp
  | cons j r ih =>
    have h1 := ih fun x hx => h x (List.mem_cons_of_mem _ hx)
    have h2 : (jP j).length ≤ 2 := by cases h j List.mem_cons_self <;> simp [jP]
    show (jP j ++ r.flatMap jP).length ≤ _
    rw [List.length_append, List.length_cons]
    omega
def sp_partners : PSp := fun fl ds Q => fl = none ∧ ∃ js, ds = [.tuple js] ∧ (∀ j ∈ js, Jt j) ∧ (js.flatMap tupE).Nodup ∧ js.length ≤ 100000 ∧ Q (.dt (.dict (js.flatMap jP))) none
/-! partners level 1 -/
abbrev N_partners : List Str := ["joints", "found", "joint"]
def T_partners : PS' := (sSeq (sAsgD 1 true)
  (sSeq (sFor (iAny (qVar 0)) (gN 2) (sSeq (sPutD 1 (qC .none) (qOp gIx (qVar 2) (qC (.int 0))))
  (sIf (qTest (qOp (gEq false) (qCB gLen (qCons (qVar 2) qNil)) (qC (.int 2)))) (sSeq (sPutD 1 (qOp gIx (qVar 2) (qC (.int 1))) (qOp gIx (qVar 2) (qC (.int 0))))
  (sPutD 1 (qOp gIx (qVar 2) (qC (.int 0))) (qOp gIx (qVar 2) (qC (.int 1))))) sNil)))
  (sFrzD 1 (sRet (qVar 1)))))
theorem pure_partners (fl : Option (List D)) (ds : List D) (Q : RV → Option (List D) → Prop) (_ : false = true ↔ fl ≠ none) (h : sp_partners fl ds Q) : T_partners (endsOf false Q) (startE false N_partners fl ds) := by
  obtain ⟨rfl, js, rfl, hj, hn, hl, k⟩ := h
  show T_partners _ [SV.dat (.tuple js), SV.un, SV.un]
  unfold T_partners
  refine sSeq_abs fun R hR => ?_
  walk_at "wp"
  subst hR
  refine cut_seq (fun env => ∃ y, env = [SV.dat (.tuple js), SV.dic true (js.flatMap jP), y]) ?_ fun nx hnx => ?_
  · rintro env ⟨y, rfl⟩
    walk_at "wp"
    trace_state
    exact k
  walk_at "wp"
  refine pFor_inv (fun i env => ∃ y, env = [SV.dat (.tuple js), SV.dic true ((js.take i).flatMap jP), y]) ⟨_, rfl⟩ ?_ fun env h => hnx env (by rw [List.take_length] at h; exact h)
  rintro i j hd env ⟨y, rfl⟩ K hK
  have hm := List.mem_of_getElem? hd
  have hjt : ∀ x ∈ js.take i, Jt x := fun x hx => hj x (List.mem_of_mem_take hx)
  have hk := jPs_isE hjt
  have hlen := jPs_len hjt
  have hl2 : (js.take i).length ≤ js.length := by rw [List.length_take]; omega
  have hkeys := jPs_keys hjt
  have hn' : ((js.take i).flatMap tupE ++ tupE j).Nodup := by
    have : ((js.take (i + 1)).flatMap tupE).Nodup := by
      have e : js.flatMap tupE = (js.take (i + 1)).flatMap tupE ++ (js.drop (i + 1)).flatMap tupE := by rw [← List.flatMap_append, List.take_append_drop]
      rw [e] at hn
      exact (List.nodup_append.mp hn).1
    rw [List.take_add_one, hd, List.flatMap_append] at this
    simpa using this
  have hnx2 : ∀ kds, kds = (js.take i).flatMap jP ++ jP j → K [SV.dat (.tuple js), SV.dic true kds, SV.dat j] := fun kds e => hK _ ⟨SV.dat j, by
    have e2 : (js.take (i + 1)).flatMap jP = (js.take i).flatMap jP ++ jP j := by rw [List.take_add_one, hd, List.flatMap_append]; simp
    rw [e2, e]⟩
  generalize hkd : (js.take i).flatMap jP = kd at hk hlen hkeys hnx2
  rw [← hkeys] at hn'
  have sz : kd.length + 2 < sizeLine := by rw [sizeLine_eq]; omega
  cases hj j hm with
  | @one x hx =>
    have n1 : x ∉ kd.map Prod.fst := fun hm => (List.nodup_append.mp hn').2.2 x hm x (by simp [tupE]) rfl
    walk_at "wp"
    refine ⟨keyT_E hx, by omega, ?_⟩
    rw [if_neg (by decide), putD_newE hk hx n1]
    exact hnx2 _ rfl
  | @two x y hx hy =>
    have n1 : x ∉ kd.map Prod.fst := fun hm => (List.nodup_append.mp hn').2.2 x hm x (by simp [tupE]) rfl
    have n2 : y ∉ kd.map Prod.fst := fun hm => (List.nodup_append.mp hn').2.2 y hm y (by simp [tupE]) rfl
    have ne : x ≠ y := by
      have := (List.nodup_append.mp hn').2.1
      simp [tupE] at this
      exact this
    walk_at "wp"
    rw [putD_newE hk hx n1]
    refine ⟨keyT_E hx, by omega, ?_⟩
    rw [if_pos (by decide)]
    rw [putD_lastE hk hx n1]
    refine ⟨keyT_E hx, by simp only [List.length_append, List.length_cons, List.length_nil]; omega, keyT_E hy, by simp only [List.length_append, List.length_cons, List.length_nil]; omega, ?_⟩
    refine hnx2 _ ?_
    rw [putD_newE (fun p hp => ?_) hy (fun hm => ?_)]
    · simp [jP]
    · rcases List.mem_append.mp hp with hp | hp
      · exact hk p hp
      · rw [List.mem_singleton.mp hp]; exact hx
    · rw [List.map_append] at hm
      rcases List.mem_append.mp hm with hm | hm
      · exact n2 hm
      · have hm : y = x := by simpa using hm
        exact ne hm.symm

end Sw

open PySem PySem.Spec L2 Sw
namespace Sw
/-! ### walks from end to end -/
abbrev En := Str × Bool
def eD (e : En) : D := endD e.1 (if e.2 = true then 1 else 0)
def flE (e : En) : En := (e.1, !e.2)
def bdE (e : En) : Bead := (e.2, e.1)
theorem flfl (e : En) : flE (flE e) = e := by simp [flE]
theorem fl_ne (e : En) : flE e ≠ e := fun h => by
  have := congrArg Prod.snd h
  simp [flE] at this
theorem lE_bdE (e : En) : lE (bdE e) = eD e := rfl
theorem rE_bdE (e : En) : rE (bdE e) = eD (flE e) := by
  obtain ⟨z, b⟩ := e
  cases b <;> rfl
theorem isE_en (e : En) : IsE (eD e) := ⟨_, _, rfl⟩
theorem eD_inj {e f : En} (h : eD e = eD f) : e = f := by
  obtain ⟨z, b⟩ := e
  obtain ⟨w, c⟩ := f
  obtain ⟨h1, h2⟩ := endD_inj h
  have h1 : z = w := h1
  subst h1
  cases b <;> cases c <;> first | rfl | simp at h2
/-- which end is tied with which -/
structure Pg (ns : List Str) (p : En → Option En) : Prop where
  sym : ∀ {e f : En}, p e = some f → p f = some e
  irr : ∀ e : En, p e ≠ some e
  inn : ∀ {e f : En}, p e = some f → f.1 ∈ ns
def Ch (p : En → Option En) : List En → Prop
  | a :: b :: r => p (flE a) = some b ∧ Ch p (b :: r)
  | _ => True
theorem Ch.snoc {p : En → Option En} {l f : En} : ∀ {r : List En}, Ch p (r ++ [l]) → p (flE l) = some f → Ch p ((r ++ [l]) ++ [f])
  | [], _, h => ⟨h, trivial⟩
  | [a], h, g => ⟨h.1, g, trivial⟩
  | a :: b :: r, h, g => ⟨h.1, Ch.snoc (r := b :: r) h.2 g⟩
theorem Ch.mid {p : En → Option En} {h g : En} : ∀ {A C : List En}, Ch p (A ++ h :: g :: C) → p (flE h) = some g
  | [], C, q => q.1
  | [a], C, q => q.2.1
  | a :: b :: A, C, q => Ch.mid (A := b :: A) q.2
/-- what comes next is new -/
theorem next_new {ns : List Str} {p : En → Option En} (P : Pg ns p) {r : List En} {l f : En} (hc : Ch p (r ++ [l])) (hn : ((r ++ [l]).map Prod.fst).Nodup) (hf : p (flE l) = some f) (h0 : ∀ e, (r ++ [l]).head? = some e → f ≠ e) : f.1 ∉ (r ++ [l]).map Prod.fst := fun hm => by
  obtain ⟨g, hg, e⟩ := List.mem_map.mp hm
  obtain ⟨B, C, hs⟩ := List.append_of_mem hg
  have hpf : p f = some (flE l) := P.sym hf
  have two : f = g ∨ f = flE g := by
    obtain ⟨z, b⟩ := f
    obtain ⟨w, c⟩ := g
    have e : w = z := e
    subst e
    cases b <;> cases c <;> simp [flE]
  have lastC : C = [] → g = l := fun hC => by
    subst hC
    have := congrArg List.getLast? hs
    simpa using this.symm
  have lastM : C ≠ [] → l ∈ C := fun hC => by
    have := congrArg List.getLast? hs
    rw [List.getLast?_append, List.getLast?_singleton] at this
    rw [List.getLast?_append, List.getLast?_cons] at this
    cases q : C.getLast? with
    | none => exact absurd (List.getLast?_eq_none_iff.mp q) hC
    | some x =>
      rw [q] at this
      simp at this
      rw [this]
      exact List.mem_of_getLast? q
  rw [hs] at hc hn h0
  rw [List.map_append, List.map_cons] at hn
  obtain ⟨n1, n2, n3⟩ := List.nodup_append.mp hn
  obtain ⟨n4, n5⟩ := List.nodup_cons.mp n2
  rcases two with rfl | rfl
  · -- f stands there already
    rcases List.eq_nil_or_concat B with rfl | ⟨B', h, rfl⟩
    · exact h0 f rfl rfl
    · have hq : Ch p (B' ++ h :: f :: C) := by
        have e : B' ++ h :: f :: C = (B' ++ [h]) ++ f :: C := by simp
        rw [e]
        simpa using hc
      have := P.sym hq.mid
      rw [hpf] at this
      have e2 : l = h := by
        have := congrArg flE (Option.some.inj this)
        rw [flfl, flfl] at this
        exact this
      subst e2
      by_cases hC : C = []
      · have := lastC hC
        subst this
        exact n3 f.1 (by simp) f.1 (by simp) rfl
      · exact n3 l.1 (by simp) l.1 (by simp only [List.mem_cons]; exact .inr (List.mem_map_of_mem (lastM hC))) rfl
  · -- its other end stands there
    cases C with
    | nil =>
      have := lastC rfl
      subst this
      exact P.irr _ hf
    | cons h C =>
      have h1 : p (flE g) = some h := hc.mid
      rw [hpf] at h1
      have e2 : flE l = h := Option.some.inj h1
      have hl := lastM (by simp)
      have hname : h.1 = l.1 := by rw [← e2]; rfl
      rw [List.map_cons, List.nodup_cons] at n5
      rcases List.mem_cons.mp hl with rfl | hl
      · exact fl_ne _ e2
      · exact n5.1 (by rw [hname]; exact List.mem_map_of_mem hl)
/-- a row from an end on, as far as it goes -/
structure Row (ns : List Str) (p : En → Option En) (e : En) (r : List En) : Prop where
  hd : r.head? = some e
  ch : Ch p r
  nd : (r.map Prod.fst).Nodup
  inn : ∀ x ∈ r, x.1 ∈ ns
  fin : ∃ A l, r = A ++ [l] ∧ (p (flE l) = none ∨ p (flE l) = some e)
def pvD : Option En → D
  | none => .none
  | some f => eD f
theorem sWh_abs {c : PT'} {B : PS'} {Dp : PEnds} {env : List SV} (h : ∀ B', B' = B → sWh c B' Dp env) : sWh c B Dp env := h B rfl
theorem sFor_abs {I : PI'} {G : TG'} {B : PS'} {Dp : PEnds} {env : List SV} (h : ∀ B', B' = B → sFor I G B' Dp env) : sFor I G B Dp env := h B rfl
def sp_beads_from : PSp := fun fl ds Q => fl = none ∧ ∃ ns p kds e, ds = [eD e, .dict kds] ∧ Pg ns p ∧ (∀ x : En, x.1 ∈ ns → lookD kds (eD x) = some (pvD (p x))) ∧ (∀ q ∈ kds, IsE q.1) ∧ e.1 ∈ ns ∧ (∀ z ∈ ns, Nm z) ∧ ns.length ≤ 1000 ∧ ∀ r : List En, Row ns p e r → Q (.dt (.tuple ((r.map bdE).map bdD))) none
/-! beads_from level 1 -/
abbrev N_beads_from : List Str := ["end", "joined", "beads", "at", "name", "side"]
def T_beads_from : PS' := (sSeq (sAsgF 2 (fLst (qNil)))
  (sSeq (sAsg 3 (qVar 0))
  (sSeq (sWh (tAnd' (qTest (qOp (gIsN true) (qVar 3) (qC .none))) (tOr' (qTest (qOp (gEq false) (qVar 2) (qF (fLst (qNil))))) (qTest (qOp (gEq true) (qVar 3) (qVar 0))))) (sSeq (sAsgG (qVar 3) (gT 2 (gsC (gN 4) (gsC (gN 5) gsN))))
  (sSeq (sDrop (qMO 2 gAppend (qCons (qOp gAdd (qOp gMul (qC (.str "-")) (qVar 5)) (qVar 4)) qNil)))
  (sAsg 3 (qDGet (qVar 1) (qTup (qCons (qVar 4) (qCons (qOp (gI dSub) (qC (.int 1)) (qVar 5)) qNil))))))))
  (sRet (qCB gTuple (qCons (qVar 2) qNil))))))
theorem nodup_few {α : Type} [BEq α] [LawfulBEq α] : ∀ {xs ys : List α}, xs.Nodup → (∀ x ∈ xs, x ∈ ys) → xs.length ≤ ys.length
  | [], _, _, _ => Nat.zero_le _
  | x :: r, ys, h, hs => by
    obtain ⟨h1, h2⟩ := List.nodup_cons.mp h
    have hx := hs x List.mem_cons_self
    have ih := nodup_few (xs := r) (ys := ys.erase x) h2 fun y hy => (List.mem_erase_of_ne (fun e : y = x => h1 (e ▸ hy))).mpr (hs y (List.mem_cons_of_mem _ hy))
    rw [List.length_erase_of_mem hx] at ih
    have : 0 < ys.length := List.length_pos_of_mem hx
    rw [List.length_cons]
    omega
theorem gIsN_en (neg : Bool) (e : En) : gIsN neg (eD e) .none = some (.bool neg) := gIsN_t
theorem en_dash (e : En) : Txt.mul (Str.ofString "-") (if e.2 = true then 1 else 0) ++ e.1 = bdS (bdE e) := by
  obtain ⟨z, b⟩ := e
  have := mul_dash (d := if b = true then 1 else 0) (by split <;> omega) (by split <;> omega) z
  show Txt.mul (Str.ofString "-") (if b = true then 1 else 0) ++ z = bdS (b, z)
  rw [this]
  cases b <;> rfl
theorem pure_beads_from (fl : Option (List D)) (ds : List D) (Q : RV → Option (List D) → Prop) (_ : false = true ↔ fl ≠ none) (h : sp_beads_from fl ds Q) : T_beads_from (endsOf false Q) (startE false N_beads_from fl ds) := by
  obtain ⟨rfl, ns, p, kds, e, rfl, P, hl, hk, he, hnm, hlen, k⟩ := h
  show T_beads_from _ [SV.dat (eD e), SV.dat (.dict kds), SV.un, SV.un, SV.un, SV.un]
  unfold T_beads_from
  refine sSeq_abs fun R hR => ?_
  walk_at "wp"
  refine ⟨Nat.zero_le _, ?_⟩
  subst hR
  refine sSeq_abs fun R hR => ?_
  walk_at "wp"
  subst hR
  refine cut_seq (fun env => ∃ r y3 y4 y5, Row ns p e r ∧ env = [SV.dat (eD e), SV.dat (.dict kds), SV.own false ((r.map bdE).map bdD), y3, y4, y5]) ?_ fun nx hnx => ?_
  · rintro env ⟨r, y3, y4, y5, hr, rfl⟩
    walk_at "wp"
    exact k r hr
  refine sWh_abs fun B hB => ?_
  refine pWh_inv (fun env => ∃ r a y4 y5, ((r = [] ∧ a = some e) ∨ ∃ A l, r = A ++ [l] ∧ r.head? = some e ∧ a = p (flE l)) ∧ Ch p r ∧ (r.map Prod.fst).Nodup ∧ (∀ x ∈ r, x.1 ∈ ns) ∧ env = [SV.dat (eD e), SV.dat (.dict kds), SV.own false ((r.map bdE).map bdD), SV.dat (pvD a), y4, y5])
    (fun env : List SV => match env[2]? with | some (SV.obj _ (Ct.lst l)) => 1001 - l.length | _ => 0) ⟨[], some e, _, _, .inl ⟨rfl, rfl⟩, trivial, List.nodup_nil, fun x hx => absurd hx (by simp), rfl⟩ ?_
  rintro env ⟨r, a, y4, y5, ha, hc, hn, hi, rfl⟩ K hK
  have hrl : r.length ≤ 1000 := by
    have := nodup_few hn (ys := ns) fun x hx => by
      obtain ⟨y, hy, rfl⟩ := List.mem_map.mp hx
      exact hi y hy
    rw [List.length_map] at this
    omega
  -- one step on
  have step : ∀ (f : En) (rt : RV → List SV → Prop) (bk : List SV → Prop), a = some f → f.1 ∈ ns → (r = [] ∨ f ≠ e) → B ⟨K, rt, bk, K⟩ [SV.dat (eD e), SV.dat (.dict kds), SV.own false ((r.map bdE).map bdD), SV.dat (pvD a), y4, y5] := fun f rt bk e1 hfn hf => by
    subst e1 hB
    have hfnm := hnm _ hfn
    have new : f.1 ∉ r.map Prod.fst ∧ Ch p (r ++ [f]) ∧ (r ++ [f]).head? = some e := by
      rcases ha with ⟨rfl, h⟩ | ⟨A, l, rfl, hh, h⟩
      · cases h
        exact ⟨by simp, trivial, rfl⟩
      · refine ⟨next_new P hc hn h.symm fun e' he' => ?_, hc.snoc h.symm, by rw [List.head?_append, hh]; rfl⟩
        rw [hh] at he'
        cases he'
        rcases hf with hf | hf
        · simp at hf
        · exact hf
    obtain ⟨z, b⟩ := f
    show sSeq _ _ _ [_, _, _, SV.dat (.tuple [.str z, .int (if b = true then 1 else 0)]), _, _]
    walk_at "wp"
    have hd : Txt.mul (Str.ofString "-") (if b = true then 1 else 0) ++ z = bdS (b, z) := en_dash (z, b)
    have hl1 : lookD kds (.tuple [.str z, .int (1 - if b = true then 1 else 0)]) = some (pvD (p (flE (z, b)))) := by
      have := hl (flE (z, b)) hfn
      have e2 : eD (flE (z, b)) = .tuple [.str z, .int (1 - if b = true then 1 else 0)] := by cases b <;> rfl
      rw [e2] at this
      exact this
    have hkO : KeyO none kds (.tuple [.str z, .int (1 - if b = true then 1 else 0)]) := by
      obtain ⟨q, hq, _⟩ := lookD_mem hl1
      exact keyO_of ⟨q, hq, keyT_E (hk q hq)⟩ (keyT_E ⟨z, _, rfl⟩)
    have hdl : (Txt.mul (Str.ofString "-") (if b = true then 1 else 0)).length + z.length ≤ 7 := by
      rw [← len_app, hd]
      exact bd_len (b := (b, z)) hfnm
    refine ⟨⟨by split <;> omega, by split <;> omega, by decide +kernel⟩, sizeL (by omega), ?_, sizeL (by omega), hkO, _, hl1, ?_⟩
    · rw [List.length_map, List.length_map, sizeLine_eq]; omega
    · refine hK _ ⟨r ++ [(z, b)], p (flE (z, b)), SV.dat (.str z), SV.dat (.int (if b = true then 1 else 0)), .inr ⟨r, (z, b), rfl, new.2.2, rfl⟩, new.2.1, ?_, fun x hx => ?_, ?_⟩ ?_
      · rw [List.map_append]
        exact List.nodup_append.mpr ⟨hn, by simp, fun x hx y hy e => by
          have hy : y = z := by simpa using hy
          rw [hy] at e
          exact new.1 (e ▸ hx)⟩
      · rcases List.mem_append.mp hx with hx | hx
        · exact hi x hx
        · rw [List.mem_singleton.mp hx]; exact hfn
      · rw [hd, List.map_append, List.map_append]
        rfl
      · show 1001 - _ < 1001 - ((r.map bdE).map bdD).length
        simp only [List.length_append, List.length_map, List.length_cons, List.length_nil]
        omega
  have out : (a = none ∨ a = some e) → r ≠ [] → nx [SV.dat (eD e), SV.dat (.dict kds), SV.own false ((r.map bdE).map bdD), SV.dat (pvD a), y4, y5] := fun h1 h2 => hnx _ ⟨r, _, _, _, by
    rcases ha with ⟨h, _⟩ | ⟨A, l, h3, h4, h5⟩
    · exact absurd h h2
    · exact ⟨h4, hc, hn, hi, A, l, h3, by rw [← h5]; exact h1⟩, rfl⟩
  cases a with
  | none =>
    walk_at "wp"
    show ∃ d, gIsN true .none .none = some d ∧ _
    walk_at "wp"
    refine out (.inl rfl) fun e => ?_
    rcases ha with ⟨_, h⟩ | ⟨A, l, h3, _⟩
    · cases h
    · rw [e] at h3
      simp at h3
  | some f =>
    have hfn : f.1 ∈ ns := by
      rcases ha with ⟨_, h⟩ | ⟨A, l, _, _, h⟩
      · cases h; exact he
      · exact P.inn h.symm
    walk_at "wp"
    show ∃ d, gIsN true (eD f) .none = some d ∧ _
    rw [gIsN_en]
    walk_at "wp"
    refine ⟨Nat.zero_le _, ?_⟩
    refine eq_hn (hn_bdsL 0 (r.map bdE)) (show Hn 1 (.list []) from fun d hd => absurd hd (by simp)) (by omega) (fun h => ?_) (fun h => ?_)
    · have hr : r = [] := by
        injection h with h
        simpa using h
      walk_at "wp"
      exact step f _ _ rfl hfn (.inl hr)
    · walk_at "wp"
      have hr : r ≠ [] := fun h2 => h (by rw [h2]; rfl)
      show ∃ d, gEq true (eD f) (eD e) = some d ∧ _
      refine ne_hn (hn_E (isE_en f) 0) (hn_E (isE_en e) 0) (by omega) (fun h => ?_) (fun h => ?_)
      · have := eD_inj h
        subst this
        walk_at "wp"
        exact out (.inr rfl) hr
      · walk_at "wp"
        exact step f _ _ rfl hfn (.inr fun h2 => h (by rw [h2]))

end Sw

open PySem PySem.Spec L2 Sw
namespace Sw
/-! ### the partners that joints tell -/
/-- joints, each sorted, in which each end of some names stands once -/
structure JsOk (ns : List Str) (js : List D) : Prop where
  form : ∀ j ∈ js, Jt j
  srt : ∀ j ∈ js, j = .tuple (srtD (tupE j))
  all : (js.flatMap tupE).Perm (ns.map (fun z => endD z 0) ++ ns.map fun z => endD z 1)
theorem JsOk.perm {ns : List Str} {js ks : List D} (h : JsOk ns js) (p : ks.Perm js) : JsOk ns ks :=
  ⟨fun j hj => h.form j (p.mem_iff.mp hj), fun j hj => h.srt j (p.mem_iff.mp hj), (p.flatMap_right _).trans h.all⟩
theorem JsOk.nod {ns : List Str} {js : List D} (h : JsOk ns js) (hn : ns.Nodup) : (js.flatMap tupE).Nodup := h.all.nodup_iff.mpr (ends_nodup hn)
theorem JsOk.mem {ns : List Str} {js : List D} (h : JsOk ns js) {x : D} : x ∈ js.flatMap tupE ↔ ∃ e : En, e.1 ∈ ns ∧ x = eD e := by
  rw [h.all.mem_iff, List.mem_append]
  constructor
  · rintro (hx | hx)
    · obtain ⟨z, hz, rfl⟩ := List.mem_map.mp hx
      exact ⟨(z, false), hz, rfl⟩
    · obtain ⟨z, hz, rfl⟩ := List.mem_map.mp hx
      exact ⟨(z, true), hz, rfl⟩
  · rintro ⟨⟨z, b⟩, hz, rfl⟩
    cases b with
    | false => exact .inl (List.mem_map_of_mem (f := fun z => endD z 0) hz)
    | true => exact .inr (List.mem_map_of_mem (f := fun z => endD z 1) hz)
theorem jP_mem {j x v : D} (hj : Jt j) : (x, v) ∈ jP j ↔ (j = .tuple [x] ∧ v = .none) ∨ j = .tuple [x, v] ∧ IsE v ∨ j = .tuple [v, x] ∧ IsE v := by
  cases hj with
  | @one a ha =>
    simp only [jP, List.mem_singleton, Prod.mk.injEq, PyData.tuple.injEq, List.cons.injEq, and_true]
    constructor
    · rintro ⟨rfl, rfl⟩; exact .inl ⟨rfl, rfl⟩
    · rintro (⟨rfl, rfl⟩ | ⟨⟨_, h⟩, _⟩ | ⟨⟨_, h⟩, _⟩)
      · exact ⟨rfl, rfl⟩
      · cases h
      · cases h
  | @two a b ha hb =>
    simp only [jP, List.mem_cons, List.mem_singleton, Prod.mk.injEq, PyData.tuple.injEq, List.cons.injEq, and_true, List.not_mem_nil, or_false]
    constructor
    · rintro (⟨rfl, rfl⟩ | ⟨rfl, rfl⟩)
      · exact .inr (.inl ⟨⟨rfl, rfl⟩, hb⟩)
      · exact .inr (.inr ⟨⟨rfl, rfl⟩, ha⟩)
    · rintro (⟨⟨_, h⟩, _⟩ | ⟨⟨rfl, rfl⟩, _⟩ | ⟨⟨rfl, rfl⟩, _⟩)
      · cases h
      · exact .inl ⟨rfl, rfl⟩
      · exact .inr ⟨rfl, rfl⟩
theorem jP_sym {j x y : D} (hj : Jt j) (hy : IsE y) (h : (x, y) ∈ jP j) (hx : IsE x) : (y, x) ∈ jP j := by
  rw [jP_mem hj] at h ⊢
  rcases h with ⟨_, rfl⟩ | ⟨h, _⟩ | ⟨h, _⟩
  · obtain ⟨_, _, e⟩ := hy; cases e
  · exact .inr (.inr ⟨h, hx⟩)
  · exact .inr (.inl ⟨h, hx⟩)
/-- a look-up among unlike ends -/
theorem lookE_iff {x v : D} (hx : IsE x) : ∀ {kds : List (D × D)}, (∀ p ∈ kds, IsE p.1) → (kds.map Prod.fst).Nodup → (lookD kds x = some v ↔ (x, v) ∈ kds)
  | [], _, _ => by simp [lookD_nil]
  | p :: r, hk, hn => by
    rw [List.map_cons, List.nodup_cons] at hn
    have ih := lookE_iff (v := v) hx (kds := r) (fun q hq => hk q (List.mem_cons_of_mem _ hq)) hn.2
    rw [lookD_cons]
    by_cases e : p.1 = x
    · rw [if_pos ((eqv_E (hk p List.mem_cons_self) hx).mpr e)]
      constructor
      · intro h
        cases h
        rw [← e]
        exact List.mem_cons_self
      · intro h
        rcases List.mem_cons.mp h with h | h
        · rw [← h]
        · exact absurd (by rw [e]; exact List.mem_map_of_mem (f := Prod.fst) h) hn.1
    · rw [if_neg (fun h => e ((eqv_E (hk p List.mem_cons_self) hx).mp h)), ih]
      constructor
      · exact fun h => List.mem_cons_of_mem _ h
      · intro h
        rcases List.mem_cons.mp h with h | h
        · exact absurd (by rw [← h]) e
        · exact h
def enOf : D → Option En
  | .tuple [.str z, .int s] => some (z, decide (s = 1))
  | _ => none
theorem enOf_eD (e : En) : enOf (eD e) = some e := by
  obtain ⟨z, b⟩ := e
  cases b <;> rfl
def pJ (js : List D) (e : En) : Option En := (lookD (js.flatMap jP) (eD e)).bind enOf
section
variable {ns : List Str} {js : List D}
theorem JsOk.look (h : JsOk ns js) (hn : ns.Nodup) {x v : D} (hx : IsE x) : lookD (js.flatMap jP) x = some v ↔ (x, v) ∈ js.flatMap jP :=
  lookE_iff hx (jPs_isE h.form) (by rw [jPs_keys h.form]; exact h.nod hn)
theorem JsOk.val (h : JsOk ns js) {x v : D} (hm : (x, v) ∈ js.flatMap jP) : v = .none ∨ ∃ f : En, f.1 ∈ ns ∧ v = eD f := by
  obtain ⟨j, hj, hp⟩ := List.mem_flatMap.mp hm
  rcases (jP_mem (h.form j hj)).mp hp with ⟨_, rfl⟩ | ⟨e, _⟩ | ⟨e, _⟩
  · exact .inl rfl
  · exact .inr (h.mem.mp (List.mem_flatMap.mpr ⟨j, hj, by rw [e]; simp [tupE]⟩))
  · exact .inr (h.mem.mp (List.mem_flatMap.mpr ⟨j, hj, by rw [e]; simp [tupE]⟩))
theorem JsOk.tot (h : JsOk ns js) (hn : ns.Nodup) {e : En} (he : e.1 ∈ ns) : lookD (js.flatMap jP) (eD e) = some (pvD (pJ js e)) := by
  have hk : eD e ∈ (js.flatMap jP).map Prod.fst := by rw [jPs_keys h.form]; exact h.mem.mpr ⟨e, he, rfl⟩
  obtain ⟨⟨x, v⟩, hm, e1⟩ := List.mem_map.mp hk
  have e1 : x = eD e := e1
  subst e1
  have hl := (h.look hn (isE_en e)).mpr hm
  have hp : pJ js e = enOf v := by unfold pJ; rw [hl]; rfl
  rw [hl, hp]
  rcases h.val hm with rfl | ⟨f, _, rfl⟩
  · rfl
  · rw [enOf_eD]; rfl
theorem JsOk.pj (h : JsOk ns js) (hn : ns.Nodup) {e f : En} (g : pJ js e = some f) : (eD e, eD f) ∈ js.flatMap jP ∧ f.1 ∈ ns := by
  unfold pJ at g
  cases q : lookD (js.flatMap jP) (eD e) with
  | none => rw [q] at g; cases g
  | some v =>
    rw [q] at g
    have hm := (h.look hn (isE_en e)).mp q
    rcases h.val hm with rfl | ⟨f', hf, rfl⟩
    · cases g
    · have g : enOf (eD f') = some f := g
      rw [enOf_eD] at g
      cases g
      exact ⟨hm, hf⟩
theorem JsOk.pg (h : JsOk ns js) (hn : ns.Nodup) : Pg ns (pJ js) where
  sym := fun {e f} g => by
    obtain ⟨hm, _⟩ := h.pj hn g
    obtain ⟨j, hj, hp⟩ := List.mem_flatMap.mp hm
    have := (h.look hn (isE_en f)).mpr (List.mem_flatMap.mpr ⟨j, hj, jP_sym (h.form j hj) (isE_en f) hp (isE_en e)⟩)
    unfold pJ
    rw [this]
    exact enOf_eD e
  irr := fun e g => by
    obtain ⟨hm, _⟩ := h.pj hn g
    obtain ⟨j, hj, hp⟩ := List.mem_flatMap.mp hm
    have hd : (tupE j).Nodup := by
      obtain ⟨a, b, rfl⟩ := List.append_of_mem hj
      have := h.nod hn
      rw [List.flatMap_append] at this
      exact (List.nodup_append.mp (List.nodup_append.mp this).2.1).1
    rcases (jP_mem (h.form j hj)).mp hp with ⟨_, e1⟩ | ⟨rfl, _⟩ | ⟨rfl, _⟩
    · cases e1
    · simp [tupE] at hd
    · simp [tupE] at hd
  inn := fun g => (h.pj hn g).2
theorem JsOk.one (h : JsOk ns js) (hn : ns.Nodup) {e : En} (he : e.1 ∈ ns) (g : pJ js e = none) : .tuple [eD e] ∈ js := by
  have := h.tot hn he
  rw [g] at this
  obtain ⟨j, hj, hp⟩ := List.mem_flatMap.mp ((h.look hn (isE_en e)).mp this)
  rcases (jP_mem (h.form j hj)).mp hp with ⟨rfl, _⟩ | ⟨_, q⟩ | ⟨_, q⟩
  · exact hj
  · obtain ⟨_, _, q⟩ := q; cases q
  · obtain ⟨_, _, q⟩ := q; cases q
theorem JsOk.two (h : JsOk ns js) (hn : ns.Nodup) {e f : En} (g : pJ js e = some f) : jt (eD e) (eD f) ∈ js := by
  obtain ⟨hm, _⟩ := h.pj hn g
  obtain ⟨j, hj, hp⟩ := List.mem_flatMap.mp hm
  rcases (jP_mem (h.form j hj)).mp hp with ⟨_, e1⟩ | ⟨rfl, _⟩ | ⟨rfl, _⟩
  · cases e1
  · have := h.srt _ hj
    rw [this] at hj
    exact hj
  · have := h.srt _ hj
    rw [this] at hj
    rw [jt_comm (isE_en e) (isE_en f)]
    exact hj
theorem JsOk.uniq (h : JsOk ns js) (hn : ns.Nodup) : JN fun j => j ∈ js := ⟨fun hi hj h1 h2 => uniq_flat (h.nod hn) hi hj h1 h2⟩
/-- a set's own joints are such -/
theorem jsOk_jts {ss : List Strand} (h : ∀ s ∈ ss, s.2 ≠ []) (p : ((beadsOf ss).map Prod.snd).Perm ns) : JsOk ns (jts ss) := by
  have two : ∀ x y : D, IsE x → IsE y → Jt (jt x y) ∧ jt x y = .tuple (srtD (tupE (jt x y))) := fun x y hx hy => by
    have hp : (srtD [x, y]).Perm [x, y] := srtD_perm _
    have e : srtD (srtD [x, y]) = srtD [x, y] := srtD_congr (alikeE (xs := [x, y]) fun z hz => by
      rcases List.mem_cons.mp hz with rfl | hz
      · exact hx
      · rw [List.mem_singleton.mp hz]; exact hy) hp
    have hl : (srtD [x, y]).length = 2 := srtD_len _
    refine ⟨?_, congrArg PyData.tuple e.symm⟩
    unfold jt
    match q : srtD [x, y], hl with
    | [a, b], _ =>
      rw [q] at hp
      have m : ∀ z ∈ [a, b], IsE z := fun z hz => by
        rcases List.mem_cons.mp (hp.mem_iff.mp hz) with rfl | hz
        · exact hx
        · rw [List.mem_singleton.mp hz]; exact hy
      exact .two (m a (by simp)) (m b (by simp))
  have one : ∀ x : D, IsE x → Jt (.tuple [x]) ∧ PyData.tuple [x] = .tuple (srtD (tupE (.tuple [x]))) := fun x hx => ⟨.one hx, by
    show PyData.tuple [x] = .tuple (srtD [x])
    have := List.perm_singleton.mp (srtD_perm [x])
    rw [this]⟩
  have all : ∀ j ∈ jts ss, Jt j ∧ j = .tuple (srtD (tupE j)) := fun j hj => by
    obtain ⟨s, _, hj⟩ := List.mem_flatMap.mp hj
    rcases List.mem_append.mp hj with hj | hj
    · obtain ⟨i, hi⟩ := List.getElem?_of_mem hj
      unfold adjJ at hi
      rw [List.getElem?_zipWith] at hi
      cases q1 : s.2[i]? with
      | none => rw [q1] at hi; simp at hi
      | some a =>
        cases q2 : s.2.tail[i]? with
        | none => rw [q1, q2] at hi; simp at hi
        | some b =>
          rw [q1, q2] at hi
          cases hi
          exact two _ _ (isE_r a) (isE_l b)
    · unfold closeJ at hj
      split at hj
      · rw [List.mem_singleton.mp hj]
        exact two _ _ (isE_r _) (isE_l _)
      · rcases List.mem_cons.mp hj with rfl | hj
        · exact one _ (isE_l _)
        · rw [List.mem_singleton.mp hj]
          exact one _ (isE_r _)
  exact ⟨fun j hj => (all j hj).1, fun j hj => (all j hj).2, all_ends' h p⟩
end

end Sw

open PySem PySem.Spec L2 Sw
namespace Sw
/-! ### rows make strands -/
def rowS (p : En → Option En) (e : En) (r : List En) : Strand := ((p e).isSome, r.map bdE)
theorem adj_row {ns : List Str} {js : List D} (J : JsOk ns js) (hn : ns.Nodup) : ∀ {r : List En}, Ch (pJ js) r → ∀ j ∈ adjJ (r.map bdE), j ∈ js
  | [], _, j, h => nomatch h
  | [a], _, j, h => nomatch h
  | a :: b :: r, hc, j, h => by
    have h : j ∈ jt (rE (bdE a)) (lE (bdE b)) :: adjJ ((b :: r).map bdE) := h
    rcases List.mem_cons.mp h with rfl | h
    · rw [rE_bdE, lE_bdE]
      exact J.two hn hc.1
    · exact adj_row J hn (r := b :: r) hc.2 j h
theorem last_row (A : List En) (l : En) : lastB ((A ++ [l]).map bdE) = bdE l := by
  rw [List.map_append]
  exact last_app (A := A.map bdE) (B := [bdE l]) (by simp)
theorem first_row {r : List En} {e : En} (h : r.head? = some e) : firstB (r.map bdE) = bdE e := by
  cases r with
  | nil => cases h
  | cons a r => cases h; rfl
/-- the joints of a row's strand are told -/
theorem row_js {ns : List Str} {js : List D} (J : JsOk ns js) (hn : ns.Nodup) {e : En} {r : List En} (h : Row ns (pJ js) e r) (hf : ∀ A l, r = A ++ [l] → (pJ js e).isSome = true → pJ js (flE l) = some e) : ∀ j ∈ strJ (rowS (pJ js) e r), j ∈ js := fun j hj => by
  obtain ⟨A, l, hr, hfin⟩ := h.fin
  have he : e.1 ∈ ns := by
    have := h.hd
    cases r with
    | nil => cases this
    | cons a r => cases this; exact h.inn _ List.mem_cons_self
  have hl : l.1 ∈ ns := h.inn l (by rw [hr]; simp)
  rcases List.mem_append.mp hj with hj | hj
  · exact adj_row J hn h.ch j hj
  · unfold closeJ at hj
    have e1 : lastB (rowS (pJ js) e r).2 = bdE l := by show lastB (r.map bdE) = _; rw [hr]; exact last_row A l
    have e2 : firstB (rowS (pJ js) e r).2 = bdE e := first_row h.hd
    rw [e1, e2, rE_bdE, lE_bdE] at hj
    cases q : pJ js e with
    | none =>
      rw [if_neg (by show ¬ (pJ js e).isSome = true; rw [q]; decide)] at hj
      rcases List.mem_cons.mp hj with rfl | hj
      · exact J.one hn he q
      · rw [List.mem_singleton.mp hj]
        refine J.one hn hl ?_
        rcases hfin with h1 | h1
        · exact h1
        · have := (J.pg hn).sym h1
          rw [q] at this
          cases this
    | some f =>
      rw [if_pos (by show (pJ js e).isSome = true; rw [q]; rfl)] at hj
      rw [List.mem_singleton.mp hj]
      exact J.two hn (hf A l hr (by rw [q]; rfl))
/-- strands made so far -/
structure Made (ns : List Str) (js : List D) (ss : List Strand) : Prop where
  ne : ∀ s ∈ ss, s.2 ≠ []
  nd : ((beadsOf ss).map Prod.snd).Nodup
  inn : ∀ z ∈ (beadsOf ss).map Prod.snd, z ∈ ns
  jts : ∀ j ∈ jts ss, j ∈ js
/-- names that were met are closed -/
theorem Made.closed {ns : List Str} {js : List D} {ss : List Strand} (J : JsOk ns js) (hn : ns.Nodup) (M : Made ns js ss) {e f : En} (h : pJ js e = some f) (he : e.1 ∈ (beadsOf ss).map Prod.snd) : f.1 ∈ (beadsOf ss).map Prod.snd := by
  have K := jsOk_jts (ns := (beadsOf ss).map Prod.snd) M.ne (List.Perm.refl _)
  obtain ⟨j, hj, hx⟩ := List.mem_flatMap.mp (K.mem.mpr ⟨e, he, rfl⟩)
  have e1 := (J.uniq hn).uniq (M.jts j hj) (J.two hn h) hx mem_jt.1
  rw [e1] at hj
  obtain ⟨g, hg, e2⟩ := K.mem.mp (List.mem_flatMap.mpr ⟨_, hj, mem_jt.2⟩)
  rw [eD_inj e2]
  exact hg
theorem Made.row_new {ns : List Str} {js : List D} {ss : List Strand} (J : JsOk ns js) (hn : ns.Nodup) (M : Made ns js ss) : ∀ {r : List En}, Ch (pJ js) r → (∀ e, r.head? = some e → e.1 ∉ (beadsOf ss).map Prod.snd) → ∀ x ∈ r, x.1 ∉ (beadsOf ss).map Prod.snd
  | [], _, _, x, hx => nomatch hx
  | [a], _, h, x, hx => by rw [List.mem_singleton.mp hx]; exact h a rfl
  | a :: b :: r, hc, h, x, hx => by
    rcases List.mem_cons.mp hx with rfl | hx
    · exact h _ rfl
    · refine M.row_new J hn (r := b :: r) hc.2 (fun e he => ?_) x hx
      cases he
      intro hb
      have := M.closed J hn ((J.pg hn).sym hc.1) hb
      exact h a rfl this
theorem Made.snoc {ns : List Str} {js : List D} {ss : List Strand} (J : JsOk ns js) (hn : ns.Nodup) (M : Made ns js ss) {e : En} {r : List En} (h : Row ns (pJ js) e r) (he : e.1 ∉ (beadsOf ss).map Prod.snd) (hf : ∀ A l, r = A ++ [l] → (pJ js e).isSome = true → pJ js (flE l) = some e) : Made ns js (ss ++ [rowS (pJ js) e r]) ∧ (beadsOf (ss ++ [rowS (pJ js) e r])).map Prod.snd = (beadsOf ss).map Prod.snd ++ r.map Prod.fst := by
  have hnew := M.row_new J hn h.ch fun x hx => by rw [h.hd] at hx; cases hx; exact he
  have e1 : (beadsOf (ss ++ [rowS (pJ js) e r])).map Prod.snd = (beadsOf ss).map Prod.snd ++ r.map Prod.fst := by
    rw [beadsOf_app, List.map_append, rowS, bo_one, List.map_map]
    rfl
  refine ⟨⟨fun s hs => ?_, ?_, fun z hz => ?_, fun j hj => ?_⟩, e1⟩
  · rcases List.mem_append.mp hs with hs | hs
    · exact M.ne s hs
    · rw [List.mem_singleton.mp hs]
      intro q
      have q : r.map bdE = [] := q
      have hh := h.hd
      rw [List.map_eq_nil_iff.mp q] at hh
      cases hh
  · rw [e1]
    refine List.nodup_append.mpr ⟨M.nd, h.nd, fun a ha b hb e => ?_⟩
    obtain ⟨x, hx, rfl⟩ := List.mem_map.mp hb
    exact hnew x hx (e ▸ ha)
  · rw [e1] at hz
    rcases List.mem_append.mp hz with hz | hz
    · exact M.inn z hz
    · obtain ⟨x, hx, rfl⟩ := List.mem_map.mp hz
      exact h.inn x hx
  · rw [jts_snoc] at hj
    rcases List.mem_append.mp hj with hj | hj
    · exact M.jts j hj
    · exact row_js J hn h hf j hj
/-- all names met: the joints are just those told -/
theorem Made.done {ns : List Str} {js : List D} {ss : List Strand} (J : JsOk ns js) (hn : ns.Nodup) (M : Made ns js ss) (ha : ∀ z ∈ ns, z ∈ (beadsOf ss).map Prod.snd) : ((beadsOf ss).map Prod.snd).Perm ns ∧ (Sw.jts ss).Perm js := by
  have hp : ((beadsOf ss).map Prod.snd).Perm ns := (List.perm_ext_iff_of_nodup M.nd hn).mpr fun z => ⟨M.inn z, ha z⟩
  have K := jsOk_jts (ns := ns) M.ne hp
  have nod : ∀ {ks : List D}, JsOk ns ks → ks.Nodup := fun {ks} h => by
    have hn' := h.nod hn
    have hf := h.form
    clear h
    induction ks with
    | nil => exact List.nodup_nil
    | cons k r ih =>
      have hn' : (tupE k ++ r.flatMap tupE).Nodup := hn'
      obtain ⟨h1, h2, h3⟩ := List.nodup_append.mp hn'
      refine List.nodup_cons.mpr ⟨fun hm => ?_, ih h2 fun j hj => hf j (List.mem_cons_of_mem _ hj)⟩
      obtain ⟨x, hx⟩ : ∃ x, x ∈ tupE k := by
        cases hf k List.mem_cons_self with
        | one => exact ⟨_, List.mem_cons_self⟩
        | two => exact ⟨_, List.mem_cons_self⟩
      exact h3 x hx x (List.mem_flatMap.mpr ⟨k, hm, hx⟩) rfl
  refine ⟨hp, (List.perm_ext_iff_of_nodup (nod K) (nod J)).mpr fun j => ⟨M.jts j, fun hj => ?_⟩⟩
  obtain ⟨x, hx⟩ : ∃ x, x ∈ tupE j := by
    cases J.form j hj with
    | one => exact ⟨_, List.mem_cons_self⟩
    | two => exact ⟨_, List.mem_cons_self⟩
  obtain ⟨e, he, rfl⟩ := J.mem.mp (List.mem_flatMap.mpr ⟨j, hj, hx⟩)
  obtain ⟨i, hi, hx'⟩ := List.mem_flatMap.mp (K.mem.mpr ⟨e, he, rfl⟩)
  rw [(J.uniq hn).uniq hj (M.jts i hi) hx hx']
  exact hi
/-! ### names that were seen, in a dict -/
def StrK (kds : List (D × D)) : Prop := ∀ p ∈ kds, ∃ z : Str, p.1 = .str z
theorem eqv_S (a b : Str) : PyData.eqv (.str a) (.str b) = decide (a = b) := by
  simp only [PyData.eqv]
  by_cases h : a = b <;> simp [h]
theorem lookD_mapS {z : Str} {v : D} (w : Str) : ∀ {kds : List (D × D)}, StrK kds → lookD (kds.map fun p => if PyData.eqv p.1 (.str z) = true then (p.1, v) else p) (.str w) = if w = z then (lookD kds (.str w)).map fun _ => v else lookD kds (.str w)
  | [], _ => by simp [lookD_nil]
  | p :: r, h => by
    obtain ⟨a, ha⟩ := h p List.mem_cons_self
    have ih := lookD_mapS (z := z) (v := v) w (kds := r) fun q hq => h q (List.mem_cons_of_mem _ hq)
    obtain ⟨k, d⟩ := p
    have ha : k = .str a := ha
    subst ha
    rw [List.map_cons]
    show lookD ((if PyData.eqv (.str a) (.str z) = true then (PyData.str a, v) else (.str a, d)) :: _) _ = _
    rw [lookD_cons (PyData.str a, d)]
    simp only [eqv_S, decide_eq_true_eq] at ih ⊢
    by_cases h1 : a = z
    · rw [if_pos h1, lookD_cons]
      simp only [eqv_S, decide_eq_true_eq]
      by_cases h2 : a = w
      · rw [if_pos h2, if_pos h2, if_pos (by rw [← h2]; exact h1)]
        rfl
      · rw [if_neg h2, if_neg h2]
        exact ih
    · rw [if_neg h1, lookD_cons]
      simp only [eqv_S, decide_eq_true_eq]
      by_cases h2 : a = w
      · rw [if_pos h2, if_pos h2, if_neg (by rw [← h2]; exact h1)]
      · rw [if_neg h2, if_neg h2]
        exact ih
theorem lookD_putS {kds : List (D × D)} {z : Str} {v : D} (h : StrK kds) (w : Str) : lookD (putD kds (.str z) v) (.str w) = if w = z then some v else lookD kds (.str w) := by
  unfold putD
  split
  · rename_i hs
    rw [lookD_mapS w h]
    by_cases e : w = z
    · rw [if_pos e, if_pos e, e]
      cases q : lookD kds (.str z) with
      | none => rw [q] at hs; cases hs
      | some x => rfl
    · rw [if_neg e, if_neg e]
  · rename_i hs
    rw [lookD_app, lookD_cons, eqv_S]
    by_cases e : w = z
    · have : lookD kds (.str w) = none := by
        rw [e]
        cases q : lookD kds (.str z) with
        | none => rfl
        | some x => rw [q] at hs; exact absurd rfl hs
      rw [this, if_pos (by simpa using e.symm), if_pos e]
      rfl
    · rw [if_neg (by simpa using fun h => e h.symm), if_neg e, lookD_nil]
      cases lookD kds (.str w) <;> rfl
theorem strK_put {kds : List (D × D)} {z : Str} {v : D} (h : StrK kds) : StrK (putD kds (.str z) v) := by
  unfold putD
  split
  · intro p hp
    obtain ⟨q, hq, rfl⟩ := List.mem_map.mp hp
    split
    · exact h q hq
    · exact h q hq
  · intro p hp
    rcases List.mem_append.mp hp with hp | hp
    · exact h p hp
    · rw [List.mem_singleton.mp hp]; exact ⟨z, rfl⟩

end Sw

open PySem PySem.Spec L2 Sw
local macro_rules | `(tactic| walk_at "wy") => `(tactic| simp only [sSetAll, fListRg1, fListRg2, iRevL, iRg2, gReverse_0, gAbs_1, qLenS, qIxS, fCallS, fCallR, sSeq, sIf, sNil, sPass, sBreak, sCont, sRet, sRetF, sRetS, sDrop, sAsg, sAsgF, sSetIx, sAsgG, sFor, sRaise, sAsgD, sPutD, sFrzD, qDIn, qDGet, qDGetO, iKeysD, OV.dic, ex_pr, ex_pr0, ex_dic, ex_dic0, ex_kds, keyO_some, gListDic_1, gClear_0, qDisp1, qChain, qRest, tAnd', tOr', tNot', qTest, qAnd, qOr, qNot, qOp, qVar, qC, qF, qSl, qPn, qPs, qTup, fLst, qCB, fCB, qIsi, qJoin, fOp, qCons, qNil, qMO, qMO0, qAddD, qCall, qCallL, fCall, fCallL, qCallV, ex_dt, ex_fr, ex_frL, atom_b, atom_i, atom_s, atom_n, ex_tupv, ex_consv, eq_self, fLc, fLcR, restE, NoOwn, nob_d, nob_u, List.getD_cons_zero, List.getD_cons_succ, wipeE, iAny, iRg1, iRg2, iEnu, gN, gT, gsC, gsN, tYes', endsOf, LentE,
  svD, Ct.toD, OV.rd, OV.fz, rdAll, fzAll, bindS, mapS, ex_some, ex_fz, ex_fzs, ex_own, ex_own0, ex_ownF, ex_bool, ex_int, ex_lst, ex_strv, ex_svd, ex_svo, ex_if, ex_ifb, ex_som0, ex_fl, ex_flN, ex_ifp, true_and, and_true,
  List.getElem?_cons_zero, List.getElem?_cons_succ, List.set_cons_zero, List.set_cons_succ, List.length_cons, List.length_nil, List.append_nil, List.nil_append, List.cons_append, List.map_nil, List.map_cons, List.length_set,
  atI_lit, ixN_lit, gI_ii, gAdd_ii, gAdd_ss, gAdd_ll, gAdd_tt, gMul_ii, gMul_si, gLt_ii, gLt_ss, gIx_li, gIx_ti, gIx_si, gLen_l, gLen_t, gLen_s, gListF_l, gListF_t, gTuple_l, gTuple_t, gCatF_ll, gEq_ii, gNe_ii, gEq_ss, gNe_ss, gEq_bb, gNe_bb, gSl_l, gSl_t, gSl_s, gIsN_n, gNotN_n, gIsN_b, gIsN_i, gIsN_s, gIsN_l, gIsN_t, gIsN_d, ne_eq, not_true_eq_false, not_false_eq_true, gAppend_1, gExtend_l, gExtend_t, gRev_l, gRev_t, qRevA, RV.toD, seqOf_l, seqOf_t, itemsOf_l, itemsOf_t, itemsOf_s, gSortD_s, gIsB_bb, gNotB_bb, qNeg, qVM, fVM, fSortK, gJoin_s, gAll_b, gAny_b, gPopAt_1, isi_str, isi_int, isi_bool, isi_list, isi_tuple, isi_none, dSub, gDiv, gMod, gPow, gCmp,
  Bool.not_true, Bool.not_false, if_true, if_false, ite_true, ite_false, reduceIte, decide_eq_true_eq, beq_iff_eq, Bool.not_eq_true', beq_eq_false_iff_ne, Bool.false_eq_true, Nat.reduceLT, Nat.reduceAdd, Nat.reduceLeDiff, Nat.lt_add_one, Nat.zero_lt_succ, Nat.not_lt_zero])
namespace Sw
/-! ### what a script deals -/
/-- a deal: the digits left, the mix -/
def DlOk (fd : List D) : Prop := ∃ o m : Int, fd = [.int o, .int m] ∧ 0 ≤ o ∧ 0 ≤ m ∧ m < 2147483648
def sp_law_deal : PSpS := fun _ ds Q => ∃ k : Int, ds = [.int k] ∧ 0 ≤ k ∧ k < 1000 ∧ ∀ fd, DlOk fd → Q (.fr fd)
/-! law_deal level 1 fresh -/
abbrev N_law_deal : List Str := ["_law_script", "_law_at", "_law_cell", "_law_own"]
def T_law_deal (aS : Addr) (nS : List Int) : PS' := (sSeq (sAsg 2 (qOp gAdd (qOp gMul (qC (.int 7919)) (qVar 1)) (qC (.int 1000003))))
  (sSeq (sIf (qTest (qOp gLt (qVar 1) (qLenS aS nS 0))) (sAsg 2 (qIxS aS nS 0 (qVar 1))) (sIf (qTest (qOp (gI (gCmp fun i j => decide (j < i))) (qLenS aS nS 0) (qC (.int 0)))) (sAsg 2 (qOp gAdd (qOp gMul (qOp (gI gMod) (qIxS aS nS 0 (qOp (gI gMod) (qVar 1) (qLenS aS nS 0))) (qC (.int 2147483629))) (qC (.int 31))) (qOp gMul (qC (.int 7919)) (qVar 1)))) sNil))
  (sSeq (sAsg 3 (qC (.int 0)))
  (sSeq (sIf (qTest (qOp (gI (gCmp fun i j => decide (j ≤ i))) (qVar 2) (qOp (gI gPow) (qC (.int 10)) (qC (.int 18))))) (sAsg 3 (qVar 2)) sNil)
  (sRetF (fLst (qCons (qVar 3) (qCons (qOp gAdd (qOp (gI gMod) (qOp gAdd (qOp gMul (qOp (gI gMod) (qVar 2) (qC (.int 2147483629))) (qC (.int 48271))) (qOp gMul (qC (.int 40692)) (qVar 1))) (qC (.int 2147483646))) (qC (.int 1))) qNil))))))))
theorem pure_law_deal (a : Addr) (ns : List Int) (ds : List D) (Q : RV → Prop) (h : sp_law_deal ns ds Q) : T_law_deal a ns (endsOf false fun rv _ => Q rv) (startS N_law_deal a ds) := by
  obtain ⟨k, rfl, k0, k1, hQ⟩ := h
  show T_law_deal a ns _ [SV.raw (.ref a), SV.dat (.int k), SV.un, SV.un]
  unfold T_law_deal
  refine sSeq_abs fun R hR => ?_
  walk_at "wy"
  refine ⟨.inl ⟨by decide, by decide⟩, ?_⟩
  subst hR
  refine cut_seq (fun env => ∃ c : Int, env = [SV.raw (.ref a), SV.dat (.int k), SV.dat (.int c), SV.un]) ?_ fun nx hnx => ?_
  · rintro env ⟨c, rfl⟩
    have fin : ∀ o : Int, 0 ≤ o → Q (RV.fr [.int o, .int ((c % 2147483629 * 48271 + 40692 * k) % 2147483646 + 1)]) := fun o ho => by
      have g1 : 0 ≤ (c % 2147483629 * 48271 + 40692 * k) % 2147483646 := Int.emod_nonneg _ (by decide)
      have g2 : (c % 2147483629 * 48271 + 40692 * k) % 2147483646 < 2147483646 := Int.emod_lt_of_pos _ (by decide)
      generalize (c % 2147483629 * 48271 + 40692 * k) % 2147483646 = y at g1 g2 ⊢
      exact hQ _ ⟨o, y + 1, rfl, ho, by omega, by omega⟩
    have e18 : (10 : Int) ^ Int.toNat 18 = 1000000000000000000 := by decide
    walk_at "wy"
    refine ⟨⟨by decide, by decide, by decide⟩, ?_⟩
    split
    · refine ⟨by decide, .inr ⟨by decide, by decide⟩, .inl ⟨by decide, by decide⟩, by decide, by decide, fin c ?_⟩
      rename_i h1
      rw [e18] at h1
      omega
    · exact ⟨by decide, .inr ⟨by decide, by decide⟩, .inl ⟨by decide, by decide⟩, by decide, by decide, fin 0 (by omega)⟩
  · walk_at "wy"
    split
    · exact ⟨k0, by omega, hnx _ ⟨_, rfl⟩⟩
    · split
      · rename_i h1 h2
        refine ⟨by omega, Int.emod_nonneg _ (by omega), Int.emod_lt_of_pos _ (by omega), by decide, .inr ⟨by decide, by decide⟩, .inl ⟨by decide, by decide⟩, hnx _ ⟨_, rfl⟩⟩
      · exact hnx _ ⟨_, rfl⟩
def sp_law_draw : PSp := fun fl ds Q => ∃ fd many, fl = some fd ∧ DlOk fd ∧ ds = [.int many] ∧ 1 ≤ many ∧ many < 1073741824 ∧ ∀ d fd2, 0 ≤ d → d < many → DlOk fd2 → Q (.dt (.int d)) (some fd2)
/-! law_draw (lent) level 1 -/
abbrev N_law_draw : List Str := ["_law_deal_here", "_law_many", "_law_digit", "_law_one"]
def T_law_draw : PS' := (sSeq (sIf (qTest (qOp (gI (gCmp fun i j => decide (j < i))) (qOp gIx (qVar 0) (qC (.int 0))) (qC (.int 0)))) (sSeq (sAsg 2 (qOp (gI gMod) (qOp gIx (qVar 0) (qC (.int 0))) (qVar 1)))
  (sSeq (sSetIx 0 (qOp (gI gDiv) (qOp gIx (qVar 0) (qC (.int 0))) (qVar 1)) (qC (.int 0)))
  (sRet (qVar 2)))) sNil)
  (sSeq (sAsg 3 (qOp (gI gMod) (qOp gMul (qOp gIx (qVar 0) (qC (.int 1))) (qC (.int 16807))) (qC (.int 2147483647))))
  (sSeq (sSetIx 0 (qOp gAdd (qOp (gI gMod) (qOp gAdd (qOp gMul (qVar 3) (qC (.int 48271))) (qC (.int 30103))) (qC (.int 2147483646))) (qC (.int 1))) (qC (.int 1)))
  (sRet (qOp (gI gMod) (qOp gAdd (qOp gMul (qOp (gI gMod) (qOp gMul (qVar 3) (qVar 3)) (qC (.int 2147483629))) (qC (.int 2147483563))) (qOp (gI gDiv) (qOp gIx (qVar 0) (qC (.int 1))) (qC (.int 127)))) (qVar 1))))))
theorem pure_law_draw (fl : Option (List D)) (ds : List D) (Q : RV → Option (List D) → Prop) (_ : true = true ↔ fl ≠ none) (h : sp_law_draw fl ds Q) : T_law_draw (endsOf true Q) (startE true N_law_draw fl ds) := by
  obtain ⟨fd, many, rfl, ⟨o, m, rfl, ho, hm, hm2⟩, rfl, h1, h2, k⟩ := h
  show T_law_draw _ [SV.own true _, SV.dat _, SV.un, SV.un]
  unfold T_law_draw
  walk_at "wy"
  split
  · exact ⟨by omega, ⟨by omega, h2⟩, k _ _ (Int.emod_nonneg _ (by omega)) (Int.emod_lt_of_pos _ (by omega)) ⟨o / many, m, rfl, Int.ediv_nonneg ho (by omega), hm, hm2⟩⟩
  · have g1 : 0 ≤ m * 16807 % 2147483647 := Int.emod_nonneg _ (by decide)
    have g2 : m * 16807 % 2147483647 < 2147483647 := Int.emod_lt_of_pos _ (by decide)
    generalize m * 16807 % 2147483647 = x at g1 g2 ⊢
    have g3 : 0 ≤ (x * 48271 + 30103) % 2147483646 := Int.emod_nonneg _ (by decide)
    have g4 : (x * 48271 + 30103) % 2147483646 < 2147483646 := Int.emod_lt_of_pos _ (by decide)
    generalize (x * 48271 + 30103) % 2147483646 = y at g3 g4 ⊢
    exact ⟨.inr ⟨by decide, by decide⟩, by decide, .inr ⟨by decide, by decide⟩, by decide, .inl ⟨by omega, by omega⟩, by decide, .inr ⟨by decide, by decide⟩, ⟨by decide, by decide⟩, by omega, k _ _ (Int.emod_nonneg _ (by omega)) (Int.emod_lt_of_pos _ (by omega)) ⟨o, y + 1, rfl, ho, by omega, by omega⟩⟩
def sp_law_farther : PSp := fun fl ds Q => fl = none ∧ ∃ x b : Int, ds = [.int x, .int b] ∧ Q (.dt (.int (if x < 0 then x - b else x + b))) none
/-! law_farther level 1 -/
abbrev N_law_farther : List Str := ["_law_number", "_law_by"]
def T_law_farther : PS' := (sSeq (sIf (qTest (qOp gLt (qVar 0) (qC (.int 0)))) (sRet (qOp (gI dSub) (qVar 0) (qVar 1))) sNil)
  (sRet (qOp gAdd (qVar 0) (qVar 1))))
theorem pure_law_farther (fl : Option (List D)) (ds : List D) (Q : RV → Option (List D) → Prop) (_ : false = true ↔ fl ≠ none) (h : sp_law_farther fl ds Q) : T_law_farther (endsOf false Q) (startE false N_law_farther fl ds) := by
  obtain ⟨rfl, x, b, rfl, k⟩ := h
  show T_law_farther _ [SV.dat _, SV.dat _]
  unfold T_law_farther
  walk_at "wy"
  split
  · rw [if_pos ‹_›] at k; exact k
  · rw [if_neg ‹_›] at k; exact k

end Sw

open PySem PySem.Spec L2 Sw
local macro_rules | `(tactic| walk_at "wy") => `(tactic| simp only [sSetAll, fListRg1, fListRg2, iRevL, iRg2, gReverse_0, gAbs_1, qLenS, qIxS, fCallS, fCallR, sSeq, sIf, sNil, sPass, sBreak, sCont, sRet, sRetF, sRetS, sDrop, sAsg, sAsgF, sSetIx, sAsgG, sFor, sRaise, sAsgD, sPutD, sFrzD, qDIn, qDGet, qDGetO, iKeysD, OV.dic, ex_pr, ex_pr0, ex_dic, ex_dic0, ex_kds, keyO_some, gListDic_1, gClear_0, qDisp1, qChain, qRest, tAnd', tOr', tNot', qTest, qAnd, qOr, qNot, qOp, qVar, qC, qF, qSl, qPn, qPs, qTup, fLst, qCB, fCB, qIsi, qJoin, fOp, qCons, qNil, qMO, qMO0, qAddD, qCall, qCallL, fCall, fCallL, qCallV, ex_dt, ex_fr, ex_frL, atom_b, atom_i, atom_s, atom_n, ex_tupv, ex_consv, eq_self, fLc, fLcR, restE, NoOwn, nob_d, nob_u, List.getD_cons_zero, List.getD_cons_succ, wipeE, iAny, iRg1, iRg2, iEnu, gN, gT, gsC, gsN, tYes', endsOf, LentE,
  svD, Ct.toD, OV.rd, OV.fz, rdAll, fzAll, bindS, mapS, ex_some, ex_fz, ex_fzs, ex_own, ex_own0, ex_ownF, ex_bool, ex_int, ex_lst, ex_strv, ex_svd, ex_svo, ex_if, ex_ifb, ex_som0, ex_fl, ex_flN, ex_ifp, true_and, and_true,
  List.getElem?_cons_zero, List.getElem?_cons_succ, List.set_cons_zero, List.set_cons_succ, List.length_cons, List.length_nil, List.append_nil, List.nil_append, List.cons_append, List.map_nil, List.map_cons, List.length_set,
  atI_lit, ixN_lit, gI_ii, gAdd_ii, gAdd_ss, gAdd_ll, gAdd_tt, gMul_ii, gMul_si, gLt_ii, gLt_ss, gIx_li, gIx_ti, gIx_si, gLen_l, gLen_t, gLen_s, gListF_l, gListF_t, gTuple_l, gTuple_t, gCatF_ll, gEq_ii, gNe_ii, gEq_ss, gNe_ss, gEq_bb, gNe_bb, gSl_l, gSl_t, gSl_s, gIsN_n, gNotN_n, gIsN_b, gIsN_i, gIsN_s, gIsN_l, gIsN_t, gIsN_d, ne_eq, not_true_eq_false, not_false_eq_true, gAppend_1, gExtend_l, gExtend_t, gRev_l, gRev_t, qRevA, RV.toD, seqOf_l, seqOf_t, itemsOf_l, itemsOf_t, itemsOf_s, gSortD_s, gIsB_bb, gNotB_bb, qNeg, qVM, fVM, fSortK, gJoin_s, gAll_b, gAny_b, gPopAt_1, isi_str, isi_int, isi_bool, isi_list, isi_tuple, isi_none, dSub, gDiv, gMod, gPow, gCmp,
  Bool.not_true, Bool.not_false, if_true, if_false, ite_true, ite_false, reduceIte, decide_eq_true_eq, beq_iff_eq, Bool.not_eq_true', beq_eq_false_iff_ne, Bool.false_eq_true, Nat.reduceLT, Nat.reduceAdd, Nat.reduceLeDiff, Nat.lt_add_one, Nat.zero_lt_succ, Nat.not_lt_zero])
namespace Sw
/-! ### numbers of a line: no two as far from nought -/
def NumOk (xs : List Int) : Prop := xs.Pairwise fun x y => x.natAbs ≠ y.natAbs
def BlkO (bs : List Int) : Prop := ∃ m : Nat, bs.getLast? = some (m : Int) ∧ NumOk bs ∧ (∀ x ∈ bs, x.natAbs ≤ m) ∧ bs.length = m + 1 ∧ 1 ≤ m
def intsD (xs : List Int) : List D := xs.map .int
theorem numOk_perm {xs ys : List Int} (h : xs.Perm ys) (g : NumOk xs) : NumOk ys := h.pairwise_iff (fun {x y} q => Ne.symm q) |>.mp g
theorem numOk_abs {xs ys : List Int} (h : xs.map Int.natAbs = ys.map Int.natAbs) (g : NumOk xs) : NumOk ys := by
  have g1 : (xs.map Int.natAbs).Pairwise (· ≠ ·) := List.pairwise_map.mpr g
  rw [h] at g1
  exact List.pairwise_map.mp g1
theorem popI {us : List Int} {n : Nat} {u : Int} (h : us[n]? = some u) (hl : us.length ≤ 100000) : gPopAt (us.map PyData.int) [.int n] = some (.int u, (us.eraseIdx n).map .int) := by
  obtain ⟨hn, _⟩ := List.getElem?_eq_some_iff.mp h
  have e : ∀ (l : List Int) (j : Nat), (l.eraseIdx j).map PyData.int = (l.map PyData.int).eraseIdx j := fun l => by
    induction l with
    | nil => intro j; rfl
    | cons a r ih =>
      intro j
      cases j with
      | zero => rfl
      | succ j =>
        show PyData.int a :: (r.eraseIdx j).map _ = PyData.int a :: (r.map _).eraseIdx j
        rw [ih j]
  rw [gPopAt_1, if_pos ⟨by omega, by omega⟩, seqIx (by omega) (by rw [List.length_map]; omega), e]
  show ((us.map PyData.int)[n]?).map _ = _
  rw [List.getElem?_map, h]
  rfl
theorem rgD_ints (lo : Int) (n : Nat) : rgD lo n = ((List.range n).map fun (i : Nat) => lo + (i : Int)).map PyData.int := by
  unfold rgD
  rw [List.map_map]
  rfl
theorem sForY_abs {I : PI'} {G : TG'} {B : PS'} {Dp : PEnds} {env : List SV} (h : ∀ B', B' = B → sFor I G B' Dp env) : sFor I G B Dp env := h B rfl
theorem erase_permI {α : Type} : ∀ {l : List α} {j : Nat} {x : α}, l[j]? = some x → (x :: l.eraseIdx j).Perm l
  | [], _, _, h => by simp at h
  | a :: r, 0, x, h => by
    simp at h
    subst h
    exact List.Perm.refl _
  | a :: r, j + 1, x, h => by
    have ih := erase_permI (l := r) (j := j) (x := x) (by simpa using h)
    exact (List.Perm.swap a x _).trans (ih.cons a)
def sp_law_block : PSp := fun fl ds Q => ∃ fd most, fl = some fd ∧ DlOk fd ∧ ds = [.int most] ∧ 1 ≤ most ∧ most ≤ 40 ∧ ∀ (bs : List Int) fd2, BlkO bs → (bs.length : Int) ≤ most + 2 → DlOk fd2 → Q (.fr (bs.map .int)) (some fd2)
/-! law_block (lent) level 2 fresh -/
abbrev N_law_block : List Str := ["_law_deal_here", "_law_most", "_law_many", "_law_left", "_law_sides", "_law_found", "_law_k"]
def T_law_block : PS' := (sSeq (sAsg 2 (qOp gAdd (qC (.int 1)) (qCallL sp_law_draw 0 (qAddD (qCons (qVar 1) qNil) []))))
  (sSeq (sAsgF 3 (fListRg2 (qC (.int 1)) (qOp gAdd (qVar 2) (qC (.int 1)))))
  (sSeq (sAsg 4 (qF (fLst (qCons (qC (.int 1)) (qCons (qOp (gI dSub) (qC (.int 1)) (qOp gMul (qC (.int 2)) (qCB gInt1 (qCons (qOp (gEq false) (qCallL sp_law_draw 0 (qAddD (qCons (qC (.int 3)) qNil) [])) (qC (.int 0))) qNil)))) qNil)))))
  (sSeq (sAsgF 5 (fLst (qCons (qC (.int 0)) qNil)))
  (sSeq (sFor (iRg1 (qVar 2)) (gN 6) (sDrop (qMO 5 gAppend (qCons (qOp gMul (qMO 3 gPopAt (qCons (qCallL sp_law_draw 0 (qAddD (qCons (qCB gLen (qCons (qVar 3) qNil)) qNil) [])) qNil)) (qOp gIx (qVar 4) (qCallL sp_law_draw 0 (qAddD (qCons (qC (.int 2)) qNil) [])))) qNil))))
  (sRetF (fOp gCatF (qVar 5) (qF (fLst (qCons (qOp gAdd (qVar 2) (qC (.int 1))) qNil))))))))))
theorem pure_law_block (fl : Option (List D)) (ds : List D) (Q : RV → Option (List D) → Prop) (_ : true = true ↔ fl ≠ none) (h : sp_law_block fl ds Q) : T_law_block (endsOf true Q) (startE true N_law_block fl ds) := by
  obtain ⟨fd, most, rfl, hf, rfl, h1, h2, k⟩ := h
  show T_law_block _ [SV.own true fd, SV.dat (.int most), SV.un, SV.un, SV.un, SV.un, SV.un]
  unfold T_law_block
  refine sSeq_abs fun R hR => ?_
  walk_at "wy"
  refine ⟨fd, most, rfl, hf, rfl, h1, by omega, fun d fd2 d0 d1 hf2 => ?_⟩
  walk_at "wy"
  subst hR
  obtain ⟨d, rfl⟩ := Int.eq_ofNat_of_zero_le d0
  refine sSeq_abs fun R hR => ?_
  walk_at "wy"
  refine ⟨RgOk.of_le (by omega) (by omega) (by omega) (by omega), ?_⟩
  subst hR
  refine sSeq_abs fun R hR => ?_
  walk_at "wy"
  refine ⟨fd2, 3, rfl, hf2, rfl, by omega, by omega, fun e fd3 e0 e1 hf3 => ?_⟩
  walk_at "wy"
  have hgi : gInt1 [PyData.bool (e == 0)] = some (.int (if (e == 0) = true then 1 else 0)) := rfl
  rw [hgi]
  generalize hs : (if (e == 0) = true then (1 : Int) else 0) = z
  have hz : z = 0 ∨ z = 1 := by rw [← hs]; split <;> simp
  walk_at "wy"
  refine ⟨.inl ⟨by decide, by decide⟩, sizeL (by decide), ?_⟩
  subst hR
  refine sSeq_abs fun R hR => ?_
  walk_at "wy"
  refine ⟨sizeL (by decide), ?_⟩
  subst hR
  have he : (1 + (d : Int) + 1 - 1).toNat = d + 1 := by omega
  rw [he, rgD_ints]
  refine cut_seq (fun env => ∃ (f : List Int) (fd : List D), ∃ y3 y6, NumOk (0 :: f) ∧ (∀ x ∈ f, x.natAbs ≤ d + 1) ∧ f.length = d + 1 ∧ DlOk fd ∧ env = [SV.own true fd, SV.dat (.int most), SV.dat (.int (1 + (d : Int))), y3, SV.dat (.list [.int 1, .int (1 - 2 * z)]), SV.own false ((0 :: f).map .int), y6]) ?_ fun nx hnx => ?_
  · rintro env ⟨f, fd, y3, y6, hn, hb, hl, hf, rfl⟩
    walk_at "wy"
    refine ⟨sizeL (by decide), ?_⟩
    refine ⟨by rw [List.length_map, sizeLine_eq]; omega, ?_⟩
    have e1 : PyData.int 0 :: (List.map PyData.int f ++ [PyData.int (1 + (d : Int) + 1)]) = (((0 :: f) ++ [((d + 2 : Nat) : Int)]).map PyData.int) := by
      rw [List.map_append]
      show _ = PyData.int 0 :: (f.map _ ++ [_])
      rw [show ((d + 2 : Nat) : Int) = 1 + (d : Int) + 1 by omega]
      try rfl
    rw [e1]
    refine k _ _ ⟨d + 2, List.getLast?_concat, List.pairwise_append.mpr ⟨hn, List.pairwise_singleton _ _, fun x hx y hy => ?_⟩, fun x hx => ?_, by simp [hl], by omega⟩ (by simp [hl]; omega) hf
    · rw [List.mem_singleton.mp hy]
      have : x.natAbs ≤ d + 1 := by
        rcases List.mem_cons.mp hx with rfl | hx
        · simp
        · exact hb x hx
      omega
    · rcases List.mem_append.mp hx with hx | hx
      · rcases List.mem_cons.mp hx with rfl | hx
        · simp
        · have := hb x hx; omega
      · rw [List.mem_singleton.mp hx]; omega
  · refine sForY_abs fun B hB => ?_
    walk_at "wy"
    refine ⟨by omega, ?_⟩
    refine pFor_inv (fun i env => ∃ (f l : List Int) (fd : List D), ∃ y6, NumOk (0 :: (f ++ l)) ∧ (∀ x ∈ f ++ l, x.natAbs ≤ d + 1) ∧ f.length = i ∧ i + l.length = d + 1 ∧ DlOk fd ∧ env = [SV.own true fd, SV.dat (.int most), SV.dat (.int (1 + (d : Int))), SV.own false (l.map .int), SV.dat (.list [.int 1, .int (1 - 2 * z)]), SV.own false ((0 :: f).map .int), y6]) ?_ ?_ ?_
    · refine ⟨[], _, fd3, _, ?_, fun x hx => ?_, rfl, ?_, hf3, rfl⟩
      · rw [List.nil_append]
        refine List.pairwise_cons.mpr ⟨fun x hx => ?_, List.pairwise_map.mpr ?_⟩
        · obtain ⟨q, _, rfl⟩ := List.mem_map.mp hx
          omega
        · exact List.pairwise_lt_range.imp fun {x y} h => by omega
      · rw [List.nil_append] at hx
        obtain ⟨q, hq, rfl⟩ := List.mem_map.mp hx
        have := List.mem_range.mp hq
        omega
      · simp
    · rintro i dd hdd env ⟨f, l, fd, y6, hn, hb, hfl, hll, hf, rfl⟩ K hK
      obtain ⟨hi, rfl⟩ := rgD_get hdd
      subst hB
      walk_at "wy"
      refine ⟨fd, _, rfl, hf, rfl, by rw [List.length_map]; omega, by rw [List.length_map]; omega, fun j fd4 j0 j1 hf4 => ?_⟩
      rw [List.length_map] at j1
      obtain ⟨j, rfl⟩ := Int.eq_ofNat_of_zero_le j0
      have hj : j < l.length := by omega
      refine ⟨fd4, rfl, _, _, popI (List.getElem?_eq_getElem hj) (by omega), ?_⟩
      refine ⟨fd4, 2, rfl, hf4, rfl, by omega, by omega, fun q fd5 q0 q1 hf5 => ⟨fd5, rfl, ?_⟩⟩
      generalize hy : l[j] = y
      have hp : (y :: l.eraseIdx j).Perm l := erase_permI (by rw [List.getElem?_eq_getElem hj, hy])
      have fin : ∀ sgn : Int, (sgn = 1 ∨ sgn = -1) → ∃ d_3, gMul (.int y) (.int sgn) = some d_3 ∧ (List.map PyData.int f).length + 1 < sizeLine ∧ K [SV.own true fd5, SV.dat (PyData.int most), SV.dat (PyData.int (1 + ↑d)), SV.own false ((l.eraseIdx j).map .int), SV.dat (PyData.list [PyData.int 1, PyData.int (1 - 2 * z)]), SV.own false (PyData.int 0 :: (List.map PyData.int f ++ [d_3])), SV.dat (PyData.int (0 + ↑i))] := fun sgn hsg => by
        have hab : (y * sgn).natAbs = y.natAbs := by rcases hsg with rfl | rfl <;> omega
        have hyb : y.natAbs ≤ d + 1 := hb y (List.mem_append_right _ (hp.mem_iff.mp List.mem_cons_self))
        refine ⟨.int (y * sgn), ?_, by rw [List.length_map, sizeLine_eq]; omega, ?_⟩
        · rw [gMul_ii, if_pos]
          exact .inl ⟨by omega, by omega⟩
        · have e1 : PyData.int 0 :: (List.map PyData.int f ++ [PyData.int (y * sgn)]) = (0 :: (f ++ [y * sgn])).map PyData.int := by simp
          rw [e1]
          have e2 : (f ++ [y] ++ l.eraseIdx j).Perm (f ++ l) := by
            rw [List.append_assoc]
            exact hp.append_left f
          refine hK _ ⟨f ++ [y * sgn], l.eraseIdx j, fd5, _, ?_, fun x hx => ?_, by simp [hfl], ?_, hf5, rfl⟩
          · refine numOk_abs (xs := 0 :: (f ++ [y] ++ l.eraseIdx j)) ?_ (numOk_perm (e2.symm.cons 0) hn)
            simp only [List.map_cons, List.map_append, List.map_nil, hab]
          · rcases List.mem_append.mp hx with hx | hx
            · rcases List.mem_append.mp hx with hx | hx
              · exact hb x (List.mem_append_left _ hx)
              · rw [List.mem_singleton.mp hx, hab]; exact hyb
            · exact hb x (List.mem_append_right _ (hp.mem_iff.mp (List.mem_cons_of_mem _ hx)))
          · rw [List.length_eraseIdx_of_lt hj]; omega
      rcases (by omega : q = 0 ∨ q = 1) with rfl | rfl
      · exact ⟨.int 1, rfl, fin 1 (.inl rfl)⟩
      · refine ⟨.int (1 - 2 * z), rfl, fin _ ?_⟩
        rcases hz with rfl | rfl
        · exact .inl (by omega)
        · exact .inr (by omega)
    · rintro env ⟨f, l, fd, y6, hn, hb, hfl, hll, hf, rfl⟩
      have hl0 : l = [] := List.eq_nil_of_length_eq_zero (by rw [rgD_len] at hll; omega)
      subst hl0
      rw [List.append_nil] at hn hb
      rw [rgD_len] at hfl
      exact hnx _ ⟨f, fd, _, y6, hn, hb, by omega, hf, rfl⟩

end Sw

open PySem PySem.Spec L2 Sw
namespace Sw
/-! ### a block put in -/
def farI (x b : Int) : Int := if x < 0 then x - b else x + b
theorem farI_abs {x b : Int} (hb : 0 ≤ b) : (farI x b).natAbs = x.natAbs + b.natAbs := by
  unfold farI
  split <;> omega
def putF (h : Int) (m : Nat) (bs : List Int) (x : Int) : List Int :=
  if h.natAbs < x.natAbs then [farI x m] else if x ≠ h then [x] else if 0 ≤ h then bs.map fun p => farI p h else bs.reverse.map fun p => 0 - farI p (0 - h)
theorem putF_abs {h : Int} {m : Nat} {bs : List Int} (hb : ∀ x ∈ bs, x.natAbs ≤ m) {x y : Int} (hy : y ∈ putF h m bs x) :
    (x.natAbs < h.natAbs → y.natAbs = x.natAbs) ∧ (x.natAbs = h.natAbs → h.natAbs ≤ y.natAbs ∧ y.natAbs ≤ h.natAbs + m) ∧ (h.natAbs < x.natAbs → y.natAbs = x.natAbs + m) := by
  unfold putF at hy
  split at hy
  · rw [List.mem_singleton.mp hy, farI_abs (by omega)]
    omega
  · split at hy
    · rw [List.mem_singleton.mp hy]
      omega
    · rename_i h1 h2
      have h2 : x = h := by simpa using h2
      subst h2
      split at hy
      · obtain ⟨p, hp, rfl⟩ := List.mem_map.mp hy
        have := hb p hp
        rw [farI_abs ‹_›]
        omega
      · obtain ⟨p, hp, rfl⟩ := List.mem_map.mp hy
        have := hb p (List.mem_reverse.mp hp)
        have e : (0 - farI p (0 - x)).natAbs = p.natAbs + (0 - x).natAbs := by
          rw [← farI_abs (x := p) (b := 0 - x) (by omega)]
          omega
        rw [e]
        omega
theorem putF_ok {h : Int} {m : Nat} {bs : List Int} (hn : NumOk bs) (x : Int) : NumOk (putF h m bs x) := by
  unfold putF
  split
  · exact List.pairwise_singleton _ _
  · split
    · exact List.pairwise_singleton _ _
    · split
      · exact List.pairwise_map.mpr (hn.imp fun {a b} q => by rw [farI_abs ‹_›, farI_abs ‹_›]; omega)
      · refine List.pairwise_map.mpr (List.Pairwise.imp ?_ (numOk_perm (List.reverse_perm bs).symm hn))
        intro a b q
        have e : ∀ p : Int, (0 - farI p (0 - h)).natAbs = p.natAbs + (0 - h).natAbs := fun p => by
          rw [← farI_abs (x := p) (b := 0 - h) (by omega)]
          omega
        rw [e, e]
        omega
theorem put_ok {h : Int} {m : Nat} {xs bs : List Int} (hx : NumOk xs) (hn : NumOk bs) (hb : ∀ x ∈ bs, x.natAbs ≤ m) : NumOk (xs.flatMap (putF h m bs)) := by
  refine List.pairwise_flatMap.mpr ⟨fun a _ => putF_ok hn a, hx.imp fun {a b} q x hx y hy => ?_⟩
  have h1 := putF_abs hb hx
  have h2 := putF_abs hb hy
  omega
theorem put_len0 {h : Int} {m : Nat} {bs : List Int} : ∀ {xs : List Int}, h ∉ xs → (xs.flatMap (putF h m bs)).length = xs.length
  | [], _ => rfl
  | x :: r, g => by
    rw [List.flatMap_cons, List.length_append, put_len0 (fun z => g (List.mem_cons_of_mem _ z))]
    have : (putF h m bs x).length = 1 := by
      unfold putF
      split
      · rfl
      · rw [if_pos (fun e => g (by rw [e]; exact List.mem_cons_self))]
        rfl
    rw [this, List.length_cons]
    omega
theorem put_len {h : Int} {m : Nat} {bs : List Int} (hm : 1 ≤ bs.length) : ∀ {xs : List Int}, NumOk xs → h ∈ xs → (xs.flatMap (putF h m bs)).length + 1 = xs.length + bs.length
  | x :: r, g, hh => by
    rw [List.flatMap_cons, List.length_append, List.length_cons]
    by_cases e : x = h
    · subst e
      have hr : x ∉ r := fun z => (List.pairwise_cons.mp g).1 x z rfl
      rw [put_len0 hr]
      have : (putF x m bs x).length = bs.length := by
        unfold putF
        rw [if_neg (by omega), if_neg (by simp)]
        split <;> simp
      omega
    · have hr : h ∈ r := by
        rcases List.mem_cons.mp hh with q | q
        · exact absurd q.symm e
        · exact q
      have ih := put_len (m := m) hm (List.pairwise_cons.mp g).2 hr
      have : (putF h m bs x).length = 1 := by
        unfold putF
        split
        · rfl
        · simp [e]
      omega
theorem put_few {h : Int} {m : Nat} {bs : List Int} : ∀ xs : List Int, (xs.flatMap (putF h m bs)).length ≤ xs.length * (bs.length + 1)
  | [] => Nat.zero_le _
  | x :: r => by
    rw [List.flatMap_cons, List.length_append, List.length_cons, Nat.succ_mul]
    have ih := put_few (h := h) (m := m) (bs := bs) r
    have : (putF h m bs x).length ≤ bs.length + 1 := by
      unfold putF
      split
      · simp
      · split
        · simp
        · split <;> simp
    omega

end Sw

open PySem PySem.Spec L2 Sw
local macro_rules | `(tactic| walk_at "wy") => `(tactic| simp only [sSetAll, fListRg1, fListRg2, iRevL, iRg2, gReverse_0, gAbs_1, qLenS, qIxS, fCallS, fCallR, sSeq, sIf, sNil, sPass, sBreak, sCont, sRet, sRetF, sRetS, sDrop, sAsg, sAsgF, sSetIx, sAsgG, sFor, sRaise, sAsgD, sPutD, sFrzD, qDIn, qDGet, qDGetO, iKeysD, OV.dic, ex_pr, ex_pr0, ex_dic, ex_dic0, ex_kds, keyO_some, gListDic_1, gClear_0, qDisp1, qChain, qRest, tAnd', tOr', tNot', qTest, qAnd, qOr, qNot, qOp, qVar, qC, qF, qSl, qPn, qPs, qTup, fLst, qCB, fCB, qIsi, qJoin, fOp, qCons, qNil, qMO, qMO0, qAddD, qCall, qCallL, fCall, fCallL, qCallV, ex_dt, ex_fr, ex_frL, atom_b, atom_i, atom_s, atom_n, ex_tupv, ex_consv, eq_self, fLc, fLcR, restE, NoOwn, nob_d, nob_u, List.getD_cons_zero, List.getD_cons_succ, wipeE, iAny, iRg1, iRg2, iEnu, gN, gT, gsC, gsN, tYes', endsOf, LentE,
  svD, Ct.toD, OV.rd, OV.fz, rdAll, fzAll, bindS, mapS, ex_some, ex_fz, ex_fzs, ex_own, ex_own0, ex_ownF, ex_bool, ex_int, ex_lst, ex_strv, ex_svd, ex_svo, ex_if, ex_ifb, ex_som0, ex_fl, ex_flN, ex_ifp, true_and, and_true,
  List.getElem?_cons_zero, List.getElem?_cons_succ, List.set_cons_zero, List.set_cons_succ, List.length_cons, List.length_nil, List.append_nil, List.nil_append, List.cons_append, List.map_nil, List.map_cons, List.length_set,
  atI_lit, ixN_lit, gI_ii, gAdd_ii, gAdd_ss, gAdd_ll, gAdd_tt, gMul_ii, gMul_si, gLt_ii, gLt_ss, gIx_li, gIx_ti, gIx_si, gLen_l, gLen_t, gLen_s, gListF_l, gListF_t, gTuple_l, gTuple_t, gCatF_ll, gEq_ii, gNe_ii, gEq_ss, gNe_ss, gEq_bb, gNe_bb, gSl_l, gSl_t, gSl_s, gIsN_n, gNotN_n, gIsN_b, gIsN_i, gIsN_s, gIsN_l, gIsN_t, gIsN_d, ne_eq, not_true_eq_false, not_false_eq_true, gAppend_1, gExtend_l, gExtend_t, gRev_l, gRev_t, qRevA, RV.toD, seqOf_l, seqOf_t, itemsOf_l, itemsOf_t, itemsOf_s, gSortD_s, gIsB_bb, gNotB_bb, qNeg, qVM, fVM, fSortK, gJoin_s, gAll_b, gAny_b, gPopAt_1, isi_str, isi_int, isi_bool, isi_list, isi_tuple, isi_none, dSub, gDiv, gMod, gPow, gCmp,
  Bool.not_true, Bool.not_false, if_true, if_false, ite_true, ite_false, reduceIte, decide_eq_true_eq, beq_iff_eq, Bool.not_eq_true', beq_eq_false_iff_ne, Bool.false_eq_true, Nat.reduceLT, Nat.reduceAdd, Nat.reduceLeDiff, Nat.lt_add_one, Nat.zero_lt_succ, Nat.not_lt_zero])
namespace Sw
def NumG (xs : List Int) : Prop := NumOk xs ∧ ∀ x ∈ xs, x.natAbs < xs.length
def sp_law_put_in : PSp := fun fl ds Q => fl = none ∧ ∃ (xs bs : List Int) (t : Nat), ds = [.list (xs.map .int), .int t, .list (bs.map .int)] ∧ NumG xs ∧ t < xs.length ∧ BlkO bs ∧ xs.length ≤ 100 ∧ bs.length ≤ 100 ∧ ∀ ys : List Int, NumG ys → ys.length + 1 = xs.length + bs.length → Q (.fr (ys.map .int)) none
/-! law_put_in level 2 fresh -/
abbrev N_law_put_in : List Str := ["_law_numbers_here", "_law_at", "_law_block_here", "_law_here", "_law_found", "_law_number", "_law_part"]
def T_law_put_in : PS' := (sSeq (sAsg 3 (qOp gIx (qVar 0) (qVar 1)))
  (sSeq (sAsgF 4 (fLst (qNil)))
  (sSeq (sFor (iAny (qVar 0)) (gN 5) (sIf (qTest (qOp (gI (gCmp fun i j => decide (j < i))) (qCB gAbs (qCons (qVar 5) qNil)) (qCB gAbs (qCons (qVar 3) qNil)))) (sDrop (qMO 4 gAppend (qCons (qCall sp_law_farther (qAddD (qCons (qVar 5) (qCons (qOp gIx (qVar 2) (qNeg (qC (.int 1)))) qNil)) [])) qNil))) (sIf (qTest (qOp (gEq true) (qVar 5) (qVar 3))) (sDrop (qMO 4 gAppend (qCons (qVar 5) qNil))) (sIf (qTest (qOp (gI (gCmp fun i j => decide (j ≤ i))) (qVar 3) (qC (.int 0)))) (sDrop (qMO 4 gExtend (qCons (qF (fLc (iAny (qVar 2)) (gN 6) tYes' (qCall sp_law_farther (qAddD (qCons (qVar 6) (qCons (qVar 3) qNil)) [])) [6])) qNil))) (sDrop (qMO 4 gExtend (qCons (qF (fLc (iRevL (qVar 2)) (gN 6) tYes' (qOp (gI dSub) (qC (.int 0)) (qCall sp_law_farther (qAddD (qCons (qVar 6) (qCons (qOp (gI dSub) (qC (.int 0)) (qVar 3)) qNil)) []))) [6])) qNil)))))))
  (sRetS 4))))
theorem pure_law_put_in (fl : Option (List D)) (ds : List D) (Q : RV → Option (List D) → Prop) (_ : false = true ↔ fl ≠ none) (h : sp_law_put_in fl ds Q) : T_law_put_in (endsOf false Q) (startE false N_law_put_in fl ds) := by
  obtain ⟨rfl, xs, bs, t, rfl, ⟨hx, hxb⟩, ht, ⟨m, hm, hn, hb, hbl, hm1⟩, hxl, hbl2, k⟩ := h
  show T_law_put_in _ [SV.dat (.list (xs.map .int)), SV.dat (.int t), SV.dat (.list (bs.map .int)), SV.un, SV.un, SV.un, SV.un]
  unfold T_law_put_in
  refine sSeq_abs fun R hR => ?_
  walk_at "wy"
  refine ⟨.int xs[t], ?_, ?_⟩
  · rw [atI_at (by omega), Int.toNat_natCast, List.getElem?_map, List.getElem?_eq_getElem ht]
    rfl
  have hmem : xs[t] ∈ xs := List.getElem_mem ht
  generalize xs[t] = h at hmem
  subst hR
  refine sSeq_abs fun R hR => ?_
  walk_at "wy"
  refine ⟨sizeL (by decide), ?_⟩
  subst hR
  have hlast : atI (bs.map PyData.int) (-1) = some (.int m) := atI_neg1 (by rw [List.getLast?_map, hm]; rfl)
  refine cut_seq (fun env => ∃ y5, env = [SV.dat (.list (xs.map .int)), SV.dat (.int t), SV.dat (.list (bs.map .int)), SV.dat (.int h), SV.own false ((xs.flatMap (putF h m bs)).map .int), y5, SV.un]) ?_ fun nx hnx => ?_
  · rintro env ⟨y5, rfl⟩
    walk_at "wy"
    have hL := put_len (m := m) (bs := bs) (by omega) hx hmem
    refine k _ ⟨put_ok hx hn hb, fun y hy => ?_⟩ hL
    obtain ⟨x, hx1, hy⟩ := List.mem_flatMap.mp hy
    have h1 := putF_abs hb hy
    have h2 := hxb x hx1
    have h3 := hxb h hmem
    omega
  · refine sForY_abs fun B hB => ?_
    walk_at "wy"
    refine pFor_inv (fun i env => ∃ y5, env = [SV.dat (.list (xs.map .int)), SV.dat (.int t), SV.dat (.list (bs.map .int)), SV.dat (.int h), SV.own false (((xs.take i).flatMap (putF h m bs)).map .int), y5, SV.un]) ?_ ?_ ?_
    · exact ⟨_, rfl⟩
    · rintro i dd hdd env ⟨y5, rfl⟩ K hK
      rw [List.getElem?_map] at hdd
      cases hq : xs[i]? with
      | none => rw [hq] at hdd; cases hdd
      | some x =>
        rw [hq] at hdd
        cases hdd
        have htk : (xs.take (i + 1)).flatMap (putF h m bs) = (xs.take i).flatMap (putF h m bs) ++ putF h m bs x := by
          rw [List.take_add_one, hq, List.flatMap_append]
          show _ ++ (putF h m bs x ++ []) = _
          rw [List.append_nil]
        have hsz : (((xs.take i).flatMap (putF h m bs)).map PyData.int).length + bs.length + 1 < sizeLine := by
          rw [List.length_map, sizeLine_eq]
          have h1 := put_few (h := h) (m := m) (bs := bs) (xs.take i)
          have h2 : (xs.take i).length ≤ 100 := by rw [List.length_take]; omega
          have h3 : (xs.take i).length * (bs.length + 1) ≤ 100 * 101 := Nat.mul_le_mul h2 (by omega)
          omega
        have fin : ∀ ys, putF h m bs x = ys → ∀ e, e = ys.map PyData.int → K [SV.dat (.list (xs.map .int)), SV.dat (.int t), SV.dat (.list (bs.map .int)), SV.dat (.int h), SV.own false (((xs.take i).flatMap (putF h m bs)).map PyData.int ++ e), SV.dat (.int x), SV.un] := fun ys hys e he => by
          subst he hys
          rw [← List.map_append, ← htk]
          exact hK _ ⟨_, rfl⟩
        subst hB
        walk_at "wy"
        split
        · rename_i hc
          rw [hlast]
          walk_at "wy"
          refine ⟨rfl, x, m, rfl, ?_⟩
          walk_at "wy"
          refine ⟨by omega, fin [farI x m] ?_ _ rfl⟩
          unfold putF
          rw [if_pos (by omega)]
        · rename_i hc
          have hc : ¬ h.natAbs < x.natAbs := by omega
          split
          · rename_i hne
            refine ⟨by omega, fin [x] ?_ _ rfl⟩
            unfold putF
            rw [if_neg hc, if_pos hne]
          · rename_i hne
            split
            · rename_i h0
              refine ⟨by rw [List.length_map]; omega, ?_⟩
              refine map_comp (e := PyData.int) (f := fun p => .int (farI p h)) (fun p hp K' hK' => ?_) ?_
              · walk_at "wy"
                refine ⟨rfl, p, h, rfl, ?_⟩
                walk_at "wy"
                exact hK'
              · walk_at "wy"
                refine ⟨by simp only [List.length_map] at *; omega, fin (bs.map fun p => farI p h) ?_ _ (by rw [List.map_map]; rfl)⟩
                unfold putF
                rw [if_neg hc, if_neg hne, if_pos h0]
            · rename_i h0
              refine ⟨_, _, rfl, ?_⟩
              walk_at "wy"
              refine ⟨by rw [List.length_reverse, List.length_map]; omega, ?_⟩
              rw [← List.map_reverse]
              refine map_comp (e := PyData.int) (f := fun p => .int (0 - farI p (0 - h))) (fun p hp K' hK' => ?_) ?_
              · walk_at "wy"
                refine ⟨rfl, p, 0 - h, rfl, ?_⟩
                walk_at "wy"
                exact hK'
              · walk_at "wy"
                refine ⟨by simp only [List.length_map, List.length_reverse] at *; omega, fin (bs.reverse.map fun p => 0 - farI p (0 - h)) ?_ _ (by rw [List.map_map]; rfl)⟩
                unfold putF
                rw [if_neg hc, if_neg hne, if_neg h0]
    · rintro env ⟨y5, rfl⟩
      rw [List.length_map, List.take_length]
      exact hnx _ ⟨_, rfl⟩

theorem lt_ints (a b : Int) : W.dataLt (.int a) (.int b) = decide (a < b) := by
  show PyProof.Rows.lexLt PyProof.Rows.itemOrd [.inl a] [.inl b] = _
  simp [PyProof.Rows.lexLt, PyProof.Rows.itemOrd]
  rfl
theorem gMin_ints (a b : Int) : gMin [.int a, .int b] = some (.int (if b < a then b else a)) := by
  show (if twoOk (.int a) (.int b) = true then some (if W.dataLt (.int b) (.int a) = true then PyData.int b else .int a) else none) = _
  rw [if_pos (by rfl), lt_ints]
  simp only [decide_eq_true_eq]
  split <;> rfl
theorem gMax_ints (a b : Int) : gMax [.int a, .int b] = some (.int (if a < b then b else a)) := by
  show (if twoOk (.int a) (.int b) = true then some (if W.dataLt (.int a) (.int b) = true then PyData.int b else .int a) else none) = _
  rw [if_pos (by rfl), lt_ints]
  simp only [decide_eq_true_eq]
  split <;> rfl
def sp_law_numbers : PSp := fun fl ds Q => ∃ fd most, fl = some fd ∧ DlOk fd ∧ ds = [.int most] ∧ 1 ≤ most ∧ most ≤ 40 ∧ ∀ (xs : List Int) fd2, NumG xs → 2 ≤ xs.length → (xs.length : Int) ≤ most + 2 → DlOk fd2 → Q (.dt (.list (xs.map .int))) (some fd2)
/-! law_numbers (lent) level 3 -/
abbrev N_law_numbers : List Str := ["_law_deal_here", "_law_most", "_law_numbers_here", "_law_k", "_law_room", "_law_block_here", "_law_at"]
def T_law_numbers : PS' := (sSeq (sAsg 2 (qF (fLst (qCons (qC (.int 0)) (qCons (qC (.int 1)) qNil)))))
  (sSeq (sIf (qTest (qOp (gEq false) (qCallL sp_law_draw 0 (qAddD (qCons (qC (.int 3)) qNil) [])) (qC (.int 0)))) (sAsg 2 (qCallL sp_law_block 0 (qAddD (qCons (qCB gMin (qCons (qVar 1) (qCons (qC (.int 6)) qNil))) qNil) []))) sNil)
  (sSeq (sFor (iRg1 (qOp gAdd (qC (.int 1)) (qCallL sp_law_draw 0 (qAddD (qCons (qC (.int 5)) qNil) [])))) (gN 3) (sSeq (sAsg 4 (qOp (gI dSub) (qOp gAdd (qVar 1) (qC (.int 2))) (qCB gLen (qCons (qVar 2) qNil))))
  (sSeq (sAsg 5 (qCallL sp_law_block 0 (qAddD (qCons (qOp gIx (qF (fLst (qCons (qC (.int 2)) (qCons (qC (.int 4)) (qCons (qVar 1) qNil))))) (qCallL sp_law_draw 0 (qAddD (qCons (qC (.int 3)) qNil) []))) qNil) [])))
  (sSeq (sAsg 6 (qCallL sp_law_draw 0 (qAddD (qCons (qCB gLen (qCons (qVar 2) qNil)) qNil) [])))
  (sIf (qTest (qOp (gI (gCmp fun i j => decide (i ≤ j))) (qOp (gI dSub) (qCB gLen (qCons (qVar 5) qNil)) (qC (.int 1))) (qVar 4))) (sAsg 2 (qCall sp_law_put_in (qAddD (qCons (qVar 2) (qCons (qVar 6) (qCons (qVar 5) qNil))) []))) sNil)))))
  (sRet (qVar 2)))))
theorem pure_law_numbers (fl : Option (List D)) (ds : List D) (Q : RV → Option (List D) → Prop) (_ : true = true ↔ fl ≠ none) (h : sp_law_numbers fl ds Q) : T_law_numbers (endsOf true Q) (startE true N_law_numbers fl ds) := by
  obtain ⟨fd, most, rfl, hf, rfl, h1, h2, k⟩ := h
  show T_law_numbers _ [SV.own true fd, SV.dat (.int most), SV.un, SV.un, SV.un, SV.un, SV.un]
  unfold T_law_numbers
  refine sSeq_abs fun R hR => ?_
  walk_at "wy"
  refine ⟨sizeL (by decide), ?_⟩
  subst hR
  refine cut_seq (fun env => ∃ (xs : List Int) (fd : List D), NumG xs ∧ 2 ≤ xs.length ∧ (xs.length : Int) ≤ most + 2 ∧ DlOk fd ∧ env = [SV.own true fd, SV.dat (.int most), SV.dat (.list (xs.map .int)), SV.un, SV.un, SV.un, SV.un]) ?_ fun nx hnx => ?_
  rotate_left
  · walk_at "wy"
    refine ⟨fd, 3, rfl, hf, rfl, by omega, by omega, fun d fd2 d0 d1 hf2 => ?_⟩
    walk_at "wy"
    split
    · have e1 : gMin [PyData.int most, PyData.int 6] = some (.int (if 6 < most then 6 else most)) := gMin_ints _ _
      refine ⟨_, e1, fd2, _, rfl, hf2, rfl, by split <;> omega, by split <;> omega, fun bs fd3 hb hbl hf3 => ⟨fd3, rfl, ?_⟩⟩
      obtain ⟨m, hm, hn, hbb, hl, hm1⟩ := hb
      exact hnx _ ⟨bs, fd3, ⟨hn, fun x hx => by have := hbb x hx; omega⟩, by omega, by split at hbl <;> omega, hf3, rfl⟩
    · refine hnx _ ⟨[0, 1], fd2, ?_, by simp, by simp; omega, hf2, rfl⟩
      exact ⟨List.pairwise_cons.mpr ⟨fun x hx => by rw [List.mem_singleton.mp hx]; decide, List.pairwise_singleton _ _⟩, by decide⟩
  clear hf
  rintro env ⟨xs, fd, hx, hx2, hxl, hf, rfl⟩
  refine cut_seq (fun env => ∃ (xs : List Int) (fd : List D), ∃ y3 y4 y5 y6, NumG xs ∧ 2 ≤ xs.length ∧ (xs.length : Int) ≤ most + 2 ∧ DlOk fd ∧ env = [SV.own true fd, SV.dat (.int most), SV.dat (.list (xs.map .int)), y3, y4, y5, y6]) ?_ fun nx hnx => ?_
  · rintro env ⟨xs, fd, y3, y4, y5, y6, hx, hx2, hxl, hf, rfl⟩
    walk_at "wy"
    exact k xs fd hx hx2 hxl hf
  · refine sForY_abs fun B hB => ?_
    walk_at "wy"
    refine ⟨fd, 5, rfl, hf, rfl, by omega, by omega, fun d fd2 d0 d1 hf2 => ?_⟩
    walk_at "wy"
    refine ⟨by omega, ?_⟩
    refine pFor_inv (fun i env => ∃ (xs : List Int) (fd : List D), ∃ y3 y4 y5 y6, NumG xs ∧ 2 ≤ xs.length ∧ (xs.length : Int) ≤ most + 2 ∧ DlOk fd ∧ env = [SV.own true fd, SV.dat (.int most), SV.dat (.list (xs.map .int)), y3, y4, y5, y6]) ⟨xs, fd2, _, _, _, _, hx, hx2, hxl, hf2, rfl⟩ ?_ (fun env h => hnx env h)
    clear hx hx2 hxl hf hf2
    rintro i dd hdd env ⟨xs, fd, y3, y4, y5, y6, hx, hx2, hxl, hf, rfl⟩ K hK
    obtain ⟨hi, rfl⟩ := rgD_get hdd
    subst hB
    walk_at "wy"
    refine ⟨sizeL (by decide), fd, 3, rfl, hf, rfl, by omega, by omega, fun q fd3 q0 q1 hf3 => ⟨fd3, rfl, ?_⟩⟩
    obtain ⟨mo, m0, m1, em⟩ : ∃ mo : Int, 1 ≤ mo ∧ mo ≤ 40 ∧ gIx (PyData.list [PyData.int 2, PyData.int 4, PyData.int most]) (.int q) = some (.int mo) := by
      rcases (by omega : q = 0 ∨ q = 1 ∨ q = 2) with rfl | rfl | rfl
      · exact ⟨2, by omega, by omega, rfl⟩
      · exact ⟨4, by omega, by omega, rfl⟩
      · exact ⟨most, by omega, by omega, rfl⟩
    refine ⟨.int mo, em, fd3, mo, rfl, hf3, rfl, m0, m1, fun bs fd4 hb hbl hf4 => ⟨fd4, rfl, ?_⟩⟩
    refine ⟨fd4, _, rfl, hf4, rfl, by rw [List.length_map]; omega, by rw [List.length_map]; omega, fun t fd5 t0 t1 hf5 => ⟨fd5, rfl, ?_⟩⟩
    rw [List.length_map] at t1
    obtain ⟨t, rfl⟩ := Int.eq_ofNat_of_zero_le t0
    refine ⟨.int ((bs.map PyData.int).length : Nat), rfl, .int (((bs.map PyData.int).length : Nat) - 1), rfl, .bool (decide (((bs.map PyData.int).length : Int) - 1 ≤ most + 2 - ((xs.map PyData.int).length : Nat))), rfl, _, rfl, ?_⟩
    split
    · rename_i hroom
      simp only [List.length_map, decide_eq_true_eq] at hroom
      refine ⟨rfl, xs, bs, t, rfl, hx, by omega, hb, by omega, by omega, fun ys hy hyl => ?_⟩
      refine hK _ ⟨ys, fd5, _, _, _, _, hy, by obtain ⟨m, _, _, _, hl, hm1⟩ := hb; omega, by omega, hf5, rfl⟩
    · exact hK _ ⟨xs, fd5, _, _, _, _, hx, hx2, hxl, hf5, rfl⟩

end Sw

open PySem PySem.Spec L2 Sw
namespace Sw
/-! ### spans: which there are -/
def mnA (xs : List Int) (s : Nat) : Nat → Nat
  | 0 => (xs.getD s 0).natAbs
  | k + 1 => if (xs.getD (s + 1 + k) 0).natAbs < mnA xs s k then (xs.getD (s + 1 + k) 0).natAbs else mnA xs s k
def mxA (xs : List Int) (s : Nat) : Nat → Nat
  | 0 => (xs.getD s 0).natAbs
  | k + 1 => if mxA xs s k < (xs.getD (s + 1 + k) 0).natAbs then (xs.getD (s + 1 + k) 0).natAbs else mxA xs s k
def spanP (xs : List Int) (s e : Nat) : Prop := ((mxA xs s (e - s) : Int) - mnA xs s (e - s) = (e : Int) - s) ∧ ((xs.getD s 0 = mnA xs s (e - s) ∧ xs.getD e 0 = mxA xs s (e - s)) ∨ (xs.getD s 0 = 0 - (mxA xs s (e - s) : Int) ∧ xs.getD e 0 = 0 - (mnA xs s (e - s) : Int)))
instance (xs : List Int) (s e : Nat) : Decidable (spanP xs s e) := by unfold spanP; infer_instance
def rowP (xs : List Int) (s j : Nat) : List (Nat × Nat) := ((List.range j).filter fun d => decide (spanP xs s (s + 1 + d))).map fun d => (s, s + 1 + d)
def spP (xs : List Int) (i : Nat) : List (Nat × Nat) := (List.range i).flatMap fun s => rowP xs s (xs.length - (s + 1))
def keyP (p : Nat × Nat) : D := .tuple [.int (p.1 : Nat), .int (p.2 : Nat)]
def kdsP (ps : List (Nat × Nat)) : List (D × D) := ps.map fun p => (keyP p, .bool true)
theorem keyP_inj {p q : Nat × Nat} (h : keyP p = keyP q) : p = q := by
  unfold keyP at h
  injection h with h
  injection h with h1 h2
  injection h2 with h2 _
  injection h1 with h1
  injection h2 with h2
  obtain ⟨a, b⟩ := p
  obtain ⟨c, d⟩ := q
  simp only at h1 h2
  have : a = c := by omega
  have : b = d := by omega
  subst_vars
  rfl
theorem hn_keyP (n : Nat) (p : Nat × Nat) : Hn (n + 1) (keyP p) := fun d hd => by
  rcases List.mem_cons.mp hd with rfl | hd
  · cases n <;> exact True.intro
  · rw [List.mem_singleton.mp hd]
    cases n <;> exact True.intro
theorem eqv_keyP (p q : Nat × Nat) : PyData.eqv (keyP p) (keyP q) = decide (p = q) := by
  have h := eqv_hn 1 (keyP p) (keyP q) (hn_keyP 0 p) (hn_keyP 0 q)
  by_cases e : p = q
  · subst e
    rw [h.mpr rfl]
    simp
  · have : PyData.eqv (keyP p) (keyP q) = false := by
      rw [← Bool.not_eq_true, h]
      exact fun z => e (keyP_inj z)
    rw [this]
    simp [e]
theorem look_kdsP (ps : List (Nat × Nat)) (q : Nat × Nat) : (lookD (kdsP ps) (keyP q)).isSome = decide (q ∈ ps) := by
  induction ps with
  | nil => rfl
  | cons p r ih =>
    show (lookD ((keyP p, .bool true) :: kdsP r) (keyP q)).isSome = _
    rw [lookD_cons]
    simp only [eqv_keyP]
    by_cases e : p = q
    · subst e
      simp
    · rw [if_neg (by simpa using e), ih]
      simp [Ne.symm e]
theorem put_kdsP {ps : List (Nat × Nat)} {q : Nat × Nat} (h : q ∉ ps) : putD (kdsP ps) (keyP q) (.bool true) = kdsP (ps ++ [q]) := by
  unfold putD
  rw [look_kdsP, if_neg (by simpa using h)]
  unfold kdsP
  rw [List.map_append]
  rfl
theorem kdsP_fst (ps : List (Nat × Nat)) : (kdsP ps).map Prod.fst = ps.map keyP := by
  unfold kdsP
  rw [List.map_map]
  rfl
theorem mem_rowP {xs : List Int} {s j : Nat} {p : Nat × Nat} : p ∈ rowP xs s j ↔ p.1 = s ∧ s < p.2 ∧ p.2 < s + 1 + j ∧ spanP xs s p.2 := by
  unfold rowP
  constructor
  · intro h
    obtain ⟨d, hd, rfl⟩ := List.mem_map.mp h
    obtain ⟨h1, h2⟩ := List.mem_filter.mp hd
    have := List.mem_range.mp h1
    exact ⟨rfl, by omega, by omega, of_decide_eq_true h2⟩
  · rintro ⟨rfl, h1, h2, h3⟩
    refine List.mem_map.mpr ⟨p.2 - (p.1 + 1), List.mem_filter.mpr ⟨List.mem_range.mpr (by omega), ?_⟩, ?_⟩
    · rw [show p.1 + 1 + (p.2 - (p.1 + 1)) = p.2 by omega]
      exact decide_eq_true h3
    · rw [show p.1 + 1 + (p.2 - (p.1 + 1)) = p.2 by omega]
theorem mem_spP {xs : List Int} {i : Nat} {p : Nat × Nat} : p ∈ spP xs i ↔ p.1 < i ∧ p.1 < p.2 ∧ p.2 < xs.length ∧ spanP xs p.1 p.2 := by
  unfold spP
  constructor
  · intro h
    obtain ⟨s, hs, hp⟩ := List.mem_flatMap.mp h
    obtain ⟨rfl, h1, h2, h3⟩ := mem_rowP.mp hp
    exact ⟨List.mem_range.mp hs, h1, by omega, h3⟩
  · rintro ⟨h1, h2, h3, h4⟩
    exact List.mem_flatMap.mpr ⟨p.1, List.mem_range.mpr h1, mem_rowP.mpr ⟨rfl, h2, by omega, h4⟩⟩
theorem rowP_succ (xs : List Int) (s j : Nat) : rowP xs s (j + 1) = if spanP xs s (s + 1 + j) then rowP xs s j ++ [(s, s + 1 + j)] else rowP xs s j := by
  unfold rowP
  rw [List.range_succ, List.filter_append, List.map_append]
  by_cases h : spanP xs s (s + 1 + j)
  · rw [if_pos h]
    simp [h]
  · rw [if_neg h]
    simp [h]
theorem spP_succ (xs : List Int) (i : Nat) : spP xs (i + 1) = spP xs i ++ rowP xs i (xs.length - (i + 1)) := by
  unfold spP
  rw [List.range_succ, List.flatMap_append]
  simp
theorem spP_last (xs : List Int) : spP xs (xs.length - 1) = spP xs xs.length := by
  cases h : xs.length with
  | zero => rfl
  | succ n =>
    rw [spP_succ, h, Nat.add_sub_cancel, Nat.sub_self]
    simp [rowP]
/-- a lies ahead of b -/
def ahead (p q : Nat × Nat) : Prop := p.1 < q.1 ∨ (p.1 = q.1 ∧ p.2 < q.2)
theorem rowP_pw (xs : List Int) (s j : Nat) : (rowP xs s j).Pairwise ahead := by
  unfold rowP
  exact List.pairwise_map.mpr ((List.Pairwise.filter _ List.pairwise_lt_range).imp fun {a b} h => .inr ⟨rfl, by show s + 1 + a < s + 1 + b; omega⟩)
theorem spP_pw (xs : List Int) (i : Nat) : (spP xs i).Pairwise ahead := by
  induction i with
  | zero => exact List.Pairwise.nil
  | succ i ih =>
    rw [spP_succ]
    refine List.pairwise_append.mpr ⟨ih, rowP_pw _ _ _, fun a ha b hb => .inl ?_⟩
    have h1 := (mem_spP.mp ha).1
    have h2 := (mem_rowP.mp hb).1
    omega
theorem spP_len {xs : List Int} (h : xs.length ≤ 50) (i : Nat) : (spP xs i).length ≤ i * 50 := by
  induction i with
  | zero => exact Nat.le_refl _
  | succ i ih =>
    rw [spP_succ, List.length_append, Nat.succ_mul]
    have : (rowP xs i (xs.length - (i + 1))).length ≤ 50 := by
      unfold rowP
      rw [List.length_map]
      have := List.length_filter_le (fun d => decide (spanP xs i (i + 1 + d))) (List.range (xs.length - (i + 1)))
      rw [List.length_range] at this
      omega
    omega

end Sw

open PySem PySem.Spec L2 Sw
local macro_rules | `(tactic| walk_at "wy") => `(tactic| simp only [sSetAll, fListRg1, fListRg2, iRevL, iRg2, gReverse_0, gAbs_1, qLenS, qIxS, fCallS, fCallR, sSeq, sIf, sNil, sPass, sBreak, sCont, sRet, sRetF, sRetS, sDrop, sAsg, sAsgF, sSetIx, sAsgG, sFor, sRaise, sAsgD, sPutD, sFrzD, qDIn, qDGet, qDGetO, iKeysD, OV.dic, ex_pr, ex_pr0, ex_dic, ex_dic0, ex_kds, keyO_some, gListDic_1, gClear_0, qDisp1, qChain, qRest, tAnd', tOr', tNot', qTest, qAnd, qOr, qNot, qOp, qVar, qC, qF, qSl, qPn, qPs, qTup, fLst, qCB, fCB, qIsi, qJoin, fOp, qCons, qNil, qMO, qMO0, qAddD, qCall, qCallL, fCall, fCallL, qCallV, ex_dt, ex_fr, ex_frL, atom_b, atom_i, atom_s, atom_n, ex_tupv, ex_consv, eq_self, fLc, fLcR, restE, NoOwn, nob_d, nob_u, List.getD_cons_zero, List.getD_cons_succ, wipeE, iAny, iRg1, iRg2, iEnu, gN, gT, gsC, gsN, tYes', endsOf, LentE,
  svD, Ct.toD, OV.rd, OV.fz, rdAll, fzAll, bindS, mapS, ex_some, ex_fz, ex_fzs, ex_own, ex_own0, ex_ownF, ex_bool, ex_int, ex_lst, ex_strv, ex_svd, ex_svo, ex_if, ex_ifb, ex_som0, ex_fl, ex_flN, ex_ifp, true_and, and_true,
  List.getElem?_cons_zero, List.getElem?_cons_succ, List.set_cons_zero, List.set_cons_succ, List.length_cons, List.length_nil, List.append_nil, List.nil_append, List.cons_append, List.map_nil, List.map_cons, List.length_set,
  atI_lit, ixN_lit, gI_ii, gAdd_ii, gAdd_ss, gAdd_ll, gAdd_tt, gMul_ii, gMul_si, gLt_ii, gLt_ss, gIx_li, gIx_ti, gIx_si, gLen_l, gLen_t, gLen_s, gListF_l, gListF_t, gTuple_l, gTuple_t, gCatF_ll, gEq_ii, gNe_ii, gEq_ss, gNe_ss, gEq_bb, gNe_bb, gSl_l, gSl_t, gSl_s, gIsN_n, gNotN_n, gIsN_b, gIsN_i, gIsN_s, gIsN_l, gIsN_t, gIsN_d, ne_eq, not_true_eq_false, not_false_eq_true, gAppend_1, gExtend_l, gExtend_t, gRev_l, gRev_t, qRevA, RV.toD, seqOf_l, seqOf_t, itemsOf_l, itemsOf_t, itemsOf_s, gSortD_s, gIsB_bb, gNotB_bb, qNeg, qVM, fVM, fSortK, gJoin_s, gAll_b, gAny_b, gPopAt_1, isi_str, isi_int, isi_bool, isi_list, isi_tuple, isi_none, dSub, gDiv, gMod, gPow, gCmp,
  Bool.not_true, Bool.not_false, if_true, if_false, ite_true, ite_false, reduceIte, decide_eq_true_eq, beq_iff_eq, Bool.not_eq_true', beq_eq_false_iff_ne, Bool.false_eq_true, Nat.reduceLT, Nat.reduceAdd, Nat.reduceLeDiff, Nat.lt_add_one, Nat.zero_lt_succ, Nat.not_lt_zero])
namespace Sw
def partB (L : List (Nat × Nat)) (p : Nat × Nat) : Bool := (List.range (p.2 - (p.1 + 1))).any fun d => decide ((p.1, p.1 + 1 + d) ∈ L) && decide ((p.1 + 1 + d, p.2) ∈ L)
theorem keyT_keyP (p : Nat × Nat) : KeyT true (keyP p) := ⟨.tup [.num (p.1 : Nat), .num (p.2 : Nat)], by rfl, ⟨_, rfl⟩, by simp [NestedKey.depth, NestedKey.depthAll]⟩
theorem keyO_L {L : List (Nat × Nat)} {p : Nat × Nat} (h : p ∈ L) (q : Nat × Nat) : KeyO none (kdsP L) (keyP q) := ⟨true, ⟨(keyP p, .bool true), List.mem_map.mpr ⟨p, h, rfl⟩, keyT_keyP p⟩, keyT_keyP q⟩
def sp_is_parted : PSp := fun fl ds Q => fl = none ∧ ∃ (L : List (Nat × Nat)) (p : Nat × Nat), ds = [.dict (kdsP L), keyP p] ∧ p ∈ L ∧ p.1 < p.2 ∧ p.2 ≤ 50 ∧ Q (.dt (.bool (partB L p))) none
/-! is_parted level 1 -/
abbrev N_is_parted : List Str := ["spans", "span", "s", "e", "m"]
def T_is_parted : PS' := (sSeq (sAsgG (qVar 1) (gT 2 (gsC (gN 2) (gsC (gN 3) gsN))))
  (sRet (qCB gAny (qCons (qF (fLc (iRg2 (qOp gAdd (qVar 2) (qC (.int 1))) (qVar 3)) (gN 4) tYes' (qAnd (qDIn false (qTup (qCons (qVar 2) (qCons (qVar 4) qNil))) (qVar 0)) (qDIn false (qTup (qCons (qVar 4) (qCons (qVar 3) qNil))) (qVar 0))) [4])) qNil))))
theorem pure_is_parted (fl : Option (List D)) (ds : List D) (Q : RV → Option (List D) → Prop) (_ : false = true ↔ fl ≠ none) (h : sp_is_parted fl ds Q) : T_is_parted (endsOf false Q) (startE false N_is_parted fl ds) := by
  obtain ⟨rfl, L, p, rfl, hp, hlt, hl, k⟩ := h
  show T_is_parted _ [SV.dat (.dict (kdsP L)), SV.dat (.tuple [.int (p.1 : Nat), .int (p.2 : Nat)]), SV.un, SV.un, SV.un]
  unfold T_is_parted
  walk_at "wy"
  refine ⟨by omega, ?_⟩
  rw [show ((p.2 : Int) - ((p.1 : Int) + 1)).toNat = p.2 - (p.1 + 1) by omega]
  refine ⟨by rw [rgD_len]; omega, ?_⟩
  have e : rgD ((p.1 : Int) + 1) (p.2 - (p.1 + 1)) = (List.range (p.2 - (p.1 + 1))).map fun (d : Nat) => PyData.int ((p.1 : Int) + 1 + (d : Int)) := rfl
  rw [e]
  refine map_comp (f := fun (d : Nat) => .bool (decide ((p.1, p.1 + 1 + d) ∈ L) && decide ((p.1 + 1 + d, p.2) ∈ L))) (fun d hd K hK => ?_) ?_
  · rw [show ((p.1 : Int) + 1 + (d : Int)) = ((p.1 + 1 + d : Nat) : Int) by omega]
    walk_at "wy"
    have l1 := look_kdsP L (p.1, p.1 + 1 + d)
    have l2 := look_kdsP L (p.1 + 1 + d, p.2)
    unfold keyP at l1 l2
    simp only at l1 l2
    rw [l1, l2]
    refine ⟨sizeL (by decide), keyO_L hp (p.1, p.1 + 1 + d), ?_⟩
    split
    · rename_i h
      refine ⟨sizeL (by decide), keyO_L hp (p.1 + 1 + d, p.2), ?_⟩
      rw [h, Bool.true_and] at hK
      exact hK
    · rename_i h
      rw [Bool.not_eq_true] at h
      rw [h, Bool.false_and] at hK
      exact hK
  · have e2 : ((List.range (p.2 - (p.1 + 1))).map fun (d : Nat) => PyData.bool (decide ((p.1, p.1 + 1 + d) ∈ L) && decide ((p.1 + 1 + d, p.2) ∈ L))) = ((List.range (p.2 - (p.1 + 1))).map fun (d : Nat) => (decide ((p.1, p.1 + 1 + d) ∈ L) && decide ((p.1 + 1 + d, p.2) ∈ L))).map PyData.bool := by
      rw [List.map_map]
      rfl
    rw [e2]
    walk_at "wy"
    have e3 : (((List.range (p.2 - (p.1 + 1))).map fun (d : Nat) => (decide ((p.1, p.1 + 1 + d) ∈ L) && decide ((p.1 + 1 + d, p.2) ∈ L))).any id) = partB L p := by
      rw [List.any_map]
      rfl
    rw [e3]
    exact k
theorem hn_pair (n : Nat) (a b : Int) : Hn (n + 1) (.tuple [.int a, .int b]) := fun d hd => by
  rcases List.mem_cons.mp hd with rfl | hd
  · cases n <;> exact True.intro
  · rw [List.mem_singleton.mp hd]
    cases n <;> exact True.intro
theorem eqv_pair (a b c d : Int) : PyData.eqv (.tuple [.int a, .int b]) (.tuple [.int c, .int d]) = decide (a = c ∧ b = d) := by
  have h := eqv_hn 1 (.tuple [.int a, .int b]) (.tuple [.int c, .int d]) (hn_pair 0 a b) (hn_pair 0 c d)
  by_cases e : a = c ∧ b = d
  · obtain ⟨rfl, rfl⟩ := e
    rw [h.mpr rfl]
    simp
  · have : PyData.eqv (.tuple [.int a, .int b]) (.tuple [.int c, .int d]) = false := by
      rw [← Bool.not_eq_true, h]
      intro z
      injection z with z
      injection z with z1 z
      injection z with z2 _
      injection z1 with z1
      injection z2 with z2
      exact e ⟨z1, z2⟩
    rw [this]
    simp [e]
theorem gIn_two (a b c d e f : Int) : gIn false (.tuple [.int a, .int b]) (.tuple [.tuple [.int c, .int d], .tuple [.int e, .int f]]) = some (.bool (decide ((a = c ∧ b = d) ∨ (a = e ∧ b = f)))) := by
  have h1 : okD (.tuple [.int a, .int b]) = true := (hn_pair 0 a b).okD (by omega)
  have h2 : okD (.list [.tuple [.int c, .int d], .tuple [.int e, .int f]]) = true := Hn.okD (n := 2) (fun x hx => by
    rcases List.mem_cons.mp hx with rfl | hx
    · exact hn_pair 0 c d
    · rw [List.mem_singleton.mp hx]; exact hn_pair 0 e f) (by omega)
  show (if okD (.tuple [.int a, .int b]) = true ∧ okD (.list [.tuple [.int c, .int d], .tuple [.int e, .int f]]) = true then some (inB false (.tuple [.int a, .int b]) [.tuple [.int c, .int d], .tuple [.int e, .int f]]) else none) = _
  rw [if_pos ⟨h1, h2⟩]
  unfold inB
  rw [if_neg (by decide)]
  simp only [List.any_cons, List.any_nil, Bool.or_false, eqv_pair]
  congr 2
  by_cases g1 : a = c ∧ b = d
  · obtain ⟨rfl, rfl⟩ := g1
    simp
  · by_cases g2 : a = e ∧ b = f
    · obtain ⟨rfl, rfl⟩ := g2
      simp
    · have g1' : ¬ (c = a ∧ d = b) := fun z => g1 ⟨z.1.symm, z.2.symm⟩
      have g2' : ¬ (e = a ∧ f = b) := fun z => g2 ⟨z.1.symm, z.2.symm⟩
      simp [g1, g2, g1', g2']
theorem rowP_zero (xs : List Int) (s : Nat) : rowP xs s 0 = [] := rfl
theorem if_cast (a b x y : Nat) : (if (a : Int) < (b : Int) then (x : Int) else (y : Int)) = ((if a < b then x else y : Nat) : Int) := by
  by_cases h : a < b
  · rw [if_pos h, if_pos (by omega)]
  · rw [if_neg h, if_neg (by omega)]
def sp_spans_in : PSp := fun fl ds Q => fl = none ∧ ∃ xs : List Int, ds = [.list (xs.map .int)] ∧ xs.length ≤ 50 ∧ 1 ≤ xs.length ∧ Q (.dt (.dict (kdsP (spP xs (xs.length - 1))))) none
/-! spans_in level 1 -/
abbrev N_spans_in : List Str := ["numbers", "found", "s", "low", "high", "e", "ends"]
def T_spans_in : PS' := (sSeq (sAsgD 1 true)
  (sSeq (sFor (iRg1 (qOp (gI dSub) (qCB gLen (qCons (qVar 0) qNil)) (qC (.int 1)))) (gN 2) (sSeq (sAsg 3 (qCB gAbs (qCons (qOp gIx (qVar 0) (qVar 2)) qNil)))
  (sSeq (sAsg 4 (qVar 3))
  (sFor (iRg2 (qOp gAdd (qVar 2) (qC (.int 1))) (qCB gLen (qCons (qVar 0) qNil))) (gN 5) (sSeq (sAsg 3 (qCB gMin (qCons (qVar 3) (qCons (qCB gAbs (qCons (qOp gIx (qVar 0) (qVar 5)) qNil)) qNil))))
  (sSeq (sAsg 4 (qCB gMax (qCons (qVar 4) (qCons (qCB gAbs (qCons (qOp gIx (qVar 0) (qVar 5)) qNil)) qNil))))
  (sSeq (sAsg 6 (qTup (qCons (qOp gIx (qVar 0) (qVar 2)) (qCons (qOp gIx (qVar 0) (qVar 5)) qNil))))
  (sIf (tAnd' (qTest (qOp (gEq false) (qOp (gI dSub) (qVar 4) (qVar 3)) (qOp (gI dSub) (qVar 5) (qVar 2)))) (qTest (qOp (gIn false) (qVar 6) (qTup (qCons (qTup (qCons (qVar 3) (qCons (qVar 4) qNil))) (qCons (qTup (qCons (qOp (gI dSub) (qC (.int 0)) (qVar 4)) (qCons (qOp (gI dSub) (qC (.int 0)) (qVar 3)) qNil))) qNil)))))) (sPutD 1 (qC (.bool true)) (qTup (qCons (qVar 2) (qCons (qVar 5) qNil)))) sNil))))))))
  (sFrzD 1 (sRet (qVar 1)))))
theorem pure_spans_in (fl : Option (List D)) (ds : List D) (Q : RV → Option (List D) → Prop) (_ : false = true ↔ fl ≠ none) (h : sp_spans_in fl ds Q) : T_spans_in (endsOf false Q) (startE false N_spans_in fl ds) := by
  obtain ⟨rfl, xs, rfl, hl, hl1, k⟩ := h
  show T_spans_in _ [SV.dat (.list (xs.map .int)), SV.un, SV.un, SV.un, SV.un, SV.un, SV.un]
  unfold T_spans_in
  refine sSeq_abs fun R hR => ?_
  walk_at "wy"
  subst hR
  refine cut_seq (fun env => ∃ y2 y3 y4 y5 y6, env = [SV.dat (.list (xs.map .int)), SV.dic true (kdsP (spP xs (xs.length - 1))), y2, y3, y4, y5, y6]) ?_ fun nx hnx => ?_
  · rintro env ⟨y2, y3, y4, y5, y6, rfl⟩
    walk_at "wy"
    exact k
  · refine sForY_abs fun B hB => ?_
    walk_at "wy"
    rw [List.length_map]
    refine ⟨by omega, ?_⟩
    have hn : ((xs.length : Int) - 1).toNat = xs.length - 1 := by omega
    rw [hn]
    refine pFor_inv (fun i env => ∃ y2 y3 y4 y5 y6, env = [SV.dat (.list (xs.map .int)), SV.dic true (kdsP (spP xs i)), y2, y3, y4, y5, y6]) ⟨_, _, _, _, _, rfl⟩ ?_ ?_
    · rintro s dd hdd env ⟨y2, y3, y4, y5, y6, rfl⟩ K hK
      obtain ⟨hi, rfl⟩ := rgD_get hdd
      subst hB
      have gx : ∀ i : Nat, i < xs.length → atI (xs.map PyData.int) ((i : Nat) : Int) = some (.int (xs.getD i 0)) := fun i h => by
        rw [atI_at (by omega), Int.toNat_natCast, List.getElem?_map, List.getElem?_eq_getElem h, List.getD_eq_getElem?_getD, List.getElem?_eq_getElem h]
        rfl
      rw [show (0 + (s : Int)) = ((s : Nat) : Int) by omega]
      refine ⟨by simp, ?_⟩
      refine sSeq_abs fun R hR => ?_
      walk_at "wy"
      rw [gx s (by omega)]
      walk_at "wy"
      subst hR
      refine sSeq_abs fun R hR => ?_
      walk_at "wy"
      subst hR
      refine sForY_abs fun B hB => ?_
      walk_at "wy"
      refine ⟨by rw [List.length_map]; omega, ?_⟩
      rw [show (((xs.map PyData.int).length : Nat) - ((s : Int) + 1)).toNat = xs.length - (s + 1) by rw [List.length_map]; omega]
      refine pFor_inv (fun j env => ∃ y5 y6, env = [SV.dat (.list (xs.map .int)), SV.dic true (kdsP (spP xs s ++ rowP xs s j)), SV.dat (.int (s : Nat)), SV.dat (.int (mnA xs s j : Nat)), SV.dat (.int (mxA xs s j : Nat)), y5, y6]) ⟨_, _, by rw [rowP_zero, List.append_nil]; rfl⟩ ?_ ?_
      · rintro j dd hdd env ⟨y5, y6, rfl⟩ K hK
        obtain ⟨hj, rfl⟩ := rgD_get hdd
        subst hB
        rw [show ((s : Int) + 1 + (j : Int)) = ((s + 1 + j : Nat) : Int) by omega]
        refine ⟨by simp, ?_⟩
        refine sSeq_abs fun R hR => ?_
        walk_at "wy"
        rw [gx _ (by omega)]
        walk_at "wy"
        rw [gMin_ints]
        walk_at "wy"
        subst hR
        refine sSeq_abs fun R hR => ?_
        walk_at "wy"
        rw [gx _ (by omega)]
        walk_at "wy"
        rw [gMax_ints]
        walk_at "wy"
        subst hR
        rw [if_cast, if_cast]
        have em : (if (xs.getD (s + 1 + j) 0).natAbs < mnA xs s j then (xs.getD (s + 1 + j) 0).natAbs else mnA xs s j) = mnA xs s (j + 1) := rfl
        have ex : (if mxA xs s j < (xs.getD (s + 1 + j) 0).natAbs then (xs.getD (s + 1 + j) 0).natAbs else mxA xs s j) = mxA xs s (j + 1) := rfl
        rw [em, ex]
        refine sSeq_abs fun R hR => ?_
        walk_at "wy"
        rw [gx _ (by omega), gx _ (by omega)]
        walk_at "wy"
        refine ⟨sizeL (by decide), ?_⟩
        subst hR
        walk_at "wy"
        rw [gIn_two]
        have ek : s + 1 + j - s = j + 1 := by omega
        have hsp : spanP xs s (s + 1 + j) ↔ ((mxA xs s (j + 1) : Int) - mnA xs s (j + 1) = ((s + 1 + j : Nat) : Int) - s) ∧ ((xs.getD s 0 = mnA xs s (j + 1) ∧ xs.getD (s + 1 + j) 0 = mxA xs s (j + 1)) ∨ (xs.getD s 0 = 0 - (mxA xs s (j + 1) : Int) ∧ xs.getD (s + 1 + j) 0 = 0 - (mnA xs s (j + 1) : Int))) := by
          unfold spanP
          rw [ek]
        have hlen : (kdsP (spP xs s ++ rowP xs s j)).length < sizeLine := by
          unfold kdsP
          rw [List.length_map, List.length_append, sizeLine_eq]
          have h1 := spP_len hl s
          have h2 : (rowP xs s j).length ≤ j := by
            unfold rowP
            rw [List.length_map]
            have := List.length_filter_le (fun d => decide (spanP xs s (s + 1 + d))) (List.range j)
            rw [List.length_range] at this
            exact this
          have h3 : s * 50 ≤ 50 * 50 := Nat.mul_le_mul_right 50 (by omega)
          omega
        split
        · rename_i h1
          refine ⟨sizeL (by decide), sizeL (by decide), sizeL (by decide), _, rfl, _, rfl, ?_⟩
          split
          · rename_i h2
            have hs : spanP xs s (s + 1 + j) := hsp.mpr ⟨h1, of_decide_eq_true h2⟩
            refine ⟨sizeL (by decide), keyT_keyP (s, s + 1 + j), hlen, ?_⟩
            have hnew : (s, s + 1 + j) ∉ spP xs s ++ rowP xs s j := fun z => by
              rcases List.mem_append.mp z with z | z
              · have := (mem_spP.mp z).1
                simp only at this
                omega
              · have := (mem_rowP.mp z).2.2.1
                simp only at this
                omega
            have hput := put_kdsP hnew
            unfold keyP at hput
            simp only at hput
            rw [hput]
            exact hK _ ⟨_, _, by rw [rowP_succ, if_pos hs, List.append_assoc]⟩
          · rename_i h2
            have hs : ¬ spanP xs s (s + 1 + j) := fun z => h2 (decide_eq_true (hsp.mp z).2)
            exact hK _ ⟨_, _, by rw [rowP_succ, if_neg hs]⟩
        · rename_i h1
          have hs : ¬ spanP xs s (s + 1 + j) := fun z => h1 (hsp.mp z).1
          exact hK _ ⟨_, _, by rw [rowP_succ, if_neg hs]⟩
      · rintro env ⟨y5, y6, rfl⟩
        rw [rgD_len, ← spP_succ]
        exact hK _ ⟨_, _, _, _, _, rfl⟩
    · rintro env ⟨y2, y3, y4, y5, y6, rfl⟩
      rw [rgD_len]
      exact hnx _ ⟨_, _, _, _, _, rfl⟩

def wholesL (L : List (Nat × Nat)) : List (Nat × Nat) := L.filter fun p => !partB L p
theorem okSort_keys (ps : List (Nat × Nat)) : okSort (ps.map keyP) = true := okSort_of (fun x hx => by
    obtain ⟨p, _, rfl⟩ := List.mem_map.mp hx
    exact (hn_keyP 0 p).okD (by omega)) (fun x hx y hy => by
    obtain ⟨p, _, rfl⟩ := List.mem_map.mp hx
    obtain ⟨q, _, rfl⟩ := List.mem_map.mp hy
    rfl) fun x hx => by
    obtain ⟨p, _, rfl⟩ := List.mem_map.mp hx
    rfl
theorem leD_keyP {p q : Nat × Nat} (h : ahead p q) : leD (keyP p) (keyP q) = true := by
  unfold leD
  rw [Bool.not_eq_true']
  show W.dataLt (.tuple [.int (q.1 : Nat), .int (q.2 : Nat)]) (.tuple [.int (p.1 : Nat), .int (p.2 : Nat)]) = false
  rw [W.dataLt_pair rfl rfl, W.dataLt_int, W.dataLt_int]
  have e : PyData.eqv (.int (q.1 : Nat)) (.int (p.1 : Nat)) = decide (((q.1 : Nat) : Int) = (p.1 : Nat)) := rfl
  rw [e]
  rcases h with h | ⟨h1, h2⟩
  · rw [if_neg (by simp; omega)]
    simp
    omega
  · rw [if_pos (by simp; omega)]
    simp
    omega
theorem srt_keys {ps : List (Nat × Nat)} (h : ps.Pairwise ahead) : srtD (ps.map keyP) = ps.map keyP := by
  refine (srtD_eq (fun x hx y hy => ?_) (List.Perm.refl _) (List.pairwise_map.mpr (h.imp fun {a b} q => leD_keyP q))).symm
  obtain ⟨p, _, rfl⟩ := List.mem_map.mp hx
  obtain ⟨q, _, rfl⟩ := List.mem_map.mp hy
  rfl
def sp_whole_spans : PSp := fun fl ds Q => fl = none ∧ ∃ xs : List Int, ds = [.list (xs.map .int)] ∧ xs.length ≤ 50 ∧ 1 ≤ xs.length ∧ Q (.fr ((wholesL (spP xs xs.length)).map keyP)) none
/-! whole_spans level 2 fresh -/
abbrev N_whole_spans : List Str := ["numbers", "spans", "span"]
def T_whole_spans : PS' := (sSeq (sAsg 1 (qCall sp_spans_in (qAddD (qCons (qVar 0) qNil) [])))
  (sRetF (fLc (iAny (qF (fCB gSortDic (qCons (qVar 1) qNil)))) (gN 2) (tNot' (qTest (qCall sp_is_parted (qAddD (qCons (qVar 1) (qCons (qVar 2) qNil)) [])))) (qVar 2) [2])))
theorem pure_whole_spans (fl : Option (List D)) (ds : List D) (Q : RV → Option (List D) → Prop) (_ : false = true ↔ fl ≠ none) (h : sp_whole_spans fl ds Q) : T_whole_spans (endsOf false Q) (startE false N_whole_spans fl ds) := by
  obtain ⟨rfl, xs, rfl, hl, hl1, k⟩ := h
  show T_whole_spans _ [SV.dat (.list (xs.map .int)), SV.un, SV.un]
  unfold T_whole_spans
  refine sSeq_abs fun R hR => ?_
  walk_at "wy"
  refine ⟨rfl, xs, rfl, hl, hl1, ?_⟩
  walk_at "wy"
  subst hR
  rw [spP_last]
  have hpw := spP_pw xs xs.length
  have hlen := spP_len hl xs.length
  have hmem : ∀ p ∈ spP xs xs.length, p.1 < p.2 ∧ p.2 ≤ 50 := fun p hp => by
    obtain ⟨_, h2, h3, _⟩ := mem_spP.mp hp
    omega
  generalize spP xs xs.length = L at hpw hlen hmem k ⊢
  have e1 : gSortDic [PyData.dict (kdsP L)] = some (L.map keyP) := by
    show (if okSort ((kdsP L).map Prod.fst) = true then some (srtD ((kdsP L).map Prod.fst)) else none) = _
    rw [kdsP_fst, if_pos (okSort_keys L), srt_keys hpw]
  walk_at "wy"
  refine ⟨_, e1, by rw [List.length_map]; omega, ?_⟩
  refine pLc_inv (fun i acc env => acc = ((L.take i).filter fun p => !partB L p).map keyP ∧ env = [SV.dat (PyData.list (List.map PyData.int xs)), SV.dat (PyData.dict (kdsP L)), SV.un]) ⟨rfl, rfl⟩ ?_ ?_
  · rintro i d hd acc env ⟨rfl, rfl⟩ K hK
    rw [List.getElem?_map] at hd
    cases hq : L[i]? with
    | none => rw [hq] at hd; cases hd
    | some p =>
      rw [hq] at hd
      cases hd
      have hp := List.mem_of_getElem? hq
      walk_at "wy"
      refine ⟨rfl, L, p, rfl, hp, (hmem p hp).1, (hmem p hp).2, ?_⟩
      walk_at "wy"
      have ht : L.take (i + 1) = L.take i ++ [p] := by rw [List.take_add_one, hq]; rfl
      cases hb : partB L p with
      | true =>
        try simp only [Bool.not_true, Bool.false_eq_true, if_false]
        exact hK _ _ ⟨by rw [ht, List.filter_append]; simp [hb], rfl⟩
      | false =>
        try simp only [Bool.not_false, if_true]
        exact hK _ _ ⟨by rw [ht, List.filter_append]; simp [hb], rfl⟩
  · rintro acc env ⟨rfl, rfl⟩
    rw [List.length_map, List.take_length]
    exact k

end Sw

open PySem PySem.Spec L2 Sw
namespace Sw
/-! ### the abs values of a stretch -/
def absL (xs : List Int) (s k : Nat) : List Nat := (List.range (k + 1)).map fun i => (xs.getD (s + i) 0).natAbs
theorem mnA_spec (xs : List Int) (s : Nat) : ∀ k, (∀ i, i ≤ k → mnA xs s k ≤ (xs.getD (s + i) 0).natAbs) ∧ ∃ i, i ≤ k ∧ mnA xs s k = (xs.getD (s + i) 0).natAbs
  | 0 => ⟨fun i hi => by rw [Nat.le_zero.mp hi]; exact Nat.le_refl _, 0, Nat.le_refl _, rfl⟩
  | k + 1 => by
    obtain ⟨h1, i, hi, h2⟩ := mnA_spec xs s k
    have e : s + 1 + k = s + (k + 1) := by omega
    unfold mnA
    rw [e]
    split
    · rename_i h
      refine ⟨fun j hj => ?_, k + 1, Nat.le_refl _, rfl⟩
      by_cases q : j = k + 1
      · rw [q]; exact Nat.le_refl _
      · have := h1 j (by omega); omega
    · rename_i h
      refine ⟨fun j hj => ?_, i, by omega, h2⟩
      by_cases q : j = k + 1
      · rw [q]; omega
      · exact h1 j (by omega)
theorem mxA_spec (xs : List Int) (s : Nat) : ∀ k, (∀ i, i ≤ k → (xs.getD (s + i) 0).natAbs ≤ mxA xs s k) ∧ ∃ i, i ≤ k ∧ mxA xs s k = (xs.getD (s + i) 0).natAbs
  | 0 => ⟨fun i hi => by rw [Nat.le_zero.mp hi]; exact Nat.le_refl _, 0, Nat.le_refl _, rfl⟩
  | k + 1 => by
    obtain ⟨h1, i, hi, h2⟩ := mxA_spec xs s k
    have e : s + 1 + k = s + (k + 1) := by omega
    unfold mxA
    rw [e]
    split
    · rename_i h
      refine ⟨fun j hj => ?_, k + 1, Nat.le_refl _, rfl⟩
      by_cases q : j = k + 1
      · rw [q]; exact Nat.le_refl _
      · have := h1 j (by omega); omega
    · rename_i h
      refine ⟨fun j hj => ?_, i, by omega, h2⟩
      by_cases q : j = k + 1
      · rw [q]; omega
      · exact h1 j (by omega)
theorem absL_nd {xs : List Int} (h : NumOk xs) {s k : Nat} (hk : s + k < xs.length) : (absL xs s k).Nodup := by
  refine List.pairwise_map.mpr ?_
  refine List.Pairwise.imp_of_mem ?_ List.pairwise_lt_range
  intro a b ha hb hab
  have ha := List.mem_range.mp ha
  have hb := List.mem_range.mp hb
  have := List.pairwise_iff_getElem.mp h (s + a) (s + b) (by omega) (by omega) (by omega)
  rw [List.getD_eq_getElem?_getD, List.getD_eq_getElem?_getD, List.getElem?_eq_getElem (by omega : s + a < xs.length), List.getElem?_eq_getElem (by omega : s + b < xs.length)]
  exact this
theorem absL_cut {xs : List Int} {s k : Nat} (hk : s + k < xs.length) : ((xs.drop s).take (k + 1)).map (fun x : Int => x.natAbs) = absL xs s k := by
  apply List.ext_getElem
  · simp [absL]; omega
  · intro i h1 h2
    simp only [absL, List.length_map, List.length_range] at h2
    simp only [absL, List.getElem_map, List.getElem_take, List.getElem_drop, List.getElem_range]
    rw [List.getD_eq_getElem?_getD, List.getElem?_eq_getElem (by omega : s + i < xs.length)]
    rfl
theorem mem_absL {xs : List Int} {s k n : Nat} : n ∈ absL xs s k ↔ ∃ i, i ≤ k ∧ n = (xs.getD (s + i) 0).natAbs := by
  unfold absL
  constructor
  · intro h
    obtain ⟨i, hi, rfl⟩ := List.mem_map.mp h
    exact ⟨i, by have := List.mem_range.mp hi; omega, rfl⟩
  · rintro ⟨i, hi, rfl⟩
    exact List.mem_map.mpr ⟨i, List.mem_range.mpr (by omega), rfl⟩
theorem incr {l : List Nat} (h : l.Pairwise (· < ·)) {i : Nat} : ∀ (d : Nat) (hd : i + d < l.length), l[i] + d ≤ l[i + d]
  | 0, _ => Nat.le_refl _
  | d + 1, hd => by
    have ih := incr h (i := i) d (by omega)
    have := List.pairwise_iff_getElem.mp h (i + d) (i + (d + 1)) (by omega) hd (by omega)
    omega
/-- a rising row of k + 1 numbers is a whole stretch just where it is as long as its ends are apart -/
theorem rising_all {l : List Nat} (h : l.Pairwise (· < ·)) {k : Nat} (hl : l.length = k + 1) (he : l[k]'(by omega) = l[0]'(by omega) + k) : l = (List.range (k + 1)).map fun i => l[0]'(by omega) + i := by
  apply List.ext_getElem
  · simp [hl]
  · intro i h1 h2
    simp only [List.getElem_map, List.getElem_range]
    have a := incr h (i := 0) i (by omega)
    have b := incr h (i := i) (k - i) (by omega)
    have e1 : (0 + i) = i := by omega
    have e2 : i + (k - i) = k := by omega
    simp only [e1, e2] at a b
    omega
theorem srt_nats (A : List Nat) (hA : A.Nodup) : ∃ B : List Nat, B.Perm A ∧ B.Pairwise (· < ·) ∧ srtD (A.map fun (n : Nat) => PyData.int (n : Int)) = B.map fun (n : Nat) => PyData.int (n : Int) := by
  have p := List.mergeSort_perm A (fun a b => decide (a ≤ b))
  have s : (A.mergeSort fun a b => decide (a ≤ b)).Pairwise fun a b => decide (a ≤ b) = true := List.pairwise_mergeSort (by intro a b c h1 h2; simp at *; omega) (by intro a b; simp; omega) A
  generalize A.mergeSort (fun a b => decide (a ≤ b)) = B at p s
  have nd : B.Nodup := p.nodup_iff.mpr hA
  refine ⟨B, p, (s.and nd).imp fun {a b} h => by have := of_decide_eq_true h.1; have := h.2; omega, ?_⟩
  refine (srtD_eq (fun x hx y hy => ?_) (p.map _) (List.pairwise_map.mpr (s.imp fun {a b} h => ?_))).symm
  · obtain ⟨a, _, rfl⟩ := List.mem_map.mp hx
    obtain ⟨b, _, rfl⟩ := List.mem_map.mp hy
    rfl
  · unfold leD
    rw [W.dataLt_int]
    have := of_decide_eq_true h
    simp
    omega

end Sw

open PySem PySem.Spec L2 Sw
local macro_rules | `(tactic| walk_at "wy") => `(tactic| simp only [sSetAll, fListRg1, fListRg2, iRevL, iRg2, gReverse_0, gAbs_1, qLenS, qIxS, fCallS, fCallR, sSeq, sIf, sNil, sPass, sBreak, sCont, sRet, sRetF, sRetS, sDrop, sAsg, sAsgF, sSetIx, sAsgG, sFor, sRaise, sAsgD, sPutD, sFrzD, qDIn, qDGet, qDGetO, iKeysD, OV.dic, ex_pr, ex_pr0, ex_dic, ex_dic0, ex_kds, keyO_some, gListDic_1, gClear_0, qDisp1, qChain, qRest, tAnd', tOr', tNot', qTest, qAnd, qOr, qNot, qOp, qVar, qC, qF, qSl, qPn, qPs, qTup, fLst, qCB, fCB, qIsi, qJoin, fOp, qCons, qNil, qMO, qMO0, qAddD, qCall, qCallL, fCall, fCallL, qCallV, ex_dt, ex_fr, ex_frL, atom_b, atom_i, atom_s, atom_n, ex_tupv, ex_consv, eq_self, fLc, fLcR, restE, NoOwn, nob_d, nob_u, List.getD_cons_zero, List.getD_cons_succ, wipeE, iAny, iRg1, iRg2, iEnu, gN, gT, gsC, gsN, tYes', endsOf, LentE,
  svD, Ct.toD, OV.rd, OV.fz, rdAll, fzAll, bindS, mapS, ex_some, ex_fz, ex_fzs, ex_own, ex_own0, ex_ownF, ex_bool, ex_int, ex_lst, ex_strv, ex_svd, ex_svo, ex_if, ex_ifb, ex_som0, ex_fl, ex_flN, ex_ifp, true_and, and_true,
  List.getElem?_cons_zero, List.getElem?_cons_succ, List.set_cons_zero, List.set_cons_succ, List.length_cons, List.length_nil, List.append_nil, List.nil_append, List.cons_append, List.map_nil, List.map_cons, List.length_set,
  atI_lit, ixN_lit, gI_ii, gAdd_ii, gAdd_ss, gAdd_ll, gAdd_tt, gMul_ii, gMul_si, gLt_ii, gLt_ss, gIx_li, gIx_ti, gIx_si, gLen_l, gLen_t, gLen_s, gListF_l, gListF_t, gTuple_l, gTuple_t, gCatF_ll, gEq_ii, gNe_ii, gEq_ss, gNe_ss, gEq_bb, gNe_bb, gSl_l, gSl_t, gSl_s, gIsN_n, gNotN_n, gIsN_b, gIsN_i, gIsN_s, gIsN_l, gIsN_t, gIsN_d, ne_eq, not_true_eq_false, not_false_eq_true, gAppend_1, gExtend_l, gExtend_t, gRev_l, gRev_t, qRevA, RV.toD, seqOf_l, seqOf_t, itemsOf_l, itemsOf_t, itemsOf_s, gSortD_s, gIsB_bb, gNotB_bb, qNeg, qVM, fVM, fSortK, gJoin_s, gAll_b, gAny_b, gPopAt_1, isi_str, isi_int, isi_bool, isi_list, isi_tuple, isi_none, dSub, gDiv, gMod, gPow, gCmp,
  Bool.not_true, Bool.not_false, if_true, if_false, ite_true, ite_false, reduceIte, decide_eq_true_eq, beq_iff_eq, Bool.not_eq_true', beq_eq_false_iff_ne, Bool.false_eq_true, Nat.reduceLT, Nat.reduceAdd, Nat.reduceLeDiff, Nat.lt_add_one, Nat.zero_lt_succ, Nat.not_lt_zero])
namespace Sw
def sp_law_is_span : PSp := fun fl ds Q => fl = none ∧ ∃ (xs : List Int) (s e : Nat), ds = [.list (xs.map .int), .int s, .int e] ∧ NumG xs ∧ s < e ∧ e < xs.length ∧ xs.length ≤ 50 ∧ Q (.dt (.bool (decide (spanP xs s e)))) none
/-! law_is_span level 1 -/
abbrev N_law_is_span : List Str := ["_law_numbers_here", "_law_s", "_law_e", "_law_some", "_law_number"]
def T_law_is_span : PS' := (sSeq (sAsg 3 (qF (fCB gSortD (qCons (qF (fLc (iAny (qSl (qVar 0) (qPs (qVar 1)) (qPs (qOp gAdd (qVar 2) (qC (.int 1)))))) (gN 4) tYes' (qCB gAbs (qCons (qVar 4) qNil)) [4])) qNil))))
  (sSeq (sIf (qTest (qOp (gEq true) (qVar 3) (qF (fListRg2 (qOp gIx (qVar 3) (qC (.int 0))) (qOp gAdd (qOp (gI dSub) (qOp gAdd (qOp gIx (qVar 3) (qC (.int 0))) (qVar 2)) (qVar 1)) (qC (.int 1))))))) (sRet (qC (.bool false))) sNil)
  (sSeq (sIf (qTest (qOp (gEq false) (qOp gIx (qVar 0) (qVar 1)) (qOp gIx (qVar 3) (qC (.int 0))))) (sRet (qOp (gEq false) (qOp gIx (qVar 0) (qVar 2)) (qOp gIx (qVar 3) (qNeg (qC (.int 1)))))) sNil)
  (sRet (qAnd (qOp (gEq false) (qOp gIx (qVar 0) (qVar 1)) (qOp (gI dSub) (qC (.int 0)) (qOp gIx (qVar 3) (qNeg (qC (.int 1)))))) (qOp (gEq false) (qOp gIx (qVar 0) (qVar 2)) (qOp (gI dSub) (qC (.int 0)) (qOp gIx (qVar 3) (qC (.int 0))))))))))
theorem okSort_nats (A : List Nat) : okSort (A.map fun (n : Nat) => PyData.int (n : Int)) = true := by
  have h1 : (A.map fun (n : Nat) => PyData.int (n : Int)).all okD = true := List.all_eq_true.mpr fun x hx => by
    obtain ⟨n, _, rfl⟩ := List.mem_map.mp hx
    rfl
  have h2 : ((A.map fun (n : Nat) => PyData.int (n : Int)).all fun d => (A.map fun (n : Nat) => PyData.int (n : Int)).all fun e => W.alike d e) = true := List.all_eq_true.mpr fun x hx => List.all_eq_true.mpr fun y hy => by
    obtain ⟨n, _, rfl⟩ := List.mem_map.mp hx
    obtain ⟨m, _, rfl⟩ := List.mem_map.mp hy
    rfl
  have h3 : (A.map fun (n : Nat) => PyData.int (n : Int)).all noTup = true := List.all_eq_true.mpr fun x hx => by
    obtain ⟨n, _, rfl⟩ := List.mem_map.mp hx
    rfl
  unfold okSort
  rw [h1, h2, h3, Bool.or_true]
  rfl
theorem pure_law_is_span (fl : Option (List D)) (ds : List D) (Q : RV → Option (List D) → Prop) (_ : false = true ↔ fl ≠ none) (h : sp_law_is_span fl ds Q) : T_law_is_span (endsOf false Q) (startE false N_law_is_span fl ds) := by
  obtain ⟨rfl, xs, s, e, rfl, ⟨hn, hnb⟩, hse, he, hl, k⟩ := h
  show T_law_is_span _ [SV.dat (.list (xs.map .int)), SV.dat (.int s), SV.dat (.int e), SV.un, SV.un]
  unfold T_law_is_span
  obtain ⟨d, rfl⟩ : ∃ d, e = s + d := ⟨e - s, by omega⟩
  have hd : 1 ≤ d := by omega
  obtain ⟨B, hp, hs, hB⟩ := srt_nats (absL xs s d) (absL_nd hn he)
  have hBl : B.length = d + 1 := by rw [hp.length_eq]; simp [absL]
  refine sSeq_abs fun R hR => ?_
  walk_at "wy"
  have hcut : cutD (xs.map PyData.int) (some ((s : Nat) : Int)) (some ((((s + d : Nat) : Int) + 1))) = ((xs.drop s).take (d + 1)).map PyData.int := by
    rw [show (((s + d : Nat) : Int) + 1) = ((s + d + 1 : Nat) : Int) by omega, cutD_mid (by omega) (by rw [List.length_map]; omega), ← List.map_drop, ← List.map_take]
    congr 2
    omega
  rw [hcut]
  refine ⟨by rw [List.length_map, List.length_take]; omega, ?_⟩
  refine map_comp (e := PyData.int) (f := fun x : Int => .int (x.natAbs : Int)) (fun x hx K hK => ?_) ?_
  · walk_at "wy"
    exact hK
  have hA : ((xs.drop s).take (d + 1)).map (fun x : Int => PyData.int (x.natAbs : Int)) = (absL xs s d).map fun (n : Nat) => PyData.int (n : Int) := by
    rw [← absL_cut he, List.map_map]
    rfl
  rw [hA]
  have hso : gSortD [PyData.list ((absL xs s d).map fun (n : Nat) => PyData.int (n : Int))] = some (B.map fun (n : Nat) => PyData.int (n : Int)) := by
    show (if okSort _ = true then some (srtD _) else none) = _
    rw [if_pos (okSort_nats _), hB]
  rw [hso]
  walk_at "wy"
  subst hR
  have h0 : 0 < B.length := by omega
  have hdl : d < B.length := by omega
  have gx : ∀ i : Nat, i < xs.length → atI (xs.map PyData.int) ((i : Nat) : Int) = some (.int (xs.getD i 0)) := fun i h => by
    rw [atI_at (by omega), Int.toNat_natCast, List.getElem?_map, List.getElem?_eq_getElem h, List.getD_eq_getElem?_getD, List.getElem?_eq_getElem h]
    rfl
  have g0 : (B.map fun (n : Nat) => PyData.int (n : Int))[0]? = some (.int (B[0] : Nat)) := by
    rw [List.getElem?_map, List.getElem?_eq_getElem h0]
    rfl
  have gl : atI (B.map fun (n : Nat) => PyData.int (n : Int)) (-1) = some (.int (B[d] : Nat)) := atI_neg1 (by
    rw [List.getLast?_map, List.getLast?_eq_getElem?, hBl, Nat.add_sub_cancel, List.getElem?_eq_getElem hdl]
    rfl)
  have hmem : ∀ n, n ∈ B ↔ ∃ i, i ≤ d ∧ n = (xs.getD (s + i) 0).natAbs := fun n => hp.mem_iff.trans mem_absL
  have hlo : ∀ n ∈ B, B[0] ≤ n := fun n hn => by
    obtain ⟨j, hj, rfl⟩ := List.getElem_of_mem hn
    have := incr hs (i := 0) j (by omega)
    have e : 0 + j = j := by omega
    simp only [e] at this
    omega
  have hhi : ∀ n ∈ B, n ≤ B[d] := fun n hn => by
    obtain ⟨j, hj, rfl⟩ := List.getElem_of_mem hn
    have := incr hs (i := j) (d - j) (by omega)
    have e : j + (d - j) = d := by omega
    simp only [e] at this
    omega
  have emn : mnA xs s d = B[0] := by
    obtain ⟨m1, i, hi, m2⟩ := mnA_spec xs s d
    obtain ⟨j, hj, m3⟩ := (hmem _).mp (List.getElem_mem h0)
    have a := hlo _ ((hmem _).mpr ⟨i, hi, m2⟩)
    have b := m1 j hj
    omega
  have emx : mxA xs s d = B[d] := by
    obtain ⟨m1, i, hi, m2⟩ := mxA_spec xs s d
    obtain ⟨j, hj, m3⟩ := (hmem _).mp (List.getElem_mem hdl)
    have a := hhi _ ((hmem _).mpr ⟨i, hi, m2⟩)
    have b := m1 j hj
    omega
  have hsp : spanP xs s (s + d) ↔ (((B[d] : Nat) : Int) - ((B[0] : Nat) : Int) = ((s + d : Nat) : Int) - s) ∧ ((xs.getD s 0 = ((B[0] : Nat) : Int) ∧ xs.getD (s + d) 0 = ((B[d] : Nat) : Int)) ∨ (xs.getD s 0 = (0 : Int) - ((B[d] : Nat) : Int) ∧ xs.getD (s + d) 0 = (0 : Int) - ((B[0] : Nat) : Int))) := by
    unfold spanP
    rw [show s + d - s = d by omega, emn, emx]
  have hinc := incr hs (i := 0) d (by omega)
  have ed : 0 + d = d := by omega
  simp only [ed] at hinc
  have hall : B[d] = B[0] + d → B = (List.range (d + 1)).map fun i => B[0] + i := fun h => rising_all hs hBl h
  have hrg : rgD ((B[0] : Nat) : Int) (d + 1) = ((List.range (d + 1)).map fun i => B[0] + i).map fun (n : Nat) => PyData.int (n : Int) := by
    unfold rgD
    rw [List.map_map]
    refine List.map_congr_left fun i _ => ?_
    show PyData.int _ = PyData.int _
    congr 1
  have hrgd : (((List.range (d + 1)).map fun i => B[0] + i)[d]'(by simp)) = B[0] + d := by simp
  refine sSeq_abs fun R hR => ?_
  walk_at "wy"
  rw [g0]
  walk_at "wy"
  have hb50 : B[0] < 50 := by
    obtain ⟨j, hj, m3⟩ := (hmem _).mp (List.getElem_mem h0)
    have hi : s + j < xs.length := by omega
    have := hnb _ (List.getElem_mem hi)
    rw [List.getD_eq_getElem?_getD, List.getElem?_eq_getElem hi] at m3
    have m3 : B[0] = (xs[s + j]).natAbs := m3
    omega
  refine ⟨RgOk.of_le (by omega) (by omega) (by omega) (by omega), ?_⟩
  rw [show (((B[0] : Nat) : Int) + ((s + d : Nat) : Int) - ((s : Nat) : Int) + (1 : Int) - ((B[0] : Nat) : Int)).toNat = d + 1 by omega, hrg]
  have hh : ∀ l : List Nat, Hn 1 (.list (l.map fun (n : Nat) => PyData.int (n : Int))) := fun l x hx => by
    obtain ⟨n, _, rfl⟩ := List.mem_map.mp hx
    exact True.intro
  refine ne_hn (n := 1) (hh _) (hh _) (by omega) (fun e => ?_) (fun e => ?_)
  · -- a whole stretch
    have e1 : B = (List.range (d + 1)).map fun i => B[0] + i := by
      injection e with e
      exact (List.map_inj_right (fun a b h => by injection h with h; omega)).mp e
    have hBd : B[d] = B[0] + d := by
      have : B[d]? = ((List.range (d + 1)).map fun i => B[0] + i)[d]? := congrArg (fun l : List Nat => l[d]?) e1
      rw [List.getElem?_eq_getElem hdl, List.getElem?_map, List.getElem?_range (by omega)] at this
      exact Option.some.inj this
    walk_at "wy"
    subst hR
    walk_at "wy"
    rw [gx _ (by omega), g0]
    walk_at "wy"
    rw [gx _ he, gl]
    walk_at "wy"
    have hsp1 : spanP xs s (s + d) ↔ ((xs.getD s 0 = ((B[0] : Nat) : Int) ∧ xs.getD (s + d) 0 = ((B[d] : Nat) : Int)) ∨ (xs.getD s 0 = (0 : Int) - ((B[d] : Nat) : Int) ∧ xs.getD (s + d) 0 = (0 : Int) - ((B[0] : Nat) : Int))) := hsp.trans (and_iff_right (by omega))
    have fin : ∀ b : Bool, (b = true ↔ spanP xs s (s + d)) → Q (RV.dt (PyData.bool b)) none := fun b hb => by
      have : b = decide (spanP xs s (s + d)) := by
        cases b with
        | true => exact (decide_eq_true (hb.mp rfl)).symm
        | false => exact (decide_eq_false fun z => nomatch hb.mpr z).symm
      rw [this]
      exact k
    split
    · rename_i h1
      refine fin _ ?_
      rw [hsp1, beq_iff_eq]
      constructor
      · exact fun h => .inl ⟨h1, h⟩
      · rintro (h | h)
        · exact h.2
        · omega
    · rename_i h1
      split
      · rename_i h2
        refine fin _ ?_
        rw [hsp1, beq_iff_eq]
        constructor
        · exact fun h => .inr ⟨h2, h⟩
        · rintro (h | h)
          · exact absurd h.1 h1
          · exact h.2
      · rename_i h2
        refine fin _ ?_
        rw [hsp1]
        constructor
        · exact fun h => nomatch h
        · rintro (h | h)
          · exact absurd h.1 h1
          · exact absurd h.1 h2
  · have hno : ¬ spanP xs s (s + d) := fun z => by
      have h1 := (hsp.mp z).1
      have h2 := hall (by omega)
      exact e (by rw [← h2])
    rw [decide_eq_false hno] at k
    walk_at "wy"
    exact k

end Sw

open PySem PySem.Spec L2 Sw
local macro_rules | `(tactic| walk_at "wy") => `(tactic| simp only [sSetAll, fListRg1, fListRg2, iRevL, iRg2, gReverse_0, gAbs_1, qLenS, qIxS, fCallS, fCallR, sSeq, sIf, sNil, sPass, sBreak, sCont, sRet, sRetF, sRetS, sDrop, sAsg, sAsgF, sSetIx, sAsgG, sFor, sRaise, sAsgD, sPutD, sFrzD, qDIn, qDGet, qDGetO, iKeysD, OV.dic, ex_pr, ex_pr0, ex_dic, ex_dic0, ex_kds, keyO_some, gListDic_1, gClear_0, qDisp1, qChain, qRest, tAnd', tOr', tNot', qTest, qAnd, qOr, qNot, qOp, qVar, qC, qF, qSl, qPn, qPs, qTup, fLst, qCB, fCB, qIsi, qJoin, fOp, qCons, qNil, qMO, qMO0, qAddD, qCall, qCallL, fCall, fCallL, qCallV, ex_dt, ex_fr, ex_frL, atom_b, atom_i, atom_s, atom_n, ex_tupv, ex_consv, eq_self, fLc, fLcR, restE, NoOwn, nob_d, nob_u, List.getD_cons_zero, List.getD_cons_succ, wipeE, iAny, iRg1, iRg2, iEnu, gN, gT, gsC, gsN, tYes', endsOf, LentE,
  svD, Ct.toD, OV.rd, OV.fz, rdAll, fzAll, bindS, mapS, ex_some, ex_fz, ex_fzs, ex_own, ex_own0, ex_ownF, ex_bool, ex_int, ex_lst, ex_strv, ex_svd, ex_svo, ex_if, ex_ifb, ex_som0, ex_fl, ex_flN, ex_ifp, true_and, and_true,
  List.getElem?_cons_zero, List.getElem?_cons_succ, List.set_cons_zero, List.set_cons_succ, List.length_cons, List.length_nil, List.append_nil, List.nil_append, List.cons_append, List.map_nil, List.map_cons, List.length_set,
  atI_lit, ixN_lit, gI_ii, gAdd_ii, gAdd_ss, gAdd_ll, gAdd_tt, gMul_ii, gMul_si, gLt_ii, gLt_ss, gIx_li, gIx_ti, gIx_si, gLen_l, gLen_t, gLen_s, gListF_l, gListF_t, gTuple_l, gTuple_t, gCatF_ll, gEq_ii, gNe_ii, gEq_ss, gNe_ss, gEq_bb, gNe_bb, gSl_l, gSl_t, gSl_s, gIsN_n, gNotN_n, gIsN_b, gIsN_i, gIsN_s, gIsN_l, gIsN_t, gIsN_d, ne_eq, not_true_eq_false, not_false_eq_true, gAppend_1, gExtend_l, gExtend_t, gRev_l, gRev_t, qRevA, RV.toD, seqOf_l, seqOf_t, itemsOf_l, itemsOf_t, itemsOf_s, gSortD_s, gIsB_bb, gNotB_bb, qNeg, qVM, fVM, fSortK, gJoin_s, gAll_b, gAny_b, gPopAt_1, isi_str, isi_int, isi_bool, isi_list, isi_tuple, isi_none, dSub, gDiv, gMod, gPow, gCmp,
  Bool.not_true, Bool.not_false, if_true, if_false, ite_true, ite_false, reduceIte, decide_eq_true_eq, beq_iff_eq, Bool.not_eq_true', beq_eq_false_iff_ne, Bool.false_eq_true, Nat.reduceLT, Nat.reduceAdd, Nat.reduceLeDiff, Nat.lt_add_one, Nat.zero_lt_succ, Nat.not_lt_zero])
namespace Sw
def sp_law_wholes : PSp := fun fl ds Q => fl = none ∧ ∃ xs : List Int, ds = [.list (xs.map .int)] ∧ NumG xs ∧ xs.length ≤ 50 ∧ 1 ≤ xs.length ∧ Q (.fr ((wholesL (spP xs xs.length)).map keyP)) none
/-! law_wholes level 2 fresh -/
abbrev N_law_wholes : List Str := ["_law_numbers_here", "_law_spans", "_law_s", "_law_e", "_law_found", "_law_m"]
def T_law_wholes : PS' := (sSeq (sAsgD 1 true)
  (sSeq (sFor (iRg1 (qCB gLen (qCons (qVar 0) qNil))) (gN 2) (sFor (iRg2 (qOp gAdd (qVar 2) (qC (.int 1))) (qCB gLen (qCons (qVar 0) qNil))) (gN 3) (sIf (qTest (qCall sp_law_is_span (qAddD (qCons (qVar 0) (qCons (qVar 2) (qCons (qVar 3) qNil))) []))) (sPutD 1 (qC (.bool true)) (qTup (qCons (qVar 2) (qCons (qVar 3) qNil)))) sNil)))
  (sSeq (sAsgF 4 (fLst (qNil)))
  (sSeq (sFrzD 1 (sFor (iKeysD (qVar 1)) (gT 2 (gsC (gN 2) (gsC (gN 3) gsN))) (sIf (tNot' (qTest (qCB gAny (qCons (qF (fLc (iRg2 (qOp gAdd (qVar 2) (qC (.int 1))) (qVar 3)) (gN 5) tYes' (qAnd (qDIn false (qTup (qCons (qVar 2) (qCons (qVar 5) qNil))) (qVar 1)) (qDIn false (qTup (qCons (qVar 5) (qCons (qVar 3) qNil))) (qVar 1))) [5])) qNil)))) (sDrop (qMO 4 gAppend (qCons (qTup (qCons (qVar 2) (qCons (qVar 3) qNil))) qNil))) sNil)))
  (sRetS 4)))))
theorem pure_law_wholes (fl : Option (List D)) (ds : List D) (Q : RV → Option (List D) → Prop) (_ : false = true ↔ fl ≠ none) (h : sp_law_wholes fl ds Q) : T_law_wholes (endsOf false Q) (startE false N_law_wholes fl ds) := by
  obtain ⟨rfl, xs, rfl, hg, hl, hl1, k⟩ := h
  show T_law_wholes _ [SV.dat (.list (xs.map .int)), SV.un, SV.un, SV.un, SV.un, SV.un]
  unfold T_law_wholes
  refine sSeq_abs fun R hR => ?_
  walk_at "wy"
  subst hR
  refine cut_seq (fun env => ∃ y2 y3, env = [SV.dat (.list (xs.map .int)), SV.dic true (kdsP (spP xs xs.length)), y2, y3, SV.un, SV.un]) ?_ fun nx hnx => ?_
  · rintro env ⟨y2, y3, rfl⟩
    have hpw := spP_pw xs xs.length
    have hlen := spP_len hl xs.length
    have hmem : ∀ p ∈ spP xs xs.length, p.1 < p.2 ∧ p.2 ≤ 50 := fun p hp => by
      obtain ⟨_, h2, h3, _⟩ := mem_spP.mp hp
      omega
    generalize spP xs xs.length = L at hpw hlen hmem k ⊢
    refine sSeq_abs fun R hR => ?_
    walk_at "wy"
    refine ⟨sizeL (by decide), ?_⟩
    subst hR
    refine cut_seq (fun env => ∃ y2 y3, env = [SV.dat (.list (xs.map .int)), SV.dat (.dict (kdsP L)), y2, y3, SV.own false ((wholesL L).map keyP), SV.un]) ?_ fun nx hnx => ?_
    · rintro env ⟨y2, y3, rfl⟩
      walk_at "wy"
      exact k
    · walk_at "wy"
      rw [kdsP_fst]
      refine pFor_inv (fun i env => ∃ y2 y3, env = [SV.dat (.list (xs.map .int)), SV.dat (.dict (kdsP L)), y2, y3, SV.own false (((L.take i).filter fun p => !partB L p).map keyP), SV.un]) ⟨_, _, rfl⟩ ?_ ?_
      · rintro i d hd env ⟨y2, y3, rfl⟩ K hK
        rw [List.getElem?_map] at hd
        cases hq : L[i]? with
        | none => rw [hq] at hd; cases hd
        | some p =>
          rw [hq] at hd
          cases hd
          have hp := List.mem_of_getElem? hq
          have ht : L.take (i + 1) = L.take i ++ [p] := by rw [List.take_add_one, hq]; rfl
          have hi : i < L.length := (List.getElem?_eq_some_iff.mp hq).1
          have hsz : (((L.take i).filter fun p => !partB L p).map keyP).length < sizeLine := by
            rw [List.length_map, sizeLine_eq]
            have := List.length_filter_le (fun p => !partB L p) (L.take i)
            rw [List.length_take] at this
            omega
          have hpp := hmem p hp
          show gT 2 _ (.tuple [.int (p.1 : Nat), .int (p.2 : Nat)]) _ _
          walk_at "wy"
          refine ⟨by omega, ?_⟩
          rw [show ((p.2 : Int) - ((p.1 : Int) + 1)).toNat = p.2 - (p.1 + 1) by omega]
          refine ⟨by rw [rgD_len]; omega, ?_⟩
          have e : rgD ((p.1 : Int) + 1) (p.2 - (p.1 + 1)) = (List.range (p.2 - (p.1 + 1))).map fun (d : Nat) => PyData.int ((p.1 : Int) + 1 + (d : Int)) := rfl
          rw [e]
          refine map_comp (f := fun (d : Nat) => .bool (decide ((p.1, p.1 + 1 + d) ∈ L) && decide ((p.1 + 1 + d, p.2) ∈ L))) (fun d hd K hK => ?_) ?_
          · rw [show ((p.1 : Int) + 1 + (d : Int)) = ((p.1 + 1 + d : Nat) : Int) by omega]
            walk_at "wy"
            have l1 := look_kdsP L (p.1, p.1 + 1 + d)
            have l2 := look_kdsP L (p.1 + 1 + d, p.2)
            unfold keyP at l1 l2
            simp only at l1 l2
            rw [l1, l2]
            refine ⟨sizeL (by decide), keyO_L hp (p.1, p.1 + 1 + d), ?_⟩
            split
            · rename_i h
              refine ⟨sizeL (by decide), keyO_L hp (p.1 + 1 + d, p.2), ?_⟩
              rw [h, Bool.true_and] at hK
              exact hK
            · rename_i h
              rw [Bool.not_eq_true] at h
              rw [h, Bool.false_and] at hK
              exact hK
          · have e2 : ((List.range (p.2 - (p.1 + 1))).map fun (d : Nat) => PyData.bool (decide ((p.1, p.1 + 1 + d) ∈ L) && decide ((p.1 + 1 + d, p.2) ∈ L))) = ((List.range (p.2 - (p.1 + 1))).map fun (d : Nat) => (decide ((p.1, p.1 + 1 + d) ∈ L) && decide ((p.1 + 1 + d, p.2) ∈ L))).map PyData.bool := by
              rw [List.map_map]
              rfl
            rw [e2]
            walk_at "wy"
            have e3 : (((List.range (p.2 - (p.1 + 1))).map fun (d : Nat) => (decide ((p.1, p.1 + 1 + d) ∈ L) && decide ((p.1 + 1 + d, p.2) ∈ L))).any id) = partB L p := by
              rw [List.any_map]
              rfl
            rw [e3]
            cases hb : partB L p with
            | true =>
              try simp only [Bool.not_true, Bool.false_eq_true, if_false]
              exact hK _ ⟨_, _, by rw [ht, List.filter_append]; simp [hb]; exact ⟨rfl, rfl⟩⟩
            | false =>
              try simp only [Bool.not_false, if_true]
              refine ⟨sizeL (by decide), hsz, hK _ ⟨_, _, by rw [ht, List.filter_append]; simp [hb]; exact ⟨rfl, rfl, rfl⟩⟩⟩
      · rintro env ⟨y2, y3, rfl⟩
        rw [List.length_map, List.take_length]
        exact hnx _ ⟨_, _, rfl⟩
  · refine sForY_abs fun B hB => ?_
    walk_at "wy"
    rw [List.length_map]
    refine ⟨by omega, ?_⟩
    rw [Int.toNat_natCast]
    refine pFor_inv (fun i env => ∃ y2 y3, env = [SV.dat (.list (xs.map .int)), SV.dic true (kdsP (spP xs i)), y2, y3, SV.un, SV.un]) ⟨_, _, rfl⟩ ?_ ?_
    · rintro s dd hdd env ⟨y2, y3, rfl⟩ K hK
      obtain ⟨hi, rfl⟩ := rgD_get hdd
      subst hB
      rw [show (0 + (s : Int)) = ((s : Nat) : Int) by omega]
      refine ⟨by simp, ?_⟩
      refine sForY_abs fun B hB => ?_
      walk_at "wy"
      refine ⟨by rw [List.length_map]; omega, ?_⟩
      rw [show (((xs.map PyData.int).length : Nat) - ((s : Int) + 1)).toNat = xs.length - (s + 1) by rw [List.length_map]; omega]
      refine pFor_inv (fun j env => ∃ y3, env = [SV.dat (.list (xs.map .int)), SV.dic true (kdsP (spP xs s ++ rowP xs s j)), SV.dat (.int (s : Nat)), y3, SV.un, SV.un]) ⟨_, by rw [rowP_zero, List.append_nil]⟩ ?_ ?_
      · rintro j dd hdd env ⟨y3, rfl⟩ K hK
        obtain ⟨hj, rfl⟩ := rgD_get hdd
        subst hB
        rw [show ((s : Int) + 1 + (j : Int)) = ((s + 1 + j : Nat) : Int) by omega]
        walk_at "wy"
        refine ⟨rfl, xs, s, s + 1 + j, rfl, hg, by omega, by omega, hl, ?_⟩
        walk_at "wy"
        have hlen : (kdsP (spP xs s ++ rowP xs s j)).length < sizeLine := by
          unfold kdsP
          rw [List.length_map, List.length_append, sizeLine_eq]
          have h1 := spP_len hl s
          have h2 : (rowP xs s j).length ≤ j := by
            unfold rowP
            rw [List.length_map]
            have := List.length_filter_le (fun d => decide (spanP xs s (s + 1 + d))) (List.range j)
            rw [List.length_range] at this
            exact this
          have h3 : s * 50 ≤ 50 * 50 := Nat.mul_le_mul_right 50 (by omega)
          omega
        split
        · rename_i hs
          refine ⟨sizeL (by decide), keyT_keyP (s, s + 1 + j), hlen, ?_⟩
          have hnew : (s, s + 1 + j) ∉ spP xs s ++ rowP xs s j := fun z => by
            rcases List.mem_append.mp z with z | z
            · have := (mem_spP.mp z).1
              simp only at this
              omega
            · have := (mem_rowP.mp z).2.2.1
              simp only at this
              omega
          have hput := put_kdsP hnew
          unfold keyP at hput
          simp only at hput
          rw [hput]
          exact hK _ ⟨_, by rw [rowP_succ, if_pos hs, List.append_assoc]⟩
        · rename_i hs
          exact hK _ ⟨_, by rw [rowP_succ, if_neg hs]⟩
      · rintro env ⟨y3, rfl⟩
        rw [rgD_len, ← spP_succ]
        exact hK _ ⟨_, _, rfl⟩
    · rintro env ⟨y2, y3, rfl⟩
      rw [rgD_len]
      exact hnx _ ⟨_, _, rfl⟩

end Sw

open PySem PySem.Spec L2 Sw
local macro_rules | `(tactic| walk_at "wy") => `(tactic| simp only [sSetAll, fListRg1, fListRg2, iRevL, iRg2, gReverse_0, gAbs_1, qLenS, qIxS, fCallS, fCallR, sSeq, sIf, sNil, sPass, sBreak, sCont, sRet, sRetF, sRetS, sDrop, sAsg, sAsgF, sSetIx, sAsgG, sFor, sRaise, sAsgD, sPutD, sFrzD, qDIn, qDGet, qDGetO, iKeysD, OV.dic, ex_pr, ex_pr0, ex_dic, ex_dic0, ex_kds, keyO_some, gListDic_1, gClear_0, qDisp1, qChain, qRest, tAnd', tOr', tNot', qTest, qAnd, qOr, qNot, qOp, qVar, qC, qF, qSl, qPn, qPs, qTup, fLst, qCB, fCB, qIsi, qJoin, fOp, qCons, qNil, qMO, qMO0, qAddD, qCall, qCallL, fCall, fCallL, qCallV, ex_dt, ex_fr, ex_frL, atom_b, atom_i, atom_s, atom_n, ex_tupv, ex_consv, eq_self, fLc, fLcR, restE, NoOwn, nob_d, nob_u, List.getD_cons_zero, List.getD_cons_succ, wipeE, iAny, iRg1, iRg2, iEnu, gN, gT, gsC, gsN, tYes', endsOf, LentE,
  svD, Ct.toD, OV.rd, OV.fz, rdAll, fzAll, bindS, mapS, ex_some, ex_fz, ex_fzs, ex_own, ex_own0, ex_ownF, ex_bool, ex_int, ex_lst, ex_strv, ex_svd, ex_svo, ex_if, ex_ifb, ex_som0, ex_fl, ex_flN, ex_ifp, true_and, and_true,
  List.getElem?_cons_zero, List.getElem?_cons_succ, List.set_cons_zero, List.set_cons_succ, List.length_cons, List.length_nil, List.append_nil, List.nil_append, List.cons_append, List.map_nil, List.map_cons, List.length_set,
  atI_lit, ixN_lit, gI_ii, gAdd_ii, gAdd_ss, gAdd_ll, gAdd_tt, gMul_ii, gMul_si, gLt_ii, gLt_ss, gIx_li, gIx_ti, gIx_si, gLen_l, gLen_t, gLen_s, gListF_l, gListF_t, gTuple_l, gTuple_t, gCatF_ll, gEq_ii, gNe_ii, gEq_ss, gNe_ss, gEq_bb, gNe_bb, gSl_l, gSl_t, gSl_s, gIsN_n, gNotN_n, gIsN_b, gIsN_i, gIsN_s, gIsN_l, gIsN_t, gIsN_d, ne_eq, not_true_eq_false, not_false_eq_true, gAppend_1, gExtend_l, gExtend_t, gRev_l, gRev_t, qRevA, RV.toD, seqOf_l, seqOf_t, itemsOf_l, itemsOf_t, itemsOf_s, gSortD_s, gIsB_bb, gNotB_bb, qNeg, qVM, fVM, fSortK, gJoin_s, gAll_b, gAny_b, gPopAt_1, isi_str, isi_int, isi_bool, isi_list, isi_tuple, isi_none, dSub, gDiv, gMod, gPow, gCmp,
  Bool.not_true, Bool.not_false, if_true, if_false, ite_true, ite_false, reduceIte, decide_eq_true_eq, beq_iff_eq, Bool.not_eq_true', beq_eq_false_iff_ne, Bool.false_eq_true, Nat.reduceLT, Nat.reduceAdd, Nat.reduceLeDiff, Nat.lt_add_one, Nat.zero_lt_succ, Nat.not_lt_zero])
namespace Sw
/-! ### whole spans of the numbers in order -/
def idsI (n : Nat) : List Int := (List.range n).map fun (i : Nat) => ((i : Nat) : Int)
theorem ids_get {n i : Nat} (h : i < n) : (idsI n).getD i 0 = (i : Int) := by
  unfold idsI
  rw [List.getD_eq_getElem?_getD, List.getElem?_map, List.getElem?_range h]
  rfl
theorem ids_len (n : Nat) : (idsI n).length = n := by simp [idsI]
theorem ids_mn {n s : Nat} : ∀ {k : Nat}, s + k < n → mnA (idsI n) s k = s
  | 0, h => by unfold mnA; rw [ids_get (by omega)]; rfl
  | k + 1, h => by
    unfold mnA
    rw [ids_mn (k := k) (by omega), ids_get (by omega), if_neg (by omega)]
theorem ids_mx {n s : Nat} : ∀ {k : Nat}, s + k < n → mxA (idsI n) s k = s + k
  | 0, h => by unfold mxA; rw [ids_get (by omega)]; rfl
  | k + 1, h => by
    unfold mxA
    rw [ids_mx (k := k) (by omega), ids_get (by omega), if_pos (by omega)]
    omega
theorem ids_span {n s e : Nat} (h : s < e) (he : e < n) : spanP (idsI n) s e := by
  unfold spanP
  rw [ids_mn (by omega), ids_mx (by omega), ids_get (by omega), ids_get he]
  refine ⟨by omega, .inl ⟨rfl, by omega⟩⟩
theorem mem_ids {n : Nat} {p : Nat × Nat} : p ∈ spP (idsI n) n ↔ p.1 < p.2 ∧ p.2 < n := by
  rw [mem_spP, ids_len]
  exact ⟨fun h => ⟨h.2.1, h.2.2.1⟩, fun h => ⟨by omega, h.1, h.2, ids_span h.1 h.2⟩⟩
theorem ids_part {n : Nat} {p : Nat × Nat} (h : p.1 < p.2) (he : p.2 < n) : partB (spP (idsI n) n) p = decide (p.1 + 1 < p.2) := by
  by_cases q : p.1 + 1 < p.2
  · rw [decide_eq_true q]
    unfold partB
    refine List.any_eq_true.mpr ⟨0, List.mem_range.mpr (by omega), ?_⟩
    have m1 : (p.1, p.1 + 1 + 0) ∈ spP (idsI n) n := mem_ids.mpr ⟨by show p.1 < p.1 + 1 + 0; omega, by show p.1 + 1 + 0 < n; omega⟩
    have m2 : (p.1 + 1 + 0, p.2) ∈ spP (idsI n) n := mem_ids.mpr ⟨by show p.1 + 1 + 0 < p.2; omega, he⟩
    rw [decide_eq_true m1, decide_eq_true m2]
    rfl
  · rw [decide_eq_false q]
    unfold partB
    rw [show p.2 - (p.1 + 1) = 0 by omega]
    rfl
theorem ids_whole (n : Nat) : wholesL (spP (idsI n) (idsI n).length) = (List.range (n - 1)).map fun k => (k, k + 1) := by
  rw [ids_len]
  have pw1 : (wholesL (spP (idsI n) n)).Pairwise ahead := (spP_pw _ _).filter _
  have pw2 : ((List.range (n - 1)).map fun k => (k, k + 1)).Pairwise ahead := List.pairwise_map.mpr (List.pairwise_lt_range.imp fun {a b} h => .inl h)
  have nd : ∀ {l : List (Nat × Nat)}, l.Pairwise ahead → l.Nodup := fun h => h.imp fun {a b} q e => by
    subst e
    rcases q with q | q <;> omega
  refine perm_eq_mem (r := ahead) (fun a _ b _ h1 h2 => ?_) ((List.perm_ext_iff_of_nodup (nd pw1) (nd pw2)).mpr fun p => ?_) pw1 pw2
  · rcases h1 with h1 | h1 <;> rcases h2 with h2 | h2 <;> omega
  · unfold wholesL
    rw [List.mem_filter, mem_ids, List.mem_map]
    constructor
    · rintro ⟨⟨h1, h2⟩, h3⟩
      rw [ids_part h1 h2] at h3
      have : ¬ p.1 + 1 < p.2 := by simpa using h3
      exact ⟨p.1, List.mem_range.mpr (by omega), by rw [show p.1 + 1 = p.2 by omega]⟩
    · rintro ⟨k, hk, rfl⟩
      have := List.mem_range.mp hk
      refine ⟨⟨by simp only; omega, by simp only; omega⟩, ?_⟩
      rw [ids_part (by simp only; omega) (by simp only; omega)]
      simp
theorem bare_keys (ps : List (Nat × Nat)) : bareL (ps.map keyP) = true := by
  induction ps with
  | nil => rfl
  | cons p r ih =>
    show (bareD (keyP p) && bareL (r.map keyP)) = true
    rw [ih]
    rfl
theorem hn_keys (n : Nat) (ps : List (Nat × Nat)) : Hn (n + 2) (.list (ps.map keyP)) := fun d hd => by
  obtain ⟨p, _, rfl⟩ := List.mem_map.mp hd
  exact hn_keyP n p
theorem hn_ints (n : Nat) (xs : List Int) : Hn (n + 1) (.list (xs.map .int)) := fun d hd => by
  obtain ⟨p, _, rfl⟩ := List.mem_map.mp hd
  cases n <;> exact True.intro
def sp_law_right_3 : PSp := fun fl ds Q => fl = none ∧ ∃ xs : List Int, ds = [.list (xs.map .int)] ∧ NumG xs ∧ xs.length ≤ 50 ∧ 1 ≤ xs.length ∧ Q (.dt (.bool true)) none
/-! law_right_3 level 3 -/
abbrev N_law_right_3 : List Str := ["_law_numbers_here", "_law_handed", "_law_due", "_law_found", "_law_span", "_law_k"]
def T_law_right_3 : PS' := (sSeq (sAsgF 1 (fCB gListF (qCons (qVar 0) qNil)))
  (sSeq (sAsg 2 (qCall sp_law_wholes (qAddD (qCons (qVar 0) qNil) [])))
  (sSeq (sAsgF 3 (fCallR sp_whole_spans (qAddD (qCons (qVar 1) qNil) [])))
  (sSeq (sIf (tOr' (tNot' (qTest (qIsi .list (qVar 3)))) (tOr' (qTest (qOp (gEq true) (qVar 3) (qVar 2))) (qTest (qOp (gEq true) (qVar 1) (qVar 0))))) (sRet (qC (.bool false))) sNil)
  (sSeq (sForO 3 (gN 4) (sIf (tOr' (tNot' (qTest (qIsi .tuple (qVar 4)))) (tNot' (qTest (qCB gAll (qCons (qF (fLc (iAny (qVar 4)) (gN 5) tYes' (qAnd (qIsi .int (qVar 5)) (qNot (qIsi .bool (qVar 5)))) [5])) qNil))))) (sRet (qC (.bool false))) sNil))
  (sSeq (sDrop (qMO0 3 gReverse))
  (sSeq (sDrop (qMO 3 gAppend (qCons (qC (.int 0)) qNil)))
  (sSeq (sIf (qTest (qOp (gEq true) (qF (fCallR sp_whole_spans (qAddD (qCons (qVar 1) qNil) []))) (qVar 2))) (sRet (qC (.bool false))) sNil)
  (sSeq (sSetAll 1 (fListRg1 (qCB gLen (qCons (qVar 0) qNil))))
  (sRet (qOp (gEq false) (qF (fCallR sp_whole_spans (qAddD (qCons (qVar 1) qNil) []))) (qF (fLc (iRg1 (qOp (gI dSub) (qCB gLen (qCons (qVar 0) qNil)) (qC (.int 1)))) (gN 5) tYes' (qTup (qCons (qVar 5) (qCons (qOp gAdd (qVar 5) (qC (.int 1))) qNil))) [5])))))))))))))
theorem pure_law_right_3 (fl : Option (List D)) (ds : List D) (Q : RV → Option (List D) → Prop) (_ : false = true ↔ fl ≠ none) (h : sp_law_right_3 fl ds Q) : T_law_right_3 (endsOf false Q) (startE false N_law_right_3 fl ds) := by
  obtain ⟨rfl, xs, rfl, hg, hl, hl1, k⟩ := h
  show T_law_right_3 _ [SV.dat (.list (xs.map .int)), SV.un, SV.un, SV.un, SV.un, SV.un]
  unfold T_law_right_3
  have hWl : (wholesL (spP xs xs.length)).length ≤ 2500 := by
    have h1 := spP_len hl xs.length
    have h2 := List.length_filter_le (fun p => !partB (spP xs xs.length) p) (spP xs xs.length)
    have h3 : xs.length * 50 ≤ 50 * 50 := Nat.mul_le_mul_right 50 hl
    unfold wholesL
    omega
  refine sSeq_abs fun R hR => ?_
  walk_at "wy"
  subst hR
  refine sSeq_abs fun R hR => ?_
  walk_at "wy"
  refine ⟨rfl, xs, rfl, hg, hl, hl1, ?_⟩
  walk_at "wy"
  subst hR
  refine sSeq_abs fun R hR => ?_
  walk_at "wy"
  refine ⟨rfl, xs, rfl, hl, hl1, ?_⟩
  walk_at "wy"
  refine ⟨bare_keys _, ?_⟩
  subst hR
  generalize hW : wholesL (spP xs xs.length) = W at hWl ⊢
  refine sSeq_abs fun R hR => ?_
  walk_at "wy"
  rw [if_neg (by decide)]
  have ne_same : ∀ {n : Nat} {a : D} {P : D → Prop}, Hn n a → n ≤ 39 → P (.bool false) → ∃ d, gEq true a a = some d ∧ P d := fun ha hn hp => ne_hn ha ha hn (fun _ => hp) (fun z => absurd rfl z)
  refine ne_same (hn_keys 0 W) (by omega) ⟨_, rfl, ?_⟩
  rw [if_neg (by decide)]
  refine ne_same (hn_ints 0 xs) (by omega) ⟨_, rfl, ?_⟩
  rw [if_neg (by decide)]
  subst hR
  refine cut_seq (fun env => ∃ y4, env = [SV.dat (.list (xs.map .int)), SV.own false (xs.map .int), SV.dat (.list (W.map keyP)), SV.own false (W.map keyP), y4, SV.un]) ?_ fun nx hnx => ?_
  · rintro env ⟨y4, rfl⟩
    refine sSeq_abs fun R hR => ?_
    walk_at "wy"
    subst hR
    refine sSeq_abs fun R hR => ?_
    walk_at "wy"
    refine ⟨by rw [List.length_reverse, List.length_map, sizeLine_eq]; omega, ?_⟩
    subst hR
    refine sSeq_abs fun R hR => ?_
    walk_at "wy"
    refine ⟨rfl, xs, rfl, hl, hl1, ?_⟩
    walk_at "wy"
    refine ⟨bare_keys _, ?_⟩
    rw [hW]
    refine ne_same (hn_keys 0 W) (by omega) ⟨_, rfl, ?_⟩
    rw [if_neg (by decide)]
    subst hR
    refine sSeq_abs fun R hR => ?_
    walk_at "wy"
    rw [List.length_map]
    have hrg : rgD 0 ((xs.length : Int)).toNat = (idsI xs.length).map PyData.int := by
      rw [Int.toNat_natCast]
      unfold rgD idsI
      rw [List.map_map]
      refine List.map_congr_left fun i _ => ?_
      show PyData.int _ = PyData.int _
      rw [Int.zero_add]
    rw [hrg]
    refine ⟨RgOk.of_le (by omega) (by omega) (by omega) (by omega), by rw [List.length_map, ids_len, sizeLine_eq]; omega, ?_⟩
    subst hR
    walk_at "wy"
    refine ⟨rfl, idsI xs.length, rfl, by rw [ids_len]; omega, by rw [ids_len]; omega, ?_⟩
    walk_at "wy"
    refine ⟨bare_keys _, ?_⟩
    rw [ids_whole]
    rw [List.length_map, show ((xs.length : Int) - 1).toNat = xs.length - 1 by omega]
    refine ⟨by omega, by rw [rgD_len]; omega, ?_⟩
    have e3 : rgD 0 (xs.length - 1) = (List.range (xs.length - 1)).map fun (i : Nat) => PyData.int (0 + (i : Int)) := rfl
    rw [e3]
    refine map_comp (f := fun (i : Nat) => keyP (i, i + 1)) (fun i hi K hK => ?_) ?_
    · rw [Int.zero_add]
      walk_at "wy"
      exact ⟨sizeL (by decide), hK⟩
    · have e4 : (List.map keyP (List.map (fun k => (k, k + 1)) (List.range (xs.length - 1)))) = (List.range (xs.length - 1)).map fun (i : Nat) => keyP (i, i + 1) := by
        rw [List.map_map]
        rfl
      rw [e4]
      have hh := hn_keys 0 (List.map (fun k => (k, k + 1)) (List.range (xs.length - 1)))
      rw [e4] at hh
      exact eq_hn hh hh (by omega) (fun _ => k) (fun z => absurd rfl z)
  · refine ⟨_, rfl, ?_⟩
    simp only [List.set_cons_succ, List.set_cons_zero]
    refine pFor_inv (fun i env => ∃ y4, env = [SV.dat (.list (xs.map .int)), SV.own false (xs.map .int), SV.dat (.list (W.map keyP)), SV.own true (W.map keyP), y4, SV.un]) ⟨_, rfl⟩ ?_ ?_
    · rintro i d hd env ⟨y4, rfl⟩ K hK
      rw [List.getElem?_map] at hd
      cases hq : W[i]? with
      | none => rw [hq] at hd; cases hd
      | some p =>
        rw [hq] at hd
        cases hd
        refine ⟨rfl, ?_⟩
        unfold keyP
        walk_at "wy"
        rw [if_neg (by decide)]
        have e2 : [PyData.int (p.1 : Nat), PyData.int (p.2 : Nat)] = ([p.1, p.2] : List Nat).map fun (n : Nat) => PyData.int (n : Int) := rfl
        rw [e2]
        refine map_comp (f := fun _ => .bool true) (fun n hn K' hK' => ?_) ?_
        · walk_at "wy"
          exact hK'
        · refine ⟨.bool true, rfl, true, rfl, ?_⟩
          rw [if_neg (by decide)]
          exact hK _ ⟨_, rfl⟩
    · rintro env ⟨y4, rfl⟩
      refine ⟨rfl, ?_⟩
      exact hnx _ ⟨y4, rfl⟩

/-! law_41 level 4 -/
abbrev N_law_41 : List Str := ["_law_script", "_law_k", "_law_deal_here"]
def T_law_41 (aS : Addr) (nS : List Int) : PS' := (sSeq (sFor (iRg1 (qC (.int 3))) (gN 1) (sSeq (sAsgF 2 (fCallS aS nS sp_law_deal 0 (qCons (qVar 1) qNil)))
  (sIf (tNot' (qTest (qCall sp_law_right_3 (qAddD (qCons (qCallL sp_law_numbers 2 (qAddD (qCons (qOp gIx (qF (fLst (qCons (qOp gIx (qF (fLst (qCons (qC (.int 16)) (qCons (qC (.int 16)) (qCons (qC (.int 16)) (qCons (qC (.int 40)) qNil)))))) (qCallL sp_law_draw 2 (qAddD (qCons (qC (.int 4)) qNil) []))) (qCons (qC (.int 9)) (qCons (qC (.int 5)) qNil))))) (qVar 1)) qNil) [])) qNil) [])))) (sRet (qC (.bool false))) sNil)))
  (sRet (qC (.bool true))))
theorem pure_law_41 (a : Addr) (ns : List Int) (_ : ns.length ≤ 63) : T_law_41 a ns (endsOf false fun rv _ => rv = .dt (.bool true)) (SV.raw (.ref a) :: List.replicate (N_law_41.length - 1) SV.un) := by
  show T_law_41 a ns _ [SV.raw (.ref a), SV.un, SV.un]
  unfold T_law_41
  refine cut_seq (fun env => True) ?_ fun nx hnx => ?_
  · rintro env _
    walk_at "wy"
  · refine sForY_abs fun B hB => ?_
    walk_at "wy"
    refine ⟨by decide, ?_⟩
    refine pFor_inv (fun i env => ∃ y1 y2, env = [SV.raw (.ref a), y1, y2]) ⟨_, _, rfl⟩ ?_ (fun env _ => hnx env trivial)
    rintro i dd hdd env ⟨y1, y2, rfl⟩ K hK
    obtain ⟨hi, rfl⟩ := rgD_get hdd
    subst hB
    walk_at "wy"
    refine ⟨0 + (i : Int), rfl, by omega, by omega, fun fd hf => ⟨fd, rfl, sizeL (by decide), ?_⟩⟩
    refine ⟨fd, 4, rfl, hf, rfl, by omega, by omega, fun q fd2 q0 q1 hf2 => ⟨fd2, rfl, ?_⟩⟩
    have main : ∀ m : Int, 1 ≤ m → m ≤ 40 → sp_law_numbers (some fd2) [.int m] fun rv fl => ∃ fd', fl = some fd' ∧ sp_law_right_3 none [match rv with | RV.dt x => x | RV.fr ds => PyData.list ds] fun rv x => ∃ b, some (match rv with | RV.dt x => x | RV.fr ds => PyData.list ds) = some (PyData.bool b) ∧ if b = false then RV.dt (PyData.bool false) = RV.dt (PyData.bool true) else K [SV.raw (V.ref a), SV.dat (PyData.int (0 + ↑i)), SV.own false fd'] := fun m m0 m1 => by
      refine ⟨fd2, m, rfl, hf2, rfl, m0, m1, fun xs fd3 hx hx2 hxl hf3 => ⟨fd3, rfl, rfl, xs, rfl, hx, by omega, by omega, true, rfl, ?_⟩⟩
      rw [if_neg (by decide)]
      exact hK _ ⟨_, _, rfl⟩
    obtain ⟨w, w0, w1, ew⟩ : ∃ w : Int, 1 ≤ w ∧ w ≤ 40 ∧ gIx (PyData.list [PyData.int 16, PyData.int 16, PyData.int 16, PyData.int 40]) (.int q) = some (.int w) := by
      rcases (by omega : q = 0 ∨ q = 1 ∨ q = 2 ∨ q = 3) with rfl | rfl | rfl | rfl
      · exact ⟨16, by omega, by omega, rfl⟩
      · exact ⟨16, by omega, by omega, rfl⟩
      · exact ⟨16, by omega, by omega, rfl⟩
      · exact ⟨40, by omega, by omega, rfl⟩
    refine ⟨.int w, ew, sizeL (by decide), ?_⟩
    have hi3 : i < 3 := hi
    rcases (by omega : i = 0 ∨ i = 1 ∨ i = 2) with rfl | rfl | rfl
    · exact ⟨.int w, rfl, main w w0 w1⟩
    · exact ⟨.int 9, rfl, main 9 (by omega) (by omega)⟩
    · exact ⟨.int 5, rfl, main 5 (by omega) (by omega)⟩

end Sw

set_option Elab.async false
set_option linter.all false
set_option maxRecDepth 100000
set_option maxHeartbeats 0
namespace SwLaw
open PySem PySem.Spec PyProof.Rows L2 Sw
def topS (i : Nat) : Stmt := PySem.Challenge.pw_strandwright_k41_whole_spans.main.body.getD i (.Pass ⟨0, 0, 0, 0⟩)
abbrev s_spans_in : Stmt := topS 1
abbrev s_is_parted : Stmt := topS 2
abbrev s_whole_spans : Stmt := topS 3
abbrev s_law_deal : Stmt := topS 5
abbrev s_law_draw : Stmt := topS 6
abbrev s_law_farther : Stmt := topS 7
abbrev s_law_put_in : Stmt := topS 8
abbrev s_law_block : Stmt := topS 9
abbrev s_law_numbers : Stmt := topS 10
abbrev s_law_is_span : Stmt := topS 11
abbrev s_law_wholes : Stmt := topS 12
abbrev s_law_right_3 : Stmt := topS 13
abbrev s_law_41 : Stmt := topS 14
section
variable {P : Program} {w : World} {K : PySem.W.Frag} {mg : Str → Option Value} {base : Heap} {f : Addr} {fd : FuncData}
abbrev M_spans_in : List Str := ["numbers", "found", "s", "low", "high", "e", "ends"]
theorem sc_spans_in : FnScope M_spans_in ["numbers"] (defScope s_spans_in) := ⟨rfl, rfl, rfl, by decide +kernel, rfl, by decide +kernel, by decide +kernel⟩
theorem len_spans_in : ∀ fl ds Q, sp_spans_in fl ds Q → ds.length + (if false = true then 1 else 0) = 1 := by
  intro fl ds Q h
  unfold sp_spans_in at h
  grind
theorem ok_spans_in (bt : Bt mg) (F : FunD K "spans_in" "spans_in" (defArgs s_spans_in) (defBody s_spans_in) (defScope s_spans_in) [] [] f fd) : FnOk P w K mg base CX0 1 f fd ["numbers"] (spOf ⟨K, P, w⟩ false sp_spans_in) :=
  defD_ok false F sc_spans_in len_spans_in (by decide) fun cdv A outer s H E hr => ⟨T_spans_in, (s_cons (s_setDN (i := 1) sc_spans_in.nd rfl (by first | exact Or.inl rfl | exact Or.inr rfl))
    (s_cons (s_for PassesOwn.never rfl (i_rg1 (q_op op_sub l_sub (q_callB l_len call_len (by rfl) (bt "len" (by decide)) (by decide +kernel) (qa_cons (qv 0) qa_nil)) (q_int)) (by rfl) (bt "range" (by decide))) (g_name sc_spans_in.nd rfl (by first | exact Or.inl rfl | exact Or.inr rfl)) (s_cons (s_set (i := 3) sc_spans_in.nd rfl (by first | exact Or.inl rfl | exact Or.inr rfl) (q_callB l_abs call_abs (by rfl) (bt "abs" (by decide)) (by decide +kernel) (qa_cons (q_ix (qv 0) (qv 2)) qa_nil)))
    (s_cons (s_set (i := 4) sc_spans_in.nd rfl (by first | exact Or.inl rfl | exact Or.inr rfl) (qv 3))
    (s_one (s_for PassesOwn.never rfl (i_rg2 (q_op op_addA l_add (qv 2) (q_int)) (q_callB l_len call_len (by rfl) (bt "len" (by decide)) (by decide +kernel) (qa_cons (qv 0) qa_nil)) (by rfl) (bt "range" (by decide))) (g_name sc_spans_in.nd rfl (by first | exact Or.inl rfl | exact Or.inr rfl)) (s_cons (s_set (i := 3) sc_spans_in.nd rfl (by first | exact Or.inl rfl | exact Or.inr rfl) (q_callB l_min (call_min2D rfl hr.units) (by rfl) (bt "min" (by decide)) (by decide +kernel) (qa_cons (qv 3) (qa_cons (q_callB l_abs call_abs (by rfl) (bt "abs" (by decide)) (by decide +kernel) (qa_cons (q_ix (qv 0) (qv 5)) qa_nil)) qa_nil))))
    (s_cons (s_set (i := 4) sc_spans_in.nd rfl (by first | exact Or.inl rfl | exact Or.inr rfl) (q_callB l_max (call_max2D rfl hr.units) (by rfl) (bt "max" (by decide)) (by decide +kernel) (qa_cons (qv 4) (qa_cons (q_callB l_abs call_abs (by rfl) (bt "abs" (by decide)) (by decide +kernel) (qa_cons (q_ix (qv 0) (qv 5)) qa_nil)) qa_nil))))
    (s_cons (s_set (i := 6) sc_spans_in.nd rfl (by first | exact Or.inl rfl | exact Or.inr rfl) (q_tup (qa_cons (q_ix (qv 0) (qv 2)) (qa_cons (q_ix (qv 0) (qv 5)) qa_nil))))
    (s_one (s_if (EW.et (w_and (t_cmp (op_eqP hr.units) l_eq (q_op op_sub l_sub (qv 4) (qv 3)) (q_op op_sub l_sub (qv 5) (qv 2)) (nomark _)) (w_and1 (t_cmp (op_inA hr.units) l_in (qv 6) (q_tup (qa_cons (q_tup (qa_cons (qv 3) (qa_cons (qv 4) qa_nil))) (qa_cons (q_tup (qa_cons (q_op op_sub l_sub (q_int) (qv 4)) (qa_cons (q_op op_sub l_sub (q_int) (qv 3)) qa_nil))) qa_nil))) (by rfl))))) (s_one (s_putD 1 hr.units (q_bl) (q_tup (qa_cons (qv 2) (qa_cons (qv 5) qa_nil))))) s_nil))))))))))
    (s_one (s_frzD 1 (s_ret (qv 1)))))), pure_ren rfl pure_spans_in⟩
theorem cal_spans_in (bt : Bt mg) (hm : mg "spans_in" = some (.ref f)) (F : FunD K "spans_in" "spans_in" (defArgs s_spans_in) (defBody s_spans_in) (defScope s_spans_in) [] [] f fd) : Cal P w K mg base 1 "spans_in" false ["numbers"] [] sp_spans_in := ⟨f, fd, [], [], ok_spans_in bt F, hm, F.kp, F.bindsN (ps := ["numbers"]) fun _ _ _ _ _ _ us hl => match us, hl with | [_], _ => rfl, .nil, consts_nil⟩
abbrev M_is_parted : List Str := ["spans", "span", "s", "e", "m"]
theorem sc_is_parted : FnScope M_is_parted ["spans", "span"] (defScope s_is_parted) := ⟨rfl, rfl, rfl, by decide +kernel, rfl, by decide +kernel, by decide +kernel⟩
theorem len_is_parted : ∀ fl ds Q, sp_is_parted fl ds Q → ds.length + (if false = true then 1 else 0) = 2 := by
  intro fl ds Q h
  unfold sp_is_parted at h
  grind
theorem ok_is_parted (bt : Bt mg) (F : FunD K "is_parted" "is_parted" (defArgs s_is_parted) (defBody s_is_parted) (defScope s_is_parted) [] [] f fd) : FnOk P w K mg base CX0 1 f fd ["spans", "span"] (spOf ⟨K, P, w⟩ false sp_is_parted) :=
  defD_ok false F sc_is_parted len_is_parted (by decide) fun cdv A outer s H E hr => ⟨T_is_parted, (s_cons (s_asg (qv 1) (g_tup rfl (gs_cons (g_name sc_is_parted.nd rfl (by first | exact Or.inl rfl | exact Or.inr rfl)) (gs_cons (g_name sc_is_parted.nd rfl (by first | exact Or.inl rfl | exact Or.inr rfl)) gs_nil))))
    (s_one (s_ret (q_callB l_any (cr_any rfl) (by rfl) (bt "any" (by decide)) (by decide +kernel) (qa_cons (EF.ev (f_lc (own := [("m", 4)]) (S := [4]) rfl sc_is_parted.nd (blkOk_by (N := M_is_parted) (sc := defScope s_is_parted) (by decide +kernel)) (i_rg2 (q_op op_addA l_add (qv 2) (q_int)) (qv 3) (by rfl) (bt "range" (by decide))) (fun _ _ _ _ _ => g_name sc_is_parted.nd rfl (by first | exact Or.inl rfl | exact Or.inr rfl)) (fun _ _ _ _ _ => ts_nil) (fun _ _ _ _ _ => q_and (q_din hr.units (q_tup (qa_cons (qv 2) (qa_cons (qv 4) qa_nil))) (qv 0)) (q_one (q_din hr.units (q_tup (qa_cons (qv 4) (qa_cons (qv 3) qa_nil))) (qv 0)))))) qa_nil))))), pure_ren rfl pure_is_parted⟩
theorem cal_is_parted (bt : Bt mg) (hm : mg "is_parted" = some (.ref f)) (F : FunD K "is_parted" "is_parted" (defArgs s_is_parted) (defBody s_is_parted) (defScope s_is_parted) [] [] f fd) : Cal P w K mg base 1 "is_parted" false ["spans", "span"] [] sp_is_parted := ⟨f, fd, [], [], ok_is_parted bt F, hm, F.kp, F.bindsN (ps := ["spans", "span"]) fun _ _ _ _ _ _ us hl => match us, hl with | [_, _], _ => rfl, .nil, consts_nil⟩
abbrev M_whole_spans : List Str := ["numbers", "spans", "span"]
theorem sc_whole_spans : FnScope M_whole_spans ["numbers"] (defScope s_whole_spans) := ⟨rfl, rfl, rfl, by decide +kernel, rfl, by decide +kernel, by decide +kernel⟩
theorem len_whole_spans : ∀ fl ds Q, sp_whole_spans fl ds Q → ds.length + (if false = true then 1 else 0) = 1 := by
  intro fl ds Q h
  unfold sp_whole_spans at h
  grind
theorem ok_whole_spans (bt : Bt mg) (c_spans_in : Cal P w K mg base 1 "spans_in" false ["numbers"] [] sp_spans_in) (c_is_parted : Cal P w K mg base 1 "is_parted" false ["spans", "span"] [] sp_is_parted) (F : FunD K "whole_spans" "whole_spans" (defArgs s_whole_spans) (defBody s_whole_spans) (defScope s_whole_spans) [] [] f fd) : FnOk P w K mg base CX0 2 f fd ["numbers"] (spOf ⟨K, P, w⟩ false sp_whole_spans) :=
  defD_ok false F sc_whole_spans len_whole_spans (by decide) fun cdv A outer s H E hr => ⟨T_whole_spans, (s_cons (s_set (i := 1) sc_whole_spans.nd rfl (by first | exact Or.inl rfl | exact Or.inr rfl) (q_cal c_spans_in hr (by first | decide | exact Nat.le_refl _ | (simp only [Nat.add_eq]; omega)) (by rfl) (qa_cons (qv 0) qa_nil)))
    (s_one (s_retF (f_lc (own := [("span", 2)]) (S := [2]) rfl sc_whole_spans.nd (blkOk_by (N := M_whole_spans) (sc := defScope s_whole_spans) (by decide +kernel)) (i_any (EF.ev (f_callB l_sortDic (cr_sortedDic rfl hr.units) (by rfl) (bt "sorted" (by decide)) (by decide +kernel) (qa_cons (qv 1) qa_nil)))) (fun _ _ _ _ _ => g_name sc_whole_spans.nd rfl (by first | exact Or.inl rfl | exact Or.inr rfl)) (fun _ _ _ _ _ => (ts_one (t_not (t_val (q_cal c_is_parted hr (by first | decide | exact Nat.le_refl _ | (simp only [Nat.add_eq]; omega)) (by rfl) (qa_cons (qv 1) (qa_cons (qv 2) qa_nil))))))) (fun _ _ _ _ _ => qv 2))))), pure_ren rfl pure_whole_spans⟩
theorem cal_whole_spans (bt : Bt mg) (c_spans_in : Cal P w K mg base 1 "spans_in" false ["numbers"] [] sp_spans_in) (c_is_parted : Cal P w K mg base 1 "is_parted" false ["spans", "span"] [] sp_is_parted) (hm : mg "whole_spans" = some (.ref f)) (F : FunD K "whole_spans" "whole_spans" (defArgs s_whole_spans) (defBody s_whole_spans) (defScope s_whole_spans) [] [] f fd) : Cal P w K mg base 2 "whole_spans" false ["numbers"] [] sp_whole_spans := ⟨f, fd, [], [], ok_whole_spans bt c_spans_in c_is_parted F, hm, F.kp, F.bindsN (ps := ["numbers"]) fun _ _ _ _ _ _ us hl => match us, hl with | [_], _ => rfl, .nil, consts_nil⟩
abbrev M_law_deal : List Str := ["_law_script", "_law_at", "_law_cell", "_law_own"]
theorem sc_law_deal : FnScope M_law_deal ["_law_script", "_law_at"] (defScope s_law_deal) := ⟨rfl, rfl, rfl, by decide +kernel, rfl, by decide +kernel, by decide +kernel⟩
theorem len_law_deal : ∀ ns ds Q, sp_law_deal ns ds Q → ds.length + 1 = 2 := by
  intro ns ds Q h
  unfold sp_law_deal at h
  grind
theorem ok_law_deal (bt : Bt mg) (F : FunD K "_law_deal" "_law_deal" (defArgs s_law_deal) (defBody s_law_deal) (defScope s_law_deal) [] [] f fd) : FnOk P w K mg base CX0 1 f fd ["_law_script", "_law_at"] (spS ⟨K, P, w⟩ sp_law_deal) :=
  defS_ok F sc_law_deal len_law_deal (by decide) fun cdv A outer s H E aS nS hr => ⟨T_law_deal aS nS, (s_cons (s_set (i := 2) sc_law_deal.nd rfl (by first | exact Or.inl rfl | exact Or.inr rfl) (q_op op_addA l_add (q_op op_mulA l_mul (q_int) (qv 1)) (q_int)))
    (s_cons (s_if (t_cmp op_ltA l_lt (qv 1) (q_lenS 0 (hg := by rfl) (hm := (bt "len" (by decide))) (hb := by decide +kernel)) (nomark _)) (s_one (s_set (i := 2) sc_law_deal.nd rfl (by first | exact Or.inl rfl | exact Or.inr rfl) (q_ixS 0 (qv 1)))) (s_one (s_if (t_cmp op_gt l_cmp (q_lenS 0 (hg := by rfl) (hm := (bt "len" (by decide))) (hb := by decide +kernel)) (q_int) (nomark _)) (s_one (s_set (i := 2) sc_law_deal.nd rfl (by first | exact Or.inl rfl | exact Or.inr rfl) (q_op op_addA l_add (q_op op_mulA l_mul (q_op op_mod l_mod (q_ixS 0 (q_op op_mod l_mod (qv 1) (q_lenS 0 (hg := by rfl) (hm := (bt "len" (by decide))) (hb := by decide +kernel)))) (q_int)) (q_int)) (q_op op_mulA l_mul (q_int) (qv 1))))) s_nil)))
    (s_cons (s_set (i := 3) sc_law_deal.nd rfl (by first | exact Or.inl rfl | exact Or.inr rfl) (q_int))
    (s_cons (s_if (t_cmp op_ge l_cmp (qv 2) (q_op op_pow l_pow (q_int) (q_int)) (nomark _)) (s_one (s_set (i := 3) sc_law_deal.nd rfl (by first | exact Or.inl rfl | exact Or.inr rfl) (qv 2))) s_nil)
    (s_one (s_retF (f_lst (qa_cons (qv 3) (qa_cons (q_op op_addA l_add (q_op op_mod l_mod (q_op op_addA l_add (q_op op_mulA l_mul (q_op op_mod l_mod (qv 2) (q_int)) (q_int)) (q_op op_mulA l_mul (q_int) (qv 1))) (q_int)) (q_int)) qa_nil))))))))), fun ds Q h => pure_law_deal aS nS ds Q h⟩
theorem cal_law_deal (bt : Bt mg) (hm : mg "_law_deal" = some (.ref f)) (F : FunD K "_law_deal" "_law_deal" (defArgs s_law_deal) (defBody s_law_deal) (defScope s_law_deal) [] [] f fd) : CalS P w K mg base 1 "_law_deal" ["_law_script", "_law_at"] sp_law_deal := ⟨f, fd, ok_law_deal bt F, hm, F.kp, F.bindsN (ps := ["_law_script", "_law_at"]) fun _ _ _ _ _ _ us hl => match us, hl with | [_, _], _ => rfl⟩
abbrev M_law_draw : List Str := ["_law_deal_here", "_law_many", "_law_digit", "_law_one"]
theorem sc_law_draw : FnScope M_law_draw ["_law_deal_here", "_law_many"] (defScope s_law_draw) := ⟨rfl, rfl, rfl, by decide +kernel, rfl, by decide +kernel, by decide +kernel⟩
theorem len_law_draw : ∀ fl ds Q, sp_law_draw fl ds Q → ds.length + (if true = true then 1 else 0) = 2 := by
  intro fl ds Q h
  unfold sp_law_draw at h
  grind
theorem ok_law_draw (bt : Bt mg) (F : FunD K "_law_draw" "_law_draw" (defArgs s_law_draw) (defBody s_law_draw) (defScope s_law_draw) [] [] f fd) : FnOk P w K mg base CX0 1 f fd ["_law_deal_here", "_law_many"] (spOf ⟨K, P, w⟩ true sp_law_draw) :=
  defD_ok true F sc_law_draw len_law_draw (by decide) fun cdv A outer s H E hr => ⟨T_law_draw, (s_cons (s_if (t_cmp op_gt l_cmp (q_ix (qv 0) (q_int)) (q_int) (nomark _)) (s_cons (s_set (i := 2) sc_law_draw.nd rfl (by first | exact Or.inl rfl | exact Or.inr rfl) (q_op op_mod l_mod (q_ix (qv 0) (q_int)) (qv 1)))
    (s_cons (s_setIx 0 (q_op op_fdiv l_div (q_ix (qv 0) (q_int)) (qv 1)) (q_int))
    (s_one (s_ret (qv 2))))) s_nil)
    (s_cons (s_set (i := 3) sc_law_draw.nd rfl (by first | exact Or.inl rfl | exact Or.inr rfl) (q_op op_mod l_mod (q_op op_mulA l_mul (q_ix (qv 0) (q_int)) (q_int)) (q_int)))
    (s_cons (s_setIx 0 (q_op op_addA l_add (q_op op_mod l_mod (q_op op_addA l_add (q_op op_mulA l_mul (qv 3) (q_int)) (q_int)) (q_int)) (q_int)) (q_int))
    (s_one (s_ret (q_op op_mod l_mod (q_op op_addA l_add (q_op op_mulA l_mul (q_op op_mod l_mod (q_op op_mulA l_mul (qv 3) (qv 3)) (q_int)) (q_int)) (q_op op_fdiv l_div (q_ix (qv 0) (q_int)) (q_int))) (qv 1))))))), pure_ren rfl pure_law_draw⟩
theorem cal_law_draw (bt : Bt mg) (hm : mg "_law_draw" = some (.ref f)) (F : FunD K "_law_draw" "_law_draw" (defArgs s_law_draw) (defBody s_law_draw) (defScope s_law_draw) [] [] f fd) : Cal P w K mg base 1 "_law_draw" true ["_law_deal_here", "_law_many"] [] sp_law_draw := ⟨f, fd, [], [], ok_law_draw bt F, hm, F.kp, F.bindsN (ps := ["_law_deal_here", "_law_many"]) fun _ _ _ _ _ _ us hl => match us, hl with | [_, _], _ => rfl, .nil, consts_nil⟩
abbrev M_law_farther : List Str := ["_law_number", "_law_by"]
theorem sc_law_farther : FnScope M_law_farther ["_law_number", "_law_by"] (defScope s_law_farther) := ⟨rfl, rfl, rfl, by decide +kernel, rfl, by decide +kernel, by decide +kernel⟩
theorem len_law_farther : ∀ fl ds Q, sp_law_farther fl ds Q → ds.length + (if false = true then 1 else 0) = 2 := by
  intro fl ds Q h
  unfold sp_law_farther at h
  grind
theorem ok_law_farther (bt : Bt mg) (F : FunD K "_law_farther" "_law_farther" (defArgs s_law_farther) (defBody s_law_farther) (defScope s_law_farther) [] [] f fd) : FnOk P w K mg base CX0 1 f fd ["_law_number", "_law_by"] (spOf ⟨K, P, w⟩ false sp_law_farther) :=
  defD_ok false F sc_law_farther len_law_farther (by decide) fun cdv A outer s H E hr => ⟨T_law_farther, (s_cons (s_if (t_cmp op_ltA l_lt (qv 0) (q_int) (nomark _)) (s_one (s_ret (q_op op_sub l_sub (qv 0) (qv 1)))) s_nil)
    (s_one (s_ret (q_op op_addA l_add (qv 0) (qv 1))))), pure_ren rfl pure_law_farther⟩
theorem cal_law_farther (bt : Bt mg) (hm : mg "_law_farther" = some (.ref f)) (F : FunD K "_law_farther" "_law_farther" (defArgs s_law_farther) (defBody s_law_farther) (defScope s_law_farther) [] [] f fd) : Cal P w K mg base 1 "_law_farther" false ["_law_number", "_law_by"] [] sp_law_farther := ⟨f, fd, [], [], ok_law_farther bt F, hm, F.kp, F.bindsN (ps := ["_law_number", "_law_by"]) fun _ _ _ _ _ _ us hl => match us, hl with | [_, _], _ => rfl, .nil, consts_nil⟩
abbrev M_law_put_in : List Str := ["_law_numbers_here", "_law_at", "_law_block_here", "_law_here", "_law_found", "_law_number", "_law_part"]
theorem sc_law_put_in : FnScope M_law_put_in ["_law_numbers_here", "_law_at", "_law_block_here"] (defScope s_law_put_in) := ⟨rfl, rfl, rfl, by decide +kernel, rfl, by decide +kernel, by decide +kernel⟩
theorem len_law_put_in : ∀ fl ds Q, sp_law_put_in fl ds Q → ds.length + (if false = true then 1 else 0) = 3 := by
  intro fl ds Q h
  unfold sp_law_put_in at h
  grind
theorem ok_law_put_in (bt : Bt mg) (c_law_farther : Cal P w K mg base 1 "_law_farther" false ["_law_number", "_law_by"] [] sp_law_farther) (F : FunD K "_law_put_in" "_law_put_in" (defArgs s_law_put_in) (defBody s_law_put_in) (defScope s_law_put_in) [] [] f fd) : FnOk P w K mg base CX0 2 f fd ["_law_numbers_here", "_law_at", "_law_block_here"] (spOf ⟨K, P, w⟩ false sp_law_put_in) :=
  defD_ok false F sc_law_put_in len_law_put_in (by decide) fun cdv A outer s H E hr => ⟨T_law_put_in, (s_cons (s_set (i := 3) sc_law_put_in.nd rfl (by first | exact Or.inl rfl | exact Or.inr rfl) (q_ix (qv 0) (qv 1)))
    (s_cons (s_setF (i := 4) sc_law_put_in.nd rfl (by first | exact Or.inl rfl | exact Or.inr rfl) (f_lst (qa_nil)))
    (s_cons (s_for PassesOwn.never rfl (i_any (qv 0)) (g_name sc_law_put_in.nd rfl (by first | exact Or.inl rfl | exact Or.inr rfl)) (s_one (s_if (t_cmp op_gt l_cmp (q_callB l_abs call_abs (by rfl) (bt "abs" (by decide)) (by decide +kernel) (qa_cons (qv 5) qa_nil)) (q_callB l_abs call_abs (by rfl) (bt "abs" (by decide)) (by decide +kernel) (qa_cons (qv 3) qa_nil)) (nomark _)) (s_one (s_expr (q_mo 4 l_append PySem.F.slot_list_append PySem.F.type_list_append mt_append (qa_cons (q_cal c_law_farther hr (by first | decide | exact Nat.le_refl _ | (simp only [Nat.add_eq]; omega)) (by rfl) (qa_cons (qv 5) (qa_cons (q_ix (qv 2) (q_neg (q_int))) qa_nil))) qa_nil)))) (s_one (s_if (t_cmp (op_neP hr.units) l_eq (qv 5) (qv 3) (nomark _)) (s_one (s_expr (q_mo 4 l_append PySem.F.slot_list_append PySem.F.type_list_append mt_append (qa_cons (qv 5) qa_nil)))) (s_one (s_if (t_cmp op_ge l_cmp (qv 3) (q_int) (nomark _)) (s_one (s_expr (q_moE 4 rfl (qa_cons (EF.ev (f_lc (own := [("_law_part", 6)]) (S := [6]) rfl sc_law_put_in.nd (blkOk_by (N := M_law_put_in) (sc := defScope s_law_put_in) (by decide +kernel)) (i_any (qv 2)) (fun _ _ _ _ _ => g_name sc_law_put_in.nd rfl (by first | exact Or.inl rfl | exact Or.inr rfl)) (fun _ _ _ _ _ => ts_nil) (fun _ _ _ _ _ => q_cal c_law_farther hr (by first | decide | exact Nat.le_refl _ | (simp only [Nat.add_eq]; omega)) (by rfl) (qa_cons (qv 6) (qa_cons (qv 3) qa_nil))))) qa_nil)))) (s_one (s_expr (q_moE 4 rfl (qa_cons (EF.ev (f_lc (own := [("_law_part", 6)]) (S := [6]) rfl sc_law_put_in.nd (blkOk_by (N := M_law_put_in) (sc := defScope s_law_put_in) (by decide +kernel)) (i_revL (qv 2) (by rfl) (bt "reversed" (by decide))) (fun _ _ _ _ _ => g_name sc_law_put_in.nd rfl (by first | exact Or.inl rfl | exact Or.inr rfl)) (fun _ _ _ _ _ => ts_nil) (fun _ _ _ _ _ => q_op op_sub l_sub (q_int) (q_cal c_law_farther hr (by first | decide | exact Nat.le_refl _ | (simp only [Nat.add_eq]; omega)) (by rfl) (qa_cons (qv 6) (qa_cons (q_op op_sub l_sub (q_int) (qv 3)) qa_nil)))))) qa_nil)))))))))))
    (s_one (s_retS 4))))), pure_ren rfl pure_law_put_in⟩
theorem cal_law_put_in (bt : Bt mg) (c_law_farther : Cal P w K mg base 1 "_law_farther" false ["_law_number", "_law_by"] [] sp_law_farther) (hm : mg "_law_put_in" = some (.ref f)) (F : FunD K "_law_put_in" "_law_put_in" (defArgs s_law_put_in) (defBody s_law_put_in) (defScope s_law_put_in) [] [] f fd) : Cal P w K mg base 2 "_law_put_in" false ["_law_numbers_here", "_law_at", "_law_block_here"] [] sp_law_put_in := ⟨f, fd, [], [], ok_law_put_in bt c_law_farther F, hm, F.kp, F.bindsN (ps := ["_law_numbers_here", "_law_at", "_law_block_here"]) fun _ _ _ _ _ _ us hl => match us, hl with | [_, _, _], _ => rfl, .nil, consts_nil⟩
abbrev M_law_block : List Str := ["_law_deal_here", "_law_most", "_law_many", "_law_left", "_law_sides", "_law_found", "_law_k"]
theorem sc_law_block : FnScope M_law_block ["_law_deal_here", "_law_most"] (defScope s_law_block) := ⟨rfl, rfl, rfl, by decide +kernel, rfl, by decide +kernel, by decide +kernel⟩
theorem len_law_block : ∀ fl ds Q, sp_law_block fl ds Q → ds.length + (if true = true then 1 else 0) = 2 := by
  intro fl ds Q h
  unfold sp_law_block at h
  grind
theorem ok_law_block (bt : Bt mg) (c_law_draw : Cal P w K mg base 1 "_law_draw" true ["_law_deal_here", "_law_many"] [] sp_law_draw) (F : FunD K "_law_block" "_law_block" (defArgs s_law_block) (defBody s_law_block) (defScope s_law_block) [] [] f fd) : FnOk P w K mg base CX0 2 f fd ["_law_deal_here", "_law_most"] (spOf ⟨K, P, w⟩ true sp_law_block) :=
  defD_ok true F sc_law_block len_law_block (by decide) fun cdv A outer s H E hr => ⟨T_law_block, (s_cons (s_set (i := 2) sc_law_block.nd rfl (by first | exact Or.inl rfl | exact Or.inr rfl) (q_op op_addA l_add (q_int) (q_calL 0 c_law_draw hr (by first | decide | exact Nat.le_refl _ | (simp only [Nat.add_eq]; omega)) (by rfl) (qa_cons (qv 1) qa_nil))))
    (s_cons (s_setF (i := 3) sc_law_block.nd rfl (by first | exact Or.inl rfl | exact Or.inr rfl) (f_listRg2 rfl (q_int) (q_op op_addA l_add (qv 2) (q_int)) (by rfl) (bt "list" (by decide)) (by rfl) (bt "range" (by decide))))
    (s_cons (s_set (i := 4) sc_law_block.nd rfl (by first | exact Or.inl rfl | exact Or.inr rfl) (EF.ev (f_lst (qa_cons (q_int) (qa_cons (q_op op_sub l_sub (q_int) (q_op op_mulA l_mul (q_int) (q_callTy l_int1 call_int1 (by rfl) (bt "int" (by decide)) (by decide +kernel) (qa_cons (q_cmp (op_eqP hr.units) l_eq (q_calL 0 c_law_draw hr (by first | decide | exact Nat.le_refl _ | (simp only [Nat.add_eq]; omega)) (by rfl) (qa_cons (q_int) qa_nil)) (q_int) (nomark _)) qa_nil)))) qa_nil)))))
    (s_cons (s_setF (i := 5) sc_law_block.nd rfl (by first | exact Or.inl rfl | exact Or.inr rfl) (f_lst (qa_cons (q_int) qa_nil)))
    (s_cons (s_for PassesOwn.never rfl (i_rg1 (qv 2) (by rfl) (bt "range" (by decide))) (g_name sc_law_block.nd rfl (by first | exact Or.inl rfl | exact Or.inr rfl)) (s_one (s_expr (q_mo 5 l_append PySem.F.slot_list_append PySem.F.type_list_append mt_append (qa_cons (q_op op_mulA l_mul (q_mo 3 l_popAt PySem.F.slot_list_pop PySem.F.type_list_pop mt_popAt (qa_cons (q_calL 0 c_law_draw hr (by first | decide | exact Nat.le_refl _ | (simp only [Nat.add_eq]; omega)) (by rfl) (qa_cons (q_callB l_len call_len (by rfl) (bt "len" (by decide)) (by decide +kernel) (qa_cons (qv 3) qa_nil)) qa_nil)) qa_nil)) (q_ix (qv 4) (q_calL 0 c_law_draw hr (by first | decide | exact Nat.le_refl _ | (simp only [Nat.add_eq]; omega)) (by rfl) (qa_cons (q_int) qa_nil)))) qa_nil)))))
    (s_one (s_retF (f_add (qv 5) (EF.ev (f_lst (qa_cons (q_op op_addA l_add (qv 2) (q_int)) qa_nil))))))))))), pure_ren rfl pure_law_block⟩
theorem cal_law_block (bt : Bt mg) (c_law_draw : Cal P w K mg base 1 "_law_draw" true ["_law_deal_here", "_law_many"] [] sp_law_draw) (hm : mg "_law_block" = some (.ref f)) (F : FunD K "_law_block" "_law_block" (defArgs s_law_block) (defBody s_law_block) (defScope s_law_block) [] [] f fd) : Cal P w K mg base 2 "_law_block" true ["_law_deal_here", "_law_most"] [] sp_law_block := ⟨f, fd, [], [], ok_law_block bt c_law_draw F, hm, F.kp, F.bindsN (ps := ["_law_deal_here", "_law_most"]) fun _ _ _ _ _ _ us hl => match us, hl with | [_, _], _ => rfl, .nil, consts_nil⟩
abbrev M_law_numbers : List Str := ["_law_deal_here", "_law_most", "_law_numbers_here", "_law_k", "_law_room", "_law_block_here", "_law_at"]
theorem sc_law_numbers : FnScope M_law_numbers ["_law_deal_here", "_law_most"] (defScope s_law_numbers) := ⟨rfl, rfl, rfl, by decide +kernel, rfl, by decide +kernel, by decide +kernel⟩
theorem len_law_numbers : ∀ fl ds Q, sp_law_numbers fl ds Q → ds.length + (if true = true then 1 else 0) = 2 := by
  intro fl ds Q h
  unfold sp_law_numbers at h
  grind
theorem ok_law_numbers (bt : Bt mg) (c_law_draw : Cal P w K mg base 1 "_law_draw" true ["_law_deal_here", "_law_many"] [] sp_law_draw) (c_law_block : Cal P w K mg base 2 "_law_block" true ["_law_deal_here", "_law_most"] [] sp_law_block) (c_law_put_in : Cal P w K mg base 2 "_law_put_in" false ["_law_numbers_here", "_law_at", "_law_block_here"] [] sp_law_put_in) (F : FunD K "_law_numbers" "_law_numbers" (defArgs s_law_numbers) (defBody s_law_numbers) (defScope s_law_numbers) [] [] f fd) : FnOk P w K mg base CX0 3 f fd ["_law_deal_here", "_law_most"] (spOf ⟨K, P, w⟩ true sp_law_numbers) :=
  defD_ok true F sc_law_numbers len_law_numbers (by decide) fun cdv A outer s H E hr => ⟨T_law_numbers, (s_cons (s_set (i := 2) sc_law_numbers.nd rfl (by first | exact Or.inl rfl | exact Or.inr rfl) (EF.ev (f_lst (qa_cons (q_int) (qa_cons (q_int) qa_nil)))))
    (s_cons (s_if (t_cmp (op_eqP hr.units) l_eq (q_calL 0 c_law_draw hr (by first | decide | exact Nat.le_refl _ | (simp only [Nat.add_eq]; omega)) (by rfl) (qa_cons (q_int) qa_nil)) (q_int) (nomark _)) (s_one (s_set (i := 2) sc_law_numbers.nd rfl (by first | exact Or.inl rfl | exact Or.inr rfl) (q_calL 0 c_law_block hr (by first | decide | exact Nat.le_refl _ | (simp only [Nat.add_eq]; omega)) (by rfl) (qa_cons (q_callB l_min (call_min2D rfl hr.units) (by rfl) (bt "min" (by decide)) (by decide +kernel) (qa_cons (qv 1) (qa_cons (q_int) qa_nil))) qa_nil)))) s_nil)
    (s_cons (s_for PassesOwn.never rfl (i_rg1 (q_op op_addA l_add (q_int) (q_calL 0 c_law_draw hr (by first | decide | exact Nat.le_refl _ | (simp only [Nat.add_eq]; omega)) (by rfl) (qa_cons (q_int) qa_nil))) (by rfl) (bt "range" (by decide))) (g_name sc_law_numbers.nd rfl (by first | exact Or.inl rfl | exact Or.inr rfl)) (s_cons (s_set (i := 4) sc_law_numbers.nd rfl (by first | exact Or.inl rfl | exact Or.inr rfl) (q_op op_sub l_sub (q_op op_addA l_add (qv 1) (q_int)) (q_callB l_len call_len (by rfl) (bt "len" (by decide)) (by decide +kernel) (qa_cons (qv 2) qa_nil))))
    (s_cons (s_set (i := 5) sc_law_numbers.nd rfl (by first | exact Or.inl rfl | exact Or.inr rfl) (q_calL 0 c_law_block hr (by first | decide | exact Nat.le_refl _ | (simp only [Nat.add_eq]; omega)) (by rfl) (qa_cons (q_ix (EF.ev (f_lst (qa_cons (q_int) (qa_cons (q_int) (qa_cons (qv 1) qa_nil))))) (q_calL 0 c_law_draw hr (by first | decide | exact Nat.le_refl _ | (simp only [Nat.add_eq]; omega)) (by rfl) (qa_cons (q_int) qa_nil))) qa_nil)))
    (s_cons (s_set (i := 6) sc_law_numbers.nd rfl (by first | exact Or.inl rfl | exact Or.inr rfl) (q_calL 0 c_law_draw hr (by first | decide | exact Nat.le_refl _ | (simp only [Nat.add_eq]; omega)) (by rfl) (qa_cons (q_callB l_len call_len (by rfl) (bt "len" (by decide)) (by decide +kernel) (qa_cons (qv 2) qa_nil)) qa_nil)))
    (s_one (s_if (t_cmp op_le l_cmp (q_op op_sub l_sub (q_callB l_len call_len (by rfl) (bt "len" (by decide)) (by decide +kernel) (qa_cons (qv 5) qa_nil)) (q_int)) (qv 4) (nomark _)) (s_one (s_set (i := 2) sc_law_numbers.nd rfl (by first | exact Or.inl rfl | exact Or.inr rfl) (q_cal c_law_put_in hr (by first | decide | exact Nat.le_refl _ | (simp only [Nat.add_eq]; omega)) (by rfl) (qa_cons (qv 2) (qa_cons (qv 6) (qa_cons (qv 5) qa_nil)))))) s_nil))))))
    (s_one (s_ret (qv 2)))))), pure_ren rfl pure_law_numbers⟩
theorem cal_law_numbers (bt : Bt mg) (c_law_draw : Cal P w K mg base 1 "_law_draw" true ["_law_deal_here", "_law_many"] [] sp_law_draw) (c_law_block : Cal P w K mg base 2 "_law_block" true ["_law_deal_here", "_law_most"] [] sp_law_block) (c_law_put_in : Cal P w K mg base 2 "_law_put_in" false ["_law_numbers_here", "_law_at", "_law_block_here"] [] sp_law_put_in) (hm : mg "_law_numbers" = some (.ref f)) (F : FunD K "_law_numbers" "_law_numbers" (defArgs s_law_numbers) (defBody s_law_numbers) (defScope s_law_numbers) [] [] f fd) : Cal P w K mg base 3 "_law_numbers" true ["_law_deal_here", "_law_most"] [] sp_law_numbers := ⟨f, fd, [], [], ok_law_numbers bt c_law_draw c_law_block c_law_put_in F, hm, F.kp, F.bindsN (ps := ["_law_deal_here", "_law_most"]) fun _ _ _ _ _ _ us hl => match us, hl with | [_, _], _ => rfl, .nil, consts_nil⟩
abbrev M_law_is_span : List Str := ["_law_numbers_here", "_law_s", "_law_e", "_law_some", "_law_number"]
theorem sc_law_is_span : FnScope M_law_is_span ["_law_numbers_here", "_law_s", "_law_e"] (defScope s_law_is_span) := ⟨rfl, rfl, rfl, by decide +kernel, rfl, by decide +kernel, by decide +kernel⟩
theorem len_law_is_span : ∀ fl ds Q, sp_law_is_span fl ds Q → ds.length + (if false = true then 1 else 0) = 3 := by
  intro fl ds Q h
  unfold sp_law_is_span at h
  grind
theorem ok_law_is_span (bt : Bt mg) (F : FunD K "_law_is_span" "_law_is_span" (defArgs s_law_is_span) (defBody s_law_is_span) (defScope s_law_is_span) [] [] f fd) : FnOk P w K mg base CX0 1 f fd ["_law_numbers_here", "_law_s", "_law_e"] (spOf ⟨K, P, w⟩ false sp_law_is_span) :=
  defD_ok false F sc_law_is_span len_law_is_span (by decide) fun cdv A outer s H E hr => ⟨T_law_is_span, (s_cons (s_set (i := 3) sc_law_is_span.nd rfl (by first | exact Or.inl rfl | exact Or.inr rfl) (EF.ev (f_callB l_sortD (cr_sortedD hr.units) (by rfl) (bt "sorted" (by decide)) (by decide +kernel) (qa_cons (EF.ev (f_lc (own := [("_law_number", 4)]) (S := [4]) rfl sc_law_is_span.nd (blkOk_by (N := M_law_is_span) (sc := defScope s_law_is_span) (by decide +kernel)) (i_any (q_sl (qv 0) (o_some (qv 1)) (o_some (q_op op_addA l_add (qv 2) (q_int))))) (fun _ _ _ _ _ => g_name sc_law_is_span.nd rfl (by first | exact Or.inl rfl | exact Or.inr rfl)) (fun _ _ _ _ _ => ts_nil) (fun _ _ _ _ _ => q_callB l_abs call_abs (by rfl) (bt "abs" (by decide)) (by decide +kernel) (qa_cons (qv 4) qa_nil)))) qa_nil))))
    (s_cons (s_if (t_cmp (op_neP hr.units) l_eq (qv 3) (EF.ev (f_listRg2 rfl (q_ix (qv 3) (q_int)) (q_op op_addA l_add (q_op op_sub l_sub (q_op op_addA l_add (q_ix (qv 3) (q_int)) (qv 2)) (qv 1)) (q_int)) (by rfl) (bt "list" (by decide)) (by rfl) (bt "range" (by decide)))) (nomark _)) (s_one (s_ret (q_bl))) s_nil)
    (s_cons (s_if (t_cmp (op_eqP hr.units) l_eq (q_ix (qv 0) (qv 1)) (q_ix (qv 3) (q_int)) (nomark _)) (s_one (s_ret (q_cmp (op_eqP hr.units) l_eq (q_ix (qv 0) (qv 2)) (q_ix (qv 3) (q_neg (q_int))) (nomark _)))) s_nil)
    (s_one (s_ret (q_and (q_cmp (op_eqP hr.units) l_eq (q_ix (qv 0) (qv 1)) (q_op op_sub l_sub (q_int) (q_ix (qv 3) (q_neg (q_int)))) (nomark _)) (q_one (q_cmp (op_eqP hr.units) l_eq (q_ix (qv 0) (qv 2)) (q_op op_sub l_sub (q_int) (q_ix (qv 3) (q_int))) (nomark _))))))))), pure_ren rfl pure_law_is_span⟩
theorem cal_law_is_span (bt : Bt mg) (hm : mg "_law_is_span" = some (.ref f)) (F : FunD K "_law_is_span" "_law_is_span" (defArgs s_law_is_span) (defBody s_law_is_span) (defScope s_law_is_span) [] [] f fd) : Cal P w K mg base 1 "_law_is_span" false ["_law_numbers_here", "_law_s", "_law_e"] [] sp_law_is_span := ⟨f, fd, [], [], ok_law_is_span bt F, hm, F.kp, F.bindsN (ps := ["_law_numbers_here", "_law_s", "_law_e"]) fun _ _ _ _ _ _ us hl => match us, hl with | [_, _, _], _ => rfl, .nil, consts_nil⟩
abbrev M_law_wholes : List Str := ["_law_numbers_here", "_law_spans", "_law_s", "_law_e", "_law_found", "_law_m"]
theorem sc_law_wholes : FnScope M_law_wholes ["_law_numbers_here"] (defScope s_law_wholes) := ⟨rfl, rfl, rfl, by decide +kernel, rfl, by decide +kernel, by decide +kernel⟩
theorem len_law_wholes : ∀ fl ds Q, sp_law_wholes fl ds Q → ds.length + (if false = true then 1 else 0) = 1 := by
  intro fl ds Q h
  unfold sp_law_wholes at h
  grind
theorem ok_law_wholes (bt : Bt mg) (c_law_is_span : Cal P w K mg base 1 "_law_is_span" false ["_law_numbers_here", "_law_s", "_law_e"] [] sp_law_is_span) (F : FunD K "_law_wholes" "_law_wholes" (defArgs s_law_wholes) (defBody s_law_wholes) (defScope s_law_wholes) [] [] f fd) : FnOk P w K mg base CX0 2 f fd ["_law_numbers_here"] (spOf ⟨K, P, w⟩ false sp_law_wholes) :=
  defD_ok false F sc_law_wholes len_law_wholes (by decide) fun cdv A outer s H E hr => ⟨T_law_wholes, (s_cons (s_setDN (i := 1) sc_law_wholes.nd rfl (by first | exact Or.inl rfl | exact Or.inr rfl))
    (s_cons (s_for PassesOwn.never rfl (i_rg1 (q_callB l_len call_len (by rfl) (bt "len" (by decide)) (by decide +kernel) (qa_cons (qv 0) qa_nil)) (by rfl) (bt "range" (by decide))) (g_name sc_law_wholes.nd rfl (by first | exact Or.inl rfl | exact Or.inr rfl)) (s_one (s_for PassesOwn.never rfl (i_rg2 (q_op op_addA l_add (qv 2) (q_int)) (q_callB l_len call_len (by rfl) (bt "len" (by decide)) (by decide +kernel) (qa_cons (qv 0) qa_nil)) (by rfl) (bt "range" (by decide))) (g_name sc_law_wholes.nd rfl (by first | exact Or.inl rfl | exact Or.inr rfl)) (s_one (s_if (t_val (q_cal c_law_is_span hr (by first | decide | exact Nat.le_refl _ | (simp only [Nat.add_eq]; omega)) (by rfl) (qa_cons (qv 0) (qa_cons (qv 2) (qa_cons (qv 3) qa_nil))))) (s_one (s_putD 1 hr.units (q_bl) (q_tup (qa_cons (qv 2) (qa_cons (qv 3) qa_nil))))) s_nil)))))
    (s_cons (s_setF (i := 4) sc_law_wholes.nd rfl (by first | exact Or.inl rfl | exact Or.inr rfl) (f_lst (qa_nil)))
    (s_cons (s_frzD 1 (s_for PassesOwn.never rfl (i_keysD (qv 1)) (g_tup rfl (gs_cons (g_name sc_law_wholes.nd rfl (by first | exact Or.inl rfl | exact Or.inr rfl)) (gs_cons (g_name sc_law_wholes.nd rfl (by first | exact Or.inl rfl | exact Or.inr rfl)) gs_nil))) (s_one (s_if (t_not (t_val (q_callB l_any (cr_any rfl) (by rfl) (bt "any" (by decide)) (by decide +kernel) (qa_cons (EF.ev (f_lc (own := [("_law_m", 5)]) (S := [5]) rfl sc_law_wholes.nd (blkOk_by (N := M_law_wholes) (sc := defScope s_law_wholes) (by decide +kernel)) (i_rg2 (q_op op_addA l_add (qv 2) (q_int)) (qv 3) (by rfl) (bt "range" (by decide))) (fun _ _ _ _ _ => g_name sc_law_wholes.nd rfl (by first | exact Or.inl rfl | exact Or.inr rfl)) (fun _ _ _ _ _ => ts_nil) (fun _ _ _ _ _ => q_and (q_din hr.units (q_tup (qa_cons (qv 2) (qa_cons (qv 5) qa_nil))) (qv 1)) (q_one (q_din hr.units (q_tup (qa_cons (qv 5) (qa_cons (qv 3) qa_nil))) (qv 1)))))) qa_nil)))) (s_one (s_expr (q_mo 4 l_append PySem.F.slot_list_append PySem.F.type_list_append mt_append (qa_cons (q_tup (qa_cons (qv 2) (qa_cons (qv 3) qa_nil))) qa_nil)))) s_nil))))
    (s_one (s_retS 4)))))), pure_ren rfl pure_law_wholes⟩
theorem cal_law_wholes (bt : Bt mg) (c_law_is_span : Cal P w K mg base 1 "_law_is_span" false ["_law_numbers_here", "_law_s", "_law_e"] [] sp_law_is_span) (hm : mg "_law_wholes" = some (.ref f)) (F : FunD K "_law_wholes" "_law_wholes" (defArgs s_law_wholes) (defBody s_law_wholes) (defScope s_law_wholes) [] [] f fd) : Cal P w K mg base 2 "_law_wholes" false ["_law_numbers_here"] [] sp_law_wholes := ⟨f, fd, [], [], ok_law_wholes bt c_law_is_span F, hm, F.kp, F.bindsN (ps := ["_law_numbers_here"]) fun _ _ _ _ _ _ us hl => match us, hl with | [_], _ => rfl, .nil, consts_nil⟩
abbrev M_law_right_3 : List Str := ["_law_numbers_here", "_law_handed", "_law_due", "_law_found", "_law_span", "_law_k"]
theorem sc_law_right_3 : FnScope M_law_right_3 ["_law_numbers_here"] (defScope s_law_right_3) := ⟨rfl, rfl, rfl, by decide +kernel, rfl, by decide +kernel, by decide +kernel⟩
theorem len_law_right_3 : ∀ fl ds Q, sp_law_right_3 fl ds Q → ds.length + (if false = true then 1 else 0) = 1 := by
  intro fl ds Q h
  unfold sp_law_right_3 at h
  grind
theorem ok_law_right_3 (bt : Bt mg) (c_law_wholes : Cal P w K mg base 2 "_law_wholes" false ["_law_numbers_here"] [] sp_law_wholes) (c_whole_spans : Cal P w K mg base 2 "whole_spans" false ["numbers"] [] sp_whole_spans) (F : FunD K "_law_right" "_law_right" (defArgs s_law_right_3) (defBody s_law_right_3) (defScope s_law_right_3) [] [] f fd) : FnOk P w K mg base CX0 3 f fd ["_law_numbers_here"] (spOf ⟨K, P, w⟩ false sp_law_right_3) :=
  defN_ok false F sc_law_right_3 len_law_right_3 (by decide) fun cdv A outer s H E hr => ⟨T_law_right_3, (s_cons (s_setF (i := 1) sc_law_right_3.nd rfl (by first | exact Or.inl rfl | exact Or.inr rfl) (f_callTy l_listF call_list_of (by rfl) (bt "list" (by decide)) (by decide +kernel) (qa_cons (qv 0) qa_nil)))
    (s_cons (s_set (i := 2) sc_law_right_3.nd rfl (by first | exact Or.inl rfl | exact Or.inr rfl) (q_cal c_law_wholes hr (by first | decide | exact Nat.le_refl _ | (simp only [Nat.add_eq]; omega)) (by rfl) (qa_cons (qv 0) qa_nil)))
    (s_cons (s_setF (i := 3) sc_law_right_3.nd rfl (by first | exact Or.inl rfl | exact Or.inr rfl) (f_calR c_whole_spans hr (by first | decide | exact Nat.le_refl _ | (simp only [Nat.add_eq]; omega)) (by rfl) (qa_cons (qv 1) qa_nil)))
    (s_cons (s_if (EW.et (w_or (t_not (t_val (q_isi .list (qv 3) (by rfl) (bt "isinstance" (by decide)) (by rfl) (bt "list" (by decide)) (by decide +kernel)))) (w_or (t_cmp (op_neP hr.units) l_eq (qv 3) (qv 2) (nomark _)) (w_or1 (t_cmp (op_neP hr.units) l_eq (qv 1) (qv 0) (nomark _)))))) (s_one (s_ret (q_bl))) s_nil)
    (s_cons (s_forO 3 PassesOwn.never rfl (g_name sc_law_right_3.nd rfl (by first | exact Or.inl rfl | exact Or.inr rfl)) (s_one (s_if (EW.et (w_or (t_not (t_val (q_isi .tuple (qv 4) (by rfl) (bt "isinstance" (by decide)) (by rfl) (bt "tuple" (by decide)) (by decide +kernel)))) (w_or1 (t_not (t_val (q_callB l_all (cr_all rfl) (by rfl) (bt "all" (by decide)) (by decide +kernel) (qa_cons (EF.ev (f_lc (own := [("_law_k", 5)]) (S := [5]) rfl sc_law_right_3.nd (blkOk_by (N := M_law_right_3) (sc := defScope s_law_right_3) (by decide +kernel)) (i_any (qv 4)) (fun _ _ _ _ _ => g_name sc_law_right_3.nd rfl (by first | exact Or.inl rfl | exact Or.inr rfl)) (fun _ _ _ _ _ => ts_nil) (fun _ _ _ _ _ => q_and (q_isi .int (qv 5) (by rfl) (bt "isinstance" (by decide)) (by rfl) (bt "int" (by decide)) (by decide +kernel)) (q_one (q_not (q_isi .bool (qv 5) (by rfl) (bt "isinstance" (by decide)) (by rfl) (bt "bool" (by decide)) (by decide +kernel))))))) qa_nil))))))) (s_one (s_ret (q_bl))) s_nil)))
    (s_cons (s_expr (q_mo0 3 l_reverse PySem.F.slot_list_reverse PySem.F.type_list_reverse mt_reverse))
    (s_cons (s_expr (q_mo 3 l_append PySem.F.slot_list_append PySem.F.type_list_append mt_append (qa_cons (q_int) qa_nil)))
    (s_cons (s_if (t_cmp (op_neP hr.units) l_eq (EF.ev (f_calR c_whole_spans hr (by first | decide | exact Nat.le_refl _ | (simp only [Nat.add_eq]; omega)) (by rfl) (qa_cons (qv 1) qa_nil))) (qv 2) (nomark _)) (s_one (s_ret (q_bl))) s_nil)
    (s_cons (s_setAll 1 (f_listRg1 rfl (q_callB l_len call_len (by rfl) (bt "len" (by decide)) (by decide +kernel) (qa_cons (qv 0) qa_nil)) (by rfl) (bt "list" (by decide)) (by rfl) (bt "range" (by decide))))
    (s_one (s_ret (q_cmp (op_eqP hr.units) l_eq (EF.ev (f_calR c_whole_spans hr (by first | decide | exact Nat.le_refl _ | (simp only [Nat.add_eq]; omega)) (by rfl) (qa_cons (qv 1) qa_nil))) (EF.ev (f_lc (own := [("_law_k", 5)]) (S := [5]) rfl sc_law_right_3.nd (blkOk_by (N := M_law_right_3) (sc := defScope s_law_right_3) (by decide +kernel)) (i_rg1 (q_op op_sub l_sub (q_callB l_len call_len (by rfl) (bt "len" (by decide)) (by decide +kernel) (qa_cons (qv 0) qa_nil)) (q_int)) (by rfl) (bt "range" (by decide))) (fun _ _ _ _ _ => g_name sc_law_right_3.nd rfl (by first | exact Or.inl rfl | exact Or.inr rfl)) (fun _ _ _ _ _ => ts_nil) (fun _ _ _ _ _ => q_tup (qa_cons (qv 5) (qa_cons (q_op op_addA l_add (qv 5) (q_int)) qa_nil))))) (nomark _))))))))))))), pure_ren rfl pure_law_right_3⟩
theorem cal_law_right_3 (bt : Bt mg) (c_law_wholes : Cal P w K mg base 2 "_law_wholes" false ["_law_numbers_here"] [] sp_law_wholes) (c_whole_spans : Cal P w K mg base 2 "whole_spans" false ["numbers"] [] sp_whole_spans) (hm : mg "_law_right" = some (.ref f)) (F : FunD K "_law_right" "_law_right" (defArgs s_law_right_3) (defBody s_law_right_3) (defScope s_law_right_3) [] [] f fd) : Cal P w K mg base 3 "_law_right" false ["_law_numbers_here"] [] sp_law_right_3 := ⟨f, fd, [], [], ok_law_right_3 bt c_law_wholes c_whole_spans F, hm, F.kp, F.bindsN (ps := ["_law_numbers_here"]) fun _ _ _ _ _ _ us hl => match us, hl with | [_], _ => rfl, .nil, consts_nil⟩
abbrev M_law_41 : List Str := ["_law_script", "_law_k", "_law_deal_here"]
theorem sc_law_41 : FnScope M_law_41 ["_law_script"] (defScope s_law_41) := ⟨rfl, rfl, rfl, by decide +kernel, rfl, by decide +kernel, by decide +kernel⟩
theorem ok_law_41 (bt : Bt mg) (c_law_deal : CalS P w K mg base 1 "_law_deal" ["_law_script", "_law_at"] sp_law_deal) (c_law_right_3 : Cal P w K mg base 3 "_law_right" false ["_law_numbers_here"] [] sp_law_right_3) (c_law_numbers : Cal P w K mg base 3 "_law_numbers" true ["_law_deal_here", "_law_most"] [] sp_law_numbers) (c_law_draw : Cal P w K mg base 1 "_law_draw" true ["_law_deal_here", "_law_many"] [] sp_law_draw) (F : FunD K "law" "law" (defArgs s_law_41) (defBody s_law_41) (defScope s_law_41) [] [] f fd) : FnOk P w K mg base CX0 4 f fd ["_law_script"] (spLaw ⟨K, P, w⟩) :=
  lawS_ok F sc_law_41 (by decide) (T := T_law_41) (fun cdv A outer s H E aS nS hr => (s_cons (s_for PassesOwn.never rfl (i_rg1 (q_int) (by rfl) (bt "range" (by decide))) (g_name sc_law_41.nd rfl (by first | exact Or.inl rfl | exact Or.inr rfl)) (s_cons (s_setF (i := 2) sc_law_41.nd rfl (by first | exact Or.inl rfl | exact Or.inr rfl) (f_calS 0 c_law_deal hr (by first | decide | exact Nat.le_refl _ | (simp only [Nat.add_eq]; omega)) (by rfl) (qa_cons (qv 1) qa_nil)))
    (s_one (s_if (t_not (t_val (q_cal c_law_right_3 hr (by first | decide | exact Nat.le_refl _ | (simp only [Nat.add_eq]; omega)) (by rfl) (qa_cons (q_calL 2 c_law_numbers hr (by first | decide | exact Nat.le_refl _ | (simp only [Nat.add_eq]; omega)) (by rfl) (qa_cons (q_ix (EF.ev (f_lst (qa_cons (q_ix (EF.ev (f_lst (qa_cons (q_int) (qa_cons (q_int) (qa_cons (q_int) (qa_cons (q_int) qa_nil)))))) (q_calL 2 c_law_draw hr (by first | decide | exact Nat.le_refl _ | (simp only [Nat.add_eq]; omega)) (by rfl) (qa_cons (q_int) qa_nil))) (qa_cons (q_int) (qa_cons (q_int) qa_nil))))) (qv 1)) qa_nil)) qa_nil)))) (s_one (s_ret (q_bl))) s_nil))))
    (s_one (s_ret (q_bl))))) pure_law_41
end
def d_spans_in : He.DefD := ⟨("spans_in", none), "spans_in", "spans_in", defArgs s_spans_in, defBody s_spans_in, defScope s_spans_in, [], []⟩
def d_is_parted : He.DefD := ⟨("is_parted", none), "is_parted", "is_parted", defArgs s_is_parted, defBody s_is_parted, defScope s_is_parted, [], []⟩
def d_whole_spans : He.DefD := ⟨("whole_spans", none), "whole_spans", "whole_spans", defArgs s_whole_spans, defBody s_whole_spans, defScope s_whole_spans, [], []⟩
def d_law_deal : He.DefD := ⟨("_law_deal", none), "_law_deal", "_law_deal", defArgs s_law_deal, defBody s_law_deal, defScope s_law_deal, [], []⟩
def d_law_draw : He.DefD := ⟨("_law_draw", none), "_law_draw", "_law_draw", defArgs s_law_draw, defBody s_law_draw, defScope s_law_draw, [], []⟩
def d_law_farther : He.DefD := ⟨("_law_farther", none), "_law_farther", "_law_farther", defArgs s_law_farther, defBody s_law_farther, defScope s_law_farther, [], []⟩
def d_law_put_in : He.DefD := ⟨("_law_put_in", none), "_law_put_in", "_law_put_in", defArgs s_law_put_in, defBody s_law_put_in, defScope s_law_put_in, [], []⟩
def d_law_block : He.DefD := ⟨("_law_block", none), "_law_block", "_law_block", defArgs s_law_block, defBody s_law_block, defScope s_law_block, [], []⟩
def d_law_numbers : He.DefD := ⟨("_law_numbers", none), "_law_numbers", "_law_numbers", defArgs s_law_numbers, defBody s_law_numbers, defScope s_law_numbers, [], []⟩
def d_law_is_span : He.DefD := ⟨("_law_is_span", none), "_law_is_span", "_law_is_span", defArgs s_law_is_span, defBody s_law_is_span, defScope s_law_is_span, [], []⟩
def d_law_wholes : He.DefD := ⟨("_law_wholes", none), "_law_wholes", "_law_wholes", defArgs s_law_wholes, defBody s_law_wholes, defScope s_law_wholes, [], []⟩
def d_law_right_3 : He.DefD := ⟨("_law_right", none), "_law_right", "_law_right", defArgs s_law_right_3, defBody s_law_right_3, defScope s_law_right_3, [], []⟩
def d_law_41 : He.DefD := ⟨("law", none), "law", "law", defArgs s_law_41, defBody s_law_41, defScope s_law_41, [], []⟩
def fnL : List He.DefD := [d_spans_in, d_is_parted, d_whole_spans, d_law_deal, d_law_draw, d_law_farther, d_law_put_in, d_law_block, d_law_numbers, d_law_is_span, d_law_wholes, d_law_right_3, d_law_41]
def faL : List He.Fa := [.free "len", .free "isinstance", .free "str", .free "int", .free "bool", .free "list", .free "tuple", .free "dict", .free "range", .free "all", .free "any", .free "sorted", .free "set", .free "min", .free "max", .free "ord", .free "enumerate", .free "sum", .free "abs", .free "reversed", .free "zip", .glo "spans_in", .glo "is_parted", .glo "whole_spans", .glo "_law_deal", .glo "_law_draw", .glo "_law_farther", .glo "_law_put_in", .glo "_law_block", .glo "_law_numbers", .glo "_law_is_span", .glo "_law_wholes", .glo "_law_right", .glo "law"]
abbrev Rw : PySem.W.OpenRow := PySem.W.OpenLaw.row PySem.Challenge.rw_strandwright_k41_whole_spans
abbrev hk : PySem.W.Hook := He.hookD 4 faL fnL
def ob (s : PySem.W.SharedT) : He.AlD := He.obsDG 4 faL fnL (HandSHeadRun.getT s)
theorem ob_eq (s : PySem.W.SharedT) : ob s = hk.obs s.abs := He.obsDG_eq (HandSHeadRun.getT_eq s)
def looseN0 : List Str := ["spans_in", "is_parted", "whole_spans", "_law_deal", "_law_draw", "_law_farther", "_law_put_in", "_law_block", "_law_numbers", "_law_is_span", "_law_wholes", "_law_right"]
abbrev looseN : List Str := ["spans_in", "is_parted", "whole_spans", "_law_deal", "_law_draw", "_law_farther", "_law_put_in", "_law_block", "_law_numbers", "_law_is_span", "_law_wholes", "_law_right"]
theorem run (w : World) : HandSHeadRun.RunEq Rw (PySem.W.view Rw.prog [14]) hk ob 20000 looseN w := by
  intro os
  kernel_rfl
theorem bt_of {h : Heap} {mg : Str → Option Value} {K : PySem.W.Frag} (X : K.In h) (G : h.Ns mainGlobals mg) (c : He.SaysD faL fnL K) : Bt mg := fun x hx => by
  have m : He.Fa.free x ∈ faL := by
    have e : faL = Bts.map He.Fa.free ++ faL.drop 21 := rfl
    rw [e]
    exact List.mem_append_left _ (List.mem_map_of_mem hx)
  obtain ⟨i, hi⟩ := List.getElem?_of_mem m
  exact He.free_ok X G (c.fact i hi)
theorem facts {P : Program} {w : World} {K : PySem.W.Frag} {h : Heap} {mg : Str → Option Value} {f : Addr} (X : K.In h) (G : h.Ns mainGlobals mg) (hfa : mg ("law" : Str) = some (.ref f)) (c : He.SaysD faL fnL K) :
    ∃ fd : FuncData, (∀ (s : Shared) (v : Value), BindsTo s fd ⟨[v], []⟩ [("_law_script", v)]) ∧ ∀ base : Heap, K.In base → base.Ns mainGlobals mg → FnOk P w K mg base CX0 4 f fd ["_law_script"] (spLaw ⟨K, P, w⟩) := by
  obtain ⟨fd0, F0⟩ := c.def_ 0 (d := d_spans_in) rfl
  obtain ⟨fd1, F1⟩ := c.def_ 1 (d := d_is_parted) rfl
  obtain ⟨fd2, F2⟩ := c.def_ 2 (d := d_whole_spans) rfl
  obtain ⟨fd3, F3⟩ := c.def_ 3 (d := d_law_deal) rfl
  obtain ⟨fd4, F4⟩ := c.def_ 4 (d := d_law_draw) rfl
  obtain ⟨fd5, F5⟩ := c.def_ 5 (d := d_law_farther) rfl
  obtain ⟨fd6, F6⟩ := c.def_ 6 (d := d_law_put_in) rfl
  obtain ⟨fd7, F7⟩ := c.def_ 7 (d := d_law_block) rfl
  obtain ⟨fd8, F8⟩ := c.def_ 8 (d := d_law_numbers) rfl
  obtain ⟨fd9, F9⟩ := c.def_ 9 (d := d_law_is_span) rfl
  obtain ⟨fd10, F10⟩ := c.def_ 10 (d := d_law_wholes) rfl
  obtain ⟨fd11, F11⟩ := c.def_ 11 (d := d_law_right_3) rfl
  obtain ⟨fd12, F12⟩ := c.def_ 12 (d := d_law_41) rfl
  have g0 := He.glo_ok X G (x := "spans_in") (c.fact 21 rfl)
  have g1 := He.glo_ok X G (x := "is_parted") (c.fact 22 rfl)
  have g2 := He.glo_ok X G (x := "whole_spans") (c.fact 23 rfl)
  have g3 := He.glo_ok X G (x := "_law_deal") (c.fact 24 rfl)
  have g4 := He.glo_ok X G (x := "_law_draw") (c.fact 25 rfl)
  have g5 := He.glo_ok X G (x := "_law_farther") (c.fact 26 rfl)
  have g6 := He.glo_ok X G (x := "_law_put_in") (c.fact 27 rfl)
  have g7 := He.glo_ok X G (x := "_law_block") (c.fact 28 rfl)
  have g8 := He.glo_ok X G (x := "_law_numbers") (c.fact 29 rfl)
  have g9 := He.glo_ok X G (x := "_law_is_span") (c.fact 30 rfl)
  have g10 := He.glo_ok X G (x := "_law_wholes") (c.fact 31 rfl)
  have g11 := He.glo_ok X G (x := "_law_right") (c.fact 32 rfl)
  have e := hfa.symm.trans (He.glo_ok X G (x := "law") (c.fact 33 rfl))
  cases e
  have b := FunD.bindsA (ps := ["_law_script"]) F12 fun _ _ _ _ _ _ us hl => match us, hl with | [_], _ => rfl
  refine ⟨fd12, fun s v => b s [v] rfl, fun base _ _ => ?_⟩
  have bt := bt_of X G c
  have c_spans_in := cal_spans_in (P := P) (w := w) (base := base) bt g0 F0
  have c_is_parted := cal_is_parted (P := P) (w := w) (base := base) bt g1 F1
  have c_whole_spans := cal_whole_spans (P := P) (w := w) (base := base) bt c_spans_in c_is_parted g2 F2
  have c_law_deal := cal_law_deal (P := P) (w := w) (base := base) bt g3 F3
  have c_law_draw := cal_law_draw (P := P) (w := w) (base := base) bt g4 F4
  have c_law_farther := cal_law_farther (P := P) (w := w) (base := base) bt g5 F5
  have c_law_put_in := cal_law_put_in (P := P) (w := w) (base := base) bt c_law_farther g6 F6
  have c_law_block := cal_law_block (P := P) (w := w) (base := base) bt c_law_draw g7 F7
  have c_law_numbers := cal_law_numbers (P := P) (w := w) (base := base) bt c_law_draw c_law_block c_law_put_in g8 F8
  have c_law_is_span := cal_law_is_span (P := P) (w := w) (base := base) bt g9 F9
  have c_law_wholes := cal_law_wholes (P := P) (w := w) (base := base) bt c_law_is_span g10 F10
  have c_law_right_3 := cal_law_right_3 (P := P) (w := w) (base := base) bt c_law_wholes c_whole_spans g11 F11
  exact ok_law_41 bt c_law_deal c_law_right_3 c_law_numbers c_law_draw F12
end SwLaw
open PySem PySem.W PySem.Calls PyProof.Rows
theorem PySem.Challenge.cw_strandwright_k41_whole_spans_holds : PySem.Challenge.rw_strandwright_k41_whole_spans.Holds := by
  w_on; o_law
  refine HandSHeadRun.head_any (r := OpenLaw.row PySem.Challenge.rw_strandwright_k41_whole_spans) (q := view (OpenLaw.row PySem.Challenge.rw_strandwright_k41_whole_spans).prog [14]) (H := SwLaw.hk) (ob := SwLaw.ob) (M := 20000) (loose := SwLaw.looseN) (d := HandSHeadRun.topDef (OpenLaw.row PySem.Challenge.rw_strandwright_k41_whole_spans).prog 14) (kwd := []) SwLaw.ob_eq
    (by kernel_rfl) (fun s => by kernel_rfl) SwLaw.run (by kernel_rfl) (by kernel_rfl) (by kernel_rfl) (by rfl) (by first | assumption | decide +kernel) (by decide +kernel) ⟨rfl, rfl, rfl, rfl, rfl, by decide +kernel⟩ ?hw ?hc
  case hw => w_witness2
  case hc =>
    refine L2.walk_ofE (l := PySem.Challenge.rw_strandwright_k41_whole_spans) (n := 63) (k := 4) (x := "_law_script") (CX := L2.CX0) rfl (by decide) (by kernel_rfl) ⟨rfl, by decide, by decide⟩ ?F (fun _ _ _ _ z => z)
    intro w mg fa h Y G hmg0
    obtain ⟨K, KX, c⟩ := Y
    have hmg : mg ("law" : PySem.Str) = some (.ref fa) := by
      have e : (HandSHeadRun.topDef (OpenLaw.row PySem.Challenge.rw_strandwright_k41_whole_spans).prog 14).name = ("law" : PySem.Str) := by kernel_rfl
      rw [← e]
      exact hmg0
    obtain ⟨fd, hb, hF⟩ := SwLaw.facts (P := (PySem.Challenge.rw_strandwright_k41_whole_spans).prog) (w := w) KX G hmg c
    exact ⟨K, fd, Sw.spLaw ⟨K, (PySem.Challenge.rw_strandwright_k41_whole_spans).prog, w⟩, KX, hb, fun H a ns hl _ hS => ⟨a, ns, rfl, hl, hS, fun _ => rfl⟩, hF⟩
