import PyProof.Rows.All
import Wide.All
import OpenK.AllK
import Wide.FinOn
import HandS.ForMost
import HandS.Deep
import HandS.IsInst
import HandS.Exc
import HandS.ExcOwn
import HandS.TryOnly
import HandS.TryMany
import HandS.ExcCtx
import HandS.Conv
import KE.KDictKeyed
import KE.KeyNested
import HandS.TupAny
import HandS.Style
import KE.DataEq
import PyProof.StrBlock2
import HandS.Defaults
import HandS.HeadHook2
import HandS.HeadWalk
import HandS.Text
import KE.SortData
import KE.DataMinMax
import KE.DataCmp
import HandS.Iter
import HandS.SetFor
import HandS.SetKeys
import HandS.TupSets
import HandS.HeadHook1
import HandS.HeadHook3
import HandS.ExcInit
import HandS.ExcField
import HandS.ExcIs
import HandS.CallSlots
import HandS.Small
import KE.KExcIs
import HandS.JoinGen
import HandS.SetBool
import HandS.Head0
import HandS.Head1
import HandS.Head2
import HandS.HeadEnd
import HandS.Walk
import HandS.StrMore
import HandS.StrSplit
import HandS.MapJoin
import KE.SortKeyHeap
import HandS.FromBytesMap
import HandS.SortKw
import HandS.TupLe
import KE.KDictSum
import KE.KDictCopyH
import PyProof.TupleOfSeq
import HandS.RaiseMore
import PyProof.ListStr
import PyProof.TupleOfStr
import HandS.Strs
import KE.KDictDisplayH
import KE.KItemsList
import HandS.DictTup
import HandS.TupLen
import HandS.Rev
import HandS.List
import HandS.RaiseFrom
import HandS.SuiteRaise
import HandS.ExcInitHot
import HandS.HotCalls
import PySem.Challenge.RW_strandwright_k50_whole_first_changes
set_option Elab.async false
set_option linter.all false
set_option maxRecDepth 100000
namespace Sw
open PySem PySem.Spec L2

structure FgK where
  K : PySem.W.Frag
  P : Program
  w : World
instance : Coe FgK PySem.W.Frag := ⟨FgK.K⟩

abbrev D := PyData
def kD : Key → D
  | .inl i => .int i
  | .inr x => .str x
/-- a key as data -/
def nkD : NestedKey → D := NestedKey.data
/-- what stands at a: a dict whose keys are tuples, the tuples' places by it -/
def IsN (K : FgK) (a : Addr) (xs : List (NestedKey × Addr × V)) (o : HO) : Prop :=
  o = .ext fun h => xs.length ≤ sizeLine ∧ (a == sysModules) = false ∧ (∀ x ∈ xs, ∃ z, x.1 = .tup z ∧ x.1.depth ≤ 8) ∧ ∃ us : List (NestedKey × Addr × Value), Paired (fun (p : NestedKey × Addr × V) (q : NestedKey × Addr × Value) => p.1 = q.1 ∧ p.2.1 = q.2.1 ∧ RelV p.2.2 q.2.2) xs us ∧
    ∃ ob es ep, h.get? a = some ob ∧ ob.ExactDict ∧ ob.data = .dict es ep ∧ es.toList = us.map (entryOfKey (nestedKind K.P K.w)) ∧ (us.map (·.1)).Nodup
/-- a tuple that is tracked, or written -/
def TupAt (K : FgK) (H : Hp) (a : Addr) (xs : List V) : Prop := H a = some (.tup xs) ∨ SqT K (fun _ => none) a xs
theorem TupAt.sqT {K : FgK} {H : Hp} {a : Addr} {xs : List V} (h : TupAt K H a xs) : SqT K H a xs := by
  rcases h with h | (h | ⟨o, h⟩) | h
  · exact SqT.of h
  · cases h
  · cases h
  · exact .inr h
mutual
def At (K : FgK) (H : Hp) : D → V → Prop
  | .none, v => v = .non
  | .bool b, v => v = .bl b
  | .int i, v => v = .int i
  | .str x, v => v = .str x
  | .list ds, v => ∃ a xs, v = .ref a ∧ H a = some (.lst xs) ∧ AtAll K H ds xs
  | .tuple ds, v => ∃ a xs, v = .ref a ∧ TupAt K H a xs ∧ AtAll K H ds xs
  | .dict kds, v => ∃ a od o, v = .ref a ∧ H a = some (.frz od o) ∧ ((∃ kvs, o = .dK kvs ∧ AtK K H kds kvs) ∨ ∃ xs, IsN K a xs o ∧ AtN K H kds xs)
def AtAll (K : FgK) (H : Hp) : List D → List V → Prop
  | [], xs => xs = []
  | d :: ds, xs => ∃ x r, xs = x :: r ∧ At K H d x ∧ AtAll K H ds r
def AtK (K : FgK) (H : Hp) : List (D × D) → List (Key × V) → Prop
  | [], xs => xs = []
  | (k, d) :: ds, xs => ∃ kk x r, xs = (kk, x) :: r ∧ k = kD kk ∧ At K H d x ∧ AtK K H ds r
def AtN (K : FgK) (H : Hp) : List (D × D) → List (NestedKey × Addr × V) → Prop
  | [], xs => xs = []
  | (k, d) :: ds, xs => ∃ kk b x r, xs = (kk, b, x) :: r ∧ k = nkD kk ∧ At K H k (.ref b) ∧ At K H d x ∧ AtN K H ds r
end
abbrev Le (F F' : Hp) : Prop := ∀ b o, F b = some o → F' b = some o
theorem Le.rfl' {F : Hp} : Le F F := fun _ _ h => h
theorem Le.trans' {F F' F'' : Hp} (a : Le F F') (b : Le F' F'') : Le F F'' := fun c o h => b c o (a c o h)
theorem Le.tupAt {K : FgK} {F F' : Hp} (h : Le F F') {a : Addr} {xs : List V} (q : TupAt K F a xs) : TupAt K F' a xs := by
  rcases q with q | q
  · exact .inl (h _ _ q)
  · exact .inr q
section
variable {K : FgK} {F F' : Hp}
mutual
theorem At.mono (h : Le F F') : ∀ (d : D) (v : V), At K F d v → At K F' d v
  | .none, v, q => by simpa [At] using q
  | .bool b, v, q => by simpa [At] using q
  | .int i, v, q => by simpa [At] using q
  | .str x, v, q => by simpa [At] using q
  | .list ds, v, q => by
    simp only [At] at q ⊢
    obtain ⟨a, xs, e, q, r⟩ := q
    exact ⟨a, xs, e, h _ _ q, AtAll.mono h ds xs r⟩
  | .tuple ds, v, q => by
    simp only [At] at q ⊢
    obtain ⟨a, xs, e, q, r⟩ := q
    exact ⟨a, xs, e, Le.tupAt h q, AtAll.mono h ds xs r⟩
  | .dict kds, v, q => by
    simp only [At] at q ⊢
    obtain ⟨a, od, o, e, q0, q⟩ := q
    rcases q with ⟨kvs, q, r⟩ | ⟨xs, q, r⟩
    · exact ⟨a, od, o, e, h _ _ q0, .inl ⟨kvs, q, AtK.mono h kds kvs r⟩⟩
    · exact ⟨a, od, o, e, h _ _ q0, .inr ⟨xs, q, AtN.mono h kds xs r⟩⟩
theorem AtAll.mono (h : Le F F') : ∀ (ds : List D) (xs : List V), AtAll K F ds xs → AtAll K F' ds xs
  | [], xs, q => by simpa [AtAll] using q
  | d :: ds, xs, q => by
    simp only [AtAll] at q ⊢
    obtain ⟨x, r, e, q, s⟩ := q
    exact ⟨x, r, e, At.mono h d x q, AtAll.mono h ds r s⟩
theorem AtK.mono (h : Le F F') : ∀ (ds : List (D × D)) (xs : List (Key × V)), AtK K F ds xs → AtK K F' ds xs
  | [], xs, q => by simpa [AtK] using q
  | (k, d) :: ds, xs, q => by
    simp only [AtK] at q ⊢
    obtain ⟨kk, x, r, e, e2, q, s⟩ := q
    exact ⟨kk, x, r, e, e2, At.mono h d x q, AtK.mono h ds r s⟩
theorem AtN.mono (h : Le F F') : ∀ (ds : List (D × D)) (xs : List (NestedKey × Addr × V)), AtN K F ds xs → AtN K F' ds xs
  | [], xs, q => by simpa [AtN] using q
  | (k, d) :: ds, xs, q => by
    simp only [AtN] at q ⊢
    obtain ⟨kk, b, x, r, e, e2, q1, q, s⟩ := q
    exact ⟨kk, b, x, r, e, e2, At.mono h k (.ref b) q1, At.mono h d x q, AtN.mono h ds r s⟩
end
theorem AtAll.nil : AtAll K F [] [] := by simp [AtAll]
theorem AtAll.cons {d : D} {ds : List D} {x : V} {xs : List V} (h : At K F d x) (r : AtAll K F ds xs) : AtAll K F (d :: ds) (x :: xs) := by
  simp only [AtAll]
  exact ⟨x, xs, rfl, h, r⟩
theorem AtAll.len : ∀ {ds : List D} {xs : List V}, AtAll K F ds xs → xs.length = ds.length
  | [], xs, h => by simp only [AtAll] at h; subst h; rfl
  | d :: ds, xs, h => by
    simp only [AtAll] at h
    obtain ⟨x, r, rfl, _, q⟩ := h
    simp [AtAll.len q]
theorem AtAll.app : ∀ {ds es : List D} {xs ys : List V}, AtAll K F ds xs → AtAll K F es ys → AtAll K F (ds ++ es) (xs ++ ys)
  | [], es, xs, ys, h, g => by simp only [AtAll] at h; subst h; exact g
  | d :: ds, es, xs, ys, h, g => by
    simp only [AtAll] at h
    obtain ⟨x, r, rfl, a, q⟩ := h
    exact AtAll.cons a (AtAll.app q g)
theorem AtAll.get : ∀ {ds : List D} {xs : List V} {i : Nat} {d : D}, AtAll K F ds xs → ds[i]? = some d → ∃ x, xs[i]? = some x ∧ At K F d x
  | [], _, _, _, _, e => by simp at e
  | d :: ds, xs, i, d', h, e => by
    simp only [AtAll] at h
    obtain ⟨x, r, rfl, a, q⟩ := h
    cases i with
    | zero => simp at e; subst e; exact ⟨x, rfl, a⟩
    | succ i => exact AtAll.get (i := i) q (by simpa using e)
theorem AtAll.set : ∀ {ds : List D} {xs : List V} {i : Nat} {d : D} {x : V}, AtAll K F ds xs → At K F d x → AtAll K F (ds.set i d) (xs.set i x)
  | [], xs, i, d, x, h, g => by simp only [AtAll] at h; subst h; exact AtAll.nil
  | d0 :: ds, xs, i, d, x, h, g => by
    simp only [AtAll] at h
    obtain ⟨y, r, rfl, a, q⟩ := h
    cases i with
    | zero => exact AtAll.cons g q
    | succ i => exact AtAll.cons a (AtAll.set q g)
theorem AtAll.drop : ∀ {ds : List D} {xs : List V} (n : Nat), AtAll K F ds xs → AtAll K F (ds.drop n) (xs.drop n)
  | _, _, 0, h => h
  | [], xs, n + 1, h => by simp only [AtAll] at h; subst h; exact AtAll.nil
  | d :: ds, xs, n + 1, h => by
    simp only [AtAll] at h
    obtain ⟨y, r, rfl, a, q⟩ := h
    exact AtAll.drop n q
theorem AtAll.take : ∀ {ds : List D} {xs : List V} (n : Nat), AtAll K F ds xs → AtAll K F (ds.take n) (xs.take n)
  | _, _, 0, h => by simp; exact AtAll.nil
  | [], xs, n + 1, h => by simp only [AtAll] at h; subst h; exact AtAll.nil
  | d :: ds, xs, n + 1, h => by
    simp only [AtAll] at h
    obtain ⟨y, r, rfl, a, q⟩ := h
    exact AtAll.cons a (AtAll.take n q)
end

inductive Ct where
  | lst (ds : List D)
  /-- t: the keys are tuples -/
  | dic (t : Bool) (kds : List (D × D))
def Ct.toD : Ct → D
  | .lst ds => .list ds
  | .dic _ kds => .dict kds
inductive SV where
  | un
  /-- a slot that holds just this value (an exception in hand) -/
  | raw (v : V)
  | dat (d : D)
  /-- a list or a dict that only this slot holds; l: it was lent by the caller -/
  | obj (l : Bool) (c : Ct)
abbrev SV.own (l : Bool) (ds : List D) : SV := .obj l (.lst ds)
abbrev SV.dic (t : Bool) (kds : List (D × D)) : SV := .obj false (.dic t kds)
/-- what stands at p is this list, this dict -/
def CtOk (K : FgK) (F : Hp) (p : Addr) (o : HO) : Ct → Prop
  | .lst ds => ∃ xs, o = .lst xs ∧ AtAll K F ds xs
  | .dic false kds => ∃ kvs, o = .dK kvs ∧ AtK K F kds kvs
  | .dic true kds => ∃ xs, IsN K p xs o ∧ AtN K F kds xs
theorem CtOk.mono {K : FgK} {F F' : Hp} (h : Le F F') {p : Addr} {o : HO} {c : Ct} (a : CtOk K F p o c) : CtOk K F' p o c := by
  cases c with
  | lst ds =>
    obtain ⟨xs, e, a⟩ := a
    exact ⟨xs, e, AtAll.mono h _ _ a⟩
  | dic t kds =>
    cases t with
    | false =>
      obtain ⟨xs, e, a⟩ := a
      exact ⟨xs, e, AtK.mono h _ _ a⟩
    | true =>
      obtain ⟨xs, e, a⟩ := a
      exact ⟨xs, e, AtN.mono h _ _ a⟩
structure Ec where
  H0 : Hp
  F0 : Hp
  la : Option Addr
def Own (σ : L2.St) (env : List SV) (b : Addr) : Prop := ∃ (i : Nat) (l : Bool) (c : Ct), env[i]? = some (SV.obj l c) ∧ σ[i]? = some (some (.ref b))
def SlotOk (K : FgK) (C : Ec) (H F : Hp) (o : Option (Option V)) : SV → Prop
  | .un => True
  | .raw v => o = some (some v)
  | .dat d => ∃ v, o = some (some v) ∧ At K F d v
  | .obj l c => ∃ p u, o = some (some (.ref p)) ∧ H p = some u ∧ F p = none ∧ (if l = true then C.la = some p else C.H0 p = none) ∧ CtOk K F p u c
structure RelB (K : FgK) (C : Ec) (σ : L2.St) (H F : Hp) (env : List SV) : Prop where
  frz : Le F H
  mono : Le C.F0 F
  new : ∀ b o, F b = some o → C.F0 b = some o ∨ C.H0 b = none
  frame : ∀ b o, C.H0 b = some o → C.la ≠ some b → H b = some o
  la : ∀ a, C.la = some a → (∃ xs, H a = some (.lst xs)) ∧ F a = none ∧ ∃ o, C.H0 a = some o
  len : env.length = σ.length
  slot : ∀ (i : Nat) (sv : SV), env[i]? = some sv → SlotOk K C H F σ[i]? sv
  dist : ∀ (i j : Nat) (l : Bool) (ds : Ct) (m : Bool) (es : Ct), env[i]? = some (SV.obj l ds) → env[j]? = some (SV.obj m es) → σ[i]? = σ[j]? → i = j
/-- a refusal: its class, its field and what the field holds -/
structure XV where
  c : Str
  f : Option (Str × D)
/-- what is wished of a refusal, with the slots as they then are -/
abbrev XP := XV → List SV → Prop
/-- a datum that is no object, as a value -/
def atomV : D → Option V
  | .none => some .non
  | .bool b => some (.bl b)
  | .int i => some (.int i)
  | .str x => some (.str x)
  | _ => none
/-- the refusal in the heap: its class's object, its own dict -/
def XvOk (mg : Str → Option Value) (H : Hp) (xv : XV) (cls : Value) (d : Option Addr) : Prop :=
  mg xv.c = some cls ∧ match xv.f with
    | none => d = none
    | some (f, x) => ∃ dd v, d = some dd ∧ H dd = some (.xd [(f, v)]) ∧ atomV x = some v
structure FgX where
  b : FgK
  mg : Str → Option Value
  W : WX
  Ep : XP
  ck : Ec → Prop
instance : Coe FgX FgK := ⟨FgX.b⟩
def XOk (K : FgX) (C : Ec) : Prop := K.ck C ∧ ∀ (σ' : L2.St) (H' F' : Hp) (env' : List SV) (cls : Value) (d : Option Addr) (xv : XV), RelB K.b C σ' H' F' env' → (∀ dd, d = some dd → C.H0 dd = none ∧ F' dd = none ∧ ¬ Own σ' env' dd) → XvOk K.mg H' xv cls d → K.Ep xv env' → K.W cls d σ' H'
structure Rel (K : FgX) (C : Ec) (σ : L2.St) (H F : Hp) (env : List SV) : Prop extends RelB K.b C σ H F env where
  xok : XOk K C
/-- a context with what is wished of refusals -/
theorem sky_imp {B : Heap} {l : List Env} {a : Addr} {Z Z' : Obj → Prop} {L : Addr} {h : Heap} (z : ∀ o, Z o → Z' o) (x : Sky B l a Z L h) : Sky B l a Z' L h := by
  have tr : ∀ {fl : Value}, PySem.HandSPX.TracedZ h B a Z fl → PySem.HandSPX.TracedZ h B a Z' fl := fun x => by
    obtain ⟨oe, vs, T, oT, ts, he, hz, r⟩ := x
    exact ⟨oe, vs, T, oT, ts, he, z _ hz, r⟩
  rcases x with ⟨hB, hn, hl, oe, vs, he, hz, hd, h1⟩ | fl | hh
  · exact .inl ⟨hB, hn, hl, oe, vs, he, z _ hz, hd, h1⟩
  · exact .inr (.inl ⟨fl.1, fl.2.1, fl.2.2.1, tr fl.2.2.2⟩)
  · exact .inr (.inr ⟨hh.1, hh.2.1, hh.2.2.1, tr hh.2.2.2⟩)
/-- what is taken of exceptions: those whose context is None, all of them -/
structure TK (b : Bool) (X : L2.Cx) (W : WX) : Prop where
  n : L2N.Takes X W
  a : b = true → L2.Takes X W
theorem TK.of {b : Bool} {X : L2.Cx} {W : WX} (t : L2.Takes X W) : TK b X W := ⟨fun u s' ⟨a, B, sI, pins, σ, H, cls, d, e, I, nb, up, sky, na, os, ag, w⟩ => t u s' ⟨a, B, sI, pins, σ, H, cls, d, e, I, nb, up, sky_imp (fun _ z => z.zc) sky, na, os, ag, w⟩, fun _ => t⟩
structure Cz extends L2.Cx where
  W : WX
  Ep : XP
  al : Bool
  tk : TK al toCx W
  ck : Ec → Prop
instance : Coe Cz L2.Cx := ⟨Cz.toCx⟩
abbrev Cz.fr (X : Cz) : FgX := ⟨⟨X.K, X.prog, X.w⟩, X.mg, X.W, X.Ep, X.ck⟩
/-- no refusal -/
abbrev wNo : WX := fun _ _ _ _ => False
abbrev pNo : XP := fun _ _ => False
theorem xok_no {K : FgX} {C : Ec} (h : K.Ep = pNo) (c : K.ck C := by trivial) : XOk K C := ⟨c, fun _ _ _ _ _ _ _ _ _ _ e => by rw [h] at e; exact e.elim⟩
structure Stp (K : FgX) (C : Ec) (σ : L2.St) (H F : Hp) (env : List SV) (H' F' : Hp) (env' : List SV) : Prop where
  rel : Rel K C σ H' F' env'
  ff : Le F F'
  fr : ∀ b o, H b = some o → ¬ Own σ env b → H' b = some o
  fn : ∀ b o, F' b = some o → F b = some o ∨ H b = none ∨ Own σ env b
  ow : ∀ (i : Nat) (l : Bool) (ds : Ct), env'[i]? = some (SV.obj l ds) → ∃ ds', env[i]? = some (SV.obj l ds')
  dm : ∀ b, H' b = none → H b = none
section
variable {K : FgX} {C : Ec} {σ : L2.St} {H F H1 F1 H2 F2 : Hp} {env env1 env2 : List SV}
theorem Stp.refl (R : Rel K C σ H F env) : Stp K C σ H F env H F env := ⟨R, fun _ _ h => h, fun _ _ h _ => h, fun _ _ h => .inl h, fun i l ds h => ⟨ds, h⟩, fun _ h => h⟩
theorem Own.sub (w : ∀ (i : Nat) (l : Bool) (ds : Ct), env1[i]? = some (SV.obj l ds) → ∃ ds', env[i]? = some (SV.obj l ds')) {b : Addr} (h : Own σ env1 b) : Own σ env b := by
  obtain ⟨i, l, ds, e, s⟩ := h
  obtain ⟨ds', e'⟩ := w i l ds e
  exact ⟨i, l, ds', e', s⟩
theorem Stp.trans (a : Stp K C σ H F env H1 F1 env1) (b : Stp K C σ H1 F1 env1 H2 F2 env2) : Stp K C σ H F env H2 F2 env2 where
  rel := b.rel
  ff := fun c o h => b.ff c o (a.ff c o h)
  fr := fun c o h n => b.fr c o (a.fr c o h n) fun z => n (Own.sub a.ow z)
  fn := fun c o h => by
    rcases b.fn c o h with z | z | z
    · exact a.fn c o z
    · exact .inr (.inl (a.dm c z))
    · exact .inr (.inr (Own.sub a.ow z))
  ow := fun i l ds h => by
    obtain ⟨ds', e⟩ := b.ow i l ds h
    exact a.ow i l ds' e
  dm := fun c h => a.dm c (b.dm c h)
/-- a new object, known for good -/
theorem Rel.alloc (R : Rel K C σ H F env) {p : Addr} {o : HO} (hp : H p = none) : Stp K C σ H F env (upd H p o) (upd F p o) env := by
  have fp : F p = none := by
    cases q : F p with
    | none => rfl
    | some u => rw [R.frz p u q] at hp; cases hp
  have h0 : C.H0 p = none := by
    cases q : C.H0 p with
    | none => rfl
    | some u =>
      by_cases hl : C.la = some p
      · obtain ⟨⟨xs, e⟩, _⟩ := R.la p hl
        rw [e] at hp; cases hp
      · rw [R.frame p u q hl] at hp; cases hp
  have ff : Le F (upd F p o) := fun b u h => by
    rw [upd_ne (ne_of_none h fp)]; exact h
  refine ⟨⟨⟨fun b u h => ?_, fun b u h => ff b u (R.mono b u h), fun b u h => ?_, fun b u h n => ?_, fun a h => ?_, R.len, fun i sv e => ?_, R.dist⟩, R.xok⟩, ff, fun b u h _ => ?_, fun b u h => ?_, fun i l ds h => ⟨ds, h⟩, fun b h => ?_⟩
  · by_cases e : b = p
    · subst e; rw [upd_same] at h ⊢; exact h
    · rw [upd_ne e] at h ⊢; exact R.frz b u h
  · by_cases e : b = p
    · subst e; exact .inr h0
    · rw [upd_ne e] at h; exact R.new b u h
  · have q := R.frame b u h n
    rw [upd_ne (ne_of_none q hp)]; exact q
  · obtain ⟨⟨xs, e⟩, f, g⟩ := R.la a h
    have ne : a ≠ p := ne_of_none e hp
    exact ⟨⟨xs, by rw [upd_ne ne]; exact e⟩, by rw [upd_ne ne]; exact f, g⟩
  · have q := R.slot i sv e
    cases sv with
    | un => trivial
    | raw z => exact q
    | dat d =>
      obtain ⟨v, e1, a⟩ := q
      exact ⟨v, e1, At.mono ff d v a⟩
    | obj l ds =>
      obtain ⟨r, xs, e1, e2, e3, e4, e5⟩ := q
      have ne : r ≠ p := ne_of_none e2 hp
      exact ⟨r, xs, e1, by rw [upd_ne ne]; exact e2, by rw [upd_ne ne]; exact e3, e4, e5.mono ff⟩
  · rw [upd_ne (ne_of_none h hp)]; exact h
  · by_cases e : b = p
    · subst e; exact .inr (.inl hp)
    · rw [upd_ne e] at h; exact .inl h
  · by_cases e : b = p
    · subst e; exact hp
    · rw [upd_ne e] at h; exact h
/-- a list that stands, not known and in no slot, is known from here on -/
theorem Rel.freeze (R : Rel K C σ H F env) {p : Addr} {o : HO} (hp : H p = some o) (fp : F p = none) (h0 : C.H0 p = none) (no : ¬ Own σ env p) : Rel K C σ H (upd F p o) env := by
  have ff : Le F (upd F p o) := fun b u h => by
    rw [upd_ne (ne_of_none h fp)]; exact h
  refine ⟨⟨fun b u h => ?_, fun b u h => ff b u (R.mono b u h), fun b u h => ?_, R.frame, fun a h => ?_, R.len, fun i sv e => ?_, R.dist⟩, R.xok⟩
  · by_cases e : b = p
    · subst e; rw [upd_same] at h; cases h; exact hp
    · rw [upd_ne e] at h; exact R.frz b u h
  · by_cases e : b = p
    · subst e; exact .inr h0
    · rw [upd_ne e] at h; exact R.new b u h
  · obtain ⟨e, f, g⟩ := R.la a h
    refine ⟨e, ?_, g⟩
    have ne : a ≠ p := by
      rintro rfl
      obtain ⟨o', g⟩ := g
      rw [g] at h0; cases h0
    rw [upd_ne ne]; exact f
  · have q := R.slot i sv e
    cases sv with
    | un => trivial
    | raw z => exact q
    | dat d =>
      obtain ⟨v, e1, a⟩ := q
      exact ⟨v, e1, At.mono ff d v a⟩
    | obj l ds =>
      obtain ⟨r, xs, e1, e2, e3, e4, e5⟩ := q
      have ne : r ≠ p := by
        rintro rfl
        exact no ⟨i, l, ds, e, e1⟩
      exact ⟨r, xs, e1, e2, by rw [upd_ne ne]; exact e3, e4, e5.mono ff⟩
/-- the list of a slot is known from here on -/
theorem Rel.freezeSlot (R : Rel K C σ H F env) {i : Nat} {ds : List D} (he : env[i]? = some (.own false ds)) :
    ∃ F1 p, σ[i]? = some (some (.ref p)) ∧ Stp K C σ H F env H F1 (env.set i (.dat (.list ds))) ∧ At K F1 (.list ds) (.ref p) := by
  obtain ⟨p, u, e1, e2, e3, e4, xs, rfl, e5⟩ := R.slot i _ he
  rw [if_neg (by decide)] at e4
  have ff : Le F (upd F p (.lst xs)) := fun b u h => by
    rw [upd_ne (ne_of_none h e3)]; exact h
  have hi : i < env.length := (List.getElem?_eq_some_iff.mp he).1
  have at1 : At K (upd F p (.lst xs)) (.list ds) (.ref p) := by
    exact (by simp only [At]; exact ⟨p, xs, rfl, upd_same, AtAll.mono ff _ _ e5⟩)
  have oth : ∀ (j : Nat) (l : Bool) (es : Ct), (env.set i (.dat (.list ds)))[j]? = some (.obj l es) → j ≠ i ∧ env[j]? = some (.obj l es) := fun j l es h => by
    by_cases e : j = i
    · subst e; rw [List.getElem?_set_self hi] at h; cases h
    · rw [List.getElem?_set_ne (Ne.symm e)] at h; exact ⟨e, h⟩
  refine ⟨upd F p (.lst xs), p, e1, ⟨⟨⟨fun b u h => ?_, fun b u h => ff b u (R.mono b u h), fun b u h => ?_, R.frame, fun a h => ?_, by rw [List.length_set]; exact R.len, fun j sv e => ?_, fun j k l es m fs h1 h2 h3 => ?_⟩, R.xok⟩, ff, fun b u h _ => h, fun b u h => ?_, fun j l es h => ⟨es, (oth j l es h).2⟩, fun _ h => h⟩, at1⟩
  · by_cases e : b = p
    · subst e; rw [upd_same] at h; cases h; exact e2
    · rw [upd_ne e] at h; exact R.frz b u h
  · by_cases e : b = p
    · subst e; exact .inr e4
    · rw [upd_ne e] at h; exact R.new b u h
  · obtain ⟨e, f, g⟩ := R.la a h
    refine ⟨e, ?_, g⟩
    have ne : a ≠ p := by
      rintro rfl
      obtain ⟨o', g⟩ := g
      rw [g] at e4; cases e4
    rw [upd_ne ne]; exact f
  · by_cases e' : j = i
    · subst e'
      rw [List.getElem?_set_self hi] at e
      cases e
      exact ⟨_, e1, at1⟩
    · rw [List.getElem?_set_ne (Ne.symm e')] at e
      have q := R.slot j sv e
      cases sv with
      | un => trivial
      | raw z => exact q
      | dat d =>
        obtain ⟨v, f1, a⟩ := q
        exact ⟨v, f1, At.mono ff d v a⟩
      | obj l es =>
        obtain ⟨r, ys, f1, f2, f3, f4, f5⟩ := q
        have ne : r ≠ p := by
          rintro rfl
          exact e' (R.dist j i l es false (.lst ds) e he (f1.trans e1.symm))
        exact ⟨r, ys, f1, f2, by rw [upd_ne ne]; exact f3, f4, f5.mono ff⟩
  · obtain ⟨_, h1⟩ := oth j l es h1
    obtain ⟨_, h2⟩ := oth k m fs h2
    exact R.dist j k l es m fs h1 h2 h3
  · by_cases e : b = p
    · subst e; exact .inr (.inr ⟨i, false, .lst ds, he, e1⟩)
    · rw [upd_ne e] at h; exact .inl h
end
end Sw

set_option Elab.async false
set_option linter.all false
set_option maxRecDepth 100000
namespace Sw
open PySem PySem.Spec L2

inductive OV where
  | dv (x : D)
  | sl (i : Nat)
def OvOk (K : FgK) (σ : L2.St) (F : Hp) : OV → V → Prop
  | .dv x, v => At K F x v
  | .sl i, v => σ[i]? = some (some v)
def svD : SV → Option D
  | .dat d => some d
  | .obj _ c => some c.toD
  | .un => none
  | .raw _ => none
/-- the data of a value, as it is now -/
def OV.rd (env : List SV) : OV → Option D
  | .dv x => some x
  | .sl i => env[i]?.bind svD
/-- the data of a value, known from here on -/
def OV.fz (env : List SV) : OV → Option (D × List SV)
  | .dv x => some (x, env)
  | .sl i => match env[i]? with
    | some (.dat d) => some (d, env)
    | some (.obj false (.lst ds)) => some (.list ds, env.set i (.dat (.list ds)))
    | _ => none
def fzAll (env : List SV) : List OV → Option (List D × List SV)
  | [] => some ([], env)
  | o :: r => (o.fz env).bind fun p => (fzAll p.2 r).map fun q => (p.1 :: q.1, q.2)
/-- data that is read: the outermost list may be a slot's own -/
def Vw (K : FgK) (H F : Hp) : D → V → Prop
  | .list ds, v => ∃ p xs, v = .ref p ∧ H p = some (.lst xs) ∧ AtAll K F ds xs
  | .dict kds, v => ∃ p o, v = .ref p ∧ Rd H p o ∧ ∃ t, CtOk K F p o (.dic t kds)
  | d, v => At K F d v
section
variable {K : FgX} {C : Ec} {σ : L2.St} {H F H1 F1 H2 F2 : Hp} {env env1 env2 : List SV} {ov : OV} {v : V} {d : D}
theorem OvOk.of {d : D} (h : At K F d v) : OvOk K σ F (.dv d) v := h
theorem OvOk.mono (h : Le F F1) (a : OvOk K σ F ov v) : OvOk K σ F1 ov v := by
  cases ov with
  | dv x => exact At.mono h x v a
  | sl i => exact a
theorem Vw.of (R : Le F H) (a : At K F d v) : Vw K H F d v := by
  cases d with
  | list ds =>
    simp only [At] at a
    obtain ⟨p, xs, e, h, r⟩ := a
    exact ⟨p, xs, e, R _ _ h, r⟩
  | none => exact a
  | bool b => exact a
  | int i => exact a
  | str x => exact a
  | tuple ds => exact a
  | dict kds =>
    simp only [At] at a
    obtain ⟨p, od, o, e, h, r⟩ := a
    rcases r with r | r
    · exact ⟨p, o, e, .inr ⟨od, R _ _ h⟩, false, r⟩
    · exact ⟨p, o, e, .inr ⟨od, R _ _ h⟩, true, r⟩
theorem rd_vw (R : Rel K C σ H F env) (a : OvOk K σ F ov v) (e : ov.rd env = some d) : Vw K H F d v := by
  cases ov with
  | dv x =>
    simp only [OV.rd, Option.some.injEq] at e
    subst e
    exact Vw.of R.frz a
  | sl i =>
    simp only [OV.rd] at e
    cases q : env[i]? with
    | none => rw [q] at e; cases e
    | some sv =>
      rw [q] at e
      have w := R.slot i sv q
      have a : σ[i]? = some (some v) := a
      cases sv with
      | un => cases e
      | raw z => cases e
      | dat d' =>
        simp only [Option.bind_some, svD, Option.some.injEq] at e
        subst e
        obtain ⟨v', e1, a'⟩ := w
        rw [a] at e1
        cases e1
        exact Vw.of R.frz a'
      | obj l c =>
        simp only [Option.bind_some, svD, Option.some.injEq] at e
        subst e
        obtain ⟨p, u, e1, e2, e3, e4, e5⟩ := w
        rw [a] at e1
        cases e1
        cases c with
        | lst ds =>
          obtain ⟨xs, rfl, e5⟩ := e5
          exact ⟨p, xs, rfl, e2, e5⟩
        | dic t kds => exact ⟨p, u, rfl, .inl e2, t, e5⟩
theorem fz_ok (R : Rel K C σ H F env) (a : OvOk K σ F ov v) (e : ov.fz env = some (d, env1)) : ∃ F1, Stp K C σ H F env H F1 env1 ∧ At K F1 d v := by
  cases ov with
  | dv x =>
    simp only [OV.fz, Option.some.injEq, Prod.mk.injEq] at e
    obtain ⟨rfl, rfl⟩ := e
    exact ⟨F, Stp.refl R, a⟩
  | sl i =>
    have a : σ[i]? = some (some v) := a
    simp only [OV.fz] at e
    split at e
    · rename_i d' q
      simp only [Option.some.injEq, Prod.mk.injEq] at e
      obtain ⟨rfl, rfl⟩ := e
      obtain ⟨v', e1, a'⟩ := R.slot i _ q
      rw [a] at e1
      cases e1
      exact ⟨F, Stp.refl R, a'⟩
    · rename_i ds q
      simp only [Option.some.injEq, Prod.mk.injEq] at e
      obtain ⟨rfl, rfl⟩ := e
      obtain ⟨F1, p, e1, st, a'⟩ := R.freezeSlot q
      rw [a] at e1
      cases e1
      exact ⟨F1, st, a'⟩
    · cases e
def OvsOk (K : FgK) (σ : L2.St) (F : Hp) : List OV → List V → Prop
  | [], vs => vs = []
  | o :: os, vs => ∃ v r, vs = v :: r ∧ OvOk K σ F o v ∧ OvsOk K σ F os r
theorem OvsOk.mono (h : Le F F1) : ∀ {os : List OV} {vs : List V}, OvsOk K σ F os vs → OvsOk K σ F1 os vs
  | [], vs, a => a
  | o :: os, vs, a => by
    obtain ⟨v, r, e, b, c⟩ := a
    exact ⟨v, r, e, b.mono h, OvsOk.mono h c⟩
theorem fzAll_ok : ∀ {os : List OV} {vs : List V} {ds : List D} {F : Hp} {env env1 : List SV}, Rel K C σ H F env → OvsOk K σ F os vs → fzAll env os = some (ds, env1) → ∃ F1, Stp K C σ H F env H F1 env1 ∧ AtAll K F1 ds vs
  | [], vs, ds, F, env, env1, R, a, e => by
    simp only [fzAll, Option.some.injEq, Prod.mk.injEq] at e
    obtain ⟨rfl, rfl⟩ := e
    have a : vs = [] := a
    exact ⟨F, Stp.refl R, by simpa [AtAll] using a⟩
  | o :: os, vs, ds, F, env, env1, R, a, e => by
    obtain ⟨v, r, rfl, b, c⟩ := a
    simp only [fzAll] at e
    cases q : o.fz env with
    | none => rw [q] at e; cases e
    | some p =>
      obtain ⟨d, env2⟩ := p
      rw [q] at e
      simp only [Option.bind_some] at e
      cases q2 : fzAll env2 os with
      | none => rw [q2] at e; cases e
      | some p2 =>
        obtain ⟨ds2, env3⟩ := p2
        rw [q2] at e
        simp only [Option.map_some, Option.some.injEq, Prod.mk.injEq] at e
        obtain ⟨rfl, rfl⟩ := e
        obtain ⟨F1, s1, a1⟩ := fz_ok R b q
        obtain ⟨F2, s2, a2⟩ := fzAll_ok s1.rel (c.mono s1.ff) q2
        exact ⟨F2, s1.trans s2, AtAll.cons (At.mono s2.ff _ _ a1) a2⟩
end

abbrev PE' := List SV → (OV → List SV → Prop) → Prop
abbrev PF' := List SV → (List D → List SV → Prop) → Prop
abbrev PT' := List SV → (Bool → List SV → Prop) → Prop
abbrev PA' := List SV → (List OV → List SV → Prop) → Prop
def LE (K : FgX) (t : TE) (T : PE') : Prop := ∀ (C : Ec) (σ : L2.St) (H F : Hp) (env : List SV) (Q : VK) (Qp : OV → List SV → Prop), Rel K C σ H F env →
  (∀ v H' F' env' ov, Stp K C σ H F env H' F' env' → OvOk K σ F' ov v → Qp ov env' → Q v H') → T env Qp → t σ H Q
/-- a list that nobody else holds -/
def LF (K : FgX) (t : TE) (T : PF') : Prop := ∀ (C : Ec) (σ : L2.St) (H F : Hp) (env : List SV) (Q : VK) (Qp : List D → List SV → Prop), Rel K C σ H F env →
  (∀ p xs ds H' F' env', Stp K C σ H F env H' F' env' → H' p = some (.lst xs) → F' p = none → C.H0 p = none → ¬ Own σ env' p → H p = none → AtAll K F' ds xs → Qp ds env' → Q (.ref p) H') → T env Qp → t σ H Q
def LT (K : FgX) (t : TT) (T : PT') : Prop := ∀ (C : Ec) (σ : L2.St) (H F : Hp) (env : List SV) (Q : Bool → Hp → Prop) (Qp : Bool → List SV → Prop), Rel K C σ H F env →
  (∀ b H' F' env', Stp K C σ H F env H' F' env' → Qp b env' → Q b H') → T env Qp → t σ H Q
def LA (K : FgX) (t : TA) (T : PA') : Prop := ∀ (C : Ec) (σ : L2.St) (H F : Hp) (env : List SV) (Q : List V → Hp → Prop) (Qp : List OV → List SV → Prop), Rel K C σ H F env →
  (∀ vs H' F' env' ovs, Stp K C σ H F env H' F' env' → OvsOk K σ F' ovs vs → Qp ovs env' → Q vs H') → T env Qp → t σ H Q
structure EV (X : Cz) (e : Expr) (T : PE') : Prop where
  ex : ∃ t, PE X e t ∧ LE X.fr t T
structure EF (X : Cz) (e : Expr) (T : PF') : Prop where
  ex : ∃ t, PE X e t ∧ LF X.fr t T
inductive RV where
  | dt (x : D)
  | fr (ds : List D)
def RV.toD : RV → D
  | .dt x => x
  | .fr ds => .list ds
structure PEnds where
  nx : List SV → Prop
  rt : RV → List SV → Prop
  bk : List SV → Prop := fun _ => False
  ct : List SV → Prop := fun _ => False
def RvOk (K : FgK) (C : Ec) (H F : Hp) : RV → V → Prop
  | .dt x, v => At K F x v
  | .fr ds, v => ∃ p xs, v = .ref p ∧ H p = some (.lst xs) ∧ F p = none ∧ C.H0 p = none ∧ AtAll K F ds xs
structure EndsOk (K : FgX) (C : Ec) (F : Hp) (D : Ends) (Dp : PEnds) : Prop where
  nx : ∀ σ' H' F' env', Rel K C σ' H' F' env' → Le F F' → Dp.nx env' → D.nx σ' H'
  rt : ∀ σ' H' F' env' rv v, Rel K C σ' H' F' env' → Le F F' → RvOk K C H' F' rv v → Dp.rt rv env' → D.rt v H'
  bk : ∀ σ' H' F' env', Rel K C σ' H' F' env' → Le F F' → Dp.bk env' → D.bk σ' H'
  ct : ∀ σ' H' F' env', Rel K C σ' H' F' env' → Le F F' → Dp.ct env' → D.ct σ' H'
theorem EndsOk.mono {K : FgX} {C : Ec} {F F1 : Hp} {D : Ends} {Dp : PEnds} (e : EndsOk K C F D Dp) (h : Le F F1) : EndsOk K C F1 D Dp :=
  ⟨fun σ' H' F' env' R l => e.nx σ' H' F' env' R (h.trans' l), fun σ' H' F' env' rv v R l => e.rt σ' H' F' env' rv v R (h.trans' l), fun σ' H' F' env' R l => e.bk σ' H' F' env' R (h.trans' l), fun σ' H' F' env' R l => e.ct σ' H' F' env' R (h.trans' l)⟩
abbrev PS' := PEnds → List SV → Prop
def LS (K : FgX) (t : TS) (T : PS') : Prop := ∀ (C : Ec) (σ : L2.St) (H F : Hp) (env : List SV) (D : Ends) (Dp : PEnds), Rel K C σ H F env → EndsOk K C F D Dp → T Dp env → t D σ H
structure EB (X : Cz) (sts : List Stmt) (T : PS') : Prop where
  ex : ∃ t, PSs X sts t ∧ LS X.fr t T

section
variable {X : Cz}
/-- a list that nobody holds, as any value -/
def qF (T : PF') : PE' := fun env Q => T env fun ds env' => Q (.dv (.list ds)) env'
theorem EF.ev {e : Expr} {T : PF'} (h : EF X e T) : EV X e (qF T) := by
  obtain ⟨t, hp, l⟩ := h.ex
  refine ⟨t, hp, fun C σ H F env Q Qp R k q => ?_⟩
  refine l C σ H F env Q _ R (fun p xs ds H' F' env' st hp fp h0 no hn a q => ?_) q
  have ff : Le F' (upd F' p (.lst xs)) := fun b u h => by
    rw [upd_ne (ne_of_none h fp)]; exact h
  refine k (.ref p) H' (upd F' p (.lst xs)) env' (.dv (.list ds)) ⟨st.rel.freeze hp fp h0 no, st.ff.trans' ff, st.fr, fun b o h => ?_, st.ow, st.dm⟩ ?_ q
  · by_cases e : b = p
    · subst e; exact .inr (.inl hn)
    · rw [upd_ne e] at h; exact st.fn b o h
  · show At X.fr _ _ _
    simp only [At]
    exact ⟨p, xs, rfl, upd_same, AtAll.mono ff _ _ a⟩
theorem At.list_of {K : FgK} {F : Hp} {p : Addr} {xs : List V} {ds : List D} (h : F p = some (.lst xs)) (a : AtAll K F ds xs) : At K F (.list ds) (.ref p) := by
  simp only [At]
  exact ⟨p, xs, rfl, h, a⟩
theorem At.tup_of {K : FgK} {F : Hp} {p : Addr} {xs : List V} {ds : List D} (h : F p = some (.tup xs)) (a : AtAll K F ds xs) : At K F (.tuple ds) (.ref p) := by
  simp only [At]
  exact ⟨p, xs, rfl, .inl h, a⟩
end
end Sw

set_option Elab.async false
set_option linter.all false
set_option maxRecDepth 100000
namespace Sw
open PySem PySem.Spec L2

def LO2 (K : FgX) (r : R2) (g : D → D → Option D) : Prop := ∀ (C : Ec) (σ : L2.St) (H F : Hp) (env : List SV) (x y : V) (dx dy d : D) (Q : VK), Rel K C σ H F env → Vw K H F dx x → Vw K H F dy y → g dx dy = some d →
  (∀ v H' F', Stp K C σ H F env H' F' env → At K F' d v → Q v H') → r x y H Q
theorem LO2.or {K : FgX} {r r' : R2} {g g' : D → D → Option D} (h : LO2 K r g) (h' : LO2 K r' g') : LO2 K (fun x y H Q => r x y H Q ∨ r' x y H Q) (fun a b => (g a b).or (g' a b)) := fun C σ H F env x y dx dy d Q R a b e k => by
  have e : (g dx dy).or (g' dx dy) = some d := e
  cases q : g dx dy with
  | none =>
    rw [q] at e
    exact .inr (h' C σ H F env x y dx dy d Q R a b e k)
  | some z =>
    rw [q] at e
    cases e
    exact .inl (h C σ H F env x y dx dy d Q R a b q k)
section
variable {X : Cz} {K : FgX}
def qOp (g : D → D → Option D) (A B : PE') : PE' := fun env Q => A env fun o1 env1 => B env1 fun o2 env2 => ∃ d1, o1.rd env2 = some d1 ∧ ∃ d2, o2.rd env2 = some d2 ∧ ∃ d, g d1 d2 = some d ∧ Q (.dv d) env2
theorem LE.op {r : R2} {g : D → D → Option D} {ta tb : TE} {A B : PE'} (hl : LO2 K r g) (la : LE K ta A) (lb : LE K tb B) : LE K (tOp r ta tb) (qOp g A B) := fun C σ H F env Q Qp R k q => by
  refine la C σ H F env _ _ R (fun v1 H1 F1 env1 o1 s1 a1 q1 => ?_) q
  refine lb C σ H1 F1 env1 _ _ s1.rel (fun v2 H2 F2 env2 o2 s2 a2 q2 => ?_) q1
  obtain ⟨d1, e1, d2, e2, d, e, q2⟩ := q2
  exact hl C σ H2 F2 env2 v1 v2 d1 d2 d Q s2.rel (rd_vw s2.rel (a1.mono s2.ff) e1) (rd_vw s2.rel a2 e2) e fun v H' F' s3 a3 => k v H' F' env2 (.dv d) ((s1.trans s2).trans s3) a3 q2
/-- a value that is a bool, as a test -/
def qTest (A : PE') : PT' := fun env Q => A env fun o env1 => ∃ b, o.rd env1 = some (.bool b) ∧ Q b env1
theorem LT.test {ta : TE} {A : PE'} (la : LE K ta A) : LT K (fun σ H Q => ta σ H fun x H' => ∃ k, x = .bl k ∧ Q k H') (qTest A) := fun C σ H F env Q Qp R k q => by
  refine la C σ H F env _ _ R (fun v1 H1 F1 env1 o1 s1 a1 q1 => ?_) q
  obtain ⟨b, e, q1⟩ := q1
  have w := rd_vw s1.rel a1 e
  have w : v1 = .bl b := by simpa [Vw, At] using w
  exact ⟨b, w, k b H1 F1 env1 s1 q1⟩
theorem Vw.int {H F : Hp} {i : Int} {x : V} (h : Vw K H F (.int i) x) : x = .int i := by simpa [Vw, At] using h
theorem Vw.str {H F : Hp} {i : Str} {x : V} (h : Vw K H F (.str i) x) : x = .str i := by simpa [Vw, At] using h
theorem Vw.bl {H F : Hp} {i : Bool} {x : V} (h : Vw K H F (.bool i) x) : x = .bl i := by simpa [Vw, At] using h
theorem Vw.non {H F : Hp} {x : V} (h : Vw K H F .none x) : x = .non := by simpa [Vw, At] using h
theorem Vw.tup0 {H F : Hp} {ds : List D} {x : V} (R : Le F H) (h : Vw K H F (.tuple ds) x) : ∃ a xs, x = .ref a ∧ TupAt K H a xs ∧ AtAll K F ds xs := by
  have h : At K F (.tuple ds) x := h
  simp only [At] at h
  obtain ⟨a, xs, e, q, r⟩ := h
  exact ⟨a, xs, e, Le.tupAt R q, r⟩
theorem Vw.tup {H F : Hp} {ds : List D} {x : V} (R : Le F H) (h : Vw K H F (.tuple ds) x) : ∃ a xs, x = .ref a ∧ SqT K H a xs ∧ AtAll K F ds xs := by
  obtain ⟨a, xs, e, q, r⟩ := h.tup0 R
  exact ⟨a, xs, e, q.sqT, r⟩
end
end Sw

set_option Elab.async false
set_option linter.all false
set_option maxRecDepth 100000
namespace Sw
open PySem PySem.Spec L2

def cutD {α : Type} (xs : List α) (lo hi : Option Int) : List α := (xs.drop (HT.sIx xs.length 0 lo)).take (HT.sIx xs.length xs.length hi - HT.sIx xs.length 0 lo)
section
variable {X : Cz} {K : FgX}
theorem AtAll.cut {F : Hp} {ds : List D} {xs : List V} {lo hi : Option Int} (h : AtAll K F ds xs) : AtAll K F (cutD ds lo hi) (cutV xs lo hi) := by
  unfold cutD cutV
  rw [h.len]
  exact (h.drop _).take _
def VwAll (K : FgK) (H F : Hp) : List D → List V → Prop
  | [], xs => xs = []
  | d :: ds, xs => ∃ x r, xs = x :: r ∧ Vw K H F d x ∧ VwAll K H F ds r
theorem VwAll.one {H F : Hp} {d : D} {xs : List V} (h : VwAll K H F [d] xs) : ∃ x, xs = [x] ∧ Vw K H F d x := by
  obtain ⟨x, r, rfl, a, q⟩ := h
  have q : r = [] := q
  subst q
  exact ⟨x, rfl, a⟩
theorem VwAll.two {H F : Hp} {d e : D} {xs : List V} (h : VwAll K H F [d, e] xs) : ∃ x y, xs = [x, y] ∧ Vw K H F d x ∧ Vw K H F e y := by
  obtain ⟨x, r, rfl, a, q⟩ := h
  obtain ⟨y, rfl, b⟩ := VwAll.one q
  exact ⟨x, y, rfl, a, b⟩
/-- the classes asked for -/
inductive Ty where | str | int | bool | list | tuple | dict
def Ty.name : Ty → String
  | .str => "str" | .int => "int" | .bool => "bool" | .list => "list" | .tuple => "tuple" | .dict => "dict"
theorem IsN.obj {P : Program} {w : World} {K : FgK} {a : Addr} {zs : List (NestedKey × Addr × V)} {o : HO} {H : Hp} {h : Heap} (n : IsN K a zs o) (q : ObjOk P w H h a o) : zs.length ≤ sizeLine ∧ (a == sysModules) = false ∧ (∀ x ∈ zs, ∃ z, x.1 = .tup z ∧ x.1.depth ≤ 8) ∧ ∃ us : List (NestedKey × Addr × Value), Paired (fun (p : NestedKey × Addr × V) (q : NestedKey × Addr × Value) => p.1 = q.1 ∧ p.2.1 = q.2.1 ∧ RelV p.2.2 q.2.2) zs us ∧
    ∃ ob es ep, h.get? a = some ob ∧ ob.ExactDict ∧ ob.data = .dict es ep ∧ es.toList = us.map (entryOfKey (nestedKind K.P K.w)) ∧ (us.map (·.1)).Nodup := by
  have n : o = _ := n
  subst n
  exact q.1
end
end Sw

set_option Elab.async false
set_option linter.all false
set_option maxRecDepth 100000
namespace Sw
open PySem PySem.Spec L2

section
variable {X : Cz} {K : FgX}
abbrev TG' := D → List SV → (List SV → Prop) → Prop
/-- what a target leaves: only the slots S have changed, they hold data -/
structure Tgt (S : List Nat) (σ σ' : L2.St) (env env' : List SV) : Prop where
  oth : ∀ j, j ∉ S → σ'[j]? = σ[j]? ∧ env'[j]? = env[j]?
  mem : ∀ j l ds, j ∈ S → env'[j]? = some (SV.obj l ds) → env[j]? = some (SV.obj l ds) ∧ σ'[j]? = σ[j]?
  len : σ'.length = σ.length
def LG (K : FgX) (S : List Nat) (t : TG) (T : TG') : Prop := ∀ (C : Ec) (σ : L2.St) (H F : Hp) (env : List SV) (v : V) (d : D) (Q : L2.St → Hp → Prop) (Qp : List SV → Prop), Rel K C σ H F env → At K F d v →
  (∀ σ' env', Rel K C σ' H F env' → Tgt S σ σ' env env' → Qp env' → Q σ' H) → T d env Qp → t v σ H Q
theorem Tgt.trans {S S' : List Nat} {σ σ1 σ2 : L2.St} {env env1 env2 : List SV} (a : Tgt S σ σ1 env env1) (b : Tgt S' σ1 σ2 env1 env2) : Tgt (S ++ S') σ σ2 env env2 := by
  refine ⟨fun j hj => ?_, fun j l ds hj h => ?_, b.len.trans a.len⟩
  · rw [List.mem_append, not_or] at hj
    obtain ⟨e1, e2⟩ := a.oth j hj.1
    obtain ⟨e3, e4⟩ := b.oth j hj.2
    exact ⟨e3.trans e1, e4.trans e2⟩
  · by_cases hb : j ∈ S'
    · obtain ⟨e1, e2⟩ := b.mem j l ds hb h
      by_cases ha : j ∈ S
      · obtain ⟨e3, e4⟩ := a.mem j l ds ha e1
        exact ⟨e3, e2.trans e4⟩
      · obtain ⟨e3, e4⟩ := a.oth j ha
        exact ⟨e4.symm.trans e1, e2.trans e3⟩
    · obtain ⟨e1, e2⟩ := b.oth j hb
      rw [e2] at h
      by_cases ha : j ∈ S
      · obtain ⟨e3, e4⟩ := a.mem j l ds ha h
        exact ⟨e3, e1.trans e4⟩
      · obtain ⟨e3, e4⟩ := a.oth j ha
        exact ⟨e4.symm.trans h, e1.trans e3⟩
def YOk (K : FgK) (F : Hp) (o : Option D) (H : Hp) (x : V) (H' : Hp) : Prop :=
  (H' = H ∧ ∃ d, o = some d ∧ At K F d x) ∨ ∃ T xs es, H T = none ∧ H' = upd H T (.tup xs) ∧ x = .ref T ∧ o = some (.tuple es) ∧ AtAll K F es xs
/-- an item has come -/
theorem YOk.rel {C : Ec} {σ : L2.St} {H F : Hp} {env : List SV} {o : Option D} {x : V} {H' : Hp} (R : Rel K C σ H F env) (y : YOk K F o H x H') : ∃ F' d, o = some d ∧ Stp K C σ H F env H' F' env ∧ At K F' d x := by
  rcases y with ⟨rfl, d, e, a⟩ | ⟨T, xs, es, hT, rfl, rfl, e, a⟩
  · exact ⟨F, d, e, Stp.refl R, a⟩
  · have s := R.alloc (o := .tup xs) hT
    exact ⟨_, _, e, s, At.tup_of upd_same (AtAll.mono s.ff _ _ a)⟩
theorem YOk.mono {F F' : Hp} (h : Le F F') {o : Option D} {H H' : Hp} {x : V} (y : YOk K F o H x H') : YOk K F' o H x H' := by
  rcases y with ⟨e, d, e2, a⟩ | ⟨T, xs, es, hT, e1, e2, e, a⟩
  · exact .inl ⟨e, d, e2, At.mono h _ _ a⟩
  · exact .inr ⟨T, xs, es, hT, e1, e2, e, AtAll.mono h _ _ a⟩
end
end Sw

set_option Elab.async false
set_option linter.all false
set_option maxRecDepth 100000
namespace Sw
open PySem PySem.Spec L2

section
variable {X : Cz} {K : FgX}
def LMO (K : FgK) (r : V → List V → Hp → VK → Prop) (g : List D → List D → Option (D × List D)) : Prop := ∀ (H F : Hp) (p : Addr) (xs ys : List V) (ds es ds' : List D) (d : D) (Q : VK), H p = some (.lst xs) → AtAll K F ds xs → AtAll K F es ys → g ds es = some (d, ds') →
  (∀ v xs', At K F d v → AtAll K F ds' xs' → Q v (upd H p (.lst xs'))) → r (.ref p) ys H Q
theorem AtAll.one {F : Hp} {d : D} {xs : List V} (h : AtAll K F [d] xs) : ∃ x, xs = [x] ∧ At K F d x := by
  simp only [AtAll] at h
  obtain ⟨x, r, rfl, a, q⟩ := h
  subst q
  exact ⟨x, rfl, a⟩
end

section
variable {K : FgX} {C : Ec} {σ : L2.St} {H F : Hp} {env : List SV} {vs : List Nat}
/-- an object that nobody knows is changed -/
theorem Stp.other {H1 F1 H4 F4 : Hp} {env1 env4 : List SV} (acc : Stp K C σ H1 F1 env1 H4 F4 env4) {p : Addr} {o u : HO} (h1 : H1 p = none) (hp : H4 p = some u) (fp : F4 p = none) (h0 : C.H0 p = none) (no : ¬ Own σ env4 p) : Stp K C σ H1 F1 env1 (upd H4 p o) F4 env4 := by
  have R := acc.rel
  refine ⟨⟨⟨fun b v h => ?_, R.mono, R.new, fun b v h n => ?_, fun a h => ?_, R.len, fun i sv e => ?_, R.dist⟩, R.xok⟩, acc.ff, fun b v h n => ?_, acc.fn, acc.ow, fun b h => ?_⟩
  · rw [upd_ne (ne_of_none h fp)]; exact R.frz b v h
  · rw [upd_ne (ne_of_none h h0)]; exact R.frame b v h n
  · obtain ⟨e, f, o', g⟩ := R.la a h
    refine ⟨?_, f, o', g⟩
    obtain ⟨xs, e⟩ := e
    exact ⟨xs, by rw [upd_ne (ne_of_none g h0)]; exact e⟩
  · have q := R.slot i sv e
    cases sv with
    | un => trivial
    | raw z => exact q
    | dat d => exact q
    | obj l ds =>
      obtain ⟨r, xs, e1, e2, e3, e4, e5⟩ := q
      have ne : r ≠ p := by
        rintro rfl
        exact no ⟨i, l, ds, e, e1⟩
      exact ⟨r, xs, e1, by rw [upd_ne ne]; exact e2, e3, e4, e5⟩
  · rw [upd_ne (ne_of_none h h1)]; exact acc.fr b v h n
  · by_cases e : b = p
    · subst e; exact h1
    · rw [upd_ne e] at h; exact acc.dm b h
end
section
variable {X : Cz}
abbrev FgX.no (K : FgX) : FgX := ⟨K.b, K.mg, wNo, pNo, fun _ => True⟩
section
variable {K : FgX} {C : Ec} {σ : L2.St} {H F H' F' : Hp} {env env' : List SV}
theorem Rel.dn (R : Rel K C σ H F env) : Rel K.no C σ H F env := ⟨R.toRelB, xok_no rfl⟩
theorem Rel.up (R : Rel K.no C σ H F env) (x : XOk K C) : Rel K C σ H F env := ⟨R.toRelB, x⟩
theorem Stp.up (s : Stp K.no C σ H F env H' F' env') (x : XOk K C) : Stp K C σ H F env H' F' env' := ⟨s.rel.up x, s.ff, s.fr, s.fn, s.ow, s.dm⟩
theorem LE.up {t : TE} {T : PE'} (h : LE K.no t T) : LE K t T := fun C σ H F env Q Qp R k q => h C σ H F env Q Qp R.dn (fun v H' F' env' ov st => k v H' F' env' ov (st.up R.xok)) q
theorem LT.up {t : TT} {T : PT'} (h : LT K.no t T) : LT K t T := fun C σ H F env Q Qp R k q => h C σ H F env Q Qp R.dn (fun b H' F' env' st => k b H' F' env' (st.up R.xok)) q
theorem LG.up {S : List Nat} {t : TG} {T : TG'} (h : LG K.no S t T) : LG K S t T := fun C σ H F env v d Q Qp R a k q => h C σ H F env v d Q Qp R.dn a (fun σ' env' R' => k σ' env' (R'.up R.xok)) q
end
end
end Sw

set_option Elab.async false
set_option linter.all false
set_option maxRecDepth 100000
namespace Sw
open PySem PySem.Spec L2

abbrev PSp := Option (List D) → List D → (RV → Option (List D) → Prop) → Prop
/-- behind a call -/
structure Post (K : FgK) (la : Option Addr) (H F : Hp) (rv : RV) (fl : Option (List D)) (v : V) (H' F' : Hp) : Prop where
  frz : Le F' H'
  mono : Le F F'
  new : ∀ b o, F' b = some o → F b = some o ∨ H b = none
  frame : ∀ b o, H b = some o → la ≠ some b → H' b = some o
  lent : ∀ a, la = some a → ∃ xs ds, H' a = some (.lst xs) ∧ F' a = none ∧ fl = some ds ∧ AtAll K F' ds xs
  res : RvOk K ⟨H, F, la⟩ H' F' rv v
/-- the promise of a def by data -/
def spOf (K : FgK) (l : Bool) (ps : PSp) : Sp := fun vs H Q _ => ∃ (F : Hp) (la : Option Addr) (fl : Option (List D)) (ds : List D) (ws : List V), Le F H ∧ AtAll K F ds ws ∧
  (if l = true then ∃ a xs fd, vs = .ref a :: ws ∧ la = some a ∧ H a = some (.lst xs) ∧ F a = none ∧ fl = some fd ∧ AtAll K F fd xs else vs = ws ∧ la = none ∧ fl = none) ∧
  ∃ Qp, ps fl ds Qp ∧ ∀ v H' F' rv fl', Post K la H F rv fl' v H' F' → Qp rv fl' → Q v H'
section
variable {X : Cz}
/-- behind a call the slots stand -/
theorem Post.stp {K : FgX} {C : Ec} {σ : L2.St} {H F : Hp} {env : List SV} {rv : RV} {fl : Option (List D)} {v : V} {H' F' : Hp} (R : Rel K C σ H F env) (p : Post K none H F rv fl v H' F') : Stp K C σ H F env H' F' env := by
  have no : ∀ b o, H b = some o → F b = none → F' b = none := fun b o h f => by
    cases q : F' b with
    | none => rfl
    | some u =>
      rcases p.new b u q with z | z
      · rw [f] at z; cases z
      · rw [h] at z; cases z
  refine ⟨⟨⟨p.frz, R.mono.trans' p.mono, fun b o h => ?_, fun b o h n => p.frame b o (R.frame b o h n) (fun z => nomatch z), fun a h => ?_, R.len, fun i sv e => ?_, R.dist⟩, R.xok⟩, p.mono, fun b o h _ => p.frame b o h (fun z => nomatch z), fun b o h => ?_, fun i l ds h => ⟨ds, h⟩, fun b h => ?_⟩
  · rcases p.new b o h with z | z
    · exact R.new b o z
    · cases q : C.H0 b with
      | none => exact .inr rfl
      | some u =>
        by_cases hl : C.la = some b
        · obtain ⟨⟨xs, e⟩, _⟩ := R.la b hl
          rw [e] at z; cases z
        · rw [R.frame b u q hl] at z; cases z
  · obtain ⟨⟨xs, e⟩, f, g⟩ := R.la a h
    exact ⟨⟨xs, p.frame a _ e (fun z => nomatch z)⟩, no a _ e f, g⟩
  · have q := R.slot i sv e
    cases sv with
    | un => trivial
    | raw z => exact q
    | dat d =>
      obtain ⟨v, e1, a⟩ := q
      exact ⟨v, e1, At.mono p.mono _ _ a⟩
    | obj l ds =>
      obtain ⟨r, xs, e1, e2, e3, e4, e5⟩ := q
      exact ⟨r, xs, e1, p.frame r _ e2 (fun z => nomatch z), no r _ e2 e3, e4, e5.mono p.mono⟩
  · rcases p.new b o h with z | z
    · exact .inl z
    · exact .inr (.inl z)
  · cases q : H b with
    | none => rfl
    | some u =>
      rw [p.frame b u q (fun z => nomatch z)] at h; cases h
/-- a list that came back is nobody's -/
theorem fresh_of {K : FgX} {C : Ec} {σ : L2.St} {H F H' F' : Hp} {env env' : List SV} (R : Rel K C σ H F env) (s : Stp K C σ H F env H' F' env') {p : Addr} (h : H p = none) : C.H0 p = none ∧ ¬ Own σ env' p := by
  constructor
  · cases q : C.H0 p with
    | none => rfl
    | some u =>
      by_cases hl : C.la = some p
      · obtain ⟨⟨xs, e⟩, _⟩ := R.la p hl
        rw [e] at h; cases h
      · rw [R.frame p u q hl] at h; cases h
  · intro z
    obtain ⟨i, l, ds, e, e2⟩ := Own.sub s.ow z
    obtain ⟨r, xs, e1, e3, _⟩ := R.slot i _ e
    rw [e2] at e1
    cases e1
    rw [e3] at h; cases h
theorem Stp.freeze {K : FgX} {C : Ec} {σ : L2.St} {H F H' F' : Hp} {env env' : List SV} (s : Stp K C σ H F env H' F' env') {p : Addr} {o : HO} (hn : H p = none) (hp : H' p = some o) (fp : F' p = none) (h0 : C.H0 p = none) (no : ¬ Own σ env' p) : Stp K C σ H F env H' (upd F' p o) env' := by
  have ff : Le F' (upd F' p o) := fun b u h => by
    rw [upd_ne (ne_of_none h fp)]; exact h
  refine ⟨s.rel.freeze hp fp h0 no, s.ff.trans' ff, s.fr, fun b u h => ?_, s.ow, s.dm⟩
  by_cases e : b = p
  · subst e; exact .inr (.inl hn)
  · rw [upd_ne e] at h; exact s.fn b u h
theorem known_of {K : FgX} {C : Ec} {σ : L2.St} {H F H' F' : Hp} {env env' : List SV} {la : Option Addr} {rv : RV} {v : V} (R : Rel K C σ H F env) (s : Stp K C σ H F env H' F' env') (r : RvOk K ⟨H, F, la⟩ H' F' rv v) : ∃ F2, Stp K C σ H F env H' F2 env' ∧ At K F2 rv.toD v := by
  cases rv with
  | dt d => exact ⟨F', s, r⟩
  | fr ds =>
    obtain ⟨p, xs, rfl, h1, h2, h3, h4⟩ := r
    have h3 : H p = none := h3
    obtain ⟨h0, no⟩ := fresh_of R s h3
    have ff : Le F' (upd F' p (.lst xs)) := fun b u h => by
      rw [upd_ne (ne_of_none h h2)]; exact h
    exact ⟨_, s.freeze h3 h1 h2 h0 no, At.list_of upd_same (AtAll.mono ff _ _ h4)⟩
def qCall (sp : PSp) (T : PA') : PE' := fun env Q => T env fun os env1 => ∃ ds env2, fzAll env1 os = some (ds, env2) ∧ sp none ds fun rv _ => Q (.dv rv.toD) env2
def fCall (sp : PSp) (T : PA') : PF' := fun env Q => T env fun os env1 => ∃ ds env2, fzAll env1 os = some (ds, env2) ∧ sp none ds fun rv _ => ∃ es, rv = .fr es ∧ Q es env2
variable {k : Nat} {f : Addr} {fd : FuncData} {ps : List Str} {sp : PSp} {x : Str} {e : Expr} {es : List Expr} {T : PA'} {p pos : Pos}
/-- the defaults of a def: constants -/
def constsOk (dvs : List V) (dds : List D) : Prop := ∀ (K : FgK) (F : Hp), AtAll K F dds dvs
def qAddD (T : PA') (dds : List D) : PA' := fun env Q => T env fun os env1 => Q (os ++ dds.map OV.dv) env1
theorem OvsOk.app {K : FgK} {σ : L2.St} {F : Hp} {dds : List D} {dvs : List V} (h : AtAll K F dds dvs) : ∀ {os : List OV} {vs : List V}, OvsOk K σ F os vs → OvsOk K σ F (os ++ dds.map OV.dv) (vs ++ dvs)
  | [], vs, a => by
    have a : vs = [] := a
    subst a
    simp only [List.nil_append]
    have key : ∀ (dds : List D) (dvs : List V), AtAll K F dds dvs → OvsOk K σ F (dds.map OV.dv) dvs := fun dds => by
      induction dds with
      | nil => intro dvs h; exact (show dvs = [] by simpa [AtAll] using h)
      | cons d dds ih =>
        intro dvs h
        simp only [AtAll] at h
        obtain ⟨x, r, rfl, a, q⟩ := h
        exact ⟨x, r, rfl, a, ih r q⟩
    exact key dds dvs h
  | o :: os, vs, a => by
    obtain ⟨v, r, rfl, b, c⟩ := a
    exact ⟨v, r ++ dvs, rfl, b, OvsOk.app h c⟩
theorem LE.call {t : TA} {dvs : List V} {dds : List D} {E : XK} (hd : constsOk dvs dds) (l1 : LA X.fr t T) : LE X.fr (tCall (spOf X.fr false sp) dvs E t) (qCall sp (qAddD T dds)) := fun C σ H F env Q Qp R kk q => by
  refine l1 C σ H F env _ _ R (fun vs H1 F1 env1 os s1 a1 q1 => ?_) q
  obtain ⟨ds, env2, e1, q1⟩ := q1
  obtain ⟨F2, s2, a2⟩ := fzAll_ok s1.rel (a1.app (hd X.fr F1)) e1
  refine ⟨F2, none, none, ds, vs ++ dvs, s2.rel.frz, a2, by rw [if_neg (by decide)]; exact ⟨rfl, rfl, rfl⟩, _, q1, fun v H' F' rv fl' pp qq => ?_⟩
  have s3 := pp.stp s2.rel
  obtain ⟨F3, s4, a4⟩ := known_of s2.rel s3 pp.res
  exact kk v H' F3 env2 (.dv rv.toD) ((s1.trans s2).trans s4) a4 qq
theorem LF.call {t : TA} {dvs : List V} {dds : List D} {E : XK} (hd : constsOk dvs dds) (l1 : LA X.fr t T) : LF X.fr (tCall (spOf X.fr false sp) dvs E t) (fCall sp (qAddD T dds)) := fun C σ H F env Q Qp R kk q => by
  refine l1 C σ H F env _ _ R (fun vs H1 F1 env1 os s1 a1 q1 => ?_) q
  obtain ⟨ds, env2, e1, q1⟩ := q1
  obtain ⟨F2, s2, a2⟩ := fzAll_ok s1.rel (a1.app (hd X.fr F1)) e1
  refine ⟨F2, none, none, ds, vs ++ dvs, s2.rel.frz, a2, by rw [if_neg (by decide)]; exact ⟨rfl, rfl, rfl⟩, _, q1, fun v H' F' rv fl' pp qq => ?_⟩
  have s3 := pp.stp s2.rel
  obtain ⟨es', rfl, qq⟩ := qq
  obtain ⟨r, xs, rfl, h1, h2, h3, h4⟩ := pp.res
  have h3 : H1 r = none := h3
  obtain ⟨h0, no⟩ := fresh_of s2.rel s3 h3
  exact kk r xs es' H' F' env2 ((s1.trans s2).trans s3) h1 h2 h0 no (s1.dm r (s2.dm r h3)) h4 qq
end
end Sw

set_option Elab.async false
set_option linter.all false
set_option maxRecDepth 100000
namespace Sw
open PySem PySem.Spec L2

section
variable {P : Program} {w : World} {K : PySem.W.Frag} {mg : Str → Option Value} {base : Heap}
/-- a def that can be called: the name, whether its first argument is lent, its parameters, what defaults are put in, its worth -/
structure Cal (P : Program) (w : World) (K : PySem.W.Frag) (mg : Str → Option Value) (base : Heap) (k : Nat) (x : Str) (l : Bool) (ps : List Str) (dds : List D) (sp : PSp) : Prop where
  ex : ∃ (f : Addr) (fd : FuncData) (dvs : List V) (ds : List Value), FnOk P w K mg base CX0 k f fd ps (spOf ⟨K, P, w⟩ l sp) ∧ mg x = some (.ref f) ∧ PySem.W.keepIn K (.ref f) = true ∧ Binds K fd ps ds ∧ Vals dvs ds ∧ constsOk dvs dds
theorem Cal.mono {k k' : Nat} {x : Str} {l : Bool} {ps : List Str} {dds : List D} {sp : PSp} (c : Cal P w K mg base k x l ps dds sp) (h : k ≤ k') : Cal P w K mg base k' x l ps dds sp := by
  obtain ⟨f, fd, dvs, ds, h1, h2⟩ := c.ex
  exact ⟨f, fd, dvs, ds, h1.mono h, h2⟩
theorem Cal.imp {k : Nat} {x : Str} {l : Bool} {ps : List Str} {dds : List D} {sp sp' : PSp} (c : Cal P w K mg base k x l ps dds sp) (h : ∀ fl ds Q, sp' fl ds Q → sp fl ds Q) : Cal P w K mg base k x l ps dds sp' := by
  obtain ⟨f, fd, dvs, ds, h1, h2⟩ := c.ex
  refine ⟨f, fd, dvs, ds, h1.imp fun vs H Q E q => ?_, h2⟩
  obtain ⟨F, la, fl, ds, ws, hF, ha, hl, Qp, hp, k⟩ := q
  exact ⟨F, la, fl, ds, ws, hF, ha, hl, Qp, h _ _ _ hp, k⟩
end
end Sw

set_option Elab.async false
set_option linter.all false
set_option maxRecDepth 100000
namespace Sw
open PySem PySem.Spec L2
/-- all signs are small letters -/
def Low (z : Str) : Prop := ∀ c ∈ z.cps.toList, 97 ≤ c ∧ c ≤ 122
/-- a name -/
def Nm (z : Str) : Prop := Low z ∧ 1 ≤ z.length ∧ z.length ≤ 6
theorem tl_app (a b : Str) : (a ++ b).cps.toList = a.cps.toList ++ b.cps.toList := by
  show (a.cps ++ b.cps).toList = _
  simp
theorem Low.app {a b : Str} (h : Low a) (g : Low b) : Low (a ++ b) := fun c hc => by
  rw [tl_app] at hc
  rcases List.mem_append.mp hc with z | z
  · exact h c z
  · exact g c z
end Sw

set_option Elab.async false
set_option linter.all false
set_option maxRecDepth 100000
namespace PySem.AutoSeq1
theorem list_extend_list_tupleA (l : Addr) (items : Array Value) (n : Nat) (b : Addr) (items2 : Array Value) (n2 : Nat) (dd : Option Addr) (sl : Array (Option Value)) (hs0 : ¬(!items.isEmpty && Builtin.List.listTooLong (items.size + items2.size)) = true) (hs1 : items.size ≤ sizeLine) (hs2 : items.size + items2.size ≤ sizeLine + 1) :
    Meets (Builtin.«list.extend» ⟨[.ref l, .ref b], []⟩) (fun _ R s => s.heap.get? l = some { cls := .type "list", dict := none, data := .seq items n, slots := #[] } ∧ s.heap.get? b = some { cls := .type "tuple", dict := dd, data := .seq items2 n2, slots := sl } ∧ R (.ok (.ret Value.none)) { s with heap := s.heap.update l (Obj.mapSeq fun x => x ++ items2), toks := s.toks }) :=
  .of_wp fun prog w A R s h => by
    obtain ⟨hp, g, d, tk, os⟩ := s; obtain ⟨hl, hb, h⟩ := h; have f1 := idx_int; have f2 := sub_tuple_tuple; have f3 := sub_list_list; have f4 := sub_tuple_list; have f5 := sub_list_tuple;
    have hz' : (items ++ items2).size ≤ sizeLine + 1 := by rw [Array.size_append]; exact hs2
    wp_walk using (wpAny_updateSeq hl rfl (hz := hs1) (_hz' := hz')), wpAny_loadPart' hl, wpAny_loadPart' hb; exact ⟨_, rfl, h⟩
end PySem.AutoSeq1
namespace SwX
open PySem PySem.Spec PyProof.Rows HT L2 PySem.AutoSeq1
section
variable {prog : Program} {w : World} {A : Around} {E : Value → Shared → Prop} {s : Shared}
theorem filterMap_ext {α β : Type} {f g : α → Option β} : ∀ {l : List α}, (∀ x ∈ l, f x = g x) → l.filterMap f = l.filterMap g
  | [], _ => rfl
  | x :: r, h => by
    rw [List.filterMap_cons, List.filterMap_cons, h x List.mem_cons_self, filterMap_ext fun y hy => h y (List.mem_cons_of_mem _ hy)]
/-- t[::-1] of a tuple -/
theorem getItem_tuple_rev {t sl : Addr} {items : Array Value} {vl vu vs : Value} {Q : Value → Shared → Prop} (ht : IsTup s.heap t items) (hs : s.heap.IsSliceOf sl vl vu vs) (pl : IsPart vl none) (pu : IsPart vu none) (ps : IsPart vs (some (-1)))
    (h : Q (.ref s.heap.objs.size) { s with heap := s.heap.push { cls := .type "tuple", data := .seq items.toList.reverse.toArray } })
    (hsz : items.size ≤ sizeLine) : wpAny (model prog w) A (getItem (.ref t) (.ref sl)) Q E s := by
  have htake : sizeOk (.seq items.toList.reverse.toArray) := by
    show items.toList.reverse.toArray.size ≤ sizeLine
    rw [List.size_toArray, List.length_reverse, Array.length_toList]
    omega
  obtain ⟨os, hos, hcs, hds⟩ := id hs
  have hTs : s.TypeIs (.ref sl) "slice" := ⟨os, hos, hcs⟩
  have el : vl = .none := by cases pl; rfl
  have eu : vu = .none := by cases pu; rfl
  obtain ⟨tk, rfl⟩ : ∃ tk, vs = .int (-1) tk := by cases ps; exact ⟨_, rfl⟩
  subst el eu
  unfold getItem
  try with_reducible refine wpAny_holding ?_
  first | refine wpAny_bind (wpAny_pure ?_) | skip
  refine wpAny_bind (wpAny_sequenceKey ht.typeIs (by decide) ?_)
  refine wpAny_bind (wpAny_callSpecial?_slot (name := Str.ofString "__getitem__") ht.typeIs PyProof.Rows.slot_tuple_getitem
    (wpAny_call_entry PyProof.Rows.slot_tuple_getitem ht.typeIs entry_tuple_getitem ?_ (args_tuple_getitem _ _)))
  show wpAny _ _ (Builtin.Tuple.tupleItemsOf (.ref t) >>= _) _ _ s
  refine wpAny_bind (tupleItemsOf_ ht ?_)
  refine wpAny_bind (wpAny_typeOf hTs ?_)
  rw [if_pos (by decide)]
  have app : ∀ {A : Around} {Q : Int × Int × Nat → Shared → Prop} {E : Value → Shared → Prop}, Q ((items.size : Int) - 1, -1, items.size) s → wpAny (model prog w) A (Builtin.Slice.sliceApplied (.ref sl) (pure (items.size : Int))) Q E s := fun {A Q E} h => by
    unfold Builtin.Slice.sliceApplied Builtin.Slice.sliceFields
    refine wpAny_bind (wpAny_bind (wpAny_field hos hds (x := .none) rfl (wpAny_bind (wpAny_field hos hds (x := .none) rfl (wpAny_bind (wpAny_field hos hds (x := .int (-1) tk) rfl (wpAny_pure ?_)))))))
    refine wpAny_bind (slicePart_int ?_)
    show wpAny _ _ (if ((-1 : Int) == 0) = true then _ else _) _ _ s
    rw [if_neg (by decide)]
    refine wpAny_bind (slicePart_none (wpAny_bind (slicePart_none (wpAny_bind (wpAny_pure ?_)))))
    have e : Builtin.Slice.sliceAdjust none none (-1) (items.size : Int) = ((items.size : Int) - 1, -1) := by
      first | rfl | simp [Builtin.Slice.sliceAdjust]
    show wpAny _ _ (match Builtin.Slice.sliceAdjust none none (-1) (items.size : Int) with | (lo, hi) => pure (lo, (-1 : Int), Builtin.Slice.slicePlaces lo hi (-1))) _ _ s
    rw [e]
    have e2 : Builtin.Slice.slicePlaces ((items.size : Int) - 1) (-1) (-1) = items.size := by
      unfold Builtin.Slice.slicePlaces
      rw [if_neg (by decide)]
      by_cases h0 : (items.size : Int) - 1 > -1
      · rw [if_pos h0]
        have : (- -1 : Int) = 1 := by decide
        rw [this, Int.ediv_one]
        omega
      · rw [if_neg h0]
        omega
    show wpAny _ _ (pure ((items.size : Int) - 1, (-1 : Int), Builtin.Slice.slicePlaces ((items.size : Int) - 1) (-1) (-1))) _ _ s
    rw [e2]
    exact wpAny_pure h
  refine wpAny_bind (app ?_)
  have hno : ¬ ((((items.size : Int) - 1) == 0 && (-1 : Int) == 1 && items.size == items.size) = true) := by
    intro q
    rw [Bool.and_eq_true, Bool.and_eq_true] at q
    have q1 : (-1 : Int) = 1 := eq_of_beq q.1.2
    exact absurd q1 (by decide)
  show wpAny _ _ (if (((items.size : Int) - 1) == 0 && (-1 : Int) == 1 && items.size == items.size) = true then _ else _) _ _ s
  have pick : ((List.range items.size).filterMap fun (m : Nat) => items[(((items.size : Int) - 1) + (m : Int) * (-1)).toNat]?).toArray = items.toList.reverse.toArray := by
    rw [← PySem.W.krv_all items, ← List.filterMap_reverse, ← PySem.W.krv_range, List.filterMap_map]
    refine congrArg List.toArray (filterMap_ext fun m hm => ?_)
    have := List.mem_range.mp hm
    show items[_]? = items[_]?
    congr 1
    show _ = items.size - 1 - m
    omega
  rw [if_neg hno, pick]
  first
    | exact wpAny_bind (m := Builtin.Tuple.tupleExact _) (wpAny_newObj_type (wpAny_pure ⟨_, rfl, wpAny_pure h⟩) htake)
    | exact wpAny_bind (m := Builtin.Tuple.tupleExact _) (wpAny_newObj_type (wpAny_bind (wpAny_pure (wpAny_pure ⟨_, rfl, wpAny_pure h⟩))) htake)
    | exact wpAny_bind (wpAny_bind (m := Builtin.Tuple.tupleExact _) (wpAny_newObj_type (wpAny_pure (wpAny_pure ⟨_, rfl, wpAny_pure h⟩)) htake))
    | exact wpAny_bind (wpAny_bind (m := Builtin.Tuple.tupleExact _) (wpAny_newObj_type (wpAny_pure ⟨_, rfl, wpAny_pure h⟩) htake))
end
section
variable {X : Sw.Cz}
/-- e[::-1] of a list or a tuple -/
def tRevA (K : Sw.FgK) (te : TE) : TE := fun σ H Q => te σ H fun x H1 => (∃ a xs, x = .ref a ∧ SqL K H1 a xs ∧ ∀ p, H1 p = none → Q (.ref p) (upd H1 p (.lst xs.reverse))) ∨ ∃ a xs, x = .ref a ∧ SqT K H1 a xs ∧ ∀ p, H1 p = none → Q (.ref p) (upd H1 p (.tup xs.reverse))
theorem pe_revA {e : Expr} {te : TE} {k : Nat} {p1 p2 p3 pos : Pos} (he : PE X e te) : PE X (.Subscript e (.Slice none none (some (.UnaryOp .USub (.Constant (.int 1) k p1) p2)) p3) pos) (tRevA X.fr te) := by
  refine ⟨fun pins s σ H Q I h => ?_⟩
  refine Subscript_ (thn (he.run pins s σ H _ I h) fun v s1 ⟨x, H1, I1, r1, q1⟩ => ?_)
  have hst : PO X (some (.UnaryOp .USub (.Constant (.int 1) k p1) p2)) (tPart (tUn (rU fun i => .int (-i)) (tC (.int 1)))) := po_some (pe_un un_neg pe_int)
  refine wpAny_Slice (thn (po_none.run pins s1 σ H1 (fun o H2 => o = none ∧ H2 = H1) I1 ⟨rfl, rfl⟩) fun vl s2 ⟨l, H2, I2, pl, el, e2⟩ => ?_)
  subst el e2
  refine thn (po_none.run pins s2 σ H2 (fun o H3 => o = none ∧ H3 = H2) I2 ⟨rfl, rfl⟩) fun vu s3 ⟨u, H3, I3, pu, eu, e3⟩ => ?_
  subst eu e3
  refine thn (hst.run pins s3 σ H3 (fun o H4 => o = some (-1) ∧ H4 = H3) I3 ⟨1, rfl, -1, rfl, rfl, rfl⟩) fun vs s4 ⟨o, H4, I4, ps, eo, e4⟩ => ?_
  subst eo e4
  have I5 : Inv X pins σ H4 { s4 with heap := s4.heap.push { cls := .type "slice", data := .fields #[vl, vu, vs] } } := I4.kept (t' := s4.toks) fun b ob q => Heap.get?_push_of_some _ q
  rcases q1 with ⟨a, xs, ex, hx, q⟩ | ⟨a, xs, ex, hx, q⟩
  · subst ex
    cases r1
    obtain ⟨its, r, ht, hz⟩ := I5.list hx
    have hlen := r.length
    show wpAny (model X.prog X.w) X.A (subscriptTail e (.Slice none none (some (.UnaryOp .USub (.Constant (.int 1) k p1) p2)) p3) (.ref a) (.ref s4.heap.objs.size)) (EP X pins σ Q) X.xe { s4 with heap := s4.heap.push { cls := .type "slice", data := .fields #[vl, vu, vs] } }
    refine tail_any (ops := [.ref a, .ref s4.heap.objs.size]) ht.isList.typeIs (PySem.slot_list_getitem.lookup) ?_ (by with_unfolding_all rfl)
    refine wpAny_getItem_list_slice ht.isList (Heap.IsSliceOf.new _ vl vu vs) pl pu ps (by decide) ?_ (by rw [List.size_toArray]; omega)
    rw [PySem.W.krv_pick]
    refine ⟨.ref _, _, I5.laid (t' := s4.toks) (o := .lst xs.reverse) (fun b ob q => Heap.get?_push_of_some _ q) (Nat.le_refl _) ?_, rfl, q _ (I5.hok.fresh (Nat.le_refl _))⟩
    exact ⟨by rw [List.length_reverse]; exact hz, _, 0, r.reverse, Heap.get?_push_size _ rfl⟩
  · subst ex
    cases r1
    obtain ⟨its, r, ht, hz⟩ := I5.tuple hx
    have hlen := r.length
    show wpAny (model X.prog X.w) X.A (subscriptTail e (.Slice none none (some (.UnaryOp .USub (.Constant (.int 1) k p1) p2)) p3) (.ref a) (.ref s4.heap.objs.size)) (EP X pins σ Q) X.xe { s4 with heap := s4.heap.push { cls := .type "slice", data := .fields #[vl, vu, vs] } }
    refine tail_any (ops := [.ref a, .ref s4.heap.objs.size]) ht.typeIs (PyProof.Rows.slot_tuple_getitem.lookup) ?_ (by with_unfolding_all rfl)
    refine getItem_tuple_rev ht (Heap.IsSliceOf.new _ vl vu vs) pl pu ps ?_ (by rw [List.size_toArray]; omega)
    refine ⟨.ref _, _, I5.laid (t' := s4.toks) (o := .tup xs.reverse) (fun b ob q => Heap.get?_push_of_some _ q) (Nat.le_refl _) ?_, rfl, q _ (I5.hok.fresh (Nat.le_refl _))⟩
    exact ⟨by rw [List.length_reverse]; exact hz, _, r.reverse, IsTup.new _ _⟩
/-- xs.extend(ys), ys a list or a tuple -/
def rExtA (K : Sw.FgK) : V → List V → Hp → VK → Prop := fun x vs H Q => rExtend x vs H Q ∨ ∃ l b xs zs, x = .ref l ∧ vs = [.ref b] ∧ H l = some (.lst xs) ∧ SqT K H b zs ∧ xs.length + zs.length ≤ sizeLine ∧ Q .non (upd H l (.lst (xs ++ zs)))
theorem mt_extendA : MtM X "list.extend" (rExtA X.fr) := by
  intro pins s σ H x vs v us Q I rx rv h
  rcases h with h | ⟨l, b, xs, zs, rfl, rfl, hH, hB, hz, q⟩
  · exact mt_extend pins s σ H x vs v us Q I rx rv h
  · cases rx
    obtain ⟨u, rfl, ru⟩ := rv.one
    cases ru
    obtain ⟨z, its, n, r, hl, e⟩ := I.lstM hH
    obtain ⟨its2, r2, ht, hz2⟩ := I.tuple hB
    have hl2 := r2.length
    obtain ⟨⟨oc, od, odat, osl⟩, ho, hc, n2, hd⟩ := ht
    have hc : oc = .type "tuple" := hc
    have hd : odat = .seq its2.toArray n2 := hd
    subst hc hd
    have hsz : its.toArray.size + its2.toArray.size ≤ sizeLine := by rw [List.size_toArray, List.size_toArray]; omega
    have hlong : ¬ (!its.toArray.isEmpty && Builtin.List.listTooLong (its.toArray.size + its2.toArray.size)) = true := by
      rw [notLongL hsz, Bool.and_false]
      exact Bool.false_ne_true
    refine call_meets F.slot_list_extend ⟨_, e, rfl⟩ F.entry_list_extend (F.args_list_extend_2 _ _)
      (list_extend_list_tupleA l its.toArray n b its2.toArray n2 od osl hlong (by rw [List.size_toArray]; omega) (by omega)) ⟨e, ho, ?_⟩
    refine ⟨.non, _, I.lset (its' := its ++ its2) hH e (by simp) (r.append r2) ?_, rfl, q⟩
    rw [List.length_append]
    omega
end
end SwX

namespace Sw
open PySem PySem.Spec L2
section
variable {X : Sw.Cz} {K : FgX}
/-- a method of a slot's own list that reads what it is handed: the heap's known part lies within -/
def LMO' (K : FgK) (r : V → List V → Hp → VK → Prop) (g : List D → List D → Option (D × List D)) : Prop := ∀ (H F : Hp) (p : Addr) (xs ys : List V) (ds es ds' : List D) (d : D) (Q : VK), Le F H → H p = some (.lst xs) → AtAll K F ds xs → AtAll K F es ys → g ds es = some (d, ds') →
  (∀ v xs', At K F d v → AtAll K F ds' xs' → Q v (upd H p (.lst xs'))) → r (.ref p) ys H Q
theorem LMO.le {r : V → List V → Hp → VK → Prop} {g : List D → List D → Option (D × List D)} (h : LMO K r g) : LMO' K r g := fun H F p xs ys ds es ds' d Q _ => h H F p xs ys ds es ds' d Q
end
end Sw

set_option Elab.async false
set_option linter.all false
set_option maxRecDepth 100000
namespace Sw
open PySem PySem.Spec L2 PyProof.Rows
def leD (a b : D) : Bool := !W.dataLt b a
def srtD (ds : List D) : List D := ds.mergeSort leD
end Sw

set_option Elab.async false
set_option linter.all false
set_option maxRecDepth 100000
namespace Sw
open PySem PySem.Spec L2
theorem leD_total : W.TotalLe leD := W.sortLe_total (PyProof.Rows.listOrd PyProof.Rows.itemOrd) false W.keyToks
theorem srtD_perm (ds : List D) : (srtD ds).Perm ds := List.mergeSort_perm _ _
theorem srtD_len (ds : List D) : (srtD ds).length = ds.length := (srtD_perm ds).length_eq
theorem srtD_pw (ds : List D) : (srtD ds).Pairwise fun a b => leD a b = true := W.sort_pairwise leD_total ds
mutual
theorem eq_of_eqv : ∀ x y : D, W.alike x y = true → PyData.eqv x y = true → x = y
  | .none, y, h, e => by cases y <;> simp_all [W.alike]
  | .bool a, y, h, e => by cases y <;> simp_all [W.alike, PyData.eqv]
  | .int a, y, h, e => by cases y <;> simp_all [W.alike, PyData.eqv]
  | .str a, y, h, e => by cases y <;> simp_all [W.alike, PyData.eqv]
  | .list xs, y, h, e => by
    cases y with
    | list ys => rw [eq_of_eqvAll xs ys (by simpa [W.alike] using h) (by simpa [PyData.eqv] using e)]
    | _ => simp [W.alike] at h
  | .tuple xs, y, h, e => by
    cases y with
    | tuple ys => rw [eq_of_eqvAll xs ys (by simpa [W.alike] using h) (by simpa [PyData.eqv] using e)]
    | _ => simp [W.alike] at h
  | .dict xs, y, h, e => by cases y <;> simp_all [W.alike]
theorem eq_of_eqvAll : ∀ xs ys : List D, W.alikeAll xs ys = true → PyData.eqvAll xs ys = true → xs = ys
  | [], ys, h, e => by cases ys <;> simp_all [PyData.eqvAll]
  | x :: xs, ys, h, e => by
    cases ys with
    | nil => simp [PyData.eqvAll] at e
    | cons y ys =>
      simp only [W.alikeAll, Bool.and_eq_true] at h
      simp only [PyData.eqvAll, Bool.and_eq_true] at e
      rw [eq_of_eqv x y h.1 e.1, eq_of_eqvAll xs ys h.2 e.2]
end
theorem leD_anti {x y : D} (h : W.alike x y = true) (h1 : leD x y = true) (h2 : leD y x = true) : x = y := by
  have h1 : W.dataLt y x = false := by simpa [leD] using h1
  have h2 : W.dataLt x y = false := by simpa [leD] using h2
  have e : W.keyToks x = W.keyToks y := PyProof.Rows.lex_total _ _ h2 h1
  cases q : PyData.eqv x y with
  | true => exact eq_of_eqv x y h q
  | false =>
    exfalso
    have := (W.toks_eqv x y h).2 q [] [.inl 0]
    rw [e, W.lex_pre, PyProof.Rows.lex_irrefl] at this
    cases this
/-- two orders of the same alike data: sorted the same -/
theorem perm_eq_mem {α : Type} {r : α → α → Prop} : ∀ {l m : List α}, (∀ a ∈ l, ∀ b ∈ l, r a b → r b a → a = b) → l.Perm m → l.Pairwise r → m.Pairwise r → l = m
  | [], m, _, p, _, _ => (List.nil_perm.mp p).symm
  | a :: l, [], _, p, _, _ => absurd p.symm (by simp)
  | a :: l, b :: m, anti, p, h1, h2 => by
    have hb0 : b ∈ a :: l := p.mem_iff.mpr List.mem_cons_self
    have hab : a = b := by
      by_cases e : a = b
      · exact e
      · have ha : a ∈ m := by
          rcases List.mem_cons.mp (p.mem_iff.mp (List.mem_cons_self (a := a) (l := l))) with z | z
          · exact absurd z e
          · exact z
        have hb : b ∈ l := by
          rcases List.mem_cons.mp hb0 with z | z
          · exact absurd z.symm e
          · exact z
        exact anti a List.mem_cons_self b hb0 ((List.pairwise_cons.mp h1).1 b hb) ((List.pairwise_cons.mp h2).1 a ha)
    subst hab
    rw [perm_eq_mem (fun x hx y hy => anti x (List.mem_cons_of_mem _ hx) y (List.mem_cons_of_mem _ hy)) (List.Perm.cons_inv p) (List.pairwise_cons.mp h1).2 (List.pairwise_cons.mp h2).2]
theorem srtD_eq {xs ys : List D} (ho : W.AllAlike xs) (p : ys.Perm xs) (hs : ys.Pairwise fun a b => leD a b = true) : ys = srtD xs :=
  perm_eq_mem (r := fun a b => leD a b = true) (fun a ha b hb h1 h2 => leD_anti (ho a (p.mem_iff.mp ha) b (p.mem_iff.mp hb)) h1 h2) (p.trans (srtD_perm xs).symm) hs (srtD_pw xs)
theorem srtD_congr {xs ys : List D} (ho : W.AllAlike xs) (p : ys.Perm xs) : srtD ys = srtD xs := srtD_eq ho ((srtD_perm ys).trans p) (srtD_pw ys)
end Sw

set_option Elab.async false
set_option linter.all false
set_option maxRecDepth 100000
namespace Sw
open PySem PySem.Spec L2
/-- no list of its own stands in these slots -/
def nob : Option SV → Prop
  | some (.obj _ _) => False
  | _ => True
def NoOwn (env : List SV) : List Nat → Prop
  | [] => True
  | v :: vs => nob env[v]? ∧ NoOwn env vs
theorem NoOwn.get {env : List SV} : ∀ {vs : List Nat}, NoOwn env vs → ∀ j ∈ vs, ∀ l ds, env[j]? ≠ some (SV.obj l ds)
  | v :: vs, h, j, hj, l, ds => fun e => by
    rcases List.mem_cons.mp hj with rfl | hj
    · have h1 := h.1
      rw [e] at h1
      exact h1
    · exact h.2.get j hj l ds e
end Sw

set_option Elab.async false
set_option linter.all false
set_option maxRecDepth 100000
namespace Sw
open PySem PySem.Spec L2
mutual
theorem eqv_data : ∀ a b : NestedKey, PyData.eqv a.data b.data = NestedKey.beq a b
  | .none, b => by cases b <;> simp [NestedKey.data, PyData.eqv, NestedKey.beq]
  | .num i, b => by
    cases b with
    | num j =>
      simp only [NestedKey.data, PyData.eqv, NestedKey.beq]
      by_cases h : i = j <;> simp [h]
    | _ => simp [NestedKey.data, PyData.eqv, NestedKey.beq]
  | .text x, b => by
    cases b with
    | text y =>
      simp only [NestedKey.data, PyData.eqv, NestedKey.beq]
      by_cases h : x = y <;> simp [h]
    | _ => simp [NestedKey.data, PyData.eqv, NestedKey.beq]
  | .tup ks, b => by
    cases b with
    | tup ls =>
      simp only [NestedKey.data, PyData.eqv, NestedKey.beq]
      exact eqv_datas ks ls
    | _ => simp [NestedKey.data, PyData.eqv, NestedKey.beq]
theorem eqv_datas : ∀ ks ls : List NestedKey, PyData.eqvAll (NestedKey.datas ks) (NestedKey.datas ls) = NestedKey.beqAll ks ls
  | [], [] => rfl
  | [], _ :: _ => rfl
  | _ :: _, [] => rfl
  | k :: ks, l :: ls => by
    simp only [NestedKey.datas, PyData.eqvAll, NestedKey.beqAll]
    rw [eqv_data k l, eqv_datas ks ls]
end
theorem eqv_nk (a b : NestedKey) : PyData.eqv (nkD a) (nkD b) = decide (a = b) := by
  rw [NestedKey.decide_eq]
  exact eqv_data a b
/-- what a dict holds at a key -/
def lookD (kds : List (D × D)) (k : D) : Option D := (kds.find? fun p => PyData.eqv p.1 k).map Prod.snd
/-- a key of a dict; t: the keys are tuples -/
def KeyT : Bool → D → Prop
  | false, k => ∃ kk : Key, k = kD kk
  | true, k => ∃ nk : NestedKey, k = nkD nk ∧ (∃ z, nk = .tup z) ∧ nk.depth ≤ 8
theorem lookD_nil (k : D) : lookD [] k = none := rfl
theorem lookD_cons (p : D × D) (r : List (D × D)) (k : D) : lookD (p :: r) k = if PyData.eqv p.1 k = true then some p.2 else lookD r k := by
  unfold lookD
  rw [List.find?_cons]
  cases PyData.eqv p.1 k <;> rfl
section
variable {X : Cz} {pins : List (Addr × Obj)} {σ : L2.St} {H F : Hp} {s : Shared}
mutual
theorem nested_at (I : Inv X pins σ H s) (hF : Le F H) : ∀ (nk : NestedKey) (v : V) (u : Value), At X.fr F (nkD nk) v → RelV v u → NestedIs s.heap nk u
  | .none, v, u, a, r => by
    have a : v = .non := by simpa [nkD, NestedKey.data, At] using a
    subst a
    cases (show u = Value.none from r)
    exact .none
  | .num i, v, u, a, r => by
    have a : v = .int i := by simpa [nkD, NestedKey.data, At] using a
    subst a
    obtain ⟨t, q⟩ := (show ∃ t, u = Value.int i t from r)
    cases q
    exact .int i t
  | .text x, v, u, a, r => by
    have a : v = .str x := by simpa [nkD, NestedKey.data, At] using a
    subst a
    obtain ⟨t, q⟩ := (show ∃ t, u = Value.str x t from r)
    cases q
    exact .text x t
  | .tup ks, v, u, a, r => by
    have a : At X.fr F (.tuple (NestedKey.datas ks)) v := a
    simp only [At] at a
    obtain ⟨b, xs, rfl, ht, al⟩ := a
    cases (show u = Value.ref b from r)
    obtain ⟨its, rv, ⟨ob, h1, h2, n, h3⟩, _⟩ := I.tuple (Le.tupAt hF ht).sqT
    refine .tup h1 h2 h3 ?_
    simpa using nested_ats I hF ks xs its al rv
theorem nested_ats (I : Inv X pins σ H s) (hF : Le F H) : ∀ (ks : List NestedKey) (xs : List V) (us : List Value), AtAll X.fr F (NestedKey.datas ks) xs → Vals xs us → NestedAll s.heap ks us
  | [], xs, us, a, r => by
    have a : xs = [] := by simpa [NestedKey.datas, AtAll] using a
    subst a
    cases r
    exact .nil
  | k :: ks, xs, us, a, r => by
    simp only [NestedKey.datas, AtAll] at a
    obtain ⟨x, ys, rfl, a, al⟩ := a
    cases r with
    | cons r1 r2 => exact .cons (nested_at I hF k x _ a r1) (nested_ats I hF ks ys _ al r2)
end
abbrev PairZ : List (NestedKey × Addr × V) → List (NestedKey × Addr × Value) → Prop := Paired fun p q => p.1 = q.1 ∧ p.2.1 = q.2.1 ∧ RelV p.2.2 q.2.2
theorem AtN.len {K : FgK} : ∀ {kds : List (D × D)} {zs : List (NestedKey × Addr × V)}, AtN K F kds zs → zs.length = kds.length
  | [], zs, h => by simp only [AtN] at h; subst h; rfl
  | (k, d) :: r, zs, h => by
    simp only [AtN] at h
    obtain ⟨_, _, _, zr, rfl, _, _, _, q⟩ := h
    simp [AtN.len q]
theorem AtK.len {K : FgK} : ∀ {kds : List (D × D)} {zs : List (Key × V)}, AtK K F kds zs → zs.length = kds.length
  | [], zs, h => by simp only [AtK] at h; subst h; rfl
  | (k, d) :: r, zs, h => by
    simp only [AtK] at h
    obtain ⟨_, _, zr, rfl, _, _, q⟩ := h
    simp [AtK.len q]
theorem AtN.is (I : Inv X pins σ H s) (hF : Le F H) : ∀ {kds : List (D × D)} {zs : List (NestedKey × Addr × V)} {us : List (NestedKey × Addr × Value)}, AtN X.fr F kds zs → (∀ x ∈ zs, ∃ z, x.1 = .tup z ∧ x.1.depth ≤ 8) → PairZ zs us → ∀ x ∈ us, (nestedKind X.prog X.w).is s.heap x.1 x.2.1
  | [], zs, us, h, _, p, x, hx => by
    simp only [AtN] at h
    subst h
    cases p
    cases hx
  | (k, d) :: r, zs, us, h, hd, p, x, hx => by
    simp only [AtN] at h
    obtain ⟨kk, b, v, zr, rfl, rfl, a1, a2, q⟩ := h
    cases p with
    | cons p1 p2 =>
      rcases List.mem_cons.mp hx with rfl | hx
      · obtain ⟨e1, e2, _⟩ := p1
        simp only at e1 e2
        obtain ⟨z, _, hz⟩ := hd _ List.mem_cons_self
        have n := nested_at I hF kk (.ref b) (.ref b) a1 rfl
        exact ⟨by rw [← e1, ← e2]; exact n, by rw [← e1]; exact hz⟩
      · exact AtN.is I hF q (fun y hy => hd y (List.mem_cons_of_mem _ hy)) p2 x hx
end
end Sw

set_option Elab.async false
set_option linter.all false
set_option maxRecDepth 100000
namespace Sw
open PySem PySem.Spec L2
section
variable {X : Cz} {pins : List (Addr × Obj)} {σ : L2.St} {H F : Hp} {s : Shared} {a : Addr} {o : HO} {t : Bool} {kds : List (D × D)} {k : D} {y : V} {u : Value} {A : Around} {E : Value → Shared → Prop}
theorem IsN.intro {K : FgK} {P : Program} {w : World} {H' : Hp} {h' : Heap} {zs : List (NestedKey × Addr × V)} {us : List (NestedKey × Addr × Value)} (e1 : K.P = P) (e2 : K.w = w) (hz : zs.length ≤ sizeLine) (hd : (a == sysModules) = false) (hk : ∀ x ∈ zs, ∃ z, x.1 = .tup z ∧ x.1.depth ≤ 8) (p : PairZ zs us) (dd : h'.DictOfH (nestedKind P w) a us) : ∃ o, IsN K a zs o ∧ ObjOk P w H' h' a o := by
  obtain ⟨ob, es, ep, h5, h6, h7, h8, _, h9⟩ := dd
  subst e1 e2
  refine ⟨_, rfl, ⟨hz, hd, hk, us, p, ob, es, ep, h5, h6, h7, h8, h9⟩, ⟨ob, h5⟩, ?_⟩
  rintro h1 h2 ⟨_, _, _, us', p', ob', es', ep', g5, g6, g7, g8, g9⟩ st
  exact ⟨hz, hd, hk, us', p', ob', es', ep', st _ g5, g6, g7, g8, g9⟩
end
end Sw

set_option Elab.async false
set_option linter.all false
set_option maxRecDepth 100000
namespace Sw
open PySem PySem.Spec L2
section
variable {X : Cz}
def OV.dic (env : List SV) : OV → Option (Option Bool × List (D × D))
  | .sl i => match env[i]? with
    | some (.obj _ (.dic t kds)) => some (some t, kds)
    | some (.dat (.dict kds)) => some (none, kds)
    | _ => none
  | .dv (.dict kds) => some (none, kds)
  | _ => none
theorem AtK.keys {K : FgK} {F : Hp} : ∀ {kds : List (D × D)} {zs : List (Key × V)}, AtK K F kds zs → ∀ p ∈ kds, KeyT false p.1
  | [], zs, _, p, hp => nomatch hp
  | (k, d) :: r, zs, h, p, hp => by
    simp only [AtK] at h
    obtain ⟨kk, _, zr, rfl, rfl, _, q⟩ := h
    rcases List.mem_cons.mp hp with rfl | hp
    · exact ⟨kk, rfl⟩
    · exact AtK.keys q p hp
theorem AtN.keys {K : FgK} {F : Hp} : ∀ {kds : List (D × D)} {zs : List (NestedKey × Addr × V)}, AtN K F kds zs → (∀ x ∈ zs, ∃ z, x.1 = .tup z ∧ x.1.depth ≤ 8) → ∀ p ∈ kds, KeyT true p.1
  | [], zs, _, _, p, hp => nomatch hp
  | (k, d) :: r, zs, h, hk, p, hp => by
    simp only [AtN] at h
    obtain ⟨kk, b, x, zr, rfl, rfl, _, _, q⟩ := h
    rcases List.mem_cons.mp hp with rfl | hp
    · obtain ⟨z, e, hd⟩ := hk _ List.mem_cons_self
      exact ⟨kk, rfl, ⟨z, e⟩, hd⟩
    · exact AtN.keys q (fun y hy => hk y (List.mem_cons_of_mem _ hy)) p hp
end
end Sw

set_option Elab.async false
set_option linter.all false
set_option maxRecDepth 100000
set_option maxHeartbeats 4000000
namespace Sw
open PySem PySem.Spec L2 PyProof.Rows
noncomputable local instance memDec (k : Key) (l : List Key) : Decidable (k ∈ l) := Classical.propDecidable _
section
variable {P : Program} {w : World} {A : Around} {E : Value → Shared → Prop} {s : Shared}
abbrev newSet (w : World) : Obj := { cls := .type "set", dict := none, data := .set #[] 0 (.fresh 0 0 (!w.params.followText "set-order")) }
end
end Sw

set_option Elab.async false
set_option linter.all false
set_option maxRecDepth 100000
set_option maxHeartbeats 4000000
namespace Sw
open PySem PySem.Spec L2 PySem.Calls PyProof.Rows
abbrev KAt (h : Heap) (k : NestedKey) (b : Addr) : Prop := NestedIs h k (.ref b) ∧ k.depth ≤ 8
section
variable {P : Program} {w : World} {A : Around} {E : Value → Shared → Prop} {s : Shared}
def NoCls (P : Program) (w : World) (n : Nat) (s : Shared) (v : Value) : Prop := ∀ (A : Around) (E : Value → Shared → Prop) (Q : Bool → Shared → Prop), Q false s → wpAny (model P w) A (ofAClassStatement n v) Q E s
def ByV (P : Program) (w : World) (n : Nat) (s : Shared) (v : Value) : Prop := ∀ (A : Around) (E : Value → Shared → Prop) (Q : Bool → Shared → Prop), (∀ b, Q b s) → wpAny (model P w) A (hashByValue n v) Q E s
theorem NoCls.tup {n m : Nat} {a : Addr} {o : Obj} {vs : Array Value} (ho : s.heap.get? a = some o) (hc : o.cls = .type "tuple") (hd : o.data = .seq vs m) (hq : ∀ v ∈ vs.toList, NoCls P w n s v) : NoCls P w (n + 1) s (.ref a) := fun A E Q h => by
  unfold ofAClassStatement
  refine wpAny_bind (wpAny_typeOf (T := "tuple") ⟨o, ho, hc⟩ ?_)
  dsimp only
  simp only [show (("tuple" : String) == "tuple") = true by decide, if_true, Bool.not_true, Bool.false_eq_true, if_false]
  try refine wpAny_bind (wpAny_pure ?_)
  try simp only [Bool.not_true, Bool.false_eq_true, if_false]
  show wpAny _ _ (seqItems? (.ref a) >>= _) _ _ s
  refine wpAny_bind (wpAny_seqItems ho hd (wpAny_bind ?_))
  show wpAny _ _ (forIn vs _ _) _ _ s
  rw [← Array.forIn_toList]
  refine wpAny_forIn_list _ (fun rest r z => r.1 = none ∧ z = s ∧ ∀ v ∈ rest, NoCls P w n s v) _ ?_ ?_ _ _ ⟨rfl, rfl, hq⟩
  · rintro v rest r z ⟨e, rfl, all⟩
    refine wpAny_bind (all v List.mem_cons_self _ _ _ ?_)
    simp only [Bool.false_eq_true, if_false]
    exact wpAny_pure ⟨rfl, rfl, fun u hu => all u (List.mem_cons_of_mem _ hu)⟩
  · rintro ⟨r1, r2⟩ z ⟨e, rfl, _⟩
    simp only at e
    subst e
    exact wpAny_pure h
theorem ByV.tup {n m : Nat} {a : Addr} {o : Obj} {vs : Array Value} (ho : s.heap.get? a = some o) (hc : o.cls = .type "tuple") (hd : o.data = .seq vs m) (hq : ∀ v ∈ vs.toList, ByV P w n s v) : ByV P w (n + 1) s (.ref a) := fun A E Q h => by
  unfold hashByValue
  refine wpAny_bind (wpAny_specialOf (T := "tuple") ⟨o, ho, hc⟩ F.slot_tuple_hash.lookup ?_)
  show wpAny _ _ (seqItems? (.ref a) >>= _) _ _ s
  refine wpAny_bind (wpAny_seqItems ho hd (wpAny_bind ?_))
  show wpAny _ _ (forIn vs _ _) _ _ s
  rw [← Array.forIn_toList]
  refine wpAny_forIn_list _ (fun rest r z => r.1 = none ∧ z = s ∧ ∀ v ∈ rest, ByV P w n s v) _ ?_ ?_ _ _ ⟨rfl, rfl, hq⟩
  · rintro v rest r z ⟨e, rfl, all⟩
    refine wpAny_bind (all v List.mem_cons_self _ _ _ fun b => ?_)
    cases b with
    | true =>
      simp only [Bool.not_true, Bool.false_eq_true, if_false]
      exact wpAny_pure ⟨rfl, rfl, fun u hu => all u (List.mem_cons_of_mem _ hu)⟩
    | false =>
      simp only [Bool.not_false, if_true]
      exact wpAny_pure (wpAny_pure (h false))
  · rintro ⟨r1, r2⟩ z ⟨e, rfl, _⟩
    simp only at e
    subst e
    exact wpAny_pure (h true)
/-- the set at a holds just the tuples L -/
structure Few (w : World) (h : Heap) (a : Addr) (L : List (Addr × NestedKey)) (es : Array (Int × Value)) (ep : Nat) (t : SetTable) : Prop where
  ob : ∃ o, h.get? a = some o ∧ o.ExactSet ∧ o.data = .set es ep t
  rows : es.toList = L.map fun p => (p.2.hash w, Value.ref p.1)
  tab : TabOk t (L.map fun p => p.2.hash w)
  nd : (L.map (·.2)).Nodup
  key : ∀ p ∈ L, KAt h p.2 p.1
  mask : t.mask = 7
  few : L.length ≤ 4
variable {a : Addr} {L : List (Addr × NestedKey)} {es : Array (Int × Value)} {ep : Nat} {t : SetTable}
theorem Few.size (R : Few w s.heap a L es ep t) : es.size = L.length := by
  rw [← Array.length_toList, R.rows, List.length_map]
theorem Few.fits (R : Few w s.heap a L es ep t) : t.fits es.size = true := by
  have h1 := R.tab.sz
  have h2 := R.size
  have h3 := R.few
  rw [List.length_map] at h1
  simp only [SetTable.fits, SetTable.fill, R.tab.dm, Bool.and_eq_true, beq_iff_eq, decide_eq_true_eq, R.mask]
  show t.place.size = es.size ∧ t.place.size + 0 ≤ 7
  omega
theorem Few.get (R : Few w s.heap a L es ep t) {i : Nat} {p : Addr × NestedKey} (h : L[i]? = some p) : es[i]? = some (p.2.hash w, Value.ref p.1) := by
  rw [← Array.getElem?_toList, R.rows, List.getElem?_map, h]
  rfl
end
end Sw

set_option Elab.async false
set_option linter.all false
set_option maxRecDepth 100000
set_option maxHeartbeats 4000000
namespace Sw
open PySem PySem.Spec L2 PySem.Calls PyProof.Rows
section
variable {P : Program} {w : World} {A : Around} {E : Value → Shared → Prop} {s : Shared}
theorem Few.keep {h h' : Heap} {a : Addr} {L : List (Addr × NestedKey)} {es : Array (Int × Value)} {ep : Nat} {t : SetTable} (R : Few w h a L es ep t) (ha : ∀ o, h.get? a = some o → h'.get? a = some o) (hk : ∀ p ∈ L, KAt h' p.2 p.1) : Few w h' a L es ep t := by
  obtain ⟨o, ho, r⟩ := R.ob
  exact ⟨⟨o, ha o ho, r⟩, R.rows, R.tab, R.nd, hk, R.mask, R.few⟩
theorem Few.new {h : Heap} {a : Addr} (ho : h.get? a = some (newSet w)) : Few w h a [] #[] 0 (.fresh 0 0 (!w.params.followText "set-order")) :=
  ⟨⟨_, ho, ⟨rfl, rfl, rfl⟩, rfl⟩, rfl, ⟨List.Pairwise.nil, rfl, rfl, .inl rfl, fun x hx => (by cases hx), fun i h j hi => (by simp at hi)⟩, List.nodup_nil, fun p hp => (by cases hp), rfl, (by decide)⟩
end
end Sw

set_option Elab.async false
set_option linter.all false
set_option maxRecDepth 100000
set_option maxHeartbeats 4000000
namespace Sw
open PySem PySem.Spec L2
abbrev AlE : Type := He.AlD × Bool
def obsE (fa : List He.Fa) (fn : List He.DefD) (ex : PySem.W.Frag → Bool) (K : PySem.W.Frag) : AlE := (He.obsD fa fn K, ex K)
def valE (fn : List He.DefD) : AlE := (He.valD fn, true)
def SaysE (fa : List He.Fa) (fn : List He.DefD) (ex : PySem.W.Frag → Bool) (K : PySem.W.Frag) : Prop := obsE fa fn ex K = valE fn
theorem SaysE.d {fa : List He.Fa} {fn : List He.DefD} {ex : PySem.W.Frag → Bool} {K : PySem.W.Frag} (c : SaysE fa fn ex K) : He.SaysD fa fn K := congrArg (fun z : AlE => z.1) c
theorem SaysE.ex {fa : List He.Fa} {fn : List He.DefD} {ex : PySem.W.Frag → Bool} {K : PySem.W.Frag} (c : SaysE fa fn ex K) : ex K = true := congrArg (fun z : AlE => z.2) c
end Sw

set_option Elab.async false
set_option linter.all false
set_option maxRecDepth 100000
set_option maxHeartbeats 4000000
namespace Sw
open PySem PySem.Spec L2
def strB (z : Str) : Value → Bool
  | .str y _ => decide (y = z)
  | _ => false
def intB (i : Int) : Value → Bool
  | .int j _ => decide (j = i)
  | _ => false
def strsB : List D → List Value → Bool
  | [], [] => true
  | .str z :: r, u :: s => strB z u && strsB r s
  | .int i :: r, u :: s => intB i u && strsB r s
  | _, _ => false
def valB (K : PySem.W.Frag) : D → Value → Bool
  | .str z, u => strB z u
  | .tuple ds, .ref p => (match K.lookup p with
    | some ⟨.type c, _, .seq its _, _⟩ => decide (c = "tuple") && (decide (its.size ≤ 1000) && strsB ds its.toList)
    | _ => false)
  | _, _ => false
def dcB (K : PySem.W.Frag) (x : Str) (kvs : List (Str × D)) : Bool := kvs.all fun q => match PySem.W.nsIn K (He.ga K x) q.1 with
  | some (some u) => valB K q.2 u
  | _ => false
abbrev AlF : Type := (He.AlD × Bool) × List (Option (List (Option (Str × Int))))
def obsF (fa : List He.Fa) (fn : List He.DefD) (ex : PySem.W.Frag → Bool) (ts : List (Str × List (Str × D))) (K : PySem.W.Frag) : AlF := ((He.obsD fa fn K, ex K), ts.map fun t => He.dicW K (He.ga K t.1))
def valFH (fn : List He.DefD) (ts : List (Str × List (Str × D))) (w : World) : AlF := ((He.valD fn, true), ts.map fun t => some (He.keysIn w.params (t.2.map (·.1))))
def SaysF (fa : List He.Fa) (fn : List He.DefD) (ex : PySem.W.Frag → Bool) (ts : List (Str × List (Str × D))) (w : World) (K : PySem.W.Frag) : Prop := obsF fa fn ex ts K = valFH fn ts w
section
variable {fa : List He.Fa} {fn : List He.DefD} {ex : PySem.W.Frag → Bool} {ts : List (Str × List (Str × D))} {w : World} {K : PySem.W.Frag}
theorem SaysF.e (c : SaysF fa fn ex ts w K) : SaysE fa fn ex K := congrArg (fun z : AlF => z.1) c
theorem SaysF.tab (c : SaysF fa fn ex ts w K) (i : Nat) {x : Str} {kvs : List (Str × D)} (h : ts[i]? = some (x, kvs) := by rfl) : He.dicW K (He.ga K x) = some (He.keysIn w.params (kvs.map (·.1))) := by
  have e : ts.map (fun t => He.dicW K (He.ga K t.1)) = ts.map fun t => some (He.keysIn w.params (t.2.map (·.1))) := congrArg (fun z : AlF => z.2) c
  have e2 : (ts.map fun t => He.dicW K (He.ga K t.1))[i]? = (ts.map fun t => some (He.keysIn w.params (t.2.map (·.1))))[i]? := by rw [e]
  rw [List.getElem?_map, List.getElem?_map, h] at e2
  exact Option.some.inj e2
end
end Sw

set_option Elab.async false
set_option linter.all false
set_option maxRecDepth 100000
set_option maxHeartbeats 4000000
namespace Sw
open PySem PySem.Spec L2
def goX (g : Addr → Option Obj) : Nat → List Addr → List Addr
  | 0, fr => fr
  | n + 1, fr => fr ++ goX g n (fr.flatMap fun a => match g a with
    | some o => He.refsD o
    | none => [])
/-- what these names of the module reach in n steps -/
def asX (g : Addr → Option Obj) (ns : List Str) (n : Nat) : List Addr := mainGlobals :: goX g n (ns.map (He.ga (He.frG g [mainGlobals])))
def obsXG (n : Nat) (ns : List Str) (fa : List He.Fa) (fn : List He.DefD) (ex : PySem.W.Frag → Bool) (ts : List (Str × List (Str × D))) (g : Addr → Option Obj) : AlF := obsF fa fn ex ts (He.frG g (asX g ns n))
def hookX (n : Nat) (ns : List Str) (fa : List He.Fa) (fn : List He.DefD) (ex : PySem.W.Frag → Bool) (ts : List (Str × List (Str × D))) : PySem.W.Hook where
  α := AlF
  obs := fun s => obsXG n ns fa fn ex ts s.heap.get?
  val := fun w => valFH fn ts w
  says := fun w h => ∃ K : PySem.W.Frag, K.In h ∧ SaysF fa fn ex ts w K
  of := fun _ _ e => ⟨_, He.frG_in, e⟩
  keeps := fun _ _ _ ⟨K, hK, c⟩ k => ⟨K, PySem.W.Frag.In.keeps hK k, c⟩
theorem obsXG_eq {n : Nat} {ns : List Str} {fa : List He.Fa} {fn : List He.DefD} {ex : PySem.W.Frag → Bool} {ts : List (Str × List (Str × D))} {g : Addr → Option Obj} {s : Shared} (h : ∀ a, g a = s.heap.get? a) : obsXG n ns fa fn ex ts g = (hookX n ns fa fn ex ts).obs s := by
  have e : g = s.heap.get? := funext h
  rw [e] <;> rfl
end Sw

set_option Elab.async false
set_option linter.all false
set_option maxRecDepth 100000
namespace L2N
open PySem PySem.Spec PyProof.Rows L2
theorem mk_end {X : Cx} {pins : List (Addr × Obj)} {σ : L2.St} {H1 H2 : Hp} {Q : XK} {hp hp2 h2 : Heap} {g1 g2 : Array GenState} {d1 d2 : Drawn} {t1 t2 : Nat} {os1 os2 : OsState} {a C d : Addr} {fs : List (Str × V)} (T : Raises X (.ref C)) (I1 : Inv X pins σ H1 ⟨hp, g1, d1, t1, os1⟩)
    (ha : hp.objs.size ≤ a) (k : ∀ b o, hp.get? b = some o → hp2.get? b = some o) (un : Un (frs X.stack) [] (upd H1 a (exo a C none)) H2 hp2 h2) (hok : HOk X.prog X.w H2 h2) (ho : os2 = os1) (hb : AllBare g2)
    (ea : H2 a = some (exo a C (some d))) (ed : H2 d = some (exd d fs)) (hd1 : H1 d = none) (q : Q (.ref C) (some d) (upd (del H2 a) d (.xd fs))) : MkP X pins σ Q (.ref a) ⟨h2, g2, d2, t2, os2⟩ := by
  obtain ⟨t0, G, J, kG, ge, hoe, na⟩ := mk_end0 (d2 := d2) (t2 := t2) I1 ha k un hok ho hb ea ed hd1
  exact ⟨a, _, _, ⟨G, g2, d2, t2, os2⟩, _, .ref C, some d, rfl, J, kG, ge, hoe, ⟨rfl, rfl, fun vs e => by cases e; rfl⟩, rfl, rfl, na, rfl, hb, T, q⟩
theorem pmk_oex {X : Cx} {e : Expr} {es : List Expr} {ta : TA} {p pos : Pos} {CX : CXT} {x : Str} {C fI : Addr} {k : Nat} {fd : FuncData} {ps : List Str} {sp : Sp} {ds : List Value} {dvs : List V} (T : OexC X.K C) (iC : PySem.W.findIn X.K (.ref C) "__init__" = some (some (.ref fI))) (tI : PySem.W.typeIn X.K (.ref fI) = some (.type "function"))
    (F1 : FnOk X.prog X.w X.K X.mg X.base CX k fI fd ps sp) (hr : Room (k + 1) X.A) (hb : Binds X.K fd ps ds) (hd : Vals dvs ds) (hx : Passes CX X (fun _ _ _ => False)) (hg : Gl X x) (hm : X.mg x = some (.ref C)) (ha : PA X (e :: es) ta)
    (hdb : (x == ("__debug__" : Str)) = false := by decide) (he : starEach (e :: es) X.env = (false, eval e X.env) :: starEach es X.env := by rfl) (hpl : (backTo pos (starEach es X.env)).any (·.1) = false := by rfl) :
    PMk X (.Call (.Name x p) (e :: es) [] pos) (tMkO C sp dvs ta) := by
  intro pins s σ H Q I h
  obtain ⟨nm, q, N, bs, bm, sn, sub, ab, col, dd, k0, k1, k2, k3, k5, hC, hbm⟩ := T.cls
  refine wpAny_Call_Name_kw (ld_glob I hg hm ?_ hdb)
  refine PySem.W.callWith_K (h₀ := X.base) I.ok.mod.kin T.kC (thn (ha.run pos pins s σ H _ I h) fun us s1 ⟨vs, H1, I1, r1, hz, q1⟩ => ⟨I1.kIn, ?_⟩) he hpl
  show wpAny _ _ (call (.ref C) us) _ _ _
  obtain ⟨hp, g, dr, tk, os⟩ := s1
  have hsz : hp.objs.size ≤ hp.objs.size + 1 := Nat.le_succ _
  have hn : H1 (hp.objs.size + 1) = none := I1.hok.fresh hsz
  have hq := q1 (hp.objs.size + 1) hn
  have kk : ∀ b o, hp.get? b = some o → ((hp.push (PySem.W.kdv_tup us)).push (PySem.HandSPX.excO C hp.objs.size)).get? b = some o := fun b o e => Heap.get?_push_of_some _ (Heap.get?_push_of_some _ e)
  have hget : ((hp.push (PySem.W.kdv_tup us)).push (PySem.HandSPX.excO C hp.objs.size)).get? (hp.objs.size + 1) = some (PySem.HandSPX.excO C hp.objs.size) := by heap_get
  have I2 : Inv X pins σ (upd H1 (hp.objs.size + 1) (exo (hp.objs.size + 1) C none)) ⟨(hp.push (PySem.W.kdv_tup us)).push (PySem.HandSPX.excO C hp.objs.size), g, dr, tk, os⟩ :=
    I1.laid (t' := tk) (a := hp.objs.size + 1) (o := exo (hp.objs.size + 1) C none) (h' := (hp.push (PySem.W.kdv_tup us)).push (PySem.HandSPX.excO C hp.objs.size)) kk hsz (exo_ok hget)
  have r2 : Vals (V.ref (hp.objs.size + 1) :: (vs ++ dvs)) (Value.ref (hp.objs.size + 1) :: (us ++ ds)) := .cons rfl (r1.append hd)
  have hl : (Value.ref (hp.objs.size + 1) :: us ++ ds).length = ps.length := by
    have e := r2.length
    rw [F1.len _ _ _ _ hq] at e
    exact e.symm
  have hus : us.length ≤ sizeLine := by
    rw [← Paired.length r1, sizeLine_eq]
    omega
  refine wpAny_call (PySem.HandSPX.call_own F.excBase_ValueError (fun Y => PySem.HandSPX.refsVE_contains Y bm hbm) (I1.kIn _ _ hC) (PySem.W.looks_findIn I1.kIn iC) (fun self => PySem.W.bind_fn I1.kIn self tI) hus
    (codeAny_mono (F1.run _ X.stack _ _ ⟨Value.ref (hp.objs.size + 1) :: us, []⟩ (Value.ref (hp.objs.size + 1) :: (us ++ ds)) _ _ (fun _ _ _ => False) (hr.make C us []) (I2.env0.make C us []) (hb _ (Value.ref (hp.objs.size + 1) :: us) I2.kIn hl) r2 hq) fun r s' hq' => ?_))
  cases r with
  | error er => exact hx pins σ _ _ er s' I2 hq'
  | ok fl =>
    cases fl with
    | ret u =>
      obtain ⟨v, H2, os2, bare2, un2, hok2, rv, ev, d, fs, ea, ed, hd1, q2⟩ := hq'
      subst ev
      obtain ⟨h2, g2, d2, t2, os'⟩ := s'
      exact ⟨rv, mk_end (raises_own T.exC T.tyC) I1 hsz kk un2 hok2 os2 bare2 ea ed hd1 q2⟩
    | next => exact False.elim hq'
    | brk => exact False.elim hq'
    | cont => exact False.elim hq'
/-! ### X(), X an own exception class -/
theorem pmk_own0 {X : Cx} {C : Addr} {bmB : List Value} {B newId initId : String} {x : Str} {p pos : Pos} (F : ExcBaseFacts B newId initId bmB) (q : PySem.W.excIn X.K C bmB newId = true) (gC : X.mg x = some (.ref C))
    (kC : PySem.W.keepIn X.K (.ref C) = true) (r : Raises X (.ref C)) (hg : Gl X x) (hdb : (x == ("__debug__" : Str)) = false := by decide) :
    PMk X (.Call (.Name x p) [] [] pos) (fun σ H Q => Q (.ref C) none H) := by
  intro pins s σ H Q I h
  refine wpAny_Call_Name_kw (ld_glob I hg gC ?_ hdb)
  refine PySem.W.callWith_K0 I.kIn kC ?_
  show wpAny _ _ (call (.ref C) []) _ _ _
  obtain ⟨bm, N, nm, qn, bs, hdct, sn, sub, ab, col, dd, k0, k1, k2, k3, k5, mN, hC, hN, hni, T⟩ := exc_obj I.kIn q
  refine wpAny_call_exc_subT F T hC hN hni (fun h' e hm => ?_) (Nat.zero_le _)
  exact mk_of I hm r h (I.hok.gone hm.new)
theorem pmk_oex0 {X : Cx} {p pos : Pos} {CX : CXT} {x : Str} {C fI : Addr} {k : Nat} {fd : FuncData} {ps : List Str} {sp : Sp} {ds : List Value} {dvs : List V} (T : OexC X.K C) (iC : PySem.W.findIn X.K (.ref C) "__init__" = some (some (.ref fI))) (tI : PySem.W.typeIn X.K (.ref fI) = some (.type "function"))
    (F1 : FnOk X.prog X.w X.K X.mg X.base CX k fI fd ps sp) (hr : Room (k + 1) X.A) (hb : Binds X.K fd ps ds) (hd : Vals dvs ds) (hx : Passes CX X (fun _ _ _ => False)) (hg : Gl X x) (hm : X.mg x = some (.ref C))
    (hdb : (x == ("__debug__" : Str)) = false := by decide) :
    PMk X (.Call (.Name x p) [] [] pos) (tMkO C sp dvs tNil) := by
  intro pins s σ H Q I h
  obtain ⟨nm, q, N, bs, bm, sn, sub, ab, col, dd, k0, k1, k2, k3, k5, hC, hbm⟩ := T.cls
  refine wpAny_Call_Name_kw (ld_glob I hg hm ?_ hdb)
  refine PySem.W.callWith_K0 I.kIn T.kC ?_
  show wpAny _ _ (call (.ref C) []) _ _ _
  obtain ⟨hz, q1⟩ := h
  obtain ⟨hp, g, dr, tk, os⟩ := s
  have hsz : hp.objs.size ≤ hp.objs.size + 1 := Nat.le_succ _
  have hn : H (hp.objs.size + 1) = none := I.hok.fresh hsz
  have hq := q1 (hp.objs.size + 1) hn
  have kk : ∀ b o, hp.get? b = some o → ((hp.push (PySem.W.kdv_tup [])).push (PySem.HandSPX.excO C hp.objs.size)).get? b = some o := fun b o e => Heap.get?_push_of_some _ (Heap.get?_push_of_some _ e)
  have hget : ((hp.push (PySem.W.kdv_tup [])).push (PySem.HandSPX.excO C hp.objs.size)).get? (hp.objs.size + 1) = some (PySem.HandSPX.excO C hp.objs.size) := by heap_get
  have I2 : Inv X pins σ (upd H (hp.objs.size + 1) (exo (hp.objs.size + 1) C none)) ⟨(hp.push (PySem.W.kdv_tup [])).push (PySem.HandSPX.excO C hp.objs.size), g, dr, tk, os⟩ :=
    I.laid (t' := tk) (a := hp.objs.size + 1) (o := exo (hp.objs.size + 1) C none) (h' := (hp.push (PySem.W.kdv_tup [])).push (PySem.HandSPX.excO C hp.objs.size)) kk hsz (exo_ok hget)
  have r2 : Vals (V.ref (hp.objs.size + 1) :: ([] ++ dvs)) (Value.ref (hp.objs.size + 1) :: ds) := .cons rfl hd
  have hl : ([Value.ref (hp.objs.size + 1)] ++ ds).length = ps.length := by
    have e := r2.length
    rw [F1.len _ _ _ _ hq] at e
    exact e.symm
  have hus : ([] : List Value).length ≤ sizeLine := Nat.zero_le _
  refine wpAny_call (PySem.HandSPX.call_own F.excBase_ValueError (fun Y => PySem.HandSPX.refsVE_contains Y bm hbm) (I.kIn _ _ hC) (PySem.W.looks_findIn I.kIn iC) (fun self => PySem.W.bind_fn I.kIn self tI) hus
    (codeAny_mono (F1.run _ X.stack _ _ ⟨Value.ref (hp.objs.size + 1) :: [], []⟩ (Value.ref (hp.objs.size + 1) :: ds) _ _ (fun _ _ _ => False) (hr.make C [] []) (I2.env0.make C [] []) (hb _ (Value.ref (hp.objs.size + 1) :: []) I2.kIn hl) r2 hq) fun r s' hq' => ?_))
  cases r with
  | error er => exact hx pins σ _ _ er s' I2 hq'
  | ok fl =>
    cases fl with
    | ret u =>
      obtain ⟨v, H2, os2, bare2, un2, hok2, rv, ev, d, fs, ea, ed, hd1, q2⟩ := hq'
      subst ev
      obtain ⟨h2, g2, d2, t2, os'⟩ := s'
      exact ⟨rv, mk_end (raises_own T.exC T.tyC) I hsz kk un2 hok2 os2 bare2 ea ed hd1 q2⟩
    | next => exact False.elim hq'
    | brk => exact False.elim hq'
    | cont => exact False.elim hq'
end L2N
namespace Sw
open PySem PySem.Spec L2

/-- is an instance of n one of m -/
def subX (n m : Str) : Bool := n == m || (m == ("StrandError" : Str) || m == ("ValueError" : Str))
/-- what every class of refusals must say -/
structure ClsF (K : PySem.W.Frag) (C : Addr) : Prop where
  isE : ExcC K C
  oex : OexC K C
/-- the table of a law's classes: cl their names, fl the fields' names -/
structure XT (K : PySem.W.Frag) (mg : Str → Option Value) (cl fl : List Str) : Prop where
  gm : ∀ n ∈ cl, mg n = some (.ref (He.ga K n))
  cf : ∀ n ∈ cl, ClsF K (He.ga K n)
  kit : ∀ n ∈ cl, ∀ m ∈ cl, PySem.W.kitOne K (.ref (He.ga K n)) (.ref (He.ga K m)) = some (subX n m)
  exm : ∀ n ∈ cl, ∀ m ∈ cl, PySem.W.exmOne K (.ref (He.ga K n)) (.ref (He.ga K m)) = some (subX n m)
  ve : ∀ n ∈ cl, PySem.W.kitOne K (.ref (He.ga K n)) (.type "ValueError") = some true
  nof : ∀ n ∈ cl, ∀ f ∈ fl, PySem.W.findIn K (.ref (He.ga K n)) f = some none
end Sw

set_option Elab.async false
set_option linter.all false
set_option maxRecDepth 100000
namespace Sw
open PySem PySem.Spec L2

abbrev PSpX := List D → (RV → Prop) → (XV → Prop) → Prop
def spOfX (K : FgK) (mg : Str → Option Value) (ps : PSpX) : Sp := fun vs H Q E => ∃ (F : Hp) (ds : List D), Le F H ∧ AtAll K F ds vs ∧ ∃ (Qp : RV → Prop) (Ep : XV → Prop), ps ds Qp Ep ∧
  (∀ v H' F' rv, Post K none H F rv none v H' F' → Qp rv → Q v H') ∧ ∀ xv cls d H', (∀ b o, H b = some o → H' b = some o) → (∀ dd, d = some dd → H dd = none) → XvOk mg H' xv cls d → Ep xv → E cls d H'
section
variable {P : Program} {w : World} {K : PySem.W.Frag} {mg : Str → Option Value} {base : Heap}
/-- a def that may refuse, to be called -/
structure CalX (P : Program) (w : World) (K : PySem.W.Frag) (mg : Str → Option Value) (base : Heap) (k : Nat) (x : Str) (ps : List Str) (dds : List D) (sp : PSpX) : Prop where
  ex : ∃ (f : Addr) (fd : FuncData) (dvs : List V) (ds : List Value), FnOk P w K mg base (L2N.CX P w) k f fd ps (spOfX ⟨K, P, w⟩ mg sp) ∧ mg x = some (.ref f) ∧ PySem.W.keepIn K (.ref f) = true ∧ Binds K fd ps ds ∧ Vals dvs ds ∧ constsOk dvs dds
theorem CalX.mono {k k' : Nat} {x : Str} {ps : List Str} {dds : List D} {sp : PSpX} (c : CalX P w K mg base k x ps dds sp) (h : k ≤ k') : CalX P w K mg base k' x ps dds sp := by
  obtain ⟨f, fd, dvs, ds, h1, h2⟩ := c.ex
  exact ⟨f, fd, dvs, ds, h1.mono h, h2⟩
/-- a def that may refuse, to be called -/
structure CalXA (P : Program) (w : World) (K : PySem.W.Frag) (mg : Str → Option Value) (base : Heap) (k : Nat) (x : Str) (ps : List Str) (dds : List D) (sp : PSpX) : Prop where
  ex : ∃ (f : Addr) (fd : FuncData) (dvs : List V) (ds : List Value), FnOk P w K mg base (L2.CX P w) k f fd ps (spOfX ⟨K, P, w⟩ mg sp) ∧ mg x = some (.ref f) ∧ PySem.W.keepIn K (.ref f) = true ∧ Binds K fd ps ds ∧ Vals dvs ds ∧ constsOk dvs dds
theorem CalXA.mono {k k' : Nat} {x : Str} {ps : List Str} {dds : List D} {sp : PSpX} (c : CalXA P w K mg base k x ps dds sp) (h : k ≤ k') : CalXA P w K mg base k' x ps dds sp := by
  obtain ⟨f, fd, dvs, ds, h1, h2⟩ := c.ex
  exact ⟨f, fd, dvs, ds, h1.mono h, h2⟩
end
theorem RelB.keep {K : FgK} {C : Ec} {σ : L2.St} {H F H' : Hp} {env : List SV} (R : RelB K C σ H F env) (k : ∀ b o, H b = some o → H' b = some o) : RelB K C σ H' F env := by
  refine ⟨fun b o h => k b o (R.frz b o h), R.mono, R.new, fun b o h n => k b o (R.frame b o h n), fun a h => ?_, R.len, fun i sv e => ?_, R.dist⟩
  · obtain ⟨⟨xs, e⟩, f, g⟩ := R.la a h
    exact ⟨⟨xs, k _ _ e⟩, f, g⟩
  · have q := R.slot i sv e
    cases sv with
    | un => trivial
    | raw z => exact q
    | dat d => exact q
    | obj l ds =>
      obtain ⟨r, xs, e1, e2, e3⟩ := q
      exact ⟨r, xs, e1, k _ _ e2, e3⟩
end Sw
namespace L2
open PySem PySem.Spec PyProof.Rows
/-! ### try, several clauses, each with or without a name -/
/-- behind a suite the clause's name is gone -/
def gone (o : Option Nat) (σ : St) : St := match o with
  | none => σ
  | some i => σ.set i none
def bound (o : Option Nat) (a : Addr) (σ : St) : St := match o with
  | none => σ
  | some i => σ.set i (some (.ref a))
def goneE (o : Option Nat) (D : Ends) : Ends := { nx := fun σ' H' => D.nx (gone o σ') H', rt := D.rt, bk := fun σ' H' => D.bk (gone o σ') H', ct := fun σ' H' => D.ct (gone o σ') H' }
structure Hdl where
  c : Value
  o : Option Nat
  ts : Addr → Value → Option Addr → TS
def wAll (K : PySem.W.Frag) (Wout : WX) (D : Ends) : List Hdl → WX
  | [] => Wout
  | h :: r => fun cls d σ H => ∃ b, PySem.W.exmOne K cls h.c = some b ∧ (b = true → ∀ a, H a = none → h.ts a cls d (goneE h.o D) (bound h.o a σ) H) ∧ (b = false → wAll K Wout D r cls d σ H)
inductive HAll (X : Cx) : List ExceptHandler → List Hdl → Prop
  | nil : HAll X [] []
  | plain {x : Str} {h : Hdl} {b₀ : Stmt} {suite : List Stmt} {np pos' : Pos} {hds : List ExceptHandler} {l : List Hdl} (hc : Names X x h.c) (ho : h.o = none)
      (hsu : ∀ (a : Addr) (oe : Obj) (cls : Value) (d : Option Addr) (pn : List (Addr × Obj)), Zc cls d oe → (∃ vs, oe.data = .fields vs) → PSs (X.suite a ((a, oe) :: pn)) (b₀ :: suite) (h.ts a cls d)) (r : HAll X hds l) :
      HAll X (.ExceptHandler (some (.Name x np)) none (b₀ :: suite) pos' :: hds) (h :: l)
  | named {x n : Str} {i : Nat} {h : Hdl} {b₀ : Stmt} {suite : List Stmt} {np pos' : Pos} {hds : List ExceptHandler} {l : List Hdl} (hc : Names X x h.c) (ho : h.o = some i) (hi : X.N[i]? = some n) (hln : X.env.kindOf n = some .local)
      (hsu : ∀ (a : Addr) (oe : Obj) (cls : Value) (d : Option Addr) (pn : List (Addr × Obj)), Zc cls d oe → (∃ vs, oe.data = .fields vs) → PSs (X.suite a ((a, oe) :: pn)) (b₀ :: suite) (h.ts a cls d)) (r : HAll X hds l) :
      HAll X (.ExceptHandler (some (.Name x np)) (some n) (b₀ :: suite) pos' :: hds) (h :: l)
section
variable {X : Cx} {body : List Stmt} {h₀ : ExceptHandler} {hds : List ExceptHandler} {l : List Hdl} {pos : Pos} {tb : WX → TS} {Wout : WX}
theorem ps_try_all (hs : X.stack = X.env :: X.outer) (hf : X.env.frame = some X.env.locals) (hN : X.N.Nodup) (tk : Takes X Wout)
    (hb : ∀ (W : WX) (pn : List (Addr × Obj)) (xe : Value → Shared → Prop), Takes (X.tr pn xe) W → PassesOwn (model X.prog X.w) X.A X.env xe → PSs (X.tr pn xe) body (tb W))
    (hh : HAll X (h₀ :: hds) l) : PS X (.Try body (h₀ :: hds) [] [] pos) (fun D σ H => tb (wAll X.K Wout D l) D σ H) := by
  refine ⟨fun pins s σ H D I h => ?_⟩
  have ok := I.ok
  have hfr : X.A.frames = some (X.env :: X.outer) := by rw [ok.frames, hs]
  refine wpAny_Try_except ?_
  refine wpAny_mono ((hb (wAll X.K Wout D l) (X.pn ++ pins) (fun e s₁ => wpAny (model X.prog X.w) X.A (noteFrame e X.env) (fun _ s₂ => wpAny (model X.prog X.w) X.A (setFlight e none) (fun _ s₃ =>
    wpAny (model X.prog X.w) X.A (handleBy e X.env (h₀ :: hds)) (SP X pins D) X.xe s₃) X.xe s₂) X.xe s₁) (fun u s' xx => ?_) PassesOwn.looking).run [] s σ H D (I.toTry _) h) (fun f s1 hsp => ?_) (fun e s1 he => he)
  · obtain ⟨a, B, sI, pins', σ', H', cls, d, rfl, J', nb, up, sky, na, os, ag, w⟩ := xx
    have J : Inv X pins σ' H' sI := J'.ofTry ok
    have sky' : Sky B (X.env :: X.outer) a (Zc cls d) X.env.locals s'.heap := by rw [← hs]; exact sky
    show wpAny (model X.prog X.w) X.A (noteFrame (.ref a) X.env) _ _ _
    refine Sky.land Zc.steady hfr hf sky' fun h3 fl3 up3 => ?_
    have J3 : Inv X pins σ' H' { s' with heap := h3 } := J.landed nb fl3.1 (up.trans up3) os ag
    obtain ⟨oe3, vs3, he3, hz3, hd3⟩ := fl3.there
    have notFr : ∀ {h : Heap} {o : Obj} {vs : Array Value}, h.FunFrames B (X.env :: X.outer) → h.get? a = some o → o.data = .fields vs → a ∉ frs (X.env :: X.outer) := fun {h o vs} ff e dd hm => by
      obtain ⟨_, o', e', hnf⟩ := ff.mem hm
      rw [e] at e'; cases e'
      exact hnf _ dd
    have nfr := notFr fl3.2.2.1 he3 hd3
    have nL : a ≠ X.env.locals := fun z => nfr (List.mem_filterMap.mpr ⟨X.env, List.mem_cons_self, by rw [hf, z]⟩)
    have nF : a ∉ X.fs := fun hm => by
      obtain ⟨e, he, q⟩ := List.mem_filterMap.mp hm
      exact nfr (List.mem_filterMap.mpr ⟨e, List.mem_cons_of_mem _ he, q⟩)
    have S3 := J3.suite he3 hd3 na nL nF
    have LT : PySem.W.Looks (model X.prog X.w) h3 (typeOf (.ref a)) cls := fun A Q E s k q => wpAny_typeOf_ref (k _ _ he3) (by rw [hz3.1]; exact q)
    have test : ∀ {x : Str} {c : Value} {np : Pos} {Q : Value → Shared → Prop} {E : Value → Shared → Prop}, Names X x c → Q c { s' with heap := h3 } → wpAny (model X.prog X.w) (X.A.mark (some (.ref a))) (eval (.Name x np) X.env) Q E { s' with heap := h3 } := fun {x c np Q E} hc q => by
      obtain ⟨hg, hdbg, hm | ⟨hm, hv, hnn⟩⟩ := hc
      · exact ld_glob (X := X.suite a ((a, oe3) :: (X.pn ++ pins))) S3 hg hm q hdbg
      · exact ld_blt (X := X.suite a ((a, oe3) :: (X.pn ++ pins))) S3 hg hm hv q hnn hdbg
    have go : ∀ {hds' : List ExceptHandler} {l' : List Hdl}, HAll X hds' l' → wAll X.K Wout D l' cls d σ' H' →
        wpAny (model X.prog X.w) X.A (handleBy (.ref a) X.env hds') (SP X pins D) X.xe { s' with heap := h3 } := by
      intro hds' l' hk
      induction hk with
      | nil =>
        intro w
        refine wpAny_handleBy_nil ?_
        obtain ⟨k1, k2, k3, oe, vs, T, oT, ts', he, hz, hd, h1, hr⟩ := id fl3
        unfold PySem.passOn
        refine wpAny_bind (wpAny_field he hd h1 ?_)
        rw [if_neg (show ¬ ((Value.ref T == Value.none) = true) from by simp)]
        have fin : wpAny (model X.prog X.w) X.A (setFlight (.ref a) X.env.frame) (fun _ s4 => wpAny (model X.prog X.w) X.A (throw (.ref a) : Sem Flow) (SP X pins D) X.xe s4) X.xe { s' with heap := h3 } := by
          rw [hf]
          refine HandSPX.setFlight_upZ fl3 fun h4 hh4 up4 => wpAny_throw (tk _ _ ?_)
          exact ⟨a, B, sI, pins, σ', H', cls, d, rfl, J, nb, (up.trans up3).trans up4, .inr (.inr (by rw [hs]; exact hh4)), na, os, ag, w⟩
        first
          | exact wpAny_bind (wpAny_pure (wpAny_bind fin))
          | exact wpAny_bind fin
      | @plain x h b₀ suite np pos' hds2 l2 hc ho hsu r ih =>
        intro w
        obtain ⟨b, hb1, hyes, hno⟩ := w
        refine wpAny_handleBy_cons (codeAny_handlers_test ?_) (by intro q; cases q)
        have LM := PySem.W.exm_one (M := model X.prog X.w) (J3.kIn) LT hb1
        refine test hc (LM.here ?_)
        cases b with
        | true =>
          refine codeAny_handlers_suite ?_
          refine HandSPX.lands_againZ fl3 fun h4 fl4 up4 => ?_
          have J4 : Inv X pins σ' H' { s' with heap := h4 } := J.landed nb fl4.1 ((up.trans up3).trans up4) os ag
          obtain ⟨oe4, vs4, he4, hz4, hd4⟩ := fl4.there
          have S4 := J4.suite he4 hd4 na nL nF
          have hy := hyes rfl a na
          rw [ho] at hy
          refine wpAny_mono ((hsu a oe4 cls d (X.pn ++ pins) hz4 ⟨_, hd4⟩).run [] _ _ H' _ S4 hy) (fun f s6 hsp => ?_) (fun _ _ z => False.elim z)
          cases f with
          | next =>
            obtain ⟨σ6, H6, S6, q6⟩ := hsp
            exact ⟨_, _, S6.unsuite ok, q6⟩
          | brk =>
            obtain ⟨σ6, H6, S6, q6⟩ := hsp
            exact ⟨_, _, S6.unsuite ok, q6⟩
          | cont =>
            obtain ⟨σ6, H6, S6, q6⟩ := hsp
            exact ⟨_, _, S6.unsuite ok, q6⟩
          | ret u =>
            obtain ⟨v6, σ6, H6, S6, r6, q6⟩ := hsp
            exact ⟨_, _, _, S6.unsuite ok, r6, q6⟩
        | false =>
          show wpAny _ X.A (handleBy (.ref a) X.env hds2) _ _ _
          exact ih (hno rfl)
      | @named x n i h b₀ suite np pos' hds2 l2 hc ho hi hln hsu r ih =>
        intro w
        obtain ⟨b, hb1, hyes, hno⟩ := w
        refine wpAny_handleBy_cons (codeAny_handlers_test ?_) (by intro q; cases q)
        have hloc : Loc X.env.scope n := .inl hln
        have LM := PySem.W.exm_one (M := model X.prog X.w) (J3.kIn) LT hb1
        refine test hc (LM.here ?_)
        cases b with
        | true =>
          refine codeAny_handlers_suite_as ?_
          refine HandSPX.lands_againZ fl3 fun h4 fl4 up4 => ?_
          have J4 : Inv X pins σ' H' { s' with heap := h4 } := J.landed nb fl4.1 ((up.trans up3).trans up4) os ag
          obtain ⟨oe4, vs4, he4, hz4, hd4⟩ := fl4.there
          have S4 := J4.suite he4 hd4 na nL nF
          have hy := hyes rfl a na
          rw [ho] at hy
          refine store_ok (X := X.suite a ((a, oe4) :: (X.pn ++ pins))) (v := .ref a) S4 hN hi hloc rfl (fun s5 S5 => ?_) (.inr hln)
          refine wpAny_mono ((hsu a oe4 cls d (X.pn ++ pins) hz4 ⟨_, hd4⟩).run [] s5 _ H' _ S5 hy) (fun f s6 hsp => ?_) (fun _ _ z => False.elim z)
          have end_ : ∀ {σ6 : St} {H6 : Hp} {Q : Shared → Prop}, Inv (X.suite a ((a, oe4) :: (X.pn ++ pins))) [] σ6 H6 s6 → (∀ s7, Inv X pins (σ6.set i none) H6 s7 → Q s7) →
              wpAny (model X.prog X.w) X.A (do bindName X.env n .none; unbindBehindTheSuite X.env n pos') (fun _ s7 => Q s7) X.xe s6 := fun {σ6 H6 Q} S6 hq => gone_ok (S6.unsuite ok) hN hi hln hq
          cases f with
          | next =>
            obtain ⟨σ6, H6, S6, q6⟩ := hsp
            exact end_ S6 fun s7 J7 => ⟨_, _, J7, q6⟩
          | brk =>
            obtain ⟨σ6, H6, S6, q6⟩ := hsp
            exact end_ S6 fun s7 J7 => ⟨_, _, J7, q6⟩
          | cont =>
            obtain ⟨σ6, H6, S6, q6⟩ := hsp
            exact end_ S6 fun s7 J7 => ⟨_, _, J7, q6⟩
          | ret u =>
            obtain ⟨v6, σ6, H6, S6, r6, q6⟩ := hsp
            exact end_ S6 fun s7 J7 => ⟨_, _, _, J7, r6, q6⟩
        | false =>
          show wpAny _ X.A (handleBy (.ref a) X.env hds2) _ _ _
          exact ih (hno rfl)
    exact go hh w
  · cases f with
    | next =>
      obtain ⟨σ', H', J', q⟩ := hsp
      exact wpAny_execs_nil ⟨σ', H', J'.ofTry ok, q⟩
    | brk =>
      obtain ⟨σ', H', J', q⟩ := hsp
      exact ⟨σ', H', J'.ofTry ok, q⟩
    | cont =>
      obtain ⟨σ', H', J', q⟩ := hsp
      exact ⟨σ', H', J'.ofTry ok, q⟩
    | ret u =>
      obtain ⟨v, σ', H', J', r, q⟩ := hsp
      exact ⟨v, σ', H', J'.ofTry ok, r, q⟩
end
section
variable {X : Cx} {body : List Stmt} {h₀ : ExceptHandler} {hds : List ExceptHandler} {l : List Hdl} {pos : Pos} {tb : WX → TS} {Wout : WX}
theorem ps_try_allN (hs : X.stack = X.env :: X.outer) (hf : X.env.frame = some X.env.locals) (hN : X.N.Nodup) (tk : L2N.Takes X Wout)
    (hb : ∀ (W : WX) (pn : List (Addr × Obj)) (xe : Value → Shared → Prop), L2N.Takes (X.tr pn xe) W → PassesOwn (model X.prog X.w) X.A X.env xe → PSs (X.tr pn xe) body (tb W))
    (hh : HAll X (h₀ :: hds) l) : PS X (.Try body (h₀ :: hds) [] [] pos) (fun D σ H => tb (wAll X.K Wout D l) D σ H) := by
  refine ⟨fun pins s σ H D I h => ?_⟩
  have ok := I.ok
  have hfr : X.A.frames = some (X.env :: X.outer) := by rw [ok.frames, hs]
  refine wpAny_Try_except ?_
  refine wpAny_mono ((hb (wAll X.K Wout D l) (X.pn ++ pins) (fun e s₁ => wpAny (model X.prog X.w) X.A (noteFrame e X.env) (fun _ s₂ => wpAny (model X.prog X.w) X.A (setFlight e none) (fun _ s₃ =>
    wpAny (model X.prog X.w) X.A (handleBy e X.env (h₀ :: hds)) (SP X pins D) X.xe s₃) X.xe s₂) X.xe s₁) (fun u s' xx => ?_) PassesOwn.looking).run [] s σ H D (I.toTry _) h) (fun f s1 hsp => ?_) (fun e s1 he => he)
  · obtain ⟨a, B, sI, pins', σ', H', cls, d, rfl, J', nb, up, sky, na, os, ag, w⟩ := xx
    have J : Inv X pins σ' H' sI := J'.ofTry ok
    have sky' : Sky B (X.env :: X.outer) a (L2N.Zn cls d) X.env.locals s'.heap := by rw [← hs]; exact sky
    show wpAny (model X.prog X.w) X.A (noteFrame (.ref a) X.env) _ _ _
    refine L2N.Sky.land L2N.Zn.steady hfr hf sky' fun h3 fl3 up3 => ?_
    have J3 : Inv X pins σ' H' { s' with heap := h3 } := J.landed nb fl3.1 (up.trans up3) os ag
    obtain ⟨oe3, vs3, he3, hz3, hd3⟩ := fl3.there
    have notFr : ∀ {h : Heap} {o : Obj} {vs : Array Value}, h.FunFrames B (X.env :: X.outer) → h.get? a = some o → o.data = .fields vs → a ∉ frs (X.env :: X.outer) := fun {h o vs} ff e dd hm => by
      obtain ⟨_, o', e', hnf⟩ := ff.mem hm
      rw [e] at e'; cases e'
      exact hnf _ dd
    have nfr := notFr fl3.2.2.1 he3 hd3
    have nL : a ≠ X.env.locals := fun z => nfr (List.mem_filterMap.mpr ⟨X.env, List.mem_cons_self, by rw [hf, z]⟩)
    have nF : a ∉ X.fs := fun hm => by
      obtain ⟨e, he, q⟩ := List.mem_filterMap.mp hm
      exact nfr (List.mem_filterMap.mpr ⟨e, List.mem_cons_of_mem _ he, q⟩)
    have S3 := J3.suite he3 hd3 na nL nF
    have LT : PySem.W.Looks (model X.prog X.w) h3 (typeOf (.ref a)) cls := fun A Q E s k q => wpAny_typeOf_ref (k _ _ he3) (by rw [hz3.1]; exact q)
    have test : ∀ {x : Str} {c : Value} {np : Pos} {Q : Value → Shared → Prop} {E : Value → Shared → Prop}, Names X x c → Q c { s' with heap := h3 } → wpAny (model X.prog X.w) (X.A.mark (some (.ref a))) (eval (.Name x np) X.env) Q E { s' with heap := h3 } := fun {x c np Q E} hc q => by
      obtain ⟨hg, hdbg, hm | ⟨hm, hv, hnn⟩⟩ := hc
      · exact ld_glob (X := X.suite a ((a, oe3) :: (X.pn ++ pins))) S3 hg hm q hdbg
      · exact ld_blt (X := X.suite a ((a, oe3) :: (X.pn ++ pins))) S3 hg hm hv q hnn hdbg
    have go : ∀ {hds' : List ExceptHandler} {l' : List Hdl}, HAll X hds' l' → wAll X.K Wout D l' cls d σ' H' →
        wpAny (model X.prog X.w) X.A (handleBy (.ref a) X.env hds') (SP X pins D) X.xe { s' with heap := h3 } := by
      intro hds' l' hk
      induction hk with
      | nil =>
        intro w
        refine wpAny_handleBy_nil ?_
        obtain ⟨k1, k2, k3, oe, vs, T, oT, ts', he, hz, hd, h1, hr⟩ := id fl3
        unfold PySem.passOn
        refine wpAny_bind (wpAny_field he hd h1 ?_)
        rw [if_neg (show ¬ ((Value.ref T == Value.none) = true) from by simp)]
        have fin : wpAny (model X.prog X.w) X.A (setFlight (.ref a) X.env.frame) (fun _ s4 => wpAny (model X.prog X.w) X.A (throw (.ref a) : Sem Flow) (SP X pins D) X.xe s4) X.xe { s' with heap := h3 } := by
          rw [hf]
          refine HandSPX.setFlight_upZ fl3 fun h4 hh4 up4 => wpAny_throw (tk _ _ ?_)
          exact ⟨a, B, sI, pins, σ', H', cls, d, rfl, J, nb, (up.trans up3).trans up4, .inr (.inr (by rw [hs]; exact hh4)), na, os, ag, w⟩
        first
          | exact wpAny_bind (wpAny_pure (wpAny_bind fin))
          | exact wpAny_bind fin
      | @plain x h b₀ suite np pos' hds2 l2 hc ho hsu r ih =>
        intro w
        obtain ⟨b, hb1, hyes, hno⟩ := w
        refine wpAny_handleBy_cons (codeAny_handlers_test ?_) (by intro q; cases q)
        have LM := PySem.W.exm_one (M := model X.prog X.w) (J3.kIn) LT hb1
        refine test hc (LM.here ?_)
        cases b with
        | true =>
          refine codeAny_handlers_suite ?_
          refine HandSPX.lands_againZ fl3 fun h4 fl4 up4 => ?_
          have J4 : Inv X pins σ' H' { s' with heap := h4 } := J.landed nb fl4.1 ((up.trans up3).trans up4) os ag
          obtain ⟨oe4, vs4, he4, hz4, hd4⟩ := fl4.there
          have S4 := J4.suite he4 hd4 na nL nF
          have hy := hyes rfl a na
          rw [ho] at hy
          refine wpAny_mono ((hsu a oe4 cls d (X.pn ++ pins) hz4.zc ⟨_, hd4⟩).run [] _ _ H' _ S4 hy) (fun f s6 hsp => ?_) (fun _ _ z => False.elim z)
          cases f with
          | next =>
            obtain ⟨σ6, H6, S6, q6⟩ := hsp
            exact ⟨_, _, S6.unsuite ok, q6⟩
          | brk =>
            obtain ⟨σ6, H6, S6, q6⟩ := hsp
            exact ⟨_, _, S6.unsuite ok, q6⟩
          | cont =>
            obtain ⟨σ6, H6, S6, q6⟩ := hsp
            exact ⟨_, _, S6.unsuite ok, q6⟩
          | ret u =>
            obtain ⟨v6, σ6, H6, S6, r6, q6⟩ := hsp
            exact ⟨_, _, _, S6.unsuite ok, r6, q6⟩
        | false =>
          show wpAny _ X.A (handleBy (.ref a) X.env hds2) _ _ _
          exact ih (hno rfl)
      | @named x n i h b₀ suite np pos' hds2 l2 hc ho hi hln hsu r ih =>
        intro w
        obtain ⟨b, hb1, hyes, hno⟩ := w
        refine wpAny_handleBy_cons (codeAny_handlers_test ?_) (by intro q; cases q)
        have hloc : Loc X.env.scope n := .inl hln
        have LM := PySem.W.exm_one (M := model X.prog X.w) (J3.kIn) LT hb1
        refine test hc (LM.here ?_)
        cases b with
        | true =>
          refine codeAny_handlers_suite_as ?_
          refine HandSPX.lands_againZ fl3 fun h4 fl4 up4 => ?_
          have J4 : Inv X pins σ' H' { s' with heap := h4 } := J.landed nb fl4.1 ((up.trans up3).trans up4) os ag
          obtain ⟨oe4, vs4, he4, hz4, hd4⟩ := fl4.there
          have S4 := J4.suite he4 hd4 na nL nF
          have hy := hyes rfl a na
          rw [ho] at hy
          refine store_ok (X := X.suite a ((a, oe4) :: (X.pn ++ pins))) (v := .ref a) S4 hN hi hloc rfl (fun s5 S5 => ?_) (.inr hln)
          refine wpAny_mono ((hsu a oe4 cls d (X.pn ++ pins) hz4.zc ⟨_, hd4⟩).run [] s5 _ H' _ S5 hy) (fun f s6 hsp => ?_) (fun _ _ z => False.elim z)
          have end_ : ∀ {σ6 : St} {H6 : Hp} {Q : Shared → Prop}, Inv (X.suite a ((a, oe4) :: (X.pn ++ pins))) [] σ6 H6 s6 → (∀ s7, Inv X pins (σ6.set i none) H6 s7 → Q s7) →
              wpAny (model X.prog X.w) X.A (do bindName X.env n .none; unbindBehindTheSuite X.env n pos') (fun _ s7 => Q s7) X.xe s6 := fun {σ6 H6 Q} S6 hq => gone_ok (S6.unsuite ok) hN hi hln hq
          cases f with
          | next =>
            obtain ⟨σ6, H6, S6, q6⟩ := hsp
            exact end_ S6 fun s7 J7 => ⟨_, _, J7, q6⟩
          | brk =>
            obtain ⟨σ6, H6, S6, q6⟩ := hsp
            exact end_ S6 fun s7 J7 => ⟨_, _, J7, q6⟩
          | cont =>
            obtain ⟨σ6, H6, S6, q6⟩ := hsp
            exact end_ S6 fun s7 J7 => ⟨_, _, J7, q6⟩
          | ret u =>
            obtain ⟨v6, σ6, H6, S6, r6, q6⟩ := hsp
            exact end_ S6 fun s7 J7 => ⟨_, _, _, J7, r6, q6⟩
        | false =>
          show wpAny _ X.A (handleBy (.ref a) X.env hds2) _ _ _
          exact ih (hno rfl)
    exact go hh w
  · cases f with
    | next =>
      obtain ⟨σ', H', J', q⟩ := hsp
      exact wpAny_execs_nil ⟨σ', H', J'.ofTry ok, q⟩
    | brk =>
      obtain ⟨σ', H', J', q⟩ := hsp
      exact ⟨σ', H', J'.ofTry ok, q⟩
    | cont =>
      obtain ⟨σ', H', J', q⟩ := hsp
      exact ⟨σ', H', J'.ofTry ok, q⟩
    | ret u =>
      obtain ⟨v, σ', H', J', r, q⟩ := hsp
      exact ⟨v, σ', H', J'.ofTry ok, r, q⟩
end
end L2

set_option Elab.async false
set_option linter.all false
set_option maxRecDepth 100000
namespace Sw
open PySem PySem.Spec L2

structure Cls' where
  c : Str
  o : Option Nat
  s : Addr → XV → PS'
def goneS (o : Option Nat) (env : List SV) : List SV := match o with
  | none => env
  | some i => env.set i .un
def boundS (o : Option Nat) (a : Addr) (env : List SV) : List SV := match o with
  | none => env
  | some i => env.set i (.raw (.ref a))
def goneX (o : Option Nat) (Dp : PEnds) : PEnds := { nx := fun e => Dp.nx (goneS o e), rt := Dp.rt, bk := fun e => Dp.bk (goneS o e), ct := fun e => Dp.ct (goneS o e) }
def pHs (cl : List Str) (Ep : XP) (Dp : PEnds) : List Cls' → XP
  | [] => Ep
  | h :: r => fun xv env => xv.c ∈ cl ∧ if subX xv.c h.c = true then ∀ a : Addr, h.s a xv (goneX h.o Dp) (boundS h.o a env) else pHs cl Ep Dp r xv env
/-- the context of an except suite: the exception stands at a, its class's name and its field are xv's -/
abbrev Cz.suit (X : Cz) (a : Addr) (oe : Obj) (pn : List (Addr × Obj)) (d : Option Addr) (xv : XV) : Cz :=
  ⟨X.toCx.suite a ((a, oe) :: pn), wNo, pNo, true, .of takes_none5, fun C => match xv.f with
    | none => d = none
    | some (f, x) => ∃ dd v, d = some dd ∧ C.F0 dd = some (.xd [(f, v)]) ∧ atomV x = some v⟩
/-- what a suite may take for granted -/
structure InS (X : Cz) (cl : List Str) (cls : Value) (d : Option Addr) (oe : Obj) (xv : XV) : Prop where
  z : Zc cls d oe
  f : ∃ vs, oe.data = .fields vs
  i : xv.c ∈ cl
  e : cls = .ref (He.ga X.K xv.c)
inductive HOk (X : Cz) (cl : List Str) : List ExceptHandler → List Cls' → Prop
  | nil : HOk X cl [] []
  | plain {x : Str} {h : Cls'} {b₀ : Stmt} {suite : List Stmt} {np pos' : Pos} {hds : List ExceptHandler} {l : List Cls'} (hg : Gl X x) (hdb : (x == ("__debug__" : Str)) = false) (hx : x ∈ cl) (hc : h.c = x) (ho : h.o = none)
      (hsu : ∀ (a : Addr) (oe : Obj) (cls : Value) (d : Option Addr) (pn : List (Addr × Obj)) (xv : XV), InS X cl cls d oe xv → EB (X.suit a oe pn d xv) (b₀ :: suite) (h.s a xv)) (r : HOk X cl hds l) :
      HOk X cl (.ExceptHandler (some (.Name x np)) none (b₀ :: suite) pos' :: hds) (h :: l)
  | named {x n : Str} {i : Nat} {h : Cls'} {b₀ : Stmt} {suite : List Stmt} {np pos' : Pos} {hds : List ExceptHandler} {l : List Cls'} (hg : Gl X x) (hdb : (x == ("__debug__" : Str)) = false) (hx : x ∈ cl) (hc : h.c = x) (ho : h.o = some i) (hi : X.N[i]? = some n) (hln : X.env.kindOf n = some .local)
      (hsu : ∀ (a : Addr) (oe : Obj) (cls : Value) (d : Option Addr) (pn : List (Addr × Obj)) (xv : XV), InS X cl cls d oe xv → EB (X.suit a oe pn d xv) (b₀ :: suite) (h.s a xv)) (r : HOk X cl hds l) :
      HOk X cl (.ExceptHandler (some (.Name x np)) (some n) (b₀ :: suite) pos' :: hds) (h :: l)
section
variable {K : FgK} {C : Ec} {σ : L2.St} {H F : Hp} {env : List SV}
/-- another ground for what is known -/
theorem RelB.up (R : RelB K C σ H F env) {G : Hp} (h : Le G F) (n : ∀ b o, F b = some o → G b = some o ∨ C.H0 b = none) : RelB K { C with F0 := G } σ H F env :=
  ⟨R.frz, h, n, R.frame, R.la, R.len, R.slot, R.dist⟩
theorem RelB.down {G : Hp} (R : RelB K { C with F0 := G } σ H F env) (h : Le C.F0 G) (n : ∀ b o, G b = some o → C.F0 b = some o ∨ C.H0 b = none) : RelB K C σ H F env :=
  ⟨R.frz, h.trans' R.mono, fun b o q => by
    rcases R.new b o q with z | z
    · exact n b o z
    · exact .inr z, R.frame, R.la, R.len, R.slot, R.dist⟩
theorem RelB.raw (R : RelB K C σ H F env) (i : Nat) (v : V) : RelB K C (σ.set i (some v)) H F (env.set i (.raw v)) := by
  have oth : ∀ (j : Nat) (l : Bool) (es : Ct), (env.set i (.raw v))[j]? = some (SV.obj l es) → j ≠ i ∧ env[j]? = some (SV.obj l es) := fun j l es h => by
    by_cases e : j = i
    · subst e
      by_cases hi : j < env.length
      · rw [List.getElem?_set_self hi] at h; cases h
      · rw [List.getElem?_eq_none (by rw [List.length_set]; omega)] at h; cases h
    · rw [List.getElem?_set_ne (Ne.symm e)] at h; exact ⟨e, h⟩
  refine ⟨R.frz, R.mono, R.new, R.frame, R.la, by rw [List.length_set, List.length_set]; exact R.len, fun j sv e => ?_, fun j k l ds m es h1 h2 h3 => ?_⟩
  · by_cases e' : j = i
    · subst e'
      have hi : j < env.length := by
        have := (List.getElem?_eq_some_iff.mp e).1
        rw [List.length_set] at this
        exact this
      rw [List.getElem?_set_self hi] at e
      cases e
      show (σ.set j (some v))[j]? = some (some v)
      rw [List.getElem?_set_self (by rw [← R.len]; exact hi)]
    · rw [List.getElem?_set_ne (Ne.symm e')] at e ⊢
      exact R.slot j sv e
  · obtain ⟨n1, h1⟩ := oth j l ds h1
    obtain ⟨n2, h2⟩ := oth k m es h2
    rw [List.getElem?_set_ne (Ne.symm n1), List.getElem?_set_ne (Ne.symm n2)] at h3
    exact R.dist j k l ds m es h1 h2 h3
theorem RelB.unset (R : RelB K C σ H F env) (i : Nat) : RelB K C (σ.set i none) H F (env.set i .un) := by
  have oth : ∀ (j : Nat) (l : Bool) (es : Ct), (env.set i .un)[j]? = some (SV.obj l es) → j ≠ i ∧ env[j]? = some (SV.obj l es) := fun j l es h => by
    by_cases e : j = i
    · subst e
      by_cases hi : j < env.length
      · rw [List.getElem?_set_self hi] at h; cases h
      · rw [List.getElem?_eq_none (by rw [List.length_set]; omega)] at h; cases h
    · rw [List.getElem?_set_ne (Ne.symm e)] at h; exact ⟨e, h⟩
  refine ⟨R.frz, R.mono, R.new, R.frame, R.la, by rw [List.length_set, List.length_set]; exact R.len, fun j sv e => ?_, fun j k l ds m es h1 h2 h3 => ?_⟩
  · by_cases e' : j = i
    · subst e'
      have hi : j < env.length := by
        have := (List.getElem?_eq_some_iff.mp e).1
        rw [List.length_set] at this
        exact this
      rw [List.getElem?_set_self hi] at e
      cases e
      trivial
    · rw [List.getElem?_set_ne (Ne.symm e')] at e ⊢
      exact R.slot j sv e
  · obtain ⟨n1, h1⟩ := oth j l ds h1
    obtain ⟨n2, h2⟩ := oth k m es h2
    rw [List.getElem?_set_ne (Ne.symm n1), List.getElem?_set_ne (Ne.symm n2)] at h3
    exact R.dist j k l ds m es h1 h2 h3
theorem RelB.bound (R : RelB K C σ H F env) (o : Option Nat) (a : Addr) : RelB K C (L2.bound o a σ) H F (boundS o a env) := by
  cases o with
  | none => exact R
  | some i => exact R.raw i (.ref a)
theorem RelB.gone (R : RelB K C σ H F env) (o : Option Nat) : RelB K C (L2.gone o σ) H F (goneS o env) := by
  cases o with
  | none => exact R
  | some i => exact R.unset i
end
/-- what the ends want, seen from other grounds -/
theorem EndsOk.ground {K K' : FgX} {C : Ec} {F F1 G : Hp} {D : Ends} {Dp : PEnds} (e : EndsOk K C F D Dp) (hb : K.b = K'.b) (x : XOk K C) (h : Le C.F0 G) (n : ∀ b o, G b = some o → C.F0 b = some o ∨ C.H0 b = none) (l : Le F F1) (o : Option Nat) : EndsOk K' { C with F0 := G } F1 (goneE o D) (goneX o Dp) := by
  obtain ⟨b, mg, W, Ep, ck⟩ := K
  obtain ⟨b', mg', W', Ep', ck'⟩ := K'
  cases hb
  exact ⟨fun σ' H' F' env' R m q => e.nx _ H' F' _ ⟨(R.toRelB.down h n).gone o, x⟩ (l.trans' m) q, fun σ' H' F' env' rv v R m r q => e.rt σ' H' F' env' rv v ⟨R.toRelB.down h n, x⟩ (l.trans' m) (by cases rv <;> exact r) q,
    fun σ' H' F' env' R m q => e.bk _ H' F' _ ⟨(R.toRelB.down h n).gone o, x⟩ (l.trans' m) q, fun σ' H' F' env' R m q => e.ct _ H' F' _ ⟨(R.toRelB.down h n).gone o, x⟩ (l.trans' m) q⟩
section
variable {X : Cz} {cl fl : List Str}
/-- the suite of a clause, as a reading -/
def tSuite (X : Cz) (sts : List Stmt) : Addr → Value → Option Addr → TS := fun a cls d D σ H => ∀ (oe : Obj) (pn : List (Addr × Obj)), Zc cls d oe → (∃ vs, oe.data = .fields vs) → ∀ (pins : List (Addr × Obj)) (s : Shared), Inv (X.toCx.suite a ((a, oe) :: pn)) pins σ H s →
  wpAny (model X.prog X.w) (X.toCx.suite a ((a, oe) :: pn)).A (execs sts X.env) (SP (X.toCx.suite a ((a, oe) :: pn)) pins D) (fun _ _ => False) s
theorem suite_run (T : XT X.K X.mg cl fl) {h : Cls'} {sts : List Stmt} (hsu : ∀ (a : Addr) (oe : Obj) (cls : Value) (d : Option Addr) (pn : List (Addr × Obj)) (xv : XV), InS X cl cls d oe xv → EB (X.suit a oe pn d xv) sts (h.s a xv))
    {C : Ec} {F : Hp} {D : Ends} {Dp : PEnds} (x : XOk X.fr C) (k : EndsOk X.fr C F D Dp) {σ' : L2.St} {H' F' : Hp} {env' : List SV} {cls : Value} {d : Option Addr} {xv : XV} (R : RelB X.fr.b C σ' H' F' env') (l : Le F F') (nw : ∀ dd, d = some dd → C.H0 dd = none ∧ F' dd = none ∧ ¬ Own σ' env' dd)
    (xo : XvOk X.mg H' xv cls d) (hi : xv.c ∈ cl) {a : Addr} (q : h.s a xv (goneX h.o Dp) (boundS h.o a env')) : tSuite X sts a cls d (goneE h.o D) (bound h.o a σ') H' := by
  intro oe pn hz hf pins s I
  have he : cls = .ref (He.ga X.K xv.c) := by
    have e1 := xo.1
    rw [T.gm xv.c hi] at e1
    exact (Option.some.inj e1).symm
  obtain ⟨t, h1, l1⟩ := (hsu a oe cls d pn xv ⟨hz, hf, hi, he⟩).ex
  refine h1.run pins s _ H' _ I ?_
  have x2 := xo.2
  cases hxf : xv.f with
  | none =>
    rw [hxf] at x2
    refine l1 { C with F0 := F' } _ H' F' _ _ _ ⟨(R.up Le.rfl' fun b o z => .inl z).bound h.o a, ?_, fun _ _ _ _ _ _ _ _ _ _ z => z.elim⟩ (k.ground (K' := (X.suit a oe pn d xv).fr) rfl x R.mono R.new l h.o) q
    show match xv.f with
      | none => d = none
      | some (f, x) => _
    rw [hxf]
    exact x2
  | some p =>
    obtain ⟨f, y⟩ := p
    rw [hxf] at x2
    obtain ⟨dd, v, rfl, hdd, hv⟩ := x2
    obtain ⟨n0, n1, n2⟩ := nw dd rfl
    have Rx : Rel X.fr C σ' H' F' env' := ⟨R, x⟩
    have R2 := Rx.freeze hdd n1 n0 n2
    have ff : Le F' (upd F' dd (.xd [(f, v)])) := fun b u h => by
      rw [upd_ne (ne_of_none h n1)]; exact h
    refine l1 { C with F0 := upd F' dd (.xd [(f, v)]) } _ H' _ _ _ _ ⟨(R2.toRelB.up Le.rfl' fun b o z => .inl z).bound h.o a, ?_, fun _ _ _ _ _ _ _ _ _ _ z => z.elim⟩ (k.ground (K' := (X.suit a oe pn (some dd) xv).fr) rfl x R2.mono R2.new (l.trans' ff) h.o) q
    show match xv.f with
      | none => (some dd : Option Addr) = none
      | some (f, x) => _
    rw [hxf]
    exact ⟨dd, v, rfl, upd_same, hv⟩
theorem HOk.all (T : XT X.K X.mg cl fl) {hds : List ExceptHandler} {l : List Cls'} (h : HOk X cl hds l) : ∃ L, HAll X.toCx hds L ∧ ∀ (C : Ec) (F : Hp) (D : Ends) (Dp : PEnds), XOk X.fr C → EndsOk X.fr C F D Dp →
    ∀ (σ' : L2.St) (H' F' : Hp) (env' : List SV) (cls : Value) (d : Option Addr) (xv : XV), RelB X.fr.b C σ' H' F' env' → Le F F' → (∀ dd, d = some dd → C.H0 dd = none ∧ F' dd = none ∧ ¬ Own σ' env' dd) → XvOk X.mg H' xv cls d → pHs cl X.Ep Dp l xv env' → wAll X.K X.W D L cls d σ' H' := by
  induction h with
  | nil => exact ⟨[], .nil, fun C F D Dp x k σ' H' F' env' cls d xv R l nw xo q => x.2 σ' H' F' env' cls d xv R nw xo q⟩
  | @plain x h b₀ suite np pos' hds l hg hdb hx hc ho hsu r ih =>
    obtain ⟨L, hL, ih⟩ := ih
    refine ⟨⟨.ref (He.ga X.K x), h.o, tSuite X (b₀ :: suite)⟩ :: L, .plain ⟨hg, hdb, .inl (T.gm x hx)⟩ ho (fun a oe cls d pn hz hf => ⟨fun pins s σ H D I q => q oe pn hz hf pins s I⟩) hL, fun C F D Dp x' k σ' H' F' env' cls d xv R l nw xo q => ?_⟩
    obtain ⟨hi, q⟩ := q
    have he : cls = .ref (He.ga X.K xv.c) := by
      have e1 := xo.1
      rw [T.gm xv.c hi] at e1
      exact (Option.some.inj e1).symm
    refine ⟨subX xv.c x, by rw [he]; exact T.exm _ hi _ hx, fun hb a na => ?_, fun hb => ?_⟩
    · rw [hc, if_pos hb] at q
      exact suite_run T hsu x' k R l nw xo hi (q a)
    · rw [hc, if_neg (by rw [hb]; decide)] at q
      exact ih C F D Dp x' k σ' H' F' env' cls d xv R l nw xo q
  | @named x n i h b₀ suite np pos' hds l hg hdb hx hc ho hi' hln hsu r ih =>
    obtain ⟨L, hL, ih⟩ := ih
    refine ⟨⟨.ref (He.ga X.K x), h.o, tSuite X (b₀ :: suite)⟩ :: L, .named ⟨hg, hdb, .inl (T.gm x hx)⟩ ho hi' hln (fun a oe cls d pn hz hf => ⟨fun pins s σ H D I q => q oe pn hz hf pins s I⟩) hL, fun C F D Dp x' k σ' H' F' env' cls d xv R l nw xo q => ?_⟩
    obtain ⟨hi, q⟩ := q
    have he : cls = .ref (He.ga X.K xv.c) := by
      have e1 := xo.1
      rw [T.gm xv.c hi] at e1
      exact (Option.some.inj e1).symm
    refine ⟨subX xv.c x, by rw [he]; exact T.exm _ hi _ hx, fun hb a na => ?_, fun hb => ?_⟩
    · rw [hc, if_pos hb] at q
      exact suite_run T hsu x' k R l nw xo hi (q a)
    · rw [hc, if_neg (by rw [hb]; decide)] at q
      exact ih C F D Dp x' k σ' H' F' env' cls d xv R l nw xo q
end
end Sw

set_option Elab.async false
set_option linter.all false
set_option maxRecDepth 100000
namespace Sw
open PySem PySem.Spec L2
section
variable {P : Program} {w : World} {K : PySem.W.Frag} {mg : Str → Option Value} {base : Heap}
/-- a def that may refuse, where it does not -/
theorem FnOk.no {k : Nat} {f : Addr} {fd : FuncData} {ps : List Str} {sp : PSp} {spx : PSpX} (F : FnOk P w K mg base (L2N.CX P w) k f fd ps (spOfX ⟨K, P, w⟩ mg spx)) (h : ∀ fl ds Q, sp fl ds Q → fl = none ∧ spx ds (fun rv => Q rv none) (fun _ => False)) : FnOk P w K mg base CX0 k f fd ps (spOf ⟨K, P, w⟩ false sp) := by
  have key : ∀ vs H Q E, spOf ⟨K, P, w⟩ false sp vs H Q E → spOfX ⟨K, P, w⟩ mg spx vs H Q (fun _ _ _ => False) := fun vs H Q E q => by
    obtain ⟨F, la, fl, ds, ws, hF, ha, hl, Qp, hp, k⟩ := q
    rw [if_neg (by decide)] at hl
    obtain ⟨rfl, rfl, rfl⟩ := hl
    obtain ⟨_, hx⟩ := h _ _ _ hp
    exact ⟨F, ds, hF, ha, _, _, hx, fun v H' F' rv p q => k v H' F' rv none p q, fun _ _ _ _ _ _ _ z => z⟩
  refine ⟨fun vs H Q E q => F.len _ _ _ _ (key vs H Q E q), fun A outer s H args us vs Q E hr he hb hv q => codeAny_mono (F.run A outer s H args us vs Q _ hr he hb hv (key vs H Q E q)) fun r s' c => ?_⟩
  cases r with
  | ok fl => cases fl <;> exact c
  | error e =>
    obtain ⟨_, _, _, _, _, _, _, _, _, _, _, _, z⟩ := c
    exact z.elim
theorem CalX.no {k : Nat} {x : Str} {ps : List Str} {dds : List D} {sp : PSp} {spx : PSpX} (c : CalX P w K mg base k x ps dds spx) (h : ∀ fl ds Q, sp fl ds Q → fl = none ∧ spx ds (fun rv => Q rv none) (fun _ => False)) : Cal P w K mg base k x false ps dds sp := by
  obtain ⟨f, fd, dvs, ds, h1, h2⟩ := c.ex
  exact ⟨f, fd, dvs, ds, FnOk.no h1 h, h2⟩
/-- a def that may refuse, where it does not -/
theorem FnOk.noA {k : Nat} {f : Addr} {fd : FuncData} {ps : List Str} {sp : PSp} {spx : PSpX} (F : FnOk P w K mg base (L2.CX P w) k f fd ps (spOfX ⟨K, P, w⟩ mg spx)) (h : ∀ fl ds Q, sp fl ds Q → fl = none ∧ spx ds (fun rv => Q rv none) (fun _ => False)) : FnOk P w K mg base CX0 k f fd ps (spOf ⟨K, P, w⟩ false sp) := by
  have key : ∀ vs H Q E, spOf ⟨K, P, w⟩ false sp vs H Q E → spOfX ⟨K, P, w⟩ mg spx vs H Q (fun _ _ _ => False) := fun vs H Q E q => by
    obtain ⟨F, la, fl, ds, ws, hF, ha, hl, Qp, hp, k⟩ := q
    rw [if_neg (by decide)] at hl
    obtain ⟨rfl, rfl, rfl⟩ := hl
    obtain ⟨_, hx⟩ := h _ _ _ hp
    exact ⟨F, ds, hF, ha, _, _, hx, fun v H' F' rv p q => k v H' F' rv none p q, fun _ _ _ _ _ _ _ z => z⟩
  refine ⟨fun vs H Q E q => F.len _ _ _ _ (key vs H Q E q), fun A outer s H args us vs Q E hr he hb hv q => codeAny_mono (F.run A outer s H args us vs Q _ hr he hb hv (key vs H Q E q)) fun r s' c => ?_⟩
  cases r with
  | ok fl => cases fl <;> exact c
  | error e =>
    obtain ⟨_, _, _, _, _, _, _, _, _, _, _, _, z⟩ := c
    exact z.elim
theorem CalXA.no {k : Nat} {x : Str} {ps : List Str} {dds : List D} {sp : PSp} {spx : PSpX} (c : CalXA P w K mg base k x ps dds spx) (h : ∀ fl ds Q, sp fl ds Q → fl = none ∧ spx ds (fun rv => Q rv none) (fun _ => False)) : Cal P w K mg base k x false ps dds sp := by
  obtain ⟨f, fd, dvs, ds, h1, h2⟩ := c.ex
  exact ⟨f, fd, dvs, ds, FnOk.noA h1 h, h2⟩
end
end Sw
namespace Sw
open PySem PySem.Spec L2
end Sw

set_option Elab.async false
set_option linter.all false
set_option maxRecDepth 100000
namespace Sw
open PySem PySem.Spec L2

theorem AtAll.rep {K : FgK} {F : Hp} {ds : List D} {xs : List V} (h : AtAll K F ds xs) : ∀ n : Nat, AtAll K F (List.replicate n ds).flatten (List.replicate n xs).flatten
  | 0 => by simpa using AtAll.nil
  | n + 1 => by
    rw [List.replicate_succ, List.replicate_succ, List.flatten_cons, List.flatten_cons]
    exact AtAll.app h (AtAll.rep h n)
end Sw

set_option Elab.async false
set_option linter.all false
set_option maxRecDepth 100000
namespace L2
open PySem PySem.Spec PyProof.Rows
/-! ### a caught error, kept in a variable behind the suite -/
abbrev Cx.keepX (X : Cx) (pn : List (Addr × Obj)) : Cx := { X with pn := pn, xe := fun _ _ => False }
theorem Cx.Ok.keepX {X : Cx} (ok : X.Ok) (pn : List (Addr × Obj)) : (X.keepX pn).Ok :=
  ⟨ok.mod, ok.kind, ok.glob, ok.blt, ok.above, ok.inj, ok.has, ok.cab, ok.hd, ok.frames, ok.stk, ok.exf, ok.bs, ok.bsz, ok.noex, ok.exfs, ok.funs, ok.frf⟩
section
variable {X : Cx} {pins pins2 : List (Addr × Obj)} {σ : St} {H : Hp} {s : Shared} {a : Addr} {q : Addr × Obj}
theorem Inv.kept_on (I : Inv (X.suite a (q :: (X.pn ++ pins))) pins2 σ H s) (ok : X.Ok) : Inv (X.keepX (q :: (X.pn ++ pins))) [] σ H s :=
  ⟨ok.keepX _, I.os, I.bare, I.base, I.loc, I.cell, I.free, I.freeC, fun p hp => I.pin p (List.mem_append_left _ ((List.mem_append.mp hp).elim id fun z => nomatch z)), I.hok, I.len⟩
theorem Inv.kept_off (I : Inv (X.keepX (q :: (X.pn ++ pins))) pins2 σ H s) (ok : X.Ok) : Inv X pins σ H s :=
  ⟨ok, I.os, I.bare, I.base, I.loc, I.cell, I.free, I.freeC, fun p hp => I.pin p (List.mem_append_left _ (List.mem_cons_of_mem _ hp)), I.hok, I.len⟩
end
section
variable {X : Cx} {x n : Str} {c : Value} {i : Nat} {body suite rest : List Stmt} {b₀ : Stmt} {np pos pos' : Pos} {tb : WX → TS} {ts tr : Addr → Value → Option Addr → TS} {t0 : TS} {Wout : WX}
/-- what is wished of the body's exceptions -/
def wKeep (K : PySem.W.Frag) (c : Value) (i : Nat) (ts tr : Addr → Value → Option Addr → TS) (Wout : WX) (D : Ends) : WX := fun cls d σ H => ∃ b, PySem.W.exmOne K cls c = some b ∧
  (b = true → ∀ a, H a = none → ts a cls d { nx := fun σ' H' => tr a cls d D (σ'.set i none) H', rt := D.rt, bk := fun _ _ => False, ct := fun _ _ => False } (σ.set i (some (.ref a))) H) ∧ (b = false → Wout cls d σ H)
def behindS (X : Cx) (pins : List (Addr × Obj)) (rest : List Stmt) (D : Ends) (f : Flow) (s : Shared) : Prop := match f with
  | .next => wpAny (model X.prog X.w) X.A (execs rest X.env) (SP X pins D) X.xe s
  | f => SP X pins D f s
theorem pss_try_keep (hs : X.stack = X.env :: X.outer) (hf : X.env.frame = some X.env.locals) (hN : X.N.Nodup) (hi : X.N[i]? = some n) (hln : X.env.kindOf n = some .local) (hc : Names X x c) (tk : L2N.Takes X Wout)
    (hb : ∀ (W : WX) (pn : List (Addr × Obj)) (xe : Value → Shared → Prop), L2N.Takes (X.tr pn xe) W → PassesOwn (model X.prog X.w) X.A X.env xe → PSs (X.tr pn xe) body (tb W))
    (hsu : ∀ (a : Addr) (oe : Obj) (cls : Value) (d : Option Addr) (pn : List (Addr × Obj)), Zc cls d oe → (∃ vs, oe.data = .fields vs) → PSs (X.suite a ((a, oe) :: pn)) (b₀ :: suite) (ts a cls d))
    (hre : ∀ (a : Addr) (oe : Obj) (cls : Value) (d : Option Addr) (pn : List (Addr × Obj)), Zc cls d oe → (∃ vs, oe.data = .fields vs) → PSs (X.keepX ((a, oe) :: pn)) rest (tr a cls d))
    (h0 : PSs X rest t0) :
    PSs X (.Try body [.ExceptHandler (some (.Name x np)) (some n) (b₀ :: suite) pos'] [] [] pos :: rest) (fun D σ H => tb (wKeep X.K c i ts tr Wout D) { nx := t0 D, rt := D.rt, bk := D.bk, ct := D.ct } σ H) := by
  refine ⟨fun pins s σ H D I h => ?_⟩
  have ok := I.ok
  have hfr : X.A.frames = some (X.env :: X.outer) := by rw [ok.frames, hs]
  have hloc : Loc X.env.scope n := .inl hln
  have goal : wpAny (model X.prog X.w) X.A (exec (.Try body [.ExceptHandler (some (.Name x np)) (some n) (b₀ :: suite) pos'] [] [] pos) X.env) (behindS X pins rest D) X.xe s := by
    refine wpAny_Try_except ?_
    refine wpAny_mono ((hb (wKeep X.K c i ts tr Wout D) (X.pn ++ pins) (fun e s₁ => wpAny (model X.prog X.w) X.A (noteFrame e X.env) (fun _ s₂ => wpAny (model X.prog X.w) X.A (setFlight e none) (fun _ s₃ =>
      wpAny (model X.prog X.w) X.A (handleBy e X.env [.ExceptHandler (some (.Name x np)) (some n) (b₀ :: suite) pos']) (behindS X pins rest D) X.xe s₃) X.xe s₂) X.xe s₁) (fun u s' xx => ?_) PassesOwn.looking).run [] s σ H { nx := t0 D, rt := D.rt, bk := D.bk, ct := D.ct } (I.toTry _) h) (fun f s1 hsp => ?_) (fun e s1 he => he)
    · obtain ⟨a, B, sI, pins', σ', H', cls, d, rfl, J', nb, up, sky, na, os, ag, b, hb1, hyes, hno⟩ := xx
      have J : Inv X pins σ' H' sI := J'.ofTry ok
      have sky' : Sky B (X.env :: X.outer) a (L2N.Zn cls d) X.env.locals s'.heap := by rw [← hs]; exact sky
      show wpAny (model X.prog X.w) X.A (noteFrame (.ref a) X.env) _ _ _
      refine L2N.Sky.land L2N.Zn.steady hfr hf sky' fun h3 fl3 up3 => ?_
      have J3 : Inv X pins σ' H' { s' with heap := h3 } := J.landed nb fl3.1 (up.trans up3) os ag
      obtain ⟨oe3, vs3, he3, hz3, hd3⟩ := fl3.there
      have notFr : ∀ {h : Heap} {o : Obj} {vs : Array Value}, h.FunFrames B (X.env :: X.outer) → h.get? a = some o → o.data = .fields vs → a ∉ frs (X.env :: X.outer) := fun {h o vs} ff e dd hm => by
        obtain ⟨_, o2, e2, hnf⟩ := ff.mem hm
        rw [e] at e2
        cases e2
        exact hnf _ dd
      have nfr := notFr fl3.2.2.1 he3 hd3
      have nL : a ≠ X.env.locals := fun z => nfr (List.mem_filterMap.mpr ⟨X.env, List.mem_cons_self, by rw [hf, z]⟩)
      have nF : a ∉ X.fs := fun hm => by
        obtain ⟨e, he, q⟩ := List.mem_filterMap.mp hm
        exact nfr (List.mem_filterMap.mpr ⟨e, List.mem_cons_of_mem _ he, q⟩)
      have S3 := J3.suite he3 hd3 na nL nF
      have LT : PySem.W.Looks (model X.prog X.w) h3 (typeOf (.ref a)) cls := fun A Q E s k q => wpAny_typeOf_ref (k _ _ he3) (by rw [hz3.1]; exact q)
      refine wpAny_handleBy_cons (codeAny_handlers_test ?_) (by intro q; cases q)
      have LM := PySem.W.exm_one (M := model X.prog X.w) (J3.kIn) LT hb1
      have test : ∀ {Q : Value → Shared → Prop} {E : Value → Shared → Prop}, Q c { s' with heap := h3 } → wpAny (model X.prog X.w) (X.A.mark (some (.ref a))) (eval (.Name x np) X.env) Q E { s' with heap := h3 } := fun {Q E} q => by
        obtain ⟨hg, hdbg, hm | ⟨hm, hv, hnn⟩⟩ := hc
        · exact ld_glob (X := X.suite a ((a, oe3) :: (X.pn ++ pins))) S3 hg hm q hdbg
        · exact ld_blt (X := X.suite a ((a, oe3) :: (X.pn ++ pins))) S3 hg hm hv q hnn hdbg
      refine test (LM.here ?_)
      cases b with
      | true =>
        refine codeAny_handlers_suite_as ?_
        refine HandSPX.lands_againZ fl3 fun h4 fl4 up4 => ?_
        have J4 : Inv X pins σ' H' { s' with heap := h4 } := J.landed nb fl4.1 ((up.trans up3).trans up4) os ag
        obtain ⟨oe4, vs4, he4, hz4, hd4⟩ := fl4.there
        have S4 := J4.suite he4 hd4 na nL nF
        refine store_ok (X := X.suite a ((a, oe4) :: (X.pn ++ pins))) (v := .ref a) S4 hN hi hloc rfl (fun s5 S5 => ?_) (.inr hln)
        refine wpAny_mono ((hsu a oe4 cls d (X.pn ++ pins) hz4.zc ⟨_, hd4⟩).run [] s5 _ H' _ S5 (hyes rfl a na)) (fun f s6 hsp => ?_) (fun _ _ z => False.elim z)
        have end_ : ∀ {σ6 : St} {H6 : Hp} {Q : Shared → Prop}, Inv (X.suite a ((a, oe4) :: (X.pn ++ pins))) [] σ6 H6 s6 → (∀ s7, Inv (X.keepX ((a, oe4) :: (X.pn ++ pins))) [] (σ6.set i none) H6 s7 → Q s7) →
            wpAny (model X.prog X.w) X.A (do bindName X.env n .none; unbindBehindTheSuite X.env n pos') (fun _ s7 => Q s7) X.xe s6 := fun {σ6 H6 Q} S6 hq => gone_ok (X := X.keepX ((a, oe4) :: (X.pn ++ pins))) (S6.kept_on ok) hN hi hln hq
        cases f with
        | next =>
          obtain ⟨σ6, H6, S6, q6⟩ := hsp
          refine end_ S6 fun s7 J7 => ?_
          refine wpAny_mono ((hre a oe4 cls d (X.pn ++ pins) hz4.zc ⟨_, hd4⟩).run [] s7 _ H6 D J7 q6) (fun f s8 hsp8 => ?_) (fun _ _ z => False.elim z)
          cases f with
          | next =>
            obtain ⟨σ8, H8, S8, q8⟩ := hsp8
            exact ⟨σ8, H8, S8.kept_off ok, q8⟩
          | brk =>
            obtain ⟨σ8, H8, S8, q8⟩ := hsp8
            exact ⟨σ8, H8, S8.kept_off ok, q8⟩
          | cont =>
            obtain ⟨σ8, H8, S8, q8⟩ := hsp8
            exact ⟨σ8, H8, S8.kept_off ok, q8⟩
          | ret u =>
            obtain ⟨v8, σ8, H8, S8, r8, q8⟩ := hsp8
            exact ⟨v8, σ8, H8, S8.kept_off ok, r8, q8⟩
        | brk =>
          obtain ⟨σ6, H6, S6, q6⟩ := hsp
          exact False.elim q6
        | cont =>
          obtain ⟨σ6, H6, S6, q6⟩ := hsp
          exact False.elim q6
        | ret u =>
          obtain ⟨v6, σ6, H6, S6, r6, q6⟩ := hsp
          exact end_ S6 fun s7 J7 => ⟨_, _, _, J7.kept_off ok, r6, q6⟩
      | false =>
        show wpAny _ X.A (handleBy (.ref a) X.env []) _ _ _
        have w := hno rfl
        refine wpAny_handleBy_nil ?_
        obtain ⟨k1, k2, k3, oe, vs, T, oT, ts', he, hz, hd, h1, hr⟩ := id fl3
        unfold PySem.passOn
        refine wpAny_bind (wpAny_field he hd h1 ?_)
        rw [if_neg (show ¬ ((Value.ref T == Value.none) = true) from by simp)]
        have fin : wpAny (model X.prog X.w) X.A (setFlight (.ref a) X.env.frame) (fun _ s4 => wpAny (model X.prog X.w) X.A (throw (.ref a) : Sem Flow) (behindS X pins rest D) X.xe s4) X.xe { s' with heap := h3 } := by
          rw [hf]
          refine HandSPX.setFlight_upZ fl3 fun h4 hh4 up4 => wpAny_throw (tk _ _ ?_)
          exact ⟨a, B, sI, pins, σ', H', cls, d, rfl, J, nb, (up.trans up3).trans up4, .inr (.inr (by rw [hs]; exact hh4)), na, os, ag, w⟩
        first
          | exact wpAny_bind (wpAny_pure (wpAny_bind fin))
          | exact wpAny_bind fin
    · cases f with
      | next =>
        obtain ⟨σ', H', J', q⟩ := hsp
        exact wpAny_execs_nil (h0.run pins s1 σ' H' D (J'.ofTry ok) q)
      | brk =>
        obtain ⟨σ', H', J', q⟩ := hsp
        exact ⟨σ', H', J'.ofTry ok, q⟩
      | cont =>
        obtain ⟨σ', H', J', q⟩ := hsp
        exact ⟨σ', H', J'.ofTry ok, q⟩
      | ret u =>
        obtain ⟨v, σ', H', J', r, q⟩ := hsp
        exact ⟨v, σ', H', J'.ofTry ok, r, q⟩
  refine wpAny_execs_cons (wpAny_mono goal (fun f s1 q => ?_) fun _ _ z => z)
  cases f with
  | next => exact q
  | ret v => exact q
  | brk => exact q
  | cont => exact q
end
end L2
namespace Sw
open PySem PySem.Spec L2
/-- the field of the error in hand -/
def FldX (d : Option Addr) (xv : XV) (C : Ec) : Prop := match xv.f with
  | none => d = none
  | some (f, x) => ∃ dd v, d = some dd ∧ C.F0 dd = some (.xd [(f, v)]) ∧ atomV x = some v
/-- the context behind the suite: the error stands at a -/
abbrev Cz.keep (X : Cz) (a : Addr) (oe : Obj) (pn : List (Addr × Obj)) (d : Option Addr) (xv : XV) : Cz := ⟨X.toCx.keepX ((a, oe) :: pn), wNo, pNo, true, .of takes_none5, FldX d xv⟩
end Sw

set_option Elab.async false
set_option linter.all false
set_option maxRecDepth 100000
namespace L2
open PySem PySem.Spec PyProof.Rows
theorem pe_yf {X : Cx} {a C : Addr} {oe : Obj} {cls : Value} {d : Option Addr} {e : Expr} {te : TE} {pos : Pos} {n : Str} (hp : (a, oe) ∈ X.pn) (T : XfC X.K C) (hno : PySem.W.findIn X.K (.ref C) n = some none)
    (hz : Zc cls d oe) (hf : ∃ vs, oe.data = .fields vs) (he : PE X e te) (hb : attributeBase e n X.env (eval e X.env) = eval e X.env := by rfl) : PE X (.Attribute e n pos) (tXf a cls d C n te) := by
  refine ⟨fun pins s σ H Q I0 h => attr_of hb (thn (he.run pins s σ H _ I0 h) fun u s1 ⟨x, H1, I1, rx, ex, ec, dd, fs, v, ed, ea, l, q⟩ => ?_)⟩
  subst ex
  obtain rfl : u = Value.ref a := rx
  subst ec
  subst ed
  have ha := (I1.pin (a, oe) (List.mem_append_left _ hp)).1
  obtain ⟨vs, hd⟩ := hf
  have hx : ObjOk X.prog X.w H1 s1.heap dd (.xd fs) := I1.hok dd _ ea
  obtain ⟨mA, hns, hr⟩ := hx
  obtain ⟨od, ho, hl⟩ := lookIn_ns hns
  obtain ⟨u, hu, ru⟩ := RelO.some_of (v := v) (o := mA n) (by rw [← l]; exact hr n)
  have Jn : PySem.W.InstAt s1.heap a oe C (some od) := ⟨ha, hz.1, by unfold PySem.W.notCls; rw [hd] <;> rfl, by rw [hz.2]; exact ho⟩
  exact HandSPX.exc_get I1.kIn Jn T.ga T.gg T.exC (PySem.W.findObj_own T.hdC hno rfl (by rw [hl, hu])) (handed_of ru) ⟨v, H1, I1.tok _, ru, q⟩
end L2
namespace Sw
open PySem PySem.Spec L2
theorem InS.keep {X : Cz} {a : Addr} {oe : Obj} {d : Option Addr} {cl : List Str} {cls : Value} {pn : List (Addr × Obj)} {xv : XV} (S : InS X cl cls d oe xv) : InS (X.keep a oe pn d xv) cl cls d oe xv := ⟨S.z, S.f, S.i, S.e⟩
end Sw

set_option Elab.async false
set_option linter.all false
set_option maxRecDepth 100000
set_option maxHeartbeats 4000000
namespace Sw
open PySem PySem.Spec L2
theorem AtAll.two {K : FgK} {F : Hp} {d e : D} {xs : List V} (h : AtAll K F [d, e] xs) : ∃ x y, xs = [x, y] ∧ At K F d x ∧ At K F e y := by
  simp only [AtAll] at h
  obtain ⟨x, r, rfl, a, y, r', rfl, b, q⟩ := h
  subst q
  exact ⟨x, y, rfl, a, b⟩
end Sw

set_option Elab.async false
set_option linter.all false
set_option maxRecDepth 100000
namespace Sw
open PySem PySem.Spec L2
/-- the context in which the cells of M stand still -/
def frm (C : Ec) (M : Hp) : Ec := ⟨fun b => match M b with | some o => some o | none => C.H0 b, C.F0, C.la⟩
theorem frm_s {C : Ec} {M : Hp} {b : Addr} {o : HO} (h : M b = some o) : (frm C M).H0 b = some o := by unfold frm; simp only [h]
/-- the cells are the block's own -/
def MOk (C : Ec) (M : Hp) : Prop := ∀ b o, M b = some o → C.H0 b = none ∧ C.F0 b = none ∧ C.la ≠ some b
section
variable {K : FgX} {C : Ec} {M M' : Hp} {σ : L2.St} {H F H' F' : Hp} {env : List SV}
/-- the cells stand apart from the slots -/
theorem Rel.apart (R : Rel K (frm C M) σ H F env) (m0 : MOk C M) {b : Addr} {o : HO} (h : M b = some o) : H b = some o ∧ F b = none ∧ ¬ Own σ env b := by
  obtain ⟨h1, h2, nl⟩ := m0 b o h
  refine ⟨R.frame b o (frm_s h) nl, ?_, ?_⟩
  · cases q : F b with
    | none => rfl
    | some u =>
      rcases R.new b u q with z | z
      · rw [show C.F0 b = some u from z] at h2
        cases h2
      · rw [frm_s h] at z
        cases z
  · rintro ⟨i, l, c, e, s⟩
    obtain ⟨p, u, e1, _, _, e4, _⟩ := R.slot i _ e
    rw [s] at e1
    cases e1
    cases l with
    | true => exact nl (by rw [if_pos rfl] at e4; exact e4)
    | false =>
      rw [if_neg (by decide), frm_s h] at e4
      cases e4
theorem Rel.leM (R : Rel K (frm C M) σ H F env) (m0 : MOk C M) : Le M H := fun b o h => (R.apart m0 h).1
end
def RepL (K : FgK) (F M : Hp) : List (D × List D) → List (NestedKey × Addr × V) → List Addr → Prop
  | [], zs, as => zs = [] ∧ as = []
  | (k, ds) :: r, zs, as => ∃ nk b zr xs a ar, zs = (nk, b, .ref a) :: zr ∧ as = a :: ar ∧ k = nkD nk ∧ At K F k (.ref b) ∧ M a = some (.lst xs) ∧ AtAll K F ds xs ∧ RepL K F M r zr ar
/-- what is nested, by data: where it stands, what it holds -/
abbrev NG := Addr × List (D × List D)
structure RepD (K : FgK) (F M : Hp) (g : NG) : Prop where
  ex : ∃ o zs as, M g.1 = some o ∧ IsN K g.1 zs o ∧ RepL K F M g.2 zs as ∧ (g.1 :: as).Nodup ∧ ∀ b u, M b = some u → b = g.1 ∨ b ∈ as
def lookG (G : List (D × List D)) (k : D) : Option (List D) := match G with
  | [] => none
  | (k', ds) :: r => if PyData.eqv k' k = true then some ds else lookG r k
def setG (G : List (D × List D)) (k : D) (es : List D) : List (D × List D) := match G with
  | [] => []
  | (k', ds) :: r => if PyData.eqv k' k = true then (k', es) :: r else (k', ds) :: setG r k es
section
variable {K : FgK} {F F' M M' : Hp}
theorem RepL.mono (h : Le F F') : ∀ {G : List (D × List D)} {zs : List (NestedKey × Addr × V)} {as : List Addr}, RepL K F M G zs as → RepL K F' M G zs as
  | [], _, _, q => q
  | (k, ds) :: r, zs, as, q => by
    obtain ⟨nk, b, zr, xs, a, ar, e1, e2, e3, a1, m, a2, q⟩ := q
    exact ⟨nk, b, zr, xs, a, ar, e1, e2, e3, At.mono h _ _ a1, m, AtAll.mono h _ _ a2, RepL.mono h q⟩
theorem RepL.cells : ∀ {G : List (D × List D)} {zs : List (NestedKey × Addr × V)} {as : List Addr}, RepL K F M G zs as → (∀ a ∈ as, M' a = M a) → RepL K F M' G zs as
  | [], _, _, q, _ => q
  | (k, ds) :: r, zs, as, q, h => by
    obtain ⟨nk, b, zr, xs, a, ar, e1, rfl, e3, a1, m, a2, q⟩ := q
    exact ⟨nk, b, zr, xs, a, ar, e1, rfl, e3, a1, (h a List.mem_cons_self).trans m, a2, q.cells fun c hc => h c (List.mem_cons_of_mem _ hc)⟩
theorem RepL.len : ∀ {G : List (D × List D)} {zs : List (NestedKey × Addr × V)} {as : List Addr}, RepL K F M G zs as → zs.length = G.length
  | [], _, _, q => by
    obtain ⟨rfl, _⟩ := q
    rfl
  | (k, ds) :: r, zs, as, q => by
    obtain ⟨nk, b, zr, xs, a, ar, rfl, _, _, _, _, _, q⟩ := q
    simp [q.len]
/-- a look-up, and what another list there makes of it -/
theorem RepL.look (nk : NestedKey) : ∀ {G : List (D × List D)} {zs : List (NestedKey × Addr × V)} {as : List Addr} {us : List (NestedKey × Addr × Value)}, RepL K F M G zs as → PairZ zs us → as.Nodup →
    (lookG G (nkD nk) = none ∧ atKey us nk = none) ∨ ∃ ds a xs q, lookG G (nkD nk) = some ds ∧ atKey us nk = some q ∧ q.2 = .ref a ∧ a ∈ as ∧ M a = some (.lst xs) ∧ AtAll K F ds xs ∧
      ∀ F' ys es, Le F F' → AtAll K F' es ys → RepL K F' (upd M a (.lst ys)) (setG G (nkD nk) es) zs as
  | [], _, _, us, q, p, _ => by
    obtain ⟨rfl, rfl⟩ := q
    cases p
    exact .inl ⟨rfl, rfl⟩
  | (k, ds) :: r, zs, as, us, q, p, nd => by
    obtain ⟨nk', b, zr, xs, a, ar, rfl, rfl, rfl, a1, m, a2, q⟩ := q
    obtain ⟨na, nd⟩ := List.nodup_cons.mp nd
    cases p with
    | @cons z0 u0 _ ur p1 p2 =>
      obtain ⟨e1, e2, e3⟩ := p1
      simp only at e1 e2 e3
      have eu : atKey (u0 :: ur) nk = if u0.1 = nk then some u0.2 else atKey ur nk := by
        unfold atKey
        rw [List.find?_cons]
        by_cases h : u0.1 = nk <;> simp [h]
      have el : lookG ((nkD nk', ds) :: r) (nkD nk) = if nk' = nk then some ds else lookG r (nkD nk) := by
        show (if PyData.eqv (nkD nk') (nkD nk) = true then some ds else lookG r (nkD nk)) = _
        rw [eqv_nk]
        by_cases h : nk' = nk <;> simp [h]
      rw [eu, el]
      by_cases h : nk' = nk
      · rw [if_pos h, if_pos (by rw [← e1]; exact h)]
        refine .inr ⟨ds, a, xs, u0.2, rfl, rfl, e3, List.mem_cons_self, m, a2, fun F' ys es hF ay => ?_⟩
        have ea : setG ((nkD nk', ds) :: r) (nkD nk) es = (nkD nk', es) :: r := by
          show (if PyData.eqv (nkD nk') (nkD nk) = true then _ else _) = _
          rw [eqv_nk, if_pos (by simpa using h)]
        rw [ea]
        exact ⟨nk', b, zr, ys, a, ar, rfl, rfl, rfl, At.mono hF _ _ a1, upd_same, ay, (q.mono hF).cells fun c hc => upd_ne (fun e => na (e ▸ hc))⟩
      · rw [if_neg h, if_neg (by rw [← e1]; exact h)]
        rcases RepL.look nk q p2 nd with ⟨h1, h2⟩ | ⟨ds', a', xs', q', h1, h2, h3, h4, h5, h6, h7⟩
        · exact .inl ⟨h1, h2⟩
        · refine .inr ⟨ds', a', xs', q', h1, h2, h3, List.mem_cons_of_mem _ h4, h5, h6, fun F' ys es hF ay => ?_⟩
          have ea : setG ((nkD nk', ds) :: r) (nkD nk) es = (nkD nk', ds) :: setG r (nkD nk) es := by
            show (if PyData.eqv (nkD nk') (nkD nk) = true then _ else _) = _
            rw [eqv_nk, if_neg (by simpa using h)]
          rw [ea]
          have ne : a ≠ a' := fun e => na (e ▸ h4)
          exact ⟨nk', b, zr, xs, a, ar, rfl, rfl, rfl, At.mono hF _ _ a1, by rw [upd_ne ne]; exact m, AtAll.mono hF _ _ a2, h7 F' ys es hF ay⟩
end
structure MEnds where
  nx : NG → List SV → Prop
  rt : RV → List SV → Prop
  bk : NG → List SV → Prop := fun _ _ => False
  ct : NG → List SV → Prop := fun _ _ => False
structure RelM (K : FgX) (C : Ec) (M : Hp) (σ : L2.St) (H F : Hp) (env : List SV) (g : NG) : Prop where
  rel : Rel K (frm C M) σ H F env
  m0 : MOk C M
  rep : RepD K F M g
structure EndsM (K : FgX) (C : Ec) (F : Hp) (D : Ends) (Dp : MEnds) : Prop where
  nx : ∀ M' σ' H' F' env' g', RelM K C M' σ' H' F' env' g' → Le F F' → Dp.nx g' env' → D.nx σ' H'
  rt : ∀ σ' H' F' env' rv v, Rel K C σ' H' F' env' → Le F F' → RvOk K C H' F' rv v → Dp.rt rv env' → D.rt v H'
  bk : ∀ M' σ' H' F' env' g', RelM K C M' σ' H' F' env' g' → Le F F' → Dp.bk g' env' → D.bk σ' H'
  ct : ∀ M' σ' H' F' env' g', RelM K C M' σ' H' F' env' g' → Le F F' → Dp.ct g' env' → D.ct σ' H'
theorem EndsM.mono {K : FgX} {C : Ec} {F F1 : Hp} {D : Ends} {Dp : MEnds} (e : EndsM K C F D Dp) (h : Le F F1) : EndsM K C F1 D Dp :=
  ⟨fun M' σ' H' F' env' g' R l => e.nx M' σ' H' F' env' g' R (h.trans' l), fun σ' H' F' env' rv v R l => e.rt σ' H' F' env' rv v R (h.trans' l), fun M' σ' H' F' env' g' R l => e.bk M' σ' H' F' env' g' R (h.trans' l), fun M' σ' H' F' env' g' R l => e.ct M' σ' H' F' env' g' R (h.trans' l)⟩
theorem RepD.mono {K : FgK} {F F' M : Hp} {g : NG} (q : RepD K F M g) (h : Le F F') : RepD K F' M g := by
  obtain ⟨o, zs, as, h1, h2, h3, h4⟩ := q.ex
  exact ⟨o, zs, as, h1, h2, h3.mono h, h4⟩
end Sw

set_option Elab.async false
set_option linter.all false
set_option maxRecDepth 100000
set_option maxHeartbeats 4000000
namespace Sw
open PySem PySem.Spec L2 PySem.Calls PyProof.Rows
open PpSet (boolK boolK_is)
def frzE (env : List SV) : List SV := env.map fun
  | .obj _ (.lst ds) => .dat (.list ds)
  | .obj _ (.dic _ _) => .un
  | x => x
section
variable {K : FgX} {C : Ec} {σ : L2.St} {H F : Hp} {env : List SV}
theorem frzE_get {i : Nat} {sv : SV} (h : (frzE env)[i]? = some sv) : ∃ s0, env[i]? = some s0 ∧ sv = (match s0 with
  | .obj _ (.lst ds) => .dat (.list ds)
  | .obj _ (.dic _ _) => .un
  | x => x) := by
  unfold frzE at h
  rw [List.getElem?_map] at h
  obtain ⟨s0, e, h⟩ := Option.map_eq_some_iff.mp h
  exact ⟨s0, e, h.symm⟩
end
noncomputable local instance memDecTr (k : Bool) (l : List Bool) : Decidable (k ∈ l) := Classical.propDecidable _
end Sw

set_option Elab.async false
set_option linter.all false
set_option maxRecDepth 100000
namespace Sw
open PySem PySem.Spec L2
abbrev NGA := Addr × List (List D)
structure RepA (K : FgK) (F M : Hp) (g : NGA) : Prop where
  ex : ∃ as : List Addr, M g.1 = some (.lst (as.map V.ref)) ∧ as.length = g.2.length ∧ (∀ (i : Nat) (ds : List D), g.2[i]? = some ds → ∃ (a : Addr) (xs : List V), as[i]? = some a ∧ M a = some (.lst xs) ∧ AtAll K F ds xs) ∧ (g.1 :: as).Nodup ∧ ∀ b u, M b = some u → b = g.1 ∨ b ∈ as
structure MEndsA where
  nx : NGA → List SV → Prop
  rt : RV → List SV → Prop
  bk : NGA → List SV → Prop := fun _ _ => False
  ct : NGA → List SV → Prop := fun _ _ => False
  /-- what is nested is handed back as it is, still to be changed -/
  rn : NGA → List SV → Prop := fun _ _ => False
structure RelMA (K : FgX) (C : Ec) (M : Hp) (σ : L2.St) (H F : Hp) (env : List SV) (g : NGA) : Prop where
  rel : Rel K (frm C M) σ H F env
  m0 : MOk C M
  rep : RepA K F M g
structure EndsMA (K : FgX) (C : Ec) (F : Hp) (D : Ends) (Dp : MEndsA) : Prop where
  nx : ∀ M' σ' H' F' env' g', RelMA K C M' σ' H' F' env' g' → Le F F' → Dp.nx g' env' → D.nx σ' H'
  rt : ∀ σ' H' F' env' rv v, Rel K C σ' H' F' env' → Le F F' → RvOk K C H' F' rv v → Dp.rt rv env' → D.rt v H'
  bk : ∀ M' σ' H' F' env' g', RelMA K C M' σ' H' F' env' g' → Le F F' → Dp.bk g' env' → D.bk σ' H'
  ct : ∀ M' σ' H' F' env' g', RelMA K C M' σ' H' F' env' g' → Le F F' → Dp.ct g' env' → D.ct σ' H'
  rn : ∀ M' σ' H' F' env' g', RelMA K C M' σ' H' F' env' g' → Le F F' → Dp.rn g' env' → D.rt (.ref g'.1) H'
theorem EndsMA.mono {K : FgX} {C : Ec} {F F1 : Hp} {D : Ends} {Dp : MEndsA} (e : EndsMA K C F D Dp) (h : Le F F1) : EndsMA K C F1 D Dp :=
  ⟨fun M' σ' H' F' env' g' R l => e.nx M' σ' H' F' env' g' R (h.trans' l), fun σ' H' F' env' rv v R l => e.rt σ' H' F' env' rv v R (h.trans' l), fun M' σ' H' F' env' g' R l => e.bk M' σ' H' F' env' g' R (h.trans' l), fun M' σ' H' F' env' g' R l => e.ct M' σ' H' F' env' g' R (h.trans' l), fun M' σ' H' F' env' g' R l => e.rn M' σ' H' F' env' g' R (h.trans' l)⟩
theorem RepA.mono {K : FgK} {F F' M : Hp} {g : NGA} (q : RepA K F M g) (h : Le F F') : RepA K F' M g := by
  obtain ⟨as, h1, h2, h3, h4, h5⟩ := q.ex
  exact ⟨as, h1, h2, fun i ds e => by
    obtain ⟨a, xs, e1, e2, e3⟩ := h3 i ds e
    exact ⟨a, xs, e1, e2, AtAll.mono h _ _ e3⟩, h4, h5⟩
section
variable {X : Cz}
theorem atL_of {K : FgK} {F : Hp} : ∀ {dss : List (List D)} {as : List Addr}, as.length = dss.length → (∀ (i : Nat) (ds : List D), dss[i]? = some ds → ∃ (a : Addr) (xs : List V), as[i]? = some a ∧ F a = some (.lst xs) ∧ AtAll K F ds xs) → AtAll K F (dss.map .list) (as.map V.ref)
  | [], [], _, _ => AtAll.nil
  | [], a :: r, h, _ => by cases h
  | ds :: r, [], h, _ => by cases h
  | ds :: r, a :: ar, h, q => by
    obtain ⟨a', xs, e1, e2, e3⟩ := q 0 ds rfl
    cases e1
    exact AtAll.cons (by simp only [At]; exact ⟨a, xs, rfl, e2, e3⟩) (atL_of (by simpa using h) fun i ds' e => by
      obtain ⟨a', xs', f1, f2⟩ := q (i + 1) ds' e
      exact ⟨a', xs', f1, f2⟩)
end
end Sw

set_option Elab.async false
set_option linter.all false
set_option maxRecDepth 100000
namespace Sw
open PySem PySem.Spec L2
section
variable {X : Cz}
theorem Rel.drop {K : FgX} {C : Ec} {σ : L2.St} {H F : Hp} {env : List SV} (R : Rel K C σ H F env) (j : Nat) : Rel K C σ H F (env.set j .un) := by
  have oth : ∀ {i : Nat} {sv : SV}, (env.set j .un)[i]? = some sv → sv = .un ∨ env[i]? = some sv := fun {i sv} h => by
    by_cases e : i = j
    · subst e
      have hj := (List.getElem?_eq_some_iff.mp h).1
      rw [List.length_set] at hj
      rw [List.getElem?_set_self hj] at h
      exact .inl (Option.some.inj h).symm
    · rw [List.getElem?_set_ne (Ne.symm e)] at h
      exact .inr h
  refine ⟨⟨R.frz, R.mono, R.new, R.frame, R.la, by rw [List.length_set]; exact R.len, fun i sv e => ?_, fun i k l c m d h1 h2 h3 => ?_⟩, R.xok⟩
  · rcases oth e with rfl | e
    · trivial
    · exact R.slot i sv e
  · rcases oth h1 with h | h1
    · cases h
    · rcases oth h2 with h | h2
      · cases h
      · exact R.dist i k l c m d h1 h2 h3
end
abbrev PSpN := List D → (List (List D) → Prop) → Prop
/-- the promise of such a def -/
def spN (K : FgK) (ps : PSpN) : Sp := fun vs H Q _ => ∃ (F : Hp) (ds : List D), Le F H ∧ AtAll K F ds vs ∧ ∃ Qp : List (List D) → Prop, ps ds Qp ∧
  ∀ (p : Addr) (dss : List (List D)) (M H' F' : Hp), (∀ b o, H b = some o → H' b = some o) → Le F' H' → Le F F' → (∀ b o, F' b = some o → F b = some o ∨ H b = none) → (∀ b o, M b = some o → H' b = some o ∧ H b = none ∧ F' b = none) → RepA K F' M (p, dss) → Qp dss → Q (.ref p) H'
end Sw

set_option Elab.async false
set_option linter.all false
set_option maxRecDepth 100000
namespace Sw
open PySem PySem.Spec L2
section
variable {X : Cz} {K : FgX} {C : Ec} {M : Hp} {σ : L2.St} {H F : Hp} {env : List SV} {g : NGA}
theorem rel_view {envv : List SV} (hx : XOk K ⟨H, F, none⟩) (hl : envv.length = σ.length) (hF : Le F H) (hs : ∀ (i : Nat) (sv : SV), envv[i]? = some sv → SlotOk K ⟨H, F, none⟩ H F σ[i]? sv ∧ ∀ l c, sv ≠ .obj l c) : Rel K ⟨H, F, none⟩ σ H F envv :=
  ⟨⟨hF, fun _ _ h => h, fun _ _ h => .inl h, fun _ _ h _ => h, fun _ h => (nomatch h), hl, fun i sv e => (hs i sv e).1, fun i j l c m d h1 _ _ => absurd rfl ((hs i _ h1).2 l c)⟩, hx⟩
/-- how a test sees the slots: own lists and the list of lists are known -/
def viewA (env : List SV) (i : Nat) (dss : List (List D)) : List SV := (frzE env).set i (.dat (.list (dss.map .list)))
theorem RelMA.view (R : RelMA K C M σ H F env g) (hx : ∀ C, C.la = none → XOk K C) {i : Nat} (e0 : env[i]? = some (.raw (.ref g.1))) : Rel K ⟨H, H, none⟩ σ H H (viewA env i g.2) := by
  obtain ⟨as, m, al, rp, nd, only⟩ := R.rep.ex
  have leM := R.rel.leM R.m0
  have ff := R.rel.frz
  have hi : i < (frzE env).length := by
    unfold frzE
    rw [List.length_map]
    exact (List.getElem?_eq_some_iff.mp e0).1
  refine rel_view (hx _ rfl) (by unfold viewA frzE; rw [List.length_set, List.length_map]; exact R.rel.len) Le.rfl' fun j sv e => ?_
  unfold viewA at e
  by_cases c : j = i
  · subst c
    rw [List.getElem?_set_self hi] at e
    cases e
    refine ⟨⟨.ref g.1, R.rel.slot j _ e0, ?_⟩, fun l c h => by cases h⟩
    simp only [At]
    refine ⟨g.1, as.map V.ref, rfl, leM _ _ m, atL_of al fun i ds e => ?_⟩
    obtain ⟨a, xs, e1, e2, e3⟩ := rp i ds e
    exact ⟨a, xs, e1, leM _ _ e2, AtAll.mono ff _ _ e3⟩
  · rw [List.getElem?_set_ne (Ne.symm c)] at e
    obtain ⟨s0, es, rfl⟩ := frzE_get e
    have w := R.rel.slot j s0 es
    cases s0 with
    | un => exact ⟨trivial, fun l c h => by cases h⟩
    | raw z => exact ⟨w, fun l c h => by cases h⟩
    | dat d =>
      obtain ⟨v, e1, a⟩ := w
      exact ⟨⟨v, e1, At.mono ff d v a⟩, fun l c h => by cases h⟩
    | obj l c =>
      cases c with
      | dic t kds => exact ⟨trivial, fun l c h => by cases h⟩
      | lst ds =>
        obtain ⟨p, u, e1, e2, e3, e4, xs, rfl, e5⟩ := w
        exact ⟨⟨.ref p, e1, by simp only [At]; exact ⟨p, xs, rfl, e2, AtAll.mono ff _ _ e5⟩⟩, fun l c h => by cases h⟩
end
/-- such a def, to be called -/
structure CalN (P : Program) (w : World) (K : PySem.W.Frag) (mg : Str → Option Value) (base : Heap) (k : Nat) (x : Str) (ps : List Str) (sp : PSpN) : Prop where
  ex : ∃ (f : Addr) (fd : FuncData), FnOk P w K mg base CX0 k f fd ps (spN ⟨K, P, w⟩ sp) ∧ mg x = some (.ref f) ∧ PySem.W.keepIn K (.ref f) = true ∧ Binds K fd ps []
/-- what it hands back, as data -/
def spD (sp : PSpN) : PSp := fun fl ds Q => fl = none ∧ sp ds fun dss => Q (.fr (dss.map .list)) none
theorem CalN.data {P : Program} {w : World} {K : PySem.W.Frag} {mg : Str → Option Value} {base : Heap} {k : Nat} {x : Str} {ps : List Str} {sp : PSpN} (c : CalN P w K mg base k x ps sp) : Cal P w K mg base k x false ps [] (spD sp) := by
  obtain ⟨f, fd, h1, h2, h3, h4⟩ := c.ex
  refine ⟨f, fd, [], [], h1.imp fun vs H Q E q => ?_, h2, h3, h4, .nil, fun _ _ => AtAll.nil⟩
  obtain ⟨F, la, fl, ds, ws, hF, ha, hl, Qp, hp, k⟩ := q
  rw [if_neg (by decide)] at hl
  obtain ⟨rfl, rfl, rfl⟩ := hl
  obtain ⟨_, hp⟩ := hp
  refine ⟨F, ds, hF, ha, _, hp, fun p dss M H' F' keep frz mono new mm rep qq => ?_⟩
  obtain ⟨as, m, al, rp, nd, only⟩ := rep.ex
  obtain ⟨np, _⟩ := List.nodup_cons.mp nd
  have ff : Le F' (fun b => if b = p then F' b else match M b with | some u => some u | none => F' b) := fun b o e => by
    by_cases c : b = p
    · simp only [c, if_true]
      rw [← c]
      exact e
    · simp only [c, if_false]
      cases q : M b with
      | none => exact e
      | some u =>
        rw [(mm b u q).2.2] at e
        cases e
  refine k (.ref p) H' (fun b => if b = p then F' b else match M b with | some u => some u | none => F' b) (.fr (dss.map .list)) none ⟨fun b o e => ?_, mono.trans' ff, fun b o e => ?_, fun b o e _ => keep b o e, fun a e => (nomatch e), ?_⟩ qq
  · by_cases c : b = p
    · simp only [c, if_true] at e
      rw [c]
      exact frz _ _ e
    · simp only [c, if_false] at e
      cases q : M b with
      | none => rw [q] at e; exact frz b o e
      | some u =>
        rw [q] at e
        cases e
        exact (mm b o q).1
  · by_cases c : b = p
    · simp only [c, if_true] at e
      rw [c]
      exact new _ _ e
    · simp only [c, if_false] at e
      cases q : M b with
      | none => rw [q] at e; exact new b o e
      | some u => exact .inr (mm b u q).2.1
  · refine ⟨p, as.map V.ref, rfl, (mm _ _ m).1, ?_, (mm _ _ m).2.1, atL_of al fun i ds e => ?_⟩
    · simp only [if_true]
      exact (mm _ _ m).2.2
    · obtain ⟨a, xs, e1, e2, e3⟩ := rp i ds e
      have am := List.mem_of_getElem? e1
      refine ⟨a, xs, e1, ?_, AtAll.mono ff _ _ e3⟩
      have ne : ¬ a = p := fun z => np (by rw [z] at am; exact am)
      simp only [ne, if_false, e2]
end Sw

set_option Elab.async false
set_option linter.all false
set_option maxRecDepth 100000
set_option maxHeartbeats 4000000
namespace Sw
open PySem PySem.Spec L2 PySem.Calls PyProof.Rows
def MaskB (m : Nat) : Prop := MaskOk m ∨ m = 511
/-- the slots from x on, n of them -/
def cyc (m : Nat) : Nat → Nat → List Nat
  | 0, _ => []
  | n + 1, x => x :: cyc m n ((x * 5 + 1) % (m + 1))
theorem lcg_head (m i : Nat) : ∀ k, lcgI m ((i * 5 + 1) % (m + 1)) k = lcgI m i (k + 1)
  | 0 => rfl
  | k + 1 => congrArg (fun z => (z * 5 + 1) % (m + 1)) (lcg_head m i k)
theorem lcg_more (m i a : Nat) : ∀ k, lcgI m (lcgI m i a) k = lcgI m i (a + k)
  | 0 => rfl
  | k + 1 => congrArg (fun z => (z * 5 + 1) % (m + 1)) (lcg_more m i a k)
theorem cyc_in (m : Nat) : ∀ n x j, j ∈ cyc m n x → ∃ k, k < n ∧ lcgI m x k = j
  | 0, _, _, h => nomatch h
  | n + 1, x, j, h => by
    rcases List.mem_cons.mp h with rfl | h
    · exact ⟨0, Nat.succ_pos _, rfl⟩
    · obtain ⟨k, h1, h2⟩ := cyc_in m n _ j h
      exact ⟨k + 1, Nat.succ_lt_succ h1, (lcg_head m x k).symm.trans h2⟩
theorem cyc_511 : ((List.range 512).all fun j => (cyc 511 512 0).contains j) = true := by decide +kernel
theorem cyc_back : lcgI 511 0 512 = 0 := by decide +kernel
theorem from_0 {j : Nat} (hj : j ≤ 511) : ∃ k, k < 512 ∧ lcgI 511 0 k = j :=
  cyc_in 511 512 0 j (List.contains_iff_mem.mp (List.all_eq_true.mp cyc_511 j (List.mem_range.mpr (by omega))))
/-- from any slot to any slot -/
theorem from_any {i j : Nat} (hi : i ≤ 511) (hj : j ≤ 511) : ∃ k, k ≤ 511 ∧ lcgI 511 i k = j := by
  obtain ⟨a, ha, rfl⟩ := from_0 hi
  obtain ⟨b, hb, rfl⟩ := from_0 hj
  by_cases h : a ≤ b
  · exact ⟨b - a, by omega, by rw [lcg_more]; congr 1; omega⟩
  · refine ⟨512 + b - a, by omega, ?_⟩
    rw [lcg_more, show a + (512 + b - a) = 512 + b by omega, ← lcg_more, cyc_back]
theorem begins {m : Nat} (hm : MaskB m) (h : Int) {j : Nat} (hj : j ≤ m) : ∃ n, n ≤ m + 12 ∧ runI m (SetTable.bits h) n = j := by
  rcases hm with hm | rfl
  · exact run_meets hm h hj
  · obtain ⟨k, hk, e⟩ := from_any (runI_le 511 (SetTable.bits h) 12) hj
    exact ⟨12 + k, by omega, (runI_tail (bits_lt h) k).trans e⟩
theorem comes {m : Nat} (hm : MaskB m) (h : Int) {j : Nat} (hj : j ≤ m) : ∃ k, k < 10 * SetTable.turns m ∧ way m h k = j := by
  obtain ⟨n, hn, e⟩ := begins hm h hj
  obtain ⟨k, hk, e2⟩ := run_nth m (SetTable.bits h) n
  refine ⟨k, ?_, (congrArg SetTable.Probe.j e2).trans e⟩
  show k < 10 * (m + 15)
  omega
theorem way_in (m : Nat) (h : Int) (k : Nat) : way m h k ≤ m := by
  have hi : SetTable.bits h % (m + 1) ≤ m := by
    have := Nat.mod_lt (SetTable.bits h) (show m + 1 > 0 by omega)
    omega
  have b := runEnd_bd hi
  have q := nth_in (m := m) k (runAt m (SetTable.bits h % (m + 1)) (SetTable.bits h)) (show SetTable.bits h % (m + 1) + (SetTable.runEnd m (SetTable.bits h % (m + 1)) - SetTable.bits h % (m + 1)) ≤ m by
    have := b.1
    have := b.2.1
    omega)
  exact Nat.le_trans (Nat.le_add_right _ _) q
/-- a table in which each entry is found by its hash -/
structure TabB (t : SetTable) (hs : List Int) : Prop where
  ris : Ris t.place.toList
  dm : t.dummies = #[]
  sz : t.place.size = hs.length
  mok : MaskB t.mask
  bd : ∀ x ∈ t.place.toList, x ≤ t.mask
  met : ∀ q ∈ hs.zip t.place.toList, ∃ k, way t.mask q.1 k = q.2 ∧ ∀ c, c < k → way t.mask q.1 c ∈ t.place.toList
theorem TabB.first {t : SetTable} {hs : List Int} (T : TabB t hs) (hl : hs.length ≤ t.mask) (h : Int) : ∃ K, K < 10 * SetTable.turns t.mask ∧ way t.mask h K ∉ t.place.toList ∧ ∀ k, k < K → way t.mask h k ∈ t.place.toList := by
  obtain ⟨j, hj, hn⟩ := st_missing t.place.toList (t.mask + 1) (by rw [Array.length_toList, T.sz]; omega)
  obtain ⟨k, hk, e⟩ := comes T.mok h (Nat.le_of_lt_succ hj)
  obtain ⟨K, a, b, c⟩ := st_least (p := fun k => way t.mask h k ∉ t.place.toList) k (fun z => hn (e ▸ z))
  exact ⟨K, by omega, b, fun c' hc' => Classical.byContradiction (c c' hc')⟩
theorem zip_put {α β : Type} {as : List α} {bs : List β} {n : Nat} {a : α} {b : β} (he : as.length = bs.length) {q : α × β} (h : q ∈ (as.take n ++ a :: as.drop n).zip (bs.take n ++ b :: bs.drop n)) : q = (a, b) ∨ q ∈ as.zip bs := by
  rw [List.zip_append (by rw [List.length_take, List.length_take, he]), List.zip_cons_cons] at h
  rcases List.mem_append.mp h with h | h
  · refine .inr (List.mem_of_mem_take (i := n) ?_)
    rw [List.zip_eq_zipWith, List.take_zipWith]
    exact h
  · rcases List.mem_cons.mp h with h | h
    · exact .inl h
    · refine .inr (List.mem_of_mem_drop (i := n) ?_)
      rw [List.zip_eq_zipWith, List.drop_zipWith]
      exact h
theorem TabB.put {t : SetTable} {hs : List Int} (T : TabB t hs) {h : Int} {K : Nat} (hK : way t.mask h K ∉ t.place.toList) (hb : ∀ k, k < K → way t.mask h k ∈ t.place.toList) :
    (t.put (way t.mask h K)).2 = SetTable.below t.place (way t.mask h K) ∧ SetTable.below t.place (way t.mask h K) ≤ hs.length ∧
    TabB (t.put (way t.mask h K)).1 (hs.take (SetTable.below t.place (way t.mask h K)) ++ h :: hs.drop (SetTable.below t.place (way t.mask h K))) ∧
    (t.put (way t.mask h K)).1.mask = t.mask ∧ (t.put (way t.mask h K)).1.led = t.led ∧ (t.put (way t.mask h K)).1.fill = hs.length + 1 := by
  have hj := way_in t.mask h K
  have self : ∃ k, way t.mask h k = way t.mask h K ∧ ∀ c, c < k → way t.mask h c ∈ t.place.toList := ⟨K, rfl, hb⟩
  generalize way t.mask h K = j at *
  have hp := put_place t j
  have np : t.place[SetTable.below t.place j]? ≠ some j := fun e => hK (List.mem_of_getElem? ((Array.getElem?_toList ..).trans e))
  have hle : SetTable.below t.place j ≤ t.place.size := (below_cut T.ris j).1
  have hl2 : t.place.toList.length = hs.length := by rw [Array.length_toList]; exact T.sz
  have hsz : (t.put j).1.place.size = hs.length + 1 := by
    rw [← Array.length_toList, hp, len_ins _ (by rw [Array.length_toList]; exact hle), hl2]
  have hph : SetTable.below t.place j ≤ hs.length := by have := T.sz; omega
  have mono : ∀ x, x ∈ t.place.toList → x ∈ (t.put j).1.place.toList := fun x hx => by
    rw [hp]
    exact mem_ins.mpr (.inr hx)
  refine ⟨rfl, hph, ⟨ris_insert T.ris np, put_dm T.dm j, by rw [len_ins _ hph]; exact hsz, T.mok, fun x hx => ?_, fun q hq => ?_⟩, rfl, rfl, ?_⟩
  · rw [hp] at hx
    rcases mem_ins.mp hx with rfl | hx
    · exact hj
    · exact T.bd x hx
  · rw [hp] at hq
    show ∃ k, way t.mask q.1 k = q.2 ∧ ∀ c, c < k → way t.mask q.1 c ∈ (t.put j).1.place.toList
    rcases zip_put hl2.symm hq with rfl | hq
    · obtain ⟨k, a, b⟩ := self
      exact ⟨k, a, fun c hc => mono _ (b c hc)⟩
    · obtain ⟨k, a, b⟩ := T.met q hq
      exact ⟨k, a, fun c hc => mono _ (b c hc)⟩
  · show (t.put j).1.place.size + (t.put j).1.dummies.size = hs.length + 1
    rw [hsz, put_dm T.dm j]
    rfl
end Sw

set_option Elab.async false
set_option linter.all false
set_option maxRecDepth 100000
set_option maxHeartbeats 4000000
namespace Sw
open PySem PySem.Spec L2 PySem.Calls PyProof.Rows
section
variable {P : Program} {w : World} {A : Around} {E : Value → Shared → Prop} {s : Shared}
/-- the set at a holds just the tuples L -/
structure Many (w : World) (h : Heap) (a : Addr) (L : List (Addr × NestedKey)) (es : Array (Int × Value)) (ep : Nat) (t : SetTable) : Prop where
  ob : ∃ o, h.get? a = some o ∧ o.ExactSet ∧ o.data = .set es ep t
  rows : es.toList = L.map fun p => (p.2.hash w, Value.ref p.1)
  tab : TabB t (L.map fun p => p.2.hash w)
  nd : (L.map (·.2)).Nodup
  key : ∀ p ∈ L, KAt h p.2 p.1
  room : L.length * 5 < t.mask * 3
  few : L.length ≤ 80
  led : w.params.followText "set-order" = true ∨ t.led = true
variable {a : Addr} {L : List (Addr × NestedKey)} {es : Array (Int × Value)} {ep : Nat} {t : SetTable}
theorem Many.size (R : Many w s.heap a L es ep t) : es.size = L.length := by
  rw [← Array.length_toList, R.rows, List.length_map]
theorem Many.fits (R : Many w s.heap a L es ep t) : t.fits es.size = true := by
  have h1 := R.tab.sz
  have h2 := R.size
  have h3 := R.room
  rw [List.length_map] at h1
  simp only [SetTable.fits, SetTable.fill, R.tab.dm, Bool.and_eq_true, beq_iff_eq, decide_eq_true_eq]
  show t.place.size = es.size ∧ t.place.size + 0 ≤ t.mask
  omega
theorem Many.get (R : Many w s.heap a L es ep t) {i : Nat} {p : Addr × NestedKey} (h : L[i]? = some p) : es[i]? = some (p.2.hash w, Value.ref p.1) := by
  rw [← Array.getElem?_toList, R.rows, List.getElem?_map, h]
  rfl
end
end Sw

set_option Elab.async false
set_option linter.all false
set_option maxRecDepth 100000
set_option maxHeartbeats 4000000
namespace Sw
open PySem PySem.Spec L2 PySem.Calls PyProof.Rows
section
variable {P : Program} {w : World} {A : Around} {E : Value → Shared → Prop} {s : Shared}
theorem Many.keep {h h' : Heap} {a : Addr} {L : List (Addr × NestedKey)} {es : Array (Int × Value)} {ep : Nat} {t : SetTable} (R : Many w h a L es ep t) (ha : ∀ o, h.get? a = some o → h'.get? a = some o) (hk : ∀ p ∈ L, KAt h' p.2 p.1) : Many w h' a L es ep t := by
  obtain ⟨o, ho, r⟩ := R.ob
  exact ⟨⟨o, ha o ho, r⟩, R.rows, R.tab, R.nd, hk, R.room, R.few, R.led⟩
theorem Many.new {h : Heap} {a : Addr} (ho : h.get? a = some (newSet w)) : Many w h a [] #[] 0 (.fresh 0 0 (!w.params.followText "set-order")) :=
  ⟨⟨_, ho, ⟨rfl, rfl, rfl⟩, rfl⟩, rfl, ⟨List.Pairwise.nil, rfl, rfl, .inl (.inl rfl), fun x hx => (by cases hx), fun q hq => (by simp at hq)⟩, List.nodup_nil, fun p hp => (by cases hp), (show 0 * 5 < 7 * 3 by decide), Nat.zero_le _, (by
    cases w.params.followText "set-order" with
    | true => exact .inl rfl
    | false => exact .inr rfl)⟩
end
end Sw

set_option Elab.async false
set_option linter.all false
set_option maxRecDepth 100000
set_option maxHeartbeats 4000000
namespace Sw
open PySem PySem.Spec L2 PySem.Calls PyProof.Rows
def keyS (e : Int × Value) : Str := match e.2 with | .str k _ => k | _ => ⟨#[]⟩
def GoodT (w : World) (e : Int × Value) : Prop := ∃ k u, e = (hashStr w k, Value.str k u)
structure TxS (w : World) (S : Str → Bool) (es : Array (Int × Value)) (t : SetTable) : Prop where
  good : ∀ e ∈ es.toList, GoodT w e
  nd : (es.toList.map keyS).Nodup
  mem : ∀ k, S k = true ↔ k ∈ es.toList.map keyS
  few : es.size < scanBound
  fits : t.fits es.size = true
  ris : Ris t.place.toList
  led : w.params.followText "set-order" = true ∨ t.led = true
def SetT (w : World) (h : Heap) (a : Addr) (S : Str → Bool) (n : Nat) : Prop := ∃ o es ep t, h.get? a = some o ∧ o.ExactSet ∧ o.data = .set es ep t ∧ TxS w S es t ∧ es.size = n
theorem SetT.keep {w : World} {h h2 : Heap} {a : Addr} {S : Str → Bool} {n : Nat} (R : SetT w h a S n) (k : ∀ o, h.get? a = some o → h2.get? a = some o) : SetT w h2 a S n := by
  obtain ⟨o, es, ep, t, ho, q⟩ := R
  exact ⟨o, es, ep, t, k o ho, q⟩
theorem SetT.same {w : World} {h : Heap} {a : Addr} {S S2 : Str → Bool} {n : Nat} (R : SetT w h a S n) (e : ∀ k, S2 k = S k) : SetT w h a S2 n := by
  have : S2 = S := funext e
  rw [this]
  exact R
section
variable {P : Program} {w : World} {A : Around} {E : Value → Shared → Prop} {s : Shared} {a : Addr} {S : Str → Bool} {n : Nat} {es : Array (Int × Value)} {t : SetTable}
theorem str_is (k : Str) (u : Tok) : (strKind P w).is k (Value.str k u) = true := by
  show Value.isStrOf k (.str k u) = true
  simp [Value.isStrOf]
theorem GoodT.is {e : Int × Value} (g : GoodT w e) (k : Str) : (strKind P w).is k e.2 = true ↔ keyS e = k := by
  obtain ⟨k0, u, rfl⟩ := g
  show Value.isStrOf k (.str k0 u) = true ↔ k0 = k
  exact beq_iff_eq
theorem TxS.el (C : TxS w S es t) : ElemsOf (strKind P w) es.toList := fun e he => by
  obtain ⟨k, u, rfl⟩ := C.good e he
  exact ⟨⟨k, str_is k u, rfl⟩, rfl⟩
theorem TxS.has (C : TxS w S es t) (k : Str) : S k = true ↔ ∃ e ∈ es.toList, (strKind P w).is k e.2 = true := by
  rw [C.mem k, List.mem_map]
  exact ⟨fun ⟨e, he, q⟩ => ⟨e, he, ((C.good e he).is k).mpr q⟩, fun ⟨e, he, q⟩ => ⟨e, he, ((C.good e he).is k).mp q⟩⟩
end
end Sw

set_option Elab.async false
set_option linter.all false
set_option maxRecDepth 100000
set_option maxHeartbeats 4000000
namespace Sw
open PySem PySem.Spec L2 PySem.Calls PyProof.Rows
section
variable {P : Program} {w : World} {A : Around} {E : Value → Shared → Prop} {s : Shared} {a : Addr} {S : Str → Bool} {n : Nat} {es : Array (Int × Value)} {t : SetTable}
/-- the members, in some order -/
structure TxL (w : World) (S : Str → Bool) (l : List (Int × Value)) : Prop where
  good : ∀ e ∈ l, GoodT w e
  nd : (l.map keyS).Nodup
  mem : ∀ k, S k = true ↔ k ∈ l.map keyS
theorem TxS.perm (C : TxS w S es t) {l : List (Int × Value)} (p : l.Perm es.toList) : TxL w S l :=
  ⟨fun e he => C.good e (p.mem_iff.mp he), (p.map keyS).nodup_iff.mpr C.nd, fun k => (C.mem k).trans (p.map keyS).mem_iff.symm⟩
end
end Sw

set_option Elab.async false
set_option linter.all false
set_option maxRecDepth 100000
set_option maxHeartbeats 0
namespace SwLaw
open PySem PySem.Spec PyProof.Rows L2 Sw
def topS (i : Nat) : Stmt := PySem.Challenge.pw_strandwright_k50_whole_first_changes.main.body.getD i (.Pass ⟨0, 0, 0, 0⟩)
abbrev s_name_of : Stmt := topS 1
abbrev s_mirrored : Stmt := topS 2
abbrev s_beads_in : Stmt := topS 3
abbrev s_names_in : Stmt := topS 4
abbrev s_look_alike : Stmt := topS 11
abbrev s_numbers_of : Stmt := topS 12
abbrev s_right_end_2 : Stmt := topS 13
abbrev s_left_end_2 : Stmt := topS 14
abbrev s_tied_points : Stmt := topS 15
abbrev s_ring_of : Stmt := topS 16
abbrev s_point_rings : Stmt := topS 17
abbrev s_change : Stmt := topS 19
abbrev s_changes_from : Stmt := topS 20
abbrev s_changed : Stmt := topS 21
abbrev s_numbers_for_changes : Stmt := topS 22
abbrev s_half_sum : Stmt := topS 23
abbrev s_fewest_changes : Stmt := topS 24
abbrev s_firsts_changes : Stmt := topS 25
abbrev s_law_half : Stmt := topS 27
abbrev s_law_changes : Stmt := topS 28
abbrev s_law_mirrored : Stmt := topS 29
abbrev s_law_turned_2 : Stmt := topS 30
abbrev s_law_changed : Stmt := topS 31
abbrev s_law_line_behind : Stmt := topS 32
abbrev s_law_pick : Stmt := topS 34
abbrev s_law_shuffled : Stmt := topS 35
abbrev s_law_line : Stmt := topS 36
abbrev s_law_letters : Stmt := topS 37
abbrev s_law_name : Stmt := topS 38
abbrev s_law_names : Stmt := topS 39
abbrev s_law_good_deedC : Stmt := topS 40
abbrev s_law_alike : Stmt := topS 41
abbrev s_law_first_changes : Stmt := topS 42
abbrev s_law_flow : Stmt := topS 33
abbrev s_law_50 : Stmt := topS 43
def d_name_of : He.DefD := ⟨("name_of", none), "name_of", "name_of", defArgs s_name_of, defBody s_name_of, defScope s_name_of, [], []⟩
def d_mirrored : He.DefD := ⟨("mirrored", none), "mirrored", "mirrored", defArgs s_mirrored, defBody s_mirrored, defScope s_mirrored, [], []⟩
def d_beads_in : He.DefD := ⟨("beads_in", none), "beads_in", "beads_in", defArgs s_beads_in, defBody s_beads_in, defScope s_beads_in, [], []⟩
def d_names_in : He.DefD := ⟨("names_in", none), "names_in", "names_in", defArgs s_names_in, defBody s_names_in, defScope s_names_in, [], []⟩
def d_look_alike : He.DefD := ⟨("look_alike", none), "look_alike", "look_alike", defArgs s_look_alike, defBody s_look_alike, defScope s_look_alike, [], []⟩
def d_numbers_of : He.DefD := ⟨("numbers_of", none), "numbers_of", "numbers_of", defArgs s_numbers_of, defBody s_numbers_of, defScope s_numbers_of, [], []⟩
def d_right_end_2 : He.DefD := ⟨("right_end", none), "right_end", "right_end", defArgs s_right_end_2, defBody s_right_end_2, defScope s_right_end_2, [], []⟩
def d_left_end_2 : He.DefD := ⟨("left_end", none), "left_end", "left_end", defArgs s_left_end_2, defBody s_left_end_2, defScope s_left_end_2, [], []⟩
def d_tied_points : He.DefD := ⟨("tied_points", none), "tied_points", "tied_points", defArgs s_tied_points, defBody s_tied_points, defScope s_tied_points, [], []⟩
def d_ring_of : He.DefD := ⟨("ring_of", none), "ring_of", "ring_of", defArgs s_ring_of, defBody s_ring_of, defScope s_ring_of, [], []⟩
def d_point_rings : He.DefD := ⟨("point_rings", none), "point_rings", "point_rings", defArgs s_point_rings, defBody s_point_rings, defScope s_point_rings, [], []⟩
def d_change : He.DefD := ⟨("change", none), "change", "change", defArgs s_change, defBody s_change, defScope s_change, [], []⟩
def d_changes_from : He.DefD := ⟨("changes_from", none), "changes_from", "changes_from", defArgs s_changes_from, defBody s_changes_from, defScope s_changes_from, [], []⟩
def d_changed : He.DefD := ⟨("changed", none), "changed", "changed", defArgs s_changed, defBody s_changed, defScope s_changed, [], []⟩
def d_numbers_for_changes : He.DefD := ⟨("numbers_for_changes", none), "numbers_for_changes", "numbers_for_changes", defArgs s_numbers_for_changes, defBody s_numbers_for_changes, defScope s_numbers_for_changes, [], []⟩
def d_half_sum : He.DefD := ⟨("half_sum", none), "half_sum", "half_sum", defArgs s_half_sum, defBody s_half_sum, defScope s_half_sum, [], []⟩
def d_fewest_changes : He.DefD := ⟨("fewest_changes", none), "fewest_changes", "fewest_changes", defArgs s_fewest_changes, defBody s_fewest_changes, defScope s_fewest_changes, [], []⟩
def d_firsts_changes : He.DefD := ⟨("firsts_changes", none), "firsts_changes", "firsts_changes", defArgs s_firsts_changes, defBody s_firsts_changes, defScope s_firsts_changes, [], []⟩
def d_law_half : He.DefD := ⟨("_law_half", none), "_law_half", "_law_half", defArgs s_law_half, defBody s_law_half, defScope s_law_half, [], []⟩
def d_law_changes : He.DefD := ⟨("_law_changes", none), "_law_changes", "_law_changes", defArgs s_law_changes, defBody s_law_changes, defScope s_law_changes, [], []⟩
def d_law_mirrored : He.DefD := ⟨("_law_mirrored", none), "_law_mirrored", "_law_mirrored", defArgs s_law_mirrored, defBody s_law_mirrored, defScope s_law_mirrored, [], []⟩
def d_law_turned_2 : He.DefD := ⟨("_law_turned", none), "_law_turned", "_law_turned", defArgs s_law_turned_2, defBody s_law_turned_2, defScope s_law_turned_2, [], []⟩
def d_law_changed : He.DefD := ⟨("_law_changed", none), "_law_changed", "_law_changed", defArgs s_law_changed, defBody s_law_changed, defScope s_law_changed, [], []⟩
def d_law_line_behind : He.DefD := ⟨("_law_line_behind", none), "_law_line_behind", "_law_line_behind", defArgs s_law_line_behind, defBody s_law_line_behind, defScope s_law_line_behind, [], []⟩
def d_law_pick : He.DefD := ⟨("_law_pick", none), "_law_pick", "_law_pick", defArgs s_law_pick, defBody s_law_pick, defScope s_law_pick, [], []⟩
def d_law_shuffled : He.DefD := ⟨("_law_shuffled", none), "_law_shuffled", "_law_shuffled", defArgs s_law_shuffled, defBody s_law_shuffled, defScope s_law_shuffled, [], []⟩
def d_law_line : He.DefD := ⟨("_law_line", none), "_law_line", "_law_line", defArgs s_law_line, defBody s_law_line, defScope s_law_line, [], []⟩
def d_law_letters : He.DefD := ⟨("_law_letters", none), "_law_letters", "_law_letters", defArgs s_law_letters, defBody s_law_letters, defScope s_law_letters, [], []⟩
def d_law_name : He.DefD := ⟨("_law_name", none), "_law_name", "_law_name", defArgs s_law_name, defBody s_law_name, defScope s_law_name, [], []⟩
def d_law_names : He.DefD := ⟨("_law_names", none), "_law_names", "_law_names", defArgs s_law_names, defBody s_law_names, defScope s_law_names, [], []⟩
def d_law_good_deedC : He.DefD := ⟨("_law_good_deed", none), "_law_good_deed", "_law_good_deed", defArgs s_law_good_deedC, defBody s_law_good_deedC, defScope s_law_good_deedC, [], []⟩
def d_law_alike : He.DefD := ⟨("_law_alike", none), "_law_alike", "_law_alike", defArgs s_law_alike, defBody s_law_alike, defScope s_law_alike, [], []⟩
def d_law_first_changes : He.DefD := ⟨("_law_first_changes", none), "_law_first_changes", "_law_first_changes", defArgs s_law_first_changes, defBody s_law_first_changes, defScope s_law_first_changes, [], []⟩
def d_law_flow : He.DefD := ⟨("_law_flow", none), "_law_flow", "_law_flow", defArgs s_law_flow, defBody s_law_flow, defScope s_law_flow, [], []⟩
def d_law_50 : He.DefD := ⟨("law", none), "law", "law", defArgs s_law_50, defBody s_law_50, defScope s_law_50, [], []⟩
def fnL : List He.DefD := [d_name_of, d_mirrored, d_beads_in, d_names_in, d_look_alike, d_numbers_of, d_right_end_2, d_left_end_2, d_tied_points, d_ring_of, d_point_rings, d_change, d_changes_from, d_changed, d_numbers_for_changes, d_half_sum, d_fewest_changes, d_firsts_changes, d_law_half, d_law_changes, d_law_mirrored, d_law_turned_2, d_law_changed, d_law_line_behind, d_law_pick, d_law_shuffled, d_law_line, d_law_letters, d_law_name, d_law_names, d_law_good_deedC, d_law_alike, d_law_first_changes, d_law_flow, d_law_50]
def faL : List He.Fa := [.free "len", .free "isinstance", .free "str", .free "int", .free "bool", .free "list", .free "tuple", .free "dict", .free "range", .free "all", .free "any", .free "sorted", .free "set", .free "min", .free "max", .free "ord", .free "enumerate", .free "sum", .free "abs", .free "reversed", .free "zip", .glo "name_of", .glo "mirrored", .glo "beads_in", .glo "names_in", .glo "look_alike", .glo "numbers_of", .glo "right_end", .glo "left_end", .glo "tied_points", .glo "ring_of", .glo "point_rings", .glo "change", .glo "changes_from", .glo "changed", .glo "numbers_for_changes", .glo "half_sum", .glo "fewest_changes", .glo "firsts_changes", .glo "_law_half", .glo "_law_changes", .glo "_law_mirrored", .glo "_law_turned", .glo "_law_changed", .glo "_law_line_behind", .glo "_law_pick", .glo "_law_shuffled", .glo "_law_line", .glo "_law_letters", .glo "_law_name", .glo "_law_names", .glo "_law_good_deed", .glo "_law_alike", .glo "_law_first_changes", .glo "_law_flow", .glo "law"]
def tsL : List (Str × List (Str × D)) := []
def dcE (K : PySem.W.Frag) : Bool := (tsL.all fun t => dcB K t.1 t.2)
def exB (K : PySem.W.Frag) : Bool := dcE K
abbrev Rw : PySem.W.OpenRow := PySem.W.OpenLaw.row PySem.Challenge.rw_strandwright_k50_whole_first_changes
def nsP0 : List Str := ["name_of", "mirrored", "beads_in", "names_in", "look_alike", "numbers_of", "right_end", "left_end", "tied_points", "ring_of", "point_rings", "change", "changes_from", "changed", "numbers_for_changes", "half_sum", "fewest_changes", "firsts_changes", "_law_half", "_law_changes", "_law_mirrored", "_law_turned", "_law_changed", "_law_line_behind"]
def nsP1 : List Str := ["_law_pick", "_law_shuffled", "_law_line", "_law_letters", "_law_name", "_law_names", "_law_good_deed", "_law_alike", "_law_first_changes", "_law_flow", "law"]
def nsL : List Str := nsP0 ++ nsP1
abbrev hk : PySem.W.Hook := hookX 3 nsL faL fnL exB tsL
def ob (s : PySem.W.SharedT) : AlF := obsXG 3 nsL faL fnL exB tsL (HandSHeadRun.getT s)
theorem ob_eq (s : PySem.W.SharedT) : ob s = hk.obs s.abs := obsXG_eq (HandSHeadRun.getT_eq s)
def looseN0 : List Str := ["name_of", "mirrored", "beads_in", "names_in", "look_alike", "numbers_of", "right_end", "left_end", "tied_points", "ring_of", "point_rings", "change", "changes_from", "changed", "numbers_for_changes", "half_sum", "fewest_changes", "firsts_changes", "_law_half", "_law_changes", "_law_mirrored", "_law_turned", "_law_changed", "_law_line_behind"]
def looseN1 : List Str := ["_law_flow", "_law_pick", "_law_shuffled", "_law_line", "_law_letters", "_law_name", "_law_names", "_law_good_deed", "_law_alike", "_law_first_changes", "StrandError", "Lacks", "NoDeed", "NotLet"]
abbrev looseN : List Str := looseN0 ++ looseN1
theorem run (w : World) : HandSHeadRun.RunEq Rw (PySem.W.view Rw.prog [43]) hk ob 20000 looseN w := by
  intro os
  kernel_rfl
open PySem PySem.W PySem.Calls PyProof.Rows in
theorem bareR : Rw.prog.bare := ⟨rfl, rfl, rfl, rfl, rfl, by decide +kernel⟩
end SwLaw

set_option Elab.async false
set_option linter.all false
set_option maxRecDepth 100000
namespace Sw
open PySem PySem.Spec L2

section
variable {K : FgK} {F F' : Hp}
theorem AtAll.erase : ∀ {ds : List D} {xs : List V} (n : Nat), AtAll K F ds xs → AtAll K F (ds.eraseIdx n) (xs.eraseIdx n)
  | [], xs, n, h => by simp only [AtAll] at h; subst h; exact AtAll.nil
  | d :: ds, xs, 0, h => by
    simp only [AtAll] at h
    obtain ⟨y, r, rfl, a, q⟩ := h
    exact q
  | d :: ds, xs, n + 1, h => by
    simp only [AtAll] at h
    obtain ⟨y, r, rfl, a, q⟩ := h
    exact AtAll.cons a (AtAll.erase n q)
theorem AtAll.rev {ds : List D} {xs : List V} (h : AtAll K F ds xs) : AtAll K F ds.reverse xs.reverse := by
  induction ds generalizing xs with
  | nil => simp only [AtAll] at h; subst h; exact AtAll.nil
  | cons d ds ih =>
    simp only [AtAll] at h
    obtain ⟨y, r, rfl, a, q⟩ := h
    simp only [List.reverse_cons]
    exact AtAll.app (ih q) (AtAll.cons a AtAll.nil)
theorem AtAll.get' : ∀ {ds : List D} {xs : List V} {i : Nat} {x : V}, AtAll K F ds xs → xs[i]? = some x → ∃ d, ds[i]? = some d ∧ At K F d x := fun {ds xs i x} h e => by
  have hl := h.len
  have hi : i < ds.length := by
    have := (List.getElem?_eq_some_iff.mp e).1
    omega
  obtain ⟨y, e1, a⟩ := h.get (List.getElem?_eq_getElem hi)
  rw [e] at e1
  cases e1
  exact ⟨_, List.getElem?_eq_getElem hi, a⟩
end

abbrev of0 (X : L2.Cx) : Cz := ⟨X, wNo, pNo, true, .of takes_none5, fun _ => True⟩
section
variable {K : FgX} {C : Ec} {σ : L2.St} {H F H1 F1 H2 F2 : Hp} {env env1 env2 : List SV}
/-- a new object, not known -/
theorem Rel.alloc0 (R : Rel K C σ H F env) {p : Addr} {o : HO} (hp : H p = none) : Stp K C σ H F env (upd H p o) F env ∧ F p = none ∧ C.H0 p = none ∧ ¬ Own σ env p := by
  have fp : F p = none := by
    cases q : F p with
    | none => rfl
    | some u => rw [R.frz p u q] at hp; cases hp
  have h0 : C.H0 p = none := by
    cases q : C.H0 p with
    | none => rfl
    | some u =>
      by_cases hl : C.la = some p
      · obtain ⟨⟨xs, e⟩, _⟩ := R.la p hl
        rw [e] at hp; cases hp
      · rw [R.frame p u q hl] at hp; cases hp
  refine ⟨⟨⟨⟨fun b u h => ?_, R.mono, R.new, fun b u h n => ?_, fun a h => ?_, R.len, fun i sv e => ?_, R.dist⟩, R.xok⟩, Le.rfl', fun b u h _ => ?_, fun b u h => .inl h, fun i l ds h => ⟨ds, h⟩, fun b h => ?_⟩, fp, h0, fun z => ?_⟩
  · have q := R.frz b u h
    rw [upd_ne (ne_of_none q hp)]; exact q
  · have q := R.frame b u h n
    rw [upd_ne (ne_of_none q hp)]; exact q
  · obtain ⟨⟨xs, e⟩, f, g⟩ := R.la a h
    exact ⟨⟨xs, by rw [upd_ne (ne_of_none e hp)]; exact e⟩, f, g⟩
  · have q := R.slot i sv e
    cases sv with
    | un => trivial
    | raw z => exact q
    | dat d => exact q
    | obj l ds =>
      obtain ⟨r, xs, e1, e2, e3, e4, e5⟩ := q
      exact ⟨r, xs, e1, by rw [upd_ne (ne_of_none e2 hp)]; exact e2, e3, e4, e5⟩
  · rw [upd_ne (ne_of_none h hp)]; exact h
  · by_cases e : b = p
    · subst e; exact hp
    · rw [upd_ne e] at h; exact h
  · obtain ⟨i, l, ds, e, s⟩ := z
    obtain ⟨r, xs, e1, e2, _⟩ := R.slot i _ e
    rw [s] at e1
    cases e1
    rw [e2] at hp; cases hp
/-- the list of a slot is changed -/
theorem Rel.write (R : Rel K C σ H F env) {i : Nat} {l : Bool} {ds ds' : Ct} {p : Addr} {o' : HO} (he : env[i]? = some (.obj l ds)) (hs : σ[i]? = some (some (.ref p))) (h' : CtOk K F p o' ds') (hl' : l = true → ∃ xs, o' = .lst xs) :
    Stp K C σ H F env (upd H p o') F (env.set i (.obj l ds')) := by
  obtain ⟨p', xs, e1, e2, e3, e4, e5⟩ := R.slot i _ he
  rw [hs] at e1
  cases e1
  have hi : i < env.length := (List.getElem?_eq_some_iff.mp he).1
  have oth : ∀ (j : Nat) (m : Bool) (es : Ct), (env.set i (.obj l ds'))[j]? = some (.obj m es) → ∃ es', env[j]? = some (.obj m es') := fun j m es h => by
    by_cases e : j = i
    · subst e; rw [List.getElem?_set_self hi] at h; cases h; exact ⟨ds, he⟩
    · rw [List.getElem?_set_ne (Ne.symm e)] at h; exact ⟨es, h⟩
  refine ⟨⟨⟨fun b u h => ?_, R.mono, R.new, fun b u h n => ?_, fun a h => ?_, by rw [List.length_set]; exact R.len, fun j sv e => ?_, fun j k m es n fs h1 h2 h3 => ?_⟩, R.xok⟩, Le.rfl', fun b u h n => ?_, fun b u h => .inl h, oth, fun b h => ?_⟩
  · have ne : b ≠ p := by
      rintro rfl
      rw [e3] at h; cases h
    rw [upd_ne ne]; exact R.frz b u h
  · have ne : b ≠ p := by
      rintro rfl
      cases l with
      | true => exact n (by simpa using e4)
      | false => rw [if_neg (by decide)] at e4; rw [e4] at h; cases h
    rw [upd_ne ne]; exact R.frame b u h n
  · obtain ⟨⟨ys, e⟩, f, g⟩ := R.la a h
    refine ⟨?_, f, g⟩
    by_cases ne : a = p
    · subst ne
      cases l with
      | true =>
        obtain ⟨xs', rfl⟩ := hl' rfl
        exact ⟨xs', upd_same⟩
      | false =>
        obtain ⟨o, g⟩ := g
        rw [if_neg (by decide), g] at e4
        cases e4
    · exact ⟨ys, by rw [upd_ne ne]; exact e⟩
  · by_cases e' : j = i
    · subst e'
      rw [List.getElem?_set_self hi] at e
      cases e
      exact ⟨p, o', hs, upd_same, e3, e4, h'⟩
    · rw [List.getElem?_set_ne (Ne.symm e')] at e
      have q := R.slot j sv e
      cases sv with
      | un => trivial
      | raw z => exact q
      | dat d => exact q
      | obj m es =>
        obtain ⟨r, ys, f1, f2, f3, f4, f5⟩ := q
        have ne : r ≠ p := by
          rintro rfl
          exact e' (R.dist j i m es l ds e he (f1.trans hs.symm))
        exact ⟨r, ys, f1, by rw [upd_ne ne]; exact f2, f3, f4, f5⟩
  · obtain ⟨es', h1⟩ := oth j m es h1
    obtain ⟨fs', h2⟩ := oth k n fs h2
    exact R.dist j k m es' n fs' h1 h2 h3
  · have ne : b ≠ p := by
      rintro rfl
      exact n ⟨i, l, ds, he, hs⟩
    rw [upd_ne ne]; exact h
  · by_cases ne : b = p
    · subst ne; rw [upd_same] at h; cases h
    · rw [upd_ne ne] at h; exact h
theorem Rel.slotL (R : Rel K C σ H F env) {i : Nat} {l : Bool} {ds : List D} (he : env[i]? = some (.own l ds)) : ∃ p xs, σ[i]? = some (some (.ref p)) ∧ H p = some (.lst xs) ∧ F p = none ∧ (if l = true then C.la = some p else C.H0 p = none) ∧ AtAll K F ds xs := by
  obtain ⟨p, u, e1, e2, e3, e4, xs, rfl, e5⟩ := R.slot i _ he
  exact ⟨p, xs, e1, e2, e3, e4, e5⟩
theorem Rel.writeL (R : Rel K C σ H F env) {i : Nat} {l : Bool} {ds ds' : List D} {p : Addr} {xs' : List V} (he : env[i]? = some (.own l ds)) (hs : σ[i]? = some (some (.ref p))) (h' : AtAll K F ds' xs') :
    Stp K C σ H F env (upd H p (.lst xs')) F (env.set i (.own l ds')) := R.write he hs ⟨xs', rfl, h'⟩ fun _ => ⟨xs', rfl⟩
end
end Sw

set_option Elab.async false
set_option linter.all false
set_option maxRecDepth 100000
namespace Sw
open PySem PySem.Spec L2

def rdAll (env : List SV) (os : List OV) : Option (List D) := match os with
  | [] => some []
  | o :: r => (o.rd env).bind fun d => (rdAll env r).map fun q => d :: q
structure ET (X : Cz) (e : Expr) (T : PT') : Prop where
  ex : ∃ t, PT X e t ∧ LT X.fr t T
structure EW (X : Cz) (e : Expr) (T : PT') : Prop where
  ex : ∃ t, PW X e t ∧ LT X.fr t T
structure EA (X : Cz) (es : List Expr) (T : PA') : Prop where
  ex : ∃ t, PA X es t ∧ LA X.fr t T

structure ES (X : Cz) (st : Stmt) (T : PS') : Prop where
  ex : ∃ t, PS X st t ∧ LS X.fr t T
section
variable {X : Cz}
def qVar (i : Nat) : PE' := fun env Q => (∃ d, env[i]?.bind svD = some d) ∧ Q (.sl i) env
theorem qv (i : Nat) {x : Str} {pos : Pos} (hN : X.N[i]? = some x := by rfl) (hv : Vis X.env.scope x := by first | exact Or.inl rfl | exact Or.inr (Or.inl rfl) | exact Or.inr (Or.inr rfl)) (hd : (x == ("__debug__" : Str)) = false := by decide)
    (hcd : (x == ("__classdict__" : Str)) = false := by decide) : EV X (.Name x pos) (qVar i) := by
  refine ⟨_, pe_var hN hv hd hcd, fun C σ H F env Q Qp R k h => ?_⟩
  obtain ⟨⟨d, e⟩, h⟩ := h
  cases q : env[i]? with
  | none => rw [q] at e; cases e
  | some sv =>
    rw [q] at e
    have w := R.slot i sv q
    cases sv with
    | un => cases e
    | raw z => cases e
    | dat d' =>
      obtain ⟨v, e1, a⟩ := w
      exact ⟨v, e1, k v H F env (.sl i) (Stp.refl R) e1 h⟩
    | obj l ds =>
      obtain ⟨p, xs, e1, _⟩ := w
      exact ⟨.ref p, e1, k (.ref p) H F env (.sl i) (Stp.refl R) e1 h⟩
def qC (x : D) : PE' := fun env Q => Q (.dv x) env
theorem LE.const {K : FgX} {v : V} {x : D} (h : ∀ F, At K F x v) : LE K (tC v) (qC x) := fun C σ H F env Q Qp R k q => k v H F env (.dv x) (Stp.refl R) (h F) q
theorem q_int {i j pos} : EV X (.Constant (.int i) j pos) (qC (.int i)) := ⟨_, pe_int, LE.const fun F => by simp [At]⟩
theorem q_bl {b j pos} : EV X (.Constant (.bool b) j pos) (qC (.bool b)) := ⟨_, pe_bl, LE.const fun F => by simp [At]⟩
theorem q_non {j pos} : EV X (.Constant .none j pos) (qC .none) := ⟨_, pe_non, LE.const fun F => by simp [At]⟩
theorem q_str {x j pos} : EV X (.Constant (.str x) j pos) (qC (.str x)) := ⟨_, pe_str, LE.const fun F => by simp [At]⟩
def qNil : PA' := fun env Q => Q [] env
def qCons (T : PE') (R : PA') : PA' := fun env Q => T env fun o env1 => R env1 fun os env2 => Q (o :: os) env2
theorem qa_nil : EA X [] qNil := ⟨_, pa_nil, fun C σ H F env Q Qp R k q => k [] H F env [] (Stp.refl R) rfl q⟩
theorem qa_cons {e : Expr} {es : List Expr} {T : PE'} {R : PA'} (ha : EV X e T) (hr : EA X es R) (hs : starEach (e :: es) X.env = (false, eval e X.env) :: starEach es X.env := by rfl) : EA X (e :: es) (qCons T R) := by
  obtain ⟨t, h1, l1⟩ := ha.ex
  obtain ⟨u, h2, l2⟩ := hr.ex
  refine ⟨_, pa_cons h1 h2 hs, fun C σ H F env Q Qp R k q => ?_⟩
  refine l1 C σ H F env _ _ R (fun v H1 F1 env1 ov s1 a1 q1 => ?_) q
  refine l2 C σ H1 F1 env1 _ _ s1.rel (fun vs H2 F2 env2 ovs s2 a2 q2 => ?_) q1
  exact k (v :: vs) H2 F2 env2 (ov :: ovs) (s1.trans s2) ⟨v, vs, rfl, a1.mono s2.ff, a2⟩ q2
def qTup (T : PA') : PE' := fun env Q => T env fun os env1 => ∃ ds env2, fzAll env1 os = some (ds, env2) ∧ ds.length ≤ sizeLine ∧ Q (.dv (.tuple ds)) env2
theorem q_tup {es : List Expr} {x1} {pos : Pos} {T : PA'} (h : EA X es T) : EV X (.Tuple es x1 pos) (qTup T) := by
  obtain ⟨t, h1, l1⟩ := h.ex
  refine ⟨_, pe_tup h1, fun C σ H F env Q Qp R k q => ?_⟩
  refine l1 C σ H F env _ _ R (fun vs H1 F1 env1 os s1 a1 q1 => ?_) q
  obtain ⟨ds, env2, e, hz, q2⟩ := q1
  obtain ⟨F2, s2, a2⟩ := fzAll_ok s1.rel a1 e
  refine ⟨by rw [a2.len]; exact hz, fun p hp => ?_⟩
  have s3 := s2.rel.alloc (o := .tup vs) hp
  exact k (.ref p) _ _ env2 (.dv (.tuple ds)) ((s1.trans s2).trans s3) (At.tup_of upd_same (AtAll.mono s3.ff _ _ a2)) q2
def fLst (T : PA') : PF' := fun env Q => T env fun os env1 => ∃ ds env2, fzAll env1 os = some (ds, env2) ∧ ds.length ≤ sizeLine ∧ Q ds env2
theorem f_lst {es : List Expr} {pos : Pos} {T : PA'} (h : EA X es T) : EF X (.List es pos) (fLst T) := by
  obtain ⟨t, h1, l1⟩ := h.ex
  refine ⟨_, pe_lst h1, fun C σ H F env Q Qp R k q => ?_⟩
  refine l1 C σ H F env _ _ R (fun vs H1 F1 env1 os s1 a1 q1 => ?_) q
  obtain ⟨ds, env2, e, hz, q2⟩ := q1
  obtain ⟨F2, s2, a2⟩ := fzAll_ok s1.rel a1 e
  refine ⟨by rw [a2.len]; exact hz, fun p hp => ?_⟩
  obtain ⟨s3, f3, h3, n3⟩ := s2.rel.alloc0 (o := .lst vs) hp
  exact k p vs ds _ F2 env2 ((s1.trans s2).trans s3) upd_same f3 h3 n3 (s1.dm p (s2.dm p hp)) a2 q2
end
end Sw

set_option Elab.async false
set_option linter.all false
set_option maxRecDepth 100000
namespace Sw
open PySem PySem.Spec L2

section
variable {X : Cz} {K : FgX}
theorem q_op {op : Operator} {r : R2} {g : D → D → Option D} {a b : Expr} {A B : PE'} {pos : Pos} (ho : OpR X (binaryOp op) r) (hl : LO2 X.fr r g) (ha : EV X a A) (hb : EV X b B) : EV X (.BinOp a op b pos) (qOp g A B) := by
  obtain ⟨ta, h1, l1⟩ := ha.ex
  obtain ⟨tb, h2, l2⟩ := hb.ex
  exact ⟨_, pe_op ho h1 h2, LE.op hl l1 l2⟩
theorem q_cmp {op : CmpOp} {r : R2} {g : D → D → Option D} {a b : Expr} {A B : PE'} {pos : Pos} (ho : OpR X (compareOp op) r) (hl : LO2 X.fr r g) (ha : EV X a A) (hb : EV X b B) (hm : behindInMarks op b = false) : EV X (.Compare a [op] [b] pos) (qOp g A B) := by
  obtain ⟨ta, h1, l1⟩ := ha.ex
  obtain ⟨tb, h2, l2⟩ := hb.ex
  exact ⟨_, pe_cmpR ho h1 h2 hm, LE.op hl l1 l2⟩
theorem t_cmp {op : CmpOp} {r : R2} {g : D → D → Option D} {a b : Expr} {A B : PE'} {pos : Pos} (ho : OpR X (compareOp op) r) (hl : LO2 X.fr r g) (ha : EV X a A) (hb : EV X b B) (hm : behindInMarks op b = false) : ET X (.Compare a [op] [b] pos) (qTest (qOp g A B)) := by
  obtain ⟨ta, h1, l1⟩ := ha.ex
  obtain ⟨tb, h2, l2⟩ := hb.ex
  exact ⟨_, pt_cmpR ho h1 h2 hm, LT.test (LE.op hl l1 l2)⟩
theorem t_val {e : Expr} {A : PE'} (h : EV X e A) (he : ∀ whole, isTrue e X.env whole = (do let v ← whole; standAt e.pos; holding [v] (truthy v)) := by intro _; rfl) : ET X e (qTest A) := by
  obtain ⟨t, h1, l1⟩ := h.ex
  exact ⟨_, pt_val h1 he, LT.test l1⟩
def tAnd' (A B : PT') : PT' := fun env Q => A env fun c env1 => if c = true then B env1 Q else Q false env1
def tOr' (A B : PT') : PT' := fun env Q => A env fun c env1 => if c = true then Q true env1 else B env1 Q
def tNot' (A : PT') : PT' := fun env Q => A env fun c env1 => Q (!c) env1
theorem EW.et {e : Expr} {T : PT'} (h : EW X e T) : ET X e T := by
  obtain ⟨t, h1, l1⟩ := h.ex
  exact ⟨t, h1.pt, l1⟩
theorem w_and1 {a : Expr} {pos : Pos} {A : PT'} (h : ET X a A) : EW X (.BoolOp .And [a] pos) A := by
  obtain ⟨t, h1, l1⟩ := h.ex
  exact ⟨t, pw_and1 h1, l1⟩
theorem w_or1 {a : Expr} {pos : Pos} {A : PT'} (h : ET X a A) : EW X (.BoolOp .Or [a] pos) A := by
  obtain ⟨t, h1, l1⟩ := h.ex
  exact ⟨t, pw_or1 h1, l1⟩
theorem w_and {a b : Expr} {rest : List Expr} {pos : Pos} {A B : PT'} (h : ET X a A) (g : EW X (.BoolOp .And (b :: rest) pos) B) : EW X (.BoolOp .And (a :: b :: rest) pos) (tAnd' A B) := by
  obtain ⟨t, h1, l1⟩ := h.ex
  obtain ⟨u, h2, l2⟩ := g.ex
  refine ⟨_, pw_and h1 h2, fun C σ H F env Q Qp R k q => ?_⟩
  refine l1 C σ H F env _ _ R (fun c H1 F1 env1 s1 q1 => ?_) q
  cases c with
  | true =>
    rw [if_pos rfl] at q1 ⊢
    exact l2 C σ H1 F1 env1 _ _ s1.rel (fun b H2 F2 env2 s2 q2 => k b H2 F2 env2 (s1.trans s2) q2) q1
  | false =>
    rw [if_neg (by decide)] at q1 ⊢
    exact k false H1 F1 env1 s1 q1
theorem w_or {a b : Expr} {rest : List Expr} {pos : Pos} {A B : PT'} (h : ET X a A) (g : EW X (.BoolOp .Or (b :: rest) pos) B) : EW X (.BoolOp .Or (a :: b :: rest) pos) (tOr' A B) := by
  obtain ⟨t, h1, l1⟩ := h.ex
  obtain ⟨u, h2, l2⟩ := g.ex
  refine ⟨_, pw_or h1 h2, fun C σ H F env Q Qp R k q => ?_⟩
  refine l1 C σ H F env _ _ R (fun c H1 F1 env1 s1 q1 => ?_) q
  cases c with
  | true =>
    rw [if_pos rfl] at q1 ⊢
    exact k true H1 F1 env1 s1 q1
  | false =>
    rw [if_neg (by decide)] at q1 ⊢
    exact l2 C σ H1 F1 env1 _ _ s1.rel (fun b H2 F2 env2 s2 q2 => k b H2 F2 env2 (s1.trans s2) q2) q1
theorem t_not {a : Expr} {pos : Pos} {A : PT'} (h : ET X a A) : ET X (.UnaryOp .Not a pos) (tNot' A) := by
  obtain ⟨t, h1, l1⟩ := h.ex
  exact ⟨_, pt_not h1, fun C σ H F env Q Qp R k q => l1 C σ H F env _ _ R (fun c H1 F1 env1 s1 q1 => k (!c) H1 F1 env1 s1 q1) q⟩
def qAnd (A B : PE') : PE' := fun env Q => qTest A env fun c env1 => if c = true then B env1 Q else Q (.dv (.bool false)) env1
def qOr (A B : PE') : PE' := fun env Q => qTest A env fun c env1 => if c = true then Q (.dv (.bool true)) env1 else B env1 Q
def qNot (A : PE') : PE' := fun env Q => qTest A env fun c env1 => Q (.dv (.bool (!c))) env1
theorem q_one {op} {a : Expr} {pos : Pos} {A : PE'} (h : EV X a A) : EV X (.BoolOp op [a] pos) A := by
  obtain ⟨t, h1, l1⟩ := h.ex
  exact ⟨t, pe_one h1, l1⟩
theorem q_and {a b : Expr} {rest : List Expr} {pos : Pos} {A B : PE'} (h : EV X a A) (g : EV X (.BoolOp .And (b :: rest) pos) B) : EV X (.BoolOp .And (a :: b :: rest) pos) (qAnd A B) := by
  obtain ⟨t, h1, l1⟩ := h.ex
  obtain ⟨u, h2, l2⟩ := g.ex
  refine ⟨_, pe_and h1 h2, fun C σ H F env Q Qp R k q => ?_⟩
  refine (LT.test l1) C σ H F env (fun c H1 => if c = true then u σ H1 Q else Q (.bl false) H1) _ R (fun c H1 F1 env1 s1 q1 => ?_) q
  cases c with
  | true =>
    rw [if_pos rfl] at q1 ⊢
    exact l2 C σ H1 F1 env1 _ _ s1.rel (fun v H2 F2 env2 o s2 a2 q2 => k v H2 F2 env2 o (s1.trans s2) a2 q2) q1
  | false =>
    rw [if_neg (by decide)] at q1 ⊢
    exact k (.bl false) H1 F1 env1 (.dv (.bool false)) s1 (by simp [OvOk, At]) q1
/-- of two ints -/
def gI (g : Int → Int → Option D) : D → D → Option D
  | .int i, .int j => g i j
  | _, _ => none
theorem LO2.ints {r : R2} {g : Int → Int → Option D} (h : ∀ (i j : Int) (d : D) (H : Hp) (Q : VK), g i j = some d → (∀ v, (∀ F, At K F d v) → Q v H) → r (.int i) (.int j) H Q) : LO2 K r (gI g) := fun C σ H F env x y dx dy d Q R a b e k => by
  cases dx with
  | int i =>
    cases dy with
    | int j =>
      rw [a.int, b.int]
      exact h i j d H Q e fun v hv => k v H F (Stp.refl R) (hv F)
    | _ => cases e
  | _ => cases e
def dSub : Int → Int → Option D := fun i j => some (.int (i - j))
theorem l_sub : LO2 K (rI0 fun i j => .int (i - j)) (gI dSub) := LO2.ints fun i j d H Q e k => by cases e; exact ⟨i, j, rfl, rfl, k _ fun F => by simp [At]⟩
def gDiv : Int → Int → Option D := fun i j => if 0 < j ∧ j < 1073741824 then some (.int (i / j)) else none
theorem l_div : LO2 K (rI CDiv fun i j => .int (i / j)) (gI gDiv) := LO2.ints fun i j d H Q e k => by
  unfold gDiv at e
  split at e
  · cases e; exact ⟨i, j, rfl, rfl, ‹_›, k _ fun F => by simp [At]⟩
  · cases e
def gMod : Int → Int → Option D := fun i j => if 0 < j then some (.int (i % j)) else none
theorem l_mod : LO2 K (rI (fun _ j => 0 < j) fun i j => .int (i % j)) (gI gMod) := LO2.ints fun i j d H Q e k => by
  unfold gMod at e
  split at e
  · cases e; exact ⟨i, j, rfl, rfl, ‹_›, k _ fun F => by simp [At]⟩
  · cases e
def gPow : Int → Int → Option D := fun i j => if 0 ≤ j ∧ j ≤ 1000000 ∧ i.natAbs < 2 ^ 64 then some (.int (i ^ j.toNat)) else none
theorem l_pow : LO2 K (rI CPow fun i j => .int (i ^ j.toNat)) (gI gPow) := LO2.ints fun i j d H Q e k => by
  unfold gPow at e
  split at e
  · cases e; exact ⟨i, j, rfl, rfl, ‹_›, k _ fun F => by simp [At]⟩
  · cases e
def gCmp (p : Int → Int → Bool) : Int → Int → Option D := fun i j => some (.bool (p i j))
theorem l_cmp {p : Int → Int → Bool} : LO2 K (rI0 fun i j => .bl (p i j)) (gI (gCmp p)) := LO2.ints fun i j d H Q e k => by cases e; exact ⟨i, j, rfl, rfl, k _ fun F => by simp [At]⟩
/-- a + b -/
def gAdd : D → D → Option D
  | .int a, .int b => some (.int (a + b))
  | .str a, .str b => if a.length + b.length ≤ sizeLine then some (.str (a ++ b)) else none
  | .list a, .list b => if a.length + b.length ≤ sizeLine then some (.list (a ++ b)) else none
  | .tuple a, .tuple b => if a.length + b.length ≤ sizeLine then some (.tuple (a ++ b)) else none
  | _, _ => none
abbrev rAddA (K : FgK) : R2 := fun x y H Q => rI0 (fun i j => .int (i + j)) x y H Q ∨ (fun x y H Q => (∃ i j, x = .str i ∧ y = .str j ∧ i.length + j.length ≤ sizeLine ∧ Q (.str (i ++ j)) H) ∨ (fun x y H Q => rCat x y H Q ∨ rCatA K x y H Q) x y H Q) x y H Q
theorem op_addA : OpR X (binaryOp .Add) (rAddA X.fr) := op_add.or (op_add_str.or (op_cat.or op_catA))
theorem l_add : LO2 K (rAddA K) gAdd := fun C σ H F env x y dx dy d Q R a b e k => by
  unfold gAdd at e
  split at e
  · cases e
    rw [a.int, b.int]
    exact .inl ⟨_, _, rfl, rfl, k _ H F (Stp.refl R) (by simp [At])⟩
  · split at e
    · cases e
      rw [a.str, b.str]
      exact .inr (.inl ⟨_, _, rfl, rfl, ‹_›, k _ H F (Stp.refl R) (by simp [At])⟩)
    · cases e
  · split at e
    · cases e
      obtain ⟨p, xs, rfl, e1, a1⟩ := a
      obtain ⟨q, ys, rfl, e2, a2⟩ := b
      refine .inr (.inr (.inl ⟨p, q, xs, ys, rfl, rfl, e1, e2, by rw [a1.len, a2.len]; assumption, fun r hr => ?_⟩))
      have s := R.alloc (o := .lst (xs ++ ys)) hr
      exact k _ _ _ s (At.list_of upd_same (AtAll.mono s.ff _ _ (AtAll.app a1 a2)))
    · cases e
  · split at e
    · cases e
      rename_i as bs hz
      obtain ⟨p, xs, rfl, e1, a1⟩ := a.tup R.frz
      obtain ⟨q, ys, rfl, e2, a2⟩ := b.tup R.frz
      refine .inr (.inr (.inr ⟨p, q, xs, ys, rfl, rfl, e1, e2, by rw [a1.len, a2.len]; assumption, fun h => ?_, fun h1 h2 => ?_, fun h1 h2 r hr => ?_⟩))
      · have : as = [] := List.eq_nil_of_length_eq_zero (by rw [← a1.len, h]; rfl)
        subst this
        refine k _ _ _ (Stp.refl R) ?_
        exact b
      · have : bs = [] := List.eq_nil_of_length_eq_zero (by rw [← a2.len, h2]; rfl)
        subst this
        rw [List.append_nil] at k
        refine k _ _ _ (Stp.refl R) ?_
        exact a
      · have s := R.alloc (o := .tup (xs ++ ys)) hr
        exact k _ _ _ s (At.tup_of upd_same (AtAll.mono s.ff _ _ (AtAll.app a1 a2)))
    · cases e
  · cases e
/-- a * b -/
def gMul : D → D → Option D
  | .int a, .int b => if (-(2 ^ 64) < a ∧ a < 2 ^ 64) ∨ (-(2 ^ 64) < b ∧ b < 2 ^ 64) then some (.int (a * b)) else none
  | .str a, .int n => if n ≤ 1000 ∧ -1000 ≤ n ∧ a.length ≤ 1000 then some (.str (Txt.mul a n)) else none
  | _, _ => none
theorem op_mul_str : OpR X (binaryOp .Mult) (fun x y H Q => ∃ a n, x = .str a ∧ y = .int n ∧ n ≤ 1000 ∧ -1000 ≤ n ∧ a.length ≤ 1000 ∧ Q (.str (Txt.mul a n)) H) := by
  intro pins s σ H x y v u Q I rx ry h
  obtain ⟨a, n, rfl, rfl, h1, h2, h3, q⟩ := h
  obtain ⟨t, rfl⟩ := rx
  obtain ⟨t', rfl⟩ := ry
  refine SB.mul ⟨?_, fun hn _ => ?_, fun hn _ => ?_⟩ fun t' k => ⟨.str _, H, I.tok _, ⟨_, rfl⟩, q⟩
  · rw [Bool.or_eq_false_iff]
    exact ⟨decide_eq_false (by omega), decide_eq_false (by omega)⟩
  · intro hh
    have hd : (1000 : Int) ≤ (2 ^ 63 - 1) / n := Int.le_ediv_of_mul_le (by omega) (by omega)
    omega
  · have hm : a.length * n.toNat ≤ 1000 * 1000 := Nat.mul_le_mul h3 (by omega)
    unfold Builtin.Str.tooLong
    simp only [decide_eq_false_iff_not]
    rw [sizeLine_eq]
    omega
end
end Sw

set_option Elab.async false
set_option linter.all false
set_option maxRecDepth 100000
namespace Sw
open PySem PySem.Spec L2

mutual
theorem At.dp {K : FgK} {H : Hp} : ∀ (d : D) (v : V), d.plain = true → At K H d v → Dp K H v d
  | .none, v, _, a => by simp only [At] at a; subst a; exact .non
  | .bool b, v, _, a => by simp only [At] at a; subst a; exact .bl b
  | .int i, v, _, a => by simp only [At] at a; subst a; exact .int i
  | .str x, v, _, a => by simp only [At] at a; subst a; exact .str x
  | .list ds, v, h, a => by
    simp only [At] at a
    obtain ⟨p, xs, rfl, e, r⟩ := a
    simp only [PyData.plain] at h
    exact .lst (SqL.of e) (AtAll.dp ds xs h r)
  | .tuple ds, v, h, a => by
    simp only [At] at a
    obtain ⟨p, xs, rfl, e, r⟩ := a
    simp only [PyData.plain] at h
    exact .tup e.sqT (AtAll.dp ds xs h r)
  | .dict _, _, h, _ => nomatch h
theorem AtAll.dp {K : FgK} {H : Hp} : ∀ (ds : List D) (xs : List V), PyData.plainAll ds = true → AtAll K H ds xs → DpAll K H xs ds
  | [], xs, _, a => by simp only [AtAll] at a; subst a; exact .nil
  | d :: ds, xs, h, a => by
    simp only [AtAll] at a
    obtain ⟨x, r, rfl, a, q⟩ := a
    have h' : d.plain = true ∧ PyData.plainAll ds = true := by simpa [PyData.plainAll] using h
    exact .cons (At.dp d x h'.1 a) (AtAll.dp ds r h'.2 q)
end
theorem Vw.dp {K : FgK} {H F : Hp} (R : Le F H) {d : D} {v : V} (h : d.plain = true) (a : Vw K H F d v) : Dp K H v d := by
  cases d with
  | list ds =>
    obtain ⟨p, xs, rfl, e, r⟩ := a
    simp only [PyData.plain] at h
    exact .lst (SqL.of e) (AtAll.dp ds xs h (AtAll.mono R _ _ r))
  | none => exact At.dp _ _ h (At.mono R _ _ a)
  | bool b => exact At.dp _ _ h (At.mono R _ _ a)
  | int i => exact At.dp _ _ h (At.mono R _ _ a)
  | str x => exact At.dp _ _ h (At.mono R _ _ a)
  | tuple ds => exact At.dp _ _ h (At.mono R _ _ a)
  | dict kds => exact nomatch h
/-- plain, and not too deep -/
def okD (d : D) : Bool := d.plain && decide (d.depth ≤ 40)
theorem okD_plain {d : D} (h : okD d = true) : d.plain = true := (Bool.and_eq_true_iff.mp h).1
theorem okD_depth {d : D} (h : okD d = true) : d.depth ≤ 40 := of_decide_eq_true (Bool.and_eq_true_iff.mp h).2
section
variable {X : Cz} {K : FgX}
def rEqP (K : FgK) (neg : Bool) : R2 := fun x y H Q => ∃ d e, Dp K H x d ∧ Dp K H y e ∧ okD d = true ∧ okD e = true ∧ Q (.bl (if neg then !PyData.eqv d e else PyData.eqv d e)) H
theorem op_eqP (hu : X.A.units + 64 < cLine) : OpR X (compareOp .Eq) (rEqP X.fr false) := by
  intro pins s σ H x y v u Q I rx ry h
  obtain ⟨d, e, hd, he, h1, h2, q⟩ := h
  obtain ⟨as, r1⟩ := Dp.reads I d x v hd rx
  obtain ⟨bs, r2⟩ := Dp.reads I e y u he ry
  have := okD_depth h1
  have := Nat.min_le_left d.depth e.depth
  exact SeqAt.eq_plain r1 r2 (okD_plain h1) (okD_plain h2) (by omega) ⟨.bl _, H, I, rfl, q⟩
theorem op_neP (hu : X.A.units + 64 < cLine) : OpR X (compareOp .NotEq) (rEqP X.fr true) := by
  intro pins s σ H x y v u Q I rx ry h
  obtain ⟨d, e, hd, he, h1, h2, q⟩ := h
  obtain ⟨as, r1⟩ := Dp.reads I d x v hd rx
  obtain ⟨bs, r2⟩ := Dp.reads I e y u he ry
  have := okD_depth h1
  have := Nat.min_le_left d.depth e.depth
  exact SeqAt.ne_plain r1 r2 (okD_plain h1) (okD_plain h2) (by omega) ⟨.bl _, H, I, rfl, q⟩
def gEq (neg : Bool) : D → D → Option D := fun a b => if okD a = true ∧ okD b = true then some (.bool (if neg then !PyData.eqv a b else PyData.eqv a b)) else none
theorem l_eq {neg : Bool} : LO2 K (rEqP K neg) (gEq neg) := fun C σ H F env x y dx dy d Q R a b e k => by
  unfold gEq at e
  split at e
  · rename_i h
    cases e
    exact ⟨dx, dy, a.dp R.frz (okD_plain h.1), b.dp R.frz (okD_plain h.2), h.1, h.2, k _ H F (Stp.refl R) (by simp [At])⟩
  · cases e
/-- x in xs (a list, a tuple) -/
def rInP (K : FgK) (neg : Bool) : R2 := fun x y H Q => ∃ d ds, Dp K H x d ∧ (Dp K H y (.list ds) ∨ Dp K H y (.tuple ds)) ∧ okD d = true ∧ okD (.list ds) = true ∧ Q (.bl (if neg then !(ds.any fun z => PyData.eqv z d) else ds.any fun z => PyData.eqv z d)) H
theorem op_inP (hu : X.A.units + 64 < cLine) : OpR X (compareOp .In) (rInP X.fr false) := by
  intro pins s σ H x y v u Q I rx ry h
  obtain ⟨d, ds, hd, he, h1, h2, q⟩ := h
  obtain ⟨as, r1⟩ := Dp.reads I d x v hd rx
  have := okD_depth h1
  have := Nat.min_le_right (PyData.depthAll ds) d.depth
  have hp : PyData.plainAll ds = true := okD_plain h2
  rcases he with he | he
  · obtain ⟨bs, r2⟩ := Dp.reads I _ y u he ry
    exact SeqAt.in_list_data r2 r1 hp (okD_plain h1) (by omega) ⟨.bl _, H, I, rfl, q⟩
  · obtain ⟨bs, r2⟩ := Dp.reads I _ y u he ry
    exact SeqAt.in_tuple_data r2 r1 hp (okD_plain h1) (by omega) ⟨.bl _, H, I, rfl, q⟩
theorem op_ninP (hu : X.A.units + 64 < cLine) : OpR X (compareOp .NotIn) (rInP X.fr true) := by
  intro pins s σ H x y v u Q I rx ry h
  obtain ⟨d, ds, hd, he, h1, h2, q⟩ := h
  obtain ⟨as, r1⟩ := Dp.reads I d x v hd rx
  have := okD_depth h1
  have := Nat.min_le_right (PyData.depthAll ds) d.depth
  have hp : PyData.plainAll ds = true := okD_plain h2
  rcases he with he | he
  · obtain ⟨bs, r2⟩ := Dp.reads I _ y u he ry
    exact SeqAt.notIn_list_data r2 r1 hp (okD_plain h1) (by omega) ⟨.bl _, H, I, rfl, q⟩
  · obtain ⟨bs, r2⟩ := Dp.reads I _ y u he ry
    exact SeqAt.notIn_tuple_data r2 r1 hp (okD_plain h1) (by omega) ⟨.bl _, H, I, rfl, q⟩
def inB (neg : Bool) (x : D) (ds : List D) : D := .bool (if neg then !(ds.any fun z => PyData.eqv z x) else ds.any fun z => PyData.eqv z x)
def gIn (neg : Bool) : D → D → Option D
  | x, .list ds => if okD x = true ∧ okD (.list ds) = true then some (inB neg x ds) else none
  | x, .tuple ds => if okD x = true ∧ okD (.list ds) = true then some (inB neg x ds) else none
  | .str c, .str z => if c.length = 1 then some (.bool (if neg then !decide (c.cps.getD 0 0 ∈ z.cps.toList) else decide (c.cps.getD 0 0 ∈ z.cps.toList))) else none
  | _, _ => none
theorem one_sign {c : Str} (h : c.length = 1) : c = ⟨#[c.cps.getD 0 0]⟩ := by
  obtain ⟨a⟩ := c
  have h : a.size = 1 := h
  have : a = #[a.getD 0 0] := by
    apply Array.ext
    · simp [h]
    · intro i h1 h2
      have : i = 0 := by omega
      subst this
      simp [Array.getD, h]
  exact congrArg Str.mk this
abbrev rInA (K : FgK) : R2 := fun x y H Q => rInP K false x y H Q ∨ (fun x y H Q => ∃ (c : Nat) (z : Str), x = .str ⟨#[c]⟩ ∧ y = .str z ∧ Q (.bl (decide (c ∈ z.cps.toList))) H) x y H Q
abbrev rNinA (K : FgK) : R2 := fun x y H Q => rInP K true x y H Q ∨ (fun x y H Q => ∃ (c : Nat) (z : Str), x = .str ⟨#[c]⟩ ∧ y = .str z ∧ Q (.bl (!decide (c ∈ z.cps.toList))) H) x y H Q
theorem op_inA (hu : X.A.units + 64 < cLine) : OpR X (compareOp .In) (rInA X.fr) := (op_inP hu).or op_in_sign
theorem op_ninA (hu : X.A.units + 64 < cLine) : OpR X (compareOp .NotIn) (rNinA X.fr) := (op_ninP hu).or op_notIn_sign
theorem Vw.inD {H F : Hp} (R : Le F H) {ds : List D} {y : V} (h : okD (.list ds) = true) (b : Vw K H F (.list ds) y ∨ Vw K H F (.tuple ds) y) : Dp K H y (.list ds) ∨ Dp K H y (.tuple ds) := by
  rcases b with b | b
  · exact .inl (b.dp R (okD_plain h))
  · exact .inr (b.dp R (show (PyData.tuple ds).plain = true from okD_plain h))
theorem l_in : LO2 K (rInA K) (gIn false) := fun C σ H F env x y dx dy d Q R a b e k => by
  unfold gIn at e
  split at e
  · rename_i dx' ds
    split at e
    · rename_i h
      cases e
      exact .inl ⟨_, ds, a.dp R.frz (okD_plain h.1), Vw.inD R.frz h.2 (.inl b), h.1, h.2, k _ H F (Stp.refl R) (by simp [At, inB])⟩
    · cases e
  · rename_i dx' ds
    split at e
    · rename_i h
      cases e
      exact .inl ⟨_, ds, a.dp R.frz (okD_plain h.1), Vw.inD R.frz h.2 (.inr b), h.1, h.2, k _ H F (Stp.refl R) (by simp [At, inB])⟩
    · cases e
  · rename_i c z
    split at e
    · rename_i h
      cases e
      rw [a.str, b.str]
      exact .inr ⟨c.cps.getD 0 0, z, congrArg V.str (one_sign h), rfl, k _ H F (Stp.refl R) (by simp [At])⟩
    · cases e
  · cases e
theorem l_nin : LO2 K (rNinA K) (gIn true) := fun C σ H F env x y dx dy d Q R a b e k => by
  unfold gIn at e
  split at e
  · rename_i dx' ds
    split at e
    · rename_i h
      cases e
      exact .inl ⟨_, ds, a.dp R.frz (okD_plain h.1), Vw.inD R.frz h.2 (.inl b), h.1, h.2, k _ H F (Stp.refl R) (by simp [At, inB])⟩
    · cases e
  · rename_i dx' ds
    split at e
    · rename_i h
      cases e
      exact .inl ⟨_, ds, a.dp R.frz (okD_plain h.1), Vw.inD R.frz h.2 (.inr b), h.1, h.2, k _ H F (Stp.refl R) (by simp [At, inB])⟩
    · cases e
  · rename_i c z
    split at e
    · rename_i h
      cases e
      rw [a.str, b.str]
      exact .inr ⟨c.cps.getD 0 0, z, congrArg V.str (one_sign h), rfl, k _ H F (Stp.refl R) (by simp [At])⟩
    · cases e
  · cases e
def gIsN (neg : Bool) : D → D → Option D
  | .none, .none => some (.bool !neg)
  | _, .none => some (.bool neg)
  | _, _ => none
theorem Vw.isN {H F : Hp} {d : D} {x : V} (a : Vw K H F d x) (h : d ≠ .none) : decide (x = V.non) = false := by
  refine decide_eq_false fun e => ?_
  subst e
  cases d with
  | none => exact h rfl
  | bool b => simp [Vw, At] at a
  | int b => simp [Vw, At] at a
  | str b => simp [Vw, At] at a
  | list b => obtain ⟨_, _, e, _⟩ := a; cases e
  | tuple b => simp [Vw, At] at a
  | dict b => simp [Vw, At] at a
theorem l_isN : LO2 K (fun x y H Q => y = V.non ∧ Q (.bl (decide (x = .non))) H) (gIsN false) := fun C σ H F env x y dx dy d Q R a b e k => by
  unfold gIsN at e
  split at e
  · cases e
    rw [a.non]
    exact ⟨b.non, k _ H F (Stp.refl R) (by simp [At])⟩
  · rename_i hn
    cases e
    rw [a.isN (fun z => hn z)]
    exact ⟨b.non, k _ H F (Stp.refl R) (by simp [At])⟩
  · cases e
def ltS (a b : Str) : Bool := decide (a.cps.toList < b.cps.toList)
def gLt : D → D → Option D
  | .int a, .int b => some (.bool (decide (a < b)))
  | .str a, .str b => some (.bool (ltS a b))
  | _, _ => none
abbrev rLtA : R2 := fun x y H Q => rI0 (fun i j => .bl (decide (i < j))) x y H Q ∨ (fun x y H Q => ∃ i j, x = .str i ∧ y = .str j ∧ Q (.bl (decide (i.cps.toList < j.cps.toList))) H) x y H Q
theorem op_ltA : OpR X (compareOp .Lt) rLtA := op_lt.or op_lt_str
theorem l_lt : LO2 K rLtA gLt := fun C σ H F env x y dx dy d Q R a b e k => by
  unfold gLt at e
  split at e
  · cases e
    rw [a.int, b.int]
    exact .inl ⟨_, _, rfl, rfl, k _ H F (Stp.refl R) (by simp [At])⟩
  · cases e
    rw [a.str, b.str]
    exact .inr ⟨_, _, rfl, rfl, k _ H F (Stp.refl R) (by simp [At, ltS])⟩
  · cases e
def gIx : D → D → Option D
  | .list ds, .int i => atI ds i
  | .tuple ds, .int i => atI ds i
  | .str z, .int i => if z.length ≤ sizeLine then (atI z.cps.toList i).map fun c => .str ⟨#[c]⟩ else none
  | _, _ => none
theorem atI_all {F : Hp} {ds : List D} {xs : List V} {i : Int} {d : D} (h : AtAll K F ds xs) (e : atI ds i = some d) : ∃ x, atI xs i = some x ∧ At K F d x := by
  unfold atI at e ⊢
  rw [h.len]
  cases q : ixN ds.length i with
  | none => rw [q] at e; cases e
  | some j =>
    rw [q] at e
    exact h.get e
theorem l_ix : LO2 K (rIx K) gIx := fun C σ H F env x y dx dy d Q R a b e k => by
  unfold gIx at e
  split at e
  · obtain ⟨p, xs, rfl, e1, a1⟩ := a
    obtain ⟨v, e2, a2⟩ := atI_all a1 e
    rw [b.int]
    exact .inl ⟨p, xs, _, v, rfl, rfl, SqL.of e1, e2, k _ H F (Stp.refl R) a2⟩
  · obtain ⟨p, xs, rfl, e1, a1⟩ := a.tup R.frz
    obtain ⟨v, e2, a2⟩ := atI_all a1 e
    rw [b.int]
    exact .inr (.inl ⟨p, xs, _, v, rfl, rfl, e1, e2, k _ H F (Stp.refl R) a2⟩)
  · split at e
    · rename_i z i hz
      cases q : atI z.cps.toList i with
      | none => rw [q] at e; cases e
      | some c =>
        rw [q] at e
        cases e
        rw [a.str, b.int]
        exact .inr (.inr ⟨z, i, c, rfl, rfl, hz, q, k _ H F (Stp.refl R) (by simp [At])⟩)
    · cases e
  · cases e
theorem q_ix {a b : Expr} {A B : PE'} {pos : Pos} (ha : EV X a A) (hb : EV X b B) (hs : PlainIx b := by intro _ _; rfl) : EV X (.Subscript a b pos) (qOp gIx A B) := by
  obtain ⟨ta, h1, l1⟩ := ha.ex
  obtain ⟨tb, h2, l2⟩ := hb.ex
  exact ⟨_, pe_ix ix_seq h1 h2 hs, LE.op l_ix l1 l2⟩
end
end Sw

set_option Elab.async false
set_option linter.all false
set_option maxRecDepth 100000
namespace Sw
open PySem PySem.Spec L2

abbrev PO' := List SV → (Option Int → List SV → Prop) → Prop
def LO (K : FgX) (t : TO) (T : PO') : Prop := ∀ (C : Ec) (σ : L2.St) (H F : Hp) (env : List SV) (Q : Option Int → Hp → Prop) (Qp : Option Int → List SV → Prop), Rel K C σ H F env →
  (∀ o H' F' env', Stp K C σ H F env H' F' env' → Qp o env' → Q o H') → T env Qp → t σ H Q
structure EO (X : Cz) (e : Option Expr) (T : PO') : Prop where
  ex : ∃ t, PO X e t ∧ LO X.fr t T
section
variable {X : Cz} {K : FgX}
def qPn : PO' := fun env Q => Q none env
def qPs (A : PE') : PO' := fun env Q => A env fun o env1 => ∃ i, o.rd env1 = some (.int i) ∧ Q (some i) env1
theorem o_none : EO X none qPn := ⟨_, po_none, fun C σ H F env Q Qp R k q => k none H F env (Stp.refl R) q⟩
theorem o_some {e : Expr} {A : PE'} (h : EV X e A) : EO X (some e) (qPs A) := by
  obtain ⟨t, h1, l1⟩ := h.ex
  refine ⟨_, po_some h1, fun C σ H F env Q Qp R k q => ?_⟩
  refine l1 C σ H F env _ _ R (fun v H1 F1 env1 o s1 a1 q1 => ?_) q
  obtain ⟨i, e, q1⟩ := q1
  exact ⟨i, (rd_vw s1.rel a1 e).int, k (some i) H1 F1 env1 s1 q1⟩
def gSl : D → Option Int → Option Int → Option D
  | .list ds, lo, hi => some (.list (cutD ds lo hi))
  | .tuple ds, lo, hi => some (.tuple (cutD ds lo hi))
  | .str z, lo, hi => if z.length ≤ sizeLine then some (.str (cutS z lo hi)) else none
  | _, _, _ => none
theorem cut_whole {xs : List D} {lo hi : Option Int} (h : HT.sIx xs.length 0 lo = 0 ∧ HT.sIx xs.length xs.length hi = xs.length) : cutD xs lo hi = xs := by
  unfold cutD
  rw [h.1, h.2]
  simp
def qSl (A : PE') (L U : PO') : PE' := fun env Q => A env fun o env1 => L env1 fun l env2 => U env2 fun u env3 => ∃ d, o.rd env3 = some d ∧ ∃ d', gSl d l u = some d' ∧ Q (.dv d') env3
theorem q_sl {e : Expr} {lo hi : Option Expr} {A : PE'} {L U : PO'} {p2 pos : Pos} (he : EV X e A) (hl : EO X lo L) (hu : EO X hi U) : EV X (.Subscript e (.Slice lo hi none p2) pos) (qSl A L U) := by
  obtain ⟨t, h1, l1⟩ := he.ex
  obtain ⟨tl, h2, l2⟩ := hl.ex
  obtain ⟨tu, h3, l3⟩ := hu.ex
  refine ⟨_, pe_slice (sl_list.or (sl_tupA.or sl_str)) h1 h2 h3, fun C σ H F env Q Qp R k q => ?_⟩
  refine l1 C σ H F env _ _ R (fun v H1 F1 env1 o s1 a1 q1 => ?_) q
  refine l2 C σ H1 F1 env1 _ _ s1.rel (fun l H2 F2 env2 s2 q2 => ?_) q1
  refine l3 C σ H2 F2 env2 _ _ s2.rel (fun u H3 F3 env3 s3 q3 => ?_) q2
  obtain ⟨d, e, d', e', q3⟩ := q3
  have w := rd_vw s3.rel (a1.mono (s2.ff.trans' s3.ff)) e
  have s := (s1.trans s2).trans s3
  unfold gSl at e'
  split at e'
  · cases e'
    obtain ⟨p, xs, rfl, e1, a2⟩ := w
    refine .inl ⟨p, xs, rfl, SqL.of e1, fun r hr => ?_⟩
    have s4 := s3.rel.alloc (o := .lst (cutV xs l u)) hr
    exact k _ _ _ _ (.dv _) (s.trans s4) (OvOk.of (At.list_of upd_same (AtAll.mono s4.ff _ _ a2.cut))) q3
  · cases e'
    have w' := w
    obtain ⟨p, xs, rfl, e1, a2⟩ := w.tup s3.rel.frz
    refine .inr (.inl ⟨p, xs, rfl, e1, fun h => ?_, fun h r hr => ?_⟩)
    · rw [a2.len] at h
      rw [cut_whole h] at q3
      exact k _ _ _ _ (.dv _) s w' q3
    · have s4 := s3.rel.alloc (o := .tup (cutV xs l u)) hr
      exact k _ _ _ _ (.dv _) (s.trans s4) (OvOk.of (At.tup_of upd_same (AtAll.mono s4.ff _ _ a2.cut))) q3
  · split at e'
    · cases e'
      rw [w.str]
      exact .inr (.inr ⟨_, rfl, ‹_›, k _ _ _ _ (.dv _) s (by simp [OvOk, At]) q3⟩)
    · cases e'
  · cases e'
theorem rdAll_vw {C : Ec} {σ : L2.St} {H F : Hp} {env : List SV} (R : Rel K C σ H F env) : ∀ {os : List OV} {vs : List V} {ds : List D}, OvsOk K σ F os vs → rdAll env os = some ds → VwAll K H F ds vs
  | [], vs, ds, a, e => by
    have a : vs = [] := a
    simp only [rdAll, Option.some.injEq] at e
    subst e
    exact a
  | o :: os, vs, ds, a, e => by
    obtain ⟨v, r, rfl, b, c⟩ := a
    simp only [rdAll] at e
    cases q : o.rd env with
    | none => rw [q] at e; cases e
    | some d =>
      rw [q] at e
      cases q2 : rdAll env os with
      | none => rw [q2] at e; cases e
      | some ds2 =>
        rw [q2] at e
        cases e
        exact ⟨v, r, rfl, rd_vw R b q, rdAll_vw R c q2⟩
def LC (K : FgX) (r : List V → Hp → VK → Prop) (g : List D → Option D) : Prop := ∀ (C : Ec) (σ : L2.St) (H F : Hp) (env : List SV) (xs : List V) (ds : List D) (d : D) (Q : VK), Rel K C σ H F env → VwAll K H F ds xs → g ds = some d →
  (∀ v H' F', Stp K C σ H F env H' F' env → At K F' d v → Q v H') → r xs H Q
def LCF (K : FgX) (r : List V → Hp → VK → Prop) (g : List D → Option (List D)) : Prop := ∀ (C : Ec) (σ : L2.St) (H F : Hp) (env : List SV) (xs : List V) (ds es : List D) (Q : VK), Rel K C σ H F env → VwAll K H F ds xs → g ds = some es →
  (∀ p ys F', (Stp K C σ H F env (upd H p (.lst ys)) F' env) → F' p = none → C.H0 p = none → ¬ Own σ env p → H p = none → AtAll K F' es ys → Q (.ref p) (upd H p (.lst ys))) → r xs H Q
def qCB (g : List D → Option D) (T : PA') : PE' := fun env Q => T env fun os env1 => ∃ ds, rdAll env1 os = some ds ∧ ∃ d, g ds = some d ∧ Q (.dv d) env1
def fCB (g : List D → Option (List D)) (T : PA') : PF' := fun env Q => T env fun os env1 => ∃ ds, rdAll env1 os = some ds ∧ ∃ es, g ds = some es ∧ Q es env1
theorem LE.cb {r : List V → Hp → VK → Prop} {g : List D → Option D} {t : TA} {T : PA'} (hl : LC K r g) (l1 : LA K t T) : LE K (tCB r t) (qCB g T) := fun C σ H F env Q Qp R k q => by
  refine l1 C σ H F env _ _ R (fun vs H1 F1 env1 os s1 a1 q1 => ?_) q
  obtain ⟨ds, e, d, e', q1⟩ := q1
  exact hl C σ H1 F1 env1 vs ds d Q s1.rel (rdAll_vw s1.rel a1 e) e' fun v H' F' s2 a2 => k v H' F' env1 (.dv d) (s1.trans s2) a2 q1
theorem LF.cb {r : List V → Hp → VK → Prop} {g : List D → Option (List D)} {t : TA} {T : PA'} (hl : LCF K r g) (l1 : LA K t T) : LF K (tCB r t) (fCB g T) := fun C σ H F env Q Qp R k q => by
  refine l1 C σ H F env _ _ R (fun vs H1 F1 env1 os s1 a1 q1 => ?_) q
  obtain ⟨ds, e, es, e', q1⟩ := q1
  exact hl C σ H1 F1 env1 vs ds es Q s1.rel (rdAll_vw s1.rel a1 e) e' fun p ys F' s2 f2 h2 n2 z2 a2 => k p ys es _ F' env1 (s1.trans s2) upd_same f2 h2 n2 (s1.dm p z2) a2 q1
theorem q_callB {id : String} {r : List V → Hp → VK → Prop} {g : List D → Option D} {x : Str} {e : Expr} {es : List Expr} {T : PA'} {p pos : Pos} (hl : LC X.fr r g) (hc : CallR X (.builtin id) r) (hg : Gl X x) (hm : X.mg x = none) (hv : bootBuiltins x = some (.builtin id)) (ha : EA X (e :: es) T) (hn : x ≠ "__name__" := by decide) (hdb : (x == ("__debug__" : Str)) = false := by decide)
    (he : starEach (e :: es) X.env = (false, eval e X.env) :: starEach es X.env := by rfl) (hpl : (backTo pos (starEach es X.env)).any (·.1) = false := by rfl) : EV X (.Call (.Name x p) (e :: es) [] pos) (qCB g T) := by
  obtain ⟨t, h1, l1⟩ := ha.ex
  exact ⟨_, pe_callB hc hg hm hv h1 hn hdb he hpl, LE.cb hl l1⟩
theorem q_callTy {id : String} {r : List V → Hp → VK → Prop} {g : List D → Option D} {x : Str} {e : Expr} {es : List Expr} {T : PA'} {p pos : Pos} (hl : LC X.fr r g) (hc : CallR X (.type id) r) (hg : Gl X x) (hm : X.mg x = none) (hv : bootBuiltins x = some (.type id)) (ha : EA X (e :: es) T) (hn : x ≠ "__name__" := by decide) (hdb : (x == ("__debug__" : Str)) = false := by decide)
    (he : starEach (e :: es) X.env = (false, eval e X.env) :: starEach es X.env := by rfl) (hpl : (backTo pos (starEach es X.env)).any (·.1) = false := by rfl) : EV X (.Call (.Name x p) (e :: es) [] pos) (qCB g T) := by
  obtain ⟨t, h1, l1⟩ := ha.ex
  exact ⟨_, pe_callTy hc hg hm hv h1 hn hdb he hpl, LE.cb hl l1⟩
theorem f_callTy {id : String} {r : List V → Hp → VK → Prop} {g : List D → Option (List D)} {x : Str} {e : Expr} {es : List Expr} {T : PA'} {p pos : Pos} (hl : LCF X.fr r g) (hc : CallR X (.type id) r) (hg : Gl X x) (hm : X.mg x = none) (hv : bootBuiltins x = some (.type id)) (ha : EA X (e :: es) T) (hn : x ≠ "__name__" := by decide) (hdb : (x == ("__debug__" : Str)) = false := by decide)
    (he : starEach (e :: es) X.env = (false, eval e X.env) :: starEach es X.env := by rfl) (hpl : (backTo pos (starEach es X.env)).any (·.1) = false := by rfl) : EF X (.Call (.Name x p) (e :: es) [] pos) (fCB g T) := by
  obtain ⟨t, h1, l1⟩ := ha.ex
  exact ⟨_, pe_callTy hc hg hm hv h1 hn hdb he hpl, LF.cb hl l1⟩
theorem f_callB {id : String} {r : List V → Hp → VK → Prop} {g : List D → Option (List D)} {x : Str} {e : Expr} {es : List Expr} {T : PA'} {p pos : Pos} (hl : LCF X.fr r g) (hc : CallR X (.builtin id) r) (hg : Gl X x) (hm : X.mg x = none) (hv : bootBuiltins x = some (.builtin id)) (ha : EA X (e :: es) T) (hn : x ≠ "__name__" := by decide) (hdb : (x == ("__debug__" : Str)) = false := by decide)
    (he : starEach (e :: es) X.env = (false, eval e X.env) :: starEach es X.env := by rfl) (hpl : (backTo pos (starEach es X.env)).any (·.1) = false := by rfl) : EF X (.Call (.Name x p) (e :: es) [] pos) (fCB g T) := by
  obtain ⟨t, h1, l1⟩ := ha.ex
  exact ⟨_, pe_callB hc hg hm hv h1 hn hdb he hpl, LF.cb hl l1⟩
def gLen : List D → Option D
  | [.list ds] => some (.int ds.length)
  | [.tuple ds] => some (.int ds.length)
  | [.str z] => if z.length ≤ sizeLine then some (.int z.length) else none
  | _ => none
theorem l_len : LC K (fun xs H Q => ∃ x n, xs = [x] ∧ LenV K x H n ∧ Q (.int n) H) gLen := fun C σ H F env xs ds d Q R a e k => by
  unfold gLen at e
  split at e
  · cases e
    obtain ⟨x, rfl, w⟩ := a.one
    obtain ⟨p, ys, rfl, e1, a2⟩ := w
    exact ⟨_, _, rfl, .inl ⟨ys, SqL.of e1, rfl⟩, by rw [a2.len]; exact k _ H F (Stp.refl R) (by simp [At])⟩
  · cases e
    obtain ⟨x, rfl, w⟩ := a.one
    obtain ⟨p, ys, rfl, e1, a2⟩ := w.tup R.frz
    exact ⟨_, _, rfl, .inr ⟨ys, e1, rfl⟩, by rw [a2.len]; exact k _ H F (Stp.refl R) (by simp [At])⟩
  · split at e
    · cases e
      obtain ⟨x, rfl, w⟩ := a.one
      rw [w.str]
      exact ⟨_, _, rfl, ⟨‹_›, rfl⟩, k _ H F (Stp.refl R) (by simp [At])⟩
    · cases e
  · cases e
def gListF : List D → Option (List D)
  | [.list ds] => some ds
  | [.tuple ds] => some ds
  | _ => none
theorem l_listF : LCF K (fun xs H Q => ∃ p ys, xs = [V.ref p] ∧ (SqL K H p ys ∨ SqT K H p ys) ∧ ∀ l, H l = none → Q (.ref l) (upd H l (.lst ys))) gListF := fun C σ H F env xs ds es Q R a e k => by
  unfold gListF at e
  split at e
  · cases e
    obtain ⟨x, rfl, w⟩ := a.one
    obtain ⟨p, ys, rfl, e1, a2⟩ := w
    refine ⟨p, ys, rfl, .inl (SqL.of e1), fun l hl => ?_⟩
    obtain ⟨s, f, h, n⟩ := R.alloc0 (o := .lst ys) hl
    exact k l ys F s f h n hl a2
  · cases e
    obtain ⟨x, rfl, w⟩ := a.one
    obtain ⟨p, ys, rfl, e1, a2⟩ := w.tup R.frz
    refine ⟨p, ys, rfl, .inr e1, fun l hl => ?_⟩
    obtain ⟨s, f, h, n⟩ := R.alloc0 (o := .lst ys) hl
    exact k l ys F s f h n hl a2
  · cases e
def gTuple : List D → Option D
  | [.list ds] => some (.tuple ds)
  | [.tuple ds] => some (.tuple ds)
  | _ => none
theorem l_tuple : LC K (fun xs H Q => ∃ p ys, xs = [V.ref p] ∧ ((SqL K H p ys ∧ ∀ l, H l = none → Q (.ref l) (upd H l (.tup ys))) ∨ (SqT K H p ys ∧ Q (.ref p) H))) gTuple := fun C σ H F env xs ds d Q R a e k => by
  unfold gTuple at e
  split at e
  · cases e
    obtain ⟨x, rfl, w⟩ := a.one
    obtain ⟨p, ys, rfl, e1, a2⟩ := w
    refine ⟨p, ys, rfl, .inl ⟨SqL.of e1, fun l hl => ?_⟩⟩
    have s := R.alloc (o := .tup ys) hl
    exact k _ _ _ s (At.tup_of upd_same (AtAll.mono s.ff _ _ a2))
  · cases e
    obtain ⟨x, rfl, w⟩ := a.one
    have w' := w
    obtain ⟨p, ys, rfl, e1, a2⟩ := w.tup R.frz
    exact ⟨p, ys, rfl, .inr ⟨e1, k _ H F (Stp.refl R) w'⟩⟩
  · cases e
def boolsOf : List D → Option (List Bool)
  | [] => some []
  | .bool b :: r => (boolsOf r).map (b :: ·)
  | _ => none
theorem boolsOf_map {bs : List Bool} : boolsOf (bs.map PyData.bool) = some bs := by
  induction bs with
  | nil => rfl
  | cons b bs ih => simp [boolsOf, ih]
theorem AtAll.bools {F : Hp} : ∀ {ds : List D} {bs : List Bool} {xs : List V}, boolsOf ds = some bs → AtAll K F ds xs → xs = bs.map V.bl
  | [], bs, xs, e, a => by
    simp only [boolsOf, Option.some.injEq] at e
    subst e
    simpa [AtAll] using a
  | d :: ds, bs, xs, e, a => by
    cases d with
    | bool b =>
      simp only [boolsOf] at e
      cases q : boolsOf ds with
      | none => rw [q] at e; cases e
      | some cs =>
        rw [q] at e
        cases e
        simp only [AtAll] at a
        obtain ⟨x, r, rfl, a, q2⟩ := a
        simp only [At] at a
        subst a
        rw [AtAll.bools q q2]
        rfl
    | _ => simp [boolsOf] at e
def gAll : List D → Option D
  | [.list ds] => (boolsOf ds).map fun bs => .bool (bs.all id)
  | _ => none
theorem l_all : LC K (rAll K) gAll := fun C σ H F env xs ds d Q R a e k => by
  unfold gAll at e
  split at e
  · rename_i ds'
    cases q : boolsOf ds' with
    | none => rw [q] at e; cases e
    | some bs =>
      rw [q] at e
      cases e
      obtain ⟨x, rfl, w⟩ := a.one
      obtain ⟨p, ys, rfl, e1, a2⟩ := w
      have := a2.bools q
      subst this
      exact ⟨p, bs, rfl, SqL.of e1, k _ H F (Stp.refl R) (by simp [At])⟩
  · cases e
def gAny : List D → Option D
  | [.list ds] => (boolsOf ds).map fun bs => .bool (bs.any id)
  | _ => none
def gInt1 : List D → Option D
  | [.int i] => some (.int i)
  | [.bool b] => some (.int (if b then 1 else 0))
  | _ => none
theorem l_int1 : LC K (fun xs H Q => (∃ i, xs = [V.int i] ∧ Q (.int i) H) ∨ ∃ k, xs = [V.bl k] ∧ Q (.int (if k then 1 else 0)) H) gInt1 := fun C σ H F env xs ds d Q R a e k => by
  unfold gInt1 at e
  split at e
  · cases e
    obtain ⟨x, rfl, w⟩ := a.one
    rw [w.int]
    exact .inl ⟨_, rfl, k _ H F (Stp.refl R) (by simp [At])⟩
  · cases e
    obtain ⟨x, rfl, w⟩ := a.one
    rw [w.bl]
    exact .inr ⟨_, rfl, k _ H F (Stp.refl R) (by simp [At])⟩
  · cases e
def tyN : D → String
  | .none => "NoneType" | .bool _ => "bool" | .int _ => "int" | .str _ => "str" | .list _ => "list" | .tuple _ => "tuple" | .dict _ => "dict"
def isi : Ty → D → Bool
  | .str, .str _ => true
  | .int, .int _ => true
  | .int, .bool _ => true
  | .bool, .bool _ => true
  | .list, .list _ => true
  | .tuple, .tuple _ => true
  | .dict, .dict _ => true
  | _, _ => false
theorem isi_kit (T : Ty) (d : D) : kitB (tyN d) T.name = some (isi T d) := by
  cases T <;> cases d <;> (simp only [tyN, Ty.name, isi]; decide +kernel)
/-- the type of a value; of a dict whose keys are tuples, too -/
def TyA (K : FgK) (H : Hp) (x : V) (t : Value) : Prop := TyX K H x t ∨ ∃ a o zs, x = .ref a ∧ Rd H a o ∧ IsN K a zs o ∧ t = .type "dict"
theorem Vw.ty {H F : Hp} (R : Le F H) {d : D} {x : V} (a : Vw K H F d x) : TyA K H x (.type (tyN d)) := by
  cases d with
  | none => rw [a.non]; exact .inl (.base .non)
  | bool b => rw [a.bl]; exact .inl (.base (.bl b))
  | int b => rw [a.int]; exact .inl (.base (.int b))
  | str b => rw [a.str]; exact .inl (.base (.str b))
  | list ds =>
    obtain ⟨p, xs, rfl, e, _⟩ := a
    exact .inl (.base (.lst e))
  | tuple ds =>
    obtain ⟨p, xs, rfl, e, _⟩ := a.tup0 R
    rcases e with e | (e | ⟨o, e⟩) | ⟨o, its, n, e, c, _⟩
    · exact .inl (.base (.tup e))
    · cases e
    · cases e
    · exact .inl (.kTuple e c)
  | dict kds =>
    obtain ⟨p, o, rfl, e, t, c⟩ := a
    cases t with
    | false =>
      obtain ⟨kvs, rfl, _⟩ := c
      rcases e with e | ⟨od, e⟩
      · exact .inl (.base (.dK e))
      · exact .inl (.fDict e)
    | true =>
      obtain ⟨zs, c, _⟩ := c
      exact .inr ⟨p, o, zs, rfl, e, c, rfl⟩
end
end Sw

set_option Elab.async false
set_option linter.all false
set_option maxRecDepth 100000
namespace Sw
open PySem PySem.Spec L2

section
variable {X : Cz} {K : FgX}
def rIsiA (K : FgK) : List V → Hp → VK → Prop := fun xs H Q => ∃ x c t u b, xs = [x, c] ∧ ClsV c u ∧ TyA K H x t ∧ PySem.W.kitOne K.K t u = some b ∧ Q (.bl b) H
theorem call_isiA : CallR X (.builtin "isinstance") (rIsiA X.fr) := by
  intro pins s σ H xs us Q I r h
  obtain ⟨x, c, t, u, b, rfl, k, ty, e, q⟩ := h
  rcases ty with ty | ⟨a, o, zs, rfl, ha, hn, rfl⟩
  · exact call_isi pins s σ H _ us Q I r ⟨x, c, t, u, b, rfl, k, ty, e, q⟩
  · obtain ⟨u1, u2, rfl, r1, r2⟩ := vals2 r
    have e2 := k.eq r2
    subst e2
    cases (show u1 = Value.ref a from r1)
    obtain ⟨_, _, _, us', _, ob, es, ep, h1, h2, _⟩ := hn.obj (ha.ok I.hok)
    exact PySem.W.kia_one PySem.W.kitx_dict I.kIn ⟨ob, h1, h2.1⟩ e (fun z => nomatch z) fun tk => ⟨.bl b, H, I.tok tk, rfl, q⟩
def qIsi (T : Ty) (A : PE') : PE' := fun env Q => A env fun o env1 => ∃ d, o.rd env1 = some d ∧ Q (.dv (.bool (isi T d))) env1
theorem q_isi (T : Ty) {e : Expr} {A : PE'} {y : Str} {p p2 pos : Pos} (h : EV X e A) (hg : Gl X "isinstance") (hm : X.mg "isinstance" = none) (hg2 : Gl X y) (hm2 : X.mg y = none) (hv : bootBuiltins y = some (.type T.name)) (hn : y ≠ "__name__" := by decide) (hdb : (y == ("__debug__" : Str)) = false := by decide)
    (hs : starEach [e, .Name y p2] X.env = (false, eval e X.env) :: starEach [.Name y p2] X.env := by rfl) (hs2 : starEach [.Name y p2] X.env = (false, eval (.Name y p2) X.env) :: starEach [] X.env := by rfl) (hpl : (backTo pos (starEach [.Name y p2] X.env)).any (·.1) = false := by rfl) :
    EV X (.Call (.Name "isinstance" p) [e, .Name y p2] [] pos) (qIsi T A) := by
  obtain ⟨t, h1, l1⟩ := h.ex
  refine ⟨_, pe_callB call_isiA hg hm (by decide +kernel) (pa_cons h1 (pa_cons (pe_bltn (v := .ty T.name) hg2 hm2 hv rfl hn hdb) pa_nil hs2) hs) (by decide) (by decide) hs hpl, fun C σ H F env Q Qp R k q => ?_⟩
  refine l1 C σ H F env _ _ R (fun v H1 F1 env1 o s1 a1 q1 => ?_) q
  obtain ⟨d, e, q1⟩ := q1
  have w := rd_vw s1.rel a1 e
  exact ⟨v, .ty T.name, .type (tyN d), .type T.name, isi T d, rfl, .ty _, w.ty s1.rel.frz, kit_ty (isi_kit T d), k (.bl (isi T d)) H1 F1 env1 (.dv (.bool (isi T d))) s1 (by simp [OvOk, At]) q1⟩
def strsOf : List D → Option (List Str)
  | [] => some []
  | .str b :: r => (strsOf r).map (b :: ·)
  | _ => none
theorem strsOf_map {bs : List Str} : strsOf (bs.map PyData.str) = some bs := by
  induction bs with
  | nil => rfl
  | cons b bs ih => simp [strsOf, ih]
theorem AtAll.strs {F : Hp} : ∀ {ds : List D} {bs : List Str} {xs : List V}, strsOf ds = some bs → AtAll K F ds xs → xs = bs.map V.str
  | [], bs, xs, e, a => by
    simp only [strsOf, Option.some.injEq] at e
    subst e
    simpa [AtAll] using a
  | d :: ds, bs, xs, e, a => by
    cases d with
    | str b =>
      simp only [strsOf] at e
      cases q : strsOf ds with
      | none => rw [q] at e; cases e
      | some cs =>
        rw [q] at e
        cases e
        simp only [AtAll] at a
        obtain ⟨x, r, rfl, a, q2⟩ := a
        simp only [At] at a
        subst a
        rw [AtAll.strs q q2]
        rfl
    | _ => simp [strsOf] at e
def gJoin (z : Str) (ds : List D) : Option D := (strsOf ds).bind fun ys => if (ys.map (·.length)).sum + ys.length * z.length ≤ 16777216 then some (.str (Txt.join z ys)) else none
def seqOf : D → Option (List D)
  | .list ds => some ds
  | .tuple ds => some ds
  | _ => none
def qJoin (A B : PE') : PE' := fun env Q => A env fun o env1 => ∃ z, o = .dv (.str z) ∧ B env1 fun o2 env2 => ∃ d, o2.rd env2 = some d ∧ ∃ ds, seqOf d = some ds ∧ ∃ d', gJoin z ds = some d' ∧ Q (.dv d') env2
theorem q_join {a e : Expr} {A B : PE'} {apos pos : Pos} (ha : EV X a A) (hb : EV X e B) (hs : starEach [e] X.env = [(false, eval e X.env)] := by rfl) (hbase : attributeBase a "join" X.env (eval a X.env) = eval a X.env := by rfl) (hline : (apos.endLine == pos.line) = true := by rfl) :
    EV X (.Call (.Attribute a "join" apos) [e] [] pos) (qJoin A B) := by
  obtain ⟨t, h1, l1⟩ := ha.ex
  obtain ⟨u, h2, l2⟩ := hb.ex
  refine ⟨_, pe_join h1 h2 hs hbase hline, fun C σ H F env Q Qp R k q => ?_⟩
  refine l1 C σ H F env _ _ R (fun v H1 F1 env1 o s1 a1 q1 => ?_) q
  obtain ⟨z, rfl, q1⟩ := q1
  have a1 : v = .str z := by simpa [OvOk, At] using a1
  subst a1
  refine ⟨⟨z, rfl⟩, ?_⟩
  refine l2 C σ H1 F1 env1 _ _ s1.rel (fun v2 H2 F2 env2 o2 s2 a2 q2 => ?_) q1
  obtain ⟨d, e, ds, e2, d', e3, q2⟩ := q2
  have w := rd_vw s2.rel a2 e
  unfold gJoin at e3
  cases q : strsOf ds with
  | none => rw [q] at e3; cases e3
  | some ys =>
    rw [q] at e3
    simp only [Option.bind_some] at e3
    split at e3
    · cases e3
      unfold seqOf at e2
      split at e2
      · cases e2
        obtain ⟨p, xs, rfl, f1, f2⟩ := w
        have := f2.strs q
        subst this
        exact ⟨z, p, ys, rfl, rfl, .inl (SqL.of f1), ‹_›, k _ H2 F2 env2 (.dv _) (s1.trans s2) (by simp [OvOk, At]) q2⟩
      · cases e2
        obtain ⟨p, xs, rfl, f1, f2⟩ := w.tup s2.rel.frz
        have := f2.strs q
        subst this
        exact ⟨z, p, ys, rfl, rfl, .inr f1, ‹_›, k _ H2 F2 env2 (.dv _) (s1.trans s2) (by simp [OvOk, At]) q2⟩
      · cases e2
    · cases e3

section
variable {C : Ec} {σ : L2.St} {H F : Hp} {env : List SV}
theorem set_oth {i j : Nat} {l : Bool} {es : Ct} {d : D} (h : (env.set i (.dat d))[j]? = some (SV.obj l es)) : j ≠ i ∧ env[j]? = some (SV.obj l es) := by
  by_cases e : j = i
  · subst e
    by_cases hi : j < env.length
    · rw [List.getElem?_set_self hi] at h; cases h
    · rw [List.getElem?_eq_none (by rw [List.length_set]; omega)] at h; cases h
  · rw [List.getElem?_set_ne (Ne.symm e)] at h; exact ⟨e, h⟩
theorem Rel.assign (R : Rel K C σ H F env) {i : Nat} {d : D} {v : V} (hi : i < σ.length) (a : At K F d v) : Rel K C (σ.set i (some v)) H F (env.set i (.dat d)) := by
  refine ⟨⟨R.frz, R.mono, R.new, R.frame, R.la, by rw [List.length_set, List.length_set]; exact R.len, fun j sv e => ?_, fun j k l ds m es h1 h2 h3 => ?_⟩, R.xok⟩
  · by_cases e' : j = i
    · subst e'
      rw [List.getElem?_set_self (by rw [R.len]; exact hi)] at e
      cases e
      exact ⟨v, List.getElem?_set_self hi, a⟩
    · rw [List.getElem?_set_ne (Ne.symm e')] at e ⊢
      exact R.slot j sv e
  · obtain ⟨n1, h1⟩ := set_oth h1
    obtain ⟨n2, h2⟩ := set_oth h2
    rw [List.getElem?_set_ne (Ne.symm n1), List.getElem?_set_ne (Ne.symm n2)] at h3
    exact R.dist j k l ds m es h1 h2 h3
theorem Rel.assignO (R : Rel K C σ H F env) {i : Nat} {ds : Ct} {p : Addr} {xs : HO} (hi : i < σ.length) (hp : H p = some xs) (fp : F p = none) (h0 : C.H0 p = none) (no : ¬ Own σ env p) (a : CtOk K F p xs ds) :
    Rel K C (σ.set i (some (.ref p))) H F (env.set i (.obj false ds)) := by
  have hi' : i < env.length := by rw [R.len]; exact hi
  refine ⟨⟨R.frz, R.mono, R.new, R.frame, R.la, by rw [List.length_set, List.length_set]; exact R.len, fun j sv e => ?_, fun j k l es m fs h1 h2 h3 => ?_⟩, R.xok⟩
  · by_cases e' : j = i
    · subst e'
      rw [List.getElem?_set_self hi'] at e
      cases e
      exact ⟨p, xs, List.getElem?_set_self hi, hp, fp, by rw [if_neg (by decide)]; exact h0, a⟩
    · rw [List.getElem?_set_ne (Ne.symm e')] at e ⊢
      exact R.slot j sv e
  · by_cases e1 : j = i
    · by_cases e2 : k = i
      · rw [e1, e2]
      · subst e1
        rw [List.getElem?_set_self hi, List.getElem?_set_ne (Ne.symm e2)] at h3
        rw [List.getElem?_set_ne (Ne.symm e2)] at h2
        exact absurd ⟨k, m, fs, h2, h3.symm⟩ no
    · by_cases e2 : k = i
      · subst e2
        rw [List.getElem?_set_self hi, List.getElem?_set_ne (Ne.symm e1)] at h3
        rw [List.getElem?_set_ne (Ne.symm e1)] at h1
        exact absurd ⟨j, l, es, h1, h3⟩ no
      · rw [List.getElem?_set_ne (Ne.symm e1), List.getElem?_set_ne (Ne.symm e2)] at h3
        rw [List.getElem?_set_ne (Ne.symm e1)] at h1
        rw [List.getElem?_set_ne (Ne.symm e2)] at h2
        exact R.dist j k l es m fs h1 h2 h3
theorem Rel.assignF (R : Rel K C σ H F env) {i : Nat} {ds : List D} {p : Addr} {xs : List V} (hi : i < σ.length) (hp : H p = some (.lst xs)) (fp : F p = none) (h0 : C.H0 p = none) (no : ¬ Own σ env p) (a : AtAll K F ds xs) :
    Rel K C (σ.set i (some (.ref p))) H F (env.set i (.own false ds)) := R.assignO hi hp fp h0 no ⟨xs, rfl, a⟩
end

def sNil : PS' := fun Dp env => Dp.nx env
def sSeq (A B : PS') : PS' := fun Dp env => A { Dp with nx := B Dp } env
theorem s_nil : EB X [] sNil := ⟨_, pss_nil, fun C σ H F env D Dp R k q => k.nx σ H F env R Le.rfl' q⟩
theorem s_cons {st : Stmt} {rest : List Stmt} {A B : PS'} (h : ES X st A) (g : EB X rest B) : EB X (st :: rest) (sSeq A B) := by
  obtain ⟨t, h1, l1⟩ := h.ex
  obtain ⟨u, h2, l2⟩ := g.ex
  refine ⟨_, pss_cons h1 h2, fun C σ H F env D Dp R k q => ?_⟩
  exact l1 C σ H F env { D with nx := u D } { Dp with nx := B Dp } R ⟨fun σ' H' F' env' R' l q' => l2 C σ' H' F' env' D Dp R' (k.mono l) q', k.rt, k.bk, k.ct⟩ q
theorem s_one {st : Stmt} {A : PS'} (h : ES X st A) : EB X [st] A := by
  obtain ⟨t, h1, l1⟩ := h.ex
  exact ⟨_, pss_one h1, l1⟩
def sPass : PS' := fun Dp env => Dp.nx env
def sBreak : PS' := fun Dp env => Dp.bk env
def sCont : PS' := fun Dp env => Dp.ct env
def sIf (c : PT') (A B : PS') : PS' := fun Dp env => c env fun b env1 => if b = true then A Dp env1 else B Dp env1
theorem s_if {c : Expr} {a b : List Stmt} {pos : Pos} {T : PT'} {A B : PS'} (hc : ET X c T) (ha : EB X a A) (hb : EB X b B) : ES X (.If c a b pos) (sIf T A B) := by
  obtain ⟨t, h1, l1⟩ := hc.ex
  obtain ⟨u, h2, l2⟩ := ha.ex
  obtain ⟨w, h3, l3⟩ := hb.ex
  refine ⟨_, ps_if h1 h2 h3, fun C σ H F env D Dp R k q => ?_⟩
  refine l1 C σ H F env _ _ R (fun b H1 F1 env1 s1 q1 => ?_) q
  cases b with
  | true => exact l2 C σ H1 F1 env1 D Dp s1.rel (k.mono s1.ff) q1
  | false => exact l3 C σ H1 F1 env1 D Dp s1.rel (k.mono s1.ff) q1
def sRet (A : PE') : PS' := fun Dp env => A env fun o env1 => ∃ d env2, o.fz env1 = some (d, env2) ∧ Dp.rt (.dt d) env2
theorem s_ret {e : Expr} {A : PE'} {pos : Pos} (h : EV X e A) : ES X (.Return (some e) pos) (sRet A) := by
  obtain ⟨t, h1, l1⟩ := h.ex
  refine ⟨_, ps_ret h1, fun C σ H F env D Dp R k q => ?_⟩
  refine l1 C σ H F env _ _ R (fun v H1 F1 env1 o s1 a1 q1 => ?_) q
  obtain ⟨d, env2, e, q1⟩ := q1
  obtain ⟨F2, s2, a2⟩ := fz_ok s1.rel a1 e
  exact k.rt σ H1 F2 env2 (.dt d) v s2.rel (s1.ff.trans' s2.ff) a2 q1
/-- a list that nobody holds is handed back -/
def sRetF (T : PF') : PS' := fun Dp env => T env fun ds env1 => Dp.rt (.fr ds) env1
theorem s_retF {e : Expr} {T : PF'} {pos : Pos} (h : EF X e T) : ES X (.Return (some e) pos) (sRetF T) := by
  obtain ⟨t, h1, l1⟩ := h.ex
  refine ⟨_, ps_ret h1, fun C σ H F env D Dp R k q => ?_⟩
  refine l1 C σ H F env _ _ R (fun p xs ds H1 F1 env1 s1 hp fp h0 no hn a q1 => ?_) q
  exact k.rt σ H1 F1 env1 (.fr ds) (.ref p) s1.rel s1.ff ⟨p, xs, rfl, hp, fp, h0, a⟩ q1
def sRetS (i : Nat) : PS' := fun Dp env => ∃ ds, env[i]? = some (.own false ds) ∧ Dp.rt (.fr ds) env
theorem s_retS (i : Nat) {x : Str} {p pos : Pos} (hN : X.N[i]? = some x := by rfl) (hv : Vis X.env.scope x := by first | exact Or.inl rfl | exact Or.inr (Or.inl rfl) | exact Or.inr (Or.inr rfl)) (hd : (x == ("__debug__" : Str)) = false := by decide)
    (hcd : (x == ("__classdict__" : Str)) = false := by decide) : ES X (.Return (some (.Name x p)) pos) (sRetS i) := by
  refine ⟨_, ps_ret (pe_var hN hv hd hcd), fun C σ H F env D Dp R k q => ?_⟩
  obtain ⟨ds, e, q⟩ := q
  obtain ⟨p, u, e1, e2, e3, e4, xs, rfl, e5⟩ := R.slot i _ e
  exact ⟨.ref p, e1, k.rt σ H F env (.fr ds) (.ref p) R Le.rfl' ⟨p, xs, rfl, e2, e3, by simpa using e4, e5⟩ q⟩
def sDrop (A : PE') : PS' := fun Dp env => A env fun _ env1 => Dp.nx env1
theorem s_expr {e : Expr} {A : PE'} {pos : Pos} (h : EV X e A) (hs : swapsWith e none pos.line X.env = pure false := by rfl) : ES X (.Expr e pos) (sDrop A) := by
  obtain ⟨t, h1, l1⟩ := h.ex
  refine ⟨_, ps_expr h1 hs, fun C σ H F env D Dp R k q => ?_⟩
  refine l1 C σ H F env _ _ R (fun v H1 F1 env1 o s1 a1 q1 => ?_) q
  exact k.nx σ H1 F1 env1 s1.rel s1.ff q1
def sAsg (i : Nat) (A : PE') : PS' := fun Dp env => A env fun o env1 => ∃ d env2, o.fz env1 = some (d, env2) ∧ i < env2.length ∧ Dp.nx (env2.set i (.dat d))
theorem s_set {i : Nat} {x : Str} {e : Expr} {A : PE'} {pos pos' : Pos} (hN : X.N.Nodup) (hi : X.N[i]? = some x) (hx : Loc X.env.scope x) (h : EV X e A) (hs : swapsWith e (some (.Name x pos')) pos.line X.env = pure false := by rfl) (hf : X.fn x = true ∨ X.env.scope.names.lookup x = some .local := by first | exact .inl rfl | exact .inr rfl | assumption) :
    ES X (.Assign [.Name x pos'] e pos) (sAsg i A) := by
  obtain ⟨t, h1, l1⟩ := h.ex
  refine ⟨_, ps_set hN hi hx h1 hs hf, fun C σ H F env D Dp R k q => ?_⟩
  refine l1 C σ H F env _ _ R (fun v H1 F1 env1 o s1 a1 q1 => ?_) q
  obtain ⟨d, env2, e, hl, q1⟩ := q1
  obtain ⟨F2, s2, a2⟩ := fz_ok s1.rel a1 e
  exact k.nx _ H1 F2 _ (s2.rel.assign (by rw [← s2.rel.len]; exact hl) a2) (s1.ff.trans' s2.ff) q1
def sAsgF (i : Nat) (T : PF') : PS' := fun Dp env => T env fun ds env1 => i < env1.length ∧ Dp.nx (env1.set i (.own false ds))
theorem s_setF {i : Nat} {x : Str} {e : Expr} {T : PF'} {pos pos' : Pos} (hN : X.N.Nodup) (hi : X.N[i]? = some x) (hx : Loc X.env.scope x) (h : EF X e T) (hs : swapsWith e (some (.Name x pos')) pos.line X.env = pure false := by rfl) (hf : X.fn x = true ∨ X.env.scope.names.lookup x = some .local := by first | exact .inl rfl | exact .inr rfl | assumption) :
    ES X (.Assign [.Name x pos'] e pos) (sAsgF i T) := by
  obtain ⟨t, h1, l1⟩ := h.ex
  refine ⟨_, ps_set hN hi hx h1 hs hf, fun C σ H F env D Dp R k q => ?_⟩
  refine l1 C σ H F env _ _ R (fun p xs ds H1 F1 env1 s1 hp fp h0 no hn a q1 => ?_) q
  exact k.nx _ H1 F1 _ (s1.rel.assignF (by rw [← s1.rel.len]; exact q1.1) hp fp h0 no a) s1.ff q1.2
/-- xs[k] = e, xs a slot's own list -/
def sSetIx (i : Nat) (A B : PE') : PS' := fun Dp env => A env fun o env1 => ∃ d env2, o.fz env1 = some (d, env2) ∧ (∃ l0 ds0, env2[i]? = some (.own l0 ds0)) ∧ B env2 fun ok env3 => ∃ n, ok.rd env3 = some (.int n) ∧ ∃ l ds, env3[i]? = some (.own l ds) ∧ ∃ j, ixN ds.length n = some j ∧ Dp.nx (env3.set i (.own l (ds.set j d)))
theorem s_setIx (i : Nat) {x : Str} {a b : Expr} {A B : PE'} {p p2 pos : Pos} (ha : EV X a A) (hb : EV X b B) (hN : X.N[i]? = some x := by rfl) (hv : Vis X.env.scope x := by first | exact Or.inl rfl | exact Or.inr (Or.inl rfl) | exact Or.inr (Or.inr rfl)) (hd : (x == ("__debug__" : Str)) = false := by decide)
    (hcd : (x == ("__classdict__" : Str)) = false := by decide) (hs : swapsWithSole [.Subscript (.Name x p) b p2] a pos.line X.env = pure false := by rfl) (hw : swappedStores [.Subscript (.Name x p) b p2] a X.env = pure none := by rfl)
    (h1 : (assignEach [.Subscript (.Name x p) b p2] X.env).map (·.2) = [assign (.Subscript (.Name x p) b p2) X.env] := by rfl)
    (has : ∀ v, assign (.Subscript (.Name x p) b p2) X.env v = (do
      let ov ← holding [v] (eval (.Name x p) X.env)
      let iv ← holding [v, ov] (eval b X.env)
      standAt p2
      holding [v, ov, iv] (setItem ov iv v)
      release [v, ov, iv] []) := by intro _; rfl) : ES X (.Assign [.Subscript (.Name x p) b p2] a pos) (sSetIx i A B) := by
  obtain ⟨t, g1, l1⟩ := ha.ex
  obtain ⟨u, g2, l2⟩ := hb.ex
  refine ⟨_, ps_asg g1 (pg_sub (pe_var hN hv hd hcd) g2 set_list has) hs hw h1, fun C σ H F env D Dp R k q => ?_⟩
  refine l1 C σ H F env _ _ R (fun v H1 F1 env1 o s1 a1 q1 => ?_) q
  obtain ⟨d, env2, e, ⟨l0, ds0, e0⟩, q1⟩ := q1
  obtain ⟨F2, s2, a2⟩ := fz_ok s1.rel a1 e
  -- the slot's address
  have key : ∀ (p' : Addr), σ[i]? = some (some (.ref p')) → u σ H1 fun iv H2 => rSetL (.ref p') iv v H2 fun H3 => D.nx σ H3 := fun p' hp' => by
    refine l2 C σ H1 F2 env2 _ _ s2.rel (fun iv H2 F3 env3 ok s3 a3 q3 => ?_) q1
    obtain ⟨n, e3, l, ds, e4, j, e5, q3⟩ := q3
    obtain ⟨p2, u2, f1, f2, f3, f4, xs, rfl, f5⟩ := s3.rel.slot i _ e4
    rw [hp'] at f1
    cases f1
    have w := (rd_vw s3.rel a3 e3).int
    subst w
    refine ⟨p', xs, n, j, rfl, rfl, f2, by rw [f5.len]; exact e5, ?_⟩
    have s4 := s3.rel.write (ds' := .lst (ds.set j d)) e4 hp' ⟨_, rfl, f5.set (i := j) (At.mono s3.ff _ _ a2)⟩ fun _ => ⟨_, rfl⟩
    exact k.nx σ _ F3 _ s4.rel (((s1.ff.trans' s2.ff).trans' s3.ff).trans' s4.ff) q3
  obtain ⟨p', xs0, hp', _⟩ := s2.rel.slot i _ e0
  exact ⟨.ref p', hp', key p' hp'⟩
end
end Sw

set_option Elab.async false
set_option linter.all false
set_option maxRecDepth 100000
namespace Sw
open PySem PySem.Spec L2

section
variable {X : Cz} {K : FgX}
abbrev TGs' := List D → List SV → (List SV → Prop) → Prop
def LGs (K : FgX) (S : List Nat) (t : TGs) (T : TGs') : Prop := ∀ (C : Ec) (σ : L2.St) (H F : Hp) (env : List SV) (vs : List V) (ds : List D) (Q : L2.St → Hp → Prop) (Qp : List SV → Prop), Rel K C σ H F env → AtAll K F ds vs →
  (∀ σ' env', Rel K C σ' H F env' → Tgt S σ σ' env env' → Qp env' → Q σ' H) → T ds env Qp → t vs σ H Q
structure EG (X : Cz) (S : List Nat) (e : Expr) (T : TG') : Prop where
  ex : ∃ t, PG X e t ∧ LG X.fr S t T
structure EGs (X : Cz) (S : List Nat) (es : List Expr) (T : TGs') : Prop where
  ex : ∃ t, PGs X es t ∧ LGs X.fr S t T
def gN (i : Nat) : TG' := fun d env Q => i < env.length ∧ Q (env.set i (.dat d))
theorem g_name {i : Nat} {x : Str} {pos : Pos} (hN : X.N.Nodup) (hi : X.N[i]? = some x) (hx : Loc X.env.scope x) (hf : X.fn x = true ∨ X.env.scope.names.lookup x = some .local := by first | exact .inl rfl | exact .inr rfl | assumption) : EG X [i] (.Name x pos) (gN i) := by
  refine ⟨_, pg_name hN hi hx hf, fun C σ H F env v d Q Qp R a k q => ?_⟩
  refine k _ _ (R.assign (by rw [← R.len]; exact q.1) a) ⟨fun j hj => ?_, fun j l ds hj h => ?_, by rw [List.length_set]⟩ q.2
  · have ne : i ≠ j := fun e => hj (by simp [e])
    exact ⟨List.getElem?_set_ne ne, List.getElem?_set_ne ne⟩
  · have e : j = i := by simpa using hj
    subst e
    rw [List.getElem?_set_self q.1] at h
    cases h
def gsN : TGs' := fun ds env Q => ds = [] ∧ Q env
def gsC (T : TG') (U : TGs') : TGs' := fun ds env Q => ∃ d r, ds = d :: r ∧ T d env fun env1 => U r env1 Q
theorem gs_nil : EGs X [] [] gsN := by
  refine ⟨_, pgs_nil, fun C σ H F env vs ds Q Qp R a k q => ?_⟩
  obtain ⟨rfl, q⟩ := q
  have a : vs = [] := by simpa [AtAll] using a
  exact ⟨a, k σ env R ⟨fun _ _ => ⟨rfl, rfl⟩, fun _ _ _ h _ => by simp at h, rfl⟩ q⟩
theorem gs_cons {S S' : List Nat} {e : Expr} {es : List Expr} {T : TG'} {U : TGs'} (h : EG X S e T) (g : EGs X S' es U) (hs : (assignEach (e :: es) X.env).map (·.2) = assign e X.env :: (assignEach es X.env).map (·.2) := by rfl) : EGs X (S ++ S') (e :: es) (gsC T U) := by
  obtain ⟨t, h1, l1⟩ := h.ex
  obtain ⟨u, h2, l2⟩ := g.ex
  refine ⟨_, pgs_cons h1 h2 hs, fun C σ H F env vs ds Q Qp R a k q => ?_⟩
  obtain ⟨d, r, rfl, q⟩ := q
  simp only [AtAll] at a
  obtain ⟨v, vr, rfl, a1, a2⟩ := a
  refine ⟨v, vr, rfl, ?_⟩
  refine l1 C σ H F env v d _ _ R a1 (fun σ1 env1 R1 t1 q1 => ?_) q
  exact l2 C σ1 H F env1 vr r _ _ R1 a2 (fun σ2 env2 R2 t2 q2 => k σ2 env2 R2 (t1.trans t2) q2) q1
def gT (n : Nat) (T : TGs') : TG' := fun d env Q => ∃ ds, d = .tuple ds ∧ ds.length = n ∧ T ds env Q
theorem g_tup {S : List Nat} {es : List Expr} {k n : Nat} {T : TGs'} {pos : Pos} (hc : X.calm = true) (h : EGs X S es T) (hn : (assignEach es X.env).length = n := by rfl) (hst : (assignEach es X.env).findIdx? (·.1) = none := by rfl) : EG X S (.Tuple es k pos) (gT n T) := by
  obtain ⟨t, h1, l1⟩ := h.ex
  refine ⟨_, pg_tup hc h1 hn hst, fun C σ H F env v d Q Qp R a kk q => ?_⟩
  obtain ⟨ds, rfl, hl, q⟩ := q
  simp only [At] at a
  obtain ⟨p, xs, rfl, e, a⟩ := a
  exact ⟨p, xs, rfl, (Le.tupAt R.frz e).sqT, by rw [a.len]; exact hl, l1 C σ H F env xs ds Q Qp R a kk q⟩
/-- target = e -/
def sAsgG (A : PE') (G : TG') : PS' := fun Dp env => A env fun o env1 => ∃ d env2, o.fz env1 = some (d, env2) ∧ G d env2 Dp.nx
theorem s_asg {S : List Nat} {tg e : Expr} {A : PE'} {G : TG'} {pos : Pos} (he : EV X e A) (hg : EG X S tg G) (hs : swapsWithSole [tg] e pos.line X.env = pure false := by rfl) (hw : swappedStores [tg] e X.env = pure none := by rfl)
    (h1 : (assignEach [tg] X.env).map (·.2) = [assign tg X.env] := by rfl) : ES X (.Assign [tg] e pos) (sAsgG A G) := by
  obtain ⟨t, g1, l1⟩ := he.ex
  obtain ⟨u, g2, l2⟩ := hg.ex
  refine ⟨_, ps_asg g1 g2 hs hw h1, fun C σ H F env D Dp R k q => ?_⟩
  refine l1 C σ H F env _ _ R (fun v H1 F1 env1 o s1 a1 q1 => ?_) q
  obtain ⟨d, env2, e, q1⟩ := q1
  obtain ⟨F2, s2, a2⟩ := fz_ok s1.rel a1 e
  exact l2 C σ H1 F2 env2 v d _ _ s2.rel a2 (fun σ' env' R' _ q' => k.nx σ' H1 F2 env' R' (s1.ff.trans' s2.ff) q') q1

def ItOk (K : FgK) (J : It) (F : Hp) (ds : List D) : Prop := ∃ G Y, Walk J ds.length G Y ∧ (∀ H, Le F H → G H) ∧ ∀ i H x H', i < ds.length → Le F H → Y i H x H' → YOk K F ds[i]? H x H'
abbrev PI' := List SV → (List D → List SV → Prop) → Prop
def LI (K : FgX) (wi : TI) (T : PI') : Prop := ∀ (C : Ec) (σ : L2.St) (H F : Hp) (env : List SV) (R : It → Hp → Prop) (Qp : List D → List SV → Prop), Rel K C σ H F env →
  (∀ J ds H' F' env', Stp K C σ H F env H' F' env' → ItOk K J F' ds → Qp ds env' → R J H') → T env Qp → wi σ H R
structure EI (X : Cz) (tg e : Expr) (T : PI') : Prop where
  ex : ∃ wi, PI X tg e wi ∧ LI X.fr wi T
/-- a list, a tuple or a text is walked -/
def wAny (K : FgK) (t : TE) : TI := fun σ H R => t σ H fun x H1 => (∃ a, x = .ref a ∧ (∃ xs, SqL K H1 a xs) ∧ R (Itl K a) H1) ∨ (∃ a, x = .ref a ∧ (∃ xs, SqT K H1 a xs) ∧ R (Itt K a) H1) ∨ ∃ z, x = .str z ∧ R (Its z) H1
theorem pi_any {tg l : Expr} {t : TE} (hl : PE X l t) : PI X tg l (wAny X.fr t) := by
  refine ⟨fun pins s σ H R I h => ?_⟩
  refine thn (hl.run pins s σ H _ I h) fun v s1 ⟨x, H1, I1, r1, q1⟩ => ?_
  rcases q1 with ⟨a, e, ⟨xs, hq⟩, q⟩ | ⟨a, e, ⟨xs, hq⟩, q⟩ | ⟨z, e, q⟩
  · subst e
    cases r1
    obtain ⟨its, rv, p, hz⟩ := I1.list hq
    refine wpAny_pyIter_list p.isList ?_
    refine ⟨s1.heap.objs.size, [s1.heap.objs.size], _, _, H1, rfl, I1.kept (t' := s1.toks) fun b o e => Heap.get?_push_of_some _ e, turn_list a _, ⟨_, Heap.get?_push_size _ rfl, rfl, rfl⟩, fun b hb => ?_, q⟩
    have e : b = s1.heap.objs.size := by simpa using hb
    subst e
    exact I1.fpOk (Nat.le_refl _) (I1.hok.fresh (Nat.le_refl _))
  · subst e
    cases r1
    obtain ⟨its, rv, p, hz⟩ := I1.tuple hq
    refine wpAny_pyIter_tuple (show s1.heap.IsTuple a its.toArray from p) ?_
    refine ⟨s1.heap.objs.size, [s1.heap.objs.size], _, _, H1, rfl, I1.kept (t' := s1.toks) fun b o e => Heap.get?_push_of_some _ e, turn_tuple a _, ⟨_, Heap.get?_push_size _ rfl, rfl, rfl⟩, fun b hb => ?_, q⟩
    have e : b = s1.heap.objs.size := by simpa using hb
    subst e
    exact I1.fpOk (Nat.le_refl _) (I1.hok.fresh (Nat.le_refl _))
  · subst e
    obtain ⟨t, rfl⟩ := r1
    cases ha : z.cps.all (· < 128)
    · exact wpAny_pyIter_wide ha (pi_one (tk := s1.toks) I1 _ (turn_str _ z t "str_iterator" (.inr rfl)) ⟨_, Heap.get?_push_size _ rfl, rfl, rfl⟩ q)
    · exact wpAny_pyIter_ascii ha (pi_one (tk := s1.toks) I1 _ (turn_str _ z t "str_ascii_iterator" (.inl rfl)) ⟨_, Heap.get?_push_size _ rfl, rfl, rfl⟩ q)
def signD (c : Nat) : D := .str ⟨#[c]⟩
def itemsOf : D → Option (List D)
  | .list ds => some ds
  | .tuple ds => some ds
  | .str z => some (z.cps.toList.map signD)
  | _ => none
def iAny (A : PE') : PI' := fun env Q => A env fun o env1 => ∃ d env2, o.fz env1 = some (d, env2) ∧ ∃ ds, itemsOf d = some ds ∧ Q ds env2
theorem yAt_ok {F : Hp} {ds : List D} {xs : List V} (a : AtAll K F ds xs) {i : Nat} {H H' : Hp} {x : V} (y : YAt xs i H x H') : YOk K F ds[i]? H x H' := by
  obtain ⟨e, h⟩ := y
  obtain ⟨d, e2, a2⟩ := a.get' h
  exact .inl ⟨e, d, e2, a2⟩
theorem i_any {tg e : Expr} {A : PE'} (h : EV X e A) : EI X tg e (iAny A) := by
  obtain ⟨t, h1, l1⟩ := h.ex
  refine ⟨_, pi_any h1, fun C σ H F env R Qp Rl k q => ?_⟩
  refine l1 C σ H F env _ _ Rl (fun v H1 F1 env1 o s1 a1 q1 => ?_) q
  obtain ⟨d, env2, e, ds, e2, q1⟩ := q1
  obtain ⟨F2, s2, a2⟩ := fz_ok s1.rel a1 e
  unfold itemsOf at e2
  split at e2
  · cases e2
    simp only [At] at a2
    obtain ⟨p, xs, rfl, f1, f2⟩ := a2
    refine .inl ⟨p, rfl, ⟨xs, SqL.of (s2.rel.frz _ _ f1)⟩, k _ ds H1 F2 env2 (s1.trans s2) ⟨_, _, f2.len ▸ walk_list (xs := xs), fun H l => SqL.of (l _ _ f1), fun i H x H' hi l y => yAt_ok f2 y⟩ q1⟩
  · cases e2
    simp only [At] at a2
    obtain ⟨p, xs, rfl, f1, f2⟩ := a2
    refine .inr (.inl ⟨p, rfl, ⟨xs, (Le.tupAt s2.rel.frz f1).sqT⟩, k _ ds H1 F2 env2 (s1.trans s2) ⟨_, _, f2.len ▸ walk_tup (xs := xs), fun H l => (Le.tupAt l f1).sqT, fun i H x H' hi l y => yAt_ok f2 y⟩ q1⟩)
  · cases e2
    rename_i z
    have a2 : v = .str z := by simpa [At] using a2
    subst a2
    refine .inr (.inr ⟨z, rfl, k _ _ H1 F2 env2 (s1.trans s2) ⟨fun _ => True, fun i H v H' => H' = H ∧ ∃ c, z.cps[i]? = some c ∧ v = .str ⟨#[c]⟩, ?_, fun H l => trivial, fun i H x H' hi l y => ?_⟩ q1⟩)
    · rw [List.length_map, Array.length_toList]
      exact walk_str
    · obtain ⟨e, c, h1, rfl⟩ := y
      refine .inl ⟨e, signD c, ?_, by simp [At, signD]⟩
      rw [List.getElem?_map]
      have : z.cps.toList[i]? = some c := by rw [Array.getElem?_toList]; exact h1
      rw [this]
      rfl
  · cases e2
def rgD (lo : Int) (n : Nat) : List D := (List.range n).map fun (i : Nat) => PyData.int (lo + (i : Int))
theorem rg_ok {F : Hp} {lo : Int} {n : Nat} : ItOk K (Itr lo n) F (rgD lo n) := by
  refine ⟨fun _ => True, YFn fun i => .int (lo + i), ?_, fun H l => trivial, fun i H x H' hi l y => ?_⟩
  · unfold rgD
    rw [List.length_map, List.length_range]
    exact walk_range
  · obtain ⟨e, rfl⟩ := y
    refine .inl ⟨e, .int (lo + i), ?_, by simp [At]⟩
    unfold rgD at hi ⊢
    rw [List.length_map, List.length_range] at hi
    rw [List.getElem?_map, List.getElem?_range hi]
    rfl
def iRg1 (A : PE') : PI' := fun env Q => A env fun o env1 => ∃ j, o.rd env1 = some (.int j) ∧ (-(2 ^ 62) ≤ j ∧ j < 2 ^ 62) ∧ Q (rgD 0 j.toNat) env1
theorem i_rg1 {tg a : Expr} {A : PE'} {p pos : Pos} (h : EV X a A) (hg : Gl X "range") (hm : X.mg "range" = none) (hs : starEach [a] X.env = [(false, eval a X.env)] := by rfl) (hs' : starEach (a :: []) X.env = (false, eval a X.env) :: starEach [] X.env := by rfl) : EI X tg (.Call (.Name "range" p) [a] [] pos) (iRg1 A) := by
  obtain ⟨t, h1, l1⟩ := h.ex
  refine ⟨_, pi_range1 hg hm (pa_cons h1 pa_nil hs') hs, fun C σ H F env R Qp Rl k q => ?_⟩
  refine l1 C σ H F env _ _ Rl (fun v H1 F1 env1 o s1 a1 q1 => ?_) q
  obtain ⟨j, e, ⟨b1, b2⟩, q1⟩ := q1
  have w := (rd_vw s1.rel a1 e).int
  subst w
  exact ⟨j, rfl, b1, b2, k _ _ H1 F1 env1 s1 rg_ok q1⟩
def iRg2 (A B : PE') : PI' := fun env Q => A env fun o env1 => B env1 fun o2 env2 => ∃ i, o.rd env2 = some (.int i) ∧ ∃ j, o2.rd env2 = some (.int j) ∧ (-(2 ^ 62) ≤ i ∧ i < 2 ^ 62 ∧ -(2 ^ 62) ≤ j ∧ j < 2 ^ 62) ∧ Q (rgD i (j - i).toNat) env2
theorem i_rg2 {tg a b : Expr} {A B : PE'} {p pos : Pos} (h : EV X a A) (g : EV X b B) (hg : Gl X "range") (hm : X.mg "range" = none) (hs : starEach [a, b] X.env = [(false, eval a X.env), (false, eval b X.env)] := by rfl) (hs2 : starEach [b] X.env = [(false, eval b X.env)] := by rfl)
    (hs' : starEach [a, b] X.env = (false, eval a X.env) :: starEach [b] X.env := by rfl) (hs2' : starEach [b] X.env = (false, eval b X.env) :: starEach [] X.env := by rfl) : EI X tg (.Call (.Name "range" p) [a, b] [] pos) (iRg2 A B) := by
  obtain ⟨t, h1, l1⟩ := h.ex
  obtain ⟨u, h2, l2⟩ := g.ex
  refine ⟨_, pi_range2 hg hm (pa_cons h1 (pa_cons h2 pa_nil hs2') hs') hs hs2, fun C σ H F env R Qp Rl k q => ?_⟩
  refine l1 C σ H F env _ _ Rl (fun v H1 F1 env1 o s1 a1 q1 => ?_) q
  refine l2 C σ H1 F1 env1 _ _ s1.rel (fun v2 H2 F2 env2 o2 s2 a2 q2 => ?_) q1
  obtain ⟨i, e1, j, e2, b, q2⟩ := q2
  have w1 := (rd_vw s2.rel (a1.mono s2.ff) e1).int
  have w2 := (rd_vw s2.rel a2 e2).int
  subst w1 w2
  exact ⟨i, j, rfl, b, k _ _ H2 F2 env2 (s1.trans s2) rg_ok q2⟩
def enD : Nat → List D → List D
  | _, [] => []
  | i, d :: r => .tuple [.int (i : Nat), d] :: enD (i + 1) r
theorem enD_len : ∀ (i : Nat) (ds : List D), (enD i ds).length = ds.length
  | _, [] => rfl
  | i, d :: r => by simp [enD, enD_len (i + 1) r]
theorem enD_get : ∀ (j i : Nat) (ds : List D), (enD i ds)[j]? = ds[j]?.map fun d => .tuple [.int ((i + j : Nat) : Int), d]
  | _, _, [] => by simp [enD]
  | 0, i, d :: r => by simp [enD]
  | j + 1, i, d :: r => by
    simp only [enD, List.getElem?_cons_succ]
    rw [enD_get j (i + 1) r]
    congr 1
    funext d
    rw [show i + 1 + j = i + (j + 1) by omega]
/-- enumerate(a list) -/
def iEnu (A : PE') : PI' := fun env Q => A env fun o env1 => ∃ d env2, o.fz env1 = some (d, env2) ∧ ∃ ds, d = .list ds ∧ Q (enD 0 ds) env2
theorem i_enu {a : Expr} {A : PE'} {elts : List Expr} {kk : Nat} {p pos tpos : Pos} (h : EV X a A) (hg : Gl X "enumerate") (hm : X.mg "enumerate" = none) (hs : starEach [a] X.env = [(false, eval a X.env)] := by rfl) (hs' : starEach (a :: []) X.env = (false, eval a X.env) :: starEach [] X.env := by rfl) : EI X (.Tuple elts kk tpos) (.Call (.Name "enumerate" p) [a] [] pos) (iEnu A) := by
  obtain ⟨t, h1, l1⟩ := h.ex
  refine ⟨_, pi_enum hg hm (pa_cons h1 pa_nil hs') hs, fun C σ H F env R Qp Rl k q => ?_⟩
  refine l1 C σ H F env _ _ Rl (fun v H1 F1 env1 o s1 a1 q1 => ?_) q
  obtain ⟨d, env2, e, ds, rfl, q1⟩ := q1
  obtain ⟨F2, s2, a2⟩ := fz_ok s1.rel a1 e
  simp only [At] at a2
  obtain ⟨p, xs, rfl, f1, f2⟩ := a2
  refine ⟨p, xs, rfl, SqL.of (s2.rel.frz _ _ f1), k _ _ H1 F2 env2 (s1.trans s2) ⟨fun H => SqL X.fr H p xs, YPair (fun i => some (.int (i : Nat))) (fun i => xs[i]?), ?_, fun H l => SqL.of (l _ _ f1), fun i H x H' hi l y => ?_⟩ q1⟩
  · rw [enD_len, ← f2.len]
    exact walk_enum
  · obtain ⟨T, x1, x2, rfl, nT, rfl, h1, h2⟩ := y
    cases h1
    obtain ⟨d, e3, a3⟩ := f2.get' h2
    refine .inr ⟨T, _, [.int (i : Nat), d], nT, rfl, rfl, ?_, AtAll.cons (by simp [At]) (AtAll.cons a3 AtAll.nil)⟩
    rw [enD_get, e3]
    simp

def pFor (G : TG') (B : PS') (Dp : PEnds) : List D → List SV → Prop
  | [], env => Dp.nx env
  | d :: r, env => G d env fun env1 => B { Dp with nx := pFor G B Dp r, ct := pFor G B Dp r, bk := Dp.nx } env1
def sFor (I : PI') (G : TG') (B : PS') : PS' := fun Dp env => I env fun ds env1 => pFor G B Dp ds env1
theorem s_for {S : List Nat} {tg iter : Expr} {body : List Stmt} {I : PI'} {G : TG'} {B : PS'} {pos : Pos} (hp : PassesOwn (model X.prog X.w) X.A X.env X.xe) (hc : X.calm = true) (hi : EI X tg iter I) (hg : EG X S tg G) (hb : EB X body B)
    (hs : ∀ x, foldedSetIterable iter X.env x = pure x := by intro _; rfl) : ES X (.For tg iter body [] pos) (sFor I G B) := by
  obtain ⟨wi, h1, l1⟩ := hi.ex
  obtain ⟨g, h2, l2⟩ := hg.ex
  obtain ⟨tb, h3, l3⟩ := hb.ex
  refine ⟨_, ps_for hp hc h1 h2 h3 hs, fun C σ H F env D Dp R k q => ?_⟩
  refine l1 C σ H F env _ _ R (fun J ds H1 F1 env1 s1 it q1 => ?_) q
  obtain ⟨Gd, Y, w, gd, yd⟩ := it
  have k1 := k.mono s1.ff
  refine for_it w (fun i σ H => ∃ F2 env2, Rel X.fr C σ H F2 env2 ∧ Le F1 F2 ∧ pFor G B Dp (ds.drop i) env2) ⟨F1, env1, s1.rel, Le.rfl', by simpa using q1⟩ (fun i σ H hi ⟨F2, env2, R2, l, _⟩ => gd H (l.trans' R2.frz)) (fun i x σ H H' hi ⟨F2, env2, R2, l, q2⟩ y => ?_) (fun σ H ⟨F2, env2, R2, l, q2⟩ => ?_)
  · obtain ⟨F3, d, e, s3, a3⟩ := (YOk.mono l (yd i H x H' hi (l.trans' R2.frz) y)).rel R2
    have e2 : ds.drop i = d :: ds.drop (i + 1) := by
      obtain ⟨hlt, e4⟩ := List.getElem?_eq_some_iff.mp e
      rw [List.drop_eq_getElem_cons hlt, e4]
    rw [e2] at q2
    have l3' := l.trans' s3.ff
    refine l2 C σ H' F3 env2 x d _ _ s3.rel a3 (fun σ' env' R' _ q' => ?_) q2
    refine l3 C σ' H' F3 env' _ { Dp with nx := pFor G B Dp (ds.drop (i + 1)), ct := pFor G B Dp (ds.drop (i + 1)), bk := Dp.nx } R' ⟨fun σ4 H4 F4 env4 R4 m q4 => ⟨F4, env4, R4, l3'.trans' m, q4⟩, fun σ4 H4 F4 env4 rv v R4 m r q4 => k1.rt σ4 H4 F4 env4 rv v R4 (l3'.trans' m) r q4, fun σ4 H4 F4 env4 R4 m q4 => k1.nx σ4 H4 F4 env4 R4 (l3'.trans' m) q4, fun σ4 H4 F4 env4 R4 m q4 => ⟨F4, env4, R4, l3'.trans' m, q4⟩⟩ q'
  · rw [List.drop_length] at q2
    exact k1.nx σ H F2 env2 R2 l q2
def pWh (c : PT') (B : PS') (Dp : PEnds) : Nat → List SV → Prop
  | 0, _ => False
  | n + 1, env => c env fun b env1 => if b = true then B { Dp with nx := pWh c B Dp n, ct := pWh c B Dp n, bk := Dp.nx } env1 else Dp.nx env1
def sWh (c : PT') (B : PS') : PS' := fun Dp env => ∃ n, pWh c B Dp n env
theorem s_while {c : Expr} {body : List Stmt} {T : PT'} {B : PS'} {pos : Pos} (hp : PassesOwn (model X.prog X.w) X.A X.env X.xe) (hc : ET X c T) (hb : EB X body B) : ES X (.While c body [] pos) (sWh T B) := by
  obtain ⟨t, h1, l1⟩ := hc.ex
  obtain ⟨tb, h3, l3⟩ := hb.ex
  refine ⟨_, ps_while hp h1 h3, fun C σ H F env D Dp R k q => ?_⟩
  obtain ⟨n, q⟩ := q
  refine ⟨fun m σ H => ∃ F2 env2, Rel X.fr C σ H F2 env2 ∧ Le F F2 ∧ pWh T B Dp m env2, ⟨n, F, env, R, Le.rfl', q⟩, ?_⟩
  rintro m σ2 H2 ⟨F2, env2, R2, l, q2⟩
  cases m with
  | zero => exact q2.elim
  | succ m =>
    refine l1 C σ2 H2 F2 env2 _ _ R2 (fun b H3 F3 env3 s3 q3 => ?_) q2
    have l' := l.trans' s3.ff
    cases b with
    | true =>
      rw [if_pos rfl] at q3 ⊢
      refine ⟨fun σ4 H4 => ∃ F4 env4, Rel X.fr C σ4 H4 F4 env4 ∧ Le F F4 ∧ pWh T B Dp m env4, fun σ4 H4 z => ⟨m, Nat.lt_succ_self _, z⟩, ?_⟩
      exact l3 C σ2 H3 F3 env3 _ { Dp with nx := pWh T B Dp m, ct := pWh T B Dp m, bk := Dp.nx } s3.rel ⟨fun σ4 H4 F4 env4 R4 m q4 => ⟨F4, env4, R4, l'.trans' m, q4⟩, fun σ4 H4 F4 env4 rv v R4 m r q4 => k.rt σ4 H4 F4 env4 rv v R4 (l'.trans' m) r q4, fun σ4 H4 F4 env4 R4 m q4 => k.nx σ4 H4 F4 env4 R4 (l'.trans' m) q4, fun σ4 H4 F4 env4 R4 m q4 => ⟨F4, env4, R4, l'.trans' m, q4⟩⟩ q3
    | false =>
      rw [if_neg (by decide)] at q3 ⊢
      exact k.nx σ2 H3 F3 env3 s3.rel l' q3
end
end Sw

set_option Elab.async false
set_option linter.all false
set_option maxRecDepth 100000
namespace Sw
open PySem PySem.Spec L2

section
variable {X : Cz} {K : FgX}
def qMO (i : Nat) (g : List D → List D → Option (D × List D)) (T : PA') : PE' := fun env Q => (∃ l ds, env[i]? = some (.own l ds)) ∧ T env fun os env1 => ∃ es env2, fzAll env1 os = some (es, env2) ∧ ∃ l ds, env2[i]? = some (.own l ds) ∧ ∃ d ds', g ds es = some (d, ds') ∧ Q (.dv d) (env2.set i (.own l ds'))
theorem q_mo (i : Nat) {id : String} {r : V → List V → Hp → VK → Prop} {g : List D → List D → Option (D × List D)} {name x : Str} {p apos cpos : Pos} {e : Expr} {es : List Expr} {T : PA'} (hl : LMO X.fr r g) (slot : Slot "list" name id) (hty : typeOf (.builtin id) = pure (.type "method_descriptor")) (hm : MtR X id r) (ha : EA X (e :: es) T)
    (hN : X.N[i]? = some x := by rfl) (hv : Vis X.env.scope x := by first | exact Or.inl rfl | exact Or.inr (Or.inl rfl) | exact Or.inr (Or.inr rfl)) (hd : (x == ("__debug__" : Str)) = false := by decide) (hcd : (x == ("__classdict__" : Str)) = false := by decide)
    (hbase : attributeBase (.Name x p) name X.env (eval (.Name x p) X.env) = eval (.Name x p) X.env := by rfl)
    (hfew : ((backTo cpos (starEach (e :: es) X.env)).all (fun x => !x.1) && (backToKw cpos (keywordEach [] X.env)).all (fun x => x.1.isSome)
      && decide ((e :: es).length + ([] : List Keyword).length + (if ([] : List Keyword).isEmpty then 0 else 1) < 30)) = true := by rfl)
    (hline : (apos.endLine == cpos.line) = true := by rfl) (hs : starEach (e :: es) X.env = (false, eval e X.env) :: starEach es X.env := by rfl) (hplain : (backTo cpos (starEach es X.env)).any (·.1) = false := by rfl) :
    EV X (.Call (.Attribute (.Name x p) name apos) (e :: es) [] cpos) (qMO i g T) := by
  obtain ⟨t, h1, l1⟩ := ha.ex
  refine ⟨_, pe_bm PySem.F.plainAttrs_list slot hty hm (pe_var hN hv hd hcd) h1 hbase hfew hline hs hplain, fun C σ H F env Q Qp R k q => ?_⟩
  obtain ⟨⟨l0, ds0, e0⟩, q⟩ := q
  obtain ⟨a, xs0, f1, f2, f3, f4, f5⟩ := R.slotL e0
  refine ⟨.ref a, f1, .inl ⟨rfl, xs0, SqL.of f2⟩, ?_⟩
  refine l1 C σ H F env _ _ R (fun vs H1 F1 env1 os s1 a1 q1 => ?_) q
  obtain ⟨es', env2, e1, l, ds, e2, d, ds', e3, q1⟩ := q1
  obtain ⟨F2, s2, a2⟩ := fzAll_ok s1.rel a1 e1
  obtain ⟨a', xs, g1, g2, g3, g4, g5⟩ := s2.rel.slotL e2
  rw [f1] at g1
  cases g1
  refine hl H1 F2 a xs vs ds es' ds' d _ g2 g5 a2 e3 fun v xs' av ax => ?_
  have s3 := s2.rel.writeL e2 f1 ax
  exact k v _ F2 _ (.dv d) ((s1.trans s2).trans s3) (OvOk.of av) q1
def qMO0 (i : Nat) (g : List D → List D → Option (D × List D)) : PE' := fun env Q => ∃ l ds, env[i]? = some (.own l ds) ∧ ∃ d ds', g ds [] = some (d, ds') ∧ Q (.dv d) (env.set i (.own l ds'))
theorem q_mo0 (i : Nat) {id : String} {r : V → List V → Hp → VK → Prop} {g : List D → List D → Option (D × List D)} {name x : Str} {p apos cpos : Pos} (hl : LMO X.fr r g) (slot : Slot "list" name id) (hty : typeOf (.builtin id) = pure (.type "method_descriptor")) (hm : MtR X id r)
    (hN : X.N[i]? = some x := by rfl) (hv : Vis X.env.scope x := by first | exact Or.inl rfl | exact Or.inr (Or.inl rfl) | exact Or.inr (Or.inr rfl)) (hd : (x == ("__debug__" : Str)) = false := by decide) (hcd : (x == ("__classdict__" : Str)) = false := by decide)
    (hbase : attributeBase (.Name x p) name X.env (eval (.Name x p) X.env) = eval (.Name x p) X.env := by rfl) (hline : (apos.endLine == cpos.line) = true := by rfl) :
    EV X (.Call (.Attribute (.Name x p) name apos) [] [] cpos) (qMO0 i g) := by
  refine ⟨_, pe_bm0 PySem.F.plainAttrs_list slot hty hm (pe_var hN hv hd hcd) hbase hline, fun C σ H F env Q Qp R k q => ?_⟩
  obtain ⟨l, ds, e2, d, ds', e3, q⟩ := q
  obtain ⟨a, xs, f1, f2, f3, f4, f5⟩ := R.slotL e2
  refine ⟨.ref a, f1, .inl ⟨rfl, xs, SqL.of f2⟩, ?_⟩
  refine hl H F a xs [] ds [] ds' d _ f2 f5 AtAll.nil e3 fun v xs' av ax => ?_
  have s3 := R.writeL e2 f1 ax
  exact k v _ F _ (.dv d) s3 (OvOk.of av) q
def gAppend : List D → List D → Option (D × List D)
  | ds, [y] => if ds.length < sizeLine then some (.none, ds ++ [y]) else none
  | _, _ => none
theorem l_append : LMO K rAppend gAppend := fun H F p xs ys ds es ds' d Q hp a b e k => by
  unfold gAppend at e
  split at e
  · split at e
    · cases e
      obtain ⟨y, rfl, ay⟩ := b.one
      exact ⟨p, xs, y, rfl, rfl, hp, by rw [a.len]; assumption, k _ _ (by simp [At]) (AtAll.app a (AtAll.cons ay AtAll.nil))⟩
    · cases e
  · cases e
def gPopAt : List D → List D → Option (D × List D)
  | ds, [.int i] => if -(2 ^ 63) ≤ i ∧ i < 2 ^ 63 then (seqIndex? i ds.length).bind fun j => ds[j]?.map fun d => (d, ds.eraseIdx j) else none
  | _, _ => none
theorem l_popAt : LMO K rPopAt gPopAt := fun H F p xs ys ds es ds' d Q hp a b e k => by
  unfold gPopAt at e
  split at e
  · rename_i i
    split at e
    · rename_i hb
      cases q : seqIndex? i ds.length with
      | none => rw [q] at e; cases e
      | some j =>
        rw [q] at e
        simp only [Option.bind_some] at e
        cases q2 : ds[j]? with
        | none => rw [q2] at e; cases e
        | some d0 =>
          rw [q2] at e
          cases e
          obtain ⟨y, rfl, ay⟩ := b.one
          have ay : y = .int i := by simpa [At] using ay
          subst ay
          obtain ⟨v, e1, av⟩ := a.get q2
          exact ⟨p, xs, i, j, v, rfl, rfl, hp, hb.1, hb.2, by rw [a.len]; exact q, e1, k _ _ av (a.erase j)⟩
    · cases e
  · cases e
theorem AtAll.dropLast {F : Hp} {ds : List D} {xs : List V} (h : AtAll K F ds xs) : AtAll K F ds.dropLast xs.dropLast := by
  rw [List.dropLast_eq_take, List.dropLast_eq_take, h.len]
  exact h.take _
end

def wipeE (env : List SV) : List Nat → List SV
  | [] => env
  | v :: vs => (wipeE env vs).set v .un
theorem wipeE_len (env : List SV) : ∀ vs : List Nat, (wipeE env vs).length = env.length
  | [] => rfl
  | v :: vs => by unfold wipeE; rw [List.length_set, wipeE_len env vs]
theorem wipeE_oth {env : List SV} {j : Nat} : ∀ {vs : List Nat}, j ∉ vs → (wipeE env vs)[j]? = env[j]?
  | [], _ => rfl
  | v :: vs, h => by
    simp only [List.mem_cons, not_or] at h
    unfold wipeE
    rw [List.getElem?_set_ne (Ne.symm h.1)]
    exact wipeE_oth h.2
theorem wipeE_mem {env : List SV} {j : Nat} {sv : SV} : ∀ {vs : List Nat}, j ∈ vs → (wipeE env vs)[j]? = some sv → sv = .un
  | v :: vs, h, e => by
    unfold wipeE at e
    by_cases q : v = j
    · subst q
      rw [List.getElem?_set] at e
      split at e
      · split at e
        · exact (Option.some.inj e).symm
        · cases e
      · exact absurd rfl ‹_›
    · rw [List.getElem?_set_ne q] at e
      rcases List.mem_cons.mp h with z | z
      · exact absurd z.symm q
      · exact wipeE_mem z e
theorem wipe_oth {σ : L2.St} {j : Nat} : ∀ {vs : List Nat}, j ∉ vs → (wipe σ vs)[j]? = σ[j]?
  | [], _ => rfl
  | v :: vs, h => by
    simp only [List.mem_cons, not_or] at h
    unfold wipe
    rw [List.getElem?_set_ne (Ne.symm h.1)]
    exact wipe_oth h.2
theorem wipe_ext : ∀ {vs : List Nat} {σ τ : L2.St}, σ.length = τ.length → (∀ j, j ∉ vs → σ[j]? = τ[j]?) → wipe σ vs = wipe τ vs := fun {vs σ τ} hl h => by
  have key : ∀ (ws : List Nat) (j : Nat), j ∈ ws → (wipe σ ws)[j]? = (wipe τ ws)[j]? := fun ws => by
    induction ws with
    | nil => intro j hj; cases hj
    | cons v ws ih =>
      intro j hj
      unfold wipe
      by_cases e : v = j
      · subst e
        rw [List.getElem?_set, List.getElem?_set]
        simp only [if_true]
        rw [wipe_length, wipe_length, hl]
      · rw [List.getElem?_set_ne e, List.getElem?_set_ne e]
        rcases List.mem_cons.mp hj with z | z
        · exact absurd z.symm e
        · exact ih j z
  apply List.ext_getElem?
  intro j
  by_cases hj : j ∈ vs
  · exact key vs j hj
  · rw [wipe_oth hj, wipe_oth hj]
    exact h j hj
theorem wipe_wipe (σ : L2.St) (vs : List Nat) : wipe (wipe σ vs) vs = wipe σ vs := wipe_ext (wipe_length σ vs) fun j hj => wipe_oth hj
section
variable {K : FgX} {C : Ec} {σ : L2.St} {H F : Hp} {env : List SV} {vs : List Nat}
theorem own_wipe {j : Nat} {l : Bool} {ds : Ct} (h : (wipeE env vs)[j]? = some (SV.obj l ds)) : j ∉ vs ∧ env[j]? = some (SV.obj l ds) := by
  by_cases hj : j ∈ vs
  · cases wipeE_mem hj h
  · rw [wipeE_oth hj] at h
    exact ⟨hj, h⟩
theorem Rel.wipe (R : Rel K C σ H F env) (vs : List Nat) : Rel K C (wipe σ vs) H F (wipeE env vs) := by
  refine ⟨⟨R.frz, R.mono, R.new, R.frame, R.la, by rw [wipeE_len, wipe_length]; exact R.len, fun j sv e => ?_, fun j k l ds m es h1 h2 h3 => ?_⟩, R.xok⟩
  · by_cases hj : j ∈ vs
    · rw [wipeE_mem hj e]
      trivial
    · rw [wipeE_oth hj] at e
      rw [wipe_oth hj]
      exact R.slot j sv e
  · obtain ⟨n1, h1⟩ := own_wipe h1
    obtain ⟨n2, h2⟩ := own_wipe h2
    rw [wipe_oth n1, wipe_oth n2] at h3
    exact R.dist j k l ds m es h1 h2 h3
theorem Rel.unwipe (R : Rel K C (L2.wipe σ vs) H F env) (he : wipeE env vs = env) : Rel K C σ H F env := by
  have ow : ∀ (j : Nat) (l : Bool) (ds : Ct), env[j]? = some (SV.obj l ds) → j ∉ vs := fun j l ds h => by
    rw [← he] at h
    exact (own_wipe h).1
  refine ⟨⟨R.frz, R.mono, R.new, R.frame, R.la, by rw [R.len, wipe_length], fun j sv e => ?_, fun j k l ds m es h1 h2 h3 => ?_⟩, R.xok⟩
  · by_cases hj : j ∈ vs
    · rw [← he] at e
      rw [wipeE_mem hj e]
      trivial
    · have q := R.slot j sv e
      rw [wipe_oth hj] at q
      exact q
  · refine R.dist j k l ds m es h1 h2 ?_
    rw [wipe_oth (ow j l ds h1), wipe_oth (ow k m es h2)]
    exact h3
theorem Own.unwipe (he : wipeE env vs = env) {b : Addr} : Own (L2.wipe σ vs) env b ↔ Own σ env b := by
  constructor
  · rintro ⟨j, l, ds, e, s⟩
    have e' := e
    rw [← he] at e'
    rw [wipe_oth (own_wipe e').1] at s
    exact ⟨j, l, ds, e, s⟩
  · rintro ⟨j, l, ds, e, s⟩
    have e' := e
    rw [← he] at e'
    refine ⟨j, l, ds, e, ?_⟩
    rw [wipe_oth (own_wipe e').1]
    exact s
/-- a turn's steps, seen from the comprehension's start -/
theorem Stp.under {τ σ2 : L2.St} {S : List Nat} {H1 F1 H2 F2 H4 F4 : Hp} {env1 env2 env3 env4 : List SV} (hτ : L2.wipe τ vs = τ) (hS : ∀ j ∈ S, j ∈ vs) (acc : Stp K C τ H1 F1 env1 H2 F2 env2) (tg : Tgt S τ σ2 env2 env3) (st : Stp K C σ2 H2 F2 env3 H4 F4 env4) :
    L2.wipe σ2 vs = τ ∧ Stp K C τ H1 F1 env1 H4 F4 (wipeE env4 vs) := by
  have e1 : L2.wipe σ2 vs = τ := by
    rw [← hτ]
    exact wipe_ext tg.len fun j hj => (tg.oth j fun z => hj (hS j z)).1
  have o1 : ∀ b, Own σ2 env3 b → Own τ env2 b := fun b ⟨j, l, ds, e, s⟩ => by
    by_cases hj : j ∈ S
    · obtain ⟨q1, q2⟩ := tg.mem j l ds hj e
      exact ⟨j, l, ds, q1, q2 ▸ s⟩
    · obtain ⟨q1, q2⟩ := tg.oth j hj
      exact ⟨j, l, ds, q2 ▸ e, q1 ▸ s⟩
  have R4 := st.rel.wipe vs
  rw [e1] at R4
  refine ⟨e1, R4, acc.ff.trans' st.ff, fun b o h n => ?_, fun b o h => ?_, fun j l ds h => ?_, fun b h => acc.dm b (st.dm b h)⟩
  · exact st.fr b o (acc.fr b o h n) fun z => n (Own.sub acc.ow (o1 b z))
  · rcases st.fn b o h with z | z | z
    · exact acc.fn b o z
    · exact .inr (.inl (acc.dm b z))
    · exact .inr (.inr (Own.sub acc.ow (o1 b z)))
  · obtain ⟨_, h⟩ := own_wipe h
    obtain ⟨ds3, h⟩ := st.ow j l ds h
    have h2 : env2[j]? = some (SV.obj l ds3) := by
      by_cases hj : j ∈ S
      · exact (tg.mem j l ds3 hj h).1
      · exact (tg.oth j hj).2 ▸ h
    exact acc.ow j l ds3 h2
end
section
variable {X : Cz}
structure ETs (X : Cz) (ifs : List Expr) (T : PT') : Prop where
  ex : ∃ t, PTs X ifs t ∧ LT X.fr t T
def tYes' : PT' := fun env Q => Q true env
theorem ts_nil : ETs X [] tYes' := ⟨_, pts_nil, fun C σ H F env Q Qp R k q => k true H F env (Stp.refl R) q⟩
theorem ts_one {c : Expr} {T : PT'} (h : ET X c T) : ETs X [c] T := by
  obtain ⟨t, h1, l1⟩ := h.ex
  exact ⟨_, pts_one h1, l1⟩
/-- the same in every block -/
abbrev Blk (X : Cz) (scope : Scope) (P : Cz → Prop) : Prop := ∀ (s : Shared) (H : Hp) (C : Addr) (cl : List (Str × Addr)) (fp : List Addr), P (of0 (X.toCx.blk s H scope (compEnvC scope cl C X.env) fp))
theorem blk_ev {scope : Scope} {e : Expr} {T : PE'} (h : Blk X scope fun Y => EV Y e T) : ∃ t, (Blk X scope fun Y => PE Y e t) ∧ LE X.fr t T := by
  refine ⟨fun σ H Q => ∀ s H0 C cl fp, (Classical.choose (h s H0 C cl fp).ex) σ H Q, fun s H0 C cl fp => ⟨fun pins s1 σ H Q I q => ?_⟩, fun C σ H F env Q Qp R k q s H0 C0 cl fp => ?_⟩
  · exact (Classical.choose_spec (h s H0 C cl fp).ex).1.run pins s1 σ H Q I (q s H0 C cl fp)
  · exact LE.up (K := X.fr) (Classical.choose_spec (h s H0 C0 cl fp).ex).2 C σ H F env Q Qp R k q
theorem blk_ts {scope : Scope} {ifs : List Expr} {T : PT'} (h : Blk X scope fun Y => ETs Y ifs T) : ∃ t, (Blk X scope fun Y => PTs Y ifs t) ∧ LT X.fr t T := by
  refine ⟨fun σ H Q => ∀ s H0 C cl fp, (Classical.choose (h s H0 C cl fp).ex) σ H Q, fun s H0 C cl fp => ⟨fun pins s1 σ H Q I q => ?_⟩, fun C σ H F env Q Qp R k q s H0 C0 cl fp => ?_⟩
  · exact (Classical.choose_spec (h s H0 C cl fp).ex).1.run pins s1 σ H Q I (q s H0 C cl fp)
  · exact LT.up (K := X.fr) (Classical.choose_spec (h s H0 C0 cl fp).ex).2 C σ H F env Q Qp R k q
theorem blk_g {scope : Scope} {S : List Nat} {e : Expr} {T : TG'} (h : Blk X scope fun Y => EG Y S e T) : ∃ t, (Blk X scope fun Y => PG Y e t) ∧ LG X.fr S t T := by
  refine ⟨fun v σ H Q => ∀ s H0 C cl fp, (Classical.choose (h s H0 C cl fp).ex) v σ H Q, fun s H0 C cl fp => ⟨fun pins s1 σ H v u Q I r q => ?_⟩, fun C σ H F env v d Q Qp R a k q s H0 C0 cl fp => ?_⟩
  · exact (Classical.choose_spec (h s H0 C cl fp).ex).1.run pins s1 σ H v u Q I r (q s H0 C cl fp)
  · exact LG.up (K := X.fr) (Classical.choose_spec (h s H0 C0 cl fp).ex).2 C σ H F env v d Q Qp R a k q
def pLc (G : TG') (TT : PT') (TE : PE') (vs : List Nat) (Q : List D → List SV → Prop) : List D → List D → List SV → Prop
  | [], acc, env => Q acc env
  | d :: r, acc, env => G d env fun env1 => TT env1 fun b env2 => if b = true then TE env2 fun o env3 => ∃ y env4, o.fz env3 = some (y, env4) ∧ pLc G TT TE vs Q r (acc ++ [y]) (wipeE env4 vs) else pLc G TT TE vs Q r acc (wipeE env2 vs)
def fLc (I : PI') (G : TG') (TT : PT') (TE : PE') (vs : List Nat) : PF' := fun env Q => I env fun ds env1 => wipeE env1 vs = env1 ∧ ds.length ≤ 16777215 ∧ pLc G TT TE vs Q ds [] env1
theorem lc_sound {wi : TI} {g : TG} {tt : TT} {te : TE} {K : FgX} {I : PI'} {S : List Nat} {G : TG'} {TT : PT'} {TE : PE'} {vs : List Nat} (l1 : LI K wi I) (l2 : LG K S g G) (l3 : LT K tt TT) (l4 : LE K te TE) (hS : ∀ j ∈ S, j ∈ vs) : LF K (tLc wi g tt te vs) (fLc I G TT TE vs) := fun C σ H F env Q Qp R k q => by
  refine l1 C σ H F env _ _ R (fun J ds H1 F1 env1 s1 it q1 => ?_) q
  obtain ⟨hw, hlen, q1⟩ := q1
  obtain ⟨Gd, Y, w, gd, yd⟩ := it
  intro Dp hD
  obtain ⟨sD, fD, h0D, noD⟩ := s1.rel.alloc0 (o := .lst []) hD
  have hτ : L2.wipe (L2.wipe σ vs) vs = L2.wipe σ vs := wipe_wipe σ vs
  have R1 : Rel K C (L2.wipe σ vs) H1 F1 env1 := by
    have := s1.rel.wipe vs
    rw [hw] at this
    exact this
  obtain ⟨sD', _, _, noD'⟩ := R1.alloc0 (o := .lst []) hD
  refine lc_it w (Pv := fun i H => ∃ F2 env2 acc accv, Stp K C (L2.wipe σ vs) H1 F1 env1 H F2 env2 ∧ H Dp = some (.lst accv) ∧ F2 Dp = none ∧ ¬ Own (L2.wipe σ vs) env2 Dp ∧ AtAll K F2 acc accv ∧ acc.length ≤ i ∧ wipeE env2 vs = env2 ∧ pLc G TT TE vs Qp (ds.drop i) acc env2)
    ⟨F1, env1, [], [], sD', upd_same, fD, noD', AtAll.nil, Nat.le_refl _, hw, by simpa using q1⟩ (fun i H hi ⟨F2, env2, acc, accv, s2, _⟩ => gd H (s2.ff.trans' s2.rel.frz)) (fun i x H H' hi ⟨F2, env2, acc, accv, s2, hDl, fD2, noD2, aa, hl, hw2, q2⟩ y => ?_) (fun H ⟨F2, env2, acc, accv, s2, hDl, fD2, noD2, aa, hl, hw2, q2⟩ => ?_)
  · obtain ⟨F3, d, e, s3, a3⟩ := (YOk.mono s2.ff (yd i H x H' hi (s2.ff.trans' s2.rel.frz) y)).rel s2.rel
    have e2 : ds.drop i = d :: ds.drop (i + 1) := by
      obtain ⟨hlt, e4⟩ := List.getElem?_eq_some_iff.mp e
      rw [List.drop_eq_getElem_cons hlt, e4]
    rw [e2] at q2
    have acc3 := s2.trans s3
    have hD3 : H' Dp = some (.lst accv) := s3.fr _ _ hDl noD2
    have fD3 : F3 Dp = none := by
      cases qq : F3 Dp with
      | none => rfl
      | some u =>
        rcases s3.fn _ _ qq with z | z | z
        · rw [fD2] at z; cases z
        · rw [hDl] at z; cases z
        · exact absurd z noD2
    refine l2 C _ H' F3 env2 x d _ _ s3.rel a3 (fun σ2 env3 R3 tg q3 => ?_) q2
    have r3 : L2.wipe σ2 vs = L2.wipe σ vs := (Stp.under hτ hS acc3 tg (Stp.refl R3)).1
    refine ⟨r3, ?_⟩
    have no3 : ¬ Own σ2 env3 Dp := fun ⟨j, l, es, e1, e2⟩ => by
      by_cases hj : j ∈ S
      · obtain ⟨f1, f2⟩ := tg.mem j l es hj e1
        exact noD2 ⟨j, l, es, f1, f2 ▸ e2⟩
      · obtain ⟨f1, f2⟩ := tg.oth j hj
        exact noD2 ⟨j, l, es, f2 ▸ e1, f1 ▸ e2⟩
    refine l3 C σ2 H' F3 env3 _ _ R3 (fun b H5 F5 env5 s5 q5 => ?_) q3
    have hD5 : H5 Dp = some (.lst accv) := s5.fr _ _ hD3 no3
    have fD5 : F5 Dp = none := by
      cases qq : F5 Dp with
      | none => rfl
      | some u =>
        rcases s5.fn _ _ qq with z | z | z
        · rw [fD3] at z; cases z
        · rw [hD3] at z; cases z
        · exact absurd z no3
    cases b with
    | true =>
      rw [if_pos rfl] at q5 ⊢
      refine l4 C σ2 H5 F5 env5 _ _ s5.rel (fun v H6 F6 env6 o s6 a6 q6 => ?_) q5
      obtain ⟨y', env7, e7, q7⟩ := q6
      obtain ⟨F7, s7, a7⟩ := fz_ok s6.rel a6 e7
      have st := (s5.trans s6).trans s7
      have no5 : ¬ Own σ2 env5 Dp := fun z => no3 (Own.sub s5.ow z)
      have hD6 : H6 Dp = some (.lst accv) := (s6.fr _ _ hD5 no5)
      have fD7 : F7 Dp = none := by
        cases qq : F7 Dp with
        | none => rfl
        | some u =>
          rcases st.fn _ _ qq with z | z | z
          · rw [fD3] at z; cases z
          · rw [hD3] at z; cases z
          · exact absurd z no3
      obtain ⟨_, u7⟩ := Stp.under hτ hS acc3 tg st
      have no7 : ¬ Own (L2.wipe σ vs) (wipeE env7 vs) Dp := fun z => noD2 (by
        have z1 := Own.sub u7.ow z
        exact absurd z1 noD')
      refine ⟨accv, hD6, ?_, F7, wipeE env7 vs, acc ++ [y'], accv ++ [v], ?_, upd_same, fD7, no7, AtAll.app (AtAll.mono ((s3.ff.trans' st.ff)) _ _ aa) (AtAll.cons a7 AtAll.nil), by rw [List.length_append]; simp only [List.length_cons, List.length_nil]; omega, ?_, q7⟩
      · rw [aa.len, sizeLine_eq]
        have := hi
        omega
      · exact u7.other hD hD6 fD7 h0D no7
      · -- wiped twice
        apply List.ext_getElem?
        intro j
        by_cases hj : j ∈ vs
        · cases z : (wipeE env7 vs)[j]? with
          | none =>
            rw [List.getElem?_eq_none_iff] at z ⊢
            rw [wipeE_len]; exact z
          | some sv =>
            have z1 := wipeE_mem hj z
            have hjl : j < (wipeE (wipeE env7 vs) vs).length := by
              rw [wipeE_len]
              exact (List.getElem?_eq_some_iff.mp z).1
            have z2 := wipeE_mem hj (List.getElem?_eq_getElem hjl)
            rw [List.getElem?_eq_getElem hjl, z2, z1]
        · rw [wipeE_oth hj]
    | false =>
      rw [if_neg (by decide)] at q5 ⊢
      obtain ⟨_, u7⟩ := Stp.under hτ hS acc3 tg s5
      have no7 : ¬ Own (L2.wipe σ vs) (wipeE env5 vs) Dp := fun z => noD' (Own.sub u7.ow z)
      refine ⟨F5, wipeE env5 vs, acc, accv, u7, hD5, fD5, no7, AtAll.mono (s3.ff.trans' s5.ff) _ _ aa, by omega, ?_, q5⟩
      apply List.ext_getElem?
      intro j
      by_cases hj : j ∈ vs
      · cases z : (wipeE env5 vs)[j]? with
        | none =>
          rw [List.getElem?_eq_none_iff] at z ⊢
          rw [wipeE_len]; exact z
        | some sv =>
          have z1 := wipeE_mem hj z
          have hjl : j < (wipeE (wipeE env5 vs) vs).length := by
            rw [wipeE_len]
            exact (List.getElem?_eq_some_iff.mp z).1
          have z2 := wipeE_mem hj (List.getElem?_eq_getElem hjl)
          rw [List.getElem?_eq_getElem hjl, z2, z1]
      · rw [wipeE_oth hj]
  · rw [List.drop_length] at q2
    have q2 : Qp acc env2 := q2
    have R2 := s2.rel.unwipe hw2
    have st : Stp K C σ H1 F1 env1 H F2 env2 := ⟨R2, s2.ff, fun b o h n => s2.fr b o h fun z => n ((Own.unwipe hw).mp z), fun b o h => by
      rcases s2.fn b o h with z | z | z
      · exact .inl z
      · exact .inr (.inl z)
      · exact .inr (.inr ((Own.unwipe hw).mp z)), s2.ow, s2.dm⟩
    exact k Dp accv acc H F2 env2 (s1.trans st) hDl fD2 h0D (fun z => noD2 ((Own.unwipe hw2).mpr z)) (s1.dm _ hD) aa q2
theorem f_lc {elt tg iter : Expr} {ifs : List Expr} {scope : Scope} {own : List (Str × Nat)} {pos : Pos} {I : PI'} {S : List Nat} {G : TG'} {TT : PT'} {TE : PE'} (hc : X.calm = true) (hN : X.N.Nodup) (ok : BlkOk X.N X.env.scope scope own) (hi : EI X tg iter I) (hg : Blk X scope fun Y => EG Y S tg G) (ht : Blk X scope fun Y => ETs Y ifs TT) (he : Blk X scope fun Y => EV Y elt TE)
    (hS : ∀ j ∈ S, j ∈ own.map (·.2) := by decide) (hs : ∀ x, foldedSetIterable iter X.env x = pure x := by intro _; rfl) : EF X (.ListComp elt [⟨tg, iter, ifs, 0⟩] scope pos) (fLc I G TT TE (own.map (·.2))) := by
  obtain ⟨wi, h1, l1⟩ := hi.ex
  obtain ⟨g, h2, l2⟩ := blk_g hg
  obtain ⟨tt, h3, l3⟩ := blk_ts ht
  obtain ⟨te, h4, l4⟩ := blk_ev he
  exact ⟨_, pe_lc hc hN h1 ok h2 h3 h4 hs, lc_sound l1 l2 l3 l4 hS⟩
end
end Sw

set_option Elab.async false
set_option linter.all false
set_option maxRecDepth 100000
namespace Sw
open PySem PySem.Spec L2

def LentE (l : Bool) (env : List SV) (fl : Option (List D)) : Prop := if l = true then ∃ ds, env[0]? = some (SV.own true ds) ∧ fl = some ds else fl = none
/-- the slots at a def's entry -/
def startE (l : Bool) (N : List Str) (fl : Option (List D)) (ds : List D) : List SV :=
  (match l, fl with | true, some fd => [SV.own true fd] | _, _ => []) ++ ds.map SV.dat ++ List.replicate (N.length - (ds.length + if l = true then 1 else 0)) SV.un
/-- what a def's body is to reach -/
def endsOf (l : Bool) (Q : RV → Option (List D) → Prop) : PEnds := { nx := fun env => ∃ fl, LentE l env fl ∧ Q (.dt .none) fl, rt := fun rv env => ∃ fl, LentE l env fl ∧ Q rv fl }
section
variable {P : Program} {w : World} {K : PySem.W.Frag} {mg : Str → Option Value} {base : Heap}
theorem start_rel {K : FgK} {H F : Hp} {N : List Str} {l : Bool} {vs ws : List V} {la : Option Addr} {fl : Option (List D)} {ds : List D} (hF : Le F H) (ha : AtAll K F ds ws)
    (hl : if l = true then ∃ a xs fd, vs = .ref a :: ws ∧ la = some a ∧ H a = some (.lst xs) ∧ F a = none ∧ fl = some fd ∧ AtAll K F fd xs else vs = ws ∧ la = none ∧ fl = none) (hn : vs.length ≤ N.length) : RelB K ⟨H, F, la⟩ (start N vs) H F (startE l N fl ds) := by
  cases l with
  | false =>
    obtain ⟨rfl, rfl, rfl⟩ := hl
    have e1 : start N vs = vs.map some ++ List.replicate (N.length - vs.length) none := rfl
    have e2 : startE false N none ds = ds.map SV.dat ++ List.replicate (N.length - ds.length) SV.un := by simp [startE]
    have noown : ∀ (i : Nat) (m : Bool) (es : Ct), (startE false N none ds)[i]? ≠ some (SV.obj m es) := fun i m es h => by
      rw [e2] at h
      have := List.mem_of_getElem? h
      rw [List.mem_append] at this
      rcases this with q | q
      · obtain ⟨d, _, e⟩ := List.mem_map.mp q
        cases e
      · have := List.eq_of_mem_replicate q
        cases this
    refine ⟨hF, Le.rfl', fun b o h => .inl h, fun b o h _ => h, fun a h => (by cases h), ?_, fun i sv e => ?_, fun i j m ds' n es h1 => absurd h1 (noown i m ds')⟩
    · rw [e1, e2]
      simp [ha.len]
    · rw [e2] at e
      by_cases hi : i < ds.length
      · rw [List.getElem?_append_left (by rw [List.length_map]; exact hi), List.getElem?_map] at e
        rw [List.getElem?_eq_getElem hi] at e
        cases e
        obtain ⟨v, e3, a3⟩ := ha.get (List.getElem?_eq_getElem hi)
        refine ⟨v, ?_, a3⟩
        rw [e1, List.getElem?_append_left (by rw [List.length_map, ha.len]; exact hi), List.getElem?_map, e3]
        rfl
      · rw [List.getElem?_append_right (by rw [List.length_map]; omega)] at e
        have := List.eq_of_mem_replicate (List.mem_of_getElem? e)
        subst this
        trivial
  | true =>
    obtain ⟨a, xs, fd, rfl, rfl, h1, h2, rfl, h3⟩ := hl
    have e1 : start N (.ref a :: ws) = some (.ref a) :: (ws.map some ++ List.replicate (N.length - (ws.length + 1)) none) := rfl
    have e2 : startE true N (some fd) ds = SV.own true fd :: (ds.map SV.dat ++ List.replicate (N.length - (ds.length + 1)) SV.un) := by simp [startE]
    have own0 : ∀ (i : Nat) (m : Bool) (es : Ct), (startE true N (some fd) ds)[i]? = some (SV.obj m es) → i = 0 := fun i m es h => by
      rw [e2] at h
      cases i with
      | zero => rfl
      | succ i =>
        rw [List.getElem?_cons_succ] at h
        have := List.mem_of_getElem? h
        rw [List.mem_append] at this
        rcases this with q | q
        · obtain ⟨d, _, e⟩ := List.mem_map.mp q
          cases e
        · have := List.eq_of_mem_replicate q
          cases this
    refine ⟨hF, Le.rfl', fun b o h => .inl h, fun b o h _ => h, fun b h => ?_, ?_, fun i sv e => ?_, fun i j m ds' n es g1 g2 _ => by rw [own0 i m ds' g1, own0 j n es g2]⟩
    · cases h
      exact ⟨⟨xs, h1⟩, h2, _, h1⟩
    · rw [e1, e2]
      simp [ha.len]
    · rw [e2] at e
      rw [e1]
      cases i with
      | zero =>
        cases e
        exact ⟨a, _, rfl, h1, h2, rfl, xs, rfl, h3⟩
      | succ i =>
        rw [List.getElem?_cons_succ] at e ⊢
        by_cases hi : i < ds.length
        · rw [List.getElem?_append_left (by rw [List.length_map]; exact hi), List.getElem?_map] at e
          rw [List.getElem?_eq_getElem hi] at e
          cases e
          obtain ⟨v, e3, a3⟩ := ha.get (List.getElem?_eq_getElem hi)
          refine ⟨v, ?_, a3⟩
          rw [List.getElem?_append_left (by rw [List.length_map, ha.len]; exact hi), List.getElem?_map, e3]
          rfl
        · rw [List.getElem?_append_right (by rw [List.length_map]; omega)] at e
          have := List.eq_of_mem_replicate (List.mem_of_getElem? e)
          subst this
          trivial
theorem ends_ok {K : FgX} {H F : Hp} {la : Option Addr} {l : Bool} {Q : VK} {Qp : RV → Option (List D) → Prop} (hl : l = true ↔ la ≠ none) (k : ∀ v H' F' rv fl', Post K la H F rv fl' v H' F' → Qp rv fl' → Q v H') :
    EndsOk K ⟨H, F, la⟩ F { nx := fun _ H' => Q .non H', rt := Q } (endsOf l Qp) := by
  have main : ∀ σ' H' F' env' rv v, Rel K ⟨H, F, la⟩ σ' H' F' env' → RvOk K ⟨H, F, la⟩ H' F' rv v → (∃ fl, LentE l env' fl ∧ Qp rv fl) → Q v H' := fun σ' H' F' env' rv v R a ⟨fl, e, q⟩ => by
    refine k v H' F' rv fl ⟨R.frz, R.mono, R.new, R.frame, fun b hb => ?_, a⟩ q
    have hb : la = some b := hb
    have : l = true := hl.mpr (by rw [hb]; exact fun z => nomatch z)
    subst this
    obtain ⟨ds, e1, rfl⟩ := e
    obtain ⟨p, xs, f1, f2, f3, f4, f5⟩ := R.slotL e1
    rw [if_pos rfl] at f4
    have f4 : la = some p := f4
    rw [hb] at f4
    cases f4
    exact ⟨xs, ds, f2, f3, rfl, f5⟩
  exact ⟨fun σ' H' F' env' R _ q => main σ' H' F' env' (.dt .none) .non R (by simp [RvOk, At]) q, fun σ' H' F' env' rv v R _ a q => main σ' H' F' env' rv v R a q, fun _ _ _ _ _ _ h => h.elim, fun _ _ _ _ _ _ h => h.elim⟩
end
section
variable {X : Cz}
theorem Post.stpL {K : FgX} {C : Ec} {σ : L2.St} {H F : Hp} {env : List SV} {i : Nat} {l : Bool} {ds ds' : List D} {a : Addr} {rv : RV} {v : V} {H' F' : Hp} (R : Rel K C σ H F env) (he : env[i]? = some (.own l ds)) (hs : σ[i]? = some (some (.ref a))) (p : Post K (some a) H F rv (some ds') v H' F') :
    Stp K C σ H F env H' F' (env.set i (.own l ds')) := by
  obtain ⟨a', xs0, g1, g2, g3, g4, g5⟩ := R.slotL he
  rw [hs] at g1
  cases g1
  obtain ⟨xs', ds2, k1, k2, k3, k4⟩ := p.lent a rfl
  cases k3
  have hi : i < env.length := (List.getElem?_eq_some_iff.mp he).1
  have no : ∀ b o, H b = some o → F b = none → F' b = none := fun b o h f => by
    cases q : F' b with
    | none => rfl
    | some u =>
      rcases p.new b u q with z | z
      · rw [f] at z; cases z
      · rw [h] at z; cases z
  have oth : ∀ (j : Nat) (m : Bool) (es : Ct), (env.set i (.own l ds'))[j]? = some (SV.obj m es) → ∃ es', env[j]? = some (SV.obj m es') := fun j m es h => by
    by_cases e : j = i
    · subst e; rw [List.getElem?_set_self hi] at h; cases h; exact ⟨.lst ds, he⟩
    · rw [List.getElem?_set_ne (Ne.symm e)] at h; exact ⟨es, h⟩
  have la' : ∀ b, b ≠ a → (some a : Option Addr) ≠ some b := fun b h z => h (Option.some.inj z).symm
  refine ⟨⟨⟨p.frz, R.mono.trans' p.mono, fun b o h => ?_, fun b o h n => ?_, fun b h => ?_, by rw [List.length_set]; exact R.len, fun j sv e => ?_, fun j k m es n fs h1 h2 h3 => ?_⟩, R.xok⟩, p.mono, fun b o h n => ?_, fun b o h => ?_, oth, fun b h => ?_⟩
  · rcases p.new b o h with z | z
    · exact R.new b o z
    · cases q : C.H0 b with
      | none => exact .inr rfl
      | some u =>
        by_cases hl : C.la = some b
        · obtain ⟨⟨xs, e⟩, _⟩ := R.la b hl
          rw [e] at z; cases z
        · rw [R.frame b u q hl] at z; cases z
  · have q := R.frame b o h n
    refine p.frame b o q (la' b ?_)
    rintro rfl
    cases l with
    | true => exact n (by simpa using g4)
    | false => rw [if_neg (by decide)] at g4; rw [g4] at h; cases h
  · obtain ⟨⟨xs, e⟩, f, g⟩ := R.la b h
    by_cases hb : b = a
    · subst hb
      exact ⟨⟨xs', k1⟩, k2, g⟩
    · exact ⟨⟨xs, p.frame b _ e (la' b hb)⟩, no b _ e f, g⟩
  · by_cases e' : j = i
    · subst e'
      rw [List.getElem?_set_self hi] at e
      cases e
      exact ⟨a, _, hs, k1, k2, g4, xs', rfl, k4⟩
    · rw [List.getElem?_set_ne (Ne.symm e')] at e
      have q := R.slot j sv e
      cases sv with
      | un => trivial
      | raw z => exact q
      | dat d =>
        obtain ⟨v, e1, a⟩ := q
        exact ⟨v, e1, At.mono p.mono _ _ a⟩
      | obj m es =>
        obtain ⟨r, xs, e1, e2, e3, e4, e5⟩ := q
        have ne : r ≠ a := by
          rintro rfl
          exact e' (R.dist j i m es l (.lst ds) e he (e1.trans hs.symm))
        exact ⟨r, xs, e1, p.frame r _ e2 (la' r ne), no r _ e2 e3, e4, e5.mono p.mono⟩
  · obtain ⟨es', h1⟩ := oth j m es h1
    obtain ⟨fs', h2⟩ := oth k n fs h2
    exact R.dist j k m es' n fs' h1 h2 h3
  · refine p.frame b o h (la' b ?_)
    rintro rfl
    exact n ⟨i, l, .lst ds, he, hs⟩
  · rcases p.new b o h with z | z
    · exact .inl z
    · exact .inr (.inl z)
  · by_cases hb : b = a
    · subst hb
      rw [k1] at h; cases h
    · cases q : H b with
      | none => rfl
      | some u =>
        rw [p.frame b u q (la' b hb)] at h; cases h
variable {k : Nat} {f : Addr} {fd : FuncData} {ps : List Str} {sp : PSp} {x : Str} {e : Expr} {es : List Expr} {T : PA'} {p pos : Pos}
theorem consts_nil : constsOk [] [] := fun _ _ => AtAll.nil
theorem q_call {dvs : List V} {dds : List D} {ds : List Value} (F : FnOk X.prog X.w X.fr X.mg X.base CX0 k f fd ps (spOf X.fr false sp)) (hr : Room k X.A) (hg : Gl X x) (hm : X.mg x = some (.ref f)) (hk : PySem.W.keepIn X.fr (.ref f) = true) (hb : Binds X.fr fd ps ds) (hd : Vals dvs ds) (hdd : constsOk dvs dds)
    (ha : EA X (e :: es) T) (hdb : (x == ("__debug__" : Str)) = false := by decide) (he : starEach (e :: es) X.env = (false, eval e X.env) :: starEach es X.env := by rfl) (hpl : (backTo pos (starEach es X.env)).any (·.1) = false := by rfl) :
    EV X (.Call (.Name x p) (e :: es) [] pos) (qCall sp (qAddD T dds)) := by
  obtain ⟨t, h1, l1⟩ := ha.ex
  exact ⟨_, pe_call F hr hg hm hk hb hd pass0 h1 hdb he hpl, LE.call hdd l1⟩
theorem f_call {dvs : List V} {dds : List D} {ds : List Value} (F : FnOk X.prog X.w X.fr X.mg X.base CX0 k f fd ps (spOf X.fr false sp)) (hr : Room k X.A) (hg : Gl X x) (hm : X.mg x = some (.ref f)) (hk : PySem.W.keepIn X.fr (.ref f) = true) (hb : Binds X.fr fd ps ds) (hd : Vals dvs ds) (hdd : constsOk dvs dds)
    (ha : EA X (e :: es) T) (hdb : (x == ("__debug__" : Str)) = false := by decide) (he : starEach (e :: es) X.env = (false, eval e X.env) :: starEach es X.env := by rfl) (hpl : (backTo pos (starEach es X.env)).any (·.1) = false := by rfl) :
    EF X (.Call (.Name x p) (e :: es) [] pos) (fCall sp (qAddD T dds)) := by
  obtain ⟨t, h1, l1⟩ := ha.ex
  exact ⟨_, pe_call F hr hg hm hk hb hd pass0 h1 hdb he hpl, LF.call hdd l1⟩
/-- f(a slot's list, lent; ..) -/
def qCallL (sp : PSp) (i : Nat) (T : PA') : PE' := fun env Q => (∃ l0 ds0, env[i]? = some (.own l0 ds0)) ∧ T env fun os env1 => ∃ ds env2, fzAll env1 os = some (ds, env2) ∧ ∃ l fd, env2[i]? = some (.own l fd) ∧ sp (some fd) ds fun rv fl => ∃ fd', fl = some fd' ∧ Q (.dv rv.toD) (env2.set i (.own l fd'))
def fCallL (sp : PSp) (i : Nat) (T : PA') : PF' := fun env Q => (∃ l0 ds0, env[i]? = some (.own l0 ds0)) ∧ T env fun os env1 => ∃ ds env2, fzAll env1 os = some (ds, env2) ∧ ∃ l fd, env2[i]? = some (.own l fd) ∧ sp (some fd) ds fun rv fl => ∃ fd' es, fl = some fd' ∧ rv = .fr es ∧ Q es (env2.set i (.own l fd'))
theorem LE.callL {t : TA} {dvs : List V} {dds : List D} {E : XK} (i : Nat) (hd : constsOk dvs dds) (l1 : LA X.fr t T) : LE X.fr (tCall (spOf X.fr true sp) dvs E (tCons (tVar i) t)) (qCallL sp i (qAddD T dds)) := fun C σ H F env Q Qp R kk q => by
  obtain ⟨⟨l0, ds0, e0⟩, q⟩ := q
  obtain ⟨a, xs0, f1, f2, f3, f4, f5⟩ := R.slotL e0
  refine ⟨.ref a, f1, ?_⟩
  refine l1 C σ H F env _ _ R (fun vs H1 F1 env1 os s1 a1 q1 => ?_) q
  obtain ⟨ds, env2, e1, l, fd, e2, q1⟩ := q1
  obtain ⟨F2, s2, a2⟩ := fzAll_ok s1.rel (a1.app (hd X.fr F1)) e1
  obtain ⟨a', xs, g1, g2, g3, g4, g5⟩ := s2.rel.slotL e2
  rw [f1] at g1
  cases g1
  refine ⟨F2, some a, some fd, ds, vs ++ dvs, s2.rel.frz, a2, by rw [if_pos rfl]; exact ⟨a, xs, fd, rfl, rfl, g2, g3, rfl, g5⟩, _, q1, fun v H' F' rv fl' pp qq => ?_⟩
  obtain ⟨fd', rfl, qq⟩ := qq
  have s3 := pp.stpL s2.rel e2 f1
  obtain ⟨F3, s4, a4⟩ := known_of s2.rel s3 pp.res
  exact kk v H' F3 _ (.dv rv.toD) ((s1.trans s2).trans s4) a4 qq
theorem LF.callL {t : TA} {dvs : List V} {dds : List D} {E : XK} (i : Nat) (hd : constsOk dvs dds) (l1 : LA X.fr t T) : LF X.fr (tCall (spOf X.fr true sp) dvs E (tCons (tVar i) t)) (fCallL sp i (qAddD T dds)) := fun C σ H F env Q Qp R kk q => by
  obtain ⟨⟨l0, ds0, e0⟩, q⟩ := q
  obtain ⟨a, xs0, f1, f2, f3, f4, f5⟩ := R.slotL e0
  refine ⟨.ref a, f1, ?_⟩
  refine l1 C σ H F env _ _ R (fun vs H1 F1 env1 os s1 a1 q1 => ?_) q
  obtain ⟨ds, env2, e1, l, fd, e2, q1⟩ := q1
  obtain ⟨F2, s2, a2⟩ := fzAll_ok s1.rel (a1.app (hd X.fr F1)) e1
  obtain ⟨a', xs, g1, g2, g3, g4, g5⟩ := s2.rel.slotL e2
  rw [f1] at g1
  cases g1
  refine ⟨F2, some a, some fd, ds, vs ++ dvs, s2.rel.frz, a2, by rw [if_pos rfl]; exact ⟨a, xs, fd, rfl, rfl, g2, g3, rfl, g5⟩, _, q1, fun v H' F' rv fl' pp qq => ?_⟩
  obtain ⟨fd', es', rfl, rfl, qq⟩ := qq
  have s3 := pp.stpL s2.rel e2 f1
  obtain ⟨r, ys, rfl, h1, h2, h3, h4⟩ := pp.res
  have h3 : H1 r = none := h3
  obtain ⟨h0, no⟩ := fresh_of s2.rel s3 h3
  exact kk r ys es' H' F' _ ((s1.trans s2).trans s3) h1 h2 h0 no (s1.dm r (s2.dm r h3)) h4 qq
theorem q_callL (i : Nat) {y : Str} {py : Pos} {dvs : List V} {dds : List D} {ds : List Value} (F : FnOk X.prog X.w X.fr X.mg X.base CX0 k f fd ps (spOf X.fr true sp)) (hr : Room k X.A) (hg : Gl X x) (hm : X.mg x = some (.ref f)) (hk : PySem.W.keepIn X.fr (.ref f) = true) (hb : Binds X.fr fd ps ds) (hd : Vals dvs ds) (hdd : constsOk dvs dds)
    (ha : EA X es T) (hN : X.N[i]? = some y := by rfl) (hv : Vis X.env.scope y := by first | exact Or.inl rfl | exact Or.inr (Or.inl rfl) | exact Or.inr (Or.inr rfl)) (hd1 : (y == ("__debug__" : Str)) = false := by decide) (hcd : (y == ("__classdict__" : Str)) = false := by decide)
    (hdb : (x == ("__debug__" : Str)) = false := by decide) (he : starEach (.Name y py :: es) X.env = (false, eval (.Name y py) X.env) :: starEach es X.env := by rfl) (hpl : (backTo pos (starEach es X.env)).any (·.1) = false := by rfl) :
    EV X (.Call (.Name x p) (.Name y py :: es) [] pos) (qCallL sp i (qAddD T dds)) := by
  obtain ⟨t, h1, l1⟩ := ha.ex
  exact ⟨_, pe_call F hr hg hm hk hb hd pass0 (pa_cons (pe_var hN hv hd1 hcd) h1 he) hdb he hpl, LE.callL i hdd l1⟩
end
end Sw

set_option Elab.async false
set_option linter.all false
set_option maxRecDepth 100000
namespace Sw
open PySem PySem.Spec L2

section
variable {P : Program} {w : World} {K : PySem.W.Frag} {mg : Str → Option Value} {base : Heap}
/-- THE RULE of a def -/
theorem defD_ok {x qual : Str} {params : Arguments} {body : List Stmt} {scope : Scope} {dvs : List V} {kws : List (Str × V)} {f : Addr} {fd : FuncData} {N ps : List Str} {k : Nat} {sp : PSp} (l : Bool) (F : FunD K x qual params body scope dvs kws f fd) (S : FnScope N ps scope) (len : ∀ fl ds Q, sp fl ds Q → ds.length + (if l = true then 1 else 0) = ps.length)
    (hn : ps.length ≤ N.length) (hbody : ∀ (cdv : Value) (A : Around) (outer : List Env) (s : Shared) (H : Hp) (E : XK), Room k (A.deeper (PyProof.Rows.envOfC qual scope s.heap.objs.size f cdv)) →
      ∃ T, EB (of0 (cxOf CX0 P w K mg base N qual scope f cdv A outer s H E).nox) body T ∧ ∀ fl ds Q, (l = true ↔ fl ≠ none) → sp fl ds Q → T (endsOf l Q) (startE l N fl ds)) : FnOk P w K mg base CX0 (k + 1) f fd ps (spOf ⟨K, P, w⟩ l sp) := by
  have lens : ∀ vs H Q E, spOf ⟨K, P, w⟩ l sp vs H Q E → vs.length = ps.length := fun vs H Q E h => by
    obtain ⟨F, la, fl, ds, ws, hF, ha, hl, Qp, hp, k⟩ := h
    have := len fl ds Qp hp
    cases l with
    | false =>
      obtain ⟨rfl, _, _⟩ := hl
      rw [ha.len]
      simpa using this
    | true =>
      obtain ⟨a, xs, fd, rfl, _⟩ := hl
      rw [List.length_cons, ha.len]
      simpa using this
  refine F.ok S lens (fun cdv A outer s H vs Q E hr h => ?_)
  have hlen := lens vs H Q E h
  obtain ⟨F0, la, fl, ds, ws, hF, ha, hl, Qp, hp, k⟩ := h
  obtain ⟨T, hb, ht⟩ := hbody cdv A outer s H E hr
  obtain ⟨t, h1, l1⟩ := hb.ex
  refine ⟨t, h1.nox, ?_⟩
  have hll : (l = true ↔ la ≠ none) ∧ (l = true ↔ fl ≠ none) := by
    cases l with
    | false =>
      obtain ⟨_, rfl, rfl⟩ := hl
      simp
    | true =>
      obtain ⟨a, xs, fd, _, rfl, _, _, rfl, _⟩ := hl
      simp
  exact l1 ⟨H, F0, la⟩ (start N vs) H F0 (startE l N fl ds) _ (endsOf l Qp) ⟨start_rel hF ha hl (by omega), xok_no rfl⟩ (ends_ok hll.1 k) (ht fl ds Qp hll.2 hp)
end
section
variable {X : Cz} {k j : Nat} {ps : List Str} {sp : PSp} {x : Str} {e : Expr} {es : List Expr} {T : PA'} {p pos : Pos} {dds : List D}
theorem q_cal (c : Cal X.prog X.w X.K X.mg X.base k x false ps dds sp) (hr : Room j X.A) (hkj : k ≤ j) (hg : Gl X x) (ha : EA X (e :: es) T) (hdb : (x == ("__debug__" : Str)) = false := by decide) (he : starEach (e :: es) X.env = (false, eval e X.env) :: starEach es X.env := by rfl) (hpl : (backTo pos (starEach es X.env)).any (·.1) = false := by rfl) :
    EV X (.Call (.Name x p) (e :: es) [] pos) (qCall sp (qAddD T dds)) := by
  obtain ⟨f, fd, dvs, ds, h1, h2, h3, h4, h5, h6⟩ := c.ex
  exact q_call h1 (hr.mono hkj) hg h2 h3 h4 h5 h6 ha hdb he hpl
theorem f_cal (c : Cal X.prog X.w X.K X.mg X.base k x false ps dds sp) (hr : Room j X.A) (hkj : k ≤ j) (hg : Gl X x) (ha : EA X (e :: es) T) (hdb : (x == ("__debug__" : Str)) = false := by decide) (he : starEach (e :: es) X.env = (false, eval e X.env) :: starEach es X.env := by rfl) (hpl : (backTo pos (starEach es X.env)).any (·.1) = false := by rfl) :
    EF X (.Call (.Name x p) (e :: es) [] pos) (fCall sp (qAddD T dds)) := by
  obtain ⟨f, fd, dvs, ds, h1, h2, h3, h4, h5, h6⟩ := c.ex
  exact f_call h1 (hr.mono hkj) hg h2 h3 h4 h5 h6 ha hdb he hpl
theorem q_calL (i : Nat) {y : Str} {py : Pos} (c : Cal X.prog X.w X.K X.mg X.base k x true ps dds sp) (hr : Room j X.A) (hkj : k ≤ j) (hg : Gl X x) (ha : EA X es T) (hN : X.N[i]? = some y := by rfl) (hv : Vis X.env.scope y := by first | exact Or.inl rfl | exact Or.inr (Or.inl rfl) | exact Or.inr (Or.inr rfl)) (hd1 : (y == ("__debug__" : Str)) = false := by decide) (hcd : (y == ("__classdict__" : Str)) = false := by decide)
    (hdb : (x == ("__debug__" : Str)) = false := by decide) (he : starEach (.Name y py :: es) X.env = (false, eval (.Name y py) X.env) :: starEach es X.env := by rfl) (hpl : (backTo pos (starEach es X.env)).any (·.1) = false := by rfl) :
    EV X (.Call (.Name x p) (.Name y py :: es) [] pos) (qCallL sp i (qAddD T dds)) := by
  obtain ⟨f, fd, dvs, ds, h1, h2, h3, h4, h5, h6⟩ := c.ex
  exact q_callL i h1 (hr.mono hkj) hg h2 h3 h4 h5 h6 ha hN hv hd1 hcd hdb he hpl
end
section
variable {X : Cz} {K : FgX}
abbrev rMulA : R2 := fun x y H Q => rI CMul (fun i j => .int (i * j)) x y H Q ∨ (fun x y H Q => ∃ a n, x = V.str a ∧ y = V.int n ∧ n ≤ 1000 ∧ -1000 ≤ n ∧ a.length ≤ 1000 ∧ Q (.str (Txt.mul a n)) H) x y H Q
theorem op_mulA : OpR X (binaryOp .Mult) rMulA := op_mul.or op_mul_str
theorem l_mul : LO2 K rMulA gMul := fun C σ H F env x y dx dy d Q R a b e k => by
  unfold gMul at e
  split at e
  · split at e
    · cases e
      rw [a.int, b.int]
      exact .inl ⟨_, _, rfl, rfl, ‹_›, k _ H F (Stp.refl R) (by simp [At])⟩
    · cases e
  · split at e
    · rename_i h
      cases e
      rw [a.str, b.int]
      exact .inr ⟨_, _, rfl, rfl, h.1, h.2.1, h.2.2, k _ H F (Stp.refl R) (by simp [At])⟩
    · cases e
  · cases e
def fOp (g : D → D → Option (List D)) (A B : PE') : PF' := fun env Q => A env fun o1 env1 => B env1 fun o2 env2 => ∃ d1, o1.rd env2 = some d1 ∧ ∃ d2, o2.rd env2 = some d2 ∧ ∃ ds, g d1 d2 = some ds ∧ Q ds env2
def gCatF : D → D → Option (List D)
  | .list a, .list b => if a.length + b.length ≤ sizeLine then some (a ++ b) else none
  | _, _ => none
theorem f_add {a b : Expr} {A B : PE'} {pos : Pos} (ha : EV X a A) (hb : EV X b B) : EF X (.BinOp a .Add b pos) (fOp gCatF A B) := by
  obtain ⟨ta, h1, l1⟩ := ha.ex
  obtain ⟨tb, h2, l2⟩ := hb.ex
  refine ⟨_, pe_op op_cat h1 h2, fun C σ H F env Q Qp R k q => ?_⟩
  refine l1 C σ H F env _ _ R (fun v1 H1 F1 env1 o1 s1 a1 q1 => ?_) q
  refine l2 C σ H1 F1 env1 _ _ s1.rel (fun v2 H2 F2 env2 o2 s2 a2 q2 => ?_) q1
  obtain ⟨d1, e1, d2, e2, ds, e, q2⟩ := q2
  have w1 := rd_vw s2.rel (a1.mono s2.ff) e1
  have w2 := rd_vw s2.rel a2 e2
  unfold gCatF at e
  split at e
  · split at e
    · cases e
      obtain ⟨p, xs, rfl, f1, b1⟩ := w1
      obtain ⟨q, ys, rfl, f2, b2⟩ := w2
      refine ⟨p, q, xs, ys, rfl, rfl, f1, f2, by rw [b1.len, b2.len]; assumption, fun r hr => ?_⟩
      obtain ⟨s, f, h, n⟩ := s2.rel.alloc0 (o := .lst (xs ++ ys)) hr
      exact k r _ _ _ F2 env2 ((s1.trans s2).trans s) upd_same f h n (s1.dm r (s2.dm r hr)) (AtAll.app b1 b2) q2
    · cases e
  · cases e
end
abbrev Bts : List Str := ["len", "isinstance", "str", "int", "bool", "list", "tuple", "dict", "range", "all", "any", "sorted", "set", "min", "max", "ord", "enumerate", "sum", "abs", "reversed", "zip"]
abbrev Bt (mg : Str → Option Value) : Prop := ∀ x ∈ Bts, mg x = none
end Sw

set_option Elab.async false
set_option linter.all false
set_option maxRecDepth 100000
namespace Sw
open PySem PySem.Spec L2
theorem cut_seq {A B : PS'} {Dp : PEnds} {env : List SV} (I : List SV → Prop) (hB : ∀ env', I env' → B Dp env') (hA : ∀ nx : List SV → Prop, (∀ env', I env' → nx env') → A { Dp with nx := nx } env) : sSeq A B Dp env := hA _ hB
theorem ex_some {α : Type} {a : α} {P : α → Prop} : (∃ b, some a = some b ∧ P b) ↔ P a := ⟨fun ⟨b, e, h⟩ => by cases e; exact h, fun h => ⟨a, rfl, h⟩⟩
theorem ex_fz {a : D} {env : List SV} {P : D → List SV → Prop} : (∃ d env2, some (a, env) = some (d, env2) ∧ P d env2) ↔ P a env := ⟨fun ⟨d, e2, e, h⟩ => by cases e; exact h, fun h => ⟨a, env, rfl, h⟩⟩
theorem ex_fzs {a : List D} {env : List SV} {P : List D → List SV → Prop} : (∃ d env2, some (a, env) = some (d, env2) ∧ P d env2) ↔ P a env := ⟨fun ⟨d, e2, e, h⟩ => by cases e; exact h, fun h => ⟨a, env, rfl, h⟩⟩
theorem ex_own {l : Bool} {ds : List D} {P : Bool → List D → Prop} : (∃ l' ds', some (SV.own l ds) = some (SV.own l' ds') ∧ P l' ds') ↔ P l ds := ⟨fun ⟨d, e2, e, h⟩ => by cases e; exact h, fun h => ⟨_, _, rfl, h⟩⟩
theorem ex_own0 {l : Bool} {ds : List D} : (∃ l' ds', some (SV.own l ds) = some (SV.own l' ds')) ↔ True := ⟨fun _ => trivial, fun _ => ⟨_, _, rfl⟩⟩
theorem ex_ownF {ds : List D} {P : List D → Prop} : (∃ ds', some (SV.own false ds) = some (SV.own false ds') ∧ P ds') ↔ P ds := ⟨fun ⟨d, e, h⟩ => by cases e; exact h, fun h => ⟨_, rfl, h⟩⟩
theorem ex_bool {b : Bool} {P : Bool → Prop} : (∃ b', some (PyData.bool b) = some (.bool b') ∧ P b') ↔ P b := ⟨fun ⟨d, e, h⟩ => by cases e; exact h, fun h => ⟨_, rfl, h⟩⟩
theorem ex_int {b : Int} {P : Int → Prop} : (∃ b', some (PyData.int b) = some (.int b') ∧ P b') ↔ P b := ⟨fun ⟨d, e, h⟩ => by cases e; exact h, fun h => ⟨_, rfl, h⟩⟩
theorem ex_lst {b : List D} {P : List D → Prop} : (∃ b', some (PyData.list b) = some (.list b') ∧ P b') ↔ P b := ⟨fun ⟨d, e, h⟩ => by cases e; exact h, fun h => ⟨_, rfl, h⟩⟩
theorem ex_strv {b : Str} {P : Str → Prop} : (∃ b', OV.dv (PyData.str b) = OV.dv (.str b') ∧ P b') ↔ P b := ⟨fun ⟨d, e, h⟩ => by cases e; exact h, fun h => ⟨_, rfl, h⟩⟩
theorem ex_svd {d : D} : (∃ d', svD (SV.dat d) = some d') ↔ True := ⟨fun _ => trivial, fun _ => ⟨d, rfl⟩⟩
theorem ex_svo {l : Bool} {ds : List D} : (∃ d', svD (SV.own l ds) = some d') ↔ True := ⟨fun _ => trivial, fun _ => ⟨_, rfl⟩⟩
theorem bindS {α β : Type} {a : α} {f : α → Option β} : (some a).bind f = f a := rfl
theorem mapS {α β : Type} {a : α} {f : α → β} : (some a).map f = some (f a) := rfl
theorem atI_at {α : Type} {xs : List α} {i : Int} (h0 : 0 ≤ i) : atI xs i = xs[i.toNat]? := by
  unfold atI ixN
  rw [if_pos h0]
  by_cases h : i < xs.length
  · rw [if_pos h]
    rfl
  · rw [if_neg h, List.getElem?_eq_none (by omega)]
    rfl
end Sw
namespace Sw
open PySem PySem.Spec L2
theorem ex_if {α : Type} {c : Prop} [Decidable c] {x : α} {P : α → Prop} : (∃ d, (if c then some x else none) = some d ∧ P d) ↔ c ∧ P x := by
  constructor
  · rintro ⟨d, e, h⟩
    split at e
    · cases e; exact ⟨‹_›, h⟩
    · cases e
  · rintro ⟨h, p⟩
    exact ⟨x, by rw [if_pos h], p⟩
theorem ex_ifb {c : Prop} [Decidable c] {x : Bool} {P : Bool → Prop} : (∃ b, (if c then some (PyData.bool x) else none) = some (PyData.bool b) ∧ P b) ↔ c ∧ P x := by
  constructor
  · rintro ⟨d, e, h⟩
    split at e
    · cases e; exact ⟨‹_›, h⟩
    · cases e
  · rintro ⟨h, p⟩
    exact ⟨x, by rw [if_pos h], p⟩
theorem ex_som0 {α : Type} {a : α} : (∃ d, some a = some d) ↔ True := ⟨fun _ => trivial, fun _ => ⟨a, rfl⟩⟩
theorem ex_fl {x : List D} {P : Option (List D) → Prop} : (∃ fl, (∃ ds, some (SV.own true x) = some (SV.own true ds) ∧ fl = some ds) ∧ P fl) ↔ P (some x) := by
  constructor
  · rintro ⟨fl, ⟨ds, e, rfl⟩, h⟩
    cases e
    exact h
  · intro h
    exact ⟨_, ⟨x, rfl, rfl⟩, h⟩
theorem ex_flN {P : Option (List D) → Prop} : (∃ fl, fl = none ∧ P fl) ↔ P none := ⟨fun ⟨_, e, h⟩ => by cases e; exact h, fun h => ⟨none, rfl, h⟩⟩
theorem atI_lit {α : Type} {xs : List α} {n : Nat} : atI xs (no_index (@OfNat.ofNat Int n instOfNat)) = xs[n]? := atI_at (i := ((n : Nat) : Int)) (by omega)
theorem ixN_lit {n k : Nat} : ixN n (no_index (@OfNat.ofNat Int k instOfNat)) = if k < n then some k else none := by
  show ixN n ((k : Nat) : Int) = _
  unfold ixN
  rw [if_pos (by omega)]
  by_cases h : k < n
  · rw [if_pos (by omega), if_pos h]
    simp
  · rw [if_neg (by omega), if_neg h]
theorem gI_ii {g : Int → Int → Option D} {i j : Int} : gI g (.int i) (.int j) = g i j := rfl
theorem gAdd_ii {a b : Int} : gAdd (.int a) (.int b) = some (.int (a + b)) := rfl
theorem gAdd_ss {a b : Str} : gAdd (.str a) (.str b) = if a.length + b.length ≤ sizeLine then some (.str (a ++ b)) else none := rfl
theorem gAdd_ll {a b : List D} : gAdd (.list a) (.list b) = if a.length + b.length ≤ sizeLine then some (.list (a ++ b)) else none := rfl
theorem gAdd_tt {a b : List D} : gAdd (.tuple a) (.tuple b) = if a.length + b.length ≤ sizeLine then some (.tuple (a ++ b)) else none := rfl
theorem gMul_ii {a b : Int} : gMul (.int a) (.int b) = if (-(2 ^ 64) < a ∧ a < 2 ^ 64) ∨ (-(2 ^ 64) < b ∧ b < 2 ^ 64) then some (.int (a * b)) else none := rfl
theorem gMul_si {a : Str} {n : Int} : gMul (.str a) (.int n) = if n ≤ 1000 ∧ -1000 ≤ n ∧ a.length ≤ 1000 then some (.str (Txt.mul a n)) else none := rfl
theorem gLt_ii {a b : Int} : gLt (.int a) (.int b) = some (.bool (decide (a < b))) := rfl
theorem gLt_ss {a b : Str} : gLt (.str a) (.str b) = some (.bool (ltS a b)) := rfl
theorem gIx_li {ds : List D} {i : Int} : gIx (.list ds) (.int i) = atI ds i := rfl
theorem gIx_ti {ds : List D} {i : Int} : gIx (.tuple ds) (.int i) = atI ds i := rfl
theorem gIx_si {z : Str} {i : Int} : gIx (.str z) (.int i) = if z.length ≤ sizeLine then (atI z.cps.toList i).map fun c => .str ⟨#[c]⟩ else none := rfl
theorem gLen_l {ds : List D} : gLen [.list ds] = some (.int ds.length) := rfl
theorem gLen_t {ds : List D} : gLen [.tuple ds] = some (.int ds.length) := rfl
theorem gLen_s {z : Str} : gLen [.str z] = if z.length ≤ sizeLine then some (.int z.length) else none := rfl
theorem gListF_l {ds : List D} : gListF [.list ds] = some ds := rfl
theorem gListF_t {ds : List D} : gListF [.tuple ds] = some ds := rfl
theorem gTuple_l {ds : List D} : gTuple [.list ds] = some (.tuple ds) := rfl
theorem gTuple_t {ds : List D} : gTuple [.tuple ds] = some (.tuple ds) := rfl
theorem gCatF_ll {a b : List D} : gCatF (.list a) (.list b) = if a.length + b.length ≤ sizeLine then some (a ++ b) else none := rfl
theorem gEq_ii {a b : Int} : gEq false (.int a) (.int b) = some (.bool (a == b)) := rfl
theorem gNe_ii {a b : Int} : gEq true (.int a) (.int b) = some (.bool (!(a == b))) := rfl
theorem gEq_ss {a b : Str} : gEq false (.str a) (.str b) = some (.bool (a == b)) := rfl
theorem gNe_ss {a b : Str} : gEq true (.str a) (.str b) = some (.bool (!(a == b))) := rfl
theorem gEq_bb {a b : Bool} : gEq false (.bool a) (.bool b) = some (.bool (a == b)) := rfl
theorem gNe_bb {a b : Bool} : gEq true (.bool a) (.bool b) = some (.bool (!(a == b))) := rfl
theorem gSl_l {ds : List D} {lo hi : Option Int} : gSl (.list ds) lo hi = some (.list (cutD ds lo hi)) := rfl
theorem gSl_t {ds : List D} {lo hi : Option Int} : gSl (.tuple ds) lo hi = some (.tuple (cutD ds lo hi)) := rfl
theorem gSl_s {z : Str} {lo hi : Option Int} : gSl (.str z) lo hi = if z.length ≤ sizeLine then some (.str (cutS z lo hi)) else none := rfl
theorem gIsN_n : gIsN false .none .none = some (.bool true) := rfl
theorem gNotN_n : gIsN true .none .none = some (.bool false) := rfl
theorem gAppend_1 {ds : List D} {y : D} : gAppend ds [y] = if ds.length < sizeLine then some (.none, ds ++ [y]) else none := rfl
theorem ex_ifp {c : Prop} [Decidable c] {x : D} {y : List D} {P : D → List D → Prop} : (∃ d ds, (if c then some (x, y) else none) = some (d, ds) ∧ P d ds) ↔ c ∧ P x y := by
  constructor
  · rintro ⟨d, ds, e, h⟩
    split at e
    · cases e; exact ⟨‹_›, h⟩
    · cases e
  · rintro ⟨h, p⟩
    exact ⟨x, y, by rw [if_pos h], p⟩
end Sw

set_option Elab.async false
set_option linter.all false
set_option maxRecDepth 100000
namespace Sw
open PySem PySem.Spec L2
theorem pLc_inv {G : TG'} {TT : PT'} {TE : PE'} {vs : List Nat} {Q : List D → List SV → Prop} {ds : List D} {env : List SV} (I : Nat → List D → List SV → Prop) (h0 : I 0 [] env)
    (hs : ∀ i d, ds[i]? = some d → ∀ acc env, I i acc env → ∀ K : List D → List SV → Prop, (∀ acc' env', I (i + 1) acc' env' → K acc' env') →
      G d env fun env1 => TT env1 fun b env2 => if b = true then TE env2 fun o env3 => ∃ y env4, o.fz env3 = some (y, env4) ∧ K (acc ++ [y]) (wipeE env4 vs) else K acc (wipeE env2 vs))
    (hd : ∀ acc env, I ds.length acc env → Q acc env) : pLc G TT TE vs Q ds [] env := by
  have key : ∀ (n i : Nat) (acc : List D) (env : List SV), i + n = ds.length → I i acc env → pLc G TT TE vs Q (ds.drop i) acc env := by
    intro n
    induction n with
    | zero =>
      intro i acc env h hi
      have : ds.drop i = [] := by rw [List.drop_eq_nil_iff]; omega
      rw [this]
      have e : i = ds.length := by omega
      rw [e] at hi
      exact hd acc env hi
    | succ n ih =>
      intro i acc env h hi
      have hlt : i < ds.length := by omega
      rw [List.drop_eq_getElem_cons hlt]
      exact hs i ds[i] (List.getElem?_eq_getElem hlt) acc env hi (fun acc' env' => pLc G TT TE vs Q (ds.drop (i + 1)) acc' env') fun acc' env' h' => ih (i + 1) acc' env' (by omega) h'
  exact key ds.length 0 [] env (by omega) h0
theorem pFor_inv {G : TG'} {B : PS'} {Dp : PEnds} {ds : List D} {env : List SV} (I : Nat → List SV → Prop) (h0 : I 0 env)
    (hs : ∀ i d, ds[i]? = some d → ∀ env, I i env → ∀ K : List SV → Prop, (∀ env', I (i + 1) env' → K env') → G d env fun env1 => B { Dp with nx := K, ct := K, bk := Dp.nx } env1)
    (hd : ∀ env, I ds.length env → Dp.nx env) : pFor G B Dp ds env := by
  have key : ∀ (n i : Nat) (env : List SV), i + n = ds.length → I i env → pFor G B Dp (ds.drop i) env := by
    intro n
    induction n with
    | zero =>
      intro i env h hi
      have : ds.drop i = [] := by rw [List.drop_eq_nil_iff]; omega
      rw [this]
      have e : i = ds.length := by omega
      rw [e] at hi
      exact hd env hi
    | succ n ih =>
      intro i env h hi
      have hlt : i < ds.length := by omega
      rw [List.drop_eq_getElem_cons hlt]
      exact hs i ds[i] (List.getElem?_eq_getElem hlt) env hi (fun env' => pFor G B Dp (ds.drop (i + 1)) env') fun env' h' => ih (i + 1) env' (by omega) h'
  exact key ds.length 0 env (by omega) h0
theorem pWh_inv {c : PT'} {B : PS'} {Dp : PEnds} {env : List SV} (I : List SV → Prop) (μ : List SV → Nat) (h0 : I env)
    (hs : ∀ env, I env → ∀ K : List SV → Prop, (∀ env', I env' → μ env' < μ env → K env') → c env fun b env1 => if b = true then B { Dp with nx := K, ct := K, bk := Dp.nx } env1 else Dp.nx env1) : sWh c B Dp env := by
  have key : ∀ (n : Nat) (env : List SV), I env → μ env < n → pWh c B Dp n env := by
    intro n
    induction n with
    | zero => intro env _ h; omega
    | succ n ih =>
      intro env hi hm
      exact hs env hi (fun env' => pWh c B Dp n env') fun env' h' hm' => ih env' h' (by omega)
  exact ⟨μ env + 1, key (μ env + 1) env h0 (Nat.lt_succ_self _)⟩
theorem rgD_get {lo : Int} {n i : Nat} {d : D} (h : (rgD lo n)[i]? = some d) : i < n ∧ d = .int (lo + (i : Int)) := by
  unfold rgD at h
  rw [List.getElem?_map] at h
  by_cases hi : i < n
  · rw [List.getElem?_range hi] at h
    cases h
    exact ⟨hi, rfl⟩
  · rw [List.getElem?_eq_none (by rw [List.length_range]; omega)] at h
    cases h
theorem rgD_len {lo : Int} {n : Nat} : (rgD lo n).length = n := by simp [rgD]
theorem len_tl (z : Str) : z.length = z.cps.toList.length := rfl
theorem len_app (a b : Str) : (a ++ b).length = a.length + b.length := by
  rw [len_tl, len_tl, len_tl, tl_app, List.length_append]
theorem ext_tl {a b : Str} (h : a.cps.toList = b.cps.toList) : a = b := by
  obtain ⟨a⟩ := a
  obtain ⟨b⟩ := b
  exact congrArg Str.mk (Array.toList_inj.mp h)
theorem joinL_nil : ∀ xs : List (List Nat), TL.joinL [] xs = xs.flatten
  | [] => rfl
  | [x] => by simp [TL.joinL]
  | x :: y :: r => by
    rw [TL.joinL, joinL_nil (y :: r)]
    rfl
theorem joinE (ys : List Str) : (Txt.join (Str.ofString "") ys).cps.toList = (ys.map fun y => y.cps.toList).flatten := by
  rw [TL.join_eq]
  have h := TL.tl_join (Str.ofString "") ys
  rw [show TL.tl (Str.ofString "") = [] by decide +kernel, joinL_nil] at h
  exact h
end Sw

set_option Elab.async false
set_option linter.all false
set_option maxRecDepth 100000



namespace Sw
open PySem PySem.Spec L2
section
variable {X : Sw.Cz} {K : FgX}
def gRevD : D → Option D
  | .list ds => some (.list ds.reverse)
  | .tuple ds => some (.tuple ds.reverse)
  | _ => none
def qRevA (A : PE') : PE' := fun env Q => A env fun o env1 => ∃ d, o.rd env1 = some d ∧ ∃ d', gRevD d = some d' ∧ Q (.dv d') env1
theorem q_rev {e : Expr} {A : PE'} {k : Nat} {p1 p2 p3 pos : Pos} (he : EV X e A) : EV X (.Subscript e (.Slice none none (some (.UnaryOp .USub (.Constant (.int 1) k p1) p2)) p3) pos) (qRevA A) := by
  obtain ⟨t, h1, l1⟩ := he.ex
  refine ⟨_, SwX.pe_revA h1, fun C σ H F env Q Qp R k q => ?_⟩
  refine l1 C σ H F env _ _ R (fun v H1 F1 env1 o s1 a1 q1 => ?_) q
  obtain ⟨d, e, d', e', q1⟩ := q1
  have w := rd_vw s1.rel a1 e
  unfold gRevD at e'
  split at e'
  · cases e'
    obtain ⟨p, xs, rfl, e1, a2⟩ := w
    refine .inl ⟨p, xs, rfl, SqL.of e1, fun r hr => ?_⟩
    have s4 := s1.rel.alloc (o := .lst xs.reverse) hr
    exact k _ _ _ _ (.dv _) (s1.trans s4) (OvOk.of (At.list_of upd_same (AtAll.mono s4.ff _ _ a2.rev))) q1
  · cases e'
    obtain ⟨p, xs, rfl, e1, a2⟩ := w.tup s1.rel.frz
    refine .inr ⟨p, xs, rfl, e1, fun r hr => ?_⟩
    have s4 := s1.rel.alloc (o := .tup xs.reverse) hr
    exact k _ _ _ _ (.dv _) (s1.trans s4) (OvOk.of (At.tup_of upd_same (AtAll.mono s4.ff _ _ a2.rev))) q1
  · cases e'
theorem gRev_l {ds : List D} : gRevD (.list ds) = some (.list ds.reverse) := rfl
theorem gRev_t {ds : List D} : gRevD (.tuple ds) = some (.tuple ds.reverse) := rfl
def gExtend : List D → List D → Option (D × List D)
  | ds, [.list es] => if ds.length + es.length ≤ sizeLine then some (.none, ds ++ es) else none
  | ds, [.tuple es] => if ds.length + es.length ≤ sizeLine then some (.none, ds ++ es) else none
  | _, _ => none
theorem gExtend_l {ds es : List D} : gExtend ds [.list es] = if ds.length + es.length ≤ sizeLine then some (.none, ds ++ es) else none := rfl
theorem gExtend_t {ds es : List D} : gExtend ds [.tuple es] = if ds.length + es.length ≤ sizeLine then some (.none, ds ++ es) else none := rfl
theorem l_extend : LMO' K (SwX.rExtA K) gExtend := fun H F p xs ys ds es ds' d Q hle hp a b e k => by
  unfold gExtend at e
  split at e
  · split at e
    · cases e
      obtain ⟨y, rfl, ay⟩ := b.one
      simp only [At] at ay
      obtain ⟨q, zs, rfl, e1, a1⟩ := ay
      exact .inl ⟨p, q, xs, zs, rfl, rfl, hp, hle _ _ e1, by rw [a.len, a1.len]; assumption, k _ _ (by simp [At]) (AtAll.app a a1)⟩
    · cases e
  · split at e
    · cases e
      obtain ⟨y, rfl, ay⟩ := b.one
      simp only [At] at ay
      obtain ⟨q, zs, rfl, e1, a1⟩ := ay
      exact .inr ⟨p, q, xs, zs, rfl, rfl, hp, (Le.tupAt hle e1).sqT, by rw [a.len, a1.len]; assumption, k _ _ (by simp [At]) (AtAll.app a a1)⟩
    · cases e
  · cases e
theorem q_moE (i : Nat) {name x : Str} {p apos cpos : Pos} {e : Expr} {es : List Expr} {T : PA'} (hname : name = "extend") (ha : EA X (e :: es) T)
    (hN : X.N[i]? = some x := by rfl) (hv : Vis X.env.scope x := by first | exact Or.inl rfl | exact Or.inr (Or.inl rfl) | exact Or.inr (Or.inr rfl)) (hd : (x == ("__debug__" : Str)) = false := by decide) (hcd : (x == ("__classdict__" : Str)) = false := by decide)
    (hbase : attributeBase (.Name x p) name X.env (eval (.Name x p) X.env) = eval (.Name x p) X.env := by rfl)
    (hfew : ((backTo cpos (starEach (e :: es) X.env)).all (fun x => !x.1) && (backToKw cpos (keywordEach [] X.env)).all (fun x => x.1.isSome)
      && decide ((e :: es).length + ([] : List Keyword).length + (if ([] : List Keyword).isEmpty then 0 else 1) < 30)) = true := by rfl)
    (hline : (apos.endLine == cpos.line) = true := by rfl) (hs : starEach (e :: es) X.env = (false, eval e X.env) :: starEach es X.env := by rfl) (hplain : (backTo cpos (starEach es X.env)).any (·.1) = false := by rfl) :
    EV X (.Call (.Attribute (.Name x p) name apos) (e :: es) [] cpos) (qMO i gExtend T) := by
  subst hname
  obtain ⟨t, h1, l1⟩ := ha.ex
  refine ⟨_, pe_bm PySem.F.plainAttrs_list PySem.F.slot_list_extend PySem.F.type_list_extend SwX.mt_extendA (pe_var hN hv hd hcd) h1 hbase hfew hline hs hplain, fun C σ H F env Q Qp R k q => ?_⟩
  obtain ⟨⟨l0, ds0, e0⟩, q⟩ := q
  obtain ⟨a, xs0, f1, f2, f3, f4, f5⟩ := R.slotL e0
  refine ⟨.ref a, f1, .inl ⟨rfl, xs0, SqL.of f2⟩, ?_⟩
  refine l1 C σ H F env _ _ R (fun vs H1 F1 env1 os s1 a1 q1 => ?_) q
  obtain ⟨es', env2, e1, l, ds, e2, d, ds', e3, q1⟩ := q1
  obtain ⟨F2, s2, a2⟩ := fzAll_ok s1.rel a1 e1
  obtain ⟨a', xs, g1, g2, g3, g4, g5⟩ := s2.rel.slotL e2
  rw [f1] at g1
  cases g1
  refine l_extend H1 F2 a xs vs ds es' ds' d _ s2.rel.frz g2 g5 a2 e3 fun v xs' av ax => ?_
  have s3 := s2.rel.writeL e2 f1 ax
  exact k v _ F2 _ (.dv d) ((s1.trans s2).trans s3) (OvOk.of av) q1
def insS (x : Str) : List Str → List Str
  | [] => [x]
  | y :: r => if ltS y x = true then y :: insS x r else x :: y :: r
def sortS : List Str → List Str
  | [] => []
  | x :: r => insS x (sortS r)
theorem insS_perm (x : Str) : ∀ ys : List Str, (insS x ys).Perm (x :: ys)
  | [] => List.Perm.refl _
  | y :: r => by
    unfold insS
    split
    · exact ((insS_perm x r).cons y).trans (List.Perm.swap x y r)
    · exact List.Perm.refl _
theorem sortS_perm : ∀ ys : List Str, (sortS ys).Perm ys
  | [] => List.Perm.refl _
  | x :: r => (insS_perm x (sortS r)).trans ((sortS_perm r).cons x)
end
end Sw

set_option Elab.async false
set_option linter.all false
set_option maxRecDepth 100000
namespace Sw
open PySem PySem.Spec L2
theorem perm_eq_pw {α : Type} {r : α → α → Prop} (anti : ∀ a b, r a b → r b a → a = b) : ∀ {l m : List α}, l.Perm m → l.Pairwise r → m.Pairwise r → l = m
  | [], m, p, _, _ => (List.nil_perm.mp p).symm
  | a :: l, [], p, _, _ => absurd p.symm (by simp)
  | a :: l, b :: m, p, h1, h2 => by
    have hab : a = b := by
      by_cases e : a = b
      · exact e
      · have ha : a ∈ m := by
          have := p.mem_iff.mp (List.mem_cons_self (a := a) (l := l))
          rcases List.mem_cons.mp this with z | z
          · exact absurd z e
          · exact z
        have hb : b ∈ l := by
          have := p.mem_iff.mpr (List.mem_cons_self (a := b) (l := m))
          rcases List.mem_cons.mp this with z | z
          · exact absurd z.symm e
          · exact z
        exact anti a b ((List.pairwise_cons.mp h1).1 b hb) ((List.pairwise_cons.mp h2).1 a ha)
    subst hab
    rw [perm_eq_pw anti (List.Perm.cons_inv p) (List.pairwise_cons.mp h1).2 (List.pairwise_cons.mp h2).2]
theorem ltS_iff {a b : Str} : ltS a b = true ↔ a.cps.toList < b.cps.toList := decide_eq_true_iff
theorem ltS_irr (a : Str) : ltS a a = false := by
  rw [← Bool.not_eq_true, ltS_iff]
  exact List.lt_irrefl _
theorem ltS_tr {a b c : Str} (h : ltS a b = true) (g : ltS b c = true) : ltS a c = true := by
  rw [ltS_iff] at *
  exact List.lt_trans h g
theorem ltS_as {a b : Str} (h : ltS a b = true) : ltS b a = false := by
  rw [← Bool.not_eq_true]
  intro g
  have := ltS_tr h g
  rw [ltS_irr] at this
  cases this
theorem ltS_tri {a b : Str} (h : ltS a b = false) (g : ltS b a = false) : a = b := by
  rw [← Bool.not_eq_true, ltS_iff] at h g
  exact ext_tl (List.le_antisymm (as := a.cps.toList) (bs := b.cps.toList) g h)
/-- a ≤ b -/
def leS (a b : Str) : Prop := ltS b a = false
theorem leS_tr {a b c : Str} (h : leS a b) (g : leS b c) : leS a c := by
  unfold leS at *
  cases q : ltS c a with
  | false => rfl
  | true =>
    exfalso
    by_cases e : ltS b c = true
    · have := ltS_tr e q
      rw [this] at h; cases h
    · have e : ltS b c = false := by simpa using e
      have := ltS_tri e g
      subst this
      rw [q] at h; cases h
theorem insS_pw {x : Str} : ∀ {ys : List Str}, ys.Pairwise leS → (insS x ys).Pairwise leS
  | [], _ => by simp [insS]
  | y :: r, h => by
    have h' := List.pairwise_cons.mp h
    unfold insS
    split
    · rename_i hy
      refine List.pairwise_cons.mpr ⟨fun z hz => ?_, insS_pw h'.2⟩
      rcases List.mem_cons.mp ((insS_perm x r).mem_iff.mp hz) with e | e
      · subst e
        exact ltS_as hy
      · exact h'.1 z e
    · rename_i hy
      have hy : leS x y := by unfold leS; simpa using hy
      refine List.pairwise_cons.mpr ⟨fun z hz => ?_, h⟩
      rcases List.mem_cons.mp hz with e | e
      · subst e; exact hy
      · exact leS_tr hy (h'.1 z e)
theorem sortS_pw : ∀ ys : List Str, (sortS ys).Pairwise leS
  | [] => List.Pairwise.nil
  | x :: r => insS_pw (sortS_pw r)
theorem sortS_of {xs ys : List Str} (p : ys.Perm xs) (h : ys.Pairwise leS) : ys = sortS xs := perm_eq_pw (r := leS) (fun a b h g => ltS_tri g h) (p.trans (sortS_perm xs).symm) h (sortS_pw xs)
end Sw
namespace Sw
open PySem PySem.Spec L2
open PyProof.Rows (sortedS risingS ltCps_eq)
end Sw
namespace Sw
open PySem PySem.Spec L2
theorem seqOf_l {ds : List D} : seqOf (.list ds) = some ds := rfl
theorem seqOf_t {ds : List D} : seqOf (.tuple ds) = some ds := rfl
theorem itemsOf_l {ds : List D} : itemsOf (.list ds) = some ds := rfl
theorem itemsOf_t {ds : List D} : itemsOf (.tuple ds) = some ds := rfl
theorem itemsOf_s {z : Str} : itemsOf (.str z) = some (z.cps.toList.map signD) := rfl
theorem gJoin_s {z : Str} {ys : List Str} : gJoin z (ys.map .str) = if (ys.map (·.length)).sum + ys.length * z.length ≤ 16777216 then some (.str (Txt.join z ys)) else none := by
  show ((strsOf (ys.map .str)).bind _) = _
  rw [strsOf_map]
  rfl
theorem gAll_b {bs : List Bool} : gAll [.list (bs.map .bool)] = some (.bool (bs.all id)) := by
  show (boolsOf (bs.map .bool)).map _ = _
  rw [boolsOf_map]
  rfl
theorem gAny_b {bs : List Bool} : gAny [.list (bs.map .bool)] = some (.bool (bs.any id)) := by
  show (boolsOf (bs.map .bool)).map _ = _
  rw [boolsOf_map]
  rfl
theorem gPopAt_1 {ds : List D} {i : Int} : gPopAt ds [.int i] = if -(2 ^ 63) ≤ i ∧ i < 2 ^ 63 then (seqIndex? i ds.length).bind fun j => ds[j]?.map fun d => (d, ds.eraseIdx j) else none := rfl
theorem isi_str {T : Ty} {z : Str} : isi T (.str z) = match T with | .str => true | _ => false := by cases T <;> rfl
theorem isi_int {T : Ty} {z : Int} : isi T (.int z) = match T with | .int => true | _ => false := by cases T <;> rfl
theorem isi_bool {T : Ty} {z : Bool} : isi T (.bool z) = match T with | .int => true | .bool => true | _ => false := by cases T <;> rfl
theorem isi_list {T : Ty} {z : List D} : isi T (.list z) = match T with | .list => true | _ => false := by cases T <;> rfl
theorem isi_tuple {T : Ty} {z : List D} : isi T (.tuple z) = match T with | .tuple => true | _ => false := by cases T <;> rfl
theorem isi_none {T : Ty} : isi T .none = false := by cases T <;> rfl
def okI (d : D) : Prop := d.plain = true ∧ d.depth ≤ 39
theorem okD_list {xs : List D} (h : ∀ x ∈ xs, okI x) : okD (.list xs) = true ∧ okD (.tuple xs) = true := by
  have hp : PyData.plainAll xs = true := by
    induction xs with
    | nil => rfl
    | cons x r ih =>
      rw [PyData.plainAll, (h x List.mem_cons_self).1, ih fun y hy => h y (List.mem_cons_of_mem _ hy)]
      rfl
  have hd : PyData.depthAll xs ≤ 39 := by
    clear hp
    induction xs with
    | nil => exact Nat.zero_le _
    | cons x r ih =>
      have h1 := (h x List.mem_cons_self).2
      have h2 := ih fun y hy => h y (List.mem_cons_of_mem _ hy)
      rw [PyData.depthAll]
      omega
  unfold okD
  constructor
  · rw [show (PyData.list xs).plain = true from hp, PyData.depth, Bool.true_and, decide_eq_true_eq]
    omega
  · rw [show (PyData.tuple xs).plain = true from hp, PyData.depth, Bool.true_and, decide_eq_true_eq]
    omega
theorem okI_str (z : Str) : okI (.str z) := ⟨rfl, by simp [PyData.depth]⟩
theorem okI_int (z : Int) : okI (.int z) := ⟨rfl, by simp [PyData.depth]⟩
theorem okD_of {d : D} (h : okI d) : okD d = true := by
  have h2 := h.2
  unfold okD
  rw [h.1, Bool.true_and, decide_eq_true_eq]
  omega
theorem okD_strs (ys : List Str) : okD (.list (ys.map .str)) = true ∧ okD (.tuple (ys.map .str)) = true := okD_list fun x hx => by
  obtain ⟨y, _, rfl⟩ := List.mem_map.mp hx
  exact okI_str y
theorem gIn_strs {neg : Bool} {z : Str} {ys : List Str} : gIn neg (.str z) (.list (ys.map .str)) = some (.bool (if neg then !decide (z ∈ ys) else decide (z ∈ ys))) := by
  show (if okD (PyData.str z) = true ∧ okD (.list (ys.map PyData.str)) = true then some (inB neg (.str z) (ys.map PyData.str)) else none) = _
  unfold inB
  have e : ((ys.map PyData.str).any fun y => PyData.eqv y (.str z)) = decide (z ∈ ys) := by
    induction ys with
    | nil => rfl
    | cons y r ih =>
      rw [List.map_cons, List.any_cons, ih]
      show ((y == z) || decide (z ∈ r)) = decide (z ∈ y :: r)
      by_cases h1 : y = z
      · rw [h1, beq_self_eq_true, Bool.true_or]
        exact (decide_eq_true List.mem_cons_self).symm
      · rw [beq_eq_false_iff_ne.mpr h1, Bool.false_or]
        by_cases h2 : z ∈ r
        · rw [decide_eq_true h2]
          exact (decide_eq_true (List.mem_cons_of_mem _ h2)).symm
        · rw [decide_eq_false h2]
          refine (decide_eq_false fun h3 => ?_).symm
          rcases List.mem_cons.mp h3 with e | e
          · exact h1 e.symm
          · exact h2 e
  rw [if_pos ⟨okD_of (okI_str z), (okD_strs ys).1⟩, e]
theorem gNe_nil {xs : List D} (h : ∀ x ∈ xs, okI x) : gEq true (.list xs) (.list []) = some (.bool (!xs.isEmpty)) := by
  show (if okD (.list xs) = true ∧ okD (.list []) = true then some (PyData.bool (!PyData.eqv (.list xs) (.list []))) else none) = _
  rw [if_pos ⟨(okD_list h).1, by rfl⟩]
  cases xs <;> rfl
end Sw
namespace Sw
open PySem PySem.Spec L2
theorem gIsN_b {neg : Bool} {b : Bool} : gIsN neg (.bool b) .none = some (.bool neg) := rfl
theorem gIsN_i {neg : Bool} {b : Int} : gIsN neg (.int b) .none = some (.bool neg) := rfl
theorem gIsN_s {neg : Bool} {b : Str} : gIsN neg (.str b) .none = some (.bool neg) := rfl
theorem gIsN_l {neg : Bool} {b : List D} : gIsN neg (.list b) .none = some (.bool neg) := rfl
theorem gIsN_t {neg : Bool} {b : List D} : gIsN neg (.tuple b) .none = some (.bool neg) := rfl
theorem gIsN_d {neg : Bool} {b : List (D × D)} : gIsN neg (.dict b) .none = some (.bool neg) := rfl
end Sw
namespace Sw
open PySem PySem.Spec L2
def atomD : D → Prop
  | .list _ => False
  | .tuple _ => False
  | .dict _ => False
  | _ => True
theorem At.atom {K : FgK} {F F' : Hp} {d : D} {v : V} (h : atomD d) (a : At K F d v) : At K F' d v := by
  cases d with
  | list _ => exact h.elim
  | tuple _ => exact h.elim
  | dict _ => exact h.elim
  | none => simpa [At] using a
  | bool b => simpa [At] using a
  | int b => simpa [At] using a
  | str b => simpa [At] using a
def qCallV (sp : PSp) (T : PA') : PE' := fun env Q => T env fun os env1 => ∃ ds env2, fzAll env1 os = some (ds, env2) ∧ sp none ds fun rv _ => ∃ d, rv = .dt d ∧ atomD d ∧ Q (.dv d) env1
theorem LE.callV {X : Cz} {sp : PSp} {T : PA'} {t : TA} {dvs : List V} {dds : List D} {E : XK} (hd : constsOk dvs dds) (l1 : LA X.fr t T) : LE X.fr (tCall (spOf X.fr false sp) dvs E t) (qCallV sp (qAddD T dds)) := fun C σ H F env Q Qp R kk q => by
  refine l1 C σ H F env _ _ R (fun vs H1 F1 env1 os s1 a1 q1 => ?_) q
  obtain ⟨ds, env2, e1, q1⟩ := q1
  obtain ⟨F2, s2, a2⟩ := fzAll_ok s1.rel (a1.app (hd X.fr F1)) e1
  refine ⟨F2, none, none, ds, vs ++ dvs, s2.rel.frz, a2, by rw [if_neg (by decide)]; exact ⟨rfl, rfl, rfl⟩, _, q1, fun v H' F' rv fl' pp qq => ?_⟩
  obtain ⟨d, rfl, ha, qq⟩ := qq
  have keep : ∀ b o, H1 b = some o → H' b = some o := fun b o h => pp.frame b o h (fun z => nomatch z)
  have R1 := s1.rel
  have st : Stp X.fr C σ H1 F1 env1 H' F1 env1 := by
    refine ⟨⟨⟨fun b o h => keep b o (R1.frz b o h), R1.mono, R1.new, fun b o h n => keep b o (R1.frame b o h n), fun a h => ?_, R1.len, fun i sv e => ?_, R1.dist⟩, R1.xok⟩, Le.rfl', fun b o h _ => keep b o h, fun b o h => .inl h, fun i l ds h => ⟨ds, h⟩, fun b h => ?_⟩
    · obtain ⟨⟨xs, e⟩, f, g⟩ := R1.la a h
      exact ⟨⟨xs, keep a _ e⟩, f, g⟩
    · have q := R1.slot i sv e
      cases sv with
      | un => trivial
      | raw z => exact q
      | dat d => exact q
      | obj l ds =>
        obtain ⟨r, xs, e1, e2, e3, e4, e5⟩ := q
        exact ⟨r, xs, e1, keep r _ e2, e3, e4, e5⟩
    · cases q : H1 b with
      | none => rfl
      | some u =>
        rw [keep b u q] at h; cases h
  exact kk v H' F1 env1 (.dv d) (s1.trans st) (At.atom ha pp.res) qq
theorem q_calV {X : Cz} {k j : Nat} {ps : List Str} {sp : PSp} {x : Str} {e : Expr} {es : List Expr} {T : PA'} {p pos : Pos} {dds : List D} (c : Cal X.prog X.w X.fr X.mg X.base k x false ps dds sp) (hr : Room j X.A) (hkj : k ≤ j) (hg : Gl X x) (ha : EA X (e :: es) T) (hdb : (x == ("__debug__" : Str)) = false := by decide) (he : starEach (e :: es) X.env = (false, eval e X.env) :: starEach es X.env := by rfl) (hpl : (backTo pos (starEach es X.env)).any (·.1) = false := by rfl) :
    EV X (.Call (.Name x p) (e :: es) [] pos) (qCallV sp (qAddD T dds)) := by
  obtain ⟨f, fd, dvs, ds, h1, h2, h3, h4, h5, h6⟩ := c.ex
  obtain ⟨t, g1, l1⟩ := ha.ex
  exact ⟨_, pe_call h1 (hr.mono hkj) hg h2 h3 h4 h5 pass0 g1 hdb he hpl, LE.callV h6 l1⟩
theorem ex_dt {d : D} {P : D → Prop} : (∃ d', RV.dt d = RV.dt d' ∧ P d') ↔ P d := ⟨fun ⟨_, e, h⟩ => by cases e; exact h, fun h => ⟨d, rfl, h⟩⟩
theorem ex_fr {ds : List D} {P : List D → Prop} : (∃ es, RV.fr ds = RV.fr es ∧ P es) ↔ P ds := ⟨fun ⟨_, e, h⟩ => by cases e; exact h, fun h => ⟨ds, rfl, h⟩⟩
theorem ex_frL {fd ds : List D} {P : List D → List D → Prop} : (∃ fd' es, some fd = some fd' ∧ RV.fr ds = RV.fr es ∧ P fd' es) ↔ P fd ds := ⟨fun ⟨_, _, e, e2, h⟩ => by cases e; cases e2; exact h, fun h => ⟨fd, ds, rfl, rfl, h⟩⟩
theorem atom_b {b : Bool} : atomD (.bool b) ↔ True := Iff.rfl
theorem atom_i {b : Int} : atomD (.int b) ↔ True := Iff.rfl
theorem atom_s {b : Str} : atomD (.str b) ↔ True := Iff.rfl
theorem atom_n : atomD .none ↔ True := Iff.rfl
end Sw
namespace Sw
open PySem PySem.Spec L2
theorem ex_tupv {a : List D} {P : List D → Prop} : (∃ ds, PyData.tuple a = .tuple ds ∧ P ds) ↔ P a := ⟨fun ⟨_, e, h⟩ => by cases e; exact h, fun h => ⟨a, rfl, h⟩⟩
theorem ex_consv {a : D} {b : List D} {P : D → List D → Prop} : (∃ d r, a :: b = d :: r ∧ P d r) ↔ P a b := ⟨fun ⟨_, _, e, h⟩ => by cases e; exact h, fun h => ⟨a, b, rfl, h⟩⟩
end Sw

set_option Elab.async false
set_option linter.all false
set_option maxRecDepth 100000
namespace Sw
open PySem PySem.Spec L2
abbrev rLstF (K : FgK) : List V → Hp → VK → Prop := fun xs H Q => ∃ p ys, xs = [V.ref p] ∧ (SqL K H p ys ∨ SqT K H p ys) ∧ ∀ l, H l = none → Q (.ref l) (upd H l (.lst ys))
def t_flow (K : FgK) : TS := tRet (tLst (tCons (tCB (rLstF K) (tCons (tVar 0) tNil)) (tCons (tC (.int 0)) (tCons (tC (.int 0)) (tCons (tC (.int 1)) (tCons (tC (.int 0)) tNil))))))
def spFlow (K : FgK) : Sp := fun vs H Q _ => ∃ (a : Addr) (xs : List V), vs = [.ref a] ∧ SqL K H a xs ∧ ∀ c p, p ≠ c → Q (.ref p) (upd (upd H c (.lst xs)) p (.lst [.ref c, .int 0, .int 0, .int 1, .int 0]))
theorem pure_flow {K : FgK} (vs : List V) (H : Hp) (Q : VK) (E : XK) (h : spFlow K vs H Q E) : t_flow K { nx := fun _ H' => Q .non H', rt := Q } (start ["_law_script"] vs) H := by
  obtain ⟨a, xs, rfl, hs, k⟩ := h
  refine ⟨_, rfl, a, xs, rfl, .inl hs, fun c hc => ?_⟩
  refine ⟨by rw [sizeLine_eq]; simp, fun p hp => ?_⟩
  refine k c p ?_
  rintro rfl
  rw [upd_same] at hp
  cases hp
theorem len_flow {K : FgK} (vs : List V) (H : Hp) (Q : VK) (E : XK) (h : spFlow K vs H Q E) : vs.length = 1 := by
  obtain ⟨a, xs, rfl, _⟩ := h
  rfl
/-- what a law promises -/
def spLaw (K : FgK) : Sp := fun vs H Q _ => ∃ (a : Addr) (ns : List Int), vs = [.ref a] ∧ ns.length ≤ 63 ∧ SqL K H a (ns.map V.int) ∧ ∀ H', Q (.bl true) H'
abbrev flow0 (ns : List Int) : List D := [.list (ns.map .int), .int 0, .int 0, .int 1, .int 0]
theorem at_ints {K : FgK} {F : Hp} : ∀ ns : List Int, AtAll K F (ns.map PyData.int) (ns.map V.int)
  | [] => AtAll.nil
  | n :: r => AtAll.cons (by simp [At]) (at_ints r)
theorem law_start {K : FgK} {H : Hp} {ns : List Int} {c p a : Addr} (hpc : p ≠ c) (N : List Str) (hN : 2 ≤ N.length) :
    RelB K ⟨fun _ => none, fun _ => none, none⟩ ((start N [.ref a]).set 1 (some (.ref p))) (upd (upd H c (.lst (ns.map V.int))) p (.lst [.ref c, .int 0, .int 0, .int 1, .int 0])) (upd (fun _ => none) c (.lst (ns.map V.int)))
      (SV.un :: SV.own false (flow0 ns) :: List.replicate (N.length - 2) SV.un) := by
  obtain ⟨n, e⟩ : ∃ n, N.length = n + 2 := ⟨N.length - 2, by omega⟩
  have es : (start N [.ref a]).set 1 (some (.ref p)) = some (.ref a) :: some (.ref p) :: List.replicate n none := by
    unfold L2.start
    rw [e]
    show List.set (some (V.ref a) :: List.replicate (n + 1) none) 1 _ = _
    rw [List.replicate_succ]
    rfl
  rw [es, e, Nat.add_sub_cancel]
  have own : ∀ (i : Nat) (l : Bool) (ds : Ct), (SV.un :: SV.own false (flow0 ns) :: List.replicate n SV.un)[i]? = some (SV.obj l ds) → i = 1 ∧ l = false ∧ ds = .lst (flow0 ns) := fun i l ds h => by
    match i, h with
    | 0, h => cases h
    | 1, h => cases h; exact ⟨rfl, rfl, rfl⟩
    | i + 2, h =>
      have h : (List.replicate n SV.un)[i]? = some (SV.obj l ds) := h
      have := (List.mem_replicate.mp (List.mem_of_getElem? h)).2
      cases this
  refine ⟨fun b o h => ?_, fun b o h => (nomatch h), fun b o h => .inr rfl, fun b o h => (nomatch h), fun a h => (nomatch h), by simp, fun i sv h => ?_, fun i j l ds m es h1 h2 _ => ?_⟩
  · by_cases eb : b = c
    · subst eb
      rw [upd_same] at h
      cases h
      rw [upd_ne hpc.symm, upd_same]
    · rw [upd_ne eb] at h
      cases h
  · cases sv with
    | un => trivial
    | raw z =>
      match i, h with
      | 0, h => cases h
      | 1, h => cases h
      | i + 2, h =>
        have h : (List.replicate n SV.un)[i]? = some (SV.raw z) := h
        have := (List.mem_replicate.mp (List.mem_of_getElem? h)).2
        cases this
    | dat d =>
      match i, h with
      | 0, h => cases h
      | 1, h => cases h
      | i + 2, h =>
        have h : (List.replicate n SV.un)[i]? = some (SV.dat d) := h
        have := (List.mem_replicate.mp (List.mem_of_getElem? h)).2
        cases this
    | obj l ds =>
      obtain ⟨rfl, rfl, rfl⟩ := own i l ds h
      refine ⟨p, _, rfl, upd_same, ?_, rfl, ?_⟩
      · rw [upd_ne hpc]
      · refine ⟨_, rfl, ?_⟩
        refine AtAll.cons ?_ (AtAll.cons (by simp [At]) (AtAll.cons (by simp [At]) (AtAll.cons (by simp [At]) (AtAll.cons (by simp [At]) AtAll.nil))))
        simp only [At]
        exact ⟨c, _, rfl, upd_same, at_ints ns⟩
  · rw [(own i l ds h1).1, (own j m es h2).1]
theorem law_ends {K : FgX} {C : Ec} {F : Hp} {Q : VK} (k : ∀ H', Q (.bl true) H') : EndsOk K C F { nx := fun _ H' => Q .non H', rt := Q } (endsOf false fun rv _ => rv = .dt (.bool true)) := by
  refine ⟨fun σ' H' F' env' R l h => ?_, fun σ' H' F' env' rv v R l hv h => ?_, fun σ' H' F' env' R l h => h.elim, fun σ' H' F' env' R l h => h.elim⟩
  · obtain ⟨fl, _, h⟩ := h
    cases h
  · obtain ⟨fl, _, rfl⟩ := h
    have hv : At K F' (.bool true) v := hv
    simp only [At] at hv
    subst hv
    exact k H'
section
variable {P : Program} {w : World} {K : PySem.W.Frag} {mg : Str → Option Value} {base : Heap}
theorem law_ok {x qual y : Str} {params : Arguments} {st : Stmt} {rest : List Stmt} {scope : Scope} {f : Addr} {fd : FuncData} {N : List Str} {k : Nat} {T : PS'} (F : FunD K x qual params (st :: rest) scope [] [] f fd) (S : FnScope N [y] scope) (hN : 2 ≤ N.length)
    (hbody : ∀ (cdv : Value) (A : Around) (outer : List Env) (s : Shared) (H : Hp) (E : XK), Room k (A.deeper (PyProof.Rows.envOfC qual scope s.heap.objs.size f cdv)) →
      PS (cxOf CX0 P w K mg base N qual scope f cdv A outer s H E).nox st (tAsg (tCall (spFlow ⟨K, P, w⟩) [] E0 (tCons (tVar 0) tNil)) (gName 1)) ∧ EB (of0 (cxOf CX0 P w K mg base N qual scope f cdv A outer s H E).nox) rest T)
    (hT : ∀ ns : List Int, ns.length ≤ 63 → T (endsOf false fun rv _ => rv = .dt (.bool true)) (SV.un :: SV.own false (flow0 ns) :: List.replicate (N.length - 2) SV.un)) : FnOk P w K mg base CX0 (k + 1) f fd [y] (spLaw ⟨K, P, w⟩) := by
  refine F.ok S (fun vs H Q E h => ?_) (fun cdv A outer s H vs Q E hr h => ?_)
  · obtain ⟨a, ns, rfl, _⟩ := h
    rfl
  · obtain ⟨a, ns, rfl, hl, hs, hQ⟩ := h
    obtain ⟨h1, h2⟩ := hbody cdv A outer s H E hr
    obtain ⟨t, g1, l1⟩ := h2.ex
    refine ⟨_, PSs.nox (pss_cons h1 g1), ?_⟩
    refine ⟨V.ref a, ?_, a, ns.map V.int, rfl, hs, fun c p hpc => ?_⟩
    · unfold L2.start
      rfl
    · exact l1 _ _ _ _ _ _ _ ⟨law_start hpc N hN, xok_no rfl⟩ (law_ends hQ) (hT ns hl)
end
end Sw

set_option Elab.async false
set_option linter.all false
set_option maxRecDepth 100000
namespace Sw
open PySem PySem.Spec L2 PyProof.Rows
def noneD : D → Bool
  | .none => true
  | _ => false
def tup1 : D → Bool
  | .tuple (_ :: _) => true
  | _ => false
def noTup : D → Bool
  | .tuple _ => false
  | d => !noneD d
def okSort (ds : List D) : Bool := ds.all okD && (ds.all (fun d => ds.all fun e => W.alike d e) && (ds.all tup1 || ds.all noTup))
theorem okSort_spec {ds : List D} (h : okSort ds = true) : (∀ d ∈ ds, okD d = true) ∧ W.AllAlike ds ∧ W.Sortable ds := by
  unfold okSort at h
  obtain ⟨h1, h⟩ := Bool.and_eq_true_iff.mp h
  obtain ⟨h2, h⟩ := Bool.and_eq_true_iff.mp h
  refine ⟨List.all_eq_true.mp h1, fun d hd e he => List.all_eq_true.mp (List.all_eq_true.mp h2 d hd) e he, ?_⟩
  rcases Bool.or_eq_true_iff.mp h with h | h
  · refine .inl fun d hd => ?_
    have := List.all_eq_true.mp h d hd
    unfold tup1 at this
    split at this
    · exact ⟨_, _, rfl⟩
    · cases this
  · refine .inr fun d hd => ?_
    have := List.all_eq_true.mp h d hd
    constructor
    · rintro rfl
      cases this
    · rintro xs rfl
      cases this
section
variable {X : Cz}
abbrev zipSort (xs : List V) (ds : List D) : List (V × D) := (xs.zip ds).mergeSort fun p q => leD p.2 q.2
def rSortedD (K : FgK) : List V → Hp → VK → Prop := fun vs H Q => ∃ (a : Addr) (xs : List V) (ds : List D), vs = [V.ref a] ∧ SqL K H a xs ∧ DpAll K H xs ds ∧ okSort ds = true ∧
  ∀ p, H p = none → Q (.ref p) (upd H p (.lst ((zipSort xs ds).map Prod.fst)))
theorem zip_each {R : Value → D → Prop} : ∀ {xs : List V} {its : List Value} {ds : List D}, Vals xs its → W.EachIs R its ds → W.EachIs (fun v (b : V × D) => RelV b.1 v ∧ R v b.2) its (xs.zip ds)
  | _, _, _, .nil, .nil => .nil
  | _, _, _, .cons r q, .cons a b => .cons ⟨r, a⟩ (zip_each q b)
theorem dp_len {K : FgK} {H : Hp} : ∀ {xs : List V} {ds : List D}, DpAll K H xs ds → xs.length = ds.length
  | _, _, .nil => rfl
  | _, _, .cons _ r => by rw [List.length_cons, List.length_cons, dp_len r]
theorem each_vals : ∀ {out : List Value} {bs : List (V × D)}, W.EachIs (fun v (b : V × D) => RelV b.1 v) out bs → Vals (bs.map Prod.fst) out
  | _, _, .nil => .nil
  | _, _, .cons a r => .cons a (each_vals r)
theorem cr_sortedD (hu : X.A.units + 64 < cLine) : CallR X (.builtin "sorted") (rSortedD X.fr) := by
  intro pins s σ H vs us Q I r h
  obtain ⟨a, xs, ds, rfl, hs, hd, ho, q⟩ := h
  obtain ⟨o1, o2, o3⟩ := okSort_spec ho
  obtain ⟨its, rv, hl, hz⟩ := I.list hs
  obtain ⟨u, rfl, ru⟩ := vals1 r
  obtain rfl : u = Value.ref a := ru
  obtain ⟨as, rr⟩ := Dp.readsAll I ds xs its hd rv
  have len := dp_len hd
  have e0 : W.EachIs (fun v d => ∃ as, Reads s.heap v d as) its ds := W.readsAll_each (enc := fun d => d) (by rw [List.map_id']; exact rr)
  have e1 := zip_each rv e0
  have es : (xs.zip ds).map Prod.snd = ds := List.map_snd_zip (Nat.le_of_eq len.symm)
  refine W.sorted_data (enc := Prod.snd) (R := fun v (b : V × D) => RelV b.1 v) hl.isList (e1.mono fun _ _ h => h.1) (e1.mono fun _ _ h => h.2) (by rw [es]; exact o2) (by rw [es]; exact o3) ?_ (fun b hb => ?_) fun out hlen ho => ?_
  · rw [List.length_zip, ← len, Nat.min_self]
    exact hz
  · have : b.2 ∈ ds := (List.of_mem_zip hb).2
    have := okD_depth (o1 _ this)
    omega
  · obtain ⟨n, hn⟩ := sortedAll_at s.heap its (List.toArray out)
    have hd' : s.heap.objs.size ≤ s.heap.objs.size + 1 := Nat.le_succ _
    refine ⟨.ref (s.heap.objs.size + 1), upd H (s.heap.objs.size + 1) (.lst ((zipSort xs ds).map Prod.fst)), I.laid (t' := s.toks) (fun b o e => sortedAll_old e) hd' ⟨?_, out, n, each_vals ho, hn⟩, rfl, q _ (I.hok.fresh hd')⟩
    rw [List.length_map, List.length_mergeSort, List.length_zip, ← len, Nat.min_self]
    exact hz
end
section
variable {K : FgX}
def gSortD : List D → Option (List D)
  | [.list ds] => if okSort ds = true then some (srtD ds) else none
  | _ => none
theorem at_zip {F : Hp} : ∀ {ds : List D} {xs : List V}, AtAll K F ds xs → xs.length = ds.length ∧ ∀ p ∈ xs.zip ds, At K F p.2 p.1
  | [], xs, h => by
    simp only [AtAll] at h
    subst h
    exact ⟨rfl, fun p hp => nomatch hp⟩
  | d :: ds, xs, h => by
    simp only [AtAll] at h
    obtain ⟨x, r, rfl, a, q⟩ := h
    obtain ⟨h1, h2⟩ := at_zip q
    refine ⟨by rw [List.length_cons, List.length_cons, h1], fun p hp => ?_⟩
    rcases List.mem_cons.mp (show p ∈ (x, d) :: r.zip ds from hp) with rfl | hp
    · exact a
    · exact h2 p hp
theorem of_pairs {F : Hp} : ∀ {ps : List (V × D)}, (∀ p ∈ ps, At K F p.2 p.1) → AtAll K F (ps.map Prod.snd) (ps.map Prod.fst)
  | [], _ => AtAll.nil
  | p :: r, h => AtAll.cons (h p List.mem_cons_self) (of_pairs fun q hq => h q (List.mem_cons_of_mem _ hq))
theorem zipSort_snd {xs : List V} {ds : List D} (h : xs.length = ds.length) : (zipSort xs ds).map Prod.snd = srtD ds := by
  unfold zipSort srtD
  rw [W.sort_maps (r := fun p q : V × D => leD p.2 q.2) (s := leD) Prod.snd (fun _ _ _ _ => rfl), List.map_snd_zip (Nat.le_of_eq h.symm)]
theorem plain_of : ∀ {ds : List D}, (∀ d ∈ ds, okD d = true) → PyData.plainAll ds = true
  | [], _ => rfl
  | d :: r, h => by
    simp only [PyData.plainAll, okD_plain (h d List.mem_cons_self), Bool.true_and]
    exact plain_of fun x hx => h x (List.mem_cons_of_mem _ hx)
theorem okSort_plain {ds : List D} (h : okSort ds = true) : PyData.plainAll ds = true := plain_of (okSort_spec h).1
theorem l_sortD : LCF K (rSortedD K) gSortD := fun C σ H F env xs ds es Q R a e k => by
  unfold gSortD at e
  split at e
  · split at e
    · rename_i ho
      cases e
      obtain ⟨x, rfl, w⟩ := a.one
      obtain ⟨p, zs, rfl, e1, a2⟩ := w
      refine ⟨p, zs, _, rfl, SqL.of e1, AtAll.dp _ _ (okSort_plain ho) (AtAll.mono R.frz _ _ a2), ho, fun l hl => ?_⟩
      obtain ⟨s, f, h, n⟩ := R.alloc0 (o := .lst ((zipSort zs _).map Prod.fst)) hl
      refine k l _ F s f h n hl ?_
      obtain ⟨z1, z2⟩ := at_zip a2
      rw [← zipSort_snd z1]
      exact of_pairs fun q hq => z2 q ((List.mergeSort_perm _ _).mem_iff.mp hq)
    · cases e
  · cases e
end
theorem okSort_strs (ys : List Str) : okSort (ys.map .str) = true := by
  have h1 : (ys.map PyData.str).all okD = true := List.all_eq_true.mpr fun x hx => by
    obtain ⟨y, _, rfl⟩ := List.mem_map.mp hx
    exact okD_of (okI_str y)
  have h2 : (ys.map PyData.str).all noTup = true := List.all_eq_true.mpr fun x hx => by
    obtain ⟨y, _, rfl⟩ := List.mem_map.mp hx
    rfl
  have h3 : ((ys.map PyData.str).all fun d => (ys.map PyData.str).all fun e => W.alike d e) = true := List.all_eq_true.mpr fun x hx => List.all_eq_true.mpr fun z hz => by
    obtain ⟨y, _, rfl⟩ := List.mem_map.mp hx
    obtain ⟨y2, _, rfl⟩ := List.mem_map.mp hz
    rfl
  unfold okSort
  rw [h1, h2, h3, Bool.or_true]
  rfl
theorem leD_str (a b : Str) : leD (.str a) (.str b) = !ltS b a := by
  have h := congrFun (congrFun (W.dataLe_str (fun b : Str => b)) a) b
  have h : leD (.str a) (.str b) = decide (a.cps.toList ≤ b.cps.toList) := h
  rw [h]
  unfold ltS
  by_cases c : b.cps.toList < a.cps.toList
  · rw [decide_eq_true c, decide_eq_false fun z => z c]
    rfl
  · rw [decide_eq_false c]
    exact decide_eq_true (show a.cps.toList ≤ b.cps.toList from c)
theorem srtD_strs (ys : List Str) : srtD (ys.map .str) = (sortS ys).map .str := by
  unfold srtD
  rw [← W.sort_maps (r := fun a b : Str => !ltS b a) (s := leD) PyData.str fun a _ b _ => (leD_str a b).symm]
  congr 1
  refine sortS_of (List.mergeSort_perm _ _) ?_
  have tot : W.TotalLe fun a b : Str => !ltS b a := ⟨fun a b c h g => ?_, fun a b => ?_⟩
  · refine (W.sort_pairwise tot ys).imp fun {a b} h => ?_
    simpa [leS] using h
  · have h : leS a b := by simpa [leS] using h
    have g : leS b c := by simpa [leS] using g
    have := leS_tr h g
    simpa [leS] using this
  · cases q : ltS b a with
    | false => exact .inl rfl
    | true => exact .inr (by rw [ltS_as q]; rfl)
theorem gSortD_s {ys : List Str} : gSortD [.list (ys.map .str)] = some ((sortS ys).map .str) := by
  show (if okSort (ys.map PyData.str) = true then some (srtD (ys.map PyData.str)) else none) = _
  rw [if_pos (okSort_strs ys), srtD_strs]
end Sw

set_option Elab.async false
set_option linter.all false
set_option maxRecDepth 100000
namespace Sw
open PySem PySem.Spec L2
section
variable {X : Cz}
def qNeg (A : PE') : PE' := fun env Q => A env fun o env1 => ∃ i, o.rd env1 = some (.int i) ∧ Q (.dv (.int (-i))) env1
end
/-- the slots' names do not matter -/
theorem pure_ren {M N : List Str} (h : M.length = N.length) {T : PS'} {l : Bool} {sp : PSp} (p : ∀ fl ds Q, (l = true ↔ fl ≠ none) → sp fl ds Q → T (endsOf l Q) (startE l N fl ds)) : ∀ fl ds Q, (l = true ↔ fl ≠ none) → sp fl ds Q → T (endsOf l Q) (startE l M fl ds) := fun fl ds Q a b => by
  have e : startE l M fl ds = startE l N fl ds := by
    unfold startE
    rw [h]
  rw [e]
  exact p fl ds Q a b
end Sw

set_option Elab.async false
set_option linter.all false
set_option maxRecDepth 100000
namespace Sw
open PySem PySem.Spec L2
section
variable {X : Cz} {K : FgX}
def tyD (T : String) : D → Prop
  | .str _ => T = "str"
  | .list _ => T = "list"
  | _ => False
def qVM (T : String) (g : D → List D → Option D) (A : PE') (U : PA') : PE' := fun env Q => A env fun o env1 => (∃ d0, o.rd env1 = some d0 ∧ tyD T d0) ∧ U env1 fun os env2 => ∃ d, o.rd env2 = some d ∧ ∃ ds, rdAll env2 os = some ds ∧ ∃ r, g d ds = some r ∧ Q (.dv r) env2
def fVM (T : String) (g : D → List D → Option (List D)) (A : PE') (U : PA') : PF' := fun env Q => A env fun o env1 => (∃ d0, o.rd env1 = some d0 ∧ tyD T d0) ∧ U env1 fun os env2 => ∃ d, o.rd env2 = some d ∧ ∃ ds, rdAll env2 os = some ds ∧ ∃ r, g d ds = some r ∧ Q r env2
end
end Sw

set_option Elab.async false
set_option linter.all false
set_option maxRecDepth 100000
/-! sorted(xs, key=f), f a def of the program: the calls may make tracked things -/
namespace Sw
open PySem PySem.Spec PySem.Calls PyProof.Rows
end Sw
namespace Sw
open PySem PySem.Spec L2 FbM PyProof.Rows
end Sw

set_option Elab.async false
set_option linter.all false
set_option maxRecDepth 100000
namespace Sw
open PySem PySem.Spec L2
section
variable {X : Cz}
def pKeys (sp : PSp) : List D → List D → (List D → Prop) → Prop
  | [], acc, Q => Q acc
  | x :: r, acc, Q => sp none [x] fun rv _ => ∃ kd, rv = .dt kd ∧ pKeys sp r (acc ++ [kd]) Q
/-- xs in the order of the keys ks -/
def byKeys (xs ks : List D) : List D := ((xs.zip ks).mergeSort fun p q => leD p.2 q.2).map Prod.fst
def fSortK (sp : PSp) (A : PE') : PF' := fun env Q => A env fun o env1 => ∃ xs, o.rd env1 = some (.list xs) ∧ pKeys sp xs [] fun ks => okSort ks = true ∧ Q (byKeys xs ks) env1
end
end Sw

set_option Elab.async false
set_option linter.all false
set_option maxRecDepth 100000
namespace Sw
open PySem PySem.Spec PyProof.Rows
section
variable {prog : Program} {w : World} {A : Around} {E : Value → Shared → Prop} {s : Shared}
theorem minL_data {l : Addr} {vs : List Value} {x : D} {xs : List D} {as : List Addr} {Q : Value → Shared → Prop} (hh : A.handled = none) (hl : s.heap.IsList l vs.toArray) (hr : ReadsAll s.heap vs (x :: xs) as) (ha : W.AlikeAll (x :: xs)) (hu : A.units + 1 + PyData.depthAll (x :: xs) < cLine)
    (h : ∀ (i : Nat) v h' tk, vs[i]? = some v → (x :: xs)[i]? = some (W.minD x xs) → (∀ b o, s.heap.get? b = some o → h'.get? b = some o) → Q v { s with heap := h', toks := tk }) : wpAny (model prog w) A (call (.builtin "min") [.ref l]) Q E s := by
  have hr' : ReadsAll s.heap vs.toArray.toList (x :: xs) as := hr
  have hn : vs.toArray.size = xs.length + 1 := W.readsAll_len hr'
  refine call_min_walkH (W.iter_listW (A := A.in1) hh hl fun s₂ e Wk st hfp hw hk => ?_)
  refine ⟨_, _, _, _, _, _, _, s.heap, _, rfl, Wk, st, hfp, by omega, hw, hk, W.cmpIn_lt (A := A.in1) hr' ha (by show A.units + 1 + _ < _; exact hu), fun v s' hP m => ?_⟩
  obtain ⟨h', tk, rfl, hk'⟩ := W.moved_old e rfl m
  obtain ⟨f1, f2⟩ := W.argBest_fold W.dataLt PyData.none x xs xs.length (Nat.le_refl _)
  rw [List.take_length] at f2
  have e1 : vs.toArray.size - 1 = xs.length := by omega
  rw [e1] at hP
  generalize argBest (fun i j => W.dataLt ((x :: xs).getD i PyData.none) ((x :: xs).getD j PyData.none)) xs.length = n at f1 f2 hP
  refine h n v h' tk (by simpa using hP) ?_ hk'
  have hlt : n < (x :: xs).length := by rw [List.length_cons]; omega
  rw [List.getElem?_eq_getElem hlt]
  rw [List.getD_eq_getElem?_getD, List.getElem?_eq_getElem hlt] at f2
  exact congrArg some f2
end
end Sw
namespace Sw
open PySem PySem.Spec L2
def minOk (ds : List D) : Bool := ds.all okD && (ds.all (fun d => ds.all fun e => W.alike d e) && ds.all fun d => !noneD d)
theorem minOk_spec {ds : List D} (h : minOk ds = true) : (∀ d ∈ ds, okD d = true) ∧ W.AlikeAll ds := by
  unfold minOk at h
  obtain ⟨h1, h⟩ := Bool.and_eq_true_iff.mp h
  obtain ⟨h2, h3⟩ := Bool.and_eq_true_iff.mp h
  refine ⟨List.all_eq_true.mp h1, fun d hd e he => List.all_eq_true.mp (List.all_eq_true.mp h2 d hd) e he, fun d hd => ?_⟩
  rintro rfl
  have := List.all_eq_true.mp h3 _ hd
  cases this
theorem depthAll_le {ds : List D} (h : ∀ d ∈ ds, okD d = true) : PyData.depthAll ds ≤ 40 := by
  induction ds with
  | nil => exact Nat.zero_le _
  | cons d r ih =>
    have h1 := okD_depth (h d List.mem_cons_self)
    have h2 := ih fun x hx => h x (List.mem_cons_of_mem _ hx)
    simp only [PyData.depthAll]
    omega
section
variable {X : Cz}
def rBestL (K : FgK) (g : D → List D → D) : List V → Hp → VK → Prop := fun vs H Q => ∃ (a : Addr) (xs : List V) (d : D) (ds : List D), vs = [V.ref a] ∧ SqL K H a xs ∧ DpAll K H xs (d :: ds) ∧ minOk (d :: ds) = true ∧ ∀ (i : Nat) (v : V), xs[i]? = some v → (d :: ds)[i]? = some (g d ds) → Q v H
theorem call_minL (hc : X.calm = true) (hu : X.A.units + 64 < cLine) : CallR X (.builtin "min") (rBestL X.fr W.minD) := by
  intro pins s σ H vs us Q I r h
  obtain ⟨a, xs, d, ds, rfl, hs, hd, ho, q⟩ := h
  obtain ⟨o1, o2⟩ := minOk_spec ho
  obtain ⟨its, rv, hl, hz⟩ := I.list hs
  obtain ⟨u, rfl, ru⟩ := vals1 r
  obtain rfl : u = Value.ref a := ru
  obtain ⟨as, rr⟩ := Dp.readsAll I _ xs its hd rv
  have := depthAll_le o1
  refine minL_data (I.ok.hd hc) hl.isList rr o2 (by omega) fun i v h' tk hv hd' hk => ?_
  have hi : i < xs.length := by rw [rv.length]; exact (List.getElem?_eq_some_iff.mp hv).1
  obtain ⟨u', hu', rx⟩ := rv.get (List.getElem?_eq_getElem hi)
  rw [hv] at hu'
  cases hu'
  exact ⟨xs[i], H, I.kept hk, rx, q i _ (List.getElem?_eq_getElem hi) hd'⟩
end
section
variable {K : FgX}
def gBestL (g : D → List D → D) : List D → Option D
  | [.list (d :: ds)] => if minOk (d :: ds) = true then some (g d ds) else none
  | _ => none
theorem l_bestL {g : D → List D → D} : LC K (rBestL K g) (gBestL g) := fun C σ H F env xs ds d Q R a e k => by
  unfold gBestL at e
  split at e
  · split at e
    · rename_i d0 dr ho
      cases e
      obtain ⟨x, rfl, w⟩ := a.one
      obtain ⟨p, zs, rfl, e1, a2⟩ := w
      refine ⟨p, zs, d0, dr, rfl, SqL.of e1, AtAll.dp _ _ (plain_of (minOk_spec ho).1) (AtAll.mono R.frz _ _ a2), ho, fun i v hv hd => ?_⟩
      obtain ⟨y, hy, ay⟩ := a2.get hd
      rw [hv] at hy
      cases hy
      exact k _ H F (Stp.refl R) ay
    · cases e
  · cases e
end
end Sw

set_option Elab.async false
set_option linter.all false
set_option maxRecDepth 100000
namespace Sw
open PySem PySem.Spec L2
section
variable {K : FgX}
def gIsB (neg : Bool) : D → D → Option D
  | .bool a, .bool b => some (.bool (if neg = true then !decide (a = b) else decide (a = b)))
  | _, _ => none
theorem gIsB_bb {a b : Bool} : gIsB false (.bool a) (.bool b) = some (.bool (decide (a = b))) := rfl
theorem gNotB_bb {a b : Bool} : gIsB true (.bool a) (.bool b) = some (.bool (!decide (a = b))) := rfl
end
end Sw

set_option Elab.async false
set_option linter.all false
set_option maxRecDepth 100000
namespace Sw
open PySem PySem.Spec L2
def restE (env1 : List SV) (env2 : List SV) : List Nat → List SV
  | [] => env2
  | v :: vs => (restE env1 env2 vs).set v (env1.getD v .un)
theorem restE_len (env1 env2 : List SV) : ∀ vs : List Nat, (restE env1 env2 vs).length = env2.length
  | [] => rfl
  | v :: vs => by unfold restE; rw [List.length_set, restE_len env1 env2 vs]
theorem restE_oth {env1 env2 : List SV} {j : Nat} : ∀ {vs : List Nat}, j ∉ vs → (restE env1 env2 vs)[j]? = env2[j]?
  | [], _ => rfl
  | v :: vs, h => by
    simp only [List.mem_cons, not_or] at h
    unfold restE
    rw [List.getElem?_set_ne (Ne.symm h.1)]
    exact restE_oth h.2
theorem restE_mem {env1 env2 : List SV} (hl : env1.length = env2.length) {j : Nat} : ∀ {vs : List Nat}, j ∈ vs → (restE env1 env2 vs)[j]? = env1[j]?
  | v :: vs, h => by
    unfold restE
    by_cases q : v = j
    · subst q
      by_cases hv : v < env2.length
      · rw [List.getElem?_set_self (by rw [restE_len]; exact hv), List.getD_eq_getElem?_getD, List.getElem?_eq_getElem (by omega)]
        rfl
      · rw [List.getElem?_eq_none (by rw [List.length_set, restE_len]; omega), List.getElem?_eq_none (by omega)]
    · rw [List.getElem?_set_ne q]
      rcases List.mem_cons.mp h with z | z
      · exact absurd z.symm q
      · exact restE_mem hl z
theorem wipeE_wipeE (env : List SV) (vs : List Nat) : wipeE (wipeE env vs) vs = wipeE env vs := by
  apply List.ext_getElem?
  intro j
  by_cases hj : j ∈ vs
  · cases z : (wipeE env vs)[j]? with
    | none =>
      rw [List.getElem?_eq_none_iff] at z ⊢
      rw [wipeE_len]; exact z
    | some sv =>
      have z1 := wipeE_mem hj z
      have hjl : j < (wipeE (wipeE env vs) vs).length := by
        rw [wipeE_len]
        exact (List.getElem?_eq_some_iff.mp z).1
      have z2 := wipeE_mem hj (List.getElem?_eq_getElem hjl)
      rw [List.getElem?_eq_getElem hjl, z2, z1]
  · rw [wipeE_oth hj]
section
variable {K : FgX} {C : Ec} {σ : L2.St} {H F H1 F1 : Hp} {env1 env2 : List SV} {vs : List Nat}
theorem Own.restore (hno : NoOwn env1 vs) (hw : wipeE env2 vs = env2) (hl : env1.length = env2.length := by first | assumption | omega) {b : Addr} : Own σ (restE env1 env2 vs) b ↔ Own (L2.wipe σ vs) env2 b := by
  constructor
  · rintro ⟨j, l, ds, e, s⟩
    by_cases hj : j ∈ vs
    · rw [restE_mem hl hj] at e
      exact absurd e (hno.get j hj l ds)
    · rw [restE_oth hj] at e
      exact ⟨j, l, ds, e, by rw [wipe_oth hj]; exact s⟩
  · rintro ⟨j, l, ds, e, s⟩
    have e' := e
    rw [← hw] at e'
    have hj := (own_wipe e').1
    rw [wipe_oth hj] at s
    exact ⟨j, l, ds, by rw [restE_oth hj]; exact e, s⟩
theorem Stp.restore (s : Stp K C (L2.wipe σ vs) H1 F1 (wipeE env1 vs) H F env2) (R : Rel K C σ H1 F1 env1) (hno : NoOwn env1 vs) (hw : wipeE env2 vs = env2) : Stp K C σ H1 F1 env1 H F (restE env1 env2 vs) := by
  have R2 := s.rel
  have hl : env1.length = env2.length := by
    have a := R.len
    have b := R2.len
    rw [wipe_length] at b
    omega
  have hlE : env1.length = (wipeE env1 vs).length := (wipeE_len env1 vs).symm
  have ow : ∀ (j : Nat) (l : Bool) (ds : Ct), (restE env1 env2 vs)[j]? = some (SV.obj l ds) → j ∉ vs ∧ env2[j]? = some (SV.obj l ds) := fun j l ds h => by
    by_cases hj : j ∈ vs
    · rw [restE_mem hl hj] at h
      exact absurd h (hno.get j hj l ds)
    · rw [restE_oth hj] at h
      exact ⟨hj, h⟩
  have own1 : ∀ b, Own (L2.wipe σ vs) (wipeE env1 vs) b → Own σ env1 b := fun b ⟨j, l, ds, e, q⟩ => by
    obtain ⟨hj, e⟩ := own_wipe e
    rw [wipe_oth hj] at q
    exact ⟨j, l, ds, e, q⟩
  refine ⟨⟨⟨R2.frz, R2.mono, R2.new, R2.frame, R2.la, by rw [restE_len]; rw [← hl]; exact R.len, fun j sv e => ?_, fun j k l ds m es h1 h2 h3 => ?_⟩, R2.xok⟩, s.ff, fun b o h n => s.fr b o h fun z => n (own1 b z), fun b o h => ?_, fun j l ds h => ?_, s.dm⟩
  · by_cases hj : j ∈ vs
    · rw [restE_mem hl hj] at e
      have q := R.slot j sv e
      cases sv with
      | un => trivial
      | raw z => exact q
      | dat d =>
        obtain ⟨v, e1, a⟩ := q
        exact ⟨v, e1, At.mono s.ff d v a⟩
      | obj l ds => exact absurd e (hno.get j hj l ds)
    · rw [restE_oth hj] at e
      have q := R2.slot j sv e
      rw [wipe_oth hj] at q
      exact q
  · obtain ⟨n1, h1⟩ := ow j l ds h1
    obtain ⟨n2, h2⟩ := ow k m es h2
    refine R2.dist j k l ds m es h1 h2 ?_
    rw [wipe_oth n1, wipe_oth n2]
    exact h3
  · rcases s.fn b o h with z | z | z
    · exact .inl z
    · exact .inr (.inl z)
    · exact .inr (.inr (own1 b z))
  · obtain ⟨hj, h⟩ := ow j l ds h
    obtain ⟨ds', e⟩ := s.ow j l ds h
    exact ⟨ds', (own_wipe e).2⟩
end
def fLcR (I : PI') (G : TG') (TT : PT') (TE : PE') (vs : List Nat) : PF' := fun env Q => I env fun ds env1 => NoOwn env1 vs ∧ ds.length ≤ 16777215 ∧ pLc G TT TE vs (fun acc env2 => Q acc (restE env1 env2 vs)) ds [] (wipeE env1 vs)
section
variable {X : Cz}
theorem lcR_sound {wi : TI} {g : TG} {tt : TT} {te : TE} {K : FgX} {I : PI'} {S : List Nat} {G : TG'} {TT : PT'} {TE : PE'} {vs : List Nat} (l1 : LI K wi I) (l2 : LG K S g G) (l3 : LT K tt TT) (l4 : LE K te TE) (hS : ∀ j ∈ S, j ∈ vs) : LF K (tLc wi g tt te vs) (fLcR I G TT TE vs) := fun C σ H F env Q Qp R k q => by
  refine l1 C σ H F env _ _ R (fun J ds H1 F1 env1 s1 it q1 => ?_) q
  obtain ⟨hno, hlen, q1⟩ := q1
  obtain ⟨Gd, Y, w, gd, yd⟩ := it
  intro Dp hD
  obtain ⟨sD, fD, h0D, noD⟩ := s1.rel.alloc0 (o := .lst []) hD
  have hτ : L2.wipe (L2.wipe σ vs) vs = L2.wipe σ vs := wipe_wipe σ vs
  have R1 : Rel K C (L2.wipe σ vs) H1 F1 (wipeE env1 vs) := s1.rel.wipe vs
  generalize hE : wipeE env1 vs = envW at R1 q1
  have hw : wipeE envW vs = envW := by rw [← hE]; exact wipeE_wipeE env1 vs
  obtain ⟨sD', _, _, noD'⟩ := R1.alloc0 (o := .lst []) hD
  refine lc_it w (Pv := fun i H => ∃ F2 env2 acc accv, Stp K C (L2.wipe σ vs) H1 F1 envW H F2 env2 ∧ H Dp = some (.lst accv) ∧ F2 Dp = none ∧ ¬ Own (L2.wipe σ vs) env2 Dp ∧ AtAll K F2 acc accv ∧ acc.length ≤ i ∧ wipeE env2 vs = env2 ∧ pLc G TT TE vs (fun acc env2 => Qp acc (restE env1 env2 vs)) (ds.drop i) acc env2)
    ⟨F1, envW, [], [], sD', upd_same, fD, noD', AtAll.nil, Nat.le_refl _, hw, by simpa using q1⟩ (fun i H hi ⟨F2, env2, acc, accv, s2, _⟩ => gd H (s2.ff.trans' s2.rel.frz)) (fun i x H H' hi ⟨F2, env2, acc, accv, s2, hDl, fD2, noD2, aa, hl, hw2, q2⟩ y => ?_) (fun H ⟨F2, env2, acc, accv, s2, hDl, fD2, noD2, aa, hl, hw2, q2⟩ => ?_)
  · obtain ⟨F3, d, e, s3, a3⟩ := (YOk.mono s2.ff (yd i H x H' hi (s2.ff.trans' s2.rel.frz) y)).rel s2.rel
    have e2 : ds.drop i = d :: ds.drop (i + 1) := by
      obtain ⟨hlt, e4⟩ := List.getElem?_eq_some_iff.mp e
      rw [List.drop_eq_getElem_cons hlt, e4]
    rw [e2] at q2
    have acc3 := s2.trans s3
    have hD3 : H' Dp = some (.lst accv) := s3.fr _ _ hDl noD2
    have fD3 : F3 Dp = none := by
      cases qq : F3 Dp with
      | none => rfl
      | some u =>
        rcases s3.fn _ _ qq with z | z | z
        · rw [fD2] at z; cases z
        · rw [hDl] at z; cases z
        · exact absurd z noD2
    refine l2 C _ H' F3 env2 x d _ _ s3.rel a3 (fun σ2 env3 R3 tg q3 => ?_) q2
    have r3 : L2.wipe σ2 vs = L2.wipe σ vs := (Stp.under hτ hS acc3 tg (Stp.refl R3)).1
    refine ⟨r3, ?_⟩
    have no3 : ¬ Own σ2 env3 Dp := fun ⟨j, l, es, e1, e2⟩ => by
      by_cases hj : j ∈ S
      · obtain ⟨f1, f2⟩ := tg.mem j l es hj e1
        exact noD2 ⟨j, l, es, f1, f2 ▸ e2⟩
      · obtain ⟨f1, f2⟩ := tg.oth j hj
        exact noD2 ⟨j, l, es, f2 ▸ e1, f1 ▸ e2⟩
    refine l3 C σ2 H' F3 env3 _ _ R3 (fun b H5 F5 env5 s5 q5 => ?_) q3
    have hD5 : H5 Dp = some (.lst accv) := s5.fr _ _ hD3 no3
    have fD5 : F5 Dp = none := by
      cases qq : F5 Dp with
      | none => rfl
      | some u =>
        rcases s5.fn _ _ qq with z | z | z
        · rw [fD3] at z; cases z
        · rw [hD3] at z; cases z
        · exact absurd z no3
    cases b with
    | true =>
      rw [if_pos rfl] at q5 ⊢
      refine l4 C σ2 H5 F5 env5 _ _ s5.rel (fun v H6 F6 env6 o s6 a6 q6 => ?_) q5
      obtain ⟨y', env7, e7, q7⟩ := q6
      obtain ⟨F7, s7, a7⟩ := fz_ok s6.rel a6 e7
      have st := (s5.trans s6).trans s7
      have no5 : ¬ Own σ2 env5 Dp := fun z => no3 (Own.sub s5.ow z)
      have hD6 : H6 Dp = some (.lst accv) := (s6.fr _ _ hD5 no5)
      have fD7 : F7 Dp = none := by
        cases qq : F7 Dp with
        | none => rfl
        | some u =>
          rcases st.fn _ _ qq with z | z | z
          · rw [fD3] at z; cases z
          · rw [hD3] at z; cases z
          · exact absurd z no3
      obtain ⟨_, u7⟩ := Stp.under hτ hS acc3 tg st
      have no7 : ¬ Own (L2.wipe σ vs) (wipeE env7 vs) Dp := fun z => noD2 (by
        have z1 := Own.sub u7.ow z
        exact absurd z1 noD')
      refine ⟨accv, hD6, ?_, F7, wipeE env7 vs, acc ++ [y'], accv ++ [v], ?_, upd_same, fD7, no7, AtAll.app (AtAll.mono ((s3.ff.trans' st.ff)) _ _ aa) (AtAll.cons a7 AtAll.nil), by rw [List.length_append]; simp only [List.length_cons, List.length_nil]; omega, ?_, q7⟩
      · rw [aa.len, sizeLine_eq]
        have := hi
        omega
      · exact u7.other hD hD6 fD7 h0D no7
      · -- wiped twice
        apply List.ext_getElem?
        intro j
        by_cases hj : j ∈ vs
        · cases z : (wipeE env7 vs)[j]? with
          | none =>
            rw [List.getElem?_eq_none_iff] at z ⊢
            rw [wipeE_len]; exact z
          | some sv =>
            have z1 := wipeE_mem hj z
            have hjl : j < (wipeE (wipeE env7 vs) vs).length := by
              rw [wipeE_len]
              exact (List.getElem?_eq_some_iff.mp z).1
            have z2 := wipeE_mem hj (List.getElem?_eq_getElem hjl)
            rw [List.getElem?_eq_getElem hjl, z2, z1]
        · rw [wipeE_oth hj]
    | false =>
      rw [if_neg (by decide)] at q5 ⊢
      obtain ⟨_, u7⟩ := Stp.under hτ hS acc3 tg s5
      have no7 : ¬ Own (L2.wipe σ vs) (wipeE env5 vs) Dp := fun z => noD' (Own.sub u7.ow z)
      refine ⟨F5, wipeE env5 vs, acc, accv, u7, hD5, fD5, no7, AtAll.mono (s3.ff.trans' s5.ff) _ _ aa, by omega, ?_, q5⟩
      apply List.ext_getElem?
      intro j
      by_cases hj : j ∈ vs
      · cases z : (wipeE env5 vs)[j]? with
        | none =>
          rw [List.getElem?_eq_none_iff] at z ⊢
          rw [wipeE_len]; exact z
        | some sv =>
          have z1 := wipeE_mem hj z
          have hjl : j < (wipeE (wipeE env5 vs) vs).length := by
            rw [wipeE_len]
            exact (List.getElem?_eq_some_iff.mp z).1
          have z2 := wipeE_mem hj (List.getElem?_eq_getElem hjl)
          rw [List.getElem?_eq_getElem hjl, z2, z1]
      · rw [wipeE_oth hj]
  · rw [List.drop_length] at q2
    have q2 : Qp acc (restE env1 env2 vs) := q2
    subst hE
    have st : Stp K C σ H1 F1 env1 H F2 (restE env1 env2 vs) := s2.restore s1.rel hno hw2
    exact k Dp accv acc H F2 _ (s1.trans st) hDl fD2 h0D (fun z => noD2 ((Own.restore hno hw2 (by have a := s1.rel.len; have b := s2.rel.len; rw [wipe_length] at b; omega)).mp z)) (s1.dm _ hD) aa q2
theorem f_lcR {elt tg iter : Expr} {ifs : List Expr} {scope : Scope} {own : List (Str × Nat)} {pos : Pos} {I : PI'} {S : List Nat} {G : TG'} {TT : PT'} {TE : PE'} (hc : X.calm = true) (hN : X.N.Nodup) (ok : BlkOk X.N X.env.scope scope own) (hi : EI X tg iter I) (hg : Blk X scope fun Y => EG Y S tg G) (ht : Blk X scope fun Y => ETs Y ifs TT) (he : Blk X scope fun Y => EV Y elt TE)
    (hS : ∀ j ∈ S, j ∈ own.map (·.2) := by decide) (hs : ∀ x, foldedSetIterable iter X.env x = pure x := by intro _; rfl) : EF X (.ListComp elt [⟨tg, iter, ifs, 0⟩] scope pos) (fLcR I G TT TE (own.map (·.2))) := by
  obtain ⟨wi, h1, l1⟩ := hi.ex
  obtain ⟨g, h2, l2⟩ := blk_g hg
  obtain ⟨tt, h3, l3⟩ := blk_ts ht
  obtain ⟨te, h4, l4⟩ := blk_ev he
  exact ⟨_, pe_lc hc hN h1 ok h2 h3 h4 hs, lcR_sound l1 l2 l3 l4 hS⟩
end
theorem nob_d {d : D} : nob (some (.dat d)) ↔ True := Iff.rfl
theorem nob_u : nob (some .un) ↔ True := Iff.rfl
end Sw

set_option Elab.async false
set_option linter.all false
set_option maxRecDepth 100000
namespace Sw
open PySem PySem.Spec L2
theorem sSeq_abs {A B : PS'} {Dp : PEnds} {env : List SV} (h : ∀ B', B' = B → sSeq A B' Dp env) : sSeq A B Dp env := h B rfl
theorem sIf_abs {c : PT'} {A B : PS'} {Dp : PEnds} {env : List SV} (h : ∀ A' B', A' = A → B' = B → sIf c A' B' Dp env) : sIf c A B Dp env := h A B rfl rfl
end Sw

set_option Elab.async false
set_option linter.all false
set_option maxRecDepth 100000
namespace Sw
open PySem PySem.Spec L2
theorem eqv_k (a b : Key) : PyData.eqv (kD a) (kD b) = decide (a = b) := by
  cases a with
  | inl i =>
    cases b with
    | inl j =>
      simp only [kD, PyData.eqv]
      by_cases h : i = j <;> simp [h]
    | inr y => simp [kD, PyData.eqv]
  | inr x =>
    cases b with
    | inl j => simp [kD, PyData.eqv]
    | inr y =>
      simp only [kD, PyData.eqv]
      by_cases h : x = y <;> simp [h]
/-- the dict behind a store -/
def putD (kds : List (D × D)) (k v : D) : List (D × D) := if (lookD kds k).isSome = true then kds.map fun p => if PyData.eqv p.1 k = true then (p.1, v) else p else kds ++ [(k, v)]
section
variable {X : Cz} {pins : List (Addr × Obj)} {σ : L2.St} {H F : Hp} {s : Shared}
theorem key_at {K : FgK} {kk : Key} {x : V} (h : At K F (kD kk) x) : x = kV kk := by
  cases kk with
  | inl i => simpa [kD, At, kV] using h
  | inr z => simpa [kD, At, kV] using h
theorem keyed_of (I : Inv X pins σ H s) (hF : Le F H) {a : Addr} {o : HO} {kds : List (D × D)} {zs : List (NestedKey × Addr × V)} (ha : Rd H a o) (hn : IsN X.fr a zs o) (hz : AtN X.fr F kds zs) :
    zs.length ≤ sizeLine ∧ (a == sysModules) = false ∧ (∀ x ∈ zs, ∃ z, x.1 = .tup z ∧ x.1.depth ≤ 8) ∧ ∃ us, PairZ zs us ∧ s.heap.DictOfH (nestedKind X.prog X.w) a us := by
  obtain ⟨h1, h2, h3, us, h4, ob, es, ep, h5, h6, h7, h8, h9⟩ := hn.obj (ha.ok I.hok)
  exact ⟨h1, h2, h3, us, h4, ob, es, ep, h5, h6, h7, h8, AtN.is I hF hz h3 h4, h9⟩
/-- a look-up by data -/
theorem look_N {K : FgK} (nk : NestedKey) : ∀ {kds : List (D × D)} {zs : List (NestedKey × Addr × V)} {us : List (NestedKey × Addr × Value)}, AtN K F kds zs → PairZ zs us →
    (lookD kds (nkD nk) = none ∧ atKey us nk = none) ∨ ∃ d v p, lookD kds (nkD nk) = some d ∧ atKey us nk = some p ∧ At K F d v ∧ RelV v p.2
  | [], zs, us, h, p => by
    simp only [AtN] at h
    subst h
    cases p
    exact .inl ⟨rfl, rfl⟩
  | (k, d) :: r, zs, us, h, p => by
    simp only [AtN] at h
    obtain ⟨kk, b, v, zr, rfl, rfl, a1, a2, q⟩ := h
    cases p with
    | @cons z0 u0 _ ur p1 p2 =>
      obtain ⟨e1, e2, e3⟩ := p1
      simp only at e1 e2 e3
      have eu : atKey (u0 :: ur) nk = if u0.1 = nk then some u0.2 else atKey ur nk := by
        unfold atKey
        rw [List.find?_cons]
        by_cases h : u0.1 = nk <;> simp [h]
      rw [lookD_cons, eu, eqv_nk]
      by_cases h : kk = nk
      · rw [if_pos (by simpa using h), if_pos (by rw [← e1]; exact h)]
        exact .inr ⟨d, v, u0.2, rfl, rfl, a2, e3⟩
      · rw [if_neg (by simpa using h), if_neg (by rw [← e1]; exact h)]
        exact look_N nk q p2
theorem look_K {K : FgK} (kk : Key) : ∀ {kds : List (D × D)} {kvs : List (Key × V)}, AtK K F kds kvs → (lookD kds (kD kk) = none ∧ valV kvs kk = none) ∨ ∃ d v, lookD kds (kD kk) = some d ∧ valV kvs kk = some v ∧ At K F d v
  | [], kvs, h => by
    simp only [AtK] at h
    subst h
    exact .inl ⟨rfl, rfl⟩
  | (k, d) :: r, kvs, h => by
    simp only [AtK] at h
    obtain ⟨k2, v, zr, rfl, rfl, a2, q⟩ := h
    rw [lookD_cons, eqv_k]
    by_cases h : k2 = kk
    · rw [if_pos (by simpa using h), valV_pos (p := (k2, v)) h]
      exact .inr ⟨d, v, rfl, rfl, a2⟩
    · rw [if_neg (by simpa using h), valV_neg (p := (k2, v)) h]
      exact look_K kk q
/-- a store by data -/
theorem AtK.map_put {K : FgK} (kk : Key) {v : D} {x : V} (hv : At K F v x) : ∀ {kds : List (D × D)} {kvs : List (Key × V)}, AtK K F kds kvs → AtK K F (kds.map fun p => if PyData.eqv p.1 (kD kk) = true then (p.1, v) else p) (kvs.map fun p => if p.1 = kk then (p.1, x) else p)
  | [], kvs, h => by
    simp only [AtK] at h
    subst h
    simp [AtK]
  | (k, d) :: r, kvs, h => by
    simp only [AtK] at h
    obtain ⟨k2, y, zr, rfl, rfl, a2, q⟩ := h
    rw [List.map_cons, List.map_cons]
    have ih := AtK.map_put kk hv q
    by_cases e : k2 = kk
    · rw [if_pos (by rw [eqv_k]; simpa using e), if_pos e]
      simp only [AtK]
      exact ⟨k2, x, _, rfl, rfl, hv, ih⟩
    · rw [if_neg (by rw [eqv_k]; simpa using e), if_neg e]
      simp only [AtK]
      exact ⟨k2, y, _, rfl, rfl, a2, ih⟩
theorem AtK.snoc {K : FgK} {kk : Key} {v : D} {x : V} (hv : At K F v x) : ∀ {kds : List (D × D)} {kvs : List (Key × V)}, AtK K F kds kvs → AtK K F (kds ++ [(kD kk, v)]) (kvs ++ [(kk, x)])
  | [], kvs, h => by
    simp only [AtK] at h
    subst h
    simp only [List.nil_append, AtK]
    exact ⟨kk, x, [], rfl, rfl, hv, rfl⟩
  | (k, d) :: r, kvs, h => by
    simp only [AtK] at h
    obtain ⟨k2, y, zr, rfl, rfl, a2, q⟩ := h
    simp only [List.cons_append, AtK]
    exact ⟨k2, y, _, rfl, rfl, a2, AtK.snoc hv q⟩
theorem AtN.map_put {K : FgK} (kk : NestedKey) {v : D} {x : V} (hv : At K F v x) : ∀ {kds : List (D × D)} {kvs : List (NestedKey × Addr × V)}, AtN K F kds kvs → AtN K F (kds.map fun p => if PyData.eqv p.1 (nkD kk) = true then (p.1, v) else p) (kvs.map fun p => if p.1 = kk then (p.1, p.2.1, x) else p)
  | [], kvs, h => by
    simp only [AtN] at h
    subst h
    simp [AtN]
  | (k, d) :: r, kvs, h => by
    simp only [AtN] at h
    obtain ⟨k2, b, y, zr, rfl, rfl, a1, a2, q⟩ := h
    rw [List.map_cons, List.map_cons]
    have ih := AtN.map_put kk hv q
    by_cases e : k2 = kk
    · rw [if_pos (by rw [eqv_nk]; simpa using e), if_pos e]
      simp only [AtN]
      exact ⟨k2, b, x, _, rfl, rfl, a1, hv, ih⟩
    · rw [if_neg (by rw [eqv_nk]; simpa using e), if_neg e]
      simp only [AtN]
      exact ⟨k2, b, y, _, rfl, rfl, a1, a2, ih⟩
theorem AtN.snoc {K : FgK} {kk : NestedKey} {v : D} {b : Addr} {x : V} (hk : At K F (nkD kk) (.ref b)) (hv : At K F v x) : ∀ {kds : List (D × D)} {kvs : List (NestedKey × Addr × V)}, AtN K F kds kvs → AtN K F (kds ++ [(nkD kk, v)]) (kvs ++ [(kk, b, x)])
  | [], kvs, h => by
    simp only [AtN] at h
    subst h
    simp only [List.nil_append, AtN]
    exact ⟨kk, b, x, [], rfl, rfl, hk, hv, rfl⟩
  | (k, d) :: r, kvs, h => by
    simp only [AtN] at h
    obtain ⟨k2, c, y, zr, rfl, rfl, a1, a2, q⟩ := h
    simp only [List.cons_append, AtN]
    exact ⟨k2, c, y, _, rfl, rfl, a1, a2, AtN.snoc hk hv q⟩
theorem PairZ.map_put {kk : NestedKey} {x : V} {w : Value} (r : RelV x w) : ∀ {zs : List (NestedKey × Addr × V)} {us : List (NestedKey × Addr × Value)}, PairZ zs us → PairZ (zs.map fun p => if p.1 = kk then (p.1, p.2.1, x) else p) (us.map (putAt kk w))
  | _, _, .nil => .nil
  | _, _, .cons (a := a) (b := b) p1 p2 => by
    rw [List.map_cons, List.map_cons]
    refine .cons ?_ (PairZ.map_put r p2)
    obtain ⟨e1, e2, e3⟩ := p1
    unfold putAt
    by_cases h : a.1 = kk
    · rw [if_pos h, if_pos (by rw [← e1]; exact h)]
      exact ⟨e1, e2, r⟩
    · rw [if_neg h, if_neg (by rw [← e1]; exact h)]
      exact ⟨e1, e2, e3⟩
end
end Sw

set_option Elab.async false
set_option linter.all false
set_option maxRecDepth 100000
namespace Sw
open PySem PySem.Spec L2
section
variable {X : Cz} {pins : List (Addr × Obj)} {σ : L2.St} {H F : Hp} {s : Shared} {a : Addr} {o : HO} {t : Bool} {kds : List (D × D)} {k : D} {y : V} {u : Value} {A : Around} {E : Value → Shared → Prop}
theorem dic_typeIs (I : Inv X pins σ H s) (hF : Le F H) (ha : Rd H a o) (c : CtOk X.fr F a o (.dic t kds)) : s.TypeIs (.ref a) "dict" := by
  cases t with
  | false =>
    obtain ⟨kvs, rfl, _⟩ := c
    obtain ⟨_, _, vs, _, dd⟩ := dk_rd I.hok ha
    exact dd.typeIs
  | true =>
    obtain ⟨zs, hn, hz⟩ := c
    obtain ⟨_, _, _, us, _, dd⟩ := keyed_of I hF ha hn hz
    exact dd.typeIs
theorem dic_in (neg : Bool) {Q : Value → Shared → Prop} (hu : X.A.units + 64 < cLine) (I : Inv X pins σ H s) (hF : Le F H) (ha : Rd H a o) (c : CtOk X.fr F a o (.dic t kds)) (hk : KeyT t k) (ak : At X.fr F k y) (ry : RelV y u)
    (h : ∀ s', Inv X pins σ H s' → Q (.bool (if neg then !(lookD kds k).isSome else (lookD kds k).isSome)) s') : wpAny (model X.prog X.w) X.A (compareOp (if neg then .NotIn else .In) u (.ref a)) Q E s := by
  cases t with
  | false =>
    obtain ⟨kvs, rfl, ck⟩ := c
    obtain ⟨kk, rfl⟩ := hk
    have ey := key_at ak
    subst ey
    have e : (lookD kds (kD kk)).isSome = (valV kvs kk).isSome := by
      rcases look_K kk ck with ⟨h1, h2⟩ | ⟨d, v, h1, h2, _⟩ <;> rw [h1, h2] <;> rfl
    cases neg with
    | false => exact d_in (by omega) I (.inl ⟨_, _, ha, rfl, rfl⟩) ry fun s' I' => by have := h s' I'; rw [e] at this; exact this
    | true => exact d_notIn (by omega) I (.inl ⟨_, _, ha, rfl, rfl⟩) ry fun s' I' => by have := h s' I'; rw [e] at this; exact this
  | true =>
    obtain ⟨zs, hn, hz⟩ := c
    obtain ⟨nk, rfl, ⟨z, rfl⟩, hd⟩ := hk
    obtain ⟨l, hs, hks, us, p, dd⟩ := keyed_of I hF ha hn hz
    obtain ⟨b, xs, rfl, _⟩ := (show ∃ b xs, y = V.ref b ∧ _ by have q := ak; simp only [nkD, NestedKey.data, At] at q; exact q)
    have n := nested_at I hF _ _ u ak ry
    cases (show u = Value.ref b from ry)
    have e : (lookD kds (nkD (.tup z))).isSome = (atKey us (.tup z)).isSome := by
      rcases look_N (.tup z) hz p with ⟨h1, h2⟩ | ⟨d, v, p, h1, h2, _⟩ <;> rw [h1, h2] <;> rfl
    have hr : (nestedKind X.prog X.w).room X.A.in1 := by show X.A.units + 1 + 8 < cLine; omega
    cases neg with
    | false => exact wpAny_in_heap hr ⟨n, hd⟩ hs dd (by have := h { s with toks := s.toks + (nestedKind X.prog X.w).draws (.tup z) } (I.tok _); rw [e] at this; exact this)
    | true => exact notIn_keyed hr ⟨n, hd⟩ hs ⟨us, dd, rfl⟩ (by have := h { s with toks := s.toks + (nestedKind X.prog X.w).draws (.tup z) } (I.tok _); rw [e] at this; rw [valueAt_pairsH, Option.isSome_map]; exact this)
theorem dic_get {d : D} {Q : Value → Shared → Prop} (hu : X.A.units + 64 < cLine) (I : Inv X pins σ H s) (hF : Le F H) (ha : Rd H a o) (c : CtOk X.fr F a o (.dic t kds)) (hk : KeyT t k) (ak : At X.fr F k y) (ry : RelV y u) (hl : lookD kds k = some d)
    (h : ∀ v w' s', Inv X pins σ H s' → At X.fr F d v → RelV v w' → Q w' s') : wpAny (model X.prog X.w) X.A (getItem (.ref a) u) Q E s := by
  cases t with
  | false =>
    obtain ⟨kvs, rfl, ck⟩ := c
    obtain ⟨kk, rfl⟩ := hk
    have ey := key_at ak
    subst ey
    rcases look_K kk ck with ⟨h1, h2⟩ | ⟨d', v, h1, h2, a2⟩
    · rw [h1] at hl; cases hl
    · rw [h1] at hl
      cases hl
      have g : DGet H a (kV kk) (some v) := by rw [← h2]; exact .inl ⟨_, _, ha, rfl, rfl⟩
      exact d_getItem (by omega) I g ry fun w' s' I' r => h v w' s' I' a2 r
  | true =>
    obtain ⟨zs, hn, hz⟩ := c
    obtain ⟨nk, rfl, ⟨z, rfl⟩, hd⟩ := hk
    obtain ⟨l, hs, hks, us, p, dd⟩ := keyed_of I hF ha hn hz
    obtain ⟨b, xs, rfl, _⟩ := (show ∃ b xs, y = V.ref b ∧ _ by have q := ak; simp only [nkD, NestedKey.data, At] at q; exact q)
    have n := nested_at I hF _ _ u ak ry
    cases (show u = Value.ref b from ry)
    have hr : (nestedKind X.prog X.w).room X.A.in1 := by show X.A.units + 1 + 8 < cLine; omega
    rcases look_N (.tup z) hz p with ⟨h1, h2⟩ | ⟨d', v, q, h1, h2, a2, r2⟩
    · rw [h1] at hl; cases hl
    · rw [h1] at hl
      cases hl
      exact wpAny_getItem_heap hr ⟨n, hd⟩ dd h2 (h v _ _ (I.tok _) a2 r2)
theorem dic_put {d : D} {v : V} {r : Value} {Q : Unit → Shared → Prop} (hu : X.A.units + 64 < cLine) (I : Inv X pins σ H s) (hF : Le F H) (ha : H a = some o) (fa : F a = none) (c : CtOk X.fr F a o (.dic t kds)) (hk : KeyT t k) (ak : At X.fr F k y) (ry : RelV y u) (av : At X.fr F d v) (rv : RelV v r) (hl : kds.length < sizeLine)
    (h : ∀ o' s', CtOk X.fr F a o' (.dic t (putD kds k d)) → Inv X pins σ (upd H a o') s' → Q () s') : wpAny (model X.prog X.w) X.A (setItem (.ref a) u r) Q E s := by
  cases t with
  | false =>
    obtain ⟨kvs, rfl, ck⟩ := c
    obtain ⟨kk, rfl⟩ := hk
    have ey := key_at ak
    subst ey
    refine d_setItem (by omega) I (DPut.k ha (by rw [ck.len]; exact hl)) ry rv fun s' I' => h _ s' ⟨_, rfl, ?_⟩ I'
    unfold putD
    rcases look_K kk ck with ⟨h1, h2⟩ | ⟨d', v', h1, h2, a2⟩
    · rw [h1, putK_new v h2, if_neg (by decide)]
      exact AtK.snoc av ck
    · rw [h1, if_pos (show (some d').isSome = true from rfl)]
      have e : putK kvs kk v = kvs.map fun p => if p.1 = kk then (p.1, v) else p := by
        unfold putK
        rw [valV_any, h2, if_pos (show (some v').isSome = true from rfl)]
      rw [e]
      exact AtK.map_put kk av ck
  | true =>
    obtain ⟨zs, hn, hz⟩ := c
    obtain ⟨nk, rfl, ⟨z, rfl⟩, hd⟩ := hk
    obtain ⟨l, hs, hks, us, p, dd⟩ := keyed_of I hF (.inl ha) hn hz
    obtain ⟨b, xs, rfl, _⟩ := (show ∃ b xs, y = V.ref b ∧ _ by have q := ak; simp only [nkD, NestedKey.data, At] at q; exact q)
    have n := nested_at I hF _ _ u ak ry
    cases (show u = Value.ref b from ry)
    have hr : (nestedKind X.prog X.w).room X.A.in1 := by show X.A.units + 1 + 8 < cLine; omega
    have hzl := hz.len
    refine wpAny_setItem_heap (hsz := by rw [← Paired.length p]; exact l) hr ⟨n, hd⟩ dd fun h' dd' hs' => ?_
    obtain ⟨zs', hz', hks', hzl', p'⟩ : ∃ zs', AtN X.fr F (putD kds (nkD (.tup z)) d) zs' ∧ (∀ x ∈ zs', ∃ z, x.1 = .tup z ∧ x.1.depth ≤ 8) ∧ zs'.length ≤ sizeLine ∧ PairZ zs' (storedH us (.tup z) b r) := by
      unfold putD
      rcases look_N (.tup z) hz p with ⟨h1, h2⟩ | ⟨d', v', q, h1, h2, a2, r2⟩
      · rw [h1, if_neg (by decide), storedH_new h2]
        refine ⟨zs ++ [(.tup z, b, v)], AtN.snoc ak av hz, fun x hx => ?_, by rw [List.length_append]; simp only [List.length_cons, List.length_nil]; omega, Paired.snoc p ⟨rfl, rfl, rv⟩⟩
        rcases List.mem_append.mp hx with e | e
        · exact hks x e
        · rw [List.mem_singleton.mp e]; exact ⟨z, rfl, hd⟩
      · rw [h1, if_pos (show (some d').isSome = true from rfl), storedH_old h2]
        refine ⟨_, AtN.map_put (.tup z) av hz, fun x hx => ?_, by rw [List.length_map]; exact l, PairZ.map_put rv p⟩
        obtain ⟨x0, hx0, rfl⟩ := List.mem_map.mp hx
        split
        · exact hks x0 hx0
        · exact hks x0 hx0
    have he : ∃ q, h'.get? a = some q := let ⟨q, _, _, hq, _⟩ := dd'; ⟨q, hq⟩
    have hm : Mut (H a) := by
      rw [ha]
      have e : o = _ := hn
      rw [e]
      exact True.intro
    -- the new object
    obtain ⟨ob, es, ep, h5, h6, h7, h8, _, h9⟩ := dd'
    have new : ∀ o', IsN X.fr a zs' o' → ObjOk X.prog X.w (upd H a o') h' a o' := fun o' e => by
      have e : o' = _ := e
      subst e
      refine ⟨⟨hzl', hs, hks', _, p', ob, es, ep, h5, h6, h7, h8, h9⟩, ⟨ob, h5⟩, ?_⟩
      rintro g1 g2 ⟨_, _, _, us', p2, ob', es', ep', q5, q6, q7, q8, q9⟩ st
      exact ⟨hzl', hs, hks', us', p2, ob', es', ep', st _ q5, q6, q7, q8, q9⟩
    exact h _ _ ⟨zs', rfl, hz'⟩ (d_write I hm hs' he (new _ rfl))
end
end Sw

set_option Elab.async false
set_option linter.all false
set_option maxRecDepth 100000
namespace Sw
open PySem PySem.Spec L2
section
variable {X : Cz}
def sRaise : PS' := fun _ _ => False
theorem s_raise {a b : Option Expr} {pos : Pos} : ES X (.Raise a b pos) sRaise := ⟨fun _ _ _ => False, ⟨fun pins s σ H D I h => h.elim⟩, fun C σ H F env D Dp R k q => q⟩
def sAsgD (i : Nat) (t : Bool) : PS' := fun Dp env => i < env.length ∧ Dp.nx (env.set i (.dic t []))
theorem pe_dnewN {pos : Pos} : PE X (.Dict [] [] pos) (fun _ H Q => ∀ p o, H p = none → IsN X.fr p [] o → Q (.ref p) (upd H p o)) := ⟨fun pins s σ H Q I h => by
  refine wpAny_Dict_empty ⟨.ref s.heap.objs.size, _, I.laid (a := s.heap.objs.size) (o := .ext _) (t' := s.toks) (fun _ _ q => Heap.get?_push_of_some _ q) (Nat.le_refl _) ?_, rfl, h _ _ (I.hok.fresh (Nat.le_refl _)) rfl⟩
  refine ⟨⟨Nat.zero_le _, beq_eq_false_iff_ne.mpr (Ne.symm (Nat.ne_of_lt I.big)), fun x hx => absurd hx (by simp), [], .nil, _, #[], 0, Heap.get?_push_size _ rfl, ⟨rfl, rfl, rfl⟩, rfl, rfl, List.nodup_nil⟩, ⟨_, Heap.get?_push_size _ rfl⟩, ?_⟩
  rintro h1 h2 ⟨l, hs, hk, us, p, ob, es, ep, g5, g6, g7, g8, g9⟩ st
  exact ⟨l, hs, hk, us, p, ob, es, ep, st _ g5, g6, g7, g8, g9⟩⟩
theorem s_setDK {i : Nat} {x : Str} {p2 pos pos' : Pos} (hN : X.N.Nodup) (hi : X.N[i]? = some x) (hx : Loc X.env.scope x) (hs : swapsWith (.Dict [] [] p2) (some (.Name x pos')) pos.line X.env = pure false := by rfl) (hf : X.fn x = true ∨ X.env.scope.names.lookup x = some .local := by first | exact .inl rfl | exact .inr rfl | assumption) :
    ES X (.Assign [.Name x pos'] (.Dict [] [] p2) pos) (sAsgD i false) := by
  refine ⟨_, ps_set hN hi hx pe_dnewK hs hf, fun C σ H F env D Dp R k q => fun p hp => ?_⟩
  obtain ⟨s, f, h, n⟩ := R.alloc0 (o := .dK []) hp
  exact k.nx _ _ F _ (s.rel.assignO (ds := .dic false []) (by rw [← R.len]; exact q.1) upd_same f h n ⟨[], rfl, by simp [AtK]⟩) Le.rfl' q.2
theorem s_setDN {i : Nat} {x : Str} {p2 pos pos' : Pos} (hN : X.N.Nodup) (hi : X.N[i]? = some x) (hx : Loc X.env.scope x) (hs : swapsWith (.Dict [] [] p2) (some (.Name x pos')) pos.line X.env = pure false := by rfl) (hf : X.fn x = true ∨ X.env.scope.names.lookup x = some .local := by first | exact .inl rfl | exact .inr rfl | assumption) :
    ES X (.Assign [.Name x pos'] (.Dict [] [] p2) pos) (sAsgD i true) := by
  refine ⟨_, ps_set hN hi hx pe_dnewN hs hf, fun C σ H F env D Dp R k q => fun p o hp hn => ?_⟩
  obtain ⟨s, f, h, n⟩ := R.alloc0 (o := o) hp
  exact k.nx _ _ F _ (s.rel.assignO (ds := .dic true []) (by rw [← R.len]; exact q.1) upd_same f h n ⟨[], hn, by simp [AtN]⟩) Le.rfl' q.2
def KeyO : Option Bool → List (D × D) → D → Prop
  | some t, _, k => KeyT t k
  | none, kds, k => ∃ t, (∃ p ∈ kds, KeyT t p.1) ∧ KeyT t k
theorem keyT_uniq {t t' : Bool} {k : D} (h : KeyT t k) (g : KeyT t' k) : t = t' := by
  cases t with
  | false =>
    cases t' with
    | false => rfl
    | true =>
      obtain ⟨kk, rfl⟩ := h
      obtain ⟨nk, e, ⟨z, rfl⟩, _⟩ := g
      cases kk <;> cases e
  | true =>
    cases t' with
    | true => rfl
    | false =>
      obtain ⟨kk, rfl⟩ := g
      obtain ⟨nk, e, ⟨z, rfl⟩, _⟩ := h
      cases kk <;> cases e
theorem dic_ov {C : Ec} {σ : L2.St} {H F : Hp} {env : List SV} {ov : OV} {v : V} {ot : Option Bool} {kds : List (D × D)} (R : Rel X.fr C σ H F env) (a : OvOk X.fr σ F ov v) (e : ov.dic env = some (ot, kds)) :
    ∃ p o t, v = .ref p ∧ Rd H p o ∧ CtOk X.fr F p o (.dic t kds) ∧ (∀ t0, ot = some t0 → t0 = t) := by
  have main : ∀ v, At X.fr F (.dict kds) v → ∃ p o t, v = .ref p ∧ Rd H p o ∧ CtOk X.fr F p o (.dic t kds) := fun v a => by
    simp only [At] at a
    obtain ⟨p, od, o, rfl, e, c⟩ := a
    rcases c with c | c
    · exact ⟨p, o, false, rfl, .inr ⟨od, R.frz _ _ e⟩, c⟩
    · exact ⟨p, o, true, rfl, .inr ⟨od, R.frz _ _ e⟩, c⟩
  cases ov with
  | dv x =>
    cases x with
    | dict ks =>
      simp only [OV.dic, Option.some.injEq, Prod.mk.injEq] at e
      obtain ⟨rfl, rfl⟩ := e
      obtain ⟨p, o, t, h1, h2, h3⟩ := main v a
      exact ⟨p, o, t, h1, h2, h3, fun t0 z => nomatch z⟩
    | _ => cases e
  | sl i =>
    have a : σ[i]? = some (some v) := a
    simp only [OV.dic] at e
    split at e
    · rename_i l t ks q
      simp only [Option.some.injEq, Prod.mk.injEq] at e
      obtain ⟨rfl, rfl⟩ := e
      obtain ⟨p, u, e1, e2, e3, e4, e5⟩ := R.slot i _ q
      rw [a] at e1
      cases e1
      exact ⟨p, u, t, rfl, .inl e2, e5, fun t0 z => (Option.some.inj z).symm⟩
    · rename_i ks q
      simp only [Option.some.injEq, Prod.mk.injEq] at e
      obtain ⟨rfl, rfl⟩ := e
      obtain ⟨v', e1, a'⟩ := R.slot i _ q
      rw [a] at e1
      cases e1
      obtain ⟨p, o, t, h1, h2, h3⟩ := main v a'
      exact ⟨p, o, t, h1, h2, h3, fun t0 z => nomatch z⟩
    · cases e
/-- the key is of the dict's kind -/
theorem keyO {pins : List (Addr × Obj)} {P : Program} {w : World} {K : FgK} {H F : Hp} {h : Heap} {p : Addr} {o : HO} {t : Bool} {ot : Option Bool} {kds : List (D × D)} {k : D} (c : CtOk K F p o (.dic t kds)) (q : ObjOk P w H h p o) (e : ∀ t0, ot = some t0 → t0 = t) (hk : KeyO ot kds k) : KeyT t k := by
  cases ot with
  | some t0 =>
    have := e t0 rfl
    subst this
    exact hk
  | none =>
    obtain ⟨t', ⟨x, hx, h1⟩, h2⟩ := hk
    have : KeyT t x.1 := by
      cases t with
      | false =>
        obtain ⟨kvs, rfl, c⟩ := c
        exact c.keys x hx
      | true =>
        obtain ⟨zs, hn, c⟩ := c
        obtain ⟨_, _, hks, _⟩ := hn.obj q
        exact c.keys hks x hx
    rw [← keyT_uniq h1 this]
    exact h2
theorem vw_key {K : FgK} {H F : Hp} {t : Bool} {k : D} {v : V} (h : KeyT t k) (a : Vw K H F k v) : At K F k v := by
  cases t with
  | false =>
    obtain ⟨kk, rfl⟩ := h
    cases kk <;> exact a
  | true =>
    obtain ⟨nk, rfl, ⟨z, rfl⟩, _⟩ := h
    exact a
def qDIn (neg : Bool) (A B : PE') : PE' := fun env Q => A env fun o1 env1 => B env1 fun o2 env2 => ∃ k, o1.rd env2 = some k ∧ ∃ ot kds, o2.dic env2 = some (ot, kds) ∧ KeyO ot kds k ∧ Q (.dv (.bool (if neg = true then !(lookD kds k).isSome else (lookD kds k).isSome))) env2
def rDIn (K : FgK) (neg : Bool) : R2 := fun x y H Q => ∃ F a o t ot kds k, y = .ref a ∧ Le F H ∧ Rd H a o ∧ CtOk K F a o (.dic t kds) ∧ (∀ t0, ot = some t0 → t0 = t) ∧ KeyO ot kds k ∧ Vw K H F k x ∧ Q (.bl (if neg = true then !(lookD kds k).isSome else (lookD kds k).isSome)) H
theorem op_din (neg : Bool) (hu : X.A.units + 64 < cLine) : OpR X (compareOp (if neg = true then .NotIn else .In)) (rDIn X.fr neg) := by
  intro pins s σ H x y v u Q I rx ry h
  obtain ⟨F, a, o, t, ot, kds, k, rfl, hF, ha, c, e, hk, w, q⟩ := h
  cases (show u = Value.ref a from ry)
  have hk := keyO (pins := pins) c (ha.ok I.hok) e hk
  exact dic_in neg hu I hF ha c hk (vw_key hk w) rx fun s' I' => ⟨.bl _, H, I', rfl, q⟩
theorem LE.din {neg : Bool} {ta tb : TE} {A B : PE'} (la : LE X.fr ta A) (lb : LE X.fr tb B) : LE X.fr (tOp (rDIn X.fr neg) ta tb) (qDIn neg A B) := fun C σ H F env Q Qp R k q => by
  refine la C σ H F env _ _ R (fun v1 H1 F1 env1 o1 s1 a1 q1 => ?_) q
  refine lb C σ H1 F1 env1 _ _ s1.rel (fun v2 H2 F2 env2 o2 s2 a2 q2 => ?_) q1
  obtain ⟨kk, e1, ot, kds, e2, hk, q2⟩ := q2
  obtain ⟨p, o, t, rfl, rd, c, e⟩ := dic_ov s2.rel a2 e2
  exact ⟨F2, p, o, t, ot, kds, kk, rfl, s2.rel.frz, rd, c, e, hk, rd_vw s2.rel (a1.mono s2.ff) e1, k (.bl _) H2 F2 env2 (.dv (.bool _)) (s1.trans s2) (by simp [OvOk, At]) q2⟩
theorem t_dnin {a b : Expr} {A B : PE'} {pos : Pos} (hu : X.A.units + 64 < cLine) (ha : EV X a A) (hb : EV X b B) (hm : behindInMarks .NotIn b = false := by rfl) : ET X (.Compare a [.NotIn] [b] pos) (qTest (qDIn true A B)) := by
  obtain ⟨ta, h1, l1⟩ := ha.ex
  obtain ⟨tb, h2, l2⟩ := hb.ex
  exact ⟨_, pt_cmpR (op_din true hu) h1 h2 hm, LT.test (LE.din l1 l2)⟩
def qDGet (A B : PE') : PE' := fun env Q => A env fun o1 env1 => B env1 fun o2 env2 => ∃ ot kds, o1.dic env2 = some (ot, kds) ∧ ∃ k, o2.rd env2 = some k ∧ KeyO ot kds k ∧ ∃ d, lookD kds k = some d ∧ Q (.dv d) env2
def rDGet (K : FgK) : R2 := fun x y H Q => ∃ F a o t ot kds k d, x = .ref a ∧ Le F H ∧ Rd H a o ∧ CtOk K F a o (.dic t kds) ∧ (∀ t0, ot = some t0 → t0 = t) ∧ KeyO ot kds k ∧ Vw K H F k y ∧ lookD kds k = some d ∧ ∀ v, At K F d v → Q v H
theorem pe_dgetA {o i : Expr} {td ty : TE} {pos : Pos} (hu : X.A.units + 64 < cLine) (ho : PE X o td) (hi : PE X i ty) (hs : NoSl i) : PE X (.Subscript o i pos) (tOp (rDGet X.fr) td ty) := by
  refine ⟨fun pins s σ H Q I h => ?_⟩
  refine subD_of PySem.F.slot_dict_getitem.lookup hs (thn (ho.run pins s σ H _ I h) fun u s1 ⟨x, H1, I1, rx, q1⟩ => thn (hi.run pins s1 σ H1 _ I1 q1) fun iv s2 ⟨y, H2, I2, ry, F, a, o, t, ot, kds, k, d, ex, hF, ha, c, e, hk, w, hl, q2⟩ => ?_)
  subst ex
  obtain rfl : u = Value.ref a := rx
  have hk := keyO (pins := pins) c (ha.ok I2.hok) e hk
  exact ⟨dic_typeIs I2 hF ha c, dic_get hu I2 hF ha c hk (vw_key hk w) ry hl fun v w' s3 I3 av rw' => ⟨v, H2, I3, rw', q2 v av⟩⟩
theorem q_dget {a b : Expr} {A B : PE'} {pos : Pos} (hu : X.A.units + 64 < cLine) (ha : EV X a A) (hb : EV X b B) (hs : NoSl b := by intro _ _; rfl) : EV X (.Subscript a b pos) (qDGet A B) := by
  obtain ⟨ta, h1, l1⟩ := ha.ex
  obtain ⟨tb, h2, l2⟩ := hb.ex
  refine ⟨_, pe_dgetA hu h1 h2 hs, fun C σ H F env Q Qp R k q => ?_⟩
  refine l1 C σ H F env _ _ R (fun v1 H1 F1 env1 o1 s1 a1 q1 => ?_) q
  refine l2 C σ H1 F1 env1 _ _ s1.rel (fun v2 H2 F2 env2 o2 s2 a2 q2 => ?_) q1
  obtain ⟨ot, kds, e2, kk, e1, hk, d, hl, q2⟩ := q2
  obtain ⟨p, o, t, rfl, rd, c, e⟩ := dic_ov s2.rel (a1.mono s2.ff) e2
  exact ⟨F2, p, o, t, ot, kds, kk, d, rfl, s2.rel.frz, rd, c, e, hk, rd_vw s2.rel a2 e1, hl, fun v av => k v H2 F2 env2 (.dv d) (s1.trans s2) av q2⟩
def rDPut (K : FgK) : V → V → V → Hp → (Hp → Prop) → Prop := fun x y v H Q => ∃ F a o t kds k d, x = .ref a ∧ Le F H ∧ H a = some o ∧ F a = none ∧ CtOk K F a o (.dic t kds) ∧ KeyT t k ∧ At K F k y ∧ At K F d v ∧ kds.length < sizeLine ∧ ∀ o', CtOk K F a o' (.dic t (putD kds k d)) → Q (upd H a o')
theorem set_D (hu : X.A.units + 64 < cLine) : PSet X (rDPut X.fr) := by
  intro pins s σ H o i v ov iv u Q I ro ri rv h
  obtain ⟨F, a, ob, t, kds, k, d, rfl, hF, ha, fa, c, hk, ak, av, hl, q⟩ := h
  cases (show ov = Value.ref a from ro)
  exact dic_put hu I hF ha fa c hk ak ri av rv hl fun o' s' c' I' => ⟨_, I', q o' c'⟩
def sPutD (i : Nat) (A B : PE') : PS' := fun Dp env => A env fun o env1 => ∃ d env2, o.fz env1 = some (d, env2) ∧ (∃ t0 ks0, env2[i]? = some (.dic t0 ks0)) ∧ B env2 fun ok env3 => ∃ k env4, ok.fz env3 = some (k, env4) ∧ ∃ t kds, env4[i]? = some (.dic t kds) ∧ KeyT t k ∧ kds.length < sizeLine ∧ Dp.nx (env4.set i (.dic t (putD kds k d)))
theorem s_putD (i : Nat) {x : Str} {a b : Expr} {A B : PE'} {p p2 pos : Pos} (hu : X.A.units + 64 < cLine) (ha : EV X a A) (hb : EV X b B) (hN : X.N[i]? = some x := by rfl) (hv : Vis X.env.scope x := by first | exact Or.inl rfl | exact Or.inr (Or.inl rfl) | exact Or.inr (Or.inr rfl)) (hd : (x == ("__debug__" : Str)) = false := by decide)
    (hcd : (x == ("__classdict__" : Str)) = false := by decide) (hs : swapsWithSole [.Subscript (.Name x p) b p2] a pos.line X.env = pure false := by rfl) (hw : swappedStores [.Subscript (.Name x p) b p2] a X.env = pure none := by rfl)
    (h1 : (assignEach [.Subscript (.Name x p) b p2] X.env).map (·.2) = [assign (.Subscript (.Name x p) b p2) X.env] := by rfl)
    (has : ∀ v, assign (.Subscript (.Name x p) b p2) X.env v = (do
      let ov ← holding [v] (eval (.Name x p) X.env)
      let iv ← holding [v, ov] (eval b X.env)
      standAt p2
      holding [v, ov, iv] (setItem ov iv v)
      release [v, ov, iv] []) := by intro _; rfl) : ES X (.Assign [.Subscript (.Name x p) b p2] a pos) (sPutD i A B) := by
  obtain ⟨t, g1, l1⟩ := ha.ex
  obtain ⟨u, g2, l2⟩ := hb.ex
  refine ⟨_, ps_asg g1 (pg_sub (pe_var hN hv hd hcd) g2 (set_D hu) has) hs hw h1, fun C σ H F env D Dp R k q => ?_⟩
  refine l1 C σ H F env _ _ R (fun v H1 F1 env1 o s1 a1 q1 => ?_) q
  obtain ⟨d, env2, e, ⟨t0, ks0, e0⟩, q1⟩ := q1
  obtain ⟨F2, s2, a2⟩ := fz_ok s1.rel a1 e
  obtain ⟨p', u0, hp', _⟩ := s2.rel.slot i _ e0
  refine ⟨.ref p', hp', ?_⟩
  refine l2 C σ H1 F2 env2 _ _ s2.rel (fun iv H2 F3 env3 ok s3 a3 q3 => ?_) q1
  obtain ⟨kk, env4, e3, t, kds, e4, hk, hl, q3⟩ := q3
  obtain ⟨F4, s4, a4⟩ := fz_ok s3.rel a3 e3
  obtain ⟨p2, u2, f1, f2, f3, f4, f5⟩ := s4.rel.slot i _ e4
  rw [hp'] at f1
  cases f1
  refine ⟨F4, p', u2, t, kds, kk, d, rfl, s4.rel.frz, f2, f3, f5, hk, a4, At.mono (s3.ff.trans' s4.ff) _ _ a2, hl, fun o' c' => ?_⟩
  have s5 := s4.rel.write e4 hp' c' (fun z => nomatch z)
  exact k.nx σ _ F4 _ s5.rel (((s1.ff.trans' s2.ff).trans' s3.ff).trans' s4.ff) q3
def sFrzD (i : Nat) (S : PS') : PS' := fun Dp env => ∃ t kds, env[i]? = some (.dic t kds) ∧ S Dp (env.set i (.dat (.dict kds)))
end
end Sw

set_option Elab.async false
set_option linter.all false
set_option maxRecDepth 100000
namespace Sw
open PySem PySem.Spec L2 PySem.Calls PyProof.Rows
end Sw

set_option Elab.async false
set_option linter.all false
set_option maxRecDepth 100000
namespace Sw
open PySem PySem.Spec L2
section
variable {X : Cz} {K : FgX}
def gListDic : List D → Option (List D)
  | [.dict kds] => some (kds.map Prod.fst)
  | _ => none
theorem gListDic_1 {kds : List (D × D)} : gListDic [.dict kds] = some (kds.map Prod.fst) := rfl
def qDGetO (A B C : PE') : PE' := fun env Q => A env fun o1 env1 => (∃ p, o1.dic env1 = some p) ∧ B env1 fun o2 env2 => C env2 fun o3 env3 => ∃ d env4, o3.fz env3 = some (d, env4) ∧ ∃ ot kds, o1.dic env4 = some (ot, kds) ∧ ∃ k, o2.rd env4 = some k ∧ KeyO ot kds k ∧ Q (.dv ((lookD kds k).getD d)) env4
end
end Sw

set_option Elab.async false
set_option linter.all false
set_option maxRecDepth 100000
namespace Sw
open PySem PySem.Spec L2 PyProof.Rows
section
variable {X : Cz} {K : FgX}
def iKeysD (A : PE') : PI' := fun env Q => A env fun o env1 => ∃ kds, o.fz env1 = some (.dict kds, env1) ∧ Q (kds.map Prod.fst) env1
end
end Sw

set_option Elab.async false
set_option linter.all false
set_option maxRecDepth 100000
namespace Sw
open PySem PySem.Spec L2
theorem ex_pr {α β : Type} {a : α} {b : β} {P : α → β → Prop} : (∃ x y, some (a, b) = some (x, y) ∧ P x y) ↔ P a b := ⟨fun ⟨_, _, e, h⟩ => by cases e; exact h, fun h => ⟨a, b, rfl, h⟩⟩
theorem ex_pr0 {α : Type} {a : α} : (∃ p : α, some a = some p) ↔ True := ⟨fun _ => trivial, fun _ => ⟨a, rfl⟩⟩
theorem ex_dic {t : Bool} {kds : List (D × D)} {P : Bool → List (D × D) → Prop} : (∃ t' k', some (SV.dic t kds) = some (SV.dic t' k') ∧ P t' k') ↔ P t kds := ⟨fun ⟨_, _, e, h⟩ => by cases e; exact h, fun h => ⟨t, kds, rfl, h⟩⟩
theorem ex_dic0 {t : Bool} {kds : List (D × D)} : (∃ t' k', some (SV.dic t kds) = some (SV.dic t' k')) ↔ True := ⟨fun _ => trivial, fun _ => ⟨t, kds, rfl⟩⟩
theorem ex_kds {kds : List (D × D)} {e : List SV} {P : List (D × D) → Prop} : (∃ k', some (PyData.dict kds, e) = some (.dict k', e) ∧ P k') ↔ P kds := ⟨fun ⟨_, e, h⟩ => by cases e; exact h, fun h => ⟨kds, rfl, h⟩⟩
theorem keyO_some {t : Bool} {kds : List (D × D)} {k : D} : KeyO (some t) kds k ↔ KeyT t k := Iff.rfl
theorem keyT_str (z : Str) : KeyT false (.str z) := ⟨.inr z, rfl⟩
end Sw

set_option Elab.async false
set_option linter.all false
set_option maxRecDepth 100000
namespace Sw
open PySem PySem.Spec L2 PySem.Calls PyProof.Rows

end Sw

set_option Elab.async false
set_option linter.all false
set_option maxRecDepth 100000
namespace Sw
open PySem PySem.Spec L2 PySem.Calls PyProof.Rows
section
variable {X : Cz}
def qRest : List ((Int → Int → Bool) × PE') → Int → PT'
  | [], _ => fun env Q => Q true env
  | [(p, B)], i => fun env Q => B env fun o env1 => ∃ j, o.rd env1 = some (.int j) ∧ Q (p i j) env1
  | (p, B) :: r, i => fun env Q => B env fun o env1 => ∃ j, o.rd env1 = some (.int j) ∧ if p i j = true then qRest r j env1 Q else Q false env1
def qChain (A : PE') (ls : List ((Int → Int → Bool) × PE')) : PT' := fun env Q => A env fun o env1 => ∃ i, o.rd env1 = some (.int i) ∧ qRest ls i env1 Q
structure ECh (X : Cz) (ops : List CmpOp) (es : List Expr) (ls : List ((Int → Int → Bool) × PE')) : Prop where
  ex : ∃ t : Int → TT, (∀ (pos : Pos) (pins : List (Addr × Obj)) (s : Shared) (σ : L2.St) (H : Hp) (Q : Bool → Hp → Prop) (i : Int) (a : Value), RelV (.int i) a → Inv X pins σ H s → t i σ H Q → wpAny (model X.prog X.w) X.A (testChain pos a ops (evalEach es X.env)) (TP X pins σ Q) X.xe s) ∧ ∀ i, LT X.fr (t i) (qRest ls i)
theorem ech_one {op : CmpOp} {p : Int → Int → Bool} {e : Expr} {B : PE'} (ho : OpR X (compareOp op) (rI0 fun i j => .bl (p i j))) (hb : EV X e B) : ECh X [op] [e] [(p, B)] := by
  obtain ⟨tb, h1, l1⟩ := hb.ex
  refine ⟨fun i σ H Q => tb σ H fun y H1 => ∃ j, y = .int j ∧ Q (p i j) H1, fun pos pins s σ H Q i a ra I h => ?_, fun i C σ H F env Q Qp R k q => ?_⟩
  · refine test_last (thn (h1.run pins s σ H _ I h) fun u s2 ⟨y, H2, I2, r2, j, e2, q2⟩ => ?_)
    subst e2
    refine thn (ho pins s2 σ H2 (.int i) (.int j) a u (fun z H' => z = .bl (p i j) ∧ Q (p i j) H') I2 ra r2 ⟨i, j, rfl, rfl, rfl, q2⟩) fun d s3 ⟨z, H3, I3, r3, e3, q3⟩ => ?_
    subst e3
    cases r3
    exact wpAny_truthy_bool ⟨H3, I3, q3⟩
  · refine l1 C σ H F env _ _ R (fun v1 H1 F1 env1 o1 s1 a1 q1 => ?_) q
    obtain ⟨j, e, q1⟩ := q1
    have w := rd_vw s1.rel a1 e
    have w : v1 = .int j := by simpa [Vw, At] using w
    exact ⟨j, w, k _ H1 F1 env1 s1 q1⟩
theorem ech_more {op op' : CmpOp} {ops : List CmpOp} {p : Int → Int → Bool} {e e' : Expr} {es : List Expr} {B : PE'} {l : (Int → Int → Bool) × PE'} {ls : List ((Int → Int → Bool) × PE')} (ho : OpR X (compareOp op) (rI0 fun i j => .bl (p i j))) (hb : EV X e B) (r : ECh X (op' :: ops) (e' :: es) (l :: ls)) : ECh X (op :: op' :: ops) (e :: e' :: es) ((p, B) :: l :: ls) := by
  obtain ⟨tb, h1, l1⟩ := hb.ex
  obtain ⟨tr, h2, l2⟩ := r.ex
  refine ⟨fun i σ H Q => tb σ H fun y H1 => ∃ j, y = .int j ∧ if p i j = true then tr j σ H1 Q else Q false H1, fun pos pins s σ H Q i a ra I h => ?_, fun i C σ H F env Q Qp R k q => ?_⟩
  · refine test_link (thn (h1.run pins s σ H _ I h) fun u s2 ⟨y, H2, I2, r2, j, e2, q2⟩ => ?_)
    subst e2
    refine thn (ho pins s2 σ H2 (.int i) (.int j) a u (fun z H' => z = .bl (p i j) ∧ if p i j = true then tr j σ H' Q else Q false H') I2 ra r2 ⟨i, j, rfl, rfl, rfl, q2⟩) fun d s3 ⟨z, H3, I3, r3, e3, q3⟩ => ?_
    subst e3
    cases r3
    refine wpAny_truthy_bool ?_
    cases hp : p i j with
    | false =>
      rw [hp, if_neg (by decide)] at q3
      exact ite_ff ⟨H3, I3, q3⟩
    | true =>
      rw [hp, if_pos rfl] at q3
      exact ite_tt (h2 pos pins s3 σ H3 Q j u r2 I3 q3)
  · refine l1 C σ H F env _ _ R (fun v1 H1 F1 env1 o1 s1 a1 q1 => ?_) q
    obtain ⟨j, e, q1⟩ := q1
    have w := rd_vw s1.rel a1 e
    have w : v1 = .int j := by simpa [Vw, At] using w
    refine ⟨j, w, ?_⟩
    cases hp : p i j with
    | false =>
      rw [hp, if_neg (by decide)] at q1
      rw [if_neg (by decide)]
      exact k _ H1 F1 env1 s1 q1
    | true =>
      rw [hp, if_pos rfl] at q1
      rw [if_pos rfl]
      exact l2 j C σ H1 F1 env1 Q Qp s1.rel (fun b H' F' env' s2 q2 => k b H' F' env' (s1.trans s2) q2) q1
theorem t_chain {a : Expr} {op op' : CmpOp} {ops : List CmpOp} {e e' : Expr} {es : List Expr} {pos : Pos} {A : PE'} {ls : List ((Int → Int → Bool) × PE')} (ha : EV X a A) (hc : ECh X (op :: op' :: ops) (e :: e' :: es) ls) (hm : lastMarks (op :: op' :: ops) (e :: e' :: es) = false) : ET X (.Compare a (op :: op' :: ops) (e :: e' :: es) pos) (qChain A ls) := by
  obtain ⟨ta, h1, l1⟩ := ha.ex
  obtain ⟨tr, h2, l2⟩ := hc.ex
  refine ⟨fun σ H Q => ta σ H fun x H1 => ∃ i, x = .int i ∧ tr i σ H1 Q, ⟨fun pins s σ H Q I h => ?_⟩, fun C σ H F env Q Qp R k q => ?_⟩
  · refine isTrue_chain (thn (h1.run pins s σ H _ I h) fun v s1 ⟨x, H1, I1, r1, i, e1, q1⟩ => ?_) hm
    subst e1
    exact h2 pos pins s1 σ H1 Q i v r1 I1 q1
  · refine l1 C σ H F env _ _ R (fun v1 H1 F1 env1 o1 s1 a1 q1 => ?_) q
    obtain ⟨i, e, q1⟩ := q1
    have w := rd_vw s1.rel a1 e
    have w : v1 = .int i := by simpa [Vw, At] using w
    exact ⟨i, w, l2 i C σ H1 F1 env1 Q Qp s1.rel (fun b H' F' env' s2 q2 => k b H' F' env' (s1.trans s2) q2) q1⟩
end
section
variable {K : FgX}
def gClear : List D → List D → Option (D × List D)
  | _, [] => some (.none, [])
  | _, _ => none
theorem l_clear : LMO K rClear gClear := fun H F p xs ys ds es ds' d Q hp a b e k => by
  unfold gClear at e
  split at e
  · cases e
    have b : ys = [] := by simpa [AtAll] using b
    subst b
    exact ⟨p, xs, rfl, rfl, hp, k _ _ (by simp [At]) AtAll.nil⟩
  · cases e
theorem gClear_0 {ds : List D} : gClear ds [] = some (.none, []) := rfl
end
end Sw

set_option Elab.async false
set_option linter.all false
set_option maxRecDepth 100000
namespace Sw
open PySem PySem.Spec L2 PySem.Calls PyProof.Rows
section
variable {X : Cz}
def qDisp1 (A B : PE') : PE' := fun env Q => A env fun o env1 => B env1 fun o2 env2 => ∃ kd, o.rd env2 = some kd ∧ KeyT false kd ∧ ∃ vd env3, o2.fz env2 = some (vd, env3) ∧ Q (.dv (.dict [(kd, vd)])) env3
end
end Sw

set_option Elab.async false
set_option linter.all false
set_option maxRecDepth 100000
set_option maxHeartbeats 4000000
namespace Sw
open PySem PySem.Spec L2 PyProof.Rows
noncomputable local instance memDecB (k : Key) (l : List Key) : Decidable (k ∈ l) := Classical.propDecidable _
end Sw

set_option Elab.async false
set_option linter.all false
set_option maxRecDepth 100000
namespace Sw
open PySem PySem.Spec L2 PySem.Calls PyProof.Rows
end Sw

set_option Elab.async false
set_option linter.all false
set_option maxRecDepth 100000
set_option maxHeartbeats 4000000
namespace Sw
open PySem PySem.Spec L2 PySem.Calls PyProof.Rows
end Sw

set_option Elab.async false
set_option linter.all false
set_option maxRecDepth 100000
set_option maxHeartbeats 4000000
namespace Sw
open PySem PySem.Spec L2 PySem.Calls PyProof.Rows
end Sw

set_option Elab.async false
set_option linter.all false
set_option maxRecDepth 100000
set_option maxHeartbeats 4000000
/-! enumerate(a tuple) -/
namespace PySem
open Sem (wp)
open AutoSeq1 (wpAny_loadPart')
theorem meets_enumerate_newT (l : Addr) (items : Array Value) (n : Nat) (dct : Option Addr) (sl : Array (Option Value)) :
    Meets (Builtin.«enumerate.__new__» ⟨[.type "enumerate", .ref l], []⟩) (fun _ R s => s.heap.get? l = some { cls := .type "tuple", dict := dct, data := .seq items n, slots := sl } ∧
      R (.ok (.ret (.ref (s.heap.push { cls := .type "tuple_iterator", data := .fields #[.ref l, .int 0 0] }).objs.size)))
        { s with heap := (s.heap.push { cls := .type "tuple_iterator", data := .fields #[.ref l, .int 0 0] }).push { cls := .type "enumerate", data := .fields #[.none, .bool false, .ref s.heap.objs.size, rawInt 0, .none, .none] } }) :=
  .of_wp fun prog w A R s h => by
    obtain ⟨hp, g, d, tk, os⟩ := s; obtain ⟨hl, h⟩ := h
    have hsub := sub_enumerate
    have hL : Heap.IsTuple (Shared.heap ⟨hp, g, d, tk, os⟩) l items := ⟨_, hl, rfl, n, rfl⟩
    wp_walk using wpAny_loadPart' hl
    refine wpAny_stack_any fun st => wpAny_pure ?_
    split
    · rename_i c _ _ _ _ _
      cases (c == Value.type "enumerate")
      · wp_walk using wpAny_loadPart' hl, wpAny_pyIter_tuple hL
        exact ⟨_, rfl, h⟩
      · wp_walk using wpAny_loadPart' hl, wpAny_pyIter_tuple hL
        exact ⟨_, rfl, h⟩
    · wp_walk using wpAny_loadPart' hl, wpAny_pyIter_tuple hL
      exact ⟨_, rfl, h⟩
section
variable {prog : Program} {w : World} {A : Around} {E : Value → Shared → Prop} {s : Shared}
theorem call_enumerate_tuple {l : Addr} {items : Array Value} {Q : Value → Shared → Prop} (hL : s.heap.IsTuple l items)
    (h : ∀ h', IsEnum h' (s.heap.objs.size + 1) s.heap.objs.size 0 .none → h'.IsTupleIter s.heap.objs.size l 0 → h'.objs.size = s.heap.objs.size + 2 →
      (∀ b o, s.heap.get? b = some o → h'.get? b = some o) → Q (.ref (s.heap.objs.size + 1)) { s with heap := h' }) :
    wpAny (model prog w) A (call (.type "enumerate") [.ref l]) Q E s := by
  obtain ⟨⟨c, dct, dt, sl⟩, hl, hc, n, hd⟩ := hL
  replace hc : c = .type "tuple" := hc
  replace hd : dt = .seq items n := hd
  subst hc hd
  refine callType_new F.called_enumerate (by decide) (F.typeCall_enumerate_1 _) (F.newCall_enumerate_1 _) (fun obj => F.args_object_init_2 obj _) F.entry_enumerate_new
    (meets_enumerate_newT l items n dct sl) ⟨hl, ?_⟩
  have hz : (s.heap.push { cls := .type "tuple_iterator", data := .fields #[.ref l, .int 0 0] }).objs.size = s.heap.objs.size + 1 := Heap.size_push ..
  show _ ∧ _
  rw [hz]
  have he : IsEnum ((s.heap.push { cls := .type "tuple_iterator", data := .fields #[.ref l, .int 0 0] }).push
      { cls := .type "enumerate", data := .fields #[.none, .bool false, .ref s.heap.objs.size, rawInt 0, .none, .none] }) (s.heap.objs.size + 1) s.heap.objs.size 0 .none := by
    have := Heap.get?_push_size (s.heap.push { cls := .type "tuple_iterator", data := .fields #[.ref l, .int 0 0] })
      (o := { cls := .type "enumerate", data := .fields #[.none, .bool false, .ref s.heap.objs.size, rawInt 0, .none, .none] }) rfl
    rw [hz] at this; exact this
  refine ⟨⟨_, he, rfl⟩, h _ he ⟨_, Heap.get?_push_of_some _ (Heap.get?_push_size _ rfl), rfl, rfl⟩ (by rw [Heap.size_push, hz]) fun b o x => Heap.get?_push_of_some _ (Heap.get?_push_of_some _ x)⟩
theorem wpAny_nextOf_tup_item {it l : Addr} {i : Nat} {items} {x : Value} {Q : Value → Shared → Prop} (hit : s.heap.IsTupleIter it l i)
    (hl : s.heap.IsTuple l items) (hx : items[i]? = some x)
    (hQ : ∀ h', h'.IsTupleIter it l (i + 1) → Heap.SameBut it s.heap h' → Q x { s with heap := h' }) :
    wpAny (model prog w) A (Builtin.SmallTypes.nextOf (.ref it)) Q E s := by
  obtain ⟨o, ho, hc, hd⟩ := id hit
  obtain ⟨ol, hol, _, nl, hdl⟩ := hl
  unfold Builtin.SmallTypes.nextOf
  refine wpAny_bind (wpAny_callSpecial?_slot (name := Str.ofString "__next__") hit.typeIs F.slot_tuple_iterator_next
    (wpAny_call_entry F.slot_tuple_iterator_next hit.typeIs F.entry_tuple_iterator_next ?_ (F.args_tuple_iterator_next_1 _)))
  show wpAny _ _ (field (.ref it) 0 >>= _) _ _ s
  refine wpAny_bind (wpAny_field ho hd (x := .ref l) rfl ?_)
  show wpAny _ _ (if (Value.ref l == Value.none) = true then _ else _) _ _ s
  rw [if_neg (show ¬ ((Value.ref l == Value.none) = true) from Bool.false_ne_true)]
  show wpAny _ _ (field (.ref it) 1 >>= _) _ _ s
  refine wpAny_bind (wpAny_field ho hd (x := .int i 0) rfl ?_)
  show wpAny _ _ (seqItems? (.ref l) >>= _) _ _ s
  refine wpAny_bind (wpAny_seqItems hol hdl ?_)
  simp only [Int.toNat_natCast, hx]
  refine wpAny_bind (wpAny_setField ho hd (by simp) (wpAny_pure ⟨x, rfl, wpAny_pure (hQ _ ?_ (Heap.SameBut.update ..))⟩))
  exact ⟨_, Heap.get?_update_self _ ho (Obj.isFreed_of_fields (Obj.data_mapFields hd _)), (Obj.cls_mapFields ..).trans hc, by
    rw [Obj.data_mapFields hd]; simp [rawInt]⟩
theorem wpAny_nextOf_tup_end {it l : Addr} {i : Nat} {items} {Q : Value → Shared → Prop} (hh : A.handled = none)
    (hit : s.heap.IsTupleIter it l i) (hl : s.heap.IsTuple l items) (hx : items[i]? = none)
    (hE : ∀ h' e, Heap.ExtBut it s.heap h' → (∃ o, h'.get? e = some o ∧ o.cls = .type "StopIteration") → E (.ref e) { s with heap := h' }) :
    wpAny (model prog w) A (Builtin.SmallTypes.nextOf (.ref it)) Q E s := by
  obtain ⟨o, ho, hc, hd⟩ := id hit
  obtain ⟨ol, hol, _, nl, hdl⟩ := hl
  unfold Builtin.SmallTypes.nextOf
  refine wpAny_bind (wpAny_callSpecial?_slot (name := Str.ofString "__next__") hit.typeIs F.slot_tuple_iterator_next
    (wpAny_call_entry F.slot_tuple_iterator_next hit.typeIs F.entry_tuple_iterator_next ?_ (F.args_tuple_iterator_next_1 _)))
  show wpAny _ _ (field (.ref it) 0 >>= _) _ _ s
  refine wpAny_bind (wpAny_field ho hd (x := .ref l) rfl ?_)
  show wpAny _ _ (if (Value.ref l == Value.none) = true then _ else _) _ _ s
  rw [if_neg (show ¬ ((Value.ref l == Value.none) = true) from Bool.false_ne_true)]
  show wpAny _ _ (field (.ref it) 1 >>= _) _ _ s
  refine wpAny_bind (wpAny_field ho hd (x := .int i 0) rfl ?_)
  show wpAny _ _ (seqItems? (.ref l) >>= _) _ _ s
  refine wpAny_bind (wpAny_seqItems hol hdl ?_)
  simp only [Int.toNat_natCast, hx]
  refine wpAny_bind (wpAny_rule (wpAny_bind (wpAny_setField ho hd (by simp) ?_)))
  show wpAny _ _ (newExc (.type "StopIteration") [] >>= _) _ _ _
  refine wpAny_bind ?_
  simp only [newExc, newTuple]
  refine wpAny_bind (wpAny_newObj_type ?_ (by size_fits))
  refine wpAny_bind (m := firstArgMember _ _) (wpAny_of_eq (a := Value.none) (by first | rfl | (simp only [firstArgMember]; rfl)) ?_)
  refine wpAny_newObj_type ?_ (by size_fits)
  simp only [raiseNew]
  refine wpAny_bind (wpAny_handled ?_)
  first | rw [show A.in1.handled = none from hh] | rw [hh]
  refine wpAny_bind (wpAny_pure (wpAny_throw ?_))
  exact hE _ _ (((Heap.SameBut.update ..).extBut.push _).push _) ⟨_, Heap.get?_push_size _ rfl, rfl⟩
theorem enumerate_next_itemT {e it l : Addr} {i : Nat} {items : Array Value} {x old : Value} {Q : Value → Shared → Prop}
    (he : IsEnum s.heap e it i old) (hit : s.heap.IsTupleIter it l i) (hl : s.heap.IsTuple l items) (hx : items[i]? = some x) (hne : e ≠ it)
    (hQ : ∀ h', IsEnumOut h' e it ((i : Int) + 1) x s.heap.objs.size → h'.IsTupleIter it l (i + 1) →
      h'.get? s.heap.objs.size = some { cls := .type "tuple", data := .seq #[.int i s.toks, x] } → h'.objs.size = s.heap.objs.size + 1 →
      (∀ b o, b ≠ e → b ≠ it → s.heap.get? b = some o → h'.get? b = some o) → Q (.ref s.heap.objs.size) { s with heap := h', toks := s.toks + 1 }) :
    wpAny (model prog w) A (Builtin.«enumerate.__next__» ⟨[.ref e], []⟩) (fun fin s' => ∃ v, fin = .done (.ret v) ∧ Q v s') E s := by
  obtain ⟨hp, g, d, tk, os⟩ := s
  show wpAny _ _ (field (.ref e) 2 >>= _) _ _ _
  refine wpAny_bind (wpAny_field he rfl (x := .ref it) rfl ?_)
  refine wpAny_bind (wpAny_nextOf_tup_item hit hl hx fun h₁ hit₁ hs₁ => ?_)
  replace hs₁ : Heap.SameBut it hp h₁ := hs₁
  have he₁ : IsEnum h₁ e it i old := (hs₁.2 e hne).trans he
  show wpAny _ _ (field (.ref e) 3 >>= _) _ _ ⟨h₁, g, d, tk, os⟩
  refine wpAny_bind (wpAny_field he₁ rfl (x := rawInt i) rfl ?_)
  show wpAny _ _ (field (.ref e) 4 >>= _) _ _ ⟨h₁, g, d, tk, os⟩
  refine wpAny_bind (wpAny_field he₁ rfl (x := .none) rfl ?_)
  show wpAny _ _ (mkInt i >>= _) _ _ ⟨h₁, g, d, tk, os⟩
  refine wpAny_bind (wpAny_mkInt ?_)
  show wpAny _ _ (setField (.ref e) 3 (rawInt ((i : Int) + 1)) >>= _) _ _ ⟨h₁, g, d, tk + 1, os⟩
  refine wpAny_bind (wpAny_setField_rec he₁ (by simp) fun h₂ he₂ hs₂ => ?_)
  replace hs₂ : Heap.SameBut e h₁ h₂ := hs₂
  replace he₂ : IsEnum h₂ e it ((i : Int) + 1) old := he₂
  show wpAny _ _ (setField (.ref e) 4 .none >>= _) _ _ ⟨h₂, g, d, tk + 1, os⟩
  refine wpAny_bind (wpAny_setField_rec he₂ (by simp) fun h₃ he₃ hs₃ => ?_)
  replace hs₃ : Heap.SameBut e h₂ h₃ := hs₃
  replace he₃ : IsEnum h₃ e it ((i : Int) + 1) old := he₃
  show wpAny _ _ (newTuple [.int i tk, x] >>= _) _ _ ⟨h₃, g, d, tk + 1, os⟩
  refine wpAny_bind (wpAny_newTuple ?_)
  have he₄ : IsEnum (h₃.push { cls := .type "tuple", data := .seq #[.int i tk, x] }) e it ((i : Int) + 1) old := Heap.get?_push_of_some _ he₃
  generalize hh₄ : h₃.push { cls := .type "tuple", data := .seq #[.int i tk, x] } = h₄ at he₄
  have hsz : h₃.objs.size = hp.objs.size := by rw [hs₃.1, hs₂.1, hs₁.1]
  have hel : e < hp.objs.size := Heap.lt_size he
  have ht₄ : h₄.get? hp.objs.size = some { cls := .type "tuple", data := .seq #[.int i tk, x] } := by rw [← hh₄, ← hsz]; exact Heap.get?_push_size _ rfl
  have hz₄ : h₄.objs.size = hp.objs.size + 1 := by rw [← hh₄, Heap.size_push, hsz]
  have hk₄ : ∀ b o, b ≠ e → b ≠ it → hp.get? b = some o → h₄.get? b = some o := fun b o hbe hbi hb => by
    rw [← hh₄]; exact Heap.get?_push_of_some _ (hs₃.extBut b o hbe (hs₂.extBut b o hbe (hs₁.extBut b o hbi hb)))
  have hit₄ : h₄.IsTupleIter it l (i + 1) := by
    rw [← hh₄]; obtain ⟨o, ho, r⟩ := (hit₁.extBut hs₂.extBut (Ne.symm hne)).extBut hs₃.extBut (Ne.symm hne); exact ⟨o, Heap.get?_push_of_some _ ho, r⟩
  show wpAny _ _ (Builtin.SmallTypes.ownedTupleIsFree (.ref e) >>= _) _ _ ⟨h₄, g, d, tk + 1, os⟩
  rw [hsz]
  clear hh₄ he₃ hs₃ he₂ hs₂ he₁ hs₁ hit₁ hsz h₃ h₂ h₁
  refine wpAny_bind ?_
  · unfold Builtin.SmallTypes.ownedTupleIsFree
    refine wpAny_bind (wpAny_field he₄ rfl (x := .none) rfl (wpAny_pure ?_))
    simp only [if_true]
    refine wpAny_bind (wpAny_rule ?_)
    refine wpAny_bind (wpAny_field he₄ rfl (x := old) rfl ?_)
    refine wpAny_bind (wpAny_setField_rec he₄ (by simp) fun h₅ he₅ hs₅ => ?_)
    replace hs₅ : Heap.SameBut e h₄ h₅ := hs₅
    replace he₅ : IsEnum h₅ e it ((i : Int) + 1) x := he₅
    show wpAny _ _ (Builtin.SmallTypes.ownedTupleHandOut (.ref e) (.ref hp.objs.size) >>= _) _ _ ⟨h₅, g, d, tk + 1, os⟩
    refine wpAny_bind ?_
    · unfold Builtin.SmallTypes.ownedTupleHandOut
      refine wpAny_bind (wpAny_setField_rec he₅ (by simp) fun h₆ he₆ hs₆ => ?_)
      replace hs₆ : Heap.SameBut e h₅ h₆ := hs₆
      replace he₆ : IsEnumOut h₆ e it ((i : Int) + 1) x hp.objs.size := he₆
      refine wpAny_setField_rec he₆ (by simp) fun h₇ he₇ hs₇ => ?_
      replace hs₇ : Heap.SameBut e h₆ h₇ := hs₇
      replace he₇ : IsEnumOut h₇ e it ((i : Int) + 1) x hp.objs.size := he₇
      refine wpAny_bind (wpAny_letGo (wpAny_pure ⟨_, rfl, hQ h₇ he₇ ?_ ?_ ?_ ?_⟩))
      · exact ((hit₄.extBut hs₅.extBut (Ne.symm hne)).extBut hs₆.extBut (Ne.symm hne)).extBut hs₇.extBut (Ne.symm hne)
      · exact hs₇.extBut _ _ (Nat.ne_of_gt hel) (hs₆.extBut _ _ (Nat.ne_of_gt hel) (hs₅.extBut _ _ (Nat.ne_of_gt hel) ht₄))
      · rw [hs₇.1, hs₆.1, hs₅.1, hz₄]
      · exact fun b o hbe hbi hb => hs₇.extBut b o hbe (hs₆.extBut b o hbe (hs₅.extBut b o hbe (hk₄ b o hbe hbi hb)))

theorem wpAny_pyNext_enum_itemT {e it l : Addr} {i : Nat} {items : Array Value} {x old : Value} {Q : Option Value → Shared → Prop}
    (he : IsEnum s.heap e it i old) (hit : s.heap.IsTupleIter it l i) (hl : s.heap.IsTuple l items) (hx : items[i]? = some x) (hne : e ≠ it)
    (hQ : ∀ h', IsEnumOut h' e it ((i : Int) + 1) x s.heap.objs.size → h'.IsTupleIter it l (i + 1) →
      h'.get? s.heap.objs.size = some { cls := .type "tuple", data := .seq #[.int i s.toks, x] } → h'.objs.size = s.heap.objs.size + 1 →
      (∀ b o, b ≠ e → b ≠ it → s.heap.get? b = some o → h'.get? b = some o) → Q (some (.ref s.heap.objs.size)) { s with heap := h', toks := s.toks + 1 }) :
    wpAny (model prog w) A (pyNext (.ref e)) Q E s := by
  have hT : s.TypeIs (.ref e) "enumerate" := ⟨_, he, rfl⟩
  unfold pyNext
  exact wpAny_bind (wpAny_attempt (wpAny_callSpecial?_slot (name := Str.ofString "__next__") hT F.slot_enumerate_next
    (wpAny_call_entry F.slot_enumerate_next hT F.entry_enumerate_next
      (enumerate_next_itemT he hit hl hx hne fun h' a b c d k => wpAny_pure (hQ h' a b c d k)) (F.args_enumerate_next_1 _))))

theorem wpAny_pyNext_enum_endT {e it l : Addr} {i : Nat} {items : Array Value} {old : Value} {Q : Option Value → Shared → Prop} (hh : A.handled = none)
    (he : IsEnum s.heap e it i old) (hit : s.heap.IsTupleIter it l i) (hl : s.heap.IsTuple l items) (hx : items[i]? = none)
    (hQ : ∀ h', Heap.ExtBut it s.heap h' → Q none { s with heap := h' }) : wpAny (model prog w) A (pyNext (.ref e)) Q E s := by
  have hT : s.TypeIs (.ref e) "enumerate" := ⟨_, he, rfl⟩
  unfold pyNext
  refine wpAny_bind (wpAny_attempt (wpAny_callSpecial?_slot (name := Str.ofString "__next__") hT F.slot_enumerate_next
    (wpAny_call_entry F.slot_enumerate_next hT F.entry_enumerate_next ?_ (F.args_enumerate_next_1 _))))
  show wpAny _ _ (field (.ref e) 2 >>= _) _ _ _
  refine wpAny_bind (wpAny_field he rfl (x := .ref it) rfl ?_)
  refine wpAny_bind (wpAny_nextOf_tup_end hh hit hl hx fun h' x he' hx' => ?_)
  obtain ⟨o, ho, hc⟩ := hx'
  refine wpAny_bind (wpAny_isInstance (T := "StopIteration") (b := true) ⟨o, ho, hc⟩ isSubtype_stop ?_)
  exact wpAny_pure (hQ _ he')
end
end PySem
namespace L2
open PySem PySem.Spec PyProof.Rows
/-- the tuple at a at each turn, each item in a new pair -/
def IteT (K : PySem.W.Frag) (a : Addr) : It :=
  ⟨fun i H => ∃ (xs : List V) (x : V), SqT K H a xs ∧ xs[i]? = some x, fun i H v H' => ∃ T x, v = .ref T ∧ H T = none ∧ H' = upd H T (.tup [.int (i : Nat), x]) ∧ ∀ xs, SqT K H a xs → xs[i]? = some x, fun i H => ∃ xs : List V, SqT K H a xs ∧ xs.length ≤ i⟩
theorem turn_enumT {P : Program} {w : World} {K : PySem.W.Frag} {elts : List Expr} {kk : Nat} {tpos : Pos} (a e it : Addr) :
    Turn P w K (.Tuple elts kk tpos) (IteT K a) [e, it] e (fun i h => (∃ old, IsEnum h e it ((i : Nat) : Int) old) ∧ h.IsTupleIter it a i ∧ e ≠ it) where
  mem := by simp
  obj := fun i h st b hb => by
    obtain ⟨⟨old, he⟩, ⟨o, ho, hc, hd⟩, _⟩ := st
    have e' : b = e ∨ b = it := by simpa using hb
    rcases e' with z | z
    · rw [z]; exact ⟨_, he, fun v q => nomatch q⟩
    · rw [z]; exact ⟨o, ho, fun v q => by rw [hd] at q; cases q⟩
  keep := fun i h h' st k => let ⟨⟨old, he⟩, hi, hne⟩ := st; ⟨⟨old, k e (by simp) _ he⟩, hi.at fun o q => k it (by simp) o q, hne⟩
  item := by
    intro X hP hw hK hc i pins s σ H E I hf st hg
    subst hP hw hK
    obtain ⟨⟨old, he⟩, hit, hne⟩ := st
    obtain ⟨xs, x, hq, hx⟩ := hg
    obtain ⟨its, rv, p, hz⟩ := I.tuple hq
    obtain ⟨u, hu, ru⟩ := rv.get hx
    have hel : e < s.heap.objs.size := Heap.lt_size he
    have hil : it < s.heap.objs.size := by obtain ⟨_, q, _⟩ := hit; exact Heap.lt_size q
    refine wpAny_pyNext_enum_itemT he hit (show s.heap.IsTuple a its.toArray from p) (x := u) (by simpa using hu) hne fun h' ho hit' hT hsz hk => ?_
    refine ⟨_, rfl, wpAny_letOwnedTupleGo_enum (s := { s with heap := h', toks := s.toks + 1 }) ho fun h'' he' sb => ?_⟩
    have hT2 : h''.get? s.heap.objs.size = some { cls := .type "tuple", data := .seq #[.int i s.toks, u] } := (sb.2 _ (Nat.ne_of_gt hel)).trans hT
    have new : ObjOk X.prog X.w (upd H s.heap.objs.size (.tup [.int (i : Nat), x])) h'' s.heap.objs.size (.tup [.int (i : Nat), x]) :=
      ⟨by show 2 ≤ sizeLine; decide, [.int i s.toks, u], .cons ⟨_, rfl⟩ (.cons ru .nil), ⟨_, hT2, rfl, _, rfl⟩⟩
    have I1 : Inv X pins σ (upd H s.heap.objs.size (.tup [.int (i : Nat), x])) { s with heap := h'', toks := s.toks + 1 } :=
      I.turnedNew (ch := [e, it]) (fun b ob hb q => (sb.2 b (fun z => hb (by simp [z]))).trans (hk b ob (fun z => hb (by simp [z])) (fun z => hb (by simp [z])) q)) hf (Nat.le_refl _) new
    refine ⟨.ref s.heap.objs.size, _, I1, rfl, ⟨_, x, rfl, I.hok.fresh (Nat.le_refl _), rfl, fun ys hy => by rw [I.tuple_inj hy hq]; exact hx⟩, ⟨⟨u, ?_⟩, hit'.at fun o q => (sb.2 it (Ne.symm hne)).trans q, hne⟩, fun b hb => ?_⟩
    · have e1 : ((i + 1 : Nat) : Int) = (i : Int) + 1 := by omega
      rw [e1]; exact he'
    · have hb' : b < s.heap.objs.size := by
        have e' : b = e ∨ b = it := by simpa using hb
        rcases e' with z | z
        · rw [z]; exact hel
        · rw [z]; exact hil
      rw [upd_ne (Nat.ne_of_lt hb')]
      exact (hf b hb).1
  done := by
    intro X hP hw hK hc i pins s σ H E I hf st hg
    subst hP hw hK
    obtain ⟨⟨old, he⟩, hit, hne⟩ := st
    obtain ⟨xs, hq, hx⟩ := hg
    obtain ⟨its, rv, p, hz⟩ := I.tuple hq
    obtain ⟨f0, f1, f2, f3, f4, f5⟩ := hf it (by simp)
    have hl := rv.length
    exact wpAny_pyNext_enum_endT (I.ok.hd hc) he hit (show s.heap.IsTuple a its.toArray from p) (by simp; omega) fun h' eb => ⟨rfl, I.turned (t' := s.toks) (fun b o hb q => eb b o hb q) f0 f1 f3 f4 f5⟩
  self := fun A i s Q E st h => let ⟨⟨_, he⟩, _⟩ := st; wpAny_pyIter_enum he h
def iEnumT (K : PySem.W.Frag) (ta : TA) : TI := fun σ H R => ta σ H fun vs H1 => ∃ a xs, vs = [.ref a] ∧ SqT K H1 a xs ∧ R (IteT K a) H1
theorem pi_enumT {X : Cx} {e : Expr} {ta : TA} {p pos tpos : Pos} {elts : List Expr} {kk : Nat} (hg : Gl X "enumerate") (hm : X.mg "enumerate" = none) (ha : PA X [e] ta) (hs : starEach [e] X.env = [(false, eval e X.env)] := by rfl) :
    PI X (.Tuple elts kk tpos) (.Call (.Name "enumerate" p) [e] [] pos) (iEnumT X.K ta) := by
  refine ⟨fun pins s σ H R I h => ?_⟩
  refine Call_ (ld_blt I hg hm boot_enumerate (PyProof.Rows.callWith_type1 (thn (ha.run pos pins s σ H _ I h) fun us s1 ⟨vs, H1, I1, r1, q1⟩ => ?_) hs rfl))
  obtain ⟨a, xs, ex, hq, q⟩ := q1
  subst ex
  cases r1 with
  | cons r rr =>
    cases rr
    cases r
    obtain ⟨its, rv, p', hz⟩ := I1.tuple hq
    refine call_enumerate_tuple (show s1.heap.IsTuple a its.toArray from p') fun h' he hit hsz hk => wpAny_pyIter_enum he ?_
    have I2 : Inv X pins σ H1 { s1 with heap := h' } := I1.kept (t' := s1.toks) hk
    refine ⟨s1.heap.objs.size + 1, [s1.heap.objs.size + 1, s1.heap.objs.size], _, _, H1, rfl, I2, turn_enumT a (s1.heap.objs.size + 1) s1.heap.objs.size, ⟨⟨.none, he⟩, hit, Nat.succ_ne_self _⟩, fun b hb => ?_, q⟩
    have e' : b = s1.heap.objs.size + 1 ∨ b = s1.heap.objs.size := by simpa using hb
    have hle : s1.heap.objs.size ≤ b := by
      rcases e' with z | z
      · rw [z]; exact Nat.le_add_right _ _
      · rw [z]; exact Nat.le_refl _
    exact I1.fpOk hle (I1.hok.fresh hle)
theorem walk_enumT {K : PySem.W.Frag} {a : Addr} {xs : List V} : Walk (IteT K a) xs.length (fun H => SqT K H a xs) (YPair (fun i => some (.int (i : Nat))) (fun i => xs[i]?)) := by
  refine ⟨fun i _ hi q => ⟨xs, xs[i], q, by simp [hi]⟩, fun _ q => ⟨xs, q, Nat.le_refl _⟩, fun i H v H' _ q y => ?_⟩
  obtain ⟨T, x, h1, h2, h3, h4⟩ := y
  exact ⟨T, .int (i : Nat), x, h1, h2, h3, rfl, h4 xs q⟩
end L2
namespace Sw
open PySem PySem.Spec L2 PySem.Calls PyProof.Rows
/-- enumerate(a tuple) -/
def iEnuT (A : PE') : PI' := fun env Q => A env fun o env1 => ∃ d env2, o.fz env1 = some (d, env2) ∧ ∃ ds, d = .tuple ds ∧ Q (enD 0 ds) env2
theorem i_enuT {X : Cz} {a : Expr} {A : PE'} {elts : List Expr} {kk : Nat} {p pos tpos : Pos} (h : EV X a A) (hg : Gl X "enumerate") (hm : X.mg "enumerate" = none) (hs : starEach [a] X.env = [(false, eval a X.env)] := by rfl) (hs' : starEach (a :: []) X.env = (false, eval a X.env) :: starEach [] X.env := by rfl) : EI X (.Tuple elts kk tpos) (.Call (.Name "enumerate" p) [a] [] pos) (iEnuT A) := by
  obtain ⟨t, h1, l1⟩ := h.ex
  refine ⟨_, pi_enumT hg hm (pa_cons h1 pa_nil hs') hs, fun C σ H F env R Qp Rl k q => ?_⟩
  refine l1 C σ H F env _ _ Rl (fun v H1 F1 env1 o s1 a1 q1 => ?_) q
  obtain ⟨d, env2, e, ds, rfl, q1⟩ := q1
  obtain ⟨F2, s2, a2⟩ := fz_ok s1.rel a1 e
  simp only [At] at a2
  obtain ⟨p, xs, rfl, f1, f2⟩ := a2
  refine ⟨p, xs, rfl, (Le.tupAt s2.rel.frz f1).sqT, k _ _ H1 F2 env2 (s1.trans s2) ⟨fun H => SqT X.fr H p xs, YPair (fun i => some (.int (i : Nat))) (fun i => xs[i]?), ?_, fun H l => (Le.tupAt l f1).sqT, fun i H x H' hi l y => ?_⟩ q1⟩
  · rw [enD_len, ← f2.len]
    exact walk_enumT
  · obtain ⟨T, x1, x2, rfl, nT, rfl, h1, h2⟩ := y
    cases h1
    obtain ⟨d, e3, a3⟩ := f2.get' h2
    refine .inr ⟨T, _, [.int (i : Nat), d], nT, rfl, rfl, ?_, AtAll.cons (by simp [At]) (AtAll.cons a3 AtAll.nil)⟩
    rw [enD_get, e3]
    simp
end Sw

set_option Elab.async false
set_option linter.all false
set_option maxRecDepth 100000
set_option maxHeartbeats 4000000
namespace Sw
open PySem PySem.Spec L2
end Sw

set_option Elab.async false
set_option linter.all false
set_option maxRecDepth 100000
set_option maxHeartbeats 4000000
namespace Sw
open PySem PySem.Spec L2
mutual
def bareD : D → Bool
  | .list _ => false
  | .dict _ => false
  | .tuple ds => bareL ds
  | _ => true
def bareL : List D → Bool
  | [] => true
  | d :: r => bareD d && bareL r
end
end Sw
namespace Sw
open PySem PySem.Spec L2
end Sw

set_option Elab.async false
set_option linter.all false
set_option maxRecDepth 100000
set_option maxHeartbeats 4000000
namespace Sw
open PySem PySem.Spec L2 PySem.Calls
def intsOf : List D → Option (List Int)
  | [] => some []
  | .int i :: r => (intsOf r).map fun is => i :: is
  | _ :: _ => none
theorem AtAll.ints {K : FgK} {F : Hp} : ∀ {ds : List D} {is : List Int} {xs : List V}, intsOf ds = some is → AtAll K F ds xs → xs = is.map V.int
  | [], is, xs, e, a => by
    cases e
    simpa [AtAll] using a
  | d :: ds, is, xs, e, a => by
    cases d with
    | int i =>
      cases q : intsOf ds with
      | none => simp [intsOf, q] at e
      | some js =>
        simp [intsOf, q] at e
        subst e
        simp only [AtAll] at a
        obtain ⟨x, r, rfl, a, q2⟩ := a
        simp only [At] at a
        subst a
        rw [AtAll.ints q q2]
        rfl
    | _ => simp [intsOf] at e
end Sw

set_option Elab.async false
set_option linter.all false
set_option maxRecDepth 100000
set_option maxHeartbeats 4000000
namespace PySem
open Sem (wp)
section
variable {prog : Program} {w : World} {K : Type} [DecidableEq K] {knd : HeapKind prog w K} {A : Around} {E : Value → Shared → Prop} {s : Shared}
theorem wpAny_Dict_pairsH2 {env : Env} {keys : List (Option Expr)} {values : List Expr} {pos : Pos} {pairs : List (Sem Value × Sem Value)} {Q : Value → Shared → Prop} (hu : knd.room A)
    (hshape : (evalEachOpt keys env).zip ((evalEach values env).map fun v => do let x ← v; standAt pos; pure x) = pairs.map fun p => (some p.1, p.2)) (h0 : pairs ≠ []) (hlen : pairs.length ≤ 15)
    (h : wpAny (model prog w) A (evalPairs pairs) (fun vs s₁ => ∃ ps, CarriesH knd s₁.heap vs ps ∧ s₁.heap.DictOfH knd s.heap.objs.size [] ∧
      ∀ h' tk, h'.DictOfH knd s.heap.objs.size (storedAllH [] ps) → Heap.SameBut s.heap.objs.size s₁.heap h' → Q (.ref s.heap.objs.size) { s₁ with heap := h', toks := tk }) E
      { s with heap := s.heap.push { cls := .type "dict", data := .dict #[] } }) :
    wpAny (model prog w) A (eval (.Dict keys values pos) env) Q E s := by
  rw [arm_eval_Dict, hshape, dictDisplay_pairs pairs h0 (by omega)]
  exact wpAny_bind (wpAny_standAt (wpAny_bind (wpAny_subDictH (knd := knd) (Q := fun d s' => wpAny (model prog w) A (pure (Value.ref d)) Q E s') hu hlen
    (wpAny_mono h (fun vs s₁ h₁ => by obtain ⟨ps, hc, hm, hq⟩ := h₁; exact ⟨ps, hc, hm, fun h' tk a b => wpAny_pure (hq h' tk a b)⟩) fun _ _ e => e))))
end
end PySem
namespace Sw
open PySem PySem.Spec L2
end Sw
namespace Sw
open PySem PySem.Spec L2
end Sw

set_option Elab.async false
set_option linter.all false
set_option maxRecDepth 100000
set_option maxHeartbeats 4000000
namespace L2
open PySem PySem.Spec PyProof.Rows
/-! list(d.items()) of a dict with texts or numbers as keys -/
theorem pe_itemsV {X : Cx} {e : Expr} {td : TE} {apos cpos : Pos} (he : PE X e td) (hbase : attributeBase e "items" X.env (eval e X.env) = eval e X.env := by rfl) (hline : (apos.endLine == cpos.line) = true := by rfl) :
    PE X (.Call (.Attribute e "items" apos) [] [] cpos) (fun σ H Q => td σ H fun x H1 => ∃ d kvs, x = V.ref d ∧ Rd H1 d (.dK kvs) ∧ ∀ p, H1 p = none → Q (.ref p) (upd H1 p (DX.itemsO p d))) := by
  refine ⟨fun pins s σ H Q I h => ?_⟩
  refine wpAny_Call_method (T := "dict") (id := "dict.items") hbase rfl hline F.plainAttrs_dict F.slot_dict_items F.type_dict_items (thn (he.run pins s σ H _ I h) fun u s1 ⟨x, H1, I1, rx, d, kvs, ex, hd, q⟩ => ?_)
  subst ex
  obtain rfl : u = Value.ref d := rx
  obtain ⟨z, hs, vs, rk, hD⟩ := dk_rd I1.hok hd
  refine ⟨hD.typeIs, hD.mapOf.noDict, ?_⟩
  have hf := I1.hok.fresh (Nat.le_refl s1.heap.objs.size)
  have fin : EP X pins σ Q (.ref s1.heap.objs.size) { s1 with heap := s1.heap.push { cls := .type "dict_items", data := .fields #[.ref d] } } :=
    ⟨.ref s1.heap.objs.size, upd H1 s1.heap.objs.size (DX.itemsO s1.heap.objs.size d), I1.laid (t' := s1.toks) (fun b u e => Heap.get?_push_of_some _ e) (Nat.le_refl _) (DX.itemsO_ok (Heap.get?_push_size _ rfl)), rfl, q _ hf⟩
  show wpAny _ _ (callWith cpos (.builtin "dict.items") [.ref d] [] []) _ X.xe s1
  refine method_meetsIn (Q := EP X pins σ Q) F.slot_dict_items F.entry_dict_items rfl (PySem.evalArgs_none ?_)
  exact ⟨rfl, Heap.DictOf.typeIs hD, F.args_dict_items_1 _, _, meets_dict_items (mixKind X.prog X.w) d hs, ⟨vs, hD⟩, fin⟩
def rListI : List V → Hp → VK → Prop := fun xs H Q => ∃ p d kvs, xs = [V.ref p] ∧ H p = some (DX.itemsO p d) ∧ Rd H d (.dK kvs) ∧ ∀ (H' : Hp) (l : Addr) (ts : List Addr), (∀ b o, H b = some o → H' b = some o) → H' l = some (.lst (ts.map V.ref)) → H l = none → ts.length = kvs.length →
  (∀ (j : Nat) (t : Addr), ts[j]? = some t → H t = none ∧ t ≠ l ∧ ∃ k v, kvs[j]? = some (k, v) ∧ H' t = some (.tup [kV k, v])) → Q (.ref l) H'
theorem call_listItems {X : Cx} (hc : X.calm = true) : CallR X (.type "list") rListI := by
  intro pins s σ H xs us Q I r h
  obtain ⟨p, d, kvs, rfl, hp, hd, q⟩ := h
  obtain rfl := Vals.ref1 r
  have view : s.heap.IsItemsView p d := (show ObjOk X.prog X.w H s.heap p (DX.itemsO p d) from I.hok p _ hp).1
  obtain ⟨z, hs, vs, rk, hD⟩ := dk_rd I.hok hd
  obtain ⟨ep, hat⟩ := hD.dictAt
  have hl : kvs.length = vs.length := Paired.length rk
  refine PySem.W.kdx_call (knd := mixKind X.prog X.w) (I.ok.hd hc) view hat (by rw [← hl]; exact z) fun h' tk acc c as hk hlst hlen hG hacc => ?_
  have nd : as.Nodup := List.Pairwise.imp (fun h => Nat.ne_of_lt h) hG.rise
  have hz : (as.map V.ref).length ≤ sizeLine := by rw [List.length_map, hlen, ← hl]; exact z
  have rv : Vals (as.map V.ref) acc.toList := by
    rw [hacc]
    clear hlst hlen hG hacc nd hz
    induction as with
    | nil => exact .nil
    | cons a r ih => exact .cons rfl ih
  have I1 : Inv X pins σ (upd H s.heap.objs.size (.lst (as.map V.ref))) { s with heap := h', toks := tk } := I.laid hk (Nat.le_refl _) (show ObjOk X.prog X.w _ _ _ (.lst _) from ⟨hz, acc.toList, c, rv, by rw [Array.toArray_toList]; exact hlst⟩)
  have fr : ∀ a ∈ as, H a = none ∧ a ≠ s.heap.objs.size := fun a ha => by
    have h1 := hG.above a ha
    exact ⟨I.hok.fresh (Nat.le_of_lt h1), Nat.ne_of_gt h1⟩
  obtain ⟨H2, I2, g, tu⟩ := DX.takeT (P := fun a ws => ∀ j, as[j]? = some a → ∃ k v, kvs[j]? = some (k, v) ∧ ws = [kV k, v]) I as _ I1 nd fun a ha => by
    obtain ⟨j, hj⟩ := List.mem_iff_getElem?.mp ha
    obtain ⟨key, k, x, e1, e2, e3⟩ := hG.pairs j a hj
    obtain ⟨y, hy, r1⟩ := DX.pget rk e1
    obtain ⟨k', v⟩ := y
    obtain ⟨rfl, r2⟩ := r1
    refine ⟨Nat.le_of_lt (hG.above a ha), by rw [upd_ne (fr a ha).2]; exact (fr a ha).1, [kV k', v], fun i hi => ?_, fun H2 => ?_⟩
    · have e := (List.getElem?_inj (List.getElem?_eq_some_iff.mp hi).1 nd).mp (hi.trans hj.symm)
      subst e
      exact ⟨k', v, hy, rfl⟩
    · exact ⟨by show 2 ≤ sizeLine; rw [sizeLine_eq]; omega, [key, x], .cons (keyIs_rel e2) (.cons r2 .nil), ⟨_, e3, rfl, 0, rfl⟩⟩
  refine ⟨.ref s.heap.objs.size, H2, I2, rfl, q H2 _ as (fun b o e => g b o ?_) (g _ _ upd_same) (I.hok.fresh (Nat.le_refl _)) (by rw [hlen, hl]) fun j t hj => ?_⟩
  · rw [upd_ne (ne_of_none e (I.hok.fresh (Nat.le_refl _)))]; exact e
  · obtain ⟨f1, f2⟩ := fr t (List.mem_of_getElem? hj)
    obtain ⟨ws, h1, h2⟩ := tu t (List.mem_of_getElem? hj)
    obtain ⟨k, v, h3, rfl⟩ := h1 j hj
    exact ⟨f1, f2, k, v, h3, h2⟩
end L2
namespace Sw
open PySem PySem.Spec L2
end Sw

set_option Elab.async false
set_option linter.all false
set_option maxRecDepth 100000
set_option maxHeartbeats 4000000
namespace Sw
open PySem PySem.Spec L2
end Sw
namespace Sw
open PySem PySem.Spec L2
end Sw

set_option Elab.async false
set_option linter.all false
set_option maxRecDepth 100000
set_option maxHeartbeats 4000000
namespace Sw
open PySem PySem.Spec L2
end Sw

set_option Elab.async false
set_option linter.all false
set_option maxRecDepth 100000
set_option maxHeartbeats 4000000
namespace Sw
open PySem PySem.Spec L2
end Sw

set_option Elab.async false
set_option linter.all false
set_option maxRecDepth 100000
namespace Sw
open PySem PySem.Spec L2
end Sw

set_option Elab.async false
set_option linter.all false
set_option maxRecDepth 100000
namespace Sw
open PySem PySem.Spec L2
section
variable {X : Cz} {K : FgX}
def sAug (i : Nat) (A : PE') : PS' := fun Dp env => ∃ a, env[i]? = some (.dat (.int a)) ∧ A env fun o env1 => ∃ b, o.rd env1 = some (.int b) ∧ i < env1.length ∧ Dp.nx (env1.set i (.dat (.int (a + b))))
theorem s_aug {i : Nat} {x : Str} {e : Expr} {A : PE'} {pos pos' : Pos} (hN : X.N.Nodup) (hi : X.N[i]? = some x) (hx : Loc X.env.scope x) (h : EV X e A) (hf : X.fn x = true ∨ X.env.scope.names.lookup x = some .local := by first | exact .inl rfl | exact .inr rfl | assumption) :
    ES X (.AugAssign (.Name x pos') .Add e pos) (sAug i A) := by
  obtain ⟨t, h1, l1⟩ := h.ex
  refine ⟨_, ps_aug hN hi hx h1 ip_add hf, fun C σ H F env D Dp R k q => ?_⟩
  obtain ⟨a, e0, q⟩ := q
  obtain ⟨v, e1, av⟩ := R.slot i _ e0
  simp only [At] at av
  subst av
  refine ⟨_, e1, ?_⟩
  refine l1 C σ H F env _ _ R (fun v H1 F1 env1 o s1 a1 q1 => ?_) q
  obtain ⟨b, eb, hl, q1⟩ := q1
  have w := (rd_vw s1.rel a1 eb).int
  subst w
  exact ⟨a, b, rfl, rfl, k.nx _ H1 F1 _ (s1.rel.assign (by rw [← s1.rel.len]; exact hl) (by simp [At])) s1.ff q1⟩
end
end Sw

set_option Elab.async false
set_option linter.all false
set_option maxRecDepth 100000
set_option maxHeartbeats 4000000
namespace Sw
open PySem PySem.Spec L2
end Sw

set_option Elab.async false
set_option linter.all false
set_option maxRecDepth 100000
set_option maxHeartbeats 4000000
namespace Sw
open PySem PySem.Spec L2 PyProof.Rows
end Sw

set_option Elab.async false
set_option linter.all false
set_option maxRecDepth 100000
set_option maxHeartbeats 4000000
namespace Sw
open PySem PySem.Spec L2 PyProof.Rows
section
variable {X : Cz}
def fListRg1 (A : PE') : PF' := fun env Q => A env fun o env1 => ∃ j, o.rd env1 = some (.int j) ∧ RgOk 0 j ∧ Q (rgD 0 j.toNat) env1
def fListRg2 (A B : PE') : PF' := fun env Q => A env fun o env1 => B env1 fun o2 env2 => ∃ i, o.rd env2 = some (.int i) ∧ ∃ j, o2.rd env2 = some (.int j) ∧ RgOk i j ∧ Q (rgD i (j - i).toNat) env2
def iRevL (A : PE') : PI' := fun env Q => A env fun o env1 => ∃ ds env2, o.fz env1 = some (.list ds, env2) ∧ Q ds.reverse env2
end
section
variable {K : FgX}
def gReverse : List D → List D → Option (D × List D)
  | ds, [] => some (.none, ds.reverse)
  | _, _ => none
theorem gReverse_0 {ds : List D} : gReverse ds [] = some (.none, ds.reverse) := rfl
end
section
variable {X : Cz}
def fCallR (sp : PSp) (T : PA') : PF' := fun env Q => T env fun os env1 => ∃ ds env2, fzAll env1 os = some (ds, env2) ∧ sp none ds fun rv _ => ∃ es, rv = .fr es ∧ bareL es = true ∧ Q es env1
end
end Sw

set_option Elab.async false
set_option linter.all false
set_option maxRecDepth 100000
set_option maxHeartbeats 4000000
namespace Sw
open PySem PySem.Spec L2 PyProof.Rows
section
variable {X : Cz}
def sSetAll (i : Nat) (T : PF') : PS' := fun Dp env => T env fun ds env1 => ∃ l es, env1[i]? = some (SV.own l es) ∧ es.length + ds.length ≤ sizeLine ∧ Dp.nx (env1.set i (SV.own l ds))
end
end Sw

set_option Elab.async false
set_option linter.all false
set_option maxRecDepth 100000
namespace Sw
open PySem PySem.Spec L2
section
variable {K : FgX}
def gAbs : List D → Option D
  | [.int i] => some (.int (i.natAbs : Int))
  | _ => none
theorem gAbs_1 {i : Int} : gAbs [.int i] = some (.int (i.natAbs : Int)) := rfl
theorem l_abs : LC K (fun xs H Q => ∃ i, xs = [V.int i] ∧ Q (.int (if i < 0 then -i else i)) H) gAbs := fun C σ H F env xs ds d Q R a e k => by
  unfold gAbs at e
  split at e
  · cases e
    rename_i i
    obtain ⟨x, rfl, w⟩ := a.one
    rw [w.int]
    refine ⟨_, rfl, ?_⟩
    have h : (if i < 0 then -i else i) = (i.natAbs : Int) := by split <;> omega
    rw [h]
    exact k _ H F (Stp.refl R) (by simp [At])
  · cases e
end
end Sw

set_option Elab.async false
set_option linter.all false
set_option maxRecDepth 100000
set_option maxHeartbeats 4000000
namespace Sw
open PySem PySem.Spec L2
section
variable {X : L2.Cx} {a : Addr} {ns : List Int}
def qLenS (a : Addr) (ns : List Int) (i : Nat) : PE' := fun env Q => env[i]? = some (SV.raw (.ref a)) ∧ Q (.dv (.int (ns.length : Nat))) env
def qIxS (a : Addr) (ns : List Int) (i : Nat) (B : PE') : PE' := fun env Q => env[i]? = some (SV.raw (.ref a)) ∧ B env fun o env1 => ∃ j, o.rd env1 = some (.int j) ∧ 0 ≤ j ∧ j < (ns.length : Nat) ∧ Q (.dv (.int (ns.getD j.toNat 0))) env1
end
/-- what a def promises that is handed the script and data -/
abbrev PSpS := List Int → List D → (RV → Prop) → Prop
section
variable {X : L2.Cx} {a : Addr} {ns : List Int}
def fCallS (a : Addr) (ns : List Int) (sp : PSpS) (i : Nat) (T : PA') : PF' := fun env Q => env[i]? = some (SV.raw (.ref a)) ∧ T env fun os env1 => ∃ ds env2, fzAll env1 os = some (ds, env2) ∧ sp ns ds fun rv => ∃ es, rv = .fr es ∧ Q es env2
end
end Sw

set_option Elab.async false
set_option linter.all false
set_option maxRecDepth 100000

namespace Sw
open PySem PySem.Spec L2

theorem Vw.atom {K : FgK} {H F : Hp} {d : D} {v x : V} (e : atomV d = some v) (w : Vw K H F d x) : x = v := by
  cases d with
  | none => cases e; simpa [Vw, At] using w
  | bool b => cases e; simpa [Vw, At] using w
  | int i => cases e; simpa [Vw, At] using w
  | str z => cases e; simpa [Vw, At] using w
  | _ => cases e
def sRaise1 (Ep : XP) (n f : Str) (A : PE') : PS' := fun _ env => A env fun o env1 => ∃ d, o.rd env1 = some d ∧ (atomV d).isSome = true ∧ Ep ⟨n, some (f, d)⟩ env1
def sRaiseD (Ep : XP) (n f : Str) : PS' := fun _ env => Ep ⟨n, some (f, .none)⟩ env
def sRaise0 (Ep : XP) (n : Str) : PS' := fun _ env => Ep ⟨n, none⟩ env
end Sw

set_option Elab.async false
set_option linter.all false
set_option maxRecDepth 100000
namespace Sw
open PySem PySem.Spec L2

def qCallX (Ep : XP) (sp : PSpX) (T : PA') : PE' := fun env Q => T env fun os env1 => ∃ ds env2, fzAll env1 os = some (ds, env2) ∧ sp ds (fun rv => Q (.dv rv.toD) env2) fun xv => Ep xv env2
def fCallX (Ep : XP) (sp : PSpX) (T : PA') : PF' := fun env Q => T env fun os env1 => ∃ ds env2, fzAll env1 os = some (ds, env2) ∧ sp ds (fun rv => ∃ es, rv = .fr es ∧ Q es env2) fun xv => Ep xv env2
end Sw


set_option Elab.async false
set_option linter.all false
set_option maxRecDepth 100000
namespace Sw
open PySem PySem.Spec L2

def sTry (cl : List Str) (Ep : XP) (B : XP → PS') (hs : List Cls') : PS' := fun Dp env => B (pHs cl Ep Dp hs) Dp env
theorem HOk.pl {X : Cz} {cl : List Str} {x : Str} {S' : Addr → XV → PS'} {b₀ : Stmt} {suite : List Stmt} {np pos' : Pos} {hds : List ExceptHandler} {l : List Cls'} (hg : Gl X x) (hdb : (x == ("__debug__" : Str)) = false) (hx : x ∈ cl)
      (hsu : ∀ (a : Addr) (oe : Obj) (cls : Value) (d : Option Addr) (pn : List (Addr × Obj)) (xv : XV), InS X cl cls d oe xv → EB (X.suit a oe pn d xv) (b₀ :: suite) (S' a xv)) (r : HOk X cl hds l) :
      HOk X cl (.ExceptHandler (some (.Name x np)) none (b₀ :: suite) pos' :: hds) (⟨x, none, S'⟩ :: l) := .plain hg hdb hx rfl rfl hsu r
theorem HOk.nm {X : Cz} {cl : List Str} {x n : Str} {i : Nat} {S' : Addr → XV → PS'} {b₀ : Stmt} {suite : List Stmt} {np pos' : Pos} {hds : List ExceptHandler} {l : List Cls'} (hg : Gl X x) (hdb : (x == ("__debug__" : Str)) = false) (hx : x ∈ cl) (hi : X.N[i]? = some n) (hln : X.env.kindOf n = some .local)
      (hsu : ∀ (a : Addr) (oe : Obj) (cls : Value) (d : Option Addr) (pn : List (Addr × Obj)) (xv : XV), InS X cl cls d oe xv → EB (X.suit a oe pn d xv) (b₀ :: suite) (S' a xv)) (r : HOk X cl hds l) :
      HOk X cl (.ExceptHandler (some (.Name x np)) (some n) (b₀ :: suite) pos' :: hds) (⟨x, some i, S'⟩ :: l) := .named hg hdb hx rfl rfl hi hln hsu r
section
variable {X : Cz} {cl fl : List Str} {a : Addr} {oe : Obj} {cls : Value} {d : Option Addr} {pn : List (Addr × Obj)} {xv : XV}
def qXf (a : Addr) (xv : XV) (i : Nat) (f : Str) : PE' := fun env Q => env[i]? = some (.raw (.ref a)) ∧ ∃ x, xv.f = some (f, x) ∧ Q (.dv x) env
def qXi (a : Addr) (xv : XV) (i : Nat) (m : Str) : PE' := fun env Q => env[i]? = some (.raw (.ref a)) ∧ Q (.dv (.bool (subX xv.c m))) env
def qXis (a : Addr) (xv : XV) (i : Nat) (ms : List Str) : PE' := fun env Q => env[i]? = some (.raw (.ref a)) ∧ Q (.dv (.bool (ms.any fun m => subX xv.c m))) env
end

end Sw

set_option Elab.async false
set_option linter.all false
set_option maxRecDepth 100000
namespace Sw
open PySem PySem.Spec L2
abbrev pE (Ep : XV → Prop) : XP := fun xv _ => Ep xv
end Sw
namespace Sw
open PySem PySem.Spec L2
theorem ex_fx {f : Str} {y : D} {P : D → Prop} : (∃ x, (some (f, y) : Option (Str × D)) = some (f, x) ∧ P x) ↔ P y := ⟨fun ⟨x, e, h⟩ => by cases e; exact h, fun h => ⟨y, rfl, h⟩⟩
theorem ex_rx {es : List D} {P : List D → Prop} : (∃ es', RV.fr es = RV.fr es' ∧ P es') ↔ P es := ⟨fun ⟨d, e, h⟩ => by cases e; exact h, fun h => ⟨es, rfl, h⟩⟩
end Sw

set_option Elab.async false
set_option linter.all false
set_option maxRecDepth 100000
namespace Sw
open PySem PySem.Spec L2

end Sw

set_option Elab.async false
set_option linter.all false
set_option maxRecDepth 100000
namespace Sw
open PySem PySem.Spec L2

end Sw

set_option Elab.async false
set_option linter.all false
set_option maxRecDepth 100000

namespace Sw
open PySem PySem.Spec L2
end Sw

set_option Elab.async false
set_option linter.all false
set_option maxRecDepth 100000

namespace Sw
open PySem PySem.Spec L2
end Sw

set_option Elab.async false
set_option linter.all false
set_option maxRecDepth 100000
set_option maxHeartbeats 4000000
namespace Sw
open PySem PySem.Spec L2
end Sw

set_option Elab.async false
set_option linter.all false
set_option maxRecDepth 100000
set_option maxHeartbeats 4000000
namespace Sw
open PySem PySem.Spec L2
end Sw

set_option Elab.async false
set_option linter.all false
set_option maxRecDepth 100000
set_option maxHeartbeats 4000000
namespace Sw
open PySem PySem.Spec L2
end Sw

set_option Elab.async false
set_option linter.all false
set_option maxRecDepth 100000
namespace L2
open PySem PySem.Spec PyProof.Rows
/-! ### a def that is handed the error in hand, called within the suite -/
structure FnE (P : Program) (w : World) (K : PySem.W.Frag) (mg : Str → Option Value) (base : Heap) (CX : CXT) (k : Nat) (f : Addr) (fd : FuncData) (ps : List Str) (sp : Addr → Obj → Sp) : Prop where
  len : ∀ a o vs H Q E, sp a o vs H Q E → vs.length = ps.length
  run : ∀ (A : Around) (outer : List Env) (s : Shared) (H : Hp) (args : Args) (us : List Value) (vs : List V) (Q : VK) (E : XK) (p : Addr × Obj), L2H.RoomH k A → L2H.PinOk outer H s p → Env0 P w K mg base A outer s H → BindsTo s fd args (ps.zip us) → Vals vs us → sp p.1 p.2 vs H Q E →
    codeAny (model P w) A (.call (.ref f) args) (CR CX outer P w H s Q E) s
section
variable {CX : CXT} {P : Program} {w : World} {K : PySem.W.Frag} {mg : Str → Option Value} {base : Heap} {k : Nat} {f : Addr} {fd : FuncData}
theorem fnE_of {x qual : Str} {params : Arguments} {body : List Stmt} {scope : Scope} {dvs : List V} {kws : List (Str × V)} {N ps : List Str} {sp : Addr → Obj → Sp} (F : FunD K x qual params body scope dvs kws f fd) (S : FnScope N ps scope) (len : ∀ a o vs H Q E, sp a o vs H Q E → vs.length = ps.length)
    (hbody : ∀ (cdv : Value) (A : Around) (outer : List Env) (s : Shared) (H : Hp) (vs : List V) (Q : VK) (E : XK) (p : Addr × Obj), L2H.RoomH k (A.deeper (envOfC qual scope s.heap.objs.size f cdv)) → sp p.1 p.2 vs H Q E →
      ∃ t, PSs (L2H.cxH CX P w K mg base N qual scope f cdv A outer s H E p) body t ∧ t { nx := fun _ H' => Q .non H', rt := Q } (L2.start N vs) H) : FnE P w K mg base CX (k + 1) f fd ps sp := by
  obtain ⟨oc, od, dV, kV, doc, pm, an, cdv, ct, osl, rfl, lk, hcd, _, _⟩ := F.ex
  refine ⟨len, fun A outer s H args us vs Q E p hr hpin e0 hb r hsp => ?_⟩
  have inK : K.In s.heap := e0.mod.kin.keeps fun b o e => (e0.bs b o e).1
  have limS : s.heap.NoLimit := e0.mod.nolimit.keeps fun b o e => (e0.bs b o e).1
  have kinds : ∀ y ∈ ps.zip us, scope.names.lookup y.1 = some .local ∨ (scope.names.lookup y.1 = some .cell ∧ ((cellsFrom (s.heap.objs.size + 1) scope.names []).lookup y.1).isSome = true) := fun ⟨n, v⟩ hy =>
    (S.par n (List.of_mem_zip hy).1).elim .inl fun q => .inr ⟨q, PySem.W.cellsFrom_some _ _ _ (.inl q)⟩
  refine codeAny_call_function hr.depth (inK _ _ lk) rfl S.co S.gen rfl (PySem.W.codeRec_of inK hcd) (hb _ _ _ _ (wpAny_newFunctionEnv_cells S.kind kinds fun env he s1 xx => ?_))
  subst he
  obtain ⟨t, ht, hq⟩ := hbody cdv A outer s H vs Q E p (hr.deeper _) hsp
  have J0 : Inv (L2H.cxH CX P w K mg base N qual scope f cdv A outer s H E p) [] (L2.start N vs) H s1 := L2H.inv_startH S hpin e0 (len _ _ _ _ _ _ hsp) r xx
  refine ⟨limS.keeps xx.toInCall.keep, codeAny_func (wpAny_mono (ht.run [] s1 (L2.start N vs) H _ J0 hq) (fun fl s' hs => ?_) fun e s' hs => hs)⟩
  have fin : ∀ {σ' : St} {H' : Hp} {v : V} {u : Value}, Inv (L2H.cxH CX P w K mg base N qual scope f cdv A outer s H E p) [] σ' H' s' → RelV v u → Q v H' → CE outer P w H s Q u s' :=
    fun {σ' H' v u} J rv q => ⟨v, H', J.os, J.bare, J.base, J.hok, rv, q⟩
  cases fl with
  | ret u => exact let ⟨v, σ', H', J, rv, q⟩ := hs; fin J rv q
  | next => exact let ⟨σ', H', J, q⟩ := hs; fin (v := V.non) (u := Value.none) J rfl q
  | brk => exact let ⟨_, _, _, q⟩ := hs; False.elim q
  | cont => exact let ⟨_, _, _, q⟩ := hs; False.elim q
end
section
variable {X : Cx} {CX : CXT} {k : Nat} {f : Addr} {fd : FuncData} {ps : List Str} {sp : Addr → Obj → Sp} {E : St → XK} {x : Str} {q pos : Pos} {e : Expr} {es : List Expr} {t : TA} {a : Addr} {oe : Obj}
def tCallE (sp : Sp) (E : St → XK) (t : TA) : TE := fun σ H Q => t σ H fun vs H1 => sp vs H1 Q (E σ)
theorem pe_callE (F : FnE X.prog X.w X.K X.mg X.base CX k f fd ps sp) (hr : L2H.RoomH k X.A) (hp : (a, oe) ∈ X.pn) (hg : Gl X x) (hm : X.mg x = some (.ref f)) (hk : PySem.W.keepIn X.K (.ref f) = true) (hb : Binds X.K fd ps []) (hx : ∀ σ, PassesAt CX X σ (E σ))
    (ha : PA X (e :: es) t) (hdb : (x == ("__debug__" : Str)) = false := by decide) (he : starEach (e :: es) X.env = (false, eval e X.env) :: starEach es X.env := by rfl) (hpl : (backTo pos (starEach es X.env)).any (·.1) = false := by rfl) :
    PE X (.Call (.Name x q) (e :: es) [] pos) (tCallE (sp a oe) E t) := by
  refine ⟨fun pins s σ H Q I h => wpAny_Call_Name_kw (ld_glob I hg hm ?_ hdb)⟩
  refine PySem.W.callWith_K (h₀ := X.base) I.ok.mod.kin hk (thn (ha.run pos pins s σ H _ I h) fun us s1 ⟨vs, H1, I1, r, q⟩ => ⟨I1.kIn, ?_⟩) he hpl
  have hl : us.length = ps.length := by rw [← r.length]; exact F.len _ _ _ _ _ _ q
  have b := hb s1 us I1.kIn (by rw [List.append_nil]; exact hl)
  rw [List.append_nil] at b
  have P1 := I1.pin (a, oe) (List.mem_append_left _ hp)
  have pinned : L2H.PinOk X.stack H1 s1 (a, oe) := ⟨P1.1, P1.2.1, fun hm => (List.mem_cons.mp (I1.stkSub a hm)).elim P1.2.2.1 P1.2.2.2.1, P1.2.2.2.2⟩
  refine wpAny_call (codeAny_mono (F.run X.A X.stack s1 H1 ⟨us, []⟩ us vs Q (E σ) (a, oe) hr pinned I1.env0 b r q) fun r s' hq => ?_)
  cases r with
  | error e => exact hx σ pins H1 s1 e s' I1 hq
  | ok fl =>
    cases fl with
    | ret u => exact I1.after hq
    | next => exact False.elim hq
    | brk => exact False.elim hq
    | cont => exact False.elim hq
end
end L2
namespace Sw
open PySem PySem.Spec L2
end Sw

set_option Elab.async false
set_option linter.all false
set_option maxRecDepth 100000
namespace Sw
open PySem PySem.Spec L2
theorem frm_n {C : Ec} {M : Hp} {b : Addr} (h : M b = none) : (frm C M).H0 b = C.H0 b := by unfold frm; simp only [h]
theorem frm_none {C : Ec} {M : Hp} {b : Addr} (h : (frm C M).H0 b = none) : M b = none ∧ C.H0 b = none := by
  cases q : M b with
  | none => rw [frm_n q] at h; exact ⟨rfl, h⟩
  | some o => rw [frm_s q] at h; cases h
section
variable {K : FgX} {C : Ec} {M M' : Hp} {σ : L2.St} {H F H' F' : Hp} {env : List SV}
/-- the cells are changed, more of them come -/
theorem Rel.remap (R : Rel K (frm C M) σ H F env) (m0 : MOk C M) (hM : ∀ b o, M b = some o → ∃ o', M' b = some o') (hH : ∀ b, M' b = none → H' b = H b) (hS : ∀ b o, M' b = some o → H' b = some o ∧ F b = none ∧ ¬ Own σ env b) (m1 : MOk C M') (hx : XOk K (frm C M')) : Rel K (frm C M') σ H' F env := by
  have hn : ∀ b, M' b = none → M b = none := fun b h => by
    cases q : M b with
    | none => rfl
    | some o =>
      obtain ⟨o', e⟩ := hM b o q
      rw [h] at e
      cases e
  refine ⟨⟨fun b u h => ?_, R.mono, fun b u h => ?_, fun b u h n => ?_, fun a h => ?_, R.len, fun i sv e => ?_, R.dist⟩, hx⟩
  · cases q : M' b with
    | none => rw [hH b q]; exact R.frz b u h
    | some o =>
      have := (hS b o q).2.1
      rw [h] at this
      cases this
  · rcases R.new b u h with z | z
    · exact .inl z
    · refine .inr ?_
      cases q : M' b with
      | none =>
        rw [frm_n q]
        exact (frm_none z).2
      | some o =>
        have := (hS b o q).2.1
        rw [h] at this
        cases this
  · cases q : M' b with
    | none =>
      rw [hH b q]
      rw [frm_n q] at h
      exact R.frame b u (by rw [frm_n (hn b q)]; exact h) n
    | some o =>
      rw [frm_s q] at h
      have e := (hS b o q).1
      rw [Option.some.inj h] at e
      exact e
  · obtain ⟨⟨xs, e⟩, f, o, g⟩ := R.la a h
    have q : M' a = none := by
      cases q : M' a with
      | none => rfl
      | some o => exact absurd h (m1 a o q).2.2
    exact ⟨⟨xs, by rw [hH a q]; exact e⟩, f, o, by rw [frm_n q]; rw [frm_n (hn a q)] at g; exact g⟩
  · have w := R.slot i sv e
    cases sv with
    | un => trivial
    | raw z => exact w
    | dat d => exact w
    | obj l c =>
      obtain ⟨p, u, e1, e2, e3, e4, e5⟩ := w
      have q : M' p = none := by
        cases q : M' p with
        | none => rfl
        | some o => exact absurd ⟨i, l, c, e, e1⟩ (hS p o q).2.2
      refine ⟨p, u, e1, by rw [hH p q]; exact e2, e3, ?_, e5⟩
      cases l with
      | true => exact e4
      | false =>
        rw [if_neg (by decide)] at e4 ⊢
        rw [frm_n q]
        exact (frm_none e4).2
/-- the cells go over into what is known -/
theorem Rel.leave (R : Rel K (frm C M) σ H F env) (m0 : MOk C M) (hH : ∀ b, M b = none → H' b = H b ∧ F' b = F b) (hS : ∀ b o u, M b = some o → F' b = some u → H' b = some u) (hx : XOk K C) : Le F F' ∧ Rel K C σ H' F' env := by
  have ff : Le F F' := fun b u h => by
    cases q : M b with
    | none => rw [(hH b q).2]; exact h
    | some o =>
      have := (R.apart m0 q).2.1
      rw [h] at this
      cases this
  refine ⟨ff, ⟨fun b u h => ?_, fun b u h => ff b u (R.mono b u h), fun b u h => ?_, fun b u h n => ?_, fun a h => ?_, R.len, fun i sv e => ?_, R.dist⟩, hx⟩
  · cases q : M b with
    | none =>
      obtain ⟨e1, e2⟩ := hH b q
      rw [e1]
      rw [e2] at h
      exact R.frz b u h
    | some o => exact hS b o u q h
  · cases q : M b with
    | none =>
      obtain ⟨e1, e2⟩ := hH b q
      rw [e2] at h
      rcases R.new b u h with z | z
      · exact .inl z
      · exact .inr (frm_none z).2
    | some o => exact .inr (m0 b o q).1
  · cases q : M b with
    | none =>
      rw [(hH b q).1]
      exact R.frame b u (by rw [frm_n q]; exact h) n
    | some o =>
      rw [(m0 b o q).1] at h
      cases h
  · obtain ⟨⟨xs, e⟩, f, o, g⟩ := R.la a h
    have q : M a = none := by
      cases q : M a with
      | none => rfl
      | some o => exact absurd h (m0 a o q).2.2
    obtain ⟨e1, e2⟩ := hH a q
    exact ⟨⟨xs, by rw [e1]; exact e⟩, by rw [e2]; exact f, o, by rw [frm_n q] at g; exact g⟩
  · have w := R.slot i sv e
    cases sv with
    | un => trivial
    | raw z => exact w
    | dat d =>
      obtain ⟨v, e1, a⟩ := w
      exact ⟨v, e1, At.mono ff d v a⟩
    | obj l c =>
      obtain ⟨p, u, e1, e2, e3, e4, e5⟩ := w
      have q : M p = none := by
        cases q : M p with
        | none => rfl
        | some o => exact absurd ⟨i, l, c, e, e1⟩ (R.apart m0 q).2.2
      obtain ⟨h1, h2⟩ := hH p q
      refine ⟨p, u, e1, by rw [h1]; exact e2, by rw [h2]; exact e3, ?_, e5.mono ff⟩
      cases l with
      | true => exact e4
      | false =>
        rw [if_neg (by decide)] at e4 ⊢
        exact (frm_none e4).2
end
section
variable {K : FgK} {F F' M M' : Hp}
theorem RepL.snoc {k : D} {nk : NestedKey} {b a : Addr} {ds : List D} {xs : List V} (e : k = nkD nk) (a1 : At K F k (.ref b)) (m : M a = some (.lst xs)) (a2 : AtAll K F ds xs) : ∀ {G : List (D × List D)} {zs : List (NestedKey × Addr × V)} {as : List Addr}, RepL K F M G zs as → RepL K F M (G ++ [(k, ds)]) (zs ++ [(nk, b, .ref a)]) (as ++ [a])
  | [], _, _, q => by
    obtain ⟨rfl, rfl⟩ := q
    exact ⟨nk, b, [], xs, a, [], rfl, rfl, e, a1, m, a2, rfl, rfl⟩
  | (k', ds') :: r, zs, as, q => by
    obtain ⟨nk', b', zr, xs', a', ar, rfl, rfl, e3, a1', m', a2', q⟩ := q
    exact ⟨nk', b', _, xs', a', _, rfl, rfl, e3, a1', m', a2', RepL.snoc e a1 m a2 q⟩
end
end Sw

set_option Elab.async false
set_option linter.all false
set_option maxRecDepth 100000
set_option maxHeartbeats 4000000
namespace Sw
open PySem PySem.Spec L2 PySem.Calls PyProof.Rows
open PpSet (boolK boolK_is)
noncomputable local instance memDecTrB (k : Bool) (l : List Bool) : Decidable (k ∈ l) := Classical.propDecidable _
end Sw

set_option Elab.async false
set_option linter.all false
set_option maxRecDepth 100000
namespace Sw
open PySem PySem.Spec L2
abbrev MSA := MEndsA → NGA → List SV → Prop
def LMA (K : FgX) (t : TS) (T : MSA) : Prop := ∀ (C : Ec) (M : Hp) (σ : L2.St) (H F : Hp) (env : List SV) (g : NGA) (D : Ends) (Dp : MEndsA), RelMA K C M σ H F env g → EndsMA K C F D Dp → T Dp g env → t D σ H
structure EMA (X : Cz) (st : Stmt) (T : MSA) : Prop where
  ex : ∃ t, PS X st t ∧ LMA X.fr t T
structure EMsA (X : Cz) (sts : List Stmt) (T : MSA) : Prop where
  ex : ∃ t, PSs X sts t ∧ LMA X.fr t T
section
variable {X : Cz}
def aSeq (A B : MSA) : MSA := fun Dp g env => A { Dp with nx := B Dp } g env
theorem a_cons {st : Stmt} {rest : List Stmt} {A B : MSA} (h : EMA X st A) (g : EMsA X rest B) : EMsA X (st :: rest) (aSeq A B) := by
  obtain ⟨t, h1, l1⟩ := h.ex
  obtain ⟨u, h2, l2⟩ := g.ex
  refine ⟨_, pss_cons h1 h2, fun C M σ H F env g D Dp R k q => ?_⟩
  exact l1 C M σ H F env g { D with nx := u D } { Dp with nx := B Dp } R ⟨fun M' σ' H' F' env' g' R' l q' => l2 C M' σ' H' F' env' g' D Dp R' (k.mono l) q', k.rt, k.bk, k.ct, k.rn⟩ q
theorem a_one {st : Stmt} {A : MSA} (h : EMA X st A) : EMsA X [st] A := by
  obtain ⟨t, h1, l1⟩ := h.ex
  refine ⟨_, pss_cons h1 pss_nil, fun C M σ H F env g D Dp R k q => ?_⟩
  exact l1 C M σ H F env g _ Dp R ⟨k.nx, k.rt, k.bk, k.ct, k.rn⟩ q
/-- a statement that leaves what is nested alone -/
def aLift (A : PS') : MSA := fun Dp g env => A { nx := Dp.nx g, rt := Dp.rt, bk := Dp.bk g, ct := Dp.ct g } env
/-- the nested cells are known from here on -/
theorem RelMA.out {C : Ec} {M : Hp} {σ : L2.St} {H F : Hp} {env : List SV} (hx0 : ∀ C M, XOk X.fr C ↔ XOk X.fr (frm C M)) (R : Rel X.fr (frm C M) σ H F env) (m0 : MOk C M) : Le F (fun b => match M b with | some u => some u | none => F b) ∧ Rel X.fr C σ H (fun b => match M b with | some u => some u | none => F b) env :=
  R.leave (H' := H) m0 (fun b e => by
    refine ⟨rfl, ?_⟩
    simp only [e]) (fun b u w e hw => by
    simp only [e] at hw
    rw [← hw]
    exact (R.apart m0 e).1) ((hx0 C M).mpr R.xok)
theorem a_lift {st : Stmt} {A : PS'} (hx0 : ∀ C M, XOk X.fr C ↔ XOk X.fr (frm C M)) (h : ES X st A) : EMA X st (aLift A) := by
  obtain ⟨t, h1, l1⟩ := h.ex
  refine ⟨t, h1, fun C M σ H F env g D Dp R k q => ?_⟩
  refine l1 (frm C M) σ H F env D _ R.rel ⟨fun σ' H' F' env' R' l q' => k.nx M σ' H' F' env' g ⟨R', R.m0, R.rep.mono l⟩ l q', fun σ' H' F' env' rv v R' l rv' z => ?_, fun σ' H' F' env' R' l q' => k.bk M σ' H' F' env' g ⟨R', R.m0, R.rep.mono l⟩ l q', fun σ' H' F' env' R' l q' => k.ct M σ' H' F' env' g ⟨R', R.m0, R.rep.mono l⟩ l q'⟩ q
  obtain ⟨ff, R2⟩ := RelMA.out hx0 R' R.m0
  refine k.rt σ' H' _ env' rv v R2 (l.trans' ff) ?_ z
  cases rv with
  | dt x => exact At.mono ff x v rv'
  | fr ds =>
    obtain ⟨p, xs, e1, e2, e3, e4, e5⟩ := rv'
    obtain ⟨f1, f2⟩ := frm_none e4
    exact ⟨p, xs, e1, e2, by simp only [f1]; exact e3, f2, AtAll.mono ff _ _ e5⟩
def pForA (G : TG') (B : MSA) (Dp : MEndsA) : List D → NGA → List SV → Prop
  | [], g, env => Dp.nx g env
  | d :: r, g, env => G d env fun env1 => B { Dp with nx := pForA G B Dp r, ct := pForA G B Dp r, bk := Dp.nx } g env1
def aFor (I : PI') (G : TG') (B : MSA) : MSA := fun Dp g env => I env fun ds env1 => pForA G B Dp ds g env1
theorem a_for {S : List Nat} {tg iter : Expr} {body : List Stmt} {I : PI'} {G : TG'} {B : MSA} {pos : Pos} (hp : PassesOwn (model X.prog X.w) X.A X.env X.xe) (hc : X.calm = true) (hi : EI X tg iter I) (hg : EG X S tg G) (hb : EMsA X body B)
    (hs : ∀ x, foldedSetIterable iter X.env x = pure x := by intro _; rfl) : EMA X (.For tg iter body [] pos) (aFor I G B) := by
  obtain ⟨wi, h1, l1⟩ := hi.ex
  obtain ⟨gt, h2, l2⟩ := hg.ex
  obtain ⟨tb, h3, l3⟩ := hb.ex
  refine ⟨_, ps_for hp hc h1 h2 h3 hs, fun C M σ H F env g D Dp R k q => ?_⟩
  refine l1 (frm C M) σ H F env _ _ R.rel (fun J ds H1 F1 env1 s1 it q1 => ?_) q
  obtain ⟨Gd, Y, w, gd, yd⟩ := it
  have k1 := k.mono s1.ff
  refine for_it w (fun i σ H => ∃ M2 F2 env2 g2, RelMA X.fr C M2 σ H F2 env2 g2 ∧ Le F1 F2 ∧ pForA G B Dp (ds.drop i) g2 env2) ⟨M, F1, env1, g, ⟨s1.rel, R.m0, R.rep.mono s1.ff⟩, Le.rfl', by simpa using q1⟩ (fun i σ H hi ⟨M2, F2, env2, g2, R2, l, _⟩ => gd H (l.trans' R2.rel.frz)) (fun i x σ H H' hi ⟨M2, F2, env2, g2, R2, l, q2⟩ y => ?_) (fun σ H ⟨M2, F2, env2, g2, R2, l, q2⟩ => ?_)
  · obtain ⟨F3, d, e, s3, a3⟩ := (YOk.mono l (yd i H x H' hi (l.trans' R2.rel.frz) y)).rel R2.rel
    have e2 : ds.drop i = d :: ds.drop (i + 1) := by
      obtain ⟨hlt, e4⟩ := List.getElem?_eq_some_iff.mp e
      rw [List.drop_eq_getElem_cons hlt, e4]
    rw [e2] at q2
    have l3' := l.trans' s3.ff
    refine l2 (frm C M2) σ H' F3 env2 x d _ _ s3.rel a3 (fun σ' env' R' _ q' => ?_) q2
    refine l3 C M2 σ' H' F3 env' g2 _ { Dp with nx := pForA G B Dp (ds.drop (i + 1)), ct := pForA G B Dp (ds.drop (i + 1)), bk := Dp.nx } ⟨R', R2.m0, R2.rep.mono s3.ff⟩ ⟨fun M4 σ4 H4 F4 env4 g4 R4 m q4 => ⟨M4, F4, env4, g4, R4, l3'.trans' m, q4⟩, fun σ4 H4 F4 env4 rv v R4 m r q4 => k1.rt σ4 H4 F4 env4 rv v R4 (l3'.trans' m) r q4, fun M4 σ4 H4 F4 env4 g4 R4 m q4 => k1.nx M4 σ4 H4 F4 env4 g4 R4 (l3'.trans' m) q4, fun M4 σ4 H4 F4 env4 g4 R4 m q4 => ⟨M4, F4, env4, g4, R4, l3'.trans' m, q4⟩, fun M4 σ4 H4 F4 env4 g4 R4 m q4 => k1.rn M4 σ4 H4 F4 env4 g4 R4 (l3'.trans' m) q4⟩ q'
  · rw [List.drop_length] at q2
    exact k1.nx M2 σ H F2 env2 g2 R2 l q2
def sNestA (i : Nat) (T : MSA) : PS' := fun Dp env => i < env.length ∧ ∀ p, T { nx := fun _ _ => False, rt := Dp.rt } (p, []) (env.set i (.raw (.ref p)))
theorem s_nestA {i : Nat} {x : Str} {e : Expr} {pos pos' : Pos} {rest : List Stmt} {T : MSA} (hx0 : ∀ C M, XOk X.fr C ↔ XOk X.fr (frm C M)) (hN : X.N.Nodup) (hi : X.N[i]? = some x) (hx : Loc X.env.scope x) (he : EF X e (fLst qNil)) (hr : EMsA X rest T) (hs : swapsWith e (some (.Name x pos')) pos.line X.env = pure false := by rfl) (hf : X.fn x = true ∨ X.env.scope.names.lookup x = some .local := by first | exact .inl rfl | exact .inr rfl | assumption) :
    EB X (.Assign [.Name x pos'] e pos :: rest) (sNestA i T) := by
  obtain ⟨t, g1, l1⟩ := he.ex
  obtain ⟨u, h2, l2⟩ := hr.ex
  refine ⟨_, pss_cons (ps_set hN hi hx g1 hs hf) h2, fun C σ H F env D Dp R k q => ?_⟩
  refine l1 C σ H F env _ (fun ds env1 => ds = [] ∧ env1 = env) R (fun p xs ds H1 F1 env1 s hp f h n hn a q1 => ?_) ⟨[], env, rfl, Nat.zero_le _, rfl, rfl⟩
  obtain ⟨rfl, rfl⟩ := q1
  have hxs : xs = [] := by simpa [AtAll] using a
  subst hxs
  have R0 := s.rel
  have R1 : Rel X.fr C (σ.set i (some (.ref p))) H1 F1 (env1.set i (.raw (.ref p))) := ⟨R0.toRelB.raw i (.ref p), R0.xok⟩
  have no1 : ¬ Own (σ.set i (some (.ref p))) (env1.set i (.raw (.ref p))) p := by
    rintro ⟨j, l, c, e, e2⟩
    by_cases ij : j = i
    · subst ij
      have hj := (List.getElem?_eq_some_iff.mp e).1
      rw [List.length_set] at hj
      rw [List.getElem?_set_self hj] at e
      cases e
    · rw [List.getElem?_set_ne (Ne.symm ij)] at e e2
      exact n ⟨j, l, c, e, e2⟩
  have c0 : ∀ b o', (fun b => if b = p then some (.lst []) else none : Hp) b = some o' → b = p ∧ o' = .lst [] := fun b o' e => by
    by_cases q : b = p
    · simp only [q, if_true] at e
      exact ⟨q, (Option.some.inj e).symm⟩
    · simp only [q, if_false] at e
      cases e
  have nf : C.F0 p = none := by
    cases z : C.F0 p with
    | none => rfl
    | some o' =>
      rw [R0.mono p o' z] at f
      cases f
  have nl : C.la ≠ some p := fun e => by
    obtain ⟨_, _, o, g⟩ := R0.la p e
    rw [h] at g
    cases g
  have m1 : MOk C (fun b => if b = p then some (.lst []) else none) := fun b o' e => by
    obtain ⟨rfl, _⟩ := c0 b o' e
    exact ⟨h, nf, nl⟩
  have R2 : Rel X.fr (frm C (fun b => if b = p then some (.lst []) else none)) (σ.set i (some (.ref p))) H1 F1 (env1.set i (.raw (.ref p))) := Rel.remap (M := fun _ => none) (C := C) R1 (fun b o' e => nomatch e) (fun b o' e => nomatch e) (fun b _ => rfl) (fun b o' e => by
    obtain ⟨rfl, rfl⟩ := c0 b o' e
    exact ⟨hp, f, no1⟩) m1 ((hx0 _ _).mp R0.xok)
  exact l2 C _ _ H1 F1 _ (p, []) D _ ⟨R2, m1, ⟨[], by simp, rfl, fun i ds e => by simp at e, by simp, fun b u e => .inl (c0 b u e).1⟩⟩ ⟨fun _ _ _ _ _ _ _ _ z => False.elim z, fun σ' H' F' env' rv v R' l rv' z => k.rt σ' H' F' env' rv v R' (s.ff.trans' l) rv' z, fun _ _ _ _ _ _ _ _ z => False.elim z, fun _ _ _ _ _ _ _ _ z => False.elim z, fun _ _ _ _ _ _ _ _ z => False.elim z⟩ (q.2 p)
def aPush (i : Nat) (A : PF') : MSA := fun Dp g env => env[i]? = some (.raw (.ref g.1)) ∧ A env fun ds env1 => g.2.length < sizeLine ∧ Dp.nx (g.1, g.2 ++ [ds]) env1
theorem a_push (i : Nat) {x : Str} {p apos cpos pos : Pos} {e : Expr} {A : PF'} (hx0 : ∀ C M, XOk X.fr C ↔ XOk X.fr (frm C M)) (ha : EF X e A) (hN : X.N[i]? = some x := by rfl) (hv : Vis X.env.scope x := by first | exact Or.inl rfl | exact Or.inr (Or.inl rfl) | exact Or.inr (Or.inr rfl)) (hd : (x == ("__debug__" : Str)) = false := by decide) (hcd : (x == ("__classdict__" : Str)) = false := by decide)
    (hbase : attributeBase (.Name x p) "append" X.env (eval (.Name x p) X.env) = eval (.Name x p) X.env := by rfl)
    (hfew : ((backTo cpos (starEach [e] X.env)).all (fun x => !x.1) && (backToKw cpos (keywordEach [] X.env)).all (fun x => x.1.isSome)
      && decide (([e] : List Expr).length + ([] : List Keyword).length + (if ([] : List Keyword).isEmpty then 0 else 1) < 30)) = true := by rfl)
    (hline : (apos.endLine == cpos.line) = true := by rfl) (hs : starEach [e] X.env = (false, eval e X.env) :: starEach [] X.env := by rfl) (hplain : (backTo cpos (starEach [] X.env)).any (·.1) = false := by rfl)
    (hsw : swapsWith (.Call (.Attribute (.Name x p) "append" apos) [e] [] cpos) none pos.line X.env = pure false := by rfl) :
    EMA X (.Expr (.Call (.Attribute (.Name x p) "append" apos) [e] [] cpos) pos) (aPush i A) := by
  obtain ⟨t, h1, l1⟩ := ha.ex
  refine ⟨_, ps_expr (pe_bm PySem.F.plainAttrs_list PySem.F.slot_list_append PySem.F.type_list_append mt_append (pe_var hN hv hd hcd) (pa_cons h1 pa_nil hs) hbase hfew hline hs hplain) hsw, fun C M σ H F env g D Dp R k q => ?_⟩
  obtain ⟨e0, q⟩ := q
  have σ0 : σ[i]? = some (some (.ref g.1)) := R.rel.slot i _ e0
  obtain ⟨as, m, al, rp, nd, only⟩ := R.rep.ex
  obtain ⟨np, nd'⟩ := List.nodup_cons.mp nd
  refine ⟨.ref g.1, σ0, .inl ⟨rfl, _, SqL.of ((R.rel.apart R.m0 m).1)⟩, ?_⟩
  refine l1 (frm C M) σ H F env _ _ R.rel (fun pa xs ds H1 F1 env1 s1 hp fp h0 no hn a1 q1 => ?_) q
  obtain ⟨hsz, q1⟩ := q1
  have R1 := s1.rel
  obtain ⟨mp, cp⟩ := frm_none h0
  have npa : pa ≠ g.1 := fun e => by rw [e, m] at mp; cases mp
  have nas : pa ∉ as := fun e => by
    obtain ⟨j, hj, e1⟩ := List.getElem_of_mem e
    obtain ⟨ds', hds⟩ : ∃ ds', g.2[j]? = some ds' := ⟨_, List.getElem?_eq_getElem (by omega)⟩
    obtain ⟨a, xs', e2, e3, _⟩ := rp j ds' hds
    rw [List.getElem?_eq_getElem hj, e1] at e2
    cases e2
    rw [mp] at e3
    cases e3
  have hg : H1 g.1 = some (.lst (as.map V.ref)) := (R1.apart R.m0 m).1
  refine ⟨g.1, _, _, rfl, rfl, hg, by rw [List.length_map]; omega, ?_⟩
  have m1 : MOk C (upd (upd M pa (.lst xs)) g.1 (.lst (as.map V.ref ++ [.ref pa]))) := fun b u e => by
    by_cases e1 : b = g.1
    · subst e1
      exact R.m0 _ _ m
    · rw [upd_ne e1] at e
      by_cases e2 : b = pa
      · subst e2
        refine ⟨cp, ?_, fun z => ?_⟩
        · cases z : C.F0 b with
          | none => rfl
          | some w =>
            rw [R1.mono b w z] at fp
            cases fp
        · obtain ⟨_, _, w, hw⟩ := R1.la b z
          rw [h0] at hw
          cases hw
      · rw [upd_ne e2] at e
        exact R.m0 b u e
  have R4 : Rel X.fr (frm C (upd (upd M pa (.lst xs)) g.1 (.lst (as.map V.ref ++ [.ref pa])))) σ (upd H1 g.1 (.lst (as.map V.ref ++ [.ref pa]))) F1 env1 := R1.remap R.m0 (fun b u e => by
    by_cases e1 : b = g.1
    · exact ⟨_, by rw [e1, upd_same]⟩
    · by_cases e2 : b = pa
      · exact ⟨_, by rw [upd_ne e1, e2, upd_same]⟩
      · exact ⟨u, by rw [upd_ne e1, upd_ne e2]; exact e⟩) (fun b e => by
    by_cases e1 : b = g.1
    · rw [e1, upd_same] at e; cases e
    · rw [upd_ne e1]) (fun b u e => by
    by_cases e1 : b = g.1
    · subst e1
      rw [upd_same] at e ⊢
      exact ⟨e, (R1.apart R.m0 m).2⟩
    · rw [upd_ne e1] at e ⊢
      by_cases e2 : b = pa
      · subst e2
        rw [upd_same] at e
        cases e
        exact ⟨hp, fp, no⟩
      · rw [upd_ne e2] at e
        exact R1.apart R.m0 e) m1 ((hx0 _ _).mp ((hx0 _ M).mpr R.rel.xok))
  refine k.nx _ σ _ F1 env1 _ ⟨R4, m1, ⟨as ++ [pa], by rw [upd_same, List.map_append]; rfl, by rw [List.length_append, List.length_append, al]; rfl, fun j ds' hj => ?_, ?_, fun b u hb => ?_⟩⟩ s1.ff q1
  · have hj : (g.2 ++ [ds])[j]? = some ds' := hj
    by_cases c : j < g.2.length
    · rw [List.getElem?_append_left c] at hj
      obtain ⟨a, xs', e2, e3, e4⟩ := rp j ds' hj
      have am := List.mem_of_getElem? e2
      refine ⟨a, xs', by rw [List.getElem?_append_left (by omega)]; exact e2, ?_, AtAll.mono s1.ff _ _ e4⟩
      have c1 : a ≠ g.1 := fun z => np (by rw [z] at am; exact am)
      have c2 : a ≠ pa := fun z => nas (by rw [z] at am; exact am)
      rw [upd_ne c1, upd_ne c2]
      exact e3
    · have hlt := (List.getElem?_eq_some_iff.mp hj).1
      rw [List.length_append, List.length_singleton] at hlt
      have ej : j = g.2.length := by omega
      subst ej
      rw [List.getElem?_append_right (Nat.le_refl _), Nat.sub_self] at hj
      cases hj
      refine ⟨pa, xs, by rw [← al, List.getElem?_append_right (Nat.le_refl _), Nat.sub_self]; rfl, by rw [upd_ne npa, upd_same], a1⟩
  · refine List.nodup_cons.mpr ⟨fun e => ?_, List.nodup_append.mpr ⟨nd', by simp, fun c hc d hd e => ?_⟩⟩
    · rcases List.mem_append.mp e with e | e
      · exact np e
      · exact npa (List.mem_singleton.mp e).symm
    · rw [List.mem_singleton.mp hd] at e
      exact nas (e ▸ hc)
  · by_cases e1 : b = g.1
    · exact .inl e1
    · rw [upd_ne e1] at hb
      by_cases e2 : b = pa
      · exact .inr (List.mem_append_right _ (List.mem_singleton.mpr e2))
      · rw [upd_ne e2] at hb
        rcases only b u hb with e | e
        · exact .inl e
        · exact .inr (List.mem_append_left _ e)
def aMO (i : Nat) (g : List D → List D → Option (D × List D)) (B : PE') (U : PA') : MSA := fun Dp gg env => env[i]? = some (.raw (.ref gg.1)) ∧ B env fun ok env1 => ∃ j : Nat, ok.rd env1 = some (.int (j : Int)) ∧ ∃ ds, gg.2[j]? = some ds ∧ U env1 fun os env2 => ∃ es env3, fzAll env2 os = some (es, env3) ∧ ∃ d ds', g ds es = some (d, ds') ∧ Dp.nx (gg.1, gg.2.set j ds') env3
theorem a_mo (i : Nat) {id : String} {r : V → List V → Hp → VK → Prop} {g : List D → List D → Option (D × List D)} {name x : Str} {p p2 apos cpos pos : Pos} {b e : Expr} {es : List Expr} {B : PE'} {U : PA'} (hx0 : ∀ C M, XOk X.fr C ↔ XOk X.fr (frm C M)) (hl : LMO X.fr r g) (slot : Slot "list" name id) (hty : typeOf (.builtin id) = pure (.type "method_descriptor")) (hm : MtR X id r)
    (hb : EV X b B) (ha : EA X (e :: es) U) (hsl : PlainIx b := by intro _ _; rfl) (hN : X.N[i]? = some x := by rfl) (hv : Vis X.env.scope x := by first | exact Or.inl rfl | exact Or.inr (Or.inl rfl) | exact Or.inr (Or.inr rfl)) (hd : (x == ("__debug__" : Str)) = false := by decide) (hcd : (x == ("__classdict__" : Str)) = false := by decide)
    (hbase : attributeBase (.Subscript (.Name x p) b p2) name X.env (eval (.Subscript (.Name x p) b p2) X.env) = eval (.Subscript (.Name x p) b p2) X.env := by rfl)
    (hfew : ((backTo cpos (starEach (e :: es) X.env)).all (fun x => !x.1) && (backToKw cpos (keywordEach [] X.env)).all (fun x => x.1.isSome)
      && decide ((e :: es).length + ([] : List Keyword).length + (if ([] : List Keyword).isEmpty then 0 else 1) < 30)) = true := by rfl)
    (hline : (apos.endLine == cpos.line) = true := by rfl) (hs : starEach (e :: es) X.env = (false, eval e X.env) :: starEach es X.env := by rfl) (hplain : (backTo cpos (starEach es X.env)).any (·.1) = false := by rfl)
    (hsw : swapsWith (.Call (.Attribute (.Subscript (.Name x p) b p2) name apos) (e :: es) [] cpos) none pos.line X.env = pure false := by rfl) :
    EMA X (.Expr (.Call (.Attribute (.Subscript (.Name x p) b p2) name apos) (e :: es) [] cpos) pos) (aMO i g B U) := by
  obtain ⟨t, h1, l1⟩ := hb.ex
  obtain ⟨u, h2, l2⟩ := ha.ex
  refine ⟨_, ps_expr (pe_bm PySem.F.plainAttrs_list slot hty hm (pe_ix ix_seq (pe_var hN hv hd hcd) h1 hsl) h2 hbase hfew hline hs hplain) hsw, fun C M σ H F env gg D Dp R k q => ?_⟩
  obtain ⟨e0, q⟩ := q
  have σ0 : σ[i]? = some (some (.ref gg.1)) := R.rel.slot i _ e0
  refine ⟨.ref gg.1, σ0, ?_⟩
  refine l1 (frm C M) σ H F env _ _ R.rel (fun v1 H1 F1 env1 ok s1 a1 q1 => ?_) q
  obtain ⟨j, e1, ds, hj, q1⟩ := q1
  have R1 := s1.rel
  obtain ⟨as, m, al, rp, nd, only⟩ := R.rep.ex
  obtain ⟨np, nd'⟩ := List.nodup_cons.mp nd
  obtain ⟨a, xs, e2, ma, axs⟩ := rp j ds hj
  have w := (rd_vw R1 a1 e1).int
  subst w
  have am := List.mem_of_getElem? e2
  have nap : a ≠ gg.1 := fun z => np (by rw [z] at am; exact am)
  refine .inl ⟨gg.1, as.map V.ref, j, .ref a, rfl, rfl, SqL.of ((R1.apart R.m0 m).1), ?_, ?_⟩
  · have hlt := (List.getElem?_eq_some_iff.mp e2).1
    rw [atI_at (by omega), Int.toNat_natCast, List.getElem?_map, e2]
    rfl
  refine ⟨.inl ⟨rfl, xs, SqL.of ((R1.apart R.m0 ma).1)⟩, ?_⟩
  refine l2 (frm C M) σ H1 F1 env1 _ _ R1 (fun vs H2 F2 env2 os s2 a2 q2 => ?_) q1
  obtain ⟨es', env3, e3, d, ds', e4, q2⟩ := q2
  obtain ⟨F3, s3, a3⟩ := fzAll_ok s2.rel a2 e3
  have R3 := s3.rel
  have ff := (s1.ff.trans' s2.ff).trans' s3.ff
  refine hl H2 F3 a xs vs ds es' ds' d _ (R3.apart R.m0 ma).1 (AtAll.mono ff _ _ axs) a3 e4 fun v xs' av ax => ?_
  have m1 : MOk C (upd M a (.lst xs')) := fun b u e => by
    by_cases e1 : b = a
    · subst e1
      exact R.m0 _ _ ma
    · rw [upd_ne e1] at e
      exact R.m0 b u e
  have R4 : Rel X.fr (frm C (upd M a (.lst xs'))) σ (upd H2 a (.lst xs')) F3 env3 := R3.remap R.m0 (fun b u e => by
    by_cases e1 : b = a
    · exact ⟨_, by rw [e1, upd_same]⟩
    · exact ⟨u, by rw [upd_ne e1]; exact e⟩) (fun b e => by
    by_cases e1 : b = a
    · rw [e1, upd_same] at e; cases e
    · rw [upd_ne e1]) (fun b u e => by
    by_cases e1 : b = a
    · subst e1
      rw [upd_same] at e ⊢
      exact ⟨e, (R3.apart R.m0 ma).2⟩
    · rw [upd_ne e1] at e ⊢
      exact R3.apart R.m0 e) m1 ((hx0 _ _).mp ((hx0 _ M).mpr R.rel.xok))
  refine k.nx _ σ _ F3 env3 (gg.1, gg.2.set j ds') ⟨R4, m1, ⟨as, by rw [upd_ne (Ne.symm nap)]; exact m, by show _ = (gg.2.set j ds').length; rw [List.length_set]; exact al, fun j2 ds2 hj2 => ?_, nd, fun b u hb => ?_⟩⟩ ff q2
  · have hj2 : (gg.2.set j ds')[j2]? = some ds2 := hj2
    by_cases c : j2 = j
    · subst c
      rw [List.getElem?_set_self (List.getElem?_eq_some_iff.mp hj).1] at hj2
      cases hj2
      exact ⟨a, xs', e2, upd_same, ax⟩
    · rw [List.getElem?_set_ne (Ne.symm c)] at hj2
      obtain ⟨a2', xs2, f2, f3, f4⟩ := rp j2 ds2 hj2
      have ne : a2' ≠ a := fun z => by
        subst z
        obtain ⟨i1, i2⟩ := List.getElem?_eq_some_iff.mp e2
        obtain ⟨i3, i4⟩ := List.getElem?_eq_some_iff.mp f2
        exact c ((List.getElem_inj nd').mp (i4.trans i2.symm))
      exact ⟨a2', xs2, f2, by rw [upd_ne ne]; exact f3, AtAll.mono ff _ _ f4⟩
  · by_cases e : b = a
    · exact .inr (e ▸ am)
    · rw [upd_ne e] at hb
      exact only b u hb
def aRet (i : Nat) : MSA := fun Dp g env => env[i]? = some (.raw (.ref g.1)) ∧ Dp.rt (.dt (.list (g.2.map .list))) env
theorem a_ret (i : Nat) {x : Str} {p pos : Pos} (hx0 : ∀ C M, XOk X.fr C ↔ XOk X.fr (frm C M)) (hN : X.N[i]? = some x := by rfl) (hv : Vis X.env.scope x := by first | exact Or.inl rfl | exact Or.inr (Or.inl rfl) | exact Or.inr (Or.inr rfl)) (hd : (x == ("__debug__" : Str)) = false := by decide)
    (hcd : (x == ("__classdict__" : Str)) = false := by decide) : EMA X (.Return (some (.Name x p)) pos) (aRet i) := by
  refine ⟨_, ps_ret (pe_var hN hv hd hcd), fun C M σ H F env g D Dp R k q => ?_⟩
  obtain ⟨e0, q⟩ := q
  have σ0 : σ[i]? = some (some (.ref g.1)) := R.rel.slot i _ e0
  obtain ⟨as, m, al, rp, nd, only⟩ := R.rep.ex
  obtain ⟨ff, R'⟩ := R.rel.leave (H' := H) (F' := fun b => match M b with | some u => some u | none => F b) R.m0 (fun b e => by
    refine ⟨rfl, ?_⟩
    simp only [e]) (fun b u w e hw => by
    simp only [e] at hw
    rw [← hw]
    exact (R.rel.apart R.m0 e).1) ((hx0 _ M).mpr R.rel.xok)
  refine ⟨.ref g.1, σ0, k.rt σ _ _ env (.dt _) (.ref g.1) R' ff ?_ q⟩
  show At _ _ (.list _) _
  simp only [At]
  refine ⟨g.1, as.map V.ref, rfl, by simp only [m], atL_of al fun i ds e => ?_⟩
  obtain ⟨a, xs, e1, e2, e3⟩ := rp i ds e
  exact ⟨a, xs, e1, by simp only [e2], AtAll.mono ff _ _ e3⟩
end
end Sw

set_option Elab.async false
set_option linter.all false
set_option maxRecDepth 100000
namespace Sw
open PySem PySem.Spec L2
end Sw

set_option Elab.async false
set_option linter.all false
set_option maxRecDepth 100000
namespace Sw
open PySem PySem.Spec L2
end Sw

set_option Elab.async false
set_option linter.all false
set_option maxRecDepth 100000
namespace Sw
open PySem PySem.Spec L2
section
variable {K : FgX} {C : Ec} {M M' : Hp} {σ : L2.St} {H F : Hp} {env : List SV}
theorem Rel.less (R : Rel K (frm C M) σ H F env) (m0 : MOk C M) (hM : ∀ b o, M' b = some o → M b = some o) (hx : XOk K (frm C M')) : Rel K (frm C M') σ H F env := by
  have nn : ∀ b, M b = none → M' b = none := fun b h => by
    cases q : M' b with
    | none => rfl
    | some o => rw [hM b o q] at h; cases h
  have h0 : ∀ b, (frm C M).H0 b = none → (frm C M').H0 b = none := fun b h => by
    obtain ⟨h1, h2⟩ := frm_none h
    rw [frm_n (nn b h1)]
    exact h2
  refine ⟨⟨R.frz, R.mono, fun b o h => (R.new b o h).imp id (h0 b), fun b o h n => ?_, fun a h => ?_, R.len, fun i sv e => ?_, R.dist⟩, hx⟩
  · cases q : M' b with
    | some u =>
      rw [frm_s q] at h
      cases h
      exact R.frame b o (frm_s (hM b o q)) n
    | none =>
      rw [frm_n q] at h
      cases q2 : M b with
      | some u =>
        rw [(m0 b u q2).1] at h
        cases h
      | none => exact R.frame b o (by rw [frm_n q2]; exact h) n
  · obtain ⟨e, f, o, g⟩ := R.la a h
    have q : M a = none := by
      cases q : M a with
      | none => rfl
      | some u => exact absurd h (m0 a u q).2.2
    exact ⟨e, f, o, by rw [frm_n (nn a q)]; rw [frm_n q] at g; exact g⟩
  · have w := R.slot i sv e
    cases sv with
    | un => trivial
    | raw z => exact w
    | dat d => exact w
    | obj l c =>
      obtain ⟨p, u, e1, e2, e3, e4, e5⟩ := w
      refine ⟨p, u, e1, e2, e3, ?_, e5⟩
      cases l with
      | true => exact e4
      | false =>
        rw [if_neg (by decide)] at e4 ⊢
        exact h0 p e4
end
end Sw

set_option Elab.async false
set_option linter.all false
set_option maxRecDepth 100000
set_option maxHeartbeats 4000000
namespace Sw
open PySem PySem.Spec L2 PySem.Calls PyProof.Rows
theorem TabB.before {t : SetTable} {hs : List Int} (T : TabB t hs) {h : Int} {K i j : Nat} (hK : way t.mask h K ∉ t.place.toList) (hi : hs[i]? = some h) (hj : t.place.toList[i]? = some j) : ∃ k, k < K ∧ way t.mask h k = j := by
  obtain ⟨k, e, z⟩ := T.met (h, j) (List.mem_of_getElem? (List.getElem?_zip_eq_some.mpr ⟨hi, hj⟩))
  have e : way t.mask h k = j := e
  refine ⟨k, Classical.byContradiction fun n => ?_, e⟩
  by_cases q : K = k
  · subst q
    rw [e] at hK
    exact hK (List.mem_of_getElem? hj)
  · exact hK (z K (by omega))
end Sw

set_option Elab.async false
set_option linter.all false
set_option maxRecDepth 100000
set_option maxHeartbeats 4000000
namespace Sw
open PySem PySem.Spec L2 PySem.Calls PyProof.Rows
end Sw

set_option Elab.async false
set_option linter.all false
set_option maxRecDepth 100000
set_option maxHeartbeats 4000000
namespace Sw
open PySem PySem.Spec L2 PySem.Calls PyProof.Rows
end Sw

set_option Elab.async false
set_option linter.all false
set_option maxRecDepth 100000
set_option maxHeartbeats 4000000
namespace Sw
open PySem PySem.Spec L2 PySem.Calls PyProof.Rows
theorem perm_map_inv {α β : Type} {f : α → β} : ∀ {l n : List β}, l.Perm n → ∀ m : List α, n = m.map f → ∃ m' : List α, m'.Perm m ∧ l = m'.map f := by
  intro l n h
  induction h with
  | nil => exact fun m e => ⟨[], by rw [List.map_eq_nil_iff.mp e.symm], rfl⟩
  | cons x _ ih =>
    intro m e
    cases m with
    | nil => cases e
    | cons a m =>
      rw [List.map_cons] at e
      injection e with e1 e2
      obtain ⟨m', p, q⟩ := ih m e2
      exact ⟨a :: m', p.cons a, by rw [List.map_cons, ← e1, q]⟩
  | swap x y l =>
    intro m e
    match m, e with
    | a :: b :: m, e =>
      simp only [List.map_cons, List.cons.injEq] at e
      obtain ⟨rfl, rfl, rfl⟩ := e
      exact ⟨b :: a :: m, List.Perm.swap a b m, rfl⟩
  | trans _ _ ih1 ih2 =>
    intro m e
    obtain ⟨m2, p2, q2⟩ := ih2 m e
    obtain ⟨m1, p1, q1⟩ := ih1 m2 q2
    exact ⟨m1, p1.trans p2, q1⟩
end Sw

set_option Elab.async false
set_option linter.all false
set_option maxRecDepth 100000
set_option maxHeartbeats 4000000
namespace Sw
open PySem PySem.Spec L2 PySem.Calls PyProof.Rows
def MaskC (m : Nat) : Prop := MaskOk m ∨ m = 15 ∨ m = 63
theorem from_anyC {m : Nat} (ha : ((List.range (m + 1)).all fun j => (cyc m (m + 1) 0).contains j) = true) (hb : lcgI m 0 (m + 1) = 0) {i j : Nat} (hi : i ≤ m) (hj : j ≤ m) : ∃ k, k ≤ m ∧ lcgI m i k = j := by
  have f0 : ∀ {j : Nat}, j ≤ m → ∃ k, k < m + 1 ∧ lcgI m 0 k = j := fun {j} hj => cyc_in m (m + 1) 0 j (List.contains_iff_mem.mp (List.all_eq_true.mp ha j (List.mem_range.mpr (by omega))))
  obtain ⟨a, ha, rfl⟩ := f0 hi
  obtain ⟨b, hb2, rfl⟩ := f0 hj
  by_cases h : a ≤ b
  · exact ⟨b - a, by omega, by rw [lcg_more]; congr 1; omega⟩
  · refine ⟨m + 1 + b - a, by omega, ?_⟩
    rw [lcg_more, show a + (m + 1 + b - a) = m + 1 + b by omega, ← lcg_more, hb]
theorem beginsC {m : Nat} (hm : MaskC m) (h : Int) {j : Nat} (hj : j ≤ m) : ∃ n, n ≤ m + 12 ∧ runI m (SetTable.bits h) n = j := by
  rcases hm with hm | rfl | rfl
  · exact run_meets hm h hj
  · obtain ⟨k, hk, e⟩ := from_anyC (m := 15) (by decide +kernel) (by decide +kernel) (runI_le 15 (SetTable.bits h) 12) hj
    exact ⟨12 + k, by omega, (runI_tail (bits_lt h) k).trans e⟩
  · obtain ⟨k, hk, e⟩ := from_anyC (m := 63) (by decide +kernel) (by decide +kernel) (runI_le 63 (SetTable.bits h) 12) hj
    exact ⟨12 + k, by omega, (runI_tail (bits_lt h) k).trans e⟩
theorem freeC {m : Nat} (hm : MaskC m) (ow : Array (Option Nat)) (h : Int) {j : Nat} (hj : j ≤ m) (hf : oAt ow j = none) :
    ∃ K, SetTable.layClean.free m ow (SetTable.turns m) (SetTable.bits h % (m + 1)) (SetTable.bits h) = some (way m h K) ∧ oAt ow (way m h K) = none ∧ ∀ k, k < K → oAt ow (way m h k) ≠ none := by
  obtain ⟨n, hn, e⟩ := beginsC hm h hj
  have hw : oAt ow (way m h (off m (SetTable.bits h % (m + 1)) (SetTable.bits h) n)) = none := by
    have e2 : way m h (off m (SetTable.bits h % (m + 1)) (SetTable.bits h) n) = j := by
      have := congrArg SetTable.Probe.j (nth_off m n (SetTable.bits h % (m + 1)) (SetTable.bits h))
      rw [itL_run] at this
      exact this.trans e
    rw [e2]
    exact hf
  obtain ⟨K, k1, k2, k3⟩ := st_least (p := fun k => oAt ow (way m h k) = none) _ hw
  refine ⟨K, free_spec m ow (SetTable.turns m) n _ _ K (by show n < m + 15; omega) k1 (fun k hk => ?_) (by rw [Option.isNone_iff_eq_none]; exact k2), k2, k3⟩
  have := k3 k hk
  exact Bool.eq_false_iff.mpr fun z => this (Option.isNone_iff_eq_none.mp z)
theorem ownC {m : Nat} (hm : MaskC m) {done : List Int} {ow : Array (Option Nat)} (W : L2.Own m done ow) (hl : done.length ≤ m) (h : Int) :
    ∃ j, SetTable.layClean.free m ow (SetTable.turns m) (SetTable.bits h % (m + 1)) (SetTable.bits h) = some j ∧ L2.Own m (done ++ [h]) (ow.setIfInBounds j (some done.length)) := by
  obtain ⟨ps, hps, hin⟩ := W.ps
  obtain ⟨j0, h0, hn0⟩ := st_missing ps (m + 1) (by omega)
  obtain ⟨K, e1, e2, e3⟩ := freeC hm ow h (Nat.le_of_lt_succ h0) (Classical.byContradiction fun z => hn0 (hin j0 (Nat.le_of_lt_succ h0) z))
  have hjm := way_in m h K
  have self : ∃ c, way m h c = way m h K ∧ ∀ c', c' < c → oAt ow (way m h c') ≠ none := ⟨K, rfl, e3⟩
  refine ⟨way m h K, e1, ?_⟩
  generalize way m h K = j at *
  have hs := oAt_set_self (owner := ow) (some done.length) (show j < ow.size by rw [W.sz]; omega)
  have ho : ∀ i, i ≠ j → oAt (ow.setIfInBounds j (some done.length)) i = oAt ow i := fun i hi => oAt_set_ne _ hi
  have mono : ∀ i, oAt ow i ≠ none → oAt (ow.setIfInBounds j (some done.length)) i ≠ none := fun i hi => by
    by_cases c : i = j
    · rw [c, hs]; simp
    · rw [ho i c]; exact hi
  constructor
  · rw [Array.size_setIfInBounds]; exact W.sz
  · intro i k hi e
    by_cases c : i = j
    · rw [c, hs] at e
      cases e
      obtain ⟨c1, a, b⟩ := self
      exact ⟨h, c1, by simp, by rw [c]; exact a, fun k' hk' => mono _ (b k' hk')⟩
    · rw [ho i c] at e
      obtain ⟨g, c1, a, b, d⟩ := W.at_ i k hi e
      exact ⟨g, c1, (List.getElem?_append_left (List.getElem?_eq_some_iff.mp a).1).trans a, b, fun k' hk' => mono _ (d k' hk')⟩
  · intro k hk
    rw [List.length_append, List.length_singleton] at hk
    by_cases c : k = done.length
    · exact ⟨j, hjm, by rw [c]; exact hs⟩
    · obtain ⟨i, hi, e⟩ := W.all k (by omega)
      exact ⟨i, hi, (ho i fun z => by rw [z, e2] at e; cases e).trans e⟩
  · refine ⟨j :: ps, by simp [hps], fun i hi e => ?_⟩
    by_cases c : i = j
    · rw [c]; exact List.mem_cons_self
    · rw [ho i c] at e
      exact List.mem_cons_of_mem _ (hin i hi e)
theorem layC {m : Nat} (hm : MaskC m) : ∀ (rest done : List Int) (ow : Array (Option Nat)), L2.Own m done ow → done.length + rest.length ≤ m →
    ∃ ow2, rest.foldl (stepF m) (some (ow, done.length)) = some (ow2, done.length + rest.length) ∧ L2.Own m (done ++ rest) ow2 := by
  intro rest
  induction rest with
  | nil => exact fun done ow W _ => ⟨ow, rfl, by rw [List.append_nil]; exact W⟩
  | cons h rest ih =>
    intro done ow W hl
    rw [List.length_cons] at hl
    obtain ⟨j, e, W2⟩ := ownC hm W (by omega) h
    obtain ⟨ow2, e2, W3⟩ := ih (done ++ [h]) _ W2 (by simp; omega)
    have ea : done ++ h :: rest = done ++ [h] ++ rest := by simp
    have el : (done ++ [h]).length = done.length + 1 := by simp
    rw [el] at e2
    refine ⟨ow2, ?_, ea ▸ W3⟩
    rw [List.foldl_cons, stepF_some e, e2, List.length_cons]
    congr 2
    omega
theorem laidC {M : Nat} (hM : MaskC M) (fi mo : Nat) (ld pl : Bool) {hs : Array Int} (hn : hs.size ≤ M) :
    ∃ t' order, SetTable.laid M fi mo ld pl hs = some (t', order) ∧ order.toList.Perm (List.range hs.size) ∧ Ris t'.place.toList ∧ t'.place.size = hs.size ∧ t'.mask = M ∧ t'.led = ld ∧ t'.dummies = #[] := by
  obtain ⟨ow, f, W⟩ := layC hM hs.toList [] _ (L2.Own.init M) (by simpa using hn)
  rw [List.nil_append] at W
  have e : SetTable.layClean M hs = some ow := by
    rw [layClean_eq]
    have f2 : hs.toList.foldl (stepF M) (some (Array.replicate (M + 1) none, 0)) = some (ow, 0 + hs.toList.length) := f
    rw [f2]
    rfl
  have hr : SetTable.laid M fi mo ld pl hs = some ((⟨M, ((liveOf M ow).map (·.1)).toArray, #[], fi, ld, mo, pl⟩ : SetTable), ((liveOf M ow).map (·.2)).toArray) := by
    show (SetTable.layClean M hs).bind (fun owner => some ((⟨M, ((liveOf M owner).map (·.1)).toArray, #[], fi, ld, mo, pl⟩ : SetTable), ((liveOf M owner).map (·.2)).toArray)) = _
    rw [e]
    rfl
  have hris := ris_live (fun j => ow.getD j none) (List.range (M + 1)) (by
    unfold Ris
    first | exact List.pairwise_lt_range | exact List.pairwise_lt_range _)
  have r1 : Ris ((liveOf M ow).map (·.1)) := hris.1
  have r2 : ∀ x ∈ (liveOf M ow).map (·.1), x ∈ List.range (M + 1) := hris.2
  have all : ∀ k, k < hs.size → k ∈ (liveOf M ow).map (·.2) := fun k hk => by
    obtain ⟨j, h1, h2⟩ := W.all k (by rw [Array.length_toList]; exact hk)
    exact List.mem_map.mpr ⟨(j, k), (mem_live W.sz).mpr ⟨h1, h2⟩, rfl⟩
  have hlen : ((liveOf M ow).map (·.2)).length = hs.size := by
    obtain ⟨ps, p1, p2⟩ := W.ps
    have r1' : ((liveOf M ow).map (·.1)).Nodup := List.Pairwise.imp (fun h => Nat.ne_of_lt h) r1
    have u := nat_nodup_len ((liveOf M ow).map (·.1)) ps r1' fun x hx => by
      obtain ⟨⟨y, k⟩, hq, rfl⟩ := List.mem_map.mp hx
      obtain ⟨b1, b2⟩ := (mem_live W.sz).mp hq
      exact p2 y b1 (by rw [b2]; simp)
    have v := nat_nodup_len (List.range hs.size) ((liveOf M ow).map (·.2)) List.nodup_range fun k hk => all k (List.mem_range.mp hk)
    rw [List.length_map, p1] at u
    have hz : hs.toList.length = hs.size := Array.length_toList
    rw [List.length_range] at v
    rw [List.length_map] at v ⊢
    omega
  refine ⟨_, _, hr, perm_range hs.size _ hlen all, r1, ?_, rfl, rfl, rfl⟩
  rw [List.length_map] at hlen
  show ((liveOf M ow).map (·.1)).toArray.size = hs.size
  simp [hlen]
end Sw

set_option Elab.async false
set_option linter.all false
set_option maxRecDepth 100000
set_option maxHeartbeats 4000000
namespace Sw
open PySem PySem.Spec L2 PySem.Calls PyProof.Rows
section
variable {P : Program} {w : World} {A : Around} {E : Value → Shared → Prop} {s : Shared} {a : Addr} {S : Str → Bool} {n : Nat} {es : Array (Int × Value)} {t : SetTable}
/-- stored, and laid anew where it is too full -/
theorem setT_tail {g : Bool → Sem Unit} (hg : ∀ (b : Bool) (s1 : Shared) (Q' : Unit → Shared → Prop), Q' () s1 → wpAny (model P w) A (g b) Q' E s1)
    {o : Obj} {es0 : Array (Int × Value)} {ep : Nat} {t0 : SetTable} (ho : s.heap.get? a = some o) (hx : o.ExactSet) (hd : o.data = .set es0 ep t0) (C : TxS w S es t) {dm : Bool} {R : Option Bool → Shared → Prop}
    (fin : ∀ h2, Heap.SameBut a s.heap h2 → SetT w h2 a S es.size → R (some true) { s with heap := h2 }) :
    wpAny (model P w) A (do
        storeSet a es t
        if (!dm && t.tooFull) = true then do
            g (relayAll t es (SetTable.grown es.size)).2.2
            storeSet a (relayAll t es (SetTable.grown es.size)).1 (relayAll t es (SetTable.grown es.size)).2.1
            pure (some true)
          else pure (some true)) R E s := by
  refine wpAny_bind (wpAny_storeSet_of ho hd ?_ (fits_of_scanBound C.few))
  have h1 := store_at (es' := es) (t' := t) ho hd
  have sb := Heap.SameBut.update s.heap a (Obj.putSet es t)
  by_cases c : (!dm && t.tooFull) = true
  · rw [if_pos c]
    have q1 := relayAll_perm t es (SetTable.grown es.size)
    have q2 := relayAll_fits t es (SetTable.grown es.size)
    have q3 := relayAll_ris t es (SetTable.grown es.size)
    have q4 := relayAll_led t es (SetTable.grown es.size)
    obtain ⟨Z, hZ⟩ : ∃ Z, relayAll t es (SetTable.grown es.size) = Z := ⟨_, rfl⟩
    rw [hZ] at q1 q2 q3 q4 ⊢
    obtain ⟨es2, t2, gv⟩ := Z
    simp only at q1 q2 q3 q4 ⊢
    have z2 : es2.size = es.size := by rw [← Array.length_toList, q1.length_eq, Array.length_toList]
    have C2 : TxS w S es2 t2 := ⟨fun e he => C.good e (q1.mem_iff.mp he), (q1.map keyS).nodup_iff.mpr C.nd, fun k => (C.mem k).trans (q1.map keyS).mem_iff.symm, by rw [z2]; exact C.few, q2, q3, C.led.imp id fun z => q4.trans z⟩
    refine wpAny_bind (hg _ _ _ ?_)
    refine wpAny_bind (wpAny_storeSet_of h1 rfl ?_ (fits_of_scanBound C2.few))
    have h2 := store_at (es' := es2) (t' := t2) h1 rfl
    exact wpAny_pure (fin _ (sb.trans (Heap.SameBut.update _ a _)) ⟨_, es2, _, t2, h2, hx, rfl, C2, z2⟩)
  · rw [if_neg c]
    exact wpAny_pure (fin _ sb ⟨_, es, _, t, h1, hx, rfl, C, rfl⟩)
theorem setT_add {z : Str} {u : Tok} {Q : Bool → Shared → Prop} (R : SetT w s.heap a S n) (room : n + 1 < scanBound)
    (fin : ∀ h2, Heap.SameBut a s.heap h2 → SetT w h2 a (fun j => S j || decide (j = z)) (if S z = true then n else n + 1) → Q (!S z) { s with heap := h2 }) :
    wpAny (model P w) A (setAddHashed a (.str z u) (hashStr w z)) Q E s := by
  obtain ⟨o, es, ep, t, ho, hx, hd, C, hn⟩ := R
  have hz : (strKind P w).is z (.str z u) = true := str_is z u
  have el : ElemsOf (strKind P w) es.toList := C.el
  unfold setAddHashed setAddHashedIn
  refine wpAny_holding (wpAny_bind (wpAny_setState_of ho hd C.fits ?_))
  dsimp only
  rw [byScan_of (x := .str z u) rfl C.few el]
  simp only [↓reduceIte]
  unfold setAddByScan
  refine wpAny_bind (wpAny_bind (wpAny_rule (wpAny_bind (wpAny_setScan_of hz ho hd C.fits el ?_))))
  cases hf : es.toList.findIdx? fun e => (strKind P w).is z e.2 with
  | some j =>
    dsimp only
    obtain ⟨hj, pj, _⟩ := List.findIdx?_eq_some_iff_getElem.mp hf
    have hS : S z = true := (C.has (P := P) z).mpr ⟨_, List.getElem_mem hj, pj⟩
    have q := fin s.heap (Heap.SameBut.refl a s.heap) (by
      rw [if_pos hS]
      exact SetT.same ⟨o, es, ep, t, ho, hx, hd, C, hn⟩ fun i => by
        by_cases c : i = z
        · rw [c, hS]; rfl
        · simp [c])
    rw [hS] at q
    exact wpAny_pure (wpAny_pure q)
  | none =>
    dsimp only
    have hS : S z = false := Bool.eq_false_iff.mpr fun h => by
      obtain ⟨e, he, q⟩ := (C.has (P := P) z).mp h
      have := List.findIdx?_eq_none_iff.mp hf e he
      rw [q] at this
      cases this
    have gw : ∀ (b : Bool) {s1 : Shared} {Q' : Unit → Shared → Prop}, Q' () s1 → wpAny (model P w) A (match b with | true => rule "set.scan.the-table-gave-way" | false => pure ()) Q' E s1 := fun b s1 Q' q => by
      cases b with
      | true => exact wpAny_rule q
      | false => exact wpAny_pure q
    have p1 := layNew_perm t es (hashStr w z) (.str z u)
    have p2 := layNew_fits t es (hashStr w z) (.str z u)
    have p3 := layNew_ris t es (hashStr w z) (.str z u) C.ris
    have p4 := layNew_led t es (hashStr w z) (.str z u)
    show wpAny (model P w) A ((match layNew t es (hashStr w z) (.str z u) with | (es, t, wasDummy, gave) => _ : Sem (Option Bool))) _ E s
    obtain ⟨Z, hZ⟩ : ∃ Z, layNew t es (hashStr w z) (.str z u) = Z := ⟨_, rfl⟩
    rw [hZ] at p1 p2 p3 p4 ⊢
    obtain ⟨es1, t1, dm, gv⟩ := Z
    simp only at p1 p2 p3 p4 ⊢
    rw [Array.toList_push] at p1
    have pc : es1.toList.Perm ((hashStr w z, Value.str z u) :: es.toList) := p1.trans (List.perm_append_singleton _ _)
    have pk : (es1.toList.map keyS).Perm (z :: es.toList.map keyS) := pc.map keyS
    have z1 : es1.size = n + 1 := by rw [← Array.length_toList, pc.length_eq, List.length_cons, Array.length_toList, hn]
    have nz : z ∉ es.toList.map keyS := fun h => by rw [(C.mem z).mpr h] at hS; cases hS
    have led1 : w.params.followText "set-order" = true ∨ t1.led = true := C.led.imp id fun e => p4.trans e
    have mk : ∀ t2 : SetTable, t2.fits es1.size = true → Ris t2.place.toList → (w.params.followText "set-order" = true ∨ t2.led = true) → TxS w (fun j => S j || decide (j = z)) es1 t2 := fun t2 f r l => ⟨fun e he => by
      rcases List.mem_cons.mp (pc.mem_iff.mp he) with q | q
      · exact ⟨z, u, q⟩
      · exact C.good e q, pk.nodup_iff.mpr (List.nodup_cons.mpr ⟨nz, C.nd⟩), fun k => by
      rw [Bool.or_eq_true, decide_eq_true_eq, C.mem k, pk.mem_iff, List.mem_cons]
      exact Or.comm, by rw [z1]; exact room, f, r, l⟩
    have last : ∀ h2, Heap.SameBut a s.heap h2 → SetT w h2 a (fun j => S j || decide (j = z)) es1.size → Q true { s with heap := h2 } := fun h2 sb r => by
      have q := fin h2 sb
      rw [hS] at q
      rw [z1] at r
      exact q r
    refine wpAny_bind (gw _ ?_)
    by_cases c : t1.plain = true
    · rw [if_pos c]
      refine wpAny_bind ?_
      rw [hashByValue_scannable 8 (x := Value.str z u) rfl]
      refine wpAny_pure ?_
      refine setT_tail (fun b s1 Q' q => gw b q) ho hx hd (C := mk _ ?_ ?_ ?_) fun h2 sb r => wpAny_pure (last h2 sb r)
      · split
        · exact p2
        · exact SetTable.fits_plain_off p2
      · split <;> exact p3
      · split <;> exact led1
    · rw [if_neg c]
      refine wpAny_bind (wpAny_pure ?_)
      simp only [↓reduceIte]
      exact setT_tail (fun b s1 Q' q => gw b q) ho hx hd (C := mk _ p2 p3 led1) fun h2 sb r => wpAny_pure (last h2 sb r)
end
end Sw

set_option Elab.async false
set_option linter.all false
set_option maxRecDepth 100000
set_option maxHeartbeats 4000000
namespace Sw
open PySem PySem.Spec L2 PySem.Calls PyProof.Rows
theorem eraseAt_list {α : Type} (xs : Array α) (p : Nat) : (SetTable.eraseAt xs p).toList = xs.toList.take p ++ xs.toList.drop (p + 1) := by
  simp [SetTable.eraseAt, List.extract_eq_take_drop, List.take_of_length_le]
theorem cut_perm {α : Type} {l : List α} {i : Nat} {x : α} (h : l[i]? = some x) : l.Perm (x :: (l.take i ++ l.drop (i + 1))) := by
  obtain ⟨hi, rfl⟩ := List.getElem?_eq_some_iff.mp h
  have e : l = l.take i ++ l[i] :: l.drop (i + 1) := by rw [← List.drop_eq_getElem_cons hi, List.take_append_drop]
  have p : (l.take i ++ l[i] :: l.drop (i + 1)).Perm (l[i] :: (l.take i ++ l.drop (i + 1))) := List.perm_middle
  rw [← e] at p
  exact p
section
variable {P : Program} {w : World} {A : Around} {E : Value → Shared → Prop} {s : Shared} {a : Addr} {S : Str → Bool} {n : Nat} {es : Array (Int × Value)} {t : SetTable}
theorem setT_drop {z : Str} {u : Tok} {Q : Bool → Shared → Prop} (R : SetT w s.heap a S n)
    (fin : ∀ h2, Heap.SameBut a s.heap h2 → SetT w h2 a (fun j => S j && !decide (j = z)) (if S z = true then n - 1 else n) → Q (S z) { s with heap := h2 }) :
    wpAny (model P w) A (setDiscardHashed a (.str z u) (hashStr w z)) Q E s := by
  obtain ⟨o, es, ep, t, ho, hx, hd, C, hn⟩ := R
  have hz : (strKind P w).is z (.str z u) = true := str_is z u
  have el : ElemsOf (strKind P w) es.toList := C.el
  unfold setDiscardHashed setFind setFindIn
  refine wpAny_bind (wpAny_bind (wpAny_setState_of ho hd C.fits ?_))
  dsimp only
  rw [byScan_of (x := .str z u) rfl C.few el]
  simp only [↓reduceIte]
  refine wpAny_bind (wpAny_rule (wpAny_bind (wpAny_setScan_of hz ho hd C.fits el ?_)))
  cases hf : es.toList.findIdx? fun e => (strKind P w).is z e.2 with
  | none =>
    dsimp only
    have hS : S z = false := Bool.eq_false_iff.mpr fun h => by
      obtain ⟨e, he, q⟩ := (C.has (P := P) z).mp h
      have := List.findIdx?_eq_none_iff.mp hf e he
      rw [q] at this
      cases this
    have q := fin s.heap (Heap.SameBut.refl a s.heap) (by
      rw [if_neg (by rw [hS]; decide)]
      exact SetT.same ⟨o, es, ep, t, ho, hx, hd, C, hn⟩ fun i => by
        by_cases c : i = z
        · rw [c, hS]; rfl
        · simp [c])
    rw [hS] at q
    exact wpAny_pure (wpAny_pure q)
  | some j =>
    dsimp only
    obtain ⟨hj, pj, _⟩ := List.findIdx?_eq_some_iff_getElem.mp hf
    have hS : S z = true := (C.has (P := P) z).mpr ⟨_, List.getElem_mem hj, pj⟩
    have kz : keyS es.toList[j] = z := ((C.good _ (List.getElem_mem hj)).is z).mp pj
    refine wpAny_pure ?_
    dsimp only
    refine wpAny_bind (wpAny_setState_of ho hd C.fits ?_)
    dsimp only
    rw [Nat.zero_add]
    have pe : es.toList.Perm (es.toList[j] :: (SetTable.eraseAt es j).toList) := by
      rw [eraseAt_list]
      exact cut_perm (List.getElem?_eq_getElem hj)
    have pk : (es.toList.map keyS).Perm (z :: (SetTable.eraseAt es j).toList.map keyS) := by
      have := pe.map keyS
      rwa [List.map_cons, kz] at this
    have sz : (SetTable.eraseAt es j).size + 1 = n := by
      have := pe.length_eq
      rw [List.length_cons, Array.length_toList, Array.length_toList] at this
      omega
    obtain ⟨nz, nd2⟩ := List.nodup_cons.mp (pk.nodup_iff.mp C.nd)
    have few2 : (SetTable.eraseAt es j).size < scanBound := by have := C.few; omega
    obtain ⟨q1, q2⟩ := Bool.and_eq_true_iff.mp C.fits
    have fit1 : t.place.size = es.size := beq_iff_eq.mp q1
    have fit2 : t.place.size + t.dummies.size ≤ t.mask := of_decide_eq_true q2
    have jl : j < es.size := by rw [Array.length_toList] at hj; exact hj
    obtain ⟨x, hp⟩ : ∃ x, t.place[j]? = some x := ⟨_, Array.getElem?_eq_getElem (by omega)⟩
    have dr : t.drop j = { t with place := SetTable.eraseAt t.place j, dummies := SetTable.insertAt t.dummies (SetTable.below t.dummies x) x } := by
      unfold SetTable.drop
      rw [hp]
    have pp : t.place.toList.Perm (x :: (SetTable.eraseAt t.place j).toList) := by
      rw [eraseAt_list]
      exact cut_perm (by rw [Array.getElem?_toList]; exact hp)
    have zp : (SetTable.eraseAt t.place j).size + 1 = t.place.size := by
      have := pp.length_eq
      rw [List.length_cons, Array.length_toList, Array.length_toList] at this
      omega
    have zd : (SetTable.insertAt t.dummies (SetTable.below t.dummies x) x).size = t.dummies.size + 1 := by
      have := (SetTable.insertAt_perm t.dummies (SetTable.below t.dummies x) x).length_eq
      rw [Array.length_toList, Array.toList_push, List.length_append, Array.length_toList] at this
      exact this
    have C2 : TxS w (fun j => S j && !decide (j = z)) (SetTable.eraseAt es j) (t.drop j) := by
      rw [dr]
      refine ⟨fun e he => C.good e (pe.mem_iff.mpr (List.mem_cons_of_mem _ he)), nd2, fun k => ?_, few2, ?_, ?_, C.led⟩
      · rw [Bool.and_eq_true, C.mem k, pk.mem_iff, List.mem_cons]
        by_cases c : k = z
        · subst c
          simp [nz]
        · simp [c]
      · refine Bool.and_eq_true_iff.mpr ⟨beq_iff_eq.mpr (show (SetTable.eraseAt t.place j).size = (SetTable.eraseAt es j).size by omega), decide_eq_true ?_⟩
        show (SetTable.eraseAt t.place j).size + (SetTable.insertAt t.dummies (SetTable.below t.dummies x) x).size ≤ t.mask
        omega
      · show Ris (SetTable.eraseAt t.place j).toList
        rw [eraseAt_list]
        refine List.Pairwise.sublist ?_ C.ris
        have e2 : t.place.toList = t.place.toList.take j ++ t.place.toList.drop j := (List.take_append_drop j _).symm
        conv => rhs; rw [e2]
        refine List.Sublist.append (List.Sublist.refl _) ?_
        rw [← List.drop_drop]
        exact List.drop_sublist _ _
    refine wpAny_bind (wpAny_storeSet_of ho hd ?_ (fits_of_scanBound few2))
    refine wpAny_bind (wpAny_point (wpAny_pure ?_))
    have q := fin _ (Heap.SameBut.update s.heap a (Obj.putSet (SetTable.eraseAt es j) (t.drop j))) (by
      rw [if_pos hS]
      exact ⟨_, SetTable.eraseAt es j, _, t.drop j, store_at ho hd, hx, rfl, C2, by omega⟩)
    rw [hS] at q
    exact q
theorem walk_T {o : Obj} {ep : Nat} (ho : s.heap.get? a = some o) (hd : o.data = .set es ep t) (C : TxS w S es t) {Q : Array (Int × Value) → Shared → Prop}
    (fin : ∀ (out : Array (Int × Value)) d, out.toList.Perm es.toList → Q out { s with drawn := d }) : wpAny (model P w) A (setWalk a) Q E s := by
  unfold setWalk
  refine wpAny_bind (wpAny_setState_of ho hd C.fits ?_)
  dsimp only
  refine wpAny_bind (wpAny_byText ?_)
  by_cases b : w.params.followText "set-order" = true
  · rw [if_pos b]
    refine wpAny_bind (wpAny_askSetting (wpAny_pure (fin _ s.drawn (pick_perm _ _))))
  · rw [if_neg b]
    have led : t.led = true := C.led.resolve_left b
    by_cases dr : (!t.plain && decide (es.size > 1)) = true
    · refine wp_if_pos dr (wpAny_bind (drawOrder_at es.size es.toList s _ (Nat.le_of_eq Array.length_toList) fun ys d p => wpAny_pure (fin _ d (by
        rw [List.toList_toArray]
        exact p))))
    · refine wp_if_neg dr ?_
      have : (!t.led && decide (es.size > 1)) = false := by rw [led]; rfl
      show wpAny (model P w) A ((if (!t.led && decide (es.size > 1)) = true then unsupported "set:maker-not-led" else pure ()) >>= fun _ => pure es) Q E s
      rw [this]
      exact wpAny_bind (wpAny_pure (wpAny_pure (fin es s.drawn (List.Perm.refl _))))
/-- no text asks anything of its own -/
theorem quiet_T {l : List Addr} (hl : ∀ b ∈ l, ∃ o es ep t S, s.heap.get? b = some o ∧ o.data = .set es ep t ∧ TxS w S es t) {Q : Bool → Shared → Prop} (fin : Q true s) : wpAny (model P w) A (setsQuiet l) Q E s := by
  unfold setsQuiet
  have inner : ∀ (es : Array (Int × Value)) (s2 : Shared), (∀ e ∈ es.toList, GoodT w e) → ∀ {Q2 : Option Bool × Unit → Shared → Prop}, Q2 (none, ()) s2 → wpAny (model P w) A (forIn es (none, ()) fun (x : Int × Value) (_ : Option Bool × Unit) => match x with
      | (_, x) => match x with
        | Value.ref _ => do
          let z ← specialOf x (Str.ofString "__eq__")
          if (z != some (Value.builtin "object.__eq__")) = true then pure (ForInStep.done (some false, ())) else pure (ForInStep.yield (none, ()))
        | _ => pure (ForInStep.yield (none, ()))) Q2 E s2 := fun es s2 hg {Q2} q2 => by
    refine wpAny_forIn_array' _ (fun rest r s3 => r = (none, ()) ∧ s3 = s2 ∧ ∀ e ∈ rest, e ∈ es.toList) _ ?_ ?_ es (none, ()) ⟨rfl, rfl, fun _ h => h⟩
    · rintro e rest2 r s3 ⟨rfl, rfl, hm2⟩
      obtain ⟨k, u, rfl⟩ := hg e (hm2 e List.mem_cons_self)
      exact wpAny_pure ⟨rfl, rfl, fun e he => hm2 e (List.mem_cons_of_mem _ he)⟩
    · rintro r s3 ⟨rfl, rfl, _⟩
      exact q2
  refine wpAny_bind (wpAny_forIn_list _ (fun rest r s2 => r = (none, ()) ∧ s2 = s ∧ ∀ b ∈ rest, b ∈ l) _ ?_ ?_ l (none, ()) ⟨rfl, rfl, fun _ h => h⟩)
  · rintro b rest r s2 ⟨rfl, rfl, hm⟩
    obtain ⟨o, es, ep, t, S, ho, hd, C⟩ := hl b (hm b List.mem_cons_self)
    refine wpAny_bind (wpAny_setEntries_of ho hd C.fits (wpAny_bind ?_))
    refine inner es _ C.good ?_
    exact wpAny_pure ⟨rfl, rfl, fun e he => hm e (List.mem_cons_of_mem _ he)⟩
  · rintro r s2 ⟨rfl, rfl, _⟩
    exact wpAny_pure fin
/-- a walk whose order nobody sees; the set that is filled is marked -/
theorem unseen_T {b : Addr} {S2 : Str → Bool} {n2 : Nat} {o : Obj} {ep : Nat} (ab : a ≠ b) (ho : s.heap.get? a = some o) (hd : o.data = .set es ep t) (C : TxS w S es t) (R2 : SetT w s.heap b S2 n2) {Q : Array (Int × Value) → Shared → Prop}
    (fin : ∀ (out : Array (Int × Value)) h2 d, out.toList.Perm es.toList → Heap.SameBut b s.heap h2 → SetT w h2 b S2 n2 → Q out { s with heap := h2, drawn := d }) : wpAny (model P w) A (setWalkUnseen a [b] (some b)) Q E s := by
  obtain ⟨o2, es2, ep2, t2, ho2, hx2, hd2, C2, hn2⟩ := R2
  have same : SetT w s.heap b S2 n2 := ⟨o2, es2, ep2, t2, ho2, hx2, hd2, C2, hn2⟩
  unfold setWalkUnseen
  refine wpAny_bind (wpAny_setState_of ho hd C.fits ?_)
  dsimp only
  refine wpAny_bind (wpAny_byText ?_)
  by_cases c : (w.params.followText "set-order" || t.led && t.plain || decide (es.size ≤ 1)) = true
  · refine wp_if_pos c (walk_T ho hd C fun out d p => fin out s.heap d p (Heap.SameBut.refl b s.heap) same)
  · refine wp_if_neg c ?_
    refine wpAny_bind (quiet_T (fun x hx => ?_) ?_)
    · rcases List.mem_cons.mp hx with rfl | hx
      · exact ⟨o, es, ep, t, S, ho, hd, C⟩
      · rw [List.mem_singleton.mp hx]
        exact ⟨o2, es2, ep2, t2, S2, ho2, hd2, C2⟩
    rw [Bool.or_eq_true, Bool.or_eq_true] at c
    have nb : ¬ w.params.followText "set-order" = true := fun h => c (.inl (.inl h))
    have l1 : t.led = true := C.led.resolve_left nb
    have l2 : t2.led = true := C2.led.resolve_left nb
    refine wp_if_neg (by decide) (wpAny_bind (wpAny_rule (wpAny_bind (wpAny_setState_of ho2 hd2 C2.fits ?_))))
    dsimp only
    by_cases c2 : (t2.led && !t.led || t2.plain && !t.plain) = true
    · refine wp_if_pos c2 (wpAny_bind (wpAny_storeSet_of ho2 hd2 (wpAny_pure ?_) (fits_of_scanBound C2.few)))
      refine fin es _ s.drawn (List.Perm.refl _) (Heap.SameBut.update s.heap b _) ⟨_, es2, _, _, store_at ho2 hd2, hx2, rfl, ⟨C2.good, C2.nd, C2.mem, C2.few, C2.fits, C2.ris, .inr ?_⟩, hn2⟩
      show (t2.led && t.led) = true
      rw [l1, l2]
      rfl
    · exact wp_if_neg c2 (wpAny_pure (fin es s.heap s.drawn (List.Perm.refl _) (Heap.SameBut.refl b s.heap) same))
end
end Sw

set_option Elab.async false
set_option linter.all false
set_option maxRecDepth 100000
set_option maxHeartbeats 4000000
namespace Sw
open PySem PySem.Spec L2 PySem.Calls PyProof.Rows
def okRoom (n : Nat) : Bool := let m := SetTable.sizeAbove (n * 2); (m == 16 || m == 32 || m == 64 || m == 128) && decide (n < m)
theorem rooms : ((List.range 61).all fun n => decide (n < 5) || okRoom n) = true := by decide +kernel
theorem room_of {n : Nat} (h1 : 5 ≤ n) (h2 : n ≤ 60) : MaskC (SetTable.sizeAbove (n * 2) - 1) ∧ n ≤ SetTable.sizeAbove (n * 2) - 1 ∧ SetTable.sizeAbove (n * 2) ≤ 128 := by
  have := List.all_eq_true.mp rooms n (List.mem_range.mpr (by omega))
  rw [Bool.or_eq_true] at this
  rcases this with h | h
  · have := of_decide_eq_true h
    omega
  · unfold okRoom at h
    obtain ⟨h3, h4⟩ := Bool.and_eq_true_iff.mp h
    have h4 := of_decide_eq_true h4
    simp only [Bool.or_eq_true, beq_iff_eq] at h3
    refine ⟨?_, by omega, by omega⟩
    rcases h3 with ((h | h) | h) | h
    · exact .inr (.inl (by omega))
    · exact .inl (.inr (.inl (by omega)))
    · exact .inr (.inr (by omega))
    · exact .inl (.inr (.inr (by omega)))
section
variable {P : Program} {w : World} {A : Around} {E : Value → Shared → Prop} {s : Shared} {a r : Addr} {S : Str → Bool} {n : Nat} {es : Array (Int × Value)} {t : SetTable}
/-- an empty set with room for n -/
structure RoomT (w : World) (h : Heap) (r : Addr) (n : Nat) : Prop where
  ex : ∃ o ep t, h.get? r = some o ∧ o.ExactSet ∧ o.data = .set #[] ep t ∧ MaskC t.mask ∧ n ≤ t.mask ∧ t.place = #[] ∧ t.dummies = #[] ∧ (w.params.followText "set-order" = true ∨ t.led = true)
theorem room_T {o : Obj} {ep : Nat} (ho : s.heap.get? r = some o) (hx : o.ExactSet) (hd : o.data = .set #[] ep t) (hm : t.mask = 7) (hp : t.place = #[]) (hdm : t.dummies = #[]) (hl : w.params.followText "set-order" = true ∨ t.led = true) (hn : n ≤ 60)
    {Q : Unit → Shared → Prop} (fin : ∀ h2, Heap.SameBut r s.heap h2 → RoomT w h2 r n → Q () { s with heap := h2 }) : wpAny (model P w) A (setRoomFor r n) Q E s := by
  have fit : t.fits (#[] : Array (Int × Value)).size = true := by
    refine Bool.and_eq_true_iff.mpr ⟨beq_iff_eq.mpr (by rw [hp]; rfl), decide_eq_true ?_⟩
    show t.place.size + t.dummies.size ≤ t.mask
    rw [hp, hdm, hm]
    decide
  unfold setRoomFor
  refine wpAny_bind (wpAny_setState_of ho hd fit ?_)
  dsimp only
  have fl : t.fill = 0 := by show t.place.size + t.dummies.size = 0; rw [hp, hdm]; rfl
  have rf : t.roomFor n = if 5 ≤ n then some (n * 2) else none := by
    unfold SetTable.roomFor
    rw [fl, hm, hp]
    by_cases c : 5 ≤ n
    · rw [if_pos c, if_pos (by omega)]
      simp
    · rw [if_neg c, if_neg (by omega)]
  rw [rf]
  by_cases c : 5 ≤ n
  · rw [if_pos c]
    dsimp only
    obtain ⟨m1, m2, m3⟩ := room_of c hn
    unfold setRelay
    refine wpAny_bind (wpAny_setState_of ho hd fit ?_)
    dsimp only
    refine wp_if_neg (by rw [sizeLine_eq]; omega) ?_
    obtain ⟨t2, order, e1, e2, e3, e4, e5, e6, e7⟩ := laidC (hs := (#[] : Array Int)) m1 t.finger (t.movedTo (SetTable.sizeAbove (n * 2) - 1)) t.led t.plain (Nat.zero_le _)
    have e0 : ((#[] : Array (Int × Value)).map (·.1)) = (#[] : Array Int) := by simp
    have e1' : t.relaid ((#[] : Array (Int × Value)).map (·.1)) (n * 2) = some (t2, order) := by rw [e0]; exact e1
    rw [e1']
    have oe : order = #[] := by
      have := e2.length_eq
      simp at this
      exact this
    have z0 : (order.filterMap ((#[] : Array (Int × Value))[·]?)) = #[] := by rw [oe]; rfl
    have c0 : ((order.filterMap ((#[] : Array (Int × Value))[·]?)).size != (#[] : Array (Int × Value)).size) = false := by rw [z0]; rfl
    show wpAny (model P w) A ((if ((order.filterMap ((#[] : Array (Int × Value))[·]?)).size != (#[] : Array (Int × Value)).size) = true then (unsupported "internal:set-table-lost-an-element" : Sem (Array (Int × Value) × SetTable)) else pure (order.filterMap ((#[] : Array (Int × Value))[·]?), t2)) >>= fun x => storeSet r x.1 x.2) Q E s
    rw [c0, if_neg (by decide), z0]
    refine wpAny_bind (wpAny_pure (wpAny_storeSet_of ho hd ?_ (by rw [sizeLine_eq]; simp)))
    have p0 : t2.place = #[] := by
      rw [← Array.size_eq_zero_iff, e4]
      rfl
    exact fin _ (Heap.SameBut.update s.heap r _) ⟨_, _, t2, store_at ho hd, hx, rfl, by rw [e5]; exact m1, by rw [e5]; exact m2, p0, e7, hl.imp id fun z => e6.trans z⟩
  · rw [if_neg c]
    refine wpAny_pure (fin s.heap (Heap.SameBut.refl r s.heap) ⟨o, ep, t, ho, hx, hd, .inl (.inl hm), by omega, hp, hdm, hl⟩)
theorem new_room (ho : s.heap.get? r = some (newSet w)) : (newSet w).ExactSet ∧ (newSet w).data = .set #[] 0 (.fresh 0 0 (!w.params.followText "set-order")) ∧ (w.params.followText "set-order" = true ∨ (SetTable.fresh 0 0 (!w.params.followText "set-order")).led = true) :=
  ⟨⟨rfl, rfl, rfl⟩, rfl, by
    cases w.params.followText "set-order" with
    | true => exact .inl rfl
    | false => exact .inr rfl⟩
theorem empty_T {h : Heap} (ho : h.get? r = some (newSet w)) : SetT w h r (fun _ => false) 0 := by
  refine ⟨_, #[], 0, _, ho, ⟨rfl, rfl, rfl⟩, rfl, ⟨fun e he => (by simp at he), by simp, fun k => (by simp), (by decide : 0 < scanBound), rfl, List.Pairwise.nil, ?_⟩, rfl⟩
  cases w.params.followText "set-order" with
  | true => exact .inl rfl
  | false => exact .inr rfl
theorem reord_T {t2 : SetTable} {order : Array Nat} (p : order.toList.Perm (List.range es.size)) {Q : Array (Int × Value) × SetTable → Shared → Prop} (fin : ∀ es2 : Array (Int × Value), es2.toList.Perm es.toList → Q (es2, t2) s) :
    wpAny (model P w) A ((if ((order.filterMap (es[·]?)).size != es.size) = true then (unsupported "internal:set-table-lost-an-element" : Sem (Array (Int × Value) × SetTable)) else pure (order.filterMap (es[·]?), t2))) Q E s := by
  have q : (order.filterMap (es[·]?)).toList.Perm es.toList := by
    rw [Array.toList_filterMap]
    exact (p.filterMap _).trans (by rw [filterMap_getElem?_range])
  have z : (order.filterMap (es[·]?)).size = es.size := by rw [← Array.length_toList, q.length_eq, Array.length_toList]
  rw [z, if_neg (by simp)]
  exact wpAny_pure (fin _ q)
/-- all of the set at a laid into the new one at r -/
theorem merge_T {each : Sem Unit} (ra : r ≠ a) (R : SetT w s.heap a S n) (ho : s.heap.get? r = some (newSet w)) (hn : n ≤ 60) {Q : Unit → Shared → Prop}
    (fin : ∀ h2, Heap.SameBut r s.heap h2 → SetT w h2 r S n → Q () { s with heap := h2 }) : wpAny (model P w) A (setMerge r a each) Q E s := by
  obtain ⟨o, es, ep, t, ho1, hx1, hd1, C, hn1⟩ := R
  obtain ⟨hx, hd, hl⟩ := new_room (s := s) ho
  unfold setMerge
  refine wp_if_neg (by simp [ra]) ?_
  refine wpAny_bind (wpAny_setState_of ho1 hd1 C.fits ?_)
  dsimp only
  by_cases c0 : es.isEmpty = true
  · refine wp_if_pos c0 (wpAny_pure (fin s.heap (Heap.SameBut.refl r s.heap) ?_))
    have z : es.toList = [] := by simpa using c0
    have n0 : n = 0 := by rw [← hn1, ← Array.length_toList, z]; rfl
    rw [n0]
    refine (empty_T ho).same fun k => ?_
    have := C.mem k
    rw [z] at this
    cases q : S k with
    | false => rfl
    | true => rw [q] at this; simp at this
  · refine wp_if_neg c0 ?_
    rw [hn1]
    refine wpAny_bind (room_T (n := n) ho hx hd rfl rfl rfl hl hn fun h2 sb R2 => ?_)
    obtain ⟨o2, ep2, t2, ho2, hx2, hd2, m1, m2, p2, dm2, l2⟩ := R2
    have fit2 : t2.fits (#[] : Array (Int × Value)).size = true := by
      refine Bool.and_eq_true_iff.mpr ⟨beq_iff_eq.mpr (by rw [p2]; rfl), decide_eq_true ?_⟩
      show t2.place.size + t2.dummies.size ≤ t2.mask
      rw [p2, dm2]
      exact Nat.zero_le _
    have ho1' : h2.get? a = some o := (sb.2 a (Ne.symm ra)).trans ho1
    refine wpAny_bind (wpAny_setState_of ho2 hd2 fit2 ?_)
    dsimp only
    have fl : t2.fill = 0 := by show t2.place.size + t2.dummies.size = 0; rw [p2, dm2]; rfl
    obtain ⟨q1, q2⟩ := Bool.and_eq_true_iff.mp C.fits
    have f1 : t.place.size = es.size := beq_iff_eq.mp q1
    have led2 : ∀ b : Bool, b = (t2.led && t.led) → w.params.followText "set-order" = true ∨ b = true := fun b e => by
      by_cases z : w.params.followText "set-order" = true
      · exact .inl z
      · rw [e, l2.resolve_left z, C.led.resolve_left z]
        exact .inr rfl
    by_cases c1 : (t2.mask == t.mask && t.dummies.isEmpty) = true
    · have rd : t2.road t = .slotForSlot := by
        unfold SetTable.road
        rw [fl, if_neg (by decide), if_pos c1]
      rw [rd]
      dsimp only
      refine wpAny_storeSet_of ho2 hd2 ?_ (fits_of_scanBound C.few)
      exact fin _ (sb.trans (Heap.SameBut.update h2 r _)) ⟨_, es, _, _, store_at ho2 hd2, hx2, rfl, ⟨C.good, C.nd, C.mem, C.few, C.fits, C.ris, led2 _ rfl⟩, hn1⟩
    · have rd : t2.road t = .clean := by
        unfold SetTable.road
        rw [fl, if_neg (by decide), if_neg c1]
      rw [rd]
      dsimp only
      obtain ⟨t3, order, e1, e2, e3, e4, e5, e6, e7⟩ := laidC (hs := es.map (·.1)) m1 t2.finger t2.moves (t2.led && t.led) (t2.plain && t.plain) (by rw [Array.size_map, hn1]; exact m2)
      rw [e1]
      rw [Array.size_map] at e2 e4
      refine wpAny_bind ?_
      refine reord_T e2 fun es2 pe => ?_
      have z2 : es2.size = es.size := by rw [← Array.length_toList, pe.length_eq, Array.length_toList]
      have few2 : es2.size < scanBound := by rw [z2]; exact C.few
      dsimp only
      refine wpAny_storeSet_of ho2 hd2 ?_ (fits_of_scanBound few2)
      have L := C.perm pe
      refine fin _ (sb.trans (Heap.SameBut.update h2 r _)) ⟨_, es2, _, t3, store_at ho2 hd2, hx2, rfl, ⟨L.good, L.nd, L.mem, few2, ?_, e3, led2 _ e6⟩, by omega⟩
      refine Bool.and_eq_true_iff.mpr ⟨beq_iff_eq.mpr (by omega), decide_eq_true ?_⟩
      show t3.place.size + t3.dummies.size ≤ t3.mask
      rw [e7, e5, e4, hn1]
      exact m2
end
end Sw

set_option Elab.async false
set_option linter.all false
set_option maxRecDepth 100000
set_option maxHeartbeats 4000000
namespace Sw
open PySem PySem.Spec L2 PySem.Calls PyProof.Rows
section
variable {P : Program} {w : World} {A : Around} {E : Value → Shared → Prop} {s : Shared} {a r : Addr} {S S2 : Str → Bool} {n m : Nat} {es : Array (Int × Value)} {t : SetTable}
theorem slot_xor : Slot "set" "__xor__" "set.__xor__" :=
  .of (owner := "set") (n := "__xor__") (by rw [typeLookup_type, builtinLookup_eq_fast]; kernel_rfl) (by decide +kernel) (by decide +kernel) (by decide +kernel) (by first | exact .inl (by decide +kernel) | exact .inr (by decide +kernel)) (by rw [isSubtype_type]; kernel_rfl)
theorem fill_xor : fillsNumberSlot (.type "set") Operator.BitXor.info.snd = pure true :=
  fillsNumberSlot_of (T := "set") (nm := "xor") (id := "set.__xor__") (r := some (.builtin "set.__rxor__")) (by rw [typeLookup_type, builtinLookup_eq_fast]; kernel_rfl) (by decide +kernel) (by rw [typeLookup_type, builtinLookup_eq_fast]; kernel_rfl)
theorem entry_xor : entryFor table "set.__xor__" = some Builtin.«frozenset.__xor__» := entryFor_alias (id' := "frozenset.__xor__") (by kernel_rfl) rfl (by decide +kernel) (by kernel_rfl)
theorem args_xor (x y : Value) : argsOk "set.__xor__" ⟨[x, y], []⟩ := by unfold argsOk; kernel_rfl
theorem SetT.ty {s : Shared} (R : SetT w s.heap a S n) : s.TypeIs (.ref a) "set" := by
  obtain ⟨o, es, ep, t, ho, hx, _⟩ := R
  exact ⟨o, ho, hx.1⟩
theorem anySet_T (R : SetT w s.heap a S n) {Q : Bool → Shared → Prop} (fin : Q true s) : wpAny (model P w) A (Builtin.Frozenset.isAnySet (.ref a)) Q E s := by
  unfold Builtin.Frozenset.isAnySet orM
  refine wpAny_bind (wpAny_isInstance (b := true) R.ty sub_set_self ?_)
  exact wpAny_pure fin
theorem flip_T {z : Str} {u : Tok} (R : SetT w s.heap r S n) (room : n + 1 < scanBound) {Q : Unit → Shared → Prop}
    (fin : ∀ h2 k, Heap.SameBut r s.heap h2 → SetT w h2 r (fun j => if j = z then !S j else S j) k → k ≤ n + 1 → Q () { s with heap := h2 }) :
    wpAny (model P w) A (holding [Value.str z u] (setDiscardHashed r (.str z u) (hashStr w z) >>= fun d => if (!d) = true then (setAddHashed r (.str z u) (hashStr w z) >>= fun _ => pure ()) else pure ())) Q E s := by
  refine wpAny_holding (wpAny_bind (setT_drop R fun h2 sb R2 => ?_))
  cases q : S z with
  | true =>
    rw [q, if_pos rfl] at R2
    refine wp_if_neg (by decide) (wpAny_pure (fin h2 _ sb (R2.same fun j => ?_) (by omega)))
    by_cases c : j = z
    · rw [if_pos c, c, q]; simp
    · rw [if_neg c]; simp [c]
  | false =>
    rw [q, if_neg (by decide)] at R2
    refine wp_if_pos (by decide) (wpAny_bind (setT_add (s := { s with heap := h2 }) R2 room fun h3 sb3 R3 => wpAny_pure ?_))
    rw [q, if_neg (by simp)] at R3
    refine fin h3 _ (sb.trans sb3) (R3.same fun j => ?_) (Nat.le_refl _)
    by_cases c : j = z
    · rw [if_pos c, c, q]; simp
    · rw [if_neg c]; simp [c]
theorem symm_T {id : String} (ra : r ≠ a) (R : SetT w s.heap a S n) (R2 : SetT w s.heap r S2 m) (hn : n + m < 1000) {Q : Unit → Shared → Prop}
    (fin : ∀ h2 d k, Heap.SameBut r s.heap h2 → SetT w h2 r (fun j => S j != S2 j) k → k ≤ n + m → Q () { s with heap := h2, drawn := d }) : wpAny (model P w) A (Builtin.Frozenset.symmetricDifferenceUpdate id r (.ref a)) Q E s := by
  unfold Builtin.Frozenset.symmetricDifferenceUpdate
  refine wp_if_neg (by simp [Ne.symm ra]) ?_
  dsimp only
  refine wpAny_bind (wpAny_typeOf R.ty ?_)
  refine wp_if_neg (by decide) ?_
  refine wpAny_bind (anySet_T R ?_)
  refine wp_if_pos rfl (wpAny_bind (wpAny_pure ?_))
  obtain ⟨o, es, ep, t, ho, hx, hd, C, hn1⟩ := R
  show wpAny (model P w) A (setEpoch a >>= _) Q E s
  refine wpAny_bind (wpAny_setEpoch_of ho hd C.fits (wpAny_holding (wpAny_bind ?_)))
  refine unseen_T (Ne.symm ra) ho hd C R2 fun out h2 d pe sb R3 => ?_
  have L := C.perm pe
  have zo : out.toList.length = n := by rw [pe.length_eq, Array.length_toList, hn1]
  refine wpAny_bind (wpAny_forIn_array' _ (fun rest _ s1 => ∃ done h3 k, out.toList = done ++ rest ∧ s1 = { s with heap := h3, drawn := d } ∧ Heap.SameBut r s.heap h3 ∧ SetT w h3 r (fun j => if j ∈ done.map keyS then !S2 j else S2 j) k ∧ k ≤ m + done.length) _ ?_ ?_ out PUnit.unit ⟨[], h2, m, rfl, rfl, sb, R3.same fun j => by simp, Nat.le_refl _⟩)
  · rintro e rest _ s1 ⟨done, h3, k, e1, rfl, sb3, R4, kl⟩
    have em : e ∈ out.toList := by rw [e1]; simp
    obtain ⟨z, u, rfl⟩ := L.good e em
    have dl : done.length + 1 ≤ n := by
      rw [← zo, e1, List.length_append, List.length_cons]
      omega
    have nz : z ∉ done.map keyS := fun h => by
      have nd := L.nd
      rw [e1, List.map_append, List.map_cons] at nd
      exact (List.nodup_append.mp nd).2.2 z h z List.mem_cons_self rfl
    refine wpAny_bind (flip_T (s := { s with heap := h3, drawn := d }) R4 (by unfold scanBound; omega) fun h4 k4 sb4 R5 kl4 => ?_)
    unfold Builtin.Frozenset.unchanged
    have ho4 : h4.get? a = some o := ((sb3.trans sb4).2 a (Ne.symm ra)).trans ho
    refine wpAny_bind (wpAny_bind (wpAny_setEpoch_of (s := { s with heap := h4, drawn := d }) ho4 hd C.fits ?_))
    refine wp_if_neg (by simp) (wpAny_pure (wpAny_pure ⟨done ++ [(hashStr w z, Value.str z u)], h4, k4, by rw [e1, List.append_assoc]; rfl, rfl, sb3.trans sb4, R5.same fun j => ?_, by rw [List.length_append, List.length_singleton]; omega⟩))
    rw [List.map_append, List.map_singleton]
    show (if j ∈ List.map keyS done ++ [z] then _ else _) = _
    by_cases c : j = z
    · rw [if_pos (by rw [c]; simp), if_pos c, if_neg (by rw [c]; exact nz)]
    · rw [if_neg c]
      by_cases c2 : j ∈ done.map keyS
      · rw [if_pos (List.mem_append_left _ c2), if_pos c2]
      · rw [if_neg (fun h => (List.mem_append.mp h).elim c2 fun h => c (List.mem_singleton.mp h)), if_neg c2]
  · rintro _ s1 ⟨done, h3, k, e1, rfl, sb3, R4, kl⟩
    rw [List.append_nil] at e1
    refine wpAny_pure (fin h3 d k sb3 (R4.same fun j => ?_) (by rw [← e1, zo] at kl; omega))
    rw [← e1]
    cases q : S j with
    | true => rw [if_pos ((L.mem j).mp q)]; simp
    | false => rw [if_neg fun h => by rw [(L.mem j).mpr h] at q; cases q]; simp
theorem xor_T (ar : a ≠ r) (R : SetT w s.heap a S n) (R2 : SetT w s.heap r S2 m) (hm : m ≤ 60) (hn : n ≤ 60) {Q : Value → Shared → Prop}
    (fin : ∀ h2 d k, (∀ b o, s.heap.get? b = some o → h2.get? b = some o) → SetT w h2 s.heap.objs.size (fun j => S j != S2 j) k → k ≤ n + m → Q (.ref s.heap.objs.size) { s with heap := h2, drawn := d }) :
    wpAny (model P w) A (binaryOp .BitXor (.ref a) (.ref r)) Q E s := by
  refine wpAny_binaryOp_same (T := "set") (id := "set.__xor__") R.ty R2.ty fill_xor slot_xor ?_
  refine wpAny_call_entry slot_xor R.ty entry_xor ?_ (args_xor _ _)
  unfold Builtin.«frozenset.__xor__»
  show wpAny (model P w) A.in1 (Builtin.Frozenset.slot1 "__xor__" ⟨[Value.ref a, Value.ref r], []⟩ >>= _) _ _ _
  refine wpAny_bind (wpAny_of_eq (a := (Value.ref a, Value.ref r)) (by rfl) ?_)
  dsimp only
  have nx : wpAny (model P w) A.in1 (andM (Builtin.Frozenset.isAnySet (.ref a)) (Builtin.Frozenset.isAnySet (.ref r))) (fun b s' => b = true ∧ s' = s) E s := by
    unfold andM
    exact wpAny_bind (anySet_T R (anySet_T R2 ⟨rfl, rfl⟩))
  refine wpAny_bind (wpAny_mono nx (fun b s' h => ?_) fun _ _ x => x)
  obtain ⟨rfl, rfl⟩ := h
  refine wp_if_neg (by decide) ?_
  show wpAny (model P w) A.in1 (pure a >>= _) _ _ _
  refine wpAny_bind (wpAny_pure (wpAny_bind ?_))
  show wpAny (model P w) A.in1 (Builtin.Frozenset.baseOf a >>= _) _ _ _
  refine wpAny_bind ?_
  unfold Builtin.Frozenset.baseOf
  refine wpAny_bind (wpAny_isInstance (b := true) R.ty sub_set_self ?_)
  refine wpAny_pure ?_
  rw [if_pos rfl]
  refine wpAny_bind ?_
  unfold Builtin.Frozenset.newFrom
  refine wpAny_bind ?_
  unfold PySem.newSet
  refine wpAny_bind (wpAny_byText ?_)
  dsimp only
  refine wpAny_newObj_type ?_
  have la : a < s'.heap.objs.size := by obtain ⟨o, _, _, _, ho, _⟩ := R; exact Heap.lt_size ho
  have lr : r < s'.heap.objs.size := by obtain ⟨o, _, _, _, ho, _⟩ := R2; exact Heap.lt_size ho
  have R' : SetT w (s'.heap.push (newSet w)) a S n := R.keep fun o e => Heap.get?_push_of_some _ e
  have R2' : SetT w (s'.heap.push (newSet w)) r S2 m := R2.keep fun o e => Heap.get?_push_of_some _ e
  have hN : (s'.heap.push (newSet w)).get? s'.heap.objs.size = some (newSet w) := Heap.get?_push_size _ rfl
  show wpAny (model P w) A.in1 (pure s'.heap.objs.size >>= _) _ _ _
  refine wpAny_bind (wpAny_pure (wpAny_bind (wpAny_holding ?_)))
  rw [if_neg (by decide)]
  unfold Builtin.Frozenset.updateFrom
  refine wpAny_bind (anySet_T (s := { s' with heap := s'.heap.push (newSet w) }) R2' ?_)
  refine wp_if_pos rfl ?_
  show wpAny (model P w) A.in1 (pure r >>= _) _ _ _
  refine wpAny_bind (wpAny_pure ?_)
  unfold Builtin.Frozenset.merge
  obtain ⟨o2, es2, ep2, t2, ho2, hx2, hd2, C2, hn2⟩ := id R2'
  refine wpAny_bind (wpAny_setEpoch_of (s := { s' with heap := s'.heap.push (newSet w) }) ho2 hd2 C2.fits ?_)
  refine merge_T (s := { s' with heap := s'.heap.push (newSet w) }) (Nat.ne_of_gt lr) R2' hN hm fun h2 sb R3 => ?_
  refine wpAny_pure ?_
  show wpAny (model P w) A.in1 (pure s'.heap.objs.size >>= _) _ _ _
  refine wpAny_bind (wpAny_pure (wpAny_bind (wpAny_holding ?_)))
  have R4 : SetT w h2 a S n := R'.keep fun o e => (sb.2 a (Nat.ne_of_lt la)).trans e
  refine symm_T (s := { s' with heap := h2 }) (Nat.ne_of_gt la) R4 R3 (by omega) fun h3 d k sb3 R5 kl => ?_
  refine wpAny_pure (wpAny_pure ⟨_, rfl, by simp, fin h3 d k (fun b o e => ?_) R5 kl⟩)
  have lb : b ≠ s'.heap.objs.size := Nat.ne_of_lt (Heap.lt_size e)
  exact (sb3.2 b lb).trans ((sb.2 b lb).trans (Heap.get?_push_of_some _ e))
end
end Sw

set_option Elab.async false
set_option linter.all false
set_option maxRecDepth 100000
set_option maxHeartbeats 4000000
namespace Sw
open PySem PySem.Spec L2 PySem.Calls PyProof.Rows
section
variable {P : Program} {w : World} {A : Around} {E : Value → Shared → Prop} {s : Shared}
theorem set_update_X {I : Addr} {fp wr : List Addr} {G : Array GenState → Array GenState → Prop} {n : Nat} {Pv : Nat → Value → Prop} {St : Nat → Shared → Prop} {R : Result → Shared → Prop}
    (W : WalksS P w A.in1 I fp wr G n Pv St) (Sa : Addr) (hSf : Sa ∉ fp) (zs : List Str) (hn : n = zs.length) (hb : zs.length ≤ 60) (hval : ∀ i v, Pv i v → ∃ z u, zs[i]? = some z ∧ v = .str z u) :
    ∀ (k i : Nat) (s : Shared), n - i = k → i ≤ n → St i s → (∃ m, SetT w s.heap Sa (fun j => decide (j ∈ zs.take i)) m ∧ m ≤ i) →
      (∀ s' m, Moved (Sa :: wr) G s s' → SetT w s'.heap Sa (fun j => decide (j ∈ zs)) m → m ≤ n → R (.ok (.ret .none)) s') →
      codeAny (model P w) A (.builtin "set.update.loop" ⟨[.ref Sa, .ref I], []⟩) R s := by
  have hSw : Sa ∉ wr := fun h => hSf (W.sub _ h)
  have hsub : ∀ b ∈ wr, b ∈ Sa :: wr := fun b hb => List.mem_cons_of_mem _ hb
  intro k
  induction k with
  | zero =>
    intro i s hk' hi hst ⟨m, hS, hm⟩ hR
    have hin : i = n := by omega
    subst hin
    refine codeAny_builtin F.entry_set_update_loop ?_
    rw [Around.under_plainId F.plain_set_update_loop _]
    show wpAny _ A.in1 (pyNext (.ref I) >>= _) _ _ s
    refine wpAny_bind (W.done s _ _ hst fun s' hm' => ?_)
    show wpAny _ A.in1 (ret Value.none) _ _ s'
    have hS' : SetT w s'.heap Sa (fun j => decide (j ∈ zs.take i)) m := hS.keep fun o e => hm'.heap Sa o hSw e
    rw [List.take_of_length_le (by omega)] at hS'
    exact wpAny_pure (hR s' m (hm'.mono hsub) hS' hm)
  | succ k ih =>
    intro i s hk' hi hst ⟨m, hS, hm⟩ hR
    have hlt : i < n := by omega
    refine codeAny_builtin F.entry_set_update_loop ?_
    rw [Around.under_plainId F.plain_set_update_loop _]
    show wpAny _ A.in1 (pyNext (.ref I) >>= _) _ _ s
    refine wpAny_bind (W.item i s _ _ hlt hst fun v s' hP hst' hm' => ?_)
    obtain ⟨z, u, hz, rfl⟩ := hval i v hP
    have hS' : SetT w s'.heap Sa (fun j => decide (j ∈ zs.take i)) m := hS.keep fun o e => hm'.heap Sa o hSw e
    show wpAny _ A.in1 (holding [Value.str z u] (setAdd Sa (.str z u)) >>= _) _ _ s'
    refine wpAny_bind (wpAny_holding ?_)
    unfold setAdd
    refine wpAny_holding (wpAny_bind ((strKind P w).pyHash (str_is z u) ?_))
    refine setT_add (s := { s' with toks := s'.toks + 1 }) hS' (by unfold scanBound; omega) fun h' hsb hS2 => ?_
    have et : zs.take (i + 1) = zs.take i ++ [z] := by rw [List.take_add_one, hz]; rfl
    have hS3 : ∃ m2, SetT w h' Sa (fun j => decide (j ∈ zs.take (i + 1))) m2 ∧ m2 ≤ i + 1 := ⟨_, hS2.same fun j => by
      rw [et]
      by_cases c : j ∈ zs.take i <;> simp [c], by split <;> omega⟩
    refine wpAny_pure ⟨plainId_quiet F.plain_set_update_loop _, ih (i + 1) _ (by omega) hlt (W.frame _ s' _ _ hst' (Nat.le_add_right _ _) fun b hb o e => ?_) hS3 fun s'' m2 hm'' hS'' g'' => ?_⟩
    · rw [hsb.2 b (fun h : b = Sa => hSf (by rw [← h]; exact hb))]; exact e
    · refine hR s'' m2 (Moved.trans W.gtrans ((hm'.mono hsub).then_heap (Nat.le_add_right _ _) fun b o hb e => ?_) hm'') hS'' g''
      rw [hsb.2 b (fun h : b = Sa => hb (by rw [h]; exact List.mem_cons_self))]; exact e
theorem call_set_X {l : Addr} {items : Array Value} (zs : List Str) {Q : Value → Shared → Prop} (hh : A.handled = none) (hl : s.heap.IsList l items) (hz : items.size = zs.length) (hv : ∀ (i : Nat) (v : Value), items[i]? = some v → ∃ z u, zs[i]? = some z ∧ v = .str z u) (hb : zs.length ≤ 60)
    (h : ∀ h' tk m, SetT w h' s.heap.objs.size (fun j => decide (j ∈ zs)) m → m ≤ zs.length → (∀ b o, s.heap.get? b = some o → h'.get? b = some o) → Q (.ref s.heap.objs.size) { s with heap := h', toks := tk }) :
    wpAny (model P w) A (call (.type "set") [.ref l]) Q E s := by
  obtain ⟨c, tl, hmro⟩ := F.called_set.mro
  have hmade := F.called_set.made
  have hsub := F.called_set.sub
  refine wpAny_call (codeAny_of_tree ?_)
  show wpAny _ _ (callAny (.type "set") _) _ _ _
  refine wpAny_pure ⟨Code.quiet_builtin _ (by decide +kernel), codeAny_builtin F.entry_type_call ?_⟩
  rw [Around.under_plain (weight_type_call_type "set" [.ref l] []) rfl]
  have h1 := F.called_set.notType
  have h2 := F.called_set.canCreate
  have hct := F.typeCall_set_1 (.ref l)
  repeat (any_goals (first | assumption | wp_step))
  refine codeAny_mono (code_set_led1 (.ref l) (E := E) (Q₁ := fun obj s₁ => obj = .ref s.heap.objs.size ∧ s₁ = { s with heap := s.heap.push (newSet w) }) ⟨rfl, rfl⟩) fun r s₁ hr => ?_
  match r, hr with
  | .error e, hr => exact hr
  | .ok (.ret obj), hr =>
  obtain ⟨rfl, rfl⟩ := hr
  have hS : (s.heap.push (newSet w)).get? s.heap.objs.size = some (newSet w) := Heap.get?_push_size _ rfl
  have hT : Shared.TypeIs { s with heap := s.heap.push (newSet w) } (.ref s.heap.objs.size) "set" := ⟨_, hS, rfl⟩
  have hli := F.called_set.init.lookup
  have hbi := F.called_set.init.bind (.ref s.heap.objs.size)
  repeat (any_goals (first | assumption | wp_step))
  refine codeAny_mono (codeAny_call_builtin (R := wants (fun r s₂ => r = .none ∧ Q (.ref s.heap.objs.size) s₂) E) F.called_set.init.plain F.entry_set_init (check_set_init_1 hT ?_)) fun r₂ s₂ hr₂ => ?_
  rotate_left
  · match r₂, hr₂ with
    | .error e, hr₂ => exact hr₂
    | .ok (.ret r), hr₂ =>
    obtain ⟨rfl, hq⟩ := hr₂
    repeat (any_goals (first | assumption | wp_step))
  · have hl1 : (s.heap.push (newSet w)).IsList l items := hl.push _
    unfold Builtin.«set.__init__» noKeywords Builtin.Frozenset.updateFrom
    have hlS : l < s.heap.objs.size := by
      obtain ⟨o, ho, _⟩ := hl
      exact Heap.lt_size ho
    obtain ⟨ol, hol, hcl, nl, hdl⟩ := hl1
    have hl1 : (s.heap.push (newSet w)).IsList l items := ⟨ol, hol, hcl, nl, hdl⟩
    have hsls := F.sub_list_set
    have hslf := F.sub_list_frozenset
    have hne : (Value.type "list" == Value.type "dict") = false := by decide
    have hTl : Shared.TypeIs { s with heap := s.heap.push (newSet w) } (.ref l) "list" := ⟨ol, hol, hcl⟩
    generalize hPI : pyIter = PI
    wp_walk
    subst hPI
    refine wpAny_pyIter_list hl1 ?_
    refine wpAny_bind (wpAny_runValue ?_)
    have hh3 : A.in1.in1.in1.handled = none := by simp [hh]
    have hz1 : (s.heap.push (newSet w)).objs.size = s.heap.objs.size + 1 := Heap.size_push ..
    have hneI : l ≠ (s.heap.push (newSet w)).objs.size := by rw [hz1]; exact Nat.ne_of_lt (Nat.lt_succ_of_lt hlS)
    have hSf : s.heap.objs.size ∉ [(s.heap.push (newSet w)).objs.size, l] := by
      rw [hz1]
      simp only [List.mem_cons, List.not_mem_nil, or_false, not_or]
      exact ⟨Nat.ne_of_lt (Nat.lt_succ_self _), Nat.ne_of_gt hlS⟩
    have hget : ((s.heap.push (newSet w)).push { cls := .type "list_iterator", data := .fields #[.ref l, .int 0 0] }).get? s.heap.objs.size = some (newSet w) := Heap.get?_push_of_some _ hS
    refine set_update_X ((Walks.list hh3 _ l hneI items).toS) s.heap.objs.size hSf zs hz hb hv (items.size - 0) 0 _ (by omega) (Nat.zero_le _) ⟨⟨_, Heap.get?_push_size _ rfl, rfl, rfl⟩, hl1.push _⟩ ⟨0, (empty_T hget).same fun j => by simp, Nat.le_refl _⟩ ?_
    intro s' m hm hS' hml
    obtain ⟨h', g2, d', tk', os'⟩ := s'
    have eg : g2 = s.gens := hm.gens
    have ed : d' = s.drawn := hm.drawn
    have eo : os' = s.os := hm.os
    subst eg; subst ed; subst eo
    show wpAny _ _ (pure ()) _ _ _
    refine wpAny_pure ?_
    show wpAny _ _ (ret Value.none) _ _ _
    refine wpAny_pure ⟨rfl, h h' tk' m hS' (by omega) fun b o e => ?_⟩
    have hb1 := Heap.lt_size e
    refine hm.heap b o (fun z => ?_) (Heap.get?_push_of_some _ (Heap.get?_push_of_some _ e))
    rcases List.mem_cons.mp z with z | z
    · exact absurd hb1 (by rw [z]; exact Nat.lt_irrefl _)
    · have z := List.mem_singleton.mp z
      rw [z] at hb1
      exact absurd hb1 (Nat.not_lt.mpr (Nat.le_of_lt (by rw [hz1]; exact Nat.lt_succ_self _)))
end
end Sw

set_option Elab.async false
set_option linter.all false
set_option maxRecDepth 100000
set_option maxHeartbeats 4000000
namespace Sw
open PySem PySem.Spec L2 PySem.Calls PyProof.Rows
section
variable {P : Program} {w : World} {A : Around} {E : Value → Shared → Prop} {s : Shared}
/-- a set of texts, sorted into a list -/
theorem sorted_T {a : Addr} {S : Str → Bool} {n : Nat} (hh : A.handled = none) (R : SetT w s.heap a S n) (hn : n ≤ 120) (hu : A.units + 64 < cLine) {Q : Value → Shared → Prop}
    (fin : ∀ s2 p (zs : List Str) (out : Array Value) (c : Nat), (∀ b o, s.heap.get? b = some o → s2.heap.get? b = some o) → s2.gens = s.gens → s2.os = s.os → s.heap.objs.size ≤ p → zs.Nodup → (∀ k, k ∈ zs ↔ S k = true) →
      s2.heap.get? p = some (seqObj "list" out c) → Vals ((sortS zs).map V.str) out.toList → out.size = n → Q (.ref p) s2) :
    wpAny (model P w) A (call (.builtin "sorted") [.ref a]) Q E s := by
  obtain ⟨o, es, ep, t, ho, hx, hd, C, hn1⟩ := R
  refine call_function_entry kind_sorted plain_sorted entry_sorted (args_sorted1 _) ?_
  unfold Builtin.«sorted»
  refine wpAny_bind (m := checkCount "sorted" 1 1 _) (wpAny_pure ?_)
  refine wpAny_bind (collect_set (A := A.in1) hh ⟨o, ho, hx.1, hd⟩ C.fits C.few C.ris C.led fun s2 vs k1 hz2 gg og pm => ?_)
  obtain ⟨L, pL, rfl⟩ := perm_map_inv pm es.toList rfl
  have TL := C.perm pL
  have ll : L.length = n := by rw [pL.length_eq, Array.length_toList, hn1]
  obtain ⟨zs, hzs⟩ : ∃ zs, L.map keyS = zs := ⟨_, rfl⟩
  have zl : zs.length = n := by rw [← hzs, List.length_map, ll]
  have each : ∀ (R : Value → Str → Prop), (∀ z u, R (.str z u) z) → W.EachIs R (L.map fun x => x.2) zs := fun R hR => by
    rw [← hzs]
    have : ∀ l : List (Int × Value), (∀ e ∈ l, GoodT w e) → W.EachIs R (l.map fun x => x.2) (l.map keyS) := fun l => by
      induction l with
      | nil => intro _; exact .nil
      | cons e r ih =>
        intro h
        obtain ⟨z, u, rfl⟩ := h e List.mem_cons_self
        exact .cons (hR z u) (ih fun e he => h e (List.mem_cons_of_mem _ he))
    exact this L TL.good
  have e1 := each (fun v z => ∃ u, v = Value.str z u) fun z u => ⟨u, rfl⟩
  obtain ⟨vs, hvs⟩ : ∃ vs, (L.map fun x => x.2) = vs := ⟨_, rfl⟩
  rw [hvs] at e1 ⊢
  have vl : vs.length = n := by rw [← hvs, List.length_map, ll]
  have hsmall : vs.length ≤ sizeLine := by rw [sizeLine_eq]; omega
  refine wpAny_bind (wpAny_newList ?_ hsmall)
  have new : (s2.heap.push { cls := .type "list", data := .seq vs.toArray }).get? s2.heap.objs.size = some (seqObj "list" vs.toArray 0) := Heap.get?_push_size _ rfl
  have old : ∀ b ob, s2.heap.get? b = some ob → (s2.heap.push { cls := .type "list", data := .seq vs.toArray }).get? b = some ob := fun b ob e => Heap.get?_push_of_some _ e
  obtain ⟨o1, o2, o3⟩ := okSort_spec (okSort_strs zs)
  have er := each (fun v z => ∃ as, Reads (s2.heap.push { cls := .type "list", data := .seq vs.toArray }) v (PyData.str z) as ∧ s2.heap.objs.size ∉ as) fun z u => ⟨[], .str z u, List.not_mem_nil⟩
  rw [hvs] at er
  refine wpAny_bind (wpAny_holding ?_)
  refine W.list_sort_data (A := A.in1) (enc := PyData.str) (R := fun v z => ∃ u, v = Value.str z u) new e1 er o2 o3 (by rw [sizeLine_eq]; omega) (fun b hb => ?_) fun out hlen2 hout => ?_
  · show A.units + 1 + 1 + 0 < _
    omega
  · refine wpAny_pure ?_
    obtain ⟨c, hc⟩ := sortedHeap_at (vs := vs) (out := List.toArray out) new
    have key : ∀ b ob, s2.heap.get? b = some ob → (sortedHeap (s2.heap.push { cls := .type "list", data := .seq vs.toArray }) s2.heap.objs.size vs (List.toArray out)).get? b = some ob := fun b ob e => by
      have hb := Heap.lt_size e
      have hb2 : b < (s2.heap.push { cls := .type "list", data := .seq vs.toArray }).objs.size := Heap.lt_size (old b ob e)
      rw [sortedHeap_old (Nat.ne_of_lt hb) hb2]
      exact old b ob e
    refine ⟨_, rfl, fin { s2 with heap := sortedHeap (s2.heap.push { cls := .type "list", data := .seq vs.toArray }) s2.heap.objs.size vs (List.toArray out) } s2.heap.objs.size zs (List.toArray out) c (fun b ob e => key b ob (k1 b ob e)) gg og hz2 (by rw [← hzs]; exact TL.nd) (fun k => by rw [← hzs]; exact (TL.mem k).symm) hc ?_ (by simp; omega)⟩
    have eqs : zs.mergeSort (W.dataLe false PyData.str) = sortS zs := by
      have h1 : srtD (zs.map PyData.str) = (zs.mergeSort (W.dataLe false PyData.str)).map PyData.str := by
        unfold srtD
        rw [← W.sort_maps (r := W.dataLe false PyData.str) (s := leD) PyData.str fun a _ b _ => rfl]
      rw [srtD_strs] at h1
      have inj : ∀ xs ys : List Str, xs.map PyData.str = ys.map PyData.str → xs = ys := fun xs => by
        induction xs with
        | nil => intro ys h; cases ys with
          | nil => rfl
          | cons y r => cases h
        | cons x r ih => intro ys h; cases ys with
          | nil => cases h
          | cons y r2 =>
            rw [List.map_cons, List.map_cons] at h
            injection h with h1 h2
            injection h1 with h1
            rw [h1, ih r2 h2]
      exact (inj _ _ h1).symm
    rw [eqs] at hout
    rw [List.toList_toArray]
    have : ∀ (l : List Str) (vs : List Value), W.EachIs (fun v z => ∃ u, v = Value.str z u) vs l → Vals (l.map V.str) vs := fun l vs h => by
      induction h with
      | nil => exact .nil
      | cons h _ ih =>
        obtain ⟨u, rfl⟩ := h
        exact .cons ⟨u, rfl⟩ ih
    exact this _ _ hout
end
end Sw

set_option Elab.async false
set_option linter.all false
set_option maxRecDepth 100000
set_option maxHeartbeats 4000000
namespace Sw
open PySem PySem.Spec L2 PySem.Calls PyProof.Rows
theorem at_strs {K : FgK} {F : Hp} : ∀ {ns : List Str} {xs : List V}, AtAll K F (ns.map PyData.str) xs → xs = ns.map V.str
  | [], xs, h => by simpa [AtAll] using h
  | z :: ns, xs, h => by
    simp only [List.map_cons, AtAll] at h
    obtain ⟨x, ys, rfl, h1, h2⟩ := h
    have e : x = V.str z := by simpa [At] using h1
    rw [e, at_strs h2]
    rfl
theorem strs_at {K : FgK} {F : Hp} : ∀ ns : List Str, AtAll K F (ns.map PyData.str) (ns.map V.str)
  | [] => AtAll.nil
  | z :: ns => AtAll.cons (by simp [At]) (strs_at ns)
theorem vals_strs : ∀ {ns : List Str} {us : List Value}, Vals (ns.map V.str) us → ∀ (i : Nat) (v : Value), us[i]? = some v → ∃ z u, ns[i]? = some z ∧ v = .str z u
  | [], us, h, i, v, e => by
    cases h
    simp at e
  | z :: ns, us, h, i, v, e => by
    cases h with
    | cons r1 r2 =>
      cases i with
      | zero =>
        obtain ⟨u, rfl⟩ := r1
        simp at e
        exact ⟨z, u, rfl, e.symm⟩
      | succ i =>
        obtain ⟨z2, u, h1, h2⟩ := vals_strs r2 i v (by simpa using e)
        exact ⟨z2, u, by simpa using h1, h2⟩
section
variable {X : Cz}
theorem setT_ok {P : Program} {w : World} {H : Hp} {h : Heap} {a : Addr} {S : Str → Bool} {n : Nat} (R : SetT w h a S n) : ObjOk P w H h a (.ext fun h => SetT w h a S n) := by
  obtain ⟨o, es, ep, t, ho, q⟩ := id R
  exact ⟨R, ⟨o, ho⟩, fun h1 h2 p k => SetT.keep p k⟩
def tSortXor (ta tb : TE) : TE := fun σ H Q => ta σ H fun x H1 => ∃ (l : Addr) (ns : List Str), x = .ref l ∧ H1 l = some (.lst (ns.map V.str)) ∧ ns.length ≤ 60 ∧
  ∀ (p : Addr) (φ : Heap → Prop), H1 p = none → tb σ (upd H1 p (.ext φ)) fun y H2 => ∃ (l2 : Addr) (ms : List Str), y = .ref l2 ∧ H2 l2 = some (.lst (ms.map V.str)) ∧ ms.length ≤ 60 ∧ H2 p = some (.ext φ) ∧
    ∀ zs : List Str, zs.Nodup → (∀ k, k ∈ zs ↔ (k ∈ ns ∧ k ∉ ms) ∨ (k ∉ ns ∧ k ∈ ms)) → ∀ q, H2 q = none → Q (.ref q) (upd H2 q (.lst ((sortS zs).map V.str)))
theorem pe_sortXor {a b : Expr} {ta tb : TE} {p p2 p3 q q2 bp pos : Pos} (hu : X.A.units + 64 < cLine) (hc : X.calm = true) (hg : Gl X "sorted") (hm : X.mg "sorted" = none) (hg2 : Gl X "set") (hm2 : X.mg "set" = none) (ha : PE X a ta) (hb : PE X b tb)
    (na : starEach [a] X.env = (false, eval a X.env) :: starEach [] X.env := by rfl) (nb : starEach [b] X.env = (false, eval b X.env) :: starEach [] X.env := by rfl) :
    PE X (.Call (.Name "sorted" p) [.BinOp (.Call (.Name "set" p2) [a] [] q) .BitXor (.Call (.Name "set" p3) [b] [] q2) bp] [] pos) (tSortXor ta tb) := by
  refine ⟨fun pins s σ H Q I h => ?_⟩
  refine Call_ (ld_blt I hg hm (show bootBuiltins "sorted" = some (.builtin "sorted") by decide +kernel) ?_)
  refine PyProof.Rows.callWith_builtin1 (PyProof.Rows.args_cons ?_ rfl) rfl rfl
  refine wpAny_BinOp ?_
  refine Call_ (ld_blt I hg2 hm2 PyProof.Rows.boot_set ?_)
  refine PyProof.Rows.callWith_type1 (PyProof.Rows.args_cons (thn (ha.run pins s σ H _ I h) fun v s1 ⟨x, H1, I1, r1, q1⟩ => PyProof.Rows.args_nil ?_) na) na rfl
  obtain ⟨l, ns, rfl, hl, hn, q1⟩ := q1
  cases r1
  obtain ⟨its, rv, pl, hz⟩ := I1.list (SqL.of hl)
  have hlen := rv.length
  rw [List.length_map] at hlen
  refine call_set_X ns (I1.ok.hd hc) pl.isList (by simp; omega) (fun i v hv => vals_strs rv i v (by simpa using hv)) hn fun h1 tk m hS hm1 hk => ?_
  have I2 : Inv X pins σ (upd H1 s1.heap.objs.size (.ext fun h => SetT X.w h s1.heap.objs.size (fun j => decide (j ∈ ns)) m)) { s1 with heap := h1, toks := tk } := I1.laid hk (Nat.le_refl _) (setT_ok hS)
  have q2 := q1 s1.heap.objs.size (fun h => SetT X.w h s1.heap.objs.size (fun j => decide (j ∈ ns)) m) (I1.hok.fresh (Nat.le_refl _))
  refine Call_ (ld_blt I2 hg2 hm2 PyProof.Rows.boot_set ?_)
  refine PyProof.Rows.callWith_type1 (PyProof.Rows.args_cons (thn (hb.run pins _ σ _ _ I2 q2) fun v s2 ⟨y, H2, I3, r2, q3⟩ => PyProof.Rows.args_nil ?_) nb) nb rfl
  obtain ⟨l2, ms, rfl, hl2, hn2, hp, q3⟩ := q3
  cases r2
  obtain ⟨its2, rv2, pl2, hz2⟩ := I3.list (SqL.of hl2)
  have hlen2 := rv2.length
  rw [List.length_map] at hlen2
  refine call_set_X ms (I3.ok.hd hc) pl2.isList (by simp; omega) (fun i v hv => vals_strs rv2 i v (by simpa using hv)) hn2 fun h2 tk2 m2 hS2 hm2' hk2 => ?_
  have S1 : SetT X.w s2.heap s1.heap.objs.size (fun j => decide (j ∈ ns)) m := (I3.hok _ _ hp).1
  have S1' : SetT X.w h2 s1.heap.objs.size (fun j => decide (j ∈ ns)) m := S1.keep fun o e => hk2 _ o e
  have ne : s1.heap.objs.size ≠ s2.heap.objs.size := by
    obtain ⟨o, _, _, _, ho, _⟩ := S1
    exact Nat.ne_of_lt (Heap.lt_size ho)
  refine xor_T (s := { s2 with heap := h2, toks := tk2 }) ne S1' hS2 (by omega) (by omega) fun h3 d k hk3 hS3 kl => ?_
  refine PyProof.Rows.args_nil ?_
  refine sorted_T (s := { s2 with heap := h3, toks := tk2, drawn := d }) (I3.ok.hd hc) hS3 (by omega) (by omega) fun s4 p4 zs out c hk4 hg4 ho4 hp4 nd mem hget hv hsz => ?_
  have key : ∀ b o, s2.heap.get? b = some o → s4.heap.get? b = some o := fun b o e => hk4 b o (hk3 b o (hk2 b o e))
  have lt4 : s2.heap.objs.size ≤ p4 := by
    obtain ⟨o, _, _, _, ho, _⟩ := hS2
    exact Nat.le_of_lt (Nat.lt_of_lt_of_le (Heap.lt_size (hk3 _ _ ho)) hp4)
  have free := I3.hok.fresh lt4
  have new : ObjOk X.prog X.w (upd H2 p4 (.lst ((sortS zs).map V.str))) s4.heap p4 (.lst ((sortS zs).map V.str)) := by
    refine ⟨?_, out.toList, c, hv, by rw [Array.toArray_toList]; exact hget⟩
    have h1 := hv.length
    rw [h1, Array.length_toList, hsz, sizeLine_eq]
    omega
  have I4 : Inv X pins σ (upd H2 p4 (.lst ((sortS zs).map V.str))) s4 := I3.call' (ch := []) ho4 (Un.laid key lt4 free) (I3.hok.laid key lt4 new) (by rw [hg4]; exact I3.bare) (fun _ z => nomatch z)
  exact ⟨.ref p4, _, I4, rfl, q3 zs nd (fun k => by
    rw [mem k]
    by_cases c1 : k ∈ ns <;> by_cases c2 : k ∈ ms <;> simp [c1, c2]) p4 free⟩
def fSortXor (A B : PE') : PF' := fun env Q => A env fun o env1 => ∃ ns : List Str, o.rd env1 = some (.list (ns.map .str)) ∧ ns.length ≤ 60 ∧ B env1 fun o2 env2 => ∃ ms : List Str, o2.rd env2 = some (.list (ms.map .str)) ∧ ms.length ≤ 60 ∧
  ∀ zs : List Str, zs.Nodup → (∀ k, k ∈ zs ↔ (k ∈ ns ∧ k ∉ ms) ∨ (k ∉ ns ∧ k ∈ ms)) → Q ((sortS zs).map .str) env2
theorem f_sortXor {a b : Expr} {A B : PE'} {p p2 p3 q q2 bp pos : Pos} (hu : X.A.units + 64 < cLine) (hc : X.calm = true) (ha : EV X a A) (hb : EV X b B) (hg : Gl X "sorted") (hm : X.mg "sorted" = none) (hg2 : Gl X "set") (hm2 : X.mg "set" = none)
    (na : starEach [a] X.env = (false, eval a X.env) :: starEach [] X.env := by rfl) (nb : starEach [b] X.env = (false, eval b X.env) :: starEach [] X.env := by rfl) :
    EF X (.Call (.Name "sorted" p) [.BinOp (.Call (.Name "set" p2) [a] [] q) .BitXor (.Call (.Name "set" p3) [b] [] q2) bp] [] pos) (fSortXor A B) := by
  obtain ⟨t, h1, l1⟩ := ha.ex
  obtain ⟨u, h2, l2⟩ := hb.ex
  refine ⟨_, pe_sortXor hu hc hg hm hg2 hm2 h1 h2 na nb, fun C σ H F env Q Qp R k z => ?_⟩
  refine l1 C σ H F env _ _ R (fun v H1 F1 env1 o s1 a1 q1 => ?_) z
  obtain ⟨ns, e, hn, q1⟩ := q1
  obtain ⟨l, xs, rfl, hl, al⟩ := rd_vw s1.rel a1 e
  have exs := at_strs al
  subst exs
  refine ⟨l, ns, rfl, hl, hn, fun p φ hp => ?_⟩
  obtain ⟨s2, f2, h02, n2⟩ := s1.rel.alloc0 (o := .ext φ) hp
  refine l2 C σ _ F1 env1 _ _ s2.rel (fun v2 H2 F2 env2 o2 s3 a2 q2 => ?_) q1
  obtain ⟨ms, e2, hm2, q2⟩ := q2
  obtain ⟨l2, xs2, rfl, hl2, al2⟩ := rd_vw s3.rel a2 e2
  have exs2 := at_strs al2
  subst exs2
  refine ⟨l2, ms, rfl, hl2, hm2, s3.fr p _ upd_same n2, fun zs nd mem r hr => ?_⟩
  obtain ⟨s, f, h, n⟩ := s3.rel.alloc0 (o := .lst ((sortS zs).map V.str)) hr
  have hr1 : H1 r = none := by
    have := s3.dm r hr
    by_cases c : r = p
    · rw [c, upd_same] at this
      cases this
    · rwa [upd_ne c] at this
  exact k r _ _ _ F2 env2 (s1.trans (s2.trans (s3.trans s))) upd_same f h n (s1.dm r hr1) (strs_at _) (q2 zs nd mem)
end
end Sw

set_option maxHeartbeats 2000000
set_option Elab.async false
set_option linter.all false
set_option maxRecDepth 100000
open PySem PySem.Spec L2 Sw
local macro_rules | `(tactic| walk_at "wp") => `(tactic| simp only [sSeq, sIf, sNil, sPass, sBreak, sCont, sRet, sRetF, sRetS, sDrop, sAsg, sAsgF, sSetIx, sAsgG, sFor, sRaise, sAsgD, sPutD, sFrzD, qDIn, qDGet, qDGetO, iKeysD, OV.dic, ex_pr, ex_pr0, ex_dic, ex_dic0, ex_kds, keyO_some, gListDic_1, gClear_0, qDisp1, qChain, qRest, tAnd', tOr', tNot', qTest, qAnd, qOr, qNot, qOp, qVar, qC, qF, qSl, qPn, qPs, qTup, fLst, qCB, fCB, qIsi, qJoin, fOp, qCons, qNil, qMO, qMO0, qAddD, qCall, qCallL, fCall, fCallL, qCallV, ex_dt, ex_fr, ex_frL, atom_b, atom_i, atom_s, atom_n, ex_tupv, ex_consv, eq_self, fLc, fLcR, restE, NoOwn, nob_d, nob_u, List.getD_cons_zero, List.getD_cons_succ, wipeE, iAny, iRg1, iRg2, iEnu, gN, gT, gsC, gsN, tYes', endsOf, LentE,
  svD, Ct.toD, OV.rd, OV.fz, rdAll, fzAll, bindS, mapS, ex_some, ex_fz, ex_fzs, ex_own, ex_own0, ex_ownF, ex_bool, ex_int, ex_lst, ex_strv, ex_svd, ex_svo, ex_if, ex_ifb, ex_som0, ex_fl, ex_flN, ex_ifp, true_and, and_true,
  List.getElem?_cons_zero, List.getElem?_cons_succ, List.set_cons_zero, List.set_cons_succ, List.length_cons, List.length_nil, List.append_nil, List.nil_append, List.cons_append, List.map_nil, List.map_cons, List.length_set,
  atI_lit, ixN_lit, gI_ii, gAdd_ii, gAdd_ss, gAdd_ll, gAdd_tt, gMul_ii, gMul_si, gLt_ii, gLt_ss, gIx_li, gIx_ti, gIx_si, gLen_l, gLen_t, gLen_s, gListF_l, gListF_t, gTuple_l, gTuple_t, gCatF_ll, gEq_ii, gNe_ii, gEq_ss, gNe_ss, gEq_bb, gNe_bb, gSl_l, gSl_t, gSl_s, gIsN_n, gNotN_n, gIsN_b, gIsN_i, gIsN_s, gIsN_l, gIsN_t, gIsN_d, ne_eq, not_true_eq_false, not_false_eq_true, gAppend_1, gExtend_l, gExtend_t, gRev_l, gRev_t, qRevA, RV.toD, seqOf_l, seqOf_t, itemsOf_l, itemsOf_t, itemsOf_s, gSortD_s, gIsB_bb, gNotB_bb, qNeg, qVM, fVM, fSortK, gJoin_s, gAll_b, gAny_b, gPopAt_1, isi_str, isi_int, isi_bool, isi_list, isi_tuple, isi_none, dSub, gDiv, gMod, gPow, gCmp,
  Bool.not_true, Bool.not_false, if_true, if_false, ite_true, ite_false, reduceIte, decide_eq_true_eq, beq_iff_eq, Bool.not_eq_true', beq_eq_false_iff_ne, Bool.false_eq_true, Nat.reduceLT, Nat.reduceAdd, Nat.reduceLeDiff, Nat.lt_add_one, Nat.zero_lt_succ, Nat.not_lt_zero])
namespace Sw
/-- a flow: the cells, the place, the digits left, the mix, the count -/
def FlOk (fd : List D) : Prop := ∃ (cs : List Int) (p b m n : Int), fd = [.list (cs.map .int), .int p, .int b, .int m, .int n] ∧ 0 ≤ p ∧ 0 ≤ b ∧ 0 ≤ m ∧ m < 2147483647 ∧ 0 ≤ n
def sp_law_pick : PSp := fun fl ds Q => ∃ fd many, fl = some fd ∧ FlOk fd ∧ ds = [.int many] ∧ 1 ≤ many ∧ many < 1073741824 ∧ ∀ d fd2, 0 ≤ d → d < many → FlOk fd2 → Q (.dt (.int d)) (some fd2)
abbrev N_law_pick : List Str := ["_law_flow_here", "_law_many", "_law_cell", "_law_digit"]
def T_law_pick : PS' := (sSeq (sIf (tAnd' (qTest (qOp (gEq false) (qOp gIx (qVar 0) (qC (.int 2))) (qC (.int 0)))) (qTest (qOp gLt (qOp gIx (qVar 0) (qC (.int 1))) (qCB gLen (qCons (qOp gIx (qVar 0) (qC (.int 0))) qNil))))) (sSeq (sAsg 2 (qOp gIx (qOp gIx (qVar 0) (qC (.int 0))) (qOp gIx (qVar 0) (qC (.int 1)))))
  (sSeq (sSetIx 0 (qOp gAdd (qOp gIx (qVar 0) (qC (.int 1))) (qC (.int 1))) (qC (.int 1)))
  (sIf (qTest (qOp (gI (gCmp fun i j => decide (j ≤ i))) (qVar 2) (qOp (gI gPow) (qC (.int 10)) (qC (.int 18))))) (sSetIx 0 (qVar 2) (qC (.int 2))) (sSetIx 0 (qOp (gI gMod) (qOp gAdd (qOp gAdd (qOp gMul (qOp gIx (qVar 0) (qC (.int 3))) (qC (.int 40013))) (qOp (gI gMod) (qVar 2) (qC (.int 1000003)))) (qC (.int 1))) (qC (.int 2147483647))) (qC (.int 3)))))) sNil)
  (sSeq (sIf (qTest (qOp (gI (gCmp fun i j => decide (j < i))) (qOp gIx (qVar 0) (qC (.int 2))) (qC (.int 0)))) (sSeq (sAsg 3 (qOp (gI gMod) (qOp gIx (qVar 0) (qC (.int 2))) (qVar 1)))
  (sSeq (sSetIx 0 (qOp (gI gDiv) (qOp gIx (qVar 0) (qC (.int 2))) (qVar 1)) (qC (.int 2)))
  (sRet (qVar 3)))) sNil)
  (sSeq (sSetIx 0 (qOp gAdd (qOp gIx (qVar 0) (qC (.int 4))) (qC (.int 1))) (qC (.int 4)))
  (sSeq (sSetIx 0 (qOp (gI gMod) (qOp gAdd (qOp gAdd (qOp gMul (qOp gIx (qVar 0) (qC (.int 3))) (qC (.int 48271))) (qC (.int 12820163))) (qOp gIx (qVar 0) (qC (.int 4)))) (qC (.int 2147483647))) (qC (.int 3)))
  (sRet (qOp (gI gMod) (qOp (gI gDiv) (qOp (gI gMod) (qOp gMul (qOp gAdd (qOp (gI gMod) (qOp gIx (qVar 0) (qC (.int 3))) (qC (.int 65521))) (qC (.int 1))) (qOp gAdd (qOp (gI gDiv) (qOp gIx (qVar 0) (qC (.int 3))) (qC (.int 65521))) (qC (.int 7919)))) (qC (.int 1000003))) (qC (.int 7))) (qVar 1)))))))
theorem pure_law_pick (fl : Option (List D)) (ds : List D) (Q : RV → Option (List D) → Prop) (_ : true = true ↔ fl ≠ none) (h : sp_law_pick fl ds Q) : T_law_pick (endsOf true Q) (startE true N_law_pick fl ds) := by
  obtain ⟨fd, many, rfl, ⟨cs, p, b, m, n, rfl, hp, hb, hm, hm2, hn⟩, rfl, h1, h2, k⟩ := h
  show T_law_pick _ [SV.own true _, SV.dat _, SV.un, SV.un]
  unfold T_law_pick
  refine cut_seq (fun env => ∃ p b m, 0 ≤ p ∧ 0 ≤ b ∧ 0 ≤ m ∧ m < 2147483647 ∧ ∃ y, env = [SV.own true [.list (cs.map .int), .int p, .int b, .int m, .int n], SV.dat (.int many), y, SV.un]) ?_ ?_
  · rintro env ⟨p, b, m, hp, hb, hm, hm2, y, rfl⟩
    walk_at "wp"
    split
    · exact ⟨by omega, ⟨by omega, h2⟩, k _ _ (Int.emod_nonneg _ (by omega)) (Int.emod_lt_of_pos _ (by omega)) ⟨cs, p, b / many, m, n, rfl, hp, Int.ediv_nonneg hb (by omega), hm, hm2, hn⟩⟩
    · have g1 : 0 ≤ (m * 48271 + 12820163 + (n + 1)) % 2147483647 := Int.emod_nonneg _ (by decide)
      have g2 : (m * 48271 + 12820163 + (n + 1)) % 2147483647 < 2147483647 := Int.emod_lt_of_pos _ (by decide)
      generalize (m * 48271 + 12820163 + (n + 1)) % 2147483647 = x at g1 g2 ⊢
      refine ⟨.inr ⟨by decide, by decide⟩, by decide, by decide, ⟨by decide, by decide⟩, .inl ⟨by omega, by omega⟩, by decide, ⟨by decide, by decide⟩, by omega, k _ _ (Int.emod_nonneg _ (by omega)) (Int.emod_lt_of_pos _ (by omega)) ⟨cs, p, b, x, n + 1, rfl, hp, hb, g1, g2, by omega⟩⟩
  · intro nx hnx
    walk_at "wp"
    split
    · split
      · rename_i hlt
        rw [List.length_map] at hlt
        rw [atI_at hp, List.getElem?_map, List.getElem?_eq_getElem (by omega : p.toNat < cs.length)]
        walk_at "wp"
        refine ⟨⟨by decide, by decide, by decide⟩, ?_⟩
        have e18 : (10 : Int) ^ Int.toNat 18 = 1000000000000000000 := by decide
        split
        · exact hnx _ ⟨p + 1, _, m, by omega, by omega, hm, hm2, _, rfl⟩
        · refine ⟨.inr ⟨by decide, by decide⟩, by decide, by decide, hnx _ ⟨p + 1, b, _, by omega, hb, Int.emod_nonneg _ (by decide), Int.emod_lt_of_pos _ (by decide), _, rfl⟩⟩
      · exact hnx _ ⟨p, b, m, hp, hb, hm, hm2, _, rfl⟩
    · exact hnx _ ⟨p, b, m, hp, hb, hm, hm2, _, rfl⟩

end Sw

open PySem PySem.Spec L2 Sw
namespace Sw
def abc : Str := Str.ofString "abcdefghijklmnopqrstuvwxyz"
theorem abc_tl : abc.cps.toList = List.range' 97 26 := by decide +kernel
theorem abc_ix {d : Int} (h0 : 0 ≤ d) (h1 : d < 26) : (if (Str.ofString "abcdefghijklmnopqrstuvwxyz").length ≤ sizeLine then Option.map (fun c => PyData.str ⟨#[c]⟩) (atI (Str.ofString "abcdefghijklmnopqrstuvwxyz").cps.toList d) else none) = some (.str ⟨#[97 + d.toNat]⟩) := by
  show (if abc.length ≤ sizeLine then (atI abc.cps.toList d).map fun c => PyData.str ⟨#[c]⟩ else none) = _
  rw [if_pos (by rw [len_tl, abc_tl, sizeLine_eq]; decide), abc_tl, atI_at h0, List.getElem?_range' (by omega)]
  simp
theorem sizeL {n : Nat} (h : n ≤ 16777216) : n ≤ sizeLine := by rw [sizeLine_eq]; exact h
theorem low1 {n : Nat} (h : n < 26) : Low ⟨#[97 + n]⟩ := fun c hc => by
  have : c = 97 + n := by simpa using hc
  omega
theorem sum_ones : ∀ {zs : List Str}, (∀ z ∈ zs, z.length = 1) → (zs.map (·.length)).sum = zs.length
  | [], _ => rfl
  | z :: r, h => by
    rw [List.map_cons, List.sum_cons, h z List.mem_cons_self, sum_ones fun y hy => h y (List.mem_cons_of_mem _ hy), List.length_cons]
    omega
theorem join_len (zs : List Str) : (Txt.join (Str.ofString "") zs).length = (zs.map (·.length)).sum := by
  rw [len_tl, joinE, List.length_flatten, List.map_map]
  rfl
theorem join_low {zs : List Str} (h : ∀ z ∈ zs, Low z) : Low (Txt.join (Str.ofString "") zs) := fun c hc => by
  rw [joinE] at hc
  obtain ⟨l, hl, hc⟩ := List.mem_flatten.mp hc
  obtain ⟨z, hz, rfl⟩ := List.mem_map.mp hl
  exact h z hz c hc
def sp_law_letters : PSp := fun fl ds Q => ∃ fd many, fl = some fd ∧ FlOk fd ∧ ds = [.int many] ∧ 0 ≤ many ∧ many ≤ 1000 ∧ ∀ z fd2, Low z → (z.length : Int) = many → FlOk fd2 → Q (.dt (.str z)) (some fd2)
abbrev N_law_letters : List Str := ["_law_flow_here", "_law_many", "_law_k"]
def T_law_letters : PS' := (sRet (qJoin (qC (.str "")) (qF (fLc (iRg1 (qVar 1)) (gN 2) tYes' (qOp gIx (qC (.str "abcdefghijklmnopqrstuvwxyz")) (qCallL sp_law_pick 0 (qAddD (qCons (qC (.int 26)) qNil) []))) [2]))))
theorem pure_law_letters (fl : Option (List D)) (ds : List D) (Q : RV → Option (List D) → Prop) (_ : true = true ↔ fl ≠ none) (h : sp_law_letters fl ds Q) : T_law_letters (endsOf true Q) (startE true N_law_letters fl ds) := by
  obtain ⟨fd, many, rfl, hf, rfl, h1, h2, k⟩ := h
  show T_law_letters _ [SV.own true _, SV.dat _, SV.un]
  unfold T_law_letters
  walk_at "wp"
  refine ⟨⟨by omega, by omega⟩, by rw [rgD_len]; omega, ?_⟩
  refine pLc_inv (fun i acc env => ∃ (zs : List Str) (fd : List D), acc = zs.map PyData.str ∧ zs.length = i ∧ (∀ z ∈ zs, Low z ∧ z.length = 1) ∧ FlOk fd ∧ env = [SV.own true fd, SV.dat (.int many), SV.un]) ⟨[], fd, rfl, rfl, by simp, hf, rfl⟩ ?_ ?_
  · rintro i d hd acc env ⟨zs, fd, rfl, rfl, hz, hf, rfl⟩ K hK
    obtain ⟨hi, rfl⟩ := rgD_get hd
    walk_at "wp"
    refine ⟨fd, 26, rfl, hf, rfl, by omega, by omega, fun d fd2 h0 h1 hf2 => ?_⟩
    walk_at "wp"
    rw [abc_ix h0 h1]
    walk_at "wp"
    refine hK _ _ ⟨zs ++ [⟨#[97 + d.toNat]⟩], fd2, by rw [List.map_append]; rfl, by simp, fun z hz' => ?_, hf2, rfl⟩
    rcases List.mem_append.mp hz' with e | e
    · exact hz z e
    · have e : z = ⟨#[97 + d.toNat]⟩ := by simpa using e
      subst e
      exact ⟨low1 (by omega), rfl⟩
  · rintro acc env ⟨zs, fd, rfl, hl, hz, hf, rfl⟩
    rw [rgD_len] at hl
    have hs := sum_ones fun z hz' => (hz z hz').2
    walk_at "wp"
    refine ⟨?_, k _ _ (join_low fun z hz' => (hz z hz').1) (by rw [join_len, hs, hl]; omega) hf⟩
    rw [hs, hl]
    have : (Str.ofString "").length = 0 := by decide +kernel
    rw [this]
    omega
def nmB (z : Str) : Bool := z.cps.toList.all (fun c => decide (97 ≤ c ∧ c ≤ 122)) && decide (1 ≤ z.length ∧ z.length ≤ 6)
theorem nmB_iff {z : Str} : nmB z = true ↔ Nm z := by
  unfold nmB Nm Low
  rw [Bool.and_eq_true, List.all_eq_true, decide_eq_true_eq]
  simp only [decide_eq_true_eq]
def lawWords : List Str := [Str.ofString "to", Str.ofString "turn", Str.ofString "turns", Str.ofString "ring", Str.ofString "rings", Str.ofString "odd", Str.ofString "ours", Str.ofString "row", Str.ofString "rows", Str.ofString "cuts", Str.ofString "knots", Str.ofString "cover", Str.ofString "change", Str.ofString "joins", Str.ofString "theirs", Str.ofString "one", Str.ofString "two", Str.ofString "home", Str.ofString "none", Str.ofString "open", Str.ofString "keep", Str.ofString "tox", Str.ofString "onex"]
theorem lawWords_ok : lawWords.all nmB = true := by decide +kernel
def sp_law_name : PSp := fun fl ds Q => ∃ fd stem, fl = some fd ∧ FlOk fd ∧ ds = [.str stem] ∧ Low stem ∧ stem.length ≤ 4 ∧ ∀ z fd2, Nm z → FlOk fd2 → Q (.dt (.str z)) (some fd2)
abbrev N_law_name : List Str := ["_law_flow_here", "_law_stem", "_law_words"]
def T_law_name : PS' := (sSeq (sIf (qTest (qOp (gEq true) (qVar 1) (qC (.str "")))) (sRet (qOp gAdd (qVar 1) (qCallL sp_law_letters 0 (qAddD (qCons (qOp gAdd (qC (.int 1)) (qCallL sp_law_pick 0 (qAddD (qCons (qC (.int 2)) qNil) []))) qNil) [])))) sNil)
  (sSeq (sIf (qTest (qOp (gEq false) (qCallL sp_law_pick 0 (qAddD (qCons (qC (.int 7)) qNil) [])) (qC (.int 0)))) (sSeq (sAsg 2 (qF (fLst (qCons (qC (.str "to")) (qCons (qC (.str "turn")) (qCons (qC (.str "turns")) (qCons (qC (.str "ring")) (qCons (qC (.str "rings")) (qCons (qC (.str "odd")) (qCons (qC (.str "ours")) (qCons (qC (.str "row")) (qCons (qC (.str "rows")) (qCons (qC (.str "cuts")) (qCons (qC (.str "knots")) (qCons (qC (.str "cover")) qNil)))))))))))))))
  (sSeq (sAsg 2 (qOp gAdd (qVar 2) (qF (fLst (qCons (qC (.str "change")) (qCons (qC (.str "joins")) (qCons (qC (.str "theirs")) (qCons (qC (.str "one")) (qCons (qC (.str "two")) (qCons (qC (.str "home")) (qCons (qC (.str "none")) (qCons (qC (.str "open")) (qCons (qC (.str "keep")) (qCons (qC (.str "tox")) (qCons (qC (.str "onex")) qNil)))))))))))))))
  (sRet (qOp gIx (qVar 2) (qCallL sp_law_pick 0 (qAddD (qCons (qC (.int 23)) qNil) [])))))) sNil)
  (sRet (qCallL sp_law_letters 0 (qAddD (qCons (qOp gAdd (qC (.int 1)) (qCallL sp_law_pick 0 (qAddD (qCons (qC (.int 6)) qNil) []))) qNil) [])))))
theorem pure_law_name (fl : Option (List D)) (ds : List D) (Q : RV → Option (List D) → Prop) (_ : true = true ↔ fl ≠ none) (h : sp_law_name fl ds Q) : T_law_name (endsOf true Q) (startE true N_law_name fl ds) := by
  obtain ⟨fd, stem, rfl, hf, rfl, h1, h2, k⟩ := h
  show T_law_name _ [SV.own true _, SV.dat _, SV.un]
  unfold T_law_name
  refine cut_seq (fun env => ∃ fd, FlOk fd ∧ env = [SV.own true fd, SV.dat (.str stem), SV.un]) ?_ fun nx hnx => ?_
  · rintro env ⟨fd, hf, rfl⟩
    walk_at "wp"
    refine ⟨fd, 7, rfl, hf, rfl, by omega, by omega, fun d fd2 h0 h7 hf2 => ?_⟩
    walk_at "wp"
    split
    · refine ⟨sizeL (by decide), sizeL (by decide), sizeL (by decide), fd2, 23, rfl, hf2, rfl, by omega, by omega, fun d fd3 g0 g1 hf3 => ?_⟩
      walk_at "wp"
      obtain ⟨w, e1, e2⟩ : ∃ w, lawWords[d.toNat]? = some w ∧ Nm w := by
        have hlt : d.toNat < lawWords.length := by
          show d.toNat < 23
          omega
        exact ⟨_, List.getElem?_eq_getElem hlt, nmB_iff.mp (List.all_eq_true.mp lawWords_ok _ (List.getElem_mem hlt))⟩
      have e3 : atI (lawWords.map PyData.str) d = some (.str w) := by
        rw [atI_at g0, List.getElem?_map, e1]
        rfl
      refine ⟨_, e3, k _ _ e2 hf3⟩
    · refine ⟨fd2, 6, rfl, hf2, rfl, by omega, by omega, fun d fd3 g0 g1 hf3 => ?_⟩
      walk_at "wp"
      refine ⟨fd3, 1 + d, rfl, hf3, rfl, by omega, by omega, fun z fd4 hz hl hf4 => ?_⟩
      walk_at "wp"
      exact k _ _ ⟨hz, by omega, by omega⟩ hf4
  · walk_at "wp"
    split
    · rename_i hne
      refine ⟨fd, 2, rfl, hf, rfl, by omega, by omega, fun d fd2 h0 h7 hf2 => ?_⟩
      walk_at "wp"
      refine ⟨fd2, 1 + d, rfl, hf2, rfl, by omega, by omega, fun z fd3 hz hl hf3 => ?_⟩
      walk_at "wp"
      have hs : 1 ≤ stem.length := by
        cases q : stem.length with
        | zero =>
          exfalso
          refine hne (ext_tl ?_)
          rw [List.eq_nil_of_length_eq_zero (show stem.cps.toList.length = 0 from q)]
          decide +kernel
        | succ n => omega
      exact ⟨sizeL (by omega), k _ _ ⟨h1.app hz, by rw [len_app]; omega, by rw [len_app]; omega⟩ hf3⟩
    · exact hnx _ ⟨fd, hf, rfl⟩

end Sw

open PySem PySem.Spec L2 Sw
namespace Sw
theorem mul_tl (z : Str) {n : Int} (h : 1 ≤ n) : (Txt.mul z n).cps.toList = (List.replicate n.toNat z.cps.toList).flatten := by
  unfold Txt.mul
  rw [if_neg (by omega)]
  split
  · rename_i h2
    rw [Bool.or_eq_true] at h2
    rcases h2 with h2 | h2
    · have : n = 1 := by simpa using h2
      subst this
      simp
    · have h3 : z.cps.toList.length = 0 := by
        have : z.length = 0 := by simpa using h2
        exact this
      have h4 : z.cps.toList = [] := List.eq_nil_of_length_eq_zero h3
      rw [h4]
      simp
  · have key : ∀ (k : Nat) (acc : Array Nat), ((List.replicate k z.cps).foldl (· ++ ·) acc).toList = acc.toList ++ (List.replicate k z.cps.toList).flatten := by
      intro k
      induction k with
      | zero => intro acc; simp
      | succ k ih =>
        intro acc
        rw [List.replicate_succ, List.foldl_cons, ih, List.replicate_succ, List.flatten_cons, Array.toList_append, List.append_assoc]
    show ((List.replicate n.toNat z.cps).foldl (· ++ ·) #[]).toList = _
    rw [key]
    simp
theorem nodup_len_le {α : Type} [DecidableEq α] : ∀ {l m : List α}, l.Nodup → (∀ x ∈ l, x ∈ m) → l.length ≤ m.length
  | [], _, _, _ => Nat.zero_le _
  | x :: r, m, h, hs => by
    have h' := List.nodup_cons.mp h
    have hx := hs x List.mem_cons_self
    have ih := nodup_len_le (l := r) (m := m.erase x) h'.2 fun y hy => by
      have hne : y ≠ x := by
        rintro rfl
        exact h'.1 hy
      exact (List.mem_erase_of_ne hne).mpr (hs y (List.mem_cons_of_mem _ hy))
    rw [List.length_erase_of_mem hx] at ih
    have : 0 < m.length := List.length_pos_of_mem hx
    rw [List.length_cons]
    omega
theorem tl_nil : (Str.ofString "").cps.toList = [] := by decide +kernel
theorem low_nil : Low (Str.ofString "") := fun c hc => by
  rw [tl_nil] at hc
  cases hc
/-- the spare names -/
def cand (s : Nat) : Str := Txt.mul ⟨#[97 + s % 26]⟩ (1 + (s / 26 : Nat))
theorem rep_one (k c : Nat) : (List.replicate k [c]).flatten = List.replicate k c := by
  induction k with
  | zero => rfl
  | succ k ih => rw [List.replicate_succ, List.flatten_cons, ih, List.replicate_succ]; rfl
theorem cand_tl (s : Nat) : (cand s).cps.toList = List.replicate (1 + s / 26) (97 + s % 26) := by
  unfold cand
  rw [mul_tl _ (by omega)]
  have : (1 + ((s / 26 : Nat) : Int)).toNat = 1 + s / 26 := by omega
  rw [this]
  exact rep_one _ _
theorem cand_inj {s t : Nat} (h : cand s = cand t) : s = t := by
  have e := congrArg (fun z : Str => z.cps.toList) h
  have e : (cand s).cps.toList = (cand t).cps.toList := e
  rw [cand_tl, cand_tl] at e
  have h1 : 1 + s / 26 = 1 + t / 26 := by
    have := congrArg List.length e
    simpa using this
  have h2 : 97 + s % 26 = 97 + t % 26 := by
    have := congrArg List.head? e
    rw [show 1 + s / 26 = (s / 26) + 1 by omega, show 1 + t / 26 = (t / 26) + 1 by omega, List.replicate_succ, List.replicate_succ] at this
    simpa using this
  omega
theorem cand_nm {s : Nat} (h : s < 156) : Nm (cand s) := by
  refine ⟨fun c hc => ?_, ?_, ?_⟩
  · rw [cand_tl] at hc
    have := List.eq_of_mem_replicate hc
    omega
  · rw [len_tl, cand_tl, List.length_replicate]
    omega
  · rw [len_tl, cand_tl, List.length_replicate]
    omega
theorem cand_few {ns : List Str} {s : Nat} (h : ∀ j, j < s → cand j ∈ ns) : s ≤ ns.length := by
  have nd : ((List.range s).map cand).Nodup := by
    rw [List.Nodup, List.pairwise_map]
    exact List.Pairwise.imp (fun hab e => hab (cand_inj e)) (List.nodup_range (n := s))
  have sub : ∀ x ∈ (List.range s).map cand, x ∈ ns := fun x hx => by
    obtain ⟨j, hj, rfl⟩ := List.mem_map.mp hx
    exact h j (List.mem_range.mp hj)
  have := nodup_len_le nd sub
  simpa using this
def sp_law_names : PSp := fun fl ds Q => ∃ fd many, fl = some fd ∧ FlOk fd ∧ ds = [.int many] ∧ 0 ≤ many ∧ many ≤ 80 ∧ ∀ (ns : List Str) fd2, ns.Nodup → (∀ z ∈ ns, Nm z) → (ns.length : Int) = many → FlOk fd2 → Q (.fr (ns.map PyData.str)) (some fd2)
abbrev N_law_names : List Str := ["_law_flow_here", "_law_many", "_law_stem", "_law_names_here", "_law_k", "_law_name_here", "_law_spare"]
def T_law_names : PS' := (sSeq (sAsg 2 (qC (.str "")))
  (sSeq (sIf (qTest (qOp (gEq false) (qCallL sp_law_pick 0 (qAddD (qCons (qC (.int 3)) qNil) [])) (qC (.int 0)))) (sAsg 2 (qCallL sp_law_letters 0 (qAddD (qCons (qOp gAdd (qC (.int 1)) (qCallL sp_law_pick 0 (qAddD (qCons (qC (.int 4)) qNil) []))) qNil) []))) sNil)
  (sSeq (sAsgF 3 (fLst (qNil)))
  (sSeq (sFor (iRg1 (qVar 1)) (gN 4) (sSeq (sAsg 5 (qCallL sp_law_name 0 (qAddD (qCons (qVar 2) qNil) [])))
  (sSeq (sAsg 6 (qC (.int 0)))
  (sSeq (sWh (qTest (qOp (gIn false) (qVar 5) (qVar 3))) (sSeq (sAsg 5 (qOp gMul (qOp gIx (qC (.str "abcdefghijklmnopqrstuvwxyz")) (qOp (gI gMod) (qVar 6) (qC (.int 26)))) (qOp gAdd (qC (.int 1)) (qOp (gI gDiv) (qVar 6) (qC (.int 26))))))
  (sAsg 6 (qOp gAdd (qVar 6) (qC (.int 1))))))
  (sDrop (qMO 3 gAppend (qCons (qVar 5) qNil)))))))
  (sRetS 3)))))
theorem pure_law_names (fl : Option (List D)) (ds : List D) (Q : RV → Option (List D) → Prop) (_ : true = true ↔ fl ≠ none) (h : sp_law_names fl ds Q) : T_law_names (endsOf true Q) (startE true N_law_names fl ds) := by
  obtain ⟨fd, many, rfl, hf, rfl, h1, h2, k⟩ := h
  show T_law_names _ [SV.own true _, SV.dat _, SV.un, SV.un, SV.un, SV.un, SV.un]
  unfold T_law_names
  refine cut_seq (fun env => FlOk fd ∧ env = [SV.own true fd, SV.dat (.int many), SV.dat (.str (Str.ofString "")), SV.un, SV.un, SV.un, SV.un]) ?_ fun nx hnx => ?_
  · rintro env ⟨hf, rfl⟩
    refine cut_seq (fun env => ∃ fd stem, FlOk fd ∧ Low stem ∧ stem.length ≤ 4 ∧ env = [SV.own true fd, SV.dat (.int many), SV.dat (.str stem), SV.un, SV.un, SV.un, SV.un]) ?_ fun nx hnx => ?_
    · rintro env ⟨fd, stem, hf, hs1, hs2, rfl⟩
      walk_at "wp"
      refine ⟨sizeL (by decide), ⟨by omega, by omega⟩, ?_⟩
      refine pFor_inv (fun i env => ∃ (ns : List Str) (fd : List D) (y1 y2 y3 : SV), ns.length = i ∧ ns.Nodup ∧ (∀ z ∈ ns, Nm z) ∧ FlOk fd ∧ env = [SV.own true fd, SV.dat (.int many), SV.dat (.str stem), SV.own false (ns.map PyData.str), y1, y2, y3]) ⟨[], fd, _, _, _, rfl, List.nodup_nil, by simp, hf, rfl⟩ ?_ ?_
      · rintro i d hd env ⟨ns, fd, y1, y2, y3, rfl, hn1, hn2, hf, rfl⟩ K hK
        obtain ⟨hi, rfl⟩ := rgD_get hd
        walk_at "wp"
        refine ⟨fd, stem, rfl, hf, rfl, hs1, hs2, fun z fd2 hz hf2 => ?_⟩
        walk_at "wp"
        refine pWh_inv (fun env => ∃ (s : Nat) (z : Str), Nm z ∧ s ≤ ns.length + 1 ∧ (∀ j, j + 1 < s → cand j ∈ ns) ∧ (0 < s → z = cand (s - 1)) ∧ env = [SV.own true fd2, SV.dat (.int many), SV.dat (.str stem), SV.own false (ns.map PyData.str), SV.dat (.int (0 + (ns.length : Int))), SV.dat (.str z), SV.dat (.int (s : Int))])
          (fun env : List SV => match env[6]? with | some (SV.dat (PyData.int s)) => (100 - s).toNat | _ => 0) ⟨0, z, hz, by omega, by omega, by omega, rfl⟩ ?_
        rintro env ⟨s, z, hz, hs, hc, hzc, rfl⟩ K2 hK2
        walk_at "wp"
        rw [gIn_strs]
        walk_at "wp"
        split
        · rename_i hin
          have hc2 : ∀ j, j < s → cand j ∈ ns := fun j hj => by
            by_cases e : j + 1 < s
            · exact hc j e
            · have e1 : j = s - 1 := by omega
              rw [e1, ← hzc (by omega)]
              exact hin
          have hfew := cand_few hc2
          have hmany : ns.length < 80 := by omega
          have e1 : ((s : Int) % 26) = ((s % 26 : Nat) : Int) := by omega
          have e2 : ((s : Int) / 26) = ((s / 26 : Nat) : Int) := by omega
          rw [abc_ix (by omega) (by omega)]
          walk_at "wp"
          refine ⟨by decide, ⟨by decide, by decide⟩, ⟨by omega, by omega, by show 1 ≤ 1000; decide⟩, ?_⟩
          have e3 : Txt.mul ⟨#[97 + ((s : Int) % 26).toNat]⟩ (1 + (s : Int) / 26) = cand s := by
            unfold cand
            rw [e1, e2]
            rfl
          rw [e3]
          refine hK2 _ ⟨s + 1, cand s, cand_nm (by omega), by omega, fun j hj => hc2 j (by omega), fun _ => rfl, rfl⟩ ?_
          show (100 - ((s : Int) + 1)).toNat < (100 - (s : Int)).toNat
          omega
        · rename_i hnin
          refine ⟨?_, hK _ ⟨ns ++ [z], fd2, _, _, _, by simp, ?_, fun y hy => ?_, hf2, by rw [List.map_append]; rfl⟩⟩
          · rw [List.length_map, sizeLine_eq]
            omega
          · rw [List.nodup_append]
            refine ⟨hn1, by simp, fun a ha b hb => ?_⟩
            have : b = z := by simpa using hb
            rintro rfl
            exact hnin (this ▸ ha)
          · rcases List.mem_append.mp hy with e | e
            · exact hn2 y e
            · have : y = z := by simpa using e
              exact this ▸ hz
      · rintro env ⟨ns, fd, y1, y2, y3, hl, hn1, hn2, hf, rfl⟩
        rw [rgD_len] at hl
        walk_at "wp"
        exact k ns fd hn1 hn2 (by omega) hf
    · walk_at "wp"
      refine ⟨fd, 3, rfl, hf, rfl, by omega, by omega, fun d fd2 g0 g1 hf2 => ?_⟩
      walk_at "wp"
      split
      · refine ⟨fd2, 4, rfl, hf2, rfl, by omega, by omega, fun d fd3 g0 g1 hf3 => ?_⟩
        walk_at "wp"
        refine ⟨fd3, 1 + d, rfl, hf3, rfl, by omega, by omega, fun z fd4 hz hl hf4 => ?_⟩
        walk_at "wp"
        exact hnx _ ⟨fd4, z, hf4, hz, by omega, rfl⟩
      · exact hnx _ ⟨fd2, _, hf2, low_nil, by decide +kernel, rfl⟩
  · walk_at "wp"
    exact hnx _ ⟨hf, rfl⟩

end Sw

open PySem PySem.Spec L2 Sw
namespace Sw
def sp_law_shuffled : PSp := fun fl ds Q => ∃ fd c xs, fl = some fd ∧ FlOk fd ∧ ds = [c] ∧ (c = .list xs ∨ c = .tuple xs) ∧ xs.length ≤ 1000 ∧ (∀ x ∈ xs, okI x) ∧ ∀ ys fd2, ys.Perm xs → FlOk fd2 → Q (.fr ys) (some fd2)
abbrev N_law_shuffled : List Str := ["_law_flow_here", "_law_things", "_law_left", "_law_told"]
def T_law_shuffled : PS' := (sSeq (sAsgF 2 (fCB gListF (qCons (qVar 1) qNil)))
  (sSeq (sAsgF 3 (fLst (qNil)))
  (sSeq (sWh (qTest (qOp (gEq true) (qVar 2) (qF (fLst (qNil))))) (sDrop (qMO 3 gAppend (qCons (qMO 2 gPopAt (qCons (qCallL sp_law_pick 0 (qAddD (qCons (qCB gLen (qCons (qVar 2) qNil)) qNil) [])) qNil)) qNil))))
  (sRetS 3))))
theorem erase_perm {α : Type} : ∀ {l : List α} {j : Nat} {x : α}, l[j]? = some x → (x :: l.eraseIdx j).Perm l
  | [], _, _, h => by simp at h
  | a :: r, 0, x, h => by
    simp at h
    subst h
    exact List.Perm.refl _
  | a :: r, j + 1, x, h => by
    have ih := erase_perm (l := r) (j := j) (x := x) (by simpa using h)
    exact (List.Perm.swap a x _).trans (ih.cons a)
theorem seqIx {d : Int} {n : Nat} (h0 : 0 ≤ d) (h1 : d < n) : seqIndex? d n = some d.toNat := by
  refine (ixN_seq (n := n) (i := d) ?_).1
  unfold ixN
  rw [if_pos h0, if_pos h1]
theorem pure_law_shuffled (fl : Option (List D)) (ds : List D) (Q : RV → Option (List D) → Prop) (_ : true = true ↔ fl ≠ none) (h : sp_law_shuffled fl ds Q) : T_law_shuffled (endsOf true Q) (startE true N_law_shuffled fl ds) := by
  obtain ⟨fd, c, xs, rfl, hf, rfl, hc, hl, ho, k⟩ := h
  show T_law_shuffled _ [SV.own true _, SV.dat _, SV.un, SV.un]
  unfold T_law_shuffled
  refine cut_seq (fun env => env = [SV.own true fd, SV.dat c, SV.own false xs, SV.un]) ?_ fun nx hnx => ?_
  · rintro env rfl
    walk_at "wp"
    refine ⟨Nat.zero_le _, ?_⟩
    refine pWh_inv (fun env => ∃ (left told : List D) (fd : List D), (told ++ left).Perm xs ∧ FlOk fd ∧ env = [SV.own true fd, SV.dat c, SV.own false left, SV.own false told])
      (fun env : List SV => match env[2]? with | some (SV.obj _ (Ct.lst l)) => l.length | _ => 0) ⟨xs, [], fd, List.Perm.refl _, hf, rfl⟩ ?_
    rintro env ⟨left, told, fd, hp, hf, rfl⟩ K hK
    have ho' : ∀ x ∈ left, okI x := fun x hx => ho x (hp.mem_iff.mp (List.mem_append_right _ hx))
    have hl' : told.length + left.length = xs.length := by
      have := hp.length_eq
      rw [List.length_append] at this
      exact this
    walk_at "wp"
    refine ⟨Nat.zero_le _, ?_⟩
    rw [gNe_nil ho']
    walk_at "wp"
    split
    · rename_i hne
      have hpos : 1 ≤ left.length := by
        cases left with
        | nil => cases hne
        | cons a r => simp
      refine ⟨fd, _, rfl, hf, rfl, by omega, by omega, fun d fd2 h0 h1 hf2 => ?_⟩
      walk_at "wp"
      have hlt : d.toNat < left.length := by omega
      refine ⟨left[d.toNat], left.eraseIdx d.toNat, ?_, ?_, hK _ ⟨left.eraseIdx d.toNat, told ++ [left[d.toNat]], fd2, ?_, hf2, rfl⟩ ?_⟩
      · rw [if_pos ⟨by omega, by omega⟩, seqIx h0 h1]
        walk_at "wp"
        rw [List.getElem?_eq_getElem hlt]
        rfl
      · rw [sizeLine_eq]
        omega
      · rw [List.append_assoc]
        exact ((erase_perm (List.getElem?_eq_getElem hlt)).append_left told).trans hp
      · show (left.eraseIdx d.toNat).length < left.length
        rw [List.length_eraseIdx_of_lt hlt]
        omega
    · rename_i hne
      have : left = [] := by
        cases left with
        | nil => rfl
        | cons a r => exact absurd rfl hne
      subst this
      rw [List.append_nil] at hp
      exact k told fd hp hf
  · walk_at "wp"
    refine ⟨xs, ?_, hnx _ rfl⟩
    rcases hc with rfl | rfl <;> rfl
abbrev Bead := Bool × Str
def bdS (b : Bead) : Str := if b.1 = true then Str.ofString "-" ++ b.2 else b.2
def bdD (b : Bead) : D := .str (bdS b)
def mirB (b : Bead) : Bead := (!b.1, b.2)
theorem dash_tl : (Str.ofString "-").cps.toList = [45] := by decide +kernel
theorem mul_dash {d : Int} (h0 : 0 ≤ d) (h1 : d < 2) (z : Str) : Txt.mul (Str.ofString "-") d ++ z = bdS (decide (d = 1), z) := by
  unfold bdS
  by_cases e : d = 1
  · subst e
    rw [if_pos (by simp)]
    congr 1
  · have : d = 0 := by omega
    subst this
    rw [if_neg (by simp)]
    refine ext_tl ?_
    rw [tl_app]
    have : (Txt.mul (Str.ofString "-") 0).cps.toList = [] := by decide +kernel
    rw [this, List.nil_append]
theorem bdS_len (b : Bead) : (bdS b).length ≤ b.2.length + 1 := by
  unfold bdS
  split
  · rw [len_app]
    have : (Str.ofString "-").length = 1 := by decide +kernel
    omega
  · omega
def sp_law_line : PSp := fun fl ds Q => ∃ fd c ns, fl = some fd ∧ FlOk fd ∧ ds = [c] ∧ (c = .list (ns.map PyData.str) ∨ c = .tuple (ns.map PyData.str)) ∧ ns.length ≤ 1000 ∧ (∀ z ∈ ns, Nm z) ∧ ∀ (bs : List Bead) fd2, (bs.map Prod.snd).Perm ns → FlOk fd2 → Q (.dt (.tuple (bs.map bdD))) (some fd2)
abbrev N_law_line : List Str := ["_law_flow_here", "_law_names_here", "_law_name_here"]
def T_law_line : PS' := (sRet (qCB gTuple (qCons (qF (fLc (iAny (qCallL sp_law_shuffled 0 (qAddD (qCons (qVar 1) qNil) []))) (gN 2) tYes' (qOp gAdd (qOp gMul (qC (.str "-")) (qCallL sp_law_pick 0 (qAddD (qCons (qC (.int 2)) qNil) []))) (qVar 2)) [2])) qNil)))
theorem strs_of_perm {ys : List D} {ns : List Str} (h : ys.Perm (ns.map PyData.str)) : ∃ ms : List Str, ys = ms.map PyData.str ∧ ms.Perm ns := by
  have key : ∀ (l m : List D), l.Perm m → ∀ ns : List Str, m = ns.map PyData.str → ∃ ms : List Str, l = ms.map PyData.str ∧ ms.Perm ns := by
    intro l m h
    induction h with
    | nil => intro ns e; exact ⟨[], rfl, by cases ns with | nil => exact List.Perm.refl _ | cons => cases e⟩
    | cons x h ih =>
      intro ns e
      cases ns with
      | nil => cases e
      | cons n r =>
        injection e with e1 e2
        obtain ⟨ms, rfl, hp⟩ := ih r e2
        exact ⟨n :: ms, by rw [List.map_cons, e1], hp.cons n⟩
    | swap x y l =>
      intro ns e
      cases ns with
      | nil => cases e
      | cons n r =>
        cases r with
        | nil => injection e with e1 e2; cases e2
        | cons m r =>
          injection e with e1 e2
          injection e2 with e2 e3
          exact ⟨m :: n :: r, by rw [List.map_cons, List.map_cons, e1, e2, e3], List.Perm.swap _ _ _⟩
    | trans h1 h2 ih1 ih2 =>
      intro ns e
      obtain ⟨ms, e1, p1⟩ := ih2 ns e
      obtain ⟨ks, e2, p2⟩ := ih1 ms e1
      exact ⟨ks, e2, p2.trans p1⟩
  exact key _ _ h ns rfl
theorem pure_law_line (fl : Option (List D)) (ds : List D) (Q : RV → Option (List D) → Prop) (_ : true = true ↔ fl ≠ none) (h : sp_law_line fl ds Q) : T_law_line (endsOf true Q) (startE true N_law_line fl ds) := by
  obtain ⟨fd, c, ns, rfl, hf, rfl, hc, hl, hn, k⟩ := h
  show T_law_line _ [SV.own true _, SV.dat _, SV.un]
  unfold T_law_line
  walk_at "wp"
  refine ⟨fd, c, ns.map PyData.str, rfl, hf, rfl, hc, by rw [List.length_map]; exact hl, fun x hx => ?_, fun ys fd2 hp hf2 => ?_⟩
  · obtain ⟨z, _, rfl⟩ := List.mem_map.mp hx
    exact okI_str z
  · obtain ⟨ms, rfl, hpm⟩ := strs_of_perm hp
    have hml := hpm.length_eq
    walk_at "wp"
    refine ⟨by rw [List.length_map]; omega, ?_⟩
    refine pLc_inv (fun i acc env => ∃ (bs : List Bead) (fd : List D), acc = bs.map bdD ∧ bs.map Prod.snd = ms.take i ∧ FlOk fd ∧ env = [SV.own true fd, SV.dat c, SV.un]) ⟨[], fd2, rfl, rfl, hf2, rfl⟩ ?_ ?_
    · rintro i d hd acc env ⟨bs, fd, rfl, hb, hf, rfl⟩ K hK
      rw [List.getElem?_map] at hd
      cases q : ms[i]? with
      | none => rw [q] at hd; cases hd
      | some z =>
        rw [q] at hd
        cases hd
        have hz : Nm z := hn z (hpm.mem_iff.mp (List.mem_of_getElem? q))
        walk_at "wp"
        refine ⟨fd, 2, rfl, hf, rfl, by omega, by omega, fun d fd3 g0 g1 hf3 => ?_⟩
        walk_at "wp"
        refine ⟨⟨by omega, by omega, by decide⟩, ?_, ?_⟩
        · refine sizeL ?_
          have h2 := hz.2.2
          have : (Txt.mul (Str.ofString "-") d).length ≤ 1 := by
            by_cases e : d = 1
            · subst e; decide +kernel
            · have : d = 0 := by omega
              subst this; decide +kernel
          omega
        · rw [mul_dash g0 g1]
          refine hK _ _ ⟨bs ++ [(decide (d = 1), z)], fd3, by rw [List.map_append]; rfl, ?_, hf3, rfl⟩
          rw [List.map_append, hb, List.take_add_one, q]
          rfl
    · rintro acc env ⟨bs, fd, rfl, hb, hf, rfl⟩
      rw [List.length_map, List.take_length] at hb
      walk_at "wp"
      exact k bs fd (by rw [hb]; exact hpm) hf

end Sw

open PySem PySem.Spec L2 Sw
namespace Sw
abbrev Strand := Bool × List Bead
def stD (s : Strand) : D := .tuple [.str (if s.1 = true then Str.ofString "ring" else Str.ofString "open"), .tuple (s.2.map bdD)]
def beadsOf (ss : List Strand) : List Bead := ss.flatMap Prod.snd
theorem beadsOf_app (a b : List Strand) : beadsOf (a ++ b) = beadsOf a ++ beadsOf b := List.flatMap_append
theorem okI_bds (bs : List Bead) : ∀ x ∈ bs.map bdD, okI x := fun x hx => by
  obtain ⟨b, _, rfl⟩ := List.mem_map.mp hx
  exact okI_str _
theorem beads_few (ss : List Strand) (h : ∀ s ∈ ss, s.2 ≠ []) : ss.length ≤ (beadsOf ss).length := by
  induction ss with
  | nil => exact Nat.le_refl _
  | cons s r ih =>
    have h1 := ih fun x hx => h x (List.mem_cons_of_mem _ hx)
    have h2 : 1 ≤ s.2.length := by
      have := h s List.mem_cons_self
      cases q : s.2 with
      | nil => exact absurd q this
      | cons a b => simp
    show r.length + 1 ≤ (s.2 ++ beadsOf r).length
    rw [List.length_append]
    omega
def okA : Nat → D → Prop
  | _, .none => True
  | _, .bool _ => True
  | _, .int _ => True
  | _, .str _ => True
  | n + 1, .list xs => xs.length ≤ 100000 ∧ ∀ x ∈ xs, okA n x
  | n + 1, .tuple xs => xs.length ≤ 100000 ∧ ∀ x ∈ xs, okA n x
  | _, _ => False
def spA : Nat → PSp
  | 0 => fun _ _ _ => False
  | n + 1 => fun fl ds Q => fl = none ∧ ∃ d, ds = [d, d] ∧ okA n d ∧ Q (.dt (.bool true)) none
def sp_law_alike : PSp := spA 12
abbrev N_law_alike : List Str := ["_law_found", "_law_due", "_law_k"]
def T_law_alike (sp_law_alike : PSp) : PS' := (sSeq (sIf (qTest (qOp (gIsN false) (qVar 1) (qC .none))) (sRet (qOp (gIsN false) (qVar 0) (qC .none))) sNil)
  (sSeq (sIf (tOr' (qTest (qIsi .bool (qVar 1))) (qTest (qIsi .bool (qVar 0)))) (sRet (qAnd (qIsi .bool (qVar 1)) (qAnd (qIsi .bool (qVar 0)) (qOp (gEq false) (qVar 0) (qVar 1))))) sNil)
  (sSeq (sIf (qTest (qIsi .int (qVar 1))) (sRet (qAnd (qIsi .int (qVar 0)) (qOp (gEq false) (qVar 0) (qVar 1)))) sNil)
  (sSeq (sIf (qTest (qIsi .str (qVar 1))) (sRet (qAnd (qIsi .str (qVar 0)) (qOp (gEq false) (qVar 0) (qVar 1)))) sNil)
  (sSeq (sIf (tOr' (qTest (qOp (gEq true) (qIsi .tuple (qVar 1)) (qIsi .tuple (qVar 0)))) (qTest (qOp (gEq true) (qIsi .list (qVar 1)) (qIsi .list (qVar 0))))) (sRet (qC (.bool false))) sNil)
  (sRet (qAnd (qOp (gEq false) (qCB gLen (qCons (qVar 0) qNil)) (qCB gLen (qCons (qVar 1) qNil))) (qCB gAll (qCons (qF (fLc (iRg1 (qCB gLen (qCons (qVar 1) qNil))) (gN 2) tYes' (qCall sp_law_alike (qAddD (qCons (qOp gIx (qVar 0) (qVar 2)) (qCons (qOp gIx (qVar 1) (qVar 2)) qNil)) [])) [2])) qNil)))))))))
theorem pure_law_alike (n : Nat) (fl : Option (List D)) (ds : List D) (Q : RV → Option (List D) → Prop) (_ : false = true ↔ fl ≠ none) (h : spA (n + 1) fl ds Q) : T_law_alike (spA n) (endsOf false Q) (startE false N_law_alike fl ds) := by
  obtain ⟨rfl, d, rfl, hd, k⟩ := h
  show T_law_alike _ _ [SV.dat d, SV.dat d, SV.un]
  unfold T_law_alike
  have seq : ∀ (c : D) (xs : List D), (∀ i : Int, gIx c (.int i) = atI xs i) → xs.length ≤ 100000 → (∀ x ∈ xs, ∃ m, n = m + 1 ∧ okA m x) →
      pLc (gN 2) tYes' (qCall (spA n) (qAddD (qCons (qOp gIx (qVar 0) (qVar 2)) (qCons (qOp gIx (qVar 1) (qVar 2)) qNil)) [])) [2] (fun ds env' => ∃ d, gAll [PyData.list ds] = some d ∧ Q (RV.dt d) none) (rgD 0 ((xs.length : Int)).toNat) [] [SV.dat c, SV.dat c, SV.un] := fun c xs hg hl hx => by
    refine pLc_inv (fun i acc env => ∃ bs : List Bool, acc = bs.map PyData.bool ∧ (∀ b ∈ bs, b = true) ∧ env = [SV.dat c, SV.dat c, SV.un]) ⟨[], rfl, by simp, rfl⟩ ?_ ?_
    · rintro i d hd acc env ⟨bs, rfl, hb, rfl⟩ K hK
      obtain ⟨hi, rfl⟩ := rgD_get hd
      have hlt : i < xs.length := by omega
      have e : atI xs (0 + (i : Int)) = some xs[i] := by
        rw [Int.zero_add]
        exact atI_nat (List.getElem?_eq_getElem hlt)
      obtain ⟨m, rfl, hm⟩ := hx xs[i] (List.getElem_mem hlt)
      walk_at "wp"
      rw [hg, e]
      walk_at "wp"
      refine ⟨rfl, xs[i], rfl, hm, ?_⟩
      walk_at "wp"
      refine hK _ _ ⟨bs ++ [true], by rw [List.map_append]; rfl, fun b hb' => ?_, rfl⟩
      rcases List.mem_append.mp hb' with e | e
      · exact hb b e
      · simpa using e
    · rintro acc env ⟨bs, rfl, hb, rfl⟩
      walk_at "wp"
      have : bs.all id = true := List.all_eq_true.mpr fun b h => hb b h
      rw [this]
      exact k
  cases d with
  | none => walk_at "wp"; exact k
  | bool b => walk_at "wp"; rw [beq_self_eq_true]; exact k
  | int i => walk_at "wp"; rw [beq_self_eq_true]; exact k
  | str z => walk_at "wp"; rw [beq_self_eq_true]; exact k
  | list xs =>
    have h' : xs.length ≤ 100000 ∧ ∀ x ∈ xs, ∃ m, n = m + 1 ∧ okA m x := by
      cases n with
      | zero => exact hd.elim
      | succ m => exact ⟨hd.1, fun x hx => ⟨m, rfl, hd.2 x hx⟩⟩
    walk_at "wp"
    exact ⟨⟨by omega, by omega⟩, by rw [rgD_len]; omega, seq _ xs (fun _ => rfl) h'.1 h'.2⟩
  | tuple xs =>
    have h' : xs.length ≤ 100000 ∧ ∀ x ∈ xs, ∃ m, n = m + 1 ∧ okA m x := by
      cases n with
      | zero => exact hd.elim
      | succ m => exact ⟨hd.1, fun x hx => ⟨m, rfl, hd.2 x hx⟩⟩
    walk_at "wp"
    exact ⟨⟨by omega, by omega⟩, by rw [rgD_len]; omega, seq _ xs (fun _ => rfl) h'.1 h'.2⟩
  | dict kds => cases n <;> exact hd.elim

end Sw

open PySem PySem.Spec L2 Sw
namespace Sw
theorem bd_get0 (b : Bead) (h : Nm b.2) : ∃ c, (bdS b).cps.toList[0]? = some c ∧ (c = 45 ↔ b.1 = true) := by
  obtain ⟨t, z⟩ := b
  cases t with
  | true =>
    refine ⟨45, ?_, by simp⟩
    unfold bdS
    rw [if_pos rfl, tl_app, dash_tl]
    rfl
  | false =>
    have hz : z.cps.toList ≠ [] := fun e => by
      have h1 := h.2.1
      rw [len_tl, e] at h1
      simp at h1
    obtain ⟨c, r, e⟩ := List.exists_cons_of_ne_nil hz
    refine ⟨c, ?_, ?_⟩
    · unfold bdS
      rw [if_neg (by simp), e]
      rfl
    · have := h.1 c (by rw [e]; exact List.mem_cons_self)
      constructor
      · intro e; omega
      · intro e; cases e
theorem one_eq (c : Nat) : ((⟨#[c]⟩ : Str) == Str.ofString "-") = decide (c = 45) := by
  by_cases h : c = 45
  · subst h; decide +kernel
  · rw [decide_eq_false h]
    refine beq_eq_false_iff_ne.mpr fun e => h ?_
    have := congrArg (fun z : Str => z.cps.toList) e
    have e : [c] = (Str.ofString "-").cps.toList := this
    rw [dash_tl] at e
    simpa using e
theorem bd_len {b : Bead} (h : Nm b.2) : (bdS b).length ≤ 7 := by
  have := bdS_len b
  have := h.2.2
  omega
theorem cut_dash (z : Str) : cutS (Str.ofString "-" ++ z) (some 1) none = z := by
  refine ext_tl ?_
  unfold cutS
  have e : (Str.ofString "-" ++ z).cps.toList = 45 :: z.cps.toList := by rw [tl_app, dash_tl]; rfl
  have hl : (Str.ofString "-" ++ z).length = z.cps.toList.length + 1 := by rw [len_tl, e, List.length_cons]
  show ((Str.ofString "-" ++ z).cps.toList.drop _).take _ = _
  rw [e, HT.sIx_none, show (some (1 : Int)) = some ((1 : Nat) : Int) from rfl, HT.sIx_nat, hl]
  rw [show min 1 (z.cps.toList.length + 1) = 1 by omega]
  show List.take (z.cps.toList.length + 1 - 1) z.cps.toList = z.cps.toList
  rw [Nat.add_sub_cancel, List.take_length]
/-- the text whose first sign is asked -/
theorem bd_first (b : Bead) (h : Nm b.2) {P : D → Prop} : (∃ d, (if (bdS b).length ≤ sizeLine then Option.map (fun c => PyData.str ⟨#[c]⟩) (bdS b).cps.toList[0]? else none) = some d ∧ ∃ d', gEq false d (.str (Str.ofString "-")) = some d' ∧ P d') ↔ P (.bool b.1) := by
  obtain ⟨c, e, hc⟩ := bd_get0 b h
  have hl : (bdS b).length ≤ sizeLine := sizeL (by have := bd_len h; omega)
  rw [if_pos hl, e]
  simp only [Option.map_some, Option.some.injEq, exists_eq_left']
  rw [gEq_ss, one_eq]
  simp only [Option.some.injEq, exists_eq_left']
  have : decide (c = 45) = b.1 := by
    cases q : b.1 with
    | true => exact decide_eq_true (hc.mpr q)
    | false => exact decide_eq_false fun z => by rw [hc.mp z] at q; cases q
  rw [this]
def sp_name_of : PSp := fun fl ds Q => fl = none ∧ ∃ b : Bead, ds = [bdD b] ∧ Nm b.2 ∧ Q (.dt (.str b.2)) none
def sp_mirrored : PSp := fun fl ds Q => fl = none ∧ ∃ b : Bead, ds = [bdD b] ∧ Nm b.2 ∧ Q (.dt (bdD (mirB b))) none
def sp_law_mirrored : PSp := fun fl ds Q => fl = none ∧ ∃ b : Bead, ds = [bdD b] ∧ Nm b.2 ∧ Q (.dt (bdD (mirB b))) none
abbrev N_name_of : List Str := ["bead"]
def T_name_of : PS' := (sSeq (sIf (qTest (qOp (gEq false) (qOp gIx (qVar 0) (qC (.int 0))) (qC (.str "-")))) (sRet (qSl (qVar 0) (qPs (qC (.int 1))) qPn)) sNil)
  (sRet (qVar 0)))
abbrev N_mirrored : List Str := ["bead"]
def T_mirrored : PS' := (sSeq (sIf (qTest (qOp (gEq false) (qOp gIx (qVar 0) (qC (.int 0))) (qC (.str "-")))) (sRet (qSl (qVar 0) (qPs (qC (.int 1))) qPn)) sNil)
  (sRet (qOp gAdd (qC (.str "-")) (qVar 0))))
abbrev N_law_mirrored : List Str := ["_law_bead"]
def T_law_mirrored : PS' := (sSeq (sIf (qTest (qOp (gEq false) (qOp gIx (qVar 0) (qC (.int 0))) (qC (.str "-")))) (sRet (qSl (qVar 0) (qPs (qC (.int 1))) qPn)) sNil)
  (sRet (qOp gAdd (qC (.str "-")) (qVar 0))))
theorem pure_name_of (fl : Option (List D)) (ds : List D) (Q : RV → Option (List D) → Prop) (_ : false = true ↔ fl ≠ none) (h : sp_name_of fl ds Q) : T_name_of (endsOf false Q) (startE false N_name_of fl ds) := by
  obtain ⟨rfl, b, rfl, hb, k⟩ := h
  show T_name_of _ [SV.dat (.str (bdS b))]
  unfold T_name_of
  walk_at "wp"
  rw [bd_first b hb]
  walk_at "wp"
  obtain ⟨t, z⟩ := b
  cases t with
  | true =>
    rw [if_pos rfl]
    refine ⟨sizeL (by have := bd_len hb; omega), ?_⟩
    unfold bdS
    rw [if_pos rfl, cut_dash]
    exact k
  | false =>
    rw [if_neg (by simp)]
    exact k
theorem pure_mirrored (fl : Option (List D)) (ds : List D) (Q : RV → Option (List D) → Prop) (_ : false = true ↔ fl ≠ none) (h : sp_mirrored fl ds Q) : T_mirrored (endsOf false Q) (startE false N_mirrored fl ds) := by
  obtain ⟨rfl, b, rfl, hb, k⟩ := h
  show T_mirrored _ [SV.dat (.str (bdS b))]
  unfold T_mirrored
  walk_at "wp"
  rw [bd_first b hb]
  walk_at "wp"
  obtain ⟨t, z⟩ := b
  cases t with
  | true =>
    rw [if_pos rfl]
    refine ⟨sizeL (by have := bd_len hb; omega), ?_⟩
    unfold bdS
    rw [if_pos rfl, cut_dash]
    exact k
  | false =>
    rw [if_neg (by simp)]
    refine ⟨sizeL (by have := bd_len hb; have : (Str.ofString "-").length = 1 := by decide +kernel
                      omega), k⟩
theorem pure_law_mirrored (fl : Option (List D)) (ds : List D) (Q : RV → Option (List D) → Prop) (hl : false = true ↔ fl ≠ none) (h : sp_law_mirrored fl ds Q) : T_law_mirrored (endsOf false Q) (startE false N_law_mirrored fl ds) := pure_mirrored fl ds Q hl h
def mirR (bs : List Bead) : List Bead := bs.reverse.map mirB
theorem mirB_nm {bs : List Bead} (h : ∀ b ∈ bs, Nm b.2) : ∀ b ∈ mirR bs, Nm b.2 := fun b hb => by
  obtain ⟨c, hc, rfl⟩ := List.mem_map.mp hb
  exact h c (List.mem_reverse.mp hc)
theorem mirR_mirR (bs : List Bead) : mirR (mirR bs) = bs := by
  unfold mirR
  rw [← List.map_reverse, List.reverse_reverse, List.map_map]
  have : mirB ∘ mirB = id := by
    funext ⟨t, z⟩
    simp [mirB]
  rw [this, List.map_id]
theorem mirR_len (bs : List Bead) : (mirR bs).length = bs.length := by simp [mirR]
theorem mirR_snd (bs : List Bead) : (mirR bs).map Prod.snd = (bs.map Prod.snd).reverse := by
  unfold mirR
  rw [List.map_map, List.map_reverse]
  rfl
/-- each item by a call that tells f of it -/
theorem map_comp {G : TG'} {TE : PE'} {vs : List Nat} {Q : List D → List SV → Prop} {α : Type} {xs : List α} {e : α → D} {f : α → D} {env : List SV}
    (hs : ∀ x ∈ xs, ∀ K : D → List SV → Prop, K (f x) env → G (e x) env fun env1 => TE env1 fun o env3 => ∃ y env4, o.fz env3 = some (y, env4) ∧ K y (wipeE env4 vs))
    (hd : Q (xs.map f) env) : pLc G tYes' TE vs Q (xs.map e) [] env := by
  refine pLc_inv (fun i acc env' => acc = (xs.take i).map f ∧ env' = env) ⟨rfl, rfl⟩ ?_ ?_
  · rintro i d hdd acc env' ⟨rfl, rfl⟩ K hK
    rw [List.getElem?_map] at hdd
    cases q : xs[i]? with
    | none => rw [q] at hdd; cases hdd
    | some x =>
      rw [q] at hdd
      cases hdd
      have := hs x (List.mem_of_getElem? q) (fun y env4 => K ((xs.take i).map f ++ [y]) env4) (hK _ _ ⟨by rw [List.take_add_one, q, List.map_append]; rfl, rfl⟩)
      simpa [tYes'] using this
  · rintro acc env' ⟨rfl, rfl⟩
    rw [List.length_map, List.take_length]
    exact hd
inductive IsThing : D → List Bead → Prop
  | set (ss : List Strand) : IsThing (.tuple (ss.map stD)) (beadsOf ss)
  | setL (ss : List Strand) : IsThing (.list (ss.map stD)) (beadsOf ss)
  | line (bs : List Bead) : IsThing (.tuple (bs.map bdD)) bs
  | lineL (bs : List Bead) : IsThing (.list (bs.map bdD)) bs
def sp_beads_in : PSp := fun fl ds Q => fl = none ∧ ∃ c bs, ds = [c] ∧ IsThing c bs ∧ bs.length ≤ 1000 ∧ Q (.fr (bs.map bdD)) none
abbrev N_beads_in : List Str := ["thing", "found", "each"]
def T_beads_in : PS' := (sSeq (sAsgF 1 (fLst (qNil)))
  (sSeq (sFor (iAny (qVar 0)) (gN 2) (sIf (qTest (qIsi .tuple (qVar 2))) (sDrop (qMO 1 gExtend (qCons (qOp gIx (qVar 2) (qC (.int 1))) qNil))) (sDrop (qMO 1 gAppend (qCons (qVar 2) qNil)))))
  (sRetS 1)))
theorem pure_beads_in (fl : Option (List D)) (ds : List D) (Q : RV → Option (List D) → Prop) (_ : false = true ↔ fl ≠ none) (h : sp_beads_in fl ds Q) : T_beads_in (endsOf false Q) (startE false N_beads_in fl ds) := by
  obtain ⟨rfl, c, bs, rfl, hc, hl, k⟩ := h
  show T_beads_in _ [SV.dat c, SV.un, SV.un]
  unfold T_beads_in
  have hset : ∀ (Dp : PEnds) (ss : List Strand), (∀ y, Dp.nx [SV.dat c, SV.own false (bs.map bdD), y]) → bs = beadsOf ss → pFor (gN 2) (sIf (qTest (qIsi .tuple (qVar 2))) (sDrop (qMO 1 gExtend (qCons (qOp gIx (qVar 2) (qC (.int 1))) qNil))) (sDrop (qMO 1 gAppend (qCons (qVar 2) qNil)))) Dp (ss.map stD) [SV.dat c, SV.own false [], SV.un] := fun Dp ss hk hbs => by
    subst hbs
    refine pFor_inv (fun i env => ∃ y, env = [SV.dat c, SV.own false ((beadsOf (ss.take i)).map bdD), y]) ⟨_, rfl⟩ ?_ ?_
    · rintro i d hd env ⟨y, rfl⟩ K hK
      rw [List.getElem?_map] at hd
      cases q : ss[i]? with
      | none => rw [q] at hd; cases hd
      | some s =>
        rw [q] at hd
        cases hd
        have e : beadsOf (ss.take (i + 1)) = beadsOf (ss.take i) ++ s.2 := by
          rw [List.take_add_one, q, beadsOf_app]
          simp [beadsOf]
        have hle : (beadsOf (ss.take i)).length + s.2.length ≤ (beadsOf ss).length := by
          have e2 : beadsOf ss = beadsOf (ss.take (i + 1)) ++ beadsOf (ss.drop (i + 1)) := by rw [← beadsOf_app, List.take_append_drop]
          rw [e2, e, List.length_append, List.length_append]
          omega
        unfold stD
        walk_at "wp"
        refine ⟨by rw [List.length_map, List.length_map, sizeLine_eq]; omega, hK _ ⟨SV.dat (stD s), ?_⟩⟩
        rw [e, List.map_append]
        rfl
    · rintro env ⟨y, rfl⟩
      rw [List.length_map, List.take_length]
      exact hk y
  have hline : ∀ (Dp : PEnds), (∀ y, Dp.nx [SV.dat c, SV.own false (bs.map bdD), y]) → pFor (gN 2) (sIf (qTest (qIsi .tuple (qVar 2))) (sDrop (qMO 1 gExtend (qCons (qOp gIx (qVar 2) (qC (.int 1))) qNil))) (sDrop (qMO 1 gAppend (qCons (qVar 2) qNil)))) Dp (bs.map bdD) [SV.dat c, SV.own false [], SV.un] := fun Dp hk => by
    refine pFor_inv (fun i env => ∃ y, env = [SV.dat c, SV.own false ((bs.take i).map bdD), y]) ⟨_, rfl⟩ ?_ ?_
    · rintro i d hd env ⟨y, rfl⟩ K hK
      rw [List.getElem?_map] at hd
      cases q : bs[i]? with
      | none => rw [q] at hd; cases hd
      | some b =>
        rw [q] at hd
        cases hd
        unfold bdD
        walk_at "wp"
        refine ⟨by rw [List.length_map, List.length_take, sizeLine_eq]; omega, hK _ ⟨SV.dat (bdD b), ?_⟩⟩
        rw [List.take_add_one, q, List.map_append]
        rfl
    · rintro env ⟨y, rfl⟩
      rw [List.length_map, List.take_length]
      exact hk y
  cases hc with
  | set ss =>
    walk_at "wp"
    exact ⟨Nat.zero_le _, hset _ ss (fun y => by walk_at "wp"; exact k) rfl⟩
  | setL ss =>
    walk_at "wp"
    exact ⟨Nat.zero_le _, hset _ ss (fun y => by walk_at "wp"; exact k) rfl⟩
  | line =>
    walk_at "wp"
    exact ⟨Nat.zero_le _, hline _ (fun y => by walk_at "wp"; exact k)⟩
  | lineL =>
    walk_at "wp"
    exact ⟨Nat.zero_le _, hline _ (fun y => by walk_at "wp"; exact k)⟩
def sp_names_in : PSp := fun fl ds Q => fl = none ∧ ∃ c bs, ds = [c] ∧ IsThing c bs ∧ bs.length ≤ 60 ∧ (∀ b ∈ bs, Nm b.2) ∧ Q (.fr ((sortS (bs.map Prod.snd)).map PyData.str)) none
abbrev N_names_in : List Str := ["thing", "bead"]
def T_names_in : PS' := (sRetF (fCB gSortD (qCons (qF (fLc (iAny (qCall sp_beads_in (qAddD (qCons (qVar 0) qNil) []))) (gN 1) tYes' (qCall sp_name_of (qAddD (qCons (qVar 1) qNil) [])) [1])) qNil)))
theorem pure_names_in (fl : Option (List D)) (ds : List D) (Q : RV → Option (List D) → Prop) (_ : false = true ↔ fl ≠ none) (h : sp_names_in fl ds Q) : T_names_in (endsOf false Q) (startE false N_names_in fl ds) := by
  obtain ⟨rfl, c, bs, rfl, hc, hl, hb, k⟩ := h
  show T_names_in _ [SV.dat c, SV.un]
  unfold T_names_in
  walk_at "wp"
  refine ⟨rfl, c, bs, rfl, hc, by omega, ?_⟩
  walk_at "wp"
  refine ⟨by rw [List.length_map]; omega, ?_⟩
  refine map_comp (f := fun b => PyData.str b.2) (fun b hb' K hK => ?_) ?_
  · walk_at "wp"
    refine ⟨rfl, b, rfl, hb b hb', ?_⟩
    walk_at "wp"
    exact hK
  · have : bs.map (fun b => PyData.str b.2) = (bs.map Prod.snd).map PyData.str := by rw [List.map_map]; rfl
    rw [this]
    walk_at "wp"
    exact k

end Sw

open PySem PySem.Spec L2 Sw
namespace Sw
theorem mem_beadsOf {ss : List Strand} {s : Strand} (h : s ∈ ss) {b : Bead} (hb : b ∈ s.2) : b ∈ beadsOf ss := List.mem_flatMap.mpr ⟨s, h, hb⟩
theorem len_beadsOf {ss : List Strand} {s : Strand} (h : s ∈ ss) : s.2.length ≤ (beadsOf ss).length := by
  obtain ⟨a, b, rfl⟩ := List.append_of_mem h
  rw [beadsOf_app, List.length_append]
  show _ ≤ _ + (s.2 ++ beadsOf b).length
  rw [List.length_append]
  omega
theorem flOk0 (ns : List Int) : FlOk (flow0 ns) := ⟨ns, 0, 0, 1, 0, rfl, by omega, by omega, by omega, by omega, by omega⟩

end Sw

open PySem PySem.Spec L2 Sw
namespace Sw
def endD (z : Str) (s : Int) : D := .tuple [.str z, .int s]
def lE (b : Bead) : D := endD b.2 (if b.1 = true then 1 else 0)
def rE (b : Bead) : D := endD b.2 (if b.1 = true then 0 else 1)
/-- what is an end -/
def IsE (d : D) : Prop := ∃ z s, d = endD z s
theorem isE_l (b : Bead) : IsE (lE b) := ⟨_, _, rfl⟩
theorem isE_r (b : Bead) : IsE (rE b) := ⟨_, _, rfl⟩
theorem alike_E {x y : D} (h : IsE x) (g : IsE y) : W.alike x y = true := by
  obtain ⟨z, s, rfl⟩ := h
  obtain ⟨w, t, rfl⟩ := g
  rfl
/-- the joint of two ends -/
def jt (x y : D) : D := .tuple (srtD [x, y])
theorem alikeE {xs : List D} (h : ∀ x ∈ xs, IsE x) : W.AllAlike xs := fun x hx y hy => alike_E (h x hx) (h y hy)
theorem jt_comm {x y : D} (h : IsE x) (g : IsE y) : jt x y = jt y x := by
  unfold jt
  rw [srtD_congr (xs := [y, x]) (ys := [x, y]) (alikeE fun z hz => ?_) (List.Perm.swap _ _ _)]
  rcases List.mem_cons.mp hz with rfl | hz
  · exact g
  · rw [List.mem_singleton.mp hz]; exact h
def b0 : Bead := (false, Str.ofString "")
def firstB (bs : List Bead) : Bead := bs.headD b0
def lastB (bs : List Bead) : Bead := bs.getLastD b0
def adjJ (bs : List Bead) : List D := List.zipWith (fun a b => jt (rE a) (lE b)) bs bs.tail
def closeJ (s : Strand) : List D := if s.1 = true then [jt (rE (lastB s.2)) (lE (firstB s.2))] else [.tuple [lE (firstB s.2)], .tuple [rE (lastB s.2)]]
def strJ (s : Strand) : List D := adjJ s.2 ++ closeJ s
def jts (ss : List Strand) : List D := ss.flatMap strJ
/-- what is a joint, as it stands in a set's joints -/
def IsJ (d : D) : Prop := ∃ es : List D, d = .tuple es ∧ (∀ e ∈ es, IsE e) ∧ es ≠ [] ∧ es.length ≤ 2
theorem isJ_one {x : D} (h : IsE x) : IsJ (.tuple [x]) := ⟨_, rfl, fun e he => by rw [List.mem_singleton.mp he]; exact h, by simp, by simp⟩
theorem alikeAll_E : ∀ {xs ys : List D}, (∀ x ∈ xs, IsE x) → (∀ y ∈ ys, IsE y) → W.alikeAll xs ys = true
  | [], _, _, _ => by simp [W.alikeAll]
  | _ :: _, [], _, _ => by simp [W.alikeAll]
  | x :: xs, y :: ys, h, g => by
    simp only [W.alikeAll, Bool.and_eq_true]
    exact ⟨alike_E (h x List.mem_cons_self) (g y List.mem_cons_self), alikeAll_E (fun z hz => h z (List.mem_cons_of_mem _ hz)) fun z hz => g z (List.mem_cons_of_mem _ hz)⟩
theorem alike_J {x y : D} (h : IsJ x) (g : IsJ y) : W.alike x y = true := by
  obtain ⟨a, rfl, ha, _⟩ := h
  obtain ⟨b, rfl, hb, _⟩ := g
  simp only [W.alike]
  exact alikeAll_E ha hb
theorem allAlikeJ {xs : List D} (h : ∀ x ∈ xs, IsJ x) : W.AllAlike xs := fun x hx y hy => alike_J (h x hx) (h y hy)
theorem jts_snoc (ss : List Strand) (s : Strand) : jts (ss ++ [s]) = jts ss ++ strJ s := by
  unfold jts
  rw [List.flatMap_append]
  simp
def GoodS (ss : List Strand) : Prop := (∀ s ∈ ss, s.2 ≠ []) ∧ (beadsOf ss).length ≤ 1000 ∧ ∀ b ∈ beadsOf ss, Nm b.2
theorem GoodS.nm {ss : List Strand} (h : GoodS ss) {s : Strand} (hs : s ∈ ss) : ∀ b ∈ s.2, Nm b.2 := fun b hb => h.2.2 b (mem_beadsOf hs hb)
theorem GoodS.len {ss : List Strand} (h : GoodS ss) {s : Strand} (hs : s ∈ ss) : s.2.length ≤ 1000 := by
  have := len_beadsOf hs
  have := h.2.1
  omega
end Sw

open PySem PySem.Spec L2 Sw
namespace Sw
theorem cutD_drop {ds : List D} {n : Nat} (h : n ≤ ds.length) : cutD ds (some (n : Int)) none = ds.drop n := by
  unfold cutD
  rw [HT.sIx_none, HT.sIx_nat, Nat.min_eq_left h]
  refine List.take_of_length_le ?_
  rw [List.length_drop]
  exact Nat.le_refl _
theorem cutD_take {ds : List D} {n : Nat} (h : n ≤ ds.length) : cutD ds none (some (n : Int)) = ds.take n := by
  unfold cutD
  rw [HT.sIx_none, HT.sIx_nat, Nat.min_eq_left h]
  show (ds.drop 0).take (n - 0) = _
  rw [List.drop_zero, Nat.sub_zero]
theorem perm_of_map {α : Type} {f : α → D} {ys : List D} {xs : List α} (h : ys.Perm (xs.map f)) : ∃ zs : List α, ys = zs.map f ∧ zs.Perm xs := by
  have key : ∀ (l m : List D), l.Perm m → ∀ ns : List α, m = ns.map f → ∃ ms : List α, l = ms.map f ∧ ms.Perm ns := by
    intro l m h
    induction h with
    | nil => intro ns e; exact ⟨[], rfl, by cases ns with | nil => exact List.Perm.refl _ | cons => cases e⟩
    | cons x h ih =>
      intro ns e
      cases ns with
      | nil => cases e
      | cons n r =>
        injection e with e1 e2
        obtain ⟨ms, rfl, hp⟩ := ih r e2
        exact ⟨n :: ms, by rw [List.map_cons, e1], hp.cons n⟩
    | swap x y l =>
      intro ns e
      cases ns with
      | nil => cases e
      | cons n r =>
        cases r with
        | nil => injection e with e1 e2; cases e2
        | cons m r =>
          injection e with e1 e2
          injection e2 with e2 e3
          exact ⟨m :: n :: r, by rw [List.map_cons, List.map_cons, e1, e2, e3], List.Perm.swap _ _ _⟩
    | trans h1 h2 ih1 ih2 =>
      intro ns e
      obtain ⟨ms, e1, p1⟩ := ih2 ns e
      obtain ⟨ks, e2, p2⟩ := ih1 ms e1
      exact ⟨ks, e2, p2.trans p1⟩
  exact key _ _ h xs rfl
end Sw

open PySem PySem.Spec L2 Sw
namespace Sw

end Sw

open PySem PySem.Spec L2 Sw
namespace Sw
inductive All2 {α β : Type} (R : α → β → Prop) : List α → List β → Prop
  | nil : All2 R [] []
  | cons {a : α} {b : β} {as : List α} {bs : List β} : R a b → All2 R as bs → All2 R (a :: as) (b :: bs)
structure Rst (s t : Strand) : Prop where
  kind : t.1 = s.1
  beads : ∃ r, (r = s.2 ∨ (s.1 = true ∧ ∃ n, n ≤ s.2.length ∧ r = s.2.drop n ++ s.2.take n)) ∧ (t.2 = r ∨ t.2 = mirR r)
theorem adjJ_cons (a b : Bead) (r : List Bead) : adjJ (a :: b :: r) = jt (rE a) (lE b) :: adjJ (b :: r) := rfl
theorem first_app {A B : List Bead} (h : A ≠ []) : firstB (A ++ B) = firstB A := by
  cases A with
  | nil => exact absurd rfl h
  | cons a r => rfl
theorem last_app {A B : List Bead} (h : B ≠ []) : lastB (A ++ B) = lastB B := by
  unfold lastB
  rw [List.getLastD_eq_getLast?, List.getLastD_eq_getLast?, List.getLast?_append, List.getLast?_eq_some_getLast h]
  rfl
theorem last_cons {a : Bead} {r : List Bead} (h : r ≠ []) : lastB (a :: r) = lastB r := last_app (A := [a]) h
theorem adjJ_app : ∀ {A B : List Bead}, A ≠ [] → B ≠ [] → adjJ (A ++ B) = adjJ A ++ jt (rE (lastB A)) (lE (firstB B)) :: adjJ B
  | [], _, h, _ => absurd rfl h
  | [a], [], _, h => absurd rfl h
  | [a], b :: r, _, _ => rfl
  | a :: b :: r, B, _, h => by
    have ih := adjJ_app (A := b :: r) (B := B) (by simp) h
    show jt (rE a) (lE b) :: adjJ ((b :: r) ++ B) = _
    rw [ih, last_cons (a := a) (r := b :: r) (by simp)]
    rfl
theorem mirR_ne {bs : List Bead} (h : bs ≠ []) : mirR bs ≠ [] := fun e => h (by have := congrArg List.length e; rw [mirR_len] at this; exact List.eq_nil_of_length_eq_zero this)
theorem mirR_cons (a : Bead) (r : List Bead) : mirR (a :: r) = mirR r ++ [mirB a] := by simp [mirR]
theorem last_mir {bs : List Bead} (h : bs ≠ []) : lastB (mirR bs) = mirB (firstB bs) := by
  cases bs with
  | nil => exact absurd rfl h
  | cons a r =>
    rw [mirR_cons, last_app (by simp)]
    rfl
theorem first_mir : ∀ {bs : List Bead}, bs ≠ [] → firstB (mirR bs) = mirB (lastB bs)
  | [], h => absurd rfl h
  | [a], _ => rfl
  | a :: b :: r, _ => by
    rw [mirR_cons, first_app (mirR_ne (by simp)), first_mir (bs := b :: r) (by simp), last_cons (a := a) (r := b :: r) (by simp)]
theorem lE_mir (b : Bead) : lE (mirB b) = rE b := by
  obtain ⟨t, z⟩ := b
  cases t <;> rfl
theorem rE_mir (b : Bead) : rE (mirB b) = lE b := by
  obtain ⟨t, z⟩ := b
  cases t <;> rfl
theorem adjJ_mir : ∀ bs : List Bead, adjJ (mirR bs) = (adjJ bs).reverse
  | [] => rfl
  | [a] => rfl
  | a :: b :: r => by
    have ih := adjJ_mir (b :: r)
    rw [mirR_cons, adjJ_app (mirR_ne (by simp)) (by simp), ih, last_mir (by simp), adjJ_cons, List.reverse_cons]
    show _ ++ jt (rE (mirB b)) (lE (mirB a)) :: [] = _
    rw [rE_mir, lE_mir, jt_comm (isE_l b) (isE_r a)]
theorem strJ_mir {s : Strand} (h : s.2 ≠ []) : (strJ (s.1, mirR s.2)).Perm (strJ s) := by
  unfold strJ
  rw [adjJ_mir]
  refine List.Perm.append (List.reverse_perm _) ?_
  unfold closeJ
  show List.Perm (if s.1 = true then [jt (rE (lastB (mirR s.2))) (lE (firstB (mirR s.2)))] else [.tuple [lE (firstB (mirR s.2))], .tuple [rE (lastB (mirR s.2))]]) _
  rw [last_mir h, first_mir h, rE_mir, lE_mir, jt_comm (isE_l _) (isE_r _)]
  split
  · exact List.Perm.refl _
  · exact List.Perm.swap _ _ _
theorem strJ_rot {A B : List Bead} : (strJ (true, B ++ A)).Perm (strJ (true, A ++ B)) := by
  by_cases ha : A = []
  · subst ha
    rw [List.append_nil, List.nil_append]
  by_cases hb : B = []
  · subst hb
    rw [List.append_nil, List.nil_append]
  show List.Perm (adjJ (B ++ A) ++ [jt (rE (lastB (B ++ A))) (lE (firstB (B ++ A)))]) (adjJ (A ++ B) ++ [jt (rE (lastB (A ++ B))) (lE (firstB (A ++ B)))])
  rw [adjJ_app hb ha, adjJ_app ha hb, last_app ha, last_app hb, first_app ha, first_app hb]
  have e1 : ∀ (x y : D) (P Q : List D), (P ++ x :: Q ++ [y]) = (P ++ [x]) ++ (Q ++ [y]) := fun x y P Q => by simp
  rw [e1, e1]
  exact List.perm_append_comm
theorem Rst.perm {s t : Strand} (h : Rst s t) (hs : s.2 ≠ []) : (strJ t).Perm (strJ s) ∧ (t.2.map Prod.snd).Perm (s.2.map Prod.snd) := by
  obtain ⟨hk, r, hr, ht⟩ := h
  obtain ⟨k, bs⟩ := s
  obtain ⟨k2, cs⟩ := t
  have hk : k2 = k := hk
  subst hk
  have h1 : (strJ (k2, r)).Perm (strJ (k2, bs)) ∧ (r.map Prod.snd).Perm (bs.map Prod.snd) ∧ r ≠ [] := by
    rcases hr with rfl | ⟨hk, n, hn, rfl⟩
    · exact ⟨List.Perm.refl _, List.Perm.refl _, hs⟩
    · have hk : k2 = true := hk
      subst hk
      refine ⟨?_, ?_, fun e => hs ?_⟩
      · have := strJ_rot (A := bs.take n) (B := bs.drop n)
        rw [List.take_append_drop] at this
        exact this
      · refine List.Perm.map _ ?_
        have := List.perm_append_comm (l₁ := bs.drop n) (l₂ := bs.take n)
        rw [List.take_append_drop] at this
        exact this
      · have e : bs.drop n ++ bs.take n = [] := e
        have hn : n ≤ bs.length := hn
        have := congrArg List.length e
        rw [List.length_append, List.length_drop, List.length_take, List.length_nil] at this
        exact List.eq_nil_of_length_eq_zero (show bs.length = 0 by omega)
  have ht : cs = r ∨ cs = mirR r := ht
  rcases ht with rfl | rfl
  · exact ⟨h1.1, h1.2.1⟩
  · refine ⟨(strJ_mir (s := (k2, r)) h1.2.2).trans h1.1, ?_⟩
    show (List.map Prod.snd (mirR r)).Perm _
    rw [mirR_snd]
    exact (List.reverse_perm _).trans h1.2.1
theorem All2.len {α β : Type} {R : α → β → Prop} : ∀ {as : List α} {bs : List β}, All2 R as bs → as.length = bs.length
  | _, _, .nil => rfl
  | _, _, .cons _ r => by rw [List.length_cons, List.length_cons, r.len]
theorem All2.snoc {α β : Type} {R : α → β → Prop} {a : α} {b : β} (h : R a b) : ∀ {as : List α} {bs : List β}, All2 R as bs → All2 R (as ++ [a]) (bs ++ [b])
  | _, _, .nil => .cons h .nil
  | _, _, .cons x r => .cons x (r.snoc h)
end Sw

open PySem PySem.Spec L2 Sw
local macro_rules | `(tactic| walk_at "wy") => `(tactic| simp only [sSetAll, fListRg1, fListRg2, iRevL, iRg2, gReverse_0, gAbs_1, qLenS, qIxS, fCallS, fCallR, sSeq, sIf, sNil, sPass, sBreak, sCont, sRet, sRetF, sRetS, sDrop, sAsg, sAsgF, sSetIx, sAsgG, sFor, sRaise, sAsgD, sPutD, sFrzD, qDIn, qDGet, qDGetO, iKeysD, OV.dic, ex_pr, ex_pr0, ex_dic, ex_dic0, ex_kds, keyO_some, gListDic_1, gClear_0, qDisp1, qChain, qRest, tAnd', tOr', tNot', qTest, qAnd, qOr, qNot, qOp, qVar, qC, qF, qSl, qPn, qPs, qTup, fLst, qCB, fCB, qIsi, qJoin, fOp, qCons, qNil, qMO, qMO0, qAddD, qCall, qCallL, fCall, fCallL, qCallV, ex_dt, ex_fr, ex_frL, atom_b, atom_i, atom_s, atom_n, ex_tupv, ex_consv, eq_self, fLc, fLcR, restE, NoOwn, nob_d, nob_u, List.getD_cons_zero, List.getD_cons_succ, wipeE, iAny, iRg1, iRg2, iEnu, gN, gT, gsC, gsN, tYes', endsOf, LentE,
  svD, Ct.toD, OV.rd, OV.fz, rdAll, fzAll, bindS, mapS, ex_some, ex_fz, ex_fzs, ex_own, ex_own0, ex_ownF, ex_bool, ex_int, ex_lst, ex_strv, ex_svd, ex_svo, ex_if, ex_ifb, ex_som0, ex_fl, ex_flN, ex_ifp, true_and, and_true,
  List.getElem?_cons_zero, List.getElem?_cons_succ, List.set_cons_zero, List.set_cons_succ, List.length_cons, List.length_nil, List.append_nil, List.nil_append, List.cons_append, List.map_nil, List.map_cons, List.length_set,
  atI_lit, ixN_lit, gI_ii, gAdd_ii, gAdd_ss, gAdd_ll, gAdd_tt, gMul_ii, gMul_si, gLt_ii, gLt_ss, gIx_li, gIx_ti, gIx_si, gLen_l, gLen_t, gLen_s, gListF_l, gListF_t, gTuple_l, gTuple_t, gCatF_ll, gEq_ii, gNe_ii, gEq_ss, gNe_ss, gEq_bb, gNe_bb, gSl_l, gSl_t, gSl_s, gIsN_n, gNotN_n, gIsN_b, gIsN_i, gIsN_s, gIsN_l, gIsN_t, gIsN_d, ne_eq, not_true_eq_false, not_false_eq_true, gAppend_1, gExtend_l, gExtend_t, gRev_l, gRev_t, qRevA, RV.toD, seqOf_l, seqOf_t, itemsOf_l, itemsOf_t, itemsOf_s, gSortD_s, gIsB_bb, gNotB_bb, qNeg, qVM, fVM, fSortK, gJoin_s, gAll_b, gAny_b, gPopAt_1, isi_str, isi_int, isi_bool, isi_list, isi_tuple, isi_none, dSub, gDiv, gMod, gPow, gCmp,
  Bool.not_true, Bool.not_false, if_true, if_false, ite_true, ite_false, reduceIte, decide_eq_true_eq, beq_iff_eq, Bool.not_eq_true', beq_eq_false_iff_ne, Bool.false_eq_true, Nat.reduceLT, Nat.reduceAdd, Nat.reduceLeDiff, Nat.lt_add_one, Nat.zero_lt_succ, Nat.not_lt_zero])
namespace Sw

end Sw

open PySem PySem.Spec L2 Sw
namespace Sw
def Rot (c d : List Bead) : Prop := ∃ A B, c = A ++ B ∧ d = B ++ A
theorem Rot.refl (c : List Bead) : Rot c c := ⟨[], c, rfl, by simp⟩
theorem Rot.symm {c d : List Bead} (h : Rot c d) : Rot d c := by
  obtain ⟨A, B, rfl, rfl⟩ := h
  exact ⟨B, A, rfl, rfl⟩
theorem Rot.trans {c d e : List Bead} (h : Rot c d) (g : Rot d e) : Rot c e := by
  obtain ⟨A, B, rfl, rfl⟩ := h
  obtain ⟨C, D, h1, rfl⟩ := g
  rcases List.append_eq_append_iff.mp h1 with ⟨E, rfl, rfl⟩ | ⟨E, rfl, rfl⟩
  · exact ⟨E, D ++ B, by simp, by simp⟩
  · exact ⟨A ++ C, E, by simp, by simp⟩
theorem mirR_app (A B : List Bead) : mirR (A ++ B) = mirR B ++ mirR A := by simp [mirR]
theorem Rot.mir {c d : List Bead} (h : Rot c d) : Rot (mirR c) (mirR d) := by
  obtain ⟨A, B, rfl, rfl⟩ := h
  exact ⟨mirR B, mirR A, mirR_app A B, mirR_app B A⟩
theorem Rot.perm {c d : List Bead} (h : Rot c d) : d.Perm c := by
  obtain ⟨A, B, rfl, rfl⟩ := h
  exact List.perm_append_comm
theorem Rot.of_take (c : List Bead) (n : Nat) : Rot c (c.drop n ++ c.take n) := ⟨c.take n, c.drop n, (List.take_append_drop n c).symm, rfl⟩
/-- the same ring -/
def Cyc (c d : List Bead) : Prop := Rot c d ∨ Rot (mirR c) d
theorem Cyc.refl (c : List Bead) : Cyc c c := .inl (Rot.refl c)
theorem Cyc.symm {c d : List Bead} (h : Cyc c d) : Cyc d c := by
  rcases h with h | h
  · exact .inl h.symm
  · have := h.mir.symm
    rw [mirR_mirR] at this
    exact .inr this
theorem Cyc.trans {c d e : List Bead} (h : Cyc c d) (g : Cyc d e) : Cyc c e := by
  rcases h with h | h
  · rcases g with g | g
    · exact .inl (h.trans g)
    · exact .inr (h.mir.trans g)
  · rcases g with g | g
    · exact .inr (h.trans g)
    · have := h.mir.trans g
      rw [mirR_mirR] at this
      exact .inl this
theorem Cyc.names {c d : List Bead} (h : Cyc c d) : (d.map Prod.snd).Perm (c.map Prod.snd) := by
  rcases h with h | h
  · exact h.perm.map _
  · refine (h.perm.map _).trans ?_
    rw [mirR_snd]
    exact List.reverse_perm _
end Sw

open PySem PySem.Spec L2 Sw
namespace Sw

end Sw

open PySem PySem.Spec L2 Sw
namespace Sw
structure EqS (s t : Strand) : Prop where
  kind : t.1 = s.1
  op : s.1 = false → t.2 = s.2 ∨ t.2 = mirR s.2
  ri : s.1 = true → Cyc s.2 t.2
theorem EqS.refl (s : Strand) : EqS s s := ⟨rfl, fun _ => .inl rfl, fun _ => Cyc.refl _⟩
theorem EqS.symm {s t : Strand} (h : EqS s t) : EqS t s := by
  refine ⟨h.kind.symm, fun e => ?_, fun e => (h.ri (h.kind ▸ e)).symm⟩
  rcases h.op (h.kind ▸ e) with q | q
  · exact .inl q.symm
  · refine .inr ?_
    rw [q, mirR_mirR]
theorem EqS.trans {s t u : Strand} (h : EqS s t) (g : EqS t u) : EqS s u := by
  refine ⟨g.kind.trans h.kind, fun e => ?_, fun e => (h.ri e).trans (g.ri (h.kind.trans e))⟩
  rcases h.op e with q | q
  · rcases g.op (h.kind.trans e) with r | r
    · exact .inl (r.trans q)
    · exact .inr (by rw [r, q])
  · rcases g.op (h.kind.trans e) with r | r
    · exact .inr (r.trans q)
    · exact .inl (by rw [r, q, mirR_mirR])
theorem Rst.eqs {s t : Strand} (h : Rst s t) : EqS s t := by
  obtain ⟨hk, r, hr, ht⟩ := h
  refine ⟨hk, fun e => ?_, fun e => ?_⟩
  · rcases hr with rfl | ⟨h1, _⟩
    · exact ht
    · rw [e] at h1; cases h1
  · have h1 : Rot s.2 r := by
      rcases hr with rfl | ⟨_, n, _, rfl⟩
      · exact Rot.refl _
      · exact Rot.of_take _ n
    rcases ht with q | q
    · rw [q]; exact .inl h1
    · rw [q]; exact .inr h1.mir
def Equ (ss ts : List Strand) : Prop := ∃ us, us.Perm ss ∧ All2 EqS us ts
theorem All2.mono {α β : Type} {R S : α → β → Prop} (h : ∀ a b, R a b → S a b) : ∀ {as : List α} {bs : List β}, All2 R as bs → All2 S as bs
  | _, _, .nil => .nil
  | _, _, .cons a r => .cons (h _ _ a) (r.mono h)
theorem All2.flip {α β : Type} {R : α → β → Prop} : ∀ {as : List α} {bs : List β}, All2 R as bs → All2 (fun b a => R a b) bs as
  | _, _, .nil => .nil
  | _, _, .cons a r => .cons a r.flip
theorem All2.comp {α β γ : Type} {R : α → β → Prop} {S : β → γ → Prop} {T : α → γ → Prop} (h : ∀ a b c, R a b → S b c → T a c) : ∀ {as : List α} {bs : List β} {cs : List γ}, All2 R as bs → All2 S bs cs → All2 T as cs
  | _, _, _, .nil, .nil => .nil
  | _, _, _, .cons a r, .cons b q => .cons (h _ _ _ a b) (r.comp h q)
theorem All2.app {α β : Type} {R : α → β → Prop} : ∀ {as as' : List α} {bs bs' : List β}, All2 R as bs → All2 R as' bs' → All2 R (as ++ as') (bs ++ bs')
  | _, _, _, _, .nil, q => q
  | _, _, _, _, .cons a r, q => .cons a (r.app q)
/-- the second row may be put in any order -/
theorem All2.perm {α β : Type} {R : α → β → Prop} {bs cs : List β} (p : bs.Perm cs) : ∀ {as : List α}, All2 R as bs → ∃ ds, ds.Perm as ∧ All2 R ds cs := by
  induction p with
  | nil => intro as h; exact ⟨as, List.Perm.refl _, h⟩
  | cons x p ih =>
    intro as h
    cases h with
    | cons a r =>
      obtain ⟨ds, h1, h2⟩ := ih r
      exact ⟨_ :: ds, h1.cons _, .cons a h2⟩
  | swap x y l =>
    intro as h
    cases h with
    | cons a r =>
      cases r with
      | cons b r => exact ⟨_ :: _ :: _, List.Perm.swap _ _ _, .cons b (.cons a r)⟩
  | trans p q ih1 ih2 =>
    intro as h
    obtain ⟨ds, h1, h2⟩ := ih1 h
    obtain ⟨es, h3, h4⟩ := ih2 h2
    exact ⟨es, h3.trans h1, h4⟩
theorem Equ.refl (ss : List Strand) : Equ ss ss := by
  refine ⟨ss, List.Perm.refl _, ?_⟩
  induction ss with
  | nil => exact .nil
  | cons s r ih => exact .cons (EqS.refl s) ih
theorem Equ.symm {ss ts : List Strand} (h : Equ ss ts) : Equ ts ss := by
  obtain ⟨us, p, h⟩ := h
  exact (h.flip.mono fun _ _ q => EqS.symm q).perm p
theorem Equ.trans {ss ts vs : List Strand} (h : Equ ss ts) (g : Equ ts vs) : Equ ss vs := by
  obtain ⟨us, p, h⟩ := h
  obtain ⟨ws, q, g⟩ := g
  obtain ⟨xs, h1, h2⟩ := h.perm q.symm
  exact ⟨xs, h1.trans p, All2.comp (R := EqS) (S := EqS) (T := EqS) (fun _ _ _ a b => a.trans b) h2 g⟩
theorem rot_rst {b : Bool} {c d : List Bead} (h : Rot c d) : Rst (true, c) (true, d) := by
  obtain ⟨A, B, rfl, rfl⟩ := h
  refine ⟨rfl, B ++ A, .inr ⟨rfl, A.length, ?_, ?_⟩, .inl rfl⟩
  · show A.length ≤ (A ++ B).length
    rw [List.length_append]; omega
  · show B ++ A = (A ++ B).drop A.length ++ (A ++ B).take A.length
    rw [List.drop_left, List.take_left]
theorem EqS.perm {s t : Strand} (h : EqS s t) (hs : s.2 ≠ []) : (strJ t).Perm (strJ s) ∧ (t.2.map Prod.snd).Perm (s.2.map Prod.snd) := by
  obtain ⟨k, bs⟩ := s
  obtain ⟨k2, cs⟩ := t
  have hk : k2 = k := h.kind
  subst hk
  cases k2 with
  | false => exact Rst.perm ⟨rfl, bs, .inl rfl, h.op rfl⟩ hs
  | true =>
    rcases h.ri rfl with q | q
    · exact (rot_rst (b := true) q).perm hs
    · have h1 := (rot_rst (b := true) q).perm (mirR_ne hs)
      have h2 : (strJ (true, mirR bs)).Perm (strJ (true, bs)) := strJ_mir (s := (true, bs)) hs
      refine ⟨h1.1.trans h2, h1.2.trans ?_⟩
      show ((mirR bs).map Prod.snd).Perm (bs.map Prod.snd)
      rw [mirR_snd]
      exact List.reverse_perm _
end Sw

open PySem PySem.Spec L2 Sw
namespace Sw

end Sw

open PySem PySem.Spec L2 Sw
namespace Sw

end Sw

open PySem PySem.Spec L2 Sw
namespace Sw

end Sw

open PySem PySem.Spec L2 Sw
namespace Sw

end Sw

open PySem PySem.Spec L2 Sw
namespace Sw

end Sw

open PySem PySem.Spec L2 Sw
namespace Sw

end Sw

open PySem PySem.Spec L2 Sw
namespace Sw
def tupE : D → List D
  | .tuple es => es
  | _ => []
def lr (b : Bead) : List D := [lE b, rE b]
theorem adj_ends : ∀ {bs : List Bead}, bs ≠ [] → (lE (firstB bs) :: ((adjJ bs).flatMap tupE ++ [rE (lastB bs)])).Perm (bs.flatMap lr)
  | [], h => absurd rfl h
  | [a], _ => List.Perm.refl _
  | a :: b :: r, _ => by
    have ih := adj_ends (bs := b :: r) (by simp)
    rw [adjJ_cons, last_cons (a := a) (r := b :: r) (by simp)]
    show (lE a :: (tupE (jt (rE a) (lE b)) ++ (adjJ (b :: r)).flatMap tupE ++ [rE (lastB (b :: r))])).Perm (lE a :: rE a :: (b :: r).flatMap lr)
    refine List.Perm.cons _ ?_
    have h1 : (tupE (jt (rE a) (lE b))).Perm [rE a, lE b] := srtD_perm _
    rw [List.append_assoc]
    exact (h1.append_right _).trans (ih.cons _)
theorem str_ends {s : Strand} (h : s.2 ≠ []) : ((strJ s).flatMap tupE).Perm (s.2.flatMap lr) := by
  refine List.Perm.trans ?_ (adj_ends h)
  unfold strJ
  rw [List.flatMap_append]
  have hc : ((closeJ s).flatMap tupE).Perm ([rE (lastB s.2)] ++ [lE (firstB s.2)]) := by
    unfold closeJ
    split
    · have h1 : (tupE (jt (rE (lastB s.2)) (lE (firstB s.2)))).Perm [rE (lastB s.2), lE (firstB s.2)] := srtD_perm _
      simpa using h1
    · exact List.Perm.swap _ _ _
  refine (hc.append_left _).trans ?_
  rw [← List.append_assoc]
  exact List.perm_append_comm
theorem jts_ends : ∀ {ss : List Strand}, (∀ s ∈ ss, s.2 ≠ []) → ((jts ss).flatMap tupE).Perm ((beadsOf ss).flatMap lr)
  | [], _ => List.Perm.refl _
  | s :: r, h => by
    show ((strJ s ++ jts r).flatMap tupE).Perm ((s.2 ++ beadsOf r).flatMap lr)
    rw [List.flatMap_append, List.flatMap_append]
    exact (str_ends (h s List.mem_cons_self)).append (jts_ends fun x hx => h x (List.mem_cons_of_mem _ hx))
theorem two_maps {α : Type} {f g : α → D} : ∀ xs : List α, (xs.flatMap fun x => [f x, g x]).Perm (xs.map f ++ xs.map g)
  | [] => List.Perm.refl _
  | x :: r => by
    show (f x :: g x :: r.flatMap fun x => [f x, g x]).Perm (f x :: (r.map f ++ g x :: r.map g))
    refine List.Perm.cons _ ?_
    refine ((two_maps r).cons _).trans ?_
    exact List.perm_middle.symm
theorem lr_ends : ∀ bs : List Bead, (bs.flatMap lr).Perm ((bs.map Prod.snd).flatMap fun z => [endD z 0, endD z 1])
  | [] => List.Perm.refl _
  | (t, z) :: r => by
    have ih := lr_ends r
    show (lr (t, z) ++ r.flatMap lr).Perm ([endD z 0, endD z 1] ++ _)
    refine List.Perm.append ?_ ih
    cases t with
    | false => exact List.Perm.refl _
    | true => exact List.Perm.swap _ _ _
theorem uniq_flat {f : D → List D} : ∀ {js : List D}, (js.flatMap f).Nodup → ∀ {i j : D}, i ∈ js → j ∈ js → ∀ {e : D}, e ∈ f i → e ∈ f j → i = j
  | [], _, _, _, h, _, _, _, _ => nomatch h
  | x :: r, h, i, j, hi, hj, e, h1, h2 => by
    have h : (f x ++ r.flatMap f).Nodup := h
    obtain ⟨_, h3, h4⟩ := List.nodup_append.mp h
    rcases List.mem_cons.mp hi with a | a
    · rcases List.mem_cons.mp hj with b | b
      · rw [a, b]
      · exfalso
        rw [a] at h1
        exact h4 e h1 e (List.mem_flatMap.mpr ⟨j, b, h2⟩) rfl
    · rcases List.mem_cons.mp hj with b | b
      · exfalso
        rw [b] at h2
        exact h4 e h2 e (List.mem_flatMap.mpr ⟨i, a, h1⟩) rfl
      · exact uniq_flat h3 a b h1 h2
theorem nodup_map_inj {α β : Type} {f : α → β} (hf : ∀ a b, f a = f b → a = b) : ∀ {xs : List α}, xs.Nodup → (xs.map f).Nodup
  | [], _ => List.nodup_nil
  | x :: r, h => by
    obtain ⟨h1, h2⟩ := List.nodup_cons.mp h
    rw [List.map_cons, List.nodup_cons]
    refine ⟨fun hm => ?_, nodup_map_inj hf h2⟩
    obtain ⟨y, hy, e⟩ := List.mem_map.mp hm
    exact h1 (hf _ _ e ▸ hy)
theorem endD_inj {z w : Str} {s t : Int} (h : endD z s = endD w t) : z = w ∧ s = t := by
  unfold endD at h
  injection h with h
  injection h with h1 h
  injection h1 with h1
  injection h with h2 _
  injection h2 with h2
  exact ⟨h1, h2⟩
theorem ends_nodup {ns : List Str} (h : ns.Nodup) : (ns.map (fun z => endD z 0) ++ ns.map fun z => endD z 1).Nodup := by
  refine List.nodup_append.mpr ⟨nodup_map_inj (fun a b e => (endD_inj e).1) h, nodup_map_inj (fun a b e => (endD_inj e).1) h, fun a ha b hb e => ?_⟩
  obtain ⟨z, _, rfl⟩ := List.mem_map.mp ha
  obtain ⟨w, _, rfl⟩ := List.mem_map.mp hb
  have := (endD_inj e).2
  omega
theorem all_ends' {ss : List Strand} {ns : List Str} (h : ∀ s ∈ ss, s.2 ≠ []) (p : ((beadsOf ss).map Prod.snd).Perm ns) : ((jts ss).flatMap tupE).Perm (ns.map (fun z => endD z 0) ++ ns.map fun z => endD z 1) :=
  (jts_ends h).trans ((lr_ends _).trans ((p.flatMap_right _).trans (two_maps ns)))
/-- two joints with one end are one -/
structure JN (J : D → Prop) : Prop where
  uniq : ∀ {i j e : D}, J i → J j → e ∈ tupE i → e ∈ tupE j → i = j
theorem mem_jt {x y : D} : x ∈ tupE (jt x y) ∧ y ∈ tupE (jt x y) := by
  have h : (tupE (jt x y)).Perm [x, y] := srtD_perm _
  exact ⟨h.mem_iff.mpr List.mem_cons_self, h.mem_iff.mpr (List.mem_cons_of_mem _ List.mem_cons_self)⟩
end Sw

open PySem PySem.Spec L2 Sw
namespace Sw

end Sw

open PySem PySem.Spec L2 Sw
namespace Sw
/-- texts, numbers, and tuples and lists of such, n deep -/
def Hn : Nat → D → Prop
  | _, .str _ => True
  | _, .int _ => True
  | n + 1, .tuple ds => ∀ d ∈ ds, Hn n d
  | n + 1, .list ds => ∀ d ∈ ds, Hn n d
  | _, _ => False
theorem eqvAll_of {n : Nat} (ih : ∀ a b, Hn n a → Hn n b → (PyData.eqv a b = true ↔ a = b)) : ∀ (xs ys : List D), (∀ d ∈ xs, Hn n d) → (∀ d ∈ ys, Hn n d) → (PyData.eqvAll xs ys = true ↔ xs = ys)
  | [], [], _, _ => by simp [PyData.eqvAll]
  | [], _ :: _, _, _ => by simp [PyData.eqvAll]
  | _ :: _, [], _, _ => by simp [PyData.eqvAll]
  | x :: xs, y :: ys, h, h' => by
    rw [PyData.eqvAll, Bool.and_eq_true, ih x y (h x List.mem_cons_self) (h' y List.mem_cons_self), eqvAll_of ih xs ys (fun d hd => h d (List.mem_cons_of_mem _ hd)) fun d hd => h' d (List.mem_cons_of_mem _ hd)]
    simp
theorem eqv_hn : ∀ (n : Nat) (a b : D), Hn n a → Hn n b → (PyData.eqv a b = true ↔ a = b) := fun n => by
  induction n with
  | zero =>
    intro a b ha hb
    cases a <;> first
      | exact ha.elim
      | (cases b <;> first
          | exact hb.elim
          | simp [PyData.eqv])
  | succ n ih =>
    intro a b ha hb
    cases a <;> first
      | exact ha.elim
      | (cases b <;> first
          | exact hb.elim
          | (rw [PyData.eqv, eqvAll_of ih _ _ ha hb]; simp; done)
          | simp [PyData.eqv])
theorem plain_all {n : Nat} : ∀ ys : List D, (∀ d ∈ ys, d.plain = true ∧ d.depth ≤ n) → PyData.plainAll ys = true ∧ PyData.depthAll ys ≤ n
  | [], _ => ⟨rfl, Nat.zero_le _⟩
  | y :: r, g => by
    obtain ⟨a, b⟩ := plain_all r fun d hd => g d (List.mem_cons_of_mem _ hd)
    obtain ⟨c, e⟩ := g y List.mem_cons_self
    refine ⟨by rw [PyData.plainAll, c, a]; rfl, ?_⟩
    rw [PyData.depthAll]
    omega
theorem Hn.plainD : ∀ (n : Nat) (d : D), Hn n d → d.plain = true ∧ d.depth ≤ n := fun n => by
  induction n with
  | zero => intro d h; cases d <;> first | exact h.elim | exact ⟨rfl, by simp [PyData.depth]⟩
  | succ n ih =>
    intro d h
    cases d <;> first
      | exact h.elim
      | exact ⟨rfl, by simp [PyData.depth]⟩
      | (obtain ⟨a, b⟩ := plain_all _ fun d hd => ih d (h d hd)
         refine ⟨a, ?_⟩
         rw [PyData.depth]
         omega)
theorem Hn.okD {n : Nat} {d : D} (h : Hn n d) (hn : n ≤ 39) : okD d = true := okD_of ⟨(Hn.plainD n d h).1, Nat.le_trans (Hn.plainD n d h).2 hn⟩
theorem gEq_hn {n : Nat} {a b : D} (neg : Bool) (ha : Hn n a) (hb : Hn n b) (hn : n ≤ 39) : gEq neg a b = some (.bool (if neg = true then !PyData.eqv a b else PyData.eqv a b)) := by
  unfold gEq
  rw [if_pos ⟨ha.okD hn, hb.okD hn⟩]
theorem ne_hn {n : Nat} {a b : D} {P : D → Prop} (ha : Hn n a) (hb : Hn n b) (hn : n ≤ 39) (h1 : a = b → P (.bool false)) (h2 : a ≠ b → P (.bool true)) : ∃ d, gEq true a b = some d ∧ P d := by
  refine ⟨_, gEq_hn true ha hb hn, ?_⟩
  rw [if_pos rfl]
  by_cases e : a = b
  · rw [(eqv_hn n a b ha hb).mpr e]; exact h1 e
  · have : PyData.eqv a b = false := by rw [← Bool.not_eq_true, eqv_hn n a b ha hb]; exact e
    rw [this]; exact h2 e
theorem hn_str (n : Nat) (z : Str) : Hn n (.str z) := by cases n <;> trivial
theorem hn_int (n : Nat) (z : Int) : Hn n (.int z) := by cases n <;> trivial
theorem hn_E {x : D} (h : IsE x) (n : Nat) : Hn (n + 1) x := by
  obtain ⟨z, s, rfl⟩ := h
  intro d hd
  rcases List.mem_cons.mp hd with rfl | hd
  · exact hn_str _ _
  · rw [List.mem_singleton.mp hd]
    exact hn_int _ _
theorem hn_J {x : D} (h : IsJ x) (n : Nat) : Hn (n + 2) x := by
  obtain ⟨es, rfl, h, _⟩ := h
  exact fun d hd => hn_E (h d hd) n
theorem dash_inj {x y : Str} (h : Str.ofString "-" ++ x = Str.ofString "-" ++ y) : x = y := by
  have := congrArg (fun z => z.cps.toList) h
  simp only [tl_app] at this
  exact ext_tl (List.append_cancel_left this)
theorem bdS_inj {a b : Bead} (ha : Nm a.2) (hb : Nm b.2) (h : bdS a = bdS b) : a = b := by
  obtain ⟨c, h1, h2⟩ := bd_get0 a ha
  obtain ⟨d, h3, h4⟩ := bd_get0 b hb
  rw [h, h3] at h1
  cases h1
  obtain ⟨s, x⟩ := a
  obtain ⟨t, y⟩ := b
  have e : (s = true) ↔ (t = true) := h2.symm.trans h4
  have e : s = t := by cases s <;> cases t <;> simp_all
  subst e
  cases s with
  | true => exact congrArg _ (dash_inj h)
  | false => exact congrArg _ h
end Sw

open PySem PySem.Spec L2 Sw
namespace Sw
theorem cutD_dropS {ds : List D} {n : Nat} (h : n + 1 ≤ ds.length) : cutD ds (some ((n : Int) + 1)) none = ds.drop (n + 1) := cutD_drop (n := n + 1) h
end Sw

open PySem PySem.Spec L2 Sw
namespace Sw
theorem cutD_mid {ds : List D} {n m : Nat} (h : n ≤ m) (h2 : m ≤ ds.length) : cutD ds (some (n : Int)) (some (m : Int)) = (ds.drop n).take (m - n) := by
  unfold cutD
  have e : ∀ (k dd : Nat), k ≤ ds.length → HT.sIx ds.length dd (some (k : Int)) = k := fun k dd hk => by
    simp only [HT.sIx]
    rw [if_neg (by omega)]
    omega
  rw [e n _ (by omega), e m _ h2]
/-- the strands in work: none without beads, the names those told -/
structure Near (rings : Bool) (ss us : List Strand) : Prop where
  ne : ∀ u ∈ us, u.2 ≠ []
  pm : ((beadsOf us).map Prod.snd).Perm ((beadsOf ss).map Prod.snd)
  op : rings = false → (∀ s ∈ ss, s.1 = false) → ∀ u ∈ us, u.1 = false
theorem bo_one (k : Bool) (bs : List Bead) : beadsOf [(k, bs)] = bs := by simp [beadsOf]
theorem near_perm {rings : Bool} {ss us vs : List Strand} (h : Near rings ss us) (p : vs.Perm us) : Near rings ss vs :=
  ⟨fun u hu => h.ne u (p.mem_iff.mp hu), ((p.flatMap_right _).map _).trans h.pm, fun a b u hu => h.op a b u (p.mem_iff.mp hu)⟩
theorem Near.len {rings : Bool} {ss us : List Strand} (h : Near rings ss us) (g : GoodS ss) : (beadsOf us).length ≤ 1000 ∧ us.length ≤ 1000 := by
  have hl := h.pm.length_eq
  rw [List.length_map, List.length_map] at hl
  have := beads_few us h.ne
  have := g.2.1
  omega
theorem Near.head {rings : Bool} {ss ws : List Strand} {k k' : Bool} {bs bs' : List Bead} (h : Near rings ss ((k, bs) :: ws)) (hne : bs' ≠ []) (hp : (bs'.map Prod.snd).Perm (bs.map Prod.snd)) (hk : rings = false → k = false → k' = false) : Near rings ss ((k', bs') :: ws) := by
  refine ⟨fun u hu => ?_, ?_, fun a b u hu => ?_⟩
  · rcases List.mem_cons.mp hu with rfl | hu
    · exact hne
    · exact h.ne u (List.mem_cons_of_mem _ hu)
  · have h1 : ((bs ++ beadsOf ws).map Prod.snd).Perm ((beadsOf ss).map Prod.snd) := h.pm
    show ((bs' ++ beadsOf ws).map Prod.snd).Perm _
    rw [List.map_append] at h1 ⊢
    exact (hp.append_right _).trans h1
  · rcases List.mem_cons.mp hu with rfl | hu
    · exact hk a (h.op a b _ List.mem_cons_self)
    · exact h.op a b u (List.mem_cons_of_mem _ hu)
theorem Near.cut {rings : Bool} {ss ws : List Strand} {k : Bool} {bs : List Bead} (h : Near rings ss ((k, bs) :: ws)) {m : Nat} (h0 : 0 < m) (h1 : m < bs.length) : Near rings ss ((false, bs.drop m) :: (ws ++ [(false, bs.take m)])) := by
  refine ⟨fun u hu => ?_, ?_, fun a b u hu => ?_⟩
  · rcases List.mem_cons.mp hu with rfl | hu
    · exact fun e => by
        have e : bs.drop m = [] := e
        have := congrArg List.length e
        rw [List.length_drop, List.length_nil] at this
        omega
    · rcases List.mem_append.mp hu with hu | hu
      · exact h.ne u (List.mem_cons_of_mem _ hu)
      · rw [List.mem_singleton.mp hu]
        exact fun e => by
          have e : bs.take m = [] := e
          have := congrArg List.length e
          rw [List.length_take, List.length_nil] at this
          omega
  · have h2 : ((bs ++ beadsOf ws).map Prod.snd).Perm ((beadsOf ss).map Prod.snd) := h.pm
    refine List.Perm.trans ?_ h2
    refine List.Perm.map _ ?_
    show (bs.drop m ++ beadsOf (ws ++ [(false, bs.take m)])).Perm _
    rw [beadsOf_app, bo_one]
    have e : bs.take m ++ bs.drop m = bs := List.take_append_drop m bs
    conv => rhs; rw [← e]
    have p1 : (bs.drop m ++ (beadsOf ws ++ bs.take m)).Perm ((beadsOf ws ++ bs.take m) ++ bs.drop m) := List.perm_append_comm
    refine p1.trans ?_
    rw [List.append_assoc, e]
    exact List.perm_append_comm
  · rcases List.mem_cons.mp hu with rfl | hu
    · rfl
    · rcases List.mem_append.mp hu with hu | hu
      · exact h.op a b u (List.mem_cons_of_mem _ hu)
      · rw [List.mem_singleton.mp hu]
theorem Near.join {rings : Bool} {ss ws vs : List Strand} {k : Bool} {bs : List Bead} {v : Strand} (h : Near rings ss ((k, bs) :: ws)) (p : (v :: vs).Perm ws) : Near rings ss ((k, bs ++ v.2) :: vs) := by
  have h' := near_perm h (p.cons (k, bs))
  refine ⟨fun u hu => ?_, ?_, fun a b u hu => ?_⟩
  · rcases List.mem_cons.mp hu with rfl | hu
    · exact fun e => h.ne _ List.mem_cons_self (List.append_eq_nil_iff.mp e).1
    · exact h'.ne u (List.mem_cons_of_mem _ (List.mem_cons_of_mem _ hu))
  · have h2 : ((bs ++ (v.2 ++ beadsOf vs)).map Prod.snd).Perm ((beadsOf ss).map Prod.snd) := h'.pm
    show (((bs ++ v.2) ++ beadsOf vs).map Prod.snd).Perm _
    rw [List.append_assoc]
    exact h2
  · rcases List.mem_cons.mp hu with rfl | hu
    · exact h'.op a b (k, bs) List.mem_cons_self
    · exact h'.op a b u (List.mem_cons_of_mem _ (List.mem_cons_of_mem _ hu))
end Sw

open PySem PySem.Spec L2 Sw
namespace Sw
theorem eqv_E {x y : D} (hx : IsE x) (hy : IsE y) : PyData.eqv x y = true ↔ x = y := eqv_hn 1 x y (hn_E hx 0) (hn_E hy 0)
/-- a joint of one end or of two -/
inductive Jt : D → Prop
  | one {x : D} (h : IsE x) : Jt (.tuple [x])
  | two {x y : D} (h : IsE x) (g : IsE y) : Jt (.tuple [x, y])
def jP : D → List (D × D)
  | .tuple [x] => [(x, .none)]
  | .tuple [x, y] => [(x, y), (y, x)]
  | _ => []
theorem jP_keys {j : D} (h : Jt j) : (jP j).map Prod.fst = tupE j := by cases h <;> rfl
theorem jP_isE {j : D} (h : Jt j) : ∀ p ∈ jP j, IsE p.1 := fun p hp => by
  cases h with
  | one h => rw [List.mem_singleton.mp hp]; exact h
  | two h g =>
    rcases List.mem_cons.mp hp with rfl | hp
    · exact h
    · rw [List.mem_singleton.mp hp]; exact g
theorem jPs_keys {js : List D} (h : ∀ j ∈ js, Jt j) : (js.flatMap jP).map Prod.fst = js.flatMap tupE := by
  induction js with
  | nil => rfl
  | cons j r ih =>
    show ((jP j ++ r.flatMap jP).map Prod.fst) = tupE j ++ r.flatMap tupE
    rw [List.map_append, jP_keys (h j List.mem_cons_self), ih fun x hx => h x (List.mem_cons_of_mem _ hx)]
theorem jPs_isE {js : List D} (h : ∀ j ∈ js, Jt j) : ∀ p ∈ js.flatMap jP, IsE p.1 := fun p hp => by
  obtain ⟨j, hj, hp⟩ := List.mem_flatMap.mp hp
  exact jP_isE (h j hj) p hp
end Sw

open PySem PySem.Spec L2 Sw
namespace Sw
abbrev En := Str × Bool
def eD (e : En) : D := endD e.1 (if e.2 = true then 1 else 0)
def flE (e : En) : En := (e.1, !e.2)
def bdE (e : En) : Bead := (e.2, e.1)
theorem lE_bdE (e : En) : lE (bdE e) = eD e := rfl
theorem rE_bdE (e : En) : rE (bdE e) = eD (flE e) := by
  obtain ⟨z, b⟩ := e
  cases b <;> rfl
theorem isE_en (e : En) : IsE (eD e) := ⟨_, _, rfl⟩
theorem eD_inj {e f : En} (h : eD e = eD f) : e = f := by
  obtain ⟨z, b⟩ := e
  obtain ⟨w, c⟩ := f
  obtain ⟨h1, h2⟩ := endD_inj h
  have h1 : z = w := h1
  subst h1
  cases b <;> cases c <;> first | rfl | simp at h2
/-- which end is tied with which -/
structure Pg (ns : List Str) (p : En → Option En) : Prop where
  sym : ∀ {e f : En}, p e = some f → p f = some e
  irr : ∀ e : En, p e ≠ some e
  inn : ∀ {e f : En}, p e = some f → f.1 ∈ ns
def Ch (p : En → Option En) : List En → Prop
  | a :: b :: r => p (flE a) = some b ∧ Ch p (b :: r)
  | _ => True
theorem Ch.snoc {p : En → Option En} {l f : En} : ∀ {r : List En}, Ch p (r ++ [l]) → p (flE l) = some f → Ch p ((r ++ [l]) ++ [f])
  | [], _, h => ⟨h, trivial⟩
  | [a], h, g => ⟨h.1, g, trivial⟩
  | a :: b :: r, h, g => ⟨h.1, Ch.snoc (r := b :: r) h.2 g⟩
theorem Ch.mid {p : En → Option En} {h g : En} : ∀ {A C : List En}, Ch p (A ++ h :: g :: C) → p (flE h) = some g
  | [], C, q => q.1
  | [a], C, q => q.2.1
  | a :: b :: A, C, q => Ch.mid (A := b :: A) q.2
/-- a row from an end on, as far as it goes -/
structure Row (ns : List Str) (p : En → Option En) (e : En) (r : List En) : Prop where
  hd : r.head? = some e
  ch : Ch p r
  nd : (r.map Prod.fst).Nodup
  inn : ∀ x ∈ r, x.1 ∈ ns
  fin : ∃ A l, r = A ++ [l] ∧ (p (flE l) = none ∨ p (flE l) = some e)
def pvD : Option En → D
  | none => .none
  | some f => eD f
theorem sFor_abs {I : PI'} {G : TG'} {B : PS'} {Dp : PEnds} {env : List SV} (h : ∀ B', B' = B → sFor I G B' Dp env) : sFor I G B Dp env := h B rfl
theorem nodup_few {α : Type} [BEq α] [LawfulBEq α] : ∀ {xs ys : List α}, xs.Nodup → (∀ x ∈ xs, x ∈ ys) → xs.length ≤ ys.length
  | [], _, _, _ => Nat.zero_le _
  | x :: r, ys, h, hs => by
    obtain ⟨h1, h2⟩ := List.nodup_cons.mp h
    have hx := hs x List.mem_cons_self
    have ih := nodup_few (xs := r) (ys := ys.erase x) h2 fun y hy => (List.mem_erase_of_ne (fun e : y = x => h1 (e ▸ hy))).mpr (hs y (List.mem_cons_of_mem _ hy))
    rw [List.length_erase_of_mem hx] at ih
    have : 0 < ys.length := List.length_pos_of_mem hx
    rw [List.length_cons]
    omega
end Sw

open PySem PySem.Spec L2 Sw
namespace Sw
/-- joints, each sorted, in which each end of some names stands once -/
structure JsOk (ns : List Str) (js : List D) : Prop where
  form : ∀ j ∈ js, Jt j
  srt : ∀ j ∈ js, j = .tuple (srtD (tupE j))
  all : (js.flatMap tupE).Perm (ns.map (fun z => endD z 0) ++ ns.map fun z => endD z 1)
theorem JsOk.perm {ns : List Str} {js ks : List D} (h : JsOk ns js) (p : ks.Perm js) : JsOk ns ks :=
  ⟨fun j hj => h.form j (p.mem_iff.mp hj), fun j hj => h.srt j (p.mem_iff.mp hj), (p.flatMap_right _).trans h.all⟩
theorem JsOk.nod {ns : List Str} {js : List D} (h : JsOk ns js) (hn : ns.Nodup) : (js.flatMap tupE).Nodup := h.all.nodup_iff.mpr (ends_nodup hn)
theorem JsOk.mem {ns : List Str} {js : List D} (h : JsOk ns js) {x : D} : x ∈ js.flatMap tupE ↔ ∃ e : En, e.1 ∈ ns ∧ x = eD e := by
  rw [h.all.mem_iff, List.mem_append]
  constructor
  · rintro (hx | hx)
    · obtain ⟨z, hz, rfl⟩ := List.mem_map.mp hx
      exact ⟨(z, false), hz, rfl⟩
    · obtain ⟨z, hz, rfl⟩ := List.mem_map.mp hx
      exact ⟨(z, true), hz, rfl⟩
  · rintro ⟨⟨z, b⟩, hz, rfl⟩
    cases b with
    | false => exact .inl (List.mem_map_of_mem (f := fun z => endD z 0) hz)
    | true => exact .inr (List.mem_map_of_mem (f := fun z => endD z 1) hz)
theorem jP_mem {j x v : D} (hj : Jt j) : (x, v) ∈ jP j ↔ (j = .tuple [x] ∧ v = .none) ∨ j = .tuple [x, v] ∧ IsE v ∨ j = .tuple [v, x] ∧ IsE v := by
  cases hj with
  | @one a ha =>
    simp only [jP, List.mem_singleton, Prod.mk.injEq, PyData.tuple.injEq, List.cons.injEq, and_true]
    constructor
    · rintro ⟨rfl, rfl⟩; exact .inl ⟨rfl, rfl⟩
    · rintro (⟨rfl, rfl⟩ | ⟨⟨_, h⟩, _⟩ | ⟨⟨_, h⟩, _⟩)
      · exact ⟨rfl, rfl⟩
      · cases h
      · cases h
  | @two a b ha hb =>
    simp only [jP, List.mem_cons, List.mem_singleton, Prod.mk.injEq, PyData.tuple.injEq, List.cons.injEq, and_true, List.not_mem_nil, or_false]
    constructor
    · rintro (⟨rfl, rfl⟩ | ⟨rfl, rfl⟩)
      · exact .inr (.inl ⟨⟨rfl, rfl⟩, hb⟩)
      · exact .inr (.inr ⟨⟨rfl, rfl⟩, ha⟩)
    · rintro (⟨⟨_, h⟩, _⟩ | ⟨⟨rfl, rfl⟩, _⟩ | ⟨⟨rfl, rfl⟩, _⟩)
      · cases h
      · exact .inl ⟨rfl, rfl⟩
      · exact .inr ⟨rfl, rfl⟩
theorem jP_sym {j x y : D} (hj : Jt j) (hy : IsE y) (h : (x, y) ∈ jP j) (hx : IsE x) : (y, x) ∈ jP j := by
  rw [jP_mem hj] at h ⊢
  rcases h with ⟨_, rfl⟩ | ⟨h, _⟩ | ⟨h, _⟩
  · obtain ⟨_, _, e⟩ := hy; cases e
  · exact .inr (.inr ⟨h, hx⟩)
  · exact .inr (.inl ⟨h, hx⟩)
/-- a look-up among unlike ends -/
theorem lookE_iff {x v : D} (hx : IsE x) : ∀ {kds : List (D × D)}, (∀ p ∈ kds, IsE p.1) → (kds.map Prod.fst).Nodup → (lookD kds x = some v ↔ (x, v) ∈ kds)
  | [], _, _ => by simp [lookD_nil]
  | p :: r, hk, hn => by
    rw [List.map_cons, List.nodup_cons] at hn
    have ih := lookE_iff (v := v) hx (kds := r) (fun q hq => hk q (List.mem_cons_of_mem _ hq)) hn.2
    rw [lookD_cons]
    by_cases e : p.1 = x
    · rw [if_pos ((eqv_E (hk p List.mem_cons_self) hx).mpr e)]
      constructor
      · intro h
        cases h
        rw [← e]
        exact List.mem_cons_self
      · intro h
        rcases List.mem_cons.mp h with h | h
        · rw [← h]
        · exact absurd (by rw [e]; exact List.mem_map_of_mem (f := Prod.fst) h) hn.1
    · rw [if_neg (fun h => e ((eqv_E (hk p List.mem_cons_self) hx).mp h)), ih]
      constructor
      · exact fun h => List.mem_cons_of_mem _ h
      · intro h
        rcases List.mem_cons.mp h with h | h
        · exact absurd (by rw [← h]) e
        · exact h
def enOf : D → Option En
  | .tuple [.str z, .int s] => some (z, decide (s = 1))
  | _ => none
theorem enOf_eD (e : En) : enOf (eD e) = some e := by
  obtain ⟨z, b⟩ := e
  cases b <;> rfl
def pJ (js : List D) (e : En) : Option En := (lookD (js.flatMap jP) (eD e)).bind enOf
section
variable {ns : List Str} {js : List D}
theorem JsOk.look (h : JsOk ns js) (hn : ns.Nodup) {x v : D} (hx : IsE x) : lookD (js.flatMap jP) x = some v ↔ (x, v) ∈ js.flatMap jP :=
  lookE_iff hx (jPs_isE h.form) (by rw [jPs_keys h.form]; exact h.nod hn)
theorem JsOk.val (h : JsOk ns js) {x v : D} (hm : (x, v) ∈ js.flatMap jP) : v = .none ∨ ∃ f : En, f.1 ∈ ns ∧ v = eD f := by
  obtain ⟨j, hj, hp⟩ := List.mem_flatMap.mp hm
  rcases (jP_mem (h.form j hj)).mp hp with ⟨_, rfl⟩ | ⟨e, _⟩ | ⟨e, _⟩
  · exact .inl rfl
  · exact .inr (h.mem.mp (List.mem_flatMap.mpr ⟨j, hj, by rw [e]; simp [tupE]⟩))
  · exact .inr (h.mem.mp (List.mem_flatMap.mpr ⟨j, hj, by rw [e]; simp [tupE]⟩))
theorem JsOk.tot (h : JsOk ns js) (hn : ns.Nodup) {e : En} (he : e.1 ∈ ns) : lookD (js.flatMap jP) (eD e) = some (pvD (pJ js e)) := by
  have hk : eD e ∈ (js.flatMap jP).map Prod.fst := by rw [jPs_keys h.form]; exact h.mem.mpr ⟨e, he, rfl⟩
  obtain ⟨⟨x, v⟩, hm, e1⟩ := List.mem_map.mp hk
  have e1 : x = eD e := e1
  subst e1
  have hl := (h.look hn (isE_en e)).mpr hm
  have hp : pJ js e = enOf v := by unfold pJ; rw [hl]; rfl
  rw [hl, hp]
  rcases h.val hm with rfl | ⟨f, _, rfl⟩
  · rfl
  · rw [enOf_eD]; rfl
theorem JsOk.pj (h : JsOk ns js) (hn : ns.Nodup) {e f : En} (g : pJ js e = some f) : (eD e, eD f) ∈ js.flatMap jP ∧ f.1 ∈ ns := by
  unfold pJ at g
  cases q : lookD (js.flatMap jP) (eD e) with
  | none => rw [q] at g; cases g
  | some v =>
    rw [q] at g
    have hm := (h.look hn (isE_en e)).mp q
    rcases h.val hm with rfl | ⟨f', hf, rfl⟩
    · cases g
    · have g : enOf (eD f') = some f := g
      rw [enOf_eD] at g
      cases g
      exact ⟨hm, hf⟩
theorem JsOk.pg (h : JsOk ns js) (hn : ns.Nodup) : Pg ns (pJ js) where
  sym := fun {e f} g => by
    obtain ⟨hm, _⟩ := h.pj hn g
    obtain ⟨j, hj, hp⟩ := List.mem_flatMap.mp hm
    have := (h.look hn (isE_en f)).mpr (List.mem_flatMap.mpr ⟨j, hj, jP_sym (h.form j hj) (isE_en f) hp (isE_en e)⟩)
    unfold pJ
    rw [this]
    exact enOf_eD e
  irr := fun e g => by
    obtain ⟨hm, _⟩ := h.pj hn g
    obtain ⟨j, hj, hp⟩ := List.mem_flatMap.mp hm
    have hd : (tupE j).Nodup := by
      obtain ⟨a, b, rfl⟩ := List.append_of_mem hj
      have := h.nod hn
      rw [List.flatMap_append] at this
      exact (List.nodup_append.mp (List.nodup_append.mp this).2.1).1
    rcases (jP_mem (h.form j hj)).mp hp with ⟨_, e1⟩ | ⟨rfl, _⟩ | ⟨rfl, _⟩
    · cases e1
    · simp [tupE] at hd
    · simp [tupE] at hd
  inn := fun g => (h.pj hn g).2
theorem JsOk.one (h : JsOk ns js) (hn : ns.Nodup) {e : En} (he : e.1 ∈ ns) (g : pJ js e = none) : .tuple [eD e] ∈ js := by
  have := h.tot hn he
  rw [g] at this
  obtain ⟨j, hj, hp⟩ := List.mem_flatMap.mp ((h.look hn (isE_en e)).mp this)
  rcases (jP_mem (h.form j hj)).mp hp with ⟨rfl, _⟩ | ⟨_, q⟩ | ⟨_, q⟩
  · exact hj
  · obtain ⟨_, _, q⟩ := q; cases q
  · obtain ⟨_, _, q⟩ := q; cases q
theorem JsOk.two (h : JsOk ns js) (hn : ns.Nodup) {e f : En} (g : pJ js e = some f) : jt (eD e) (eD f) ∈ js := by
  obtain ⟨hm, _⟩ := h.pj hn g
  obtain ⟨j, hj, hp⟩ := List.mem_flatMap.mp hm
  rcases (jP_mem (h.form j hj)).mp hp with ⟨_, e1⟩ | ⟨rfl, _⟩ | ⟨rfl, _⟩
  · cases e1
  · have := h.srt _ hj
    rw [this] at hj
    exact hj
  · have := h.srt _ hj
    rw [this] at hj
    rw [jt_comm (isE_en e) (isE_en f)]
    exact hj
theorem JsOk.uniq (h : JsOk ns js) (hn : ns.Nodup) : JN fun j => j ∈ js := ⟨fun hi hj h1 h2 => uniq_flat (h.nod hn) hi hj h1 h2⟩
/-- a set's own joints are such -/
theorem jsOk_jts {ss : List Strand} (h : ∀ s ∈ ss, s.2 ≠ []) (p : ((beadsOf ss).map Prod.snd).Perm ns) : JsOk ns (jts ss) := by
  have two : ∀ x y : D, IsE x → IsE y → Jt (jt x y) ∧ jt x y = .tuple (srtD (tupE (jt x y))) := fun x y hx hy => by
    have hp : (srtD [x, y]).Perm [x, y] := srtD_perm _
    have e : srtD (srtD [x, y]) = srtD [x, y] := srtD_congr (alikeE (xs := [x, y]) fun z hz => by
      rcases List.mem_cons.mp hz with rfl | hz
      · exact hx
      · rw [List.mem_singleton.mp hz]; exact hy) hp
    have hl : (srtD [x, y]).length = 2 := srtD_len _
    refine ⟨?_, congrArg PyData.tuple e.symm⟩
    unfold jt
    match q : srtD [x, y], hl with
    | [a, b], _ =>
      rw [q] at hp
      have m : ∀ z ∈ [a, b], IsE z := fun z hz => by
        rcases List.mem_cons.mp (hp.mem_iff.mp hz) with rfl | hz
        · exact hx
        · rw [List.mem_singleton.mp hz]; exact hy
      exact .two (m a (by simp)) (m b (by simp))
  have one : ∀ x : D, IsE x → Jt (.tuple [x]) ∧ PyData.tuple [x] = .tuple (srtD (tupE (.tuple [x]))) := fun x hx => ⟨.one hx, by
    show PyData.tuple [x] = .tuple (srtD [x])
    have := List.perm_singleton.mp (srtD_perm [x])
    rw [this]⟩
  have all : ∀ j ∈ jts ss, Jt j ∧ j = .tuple (srtD (tupE j)) := fun j hj => by
    obtain ⟨s, _, hj⟩ := List.mem_flatMap.mp hj
    rcases List.mem_append.mp hj with hj | hj
    · obtain ⟨i, hi⟩ := List.getElem?_of_mem hj
      unfold adjJ at hi
      rw [List.getElem?_zipWith] at hi
      cases q1 : s.2[i]? with
      | none => rw [q1] at hi; simp at hi
      | some a =>
        cases q2 : s.2.tail[i]? with
        | none => rw [q1, q2] at hi; simp at hi
        | some b =>
          rw [q1, q2] at hi
          cases hi
          exact two _ _ (isE_r a) (isE_l b)
    · unfold closeJ at hj
      split at hj
      · rw [List.mem_singleton.mp hj]
        exact two _ _ (isE_r _) (isE_l _)
      · rcases List.mem_cons.mp hj with rfl | hj
        · exact one _ (isE_l _)
        · rw [List.mem_singleton.mp hj]
          exact one _ (isE_r _)
  exact ⟨fun j hj => (all j hj).1, fun j hj => (all j hj).2, all_ends' h p⟩
end

end Sw

open PySem PySem.Spec L2 Sw
namespace Sw
def rowS (p : En → Option En) (e : En) (r : List En) : Strand := ((p e).isSome, r.map bdE)
theorem adj_row {ns : List Str} {js : List D} (J : JsOk ns js) (hn : ns.Nodup) : ∀ {r : List En}, Ch (pJ js) r → ∀ j ∈ adjJ (r.map bdE), j ∈ js
  | [], _, j, h => nomatch h
  | [a], _, j, h => nomatch h
  | a :: b :: r, hc, j, h => by
    have h : j ∈ jt (rE (bdE a)) (lE (bdE b)) :: adjJ ((b :: r).map bdE) := h
    rcases List.mem_cons.mp h with rfl | h
    · rw [rE_bdE, lE_bdE]
      exact J.two hn hc.1
    · exact adj_row J hn (r := b :: r) hc.2 j h
theorem last_row (A : List En) (l : En) : lastB ((A ++ [l]).map bdE) = bdE l := by
  rw [List.map_append]
  exact last_app (A := A.map bdE) (B := [bdE l]) (by simp)
theorem first_row {r : List En} {e : En} (h : r.head? = some e) : firstB (r.map bdE) = bdE e := by
  cases r with
  | nil => cases h
  | cons a r => cases h; rfl
/-- the joints of a row's strand are told -/
theorem row_js {ns : List Str} {js : List D} (J : JsOk ns js) (hn : ns.Nodup) {e : En} {r : List En} (h : Row ns (pJ js) e r) (hf : ∀ A l, r = A ++ [l] → (pJ js e).isSome = true → pJ js (flE l) = some e) : ∀ j ∈ strJ (rowS (pJ js) e r), j ∈ js := fun j hj => by
  obtain ⟨A, l, hr, hfin⟩ := h.fin
  have he : e.1 ∈ ns := by
    have := h.hd
    cases r with
    | nil => cases this
    | cons a r => cases this; exact h.inn _ List.mem_cons_self
  have hl : l.1 ∈ ns := h.inn l (by rw [hr]; simp)
  rcases List.mem_append.mp hj with hj | hj
  · exact adj_row J hn h.ch j hj
  · unfold closeJ at hj
    have e1 : lastB (rowS (pJ js) e r).2 = bdE l := by show lastB (r.map bdE) = _; rw [hr]; exact last_row A l
    have e2 : firstB (rowS (pJ js) e r).2 = bdE e := first_row h.hd
    rw [e1, e2, rE_bdE, lE_bdE] at hj
    cases q : pJ js e with
    | none =>
      rw [if_neg (by show ¬ (pJ js e).isSome = true; rw [q]; decide)] at hj
      rcases List.mem_cons.mp hj with rfl | hj
      · exact J.one hn he q
      · rw [List.mem_singleton.mp hj]
        refine J.one hn hl ?_
        rcases hfin with h1 | h1
        · exact h1
        · have := (J.pg hn).sym h1
          rw [q] at this
          cases this
    | some f =>
      rw [if_pos (by show (pJ js e).isSome = true; rw [q]; rfl)] at hj
      rw [List.mem_singleton.mp hj]
      exact J.two hn (hf A l hr (by rw [q]; rfl))
/-- strands made so far -/
structure Made (ns : List Str) (js : List D) (ss : List Strand) : Prop where
  ne : ∀ s ∈ ss, s.2 ≠ []
  nd : ((beadsOf ss).map Prod.snd).Nodup
  inn : ∀ z ∈ (beadsOf ss).map Prod.snd, z ∈ ns
  jts : ∀ j ∈ jts ss, j ∈ js
/-- names that were met are closed -/
theorem Made.closed {ns : List Str} {js : List D} {ss : List Strand} (J : JsOk ns js) (hn : ns.Nodup) (M : Made ns js ss) {e f : En} (h : pJ js e = some f) (he : e.1 ∈ (beadsOf ss).map Prod.snd) : f.1 ∈ (beadsOf ss).map Prod.snd := by
  have K := jsOk_jts (ns := (beadsOf ss).map Prod.snd) M.ne (List.Perm.refl _)
  obtain ⟨j, hj, hx⟩ := List.mem_flatMap.mp (K.mem.mpr ⟨e, he, rfl⟩)
  have e1 := (J.uniq hn).uniq (M.jts j hj) (J.two hn h) hx mem_jt.1
  rw [e1] at hj
  obtain ⟨g, hg, e2⟩ := K.mem.mp (List.mem_flatMap.mpr ⟨_, hj, mem_jt.2⟩)
  rw [eD_inj e2]
  exact hg
theorem Made.row_new {ns : List Str} {js : List D} {ss : List Strand} (J : JsOk ns js) (hn : ns.Nodup) (M : Made ns js ss) : ∀ {r : List En}, Ch (pJ js) r → (∀ e, r.head? = some e → e.1 ∉ (beadsOf ss).map Prod.snd) → ∀ x ∈ r, x.1 ∉ (beadsOf ss).map Prod.snd
  | [], _, _, x, hx => nomatch hx
  | [a], _, h, x, hx => by rw [List.mem_singleton.mp hx]; exact h a rfl
  | a :: b :: r, hc, h, x, hx => by
    rcases List.mem_cons.mp hx with rfl | hx
    · exact h _ rfl
    · refine M.row_new J hn (r := b :: r) hc.2 (fun e he => ?_) x hx
      cases he
      intro hb
      have := M.closed J hn ((J.pg hn).sym hc.1) hb
      exact h a rfl this
theorem Made.snoc {ns : List Str} {js : List D} {ss : List Strand} (J : JsOk ns js) (hn : ns.Nodup) (M : Made ns js ss) {e : En} {r : List En} (h : Row ns (pJ js) e r) (he : e.1 ∉ (beadsOf ss).map Prod.snd) (hf : ∀ A l, r = A ++ [l] → (pJ js e).isSome = true → pJ js (flE l) = some e) : Made ns js (ss ++ [rowS (pJ js) e r]) ∧ (beadsOf (ss ++ [rowS (pJ js) e r])).map Prod.snd = (beadsOf ss).map Prod.snd ++ r.map Prod.fst := by
  have hnew := M.row_new J hn h.ch fun x hx => by rw [h.hd] at hx; cases hx; exact he
  have e1 : (beadsOf (ss ++ [rowS (pJ js) e r])).map Prod.snd = (beadsOf ss).map Prod.snd ++ r.map Prod.fst := by
    rw [beadsOf_app, List.map_append, rowS, bo_one, List.map_map]
    rfl
  refine ⟨⟨fun s hs => ?_, ?_, fun z hz => ?_, fun j hj => ?_⟩, e1⟩
  · rcases List.mem_append.mp hs with hs | hs
    · exact M.ne s hs
    · rw [List.mem_singleton.mp hs]
      intro q
      have q : r.map bdE = [] := q
      have hh := h.hd
      rw [List.map_eq_nil_iff.mp q] at hh
      cases hh
  · rw [e1]
    refine List.nodup_append.mpr ⟨M.nd, h.nd, fun a ha b hb e => ?_⟩
    obtain ⟨x, hx, rfl⟩ := List.mem_map.mp hb
    exact hnew x hx (e ▸ ha)
  · rw [e1] at hz
    rcases List.mem_append.mp hz with hz | hz
    · exact M.inn z hz
    · obtain ⟨x, hx, rfl⟩ := List.mem_map.mp hz
      exact h.inn x hx
  · rw [jts_snoc] at hj
    rcases List.mem_append.mp hj with hj | hj
    · exact M.jts j hj
    · exact row_js J hn h hf j hj
/-- all names met: the joints are just those told -/
theorem Made.done {ns : List Str} {js : List D} {ss : List Strand} (J : JsOk ns js) (hn : ns.Nodup) (M : Made ns js ss) (ha : ∀ z ∈ ns, z ∈ (beadsOf ss).map Prod.snd) : ((beadsOf ss).map Prod.snd).Perm ns ∧ (Sw.jts ss).Perm js := by
  have hp : ((beadsOf ss).map Prod.snd).Perm ns := (List.perm_ext_iff_of_nodup M.nd hn).mpr fun z => ⟨M.inn z, ha z⟩
  have K := jsOk_jts (ns := ns) M.ne hp
  have nod : ∀ {ks : List D}, JsOk ns ks → ks.Nodup := fun {ks} h => by
    have hn' := h.nod hn
    have hf := h.form
    clear h
    induction ks with
    | nil => exact List.nodup_nil
    | cons k r ih =>
      have hn' : (tupE k ++ r.flatMap tupE).Nodup := hn'
      obtain ⟨h1, h2, h3⟩ := List.nodup_append.mp hn'
      refine List.nodup_cons.mpr ⟨fun hm => ?_, ih h2 fun j hj => hf j (List.mem_cons_of_mem _ hj)⟩
      obtain ⟨x, hx⟩ : ∃ x, x ∈ tupE k := by
        cases hf k List.mem_cons_self with
        | one => exact ⟨_, List.mem_cons_self⟩
        | two => exact ⟨_, List.mem_cons_self⟩
      exact h3 x hx x (List.mem_flatMap.mpr ⟨k, hm, hx⟩) rfl
  refine ⟨hp, (List.perm_ext_iff_of_nodup (nod K) (nod J)).mpr fun j => ⟨M.jts j, fun hj => ?_⟩⟩
  obtain ⟨x, hx⟩ : ∃ x, x ∈ tupE j := by
    cases J.form j hj with
    | one => exact ⟨_, List.mem_cons_self⟩
    | two => exact ⟨_, List.mem_cons_self⟩
  obtain ⟨e, he, rfl⟩ := J.mem.mp (List.mem_flatMap.mpr ⟨j, hj, hx⟩)
  obtain ⟨i, hi, hx'⟩ := List.mem_flatMap.mp (K.mem.mpr ⟨e, he, rfl⟩)
  rw [(J.uniq hn).uniq hj (M.jts i hi) hx hx']
  exact hi
theorem eqv_S (a b : Str) : PyData.eqv (.str a) (.str b) = decide (a = b) := by
  simp only [PyData.eqv]
  by_cases h : a = b <;> simp [h]
end Sw

open PySem PySem.Spec L2 Sw
namespace Sw
def NumOk (xs : List Int) : Prop := xs.Pairwise fun x y => x.natAbs ≠ y.natAbs
def BlkO (bs : List Int) : Prop := ∃ m : Nat, bs.getLast? = some (m : Int) ∧ NumOk bs ∧ (∀ x ∈ bs, x.natAbs ≤ m) ∧ bs.length = m + 1 ∧ 1 ≤ m
/-- from nought to the greatest place -/
def Ends0 (xs : List Int) : Prop := xs.head? = some 0 ∧ xs.getLast? = some ((xs.length : Int) - 1)
end Sw

open PySem PySem.Spec L2 Sw
namespace Sw

end Sw

open PySem PySem.Spec L2 Sw
namespace Sw
def NumG (xs : List Int) : Prop := NumOk xs ∧ ∀ x ∈ xs, x.natAbs < xs.length
end Sw

open PySem PySem.Spec L2 Sw
namespace Sw
def mnA (xs : List Int) (s : Nat) : Nat → Nat
  | 0 => (xs.getD s 0).natAbs
  | k + 1 => if (xs.getD (s + 1 + k) 0).natAbs < mnA xs s k then (xs.getD (s + 1 + k) 0).natAbs else mnA xs s k
def mxA (xs : List Int) (s : Nat) : Nat → Nat
  | 0 => (xs.getD s 0).natAbs
  | k + 1 => if mxA xs s k < (xs.getD (s + 1 + k) 0).natAbs then (xs.getD (s + 1 + k) 0).natAbs else mxA xs s k
def spanP (xs : List Int) (s e : Nat) : Prop := ((mxA xs s (e - s) : Int) - mnA xs s (e - s) = (e : Int) - s) ∧ ((xs.getD s 0 = mnA xs s (e - s) ∧ xs.getD e 0 = mxA xs s (e - s)) ∨ (xs.getD s 0 = 0 - (mxA xs s (e - s) : Int) ∧ xs.getD e 0 = 0 - (mnA xs s (e - s) : Int)))
instance (xs : List Int) (s e : Nat) : Decidable (spanP xs s e) := by unfold spanP; infer_instance
def keyP (p : Nat × Nat) : D := .tuple [.int (p.1 : Nat), .int (p.2 : Nat)]
theorem keyP_inj {p q : Nat × Nat} (h : keyP p = keyP q) : p = q := by
  unfold keyP at h
  injection h with h
  injection h with h1 h2
  injection h2 with h2 _
  injection h1 with h1
  injection h2 with h2
  obtain ⟨a, b⟩ := p
  obtain ⟨c, d⟩ := q
  simp only at h1 h2
  have : a = c := by omega
  have : b = d := by omega
  subst_vars
  rfl
theorem hn_keyP (n : Nat) (p : Nat × Nat) : Hn (n + 1) (keyP p) := fun d hd => by
  rcases List.mem_cons.mp hd with rfl | hd
  · cases n <;> exact True.intro
  · rw [List.mem_singleton.mp hd]
    cases n <;> exact True.intro
theorem eqv_keyP (p q : Nat × Nat) : PyData.eqv (keyP p) (keyP q) = decide (p = q) := by
  have h := eqv_hn 1 (keyP p) (keyP q) (hn_keyP 0 p) (hn_keyP 0 q)
  by_cases e : p = q
  · subst e
    rw [h.mpr rfl]
    simp
  · have : PyData.eqv (keyP p) (keyP q) = false := by
      rw [← Bool.not_eq_true, h]
      exact fun z => e (keyP_inj z)
    rw [this]
    simp [e]
/-- a lies ahead of b -/
def ahead (p q : Nat × Nat) : Prop := p.1 < q.1 ∨ (p.1 = q.1 ∧ p.2 < q.2)
end Sw

open PySem PySem.Spec L2 Sw
namespace Sw
theorem keyT_keyP (p : Nat × Nat) : KeyT true (keyP p) := ⟨.tup [.num (p.1 : Nat), .num (p.2 : Nat)], by rfl, ⟨_, rfl⟩, by simp [NestedKey.depth, NestedKey.depthAll]⟩
end Sw

open PySem PySem.Spec L2 Sw
namespace Sw
theorem mnA_spec (xs : List Int) (s : Nat) : ∀ k, (∀ i, i ≤ k → mnA xs s k ≤ (xs.getD (s + i) 0).natAbs) ∧ ∃ i, i ≤ k ∧ mnA xs s k = (xs.getD (s + i) 0).natAbs
  | 0 => ⟨fun i hi => by rw [Nat.le_zero.mp hi]; exact Nat.le_refl _, 0, Nat.le_refl _, rfl⟩
  | k + 1 => by
    obtain ⟨h1, i, hi, h2⟩ := mnA_spec xs s k
    have e : s + 1 + k = s + (k + 1) := by omega
    unfold mnA
    rw [e]
    split
    · rename_i h
      refine ⟨fun j hj => ?_, k + 1, Nat.le_refl _, rfl⟩
      by_cases q : j = k + 1
      · rw [q]; exact Nat.le_refl _
      · have := h1 j (by omega); omega
    · rename_i h
      refine ⟨fun j hj => ?_, i, by omega, h2⟩
      by_cases q : j = k + 1
      · rw [q]; omega
      · exact h1 j (by omega)
theorem mxA_spec (xs : List Int) (s : Nat) : ∀ k, (∀ i, i ≤ k → (xs.getD (s + i) 0).natAbs ≤ mxA xs s k) ∧ ∃ i, i ≤ k ∧ mxA xs s k = (xs.getD (s + i) 0).natAbs
  | 0 => ⟨fun i hi => by rw [Nat.le_zero.mp hi]; exact Nat.le_refl _, 0, Nat.le_refl _, rfl⟩
  | k + 1 => by
    obtain ⟨h1, i, hi, h2⟩ := mxA_spec xs s k
    have e : s + 1 + k = s + (k + 1) := by omega
    unfold mxA
    rw [e]
    split
    · rename_i h
      refine ⟨fun j hj => ?_, k + 1, Nat.le_refl _, rfl⟩
      by_cases q : j = k + 1
      · rw [q]; exact Nat.le_refl _
      · have := h1 j (by omega); omega
    · rename_i h
      refine ⟨fun j hj => ?_, i, by omega, h2⟩
      by_cases q : j = k + 1
      · rw [q]; omega
      · exact h1 j (by omega)
theorem srt_nats (A : List Nat) (hA : A.Nodup) : ∃ B : List Nat, B.Perm A ∧ B.Pairwise (· < ·) ∧ srtD (A.map fun (n : Nat) => PyData.int (n : Int)) = B.map fun (n : Nat) => PyData.int (n : Int) := by
  have p := List.mergeSort_perm A (fun a b => decide (a ≤ b))
  have s : (A.mergeSort fun a b => decide (a ≤ b)).Pairwise fun a b => decide (a ≤ b) = true := List.pairwise_mergeSort (by intro a b c h1 h2; simp at *; omega) (by intro a b; simp; omega) A
  generalize A.mergeSort (fun a b => decide (a ≤ b)) = B at p s
  have nd : B.Nodup := p.nodup_iff.mpr hA
  refine ⟨B, p, (s.and nd).imp fun {a b} h => by have := of_decide_eq_true h.1; have := h.2; omega, ?_⟩
  refine (srtD_eq (fun x hx y hy => ?_) (p.map _) (List.pairwise_map.mpr (s.imp fun {a b} h => ?_))).symm
  · obtain ⟨a, _, rfl⟩ := List.mem_map.mp hx
    obtain ⟨b, _, rfl⟩ := List.mem_map.mp hy
    rfl
  · unfold leD
    rw [W.dataLt_int]
    have := of_decide_eq_true h
    simp
    omega

end Sw

open PySem PySem.Spec L2 Sw
namespace Sw
theorem okSort_nats (A : List Nat) : okSort (A.map fun (n : Nat) => PyData.int (n : Int)) = true := by
  have h1 : (A.map fun (n : Nat) => PyData.int (n : Int)).all okD = true := List.all_eq_true.mpr fun x hx => by
    obtain ⟨n, _, rfl⟩ := List.mem_map.mp hx
    rfl
  have h2 : ((A.map fun (n : Nat) => PyData.int (n : Int)).all fun d => (A.map fun (n : Nat) => PyData.int (n : Int)).all fun e => W.alike d e) = true := List.all_eq_true.mpr fun x hx => List.all_eq_true.mpr fun y hy => by
    obtain ⟨n, _, rfl⟩ := List.mem_map.mp hx
    obtain ⟨m, _, rfl⟩ := List.mem_map.mp hy
    rfl
  have h3 : (A.map fun (n : Nat) => PyData.int (n : Int)).all noTup = true := List.all_eq_true.mpr fun x hx => by
    obtain ⟨n, _, rfl⟩ := List.mem_map.mp hx
    rfl
  unfold okSort
  rw [h1, h2, h3, Bool.or_true]
  rfl
end Sw

open PySem PySem.Spec L2 Sw
namespace Sw

end Sw

open PySem PySem.Spec L2 Sw
namespace Sw
instance (b : Option (Nat × Nat)) (n : Nat) : Decidable (∀ q, b = some q → n < q.2 - q.1) := match b with
  | none => .isTrue fun _ h => nomatch h
  | some q => if h : n < q.2 - q.1 then .isTrue fun _ e => by cases e; exact h else .isFalse fun z => h (z q rfl)
def natsD (ks : List Nat) : List D := ks.map fun (k : Nat) => .int (k : Int)
end Sw

open PySem PySem.Spec L2 Sw
namespace Sw
theorem int_at {xs : List Int} {k : Nat} (h : k < xs.length) : atI (xs.map PyData.int) ((k : Nat) : Int) = some (.int (xs.getD k 0)) := by
  rw [atI_at (by omega), Int.toNat_natCast, List.getElem?_map, List.getElem?_eq_getElem h, List.getD_eq_getElem?_getD, List.getElem?_eq_getElem h]
  rfl
end Sw

open PySem PySem.Spec L2 Sw
namespace Sw

end Sw

open PySem PySem.Spec L2 Sw
namespace Sw
theorem nods_len {α : Type} : ∀ {X Y : List α}, X.Nodup → (∀ z ∈ X, z ∈ Y) → X.length ≤ Y.length
  | [], _, _, _ => Nat.zero_le _
  | x :: X, Y, h, k => by
    obtain ⟨s, t, rfl⟩ := List.append_of_mem (k x List.mem_cons_self)
    obtain ⟨h1, h2⟩ := List.nodup_cons.mp h
    have := nods_len (X := X) (Y := s ++ t) h2 fun z hz => by
      have := k z (List.mem_cons_of_mem _ hz)
      rcases List.mem_append.mp this with q | q
      · exact List.mem_append_left _ q
      · rcases List.mem_cons.mp q with rfl | q
        · exact absurd hz h1
        · exact List.mem_append_right _ q
    rw [List.length_append] at this ⊢
    simp only [List.length_cons]
    omega
abbrev absA (xs : List Int) (i : Nat) : Nat := (xs.getD i 0).natAbs
structure SpanF (xs : List Int) (s e l h : Nat) : Prop where
  b : ∀ i, s ≤ i → i ≤ e → l ≤ absA xs i ∧ absA xs i ≤ h
  d : h = l + (e - s)
  n : (xs.getD s 0 = (l : Int) ∧ xs.getD e 0 = (h : Int)) ∨ (xs.getD s 0 = 0 - (h : Int) ∧ xs.getD e 0 = 0 - (l : Int))
theorem SpanF.ends {xs : List Int} {s e l h : Nat} (f : SpanF xs s e l h) : (absA xs s = l ∧ absA xs e = h) ∨ (absA xs s = h ∧ absA xs e = l) := by
  rcases f.n with ⟨a, b⟩ | ⟨a, b⟩
  · refine .inl ⟨?_, ?_⟩ <;> unfold absA <;> omega
  · refine .inr ⟨?_, ?_⟩ <;> unfold absA <;> omega
theorem SpanF.span {xs : List Int} {s e l h : Nat} (he : s ≤ e) (f : SpanF xs s e l h) : spanP xs s e := by
  obtain ⟨a1, i, hi, a2⟩ := mnA_spec xs s (e - s)
  obtain ⟨b1, j, hj, b2⟩ := mxA_spec xs s (e - s)
  have i1 := f.b (s + i) (by omega) (by omega)
  have j1 := f.b (s + j) (by omega) (by omega)
  have s1 := a1 0 (by omega)
  have s2 := a1 (e - s) (by omega)
  have s3 := b1 0 (by omega)
  have s4 := b1 (e - s) (by omega)
  rw [show s + (e - s) = e by omega] at s2 s4
  rw [Nat.add_zero] at s1 s3
  have en := f.ends
  have fd := f.d
  have em : mnA xs s (e - s) = l := by
    unfold absA at *
    omega
  have ex : mxA xs s (e - s) = h := by
    unfold absA at *
    omega
  unfold spanP
  rw [em, ex]
  exact ⟨by omega, f.n⟩
theorem absA_inj {xs : List Int} (hn : NumOk xs) {i j : Nat} (hi : i < xs.length) (hj : j < xs.length) (e : absA xs i = absA xs j) : i = j := by
  have key : ∀ {a b : Nat}, a < b → b < xs.length → absA xs a ≠ absA xs b := fun {a b} h hb => by
    have := List.pairwise_iff_getElem.mp hn a b (by omega) hb h
    unfold absA
    rw [List.getD_eq_getElem?_getD, List.getD_eq_getElem?_getD, List.getElem?_eq_getElem (by omega : a < xs.length), List.getElem?_eq_getElem hb]
    exact this
  rcases Nat.lt_trichotomy i j with g | g | g
  · exact absurd e (key g hj)
  · exact g
  · exact absurd e.symm (key g hi)
/-- each value of a span stands in it -/
theorem SpanF.full {xs : List Int} (hn : NumOk xs) {s e l h v : Nat} (f : SpanF xs s e l h) (hs : s ≤ e) (he : e < xs.length) (h1 : l ≤ v) (h2 : v ≤ h) : ∃ i, s ≤ i ∧ i ≤ e ∧ absA xs i = v := by
  refine Classical.byContradiction fun n => ?_
  have nd : ((List.range' s (e + 1 - s)).map (absA xs)).Nodup := by
    rw [List.nodup_iff_pairwise_ne, List.pairwise_map]
    refine (List.nodup_iff_pairwise_ne.mp (List.nodup_range' (step := 1))).imp_of_mem fun {a b} ha hb' ne q => ?_
    have h1 := List.mem_range'_1.mp ha
    have h2 := List.mem_range'_1.mp hb'
    exact ne (absA_inj hn (by omega) (by omega) q)
  have := nods_len (Y := List.range' l (v - l) ++ List.range' (v + 1) (h - v)) nd fun z hz => by
    obtain ⟨i, hi, rfl⟩ := List.mem_map.mp hz
    have h3 := List.mem_range'_1.mp hi
    have h4 := f.b i (by omega) (by omega)
    have h5 : absA xs i ≠ v := fun q => n ⟨i, by omega, by omega, q⟩
    by_cases c : absA xs i < v
    · exact List.mem_append_left _ (List.mem_range'_1.mpr (by omega))
    · exact List.mem_append_right _ (List.mem_range'_1.mpr (by omega))
  rw [List.length_map, List.length_append, List.length_range', List.length_range', List.length_range'] at this
  have := f.d
  omega
end Sw

open PySem PySem.Spec L2 Sw
namespace Sw

end Sw

open PySem PySem.Spec L2 Sw
namespace Sw
structure Num0 (xs : List Int) : Prop where
  g : NumG xs
  e : Ends0 xs
  l : 2 ≤ xs.length
theorem Num0.blk {xs : List Int} (h : Num0 xs) : BlkO xs := by
  have := h.l
  exact ⟨xs.length - 1, by rw [h.e.2]; congr 1; omega, h.g.1, fun x hx => by have := h.g.2 x hx; omega, by omega, by omega⟩
end Sw

open PySem PySem.Spec L2 Sw
namespace Sw
def sdI (b : Bool) : Nat := if b = true then 1 else 0
/-- the right end, the left end -/
def rEn (x : Int) : Nat × Nat := (x.natAbs, sdI (decide (0 ≤ x)))
def lEn (x : Int) : Nat × Nat := (x.natAbs, sdI (decide (x < 0)))
theorem rl_ne (x : Int) : rEn x ≠ lEn x := fun h => by
  have h := congrArg Prod.snd h
  unfold rEn lEn sdI at h
  by_cases c : 0 ≤ x
  · rw [decide_eq_true c, decide_eq_false (by omega)] at h
    simp at h
  · rw [decide_eq_false c, decide_eq_true (by omega)] at h
    simp at h
theorem gi_b (b : Bool) : gInt1 [.bool b] = some (.int (sdI b : Nat)) := by cases b <;> rfl
def sp_right_end_2 : PSp := fun fl ds Q => fl = none ∧ ∃ x : Int, ds = [.int x] ∧ Q (.dt (keyP (rEn x))) none
abbrev N_right_end_2 : List Str := ["number"]
def T_right_end_2 : PS' := (sRet (qTup (qCons (qCB gAbs (qCons (qVar 0) qNil)) (qCons (qCB gInt1 (qCons (qOp (gI (gCmp fun i j => decide (j ≤ i))) (qVar 0) (qC (.int 0))) qNil)) qNil))))
theorem pure_right_end_2 (fl : Option (List D)) (ds : List D) (Q : RV → Option (List D) → Prop) (_ : false = true ↔ fl ≠ none) (h : sp_right_end_2 fl ds Q) : T_right_end_2 (endsOf false Q) (startE false N_right_end_2 fl ds) := by
  obtain ⟨rfl, x, rfl, k⟩ := h
  show T_right_end_2 _ [SV.dat (.int x)]
  unfold T_right_end_2
  walk_at "wy"
  exact ⟨_, gi_b _, sizeL (by decide), k⟩
def sp_left_end_2 : PSp := fun fl ds Q => fl = none ∧ ∃ x : Int, ds = [.int x] ∧ Q (.dt (keyP (lEn x))) none
abbrev N_left_end_2 : List Str := ["number"]
def T_left_end_2 : PS' := (sRet (qTup (qCons (qCB gAbs (qCons (qVar 0) qNil)) (qCons (qCB gInt1 (qCons (qOp gLt (qVar 0) (qC (.int 0))) qNil)) qNil))))
theorem pure_left_end_2 (fl : Option (List D)) (ds : List D) (Q : RV → Option (List D) → Prop) (_ : false = true ↔ fl ≠ none) (h : sp_left_end_2 fl ds Q) : T_left_end_2 (endsOf false Q) (startE false N_left_end_2 fl ds) := by
  obtain ⟨rfl, x, rfl, k⟩ := h
  show T_left_end_2 _ [SV.dat (.int x)]
  unfold T_left_end_2
  walk_at "wy"
  exact ⟨_, gi_b _, sizeL (by decide), k⟩
/-- the ends ahead of a place, each with its point -/
def ptsL (xs : List Int) (m : Nat) : List ((Nat × Nat) × Nat) := (List.range m).flatMap fun k => [(rEn (xs.getD k 0), k), (lEn (xs.getD (k + 1) 0), k)]
def kdsQ (l : List ((Nat × Nat) × Nat)) : List (D × D) := l.map fun e => (keyP e.1, .int (e.2 : Nat))
theorem ptsL_succ (xs : List Int) (m : Nat) : ptsL xs (m + 1) = ptsL xs m ++ [(rEn (xs.getD m 0), m), (lEn (xs.getD (m + 1) 0), m)] := by
  unfold ptsL
  rw [List.range_succ, List.flatMap_append]
  rfl
theorem look_kdsQ (q : Nat × Nat) : ∀ l : List ((Nat × Nat) × Nat), lookD (kdsQ l) (keyP q) = ((l.find? fun e => decide (e.1 = q)).map fun e => PyData.int (e.2 : Nat))
  | [] => rfl
  | e :: r => by
    have ih := look_kdsQ q r
    show lookD ((keyP e.1, .int (e.2 : Nat)) :: kdsQ r) (keyP q) = _
    rw [lookD_cons, eqv_keyP, List.find?_cons]
    by_cases c : e.1 = q
    · simp [c]
    · simp only [c, decide_false, Bool.false_eq_true, if_false]
      exact ih
theorem put_kdsQ {l : List ((Nat × Nat) × Nat)} {q : Nat × Nat} {k : Nat} (h : ∀ e ∈ l, e.1 ≠ q) : putD (kdsQ l) (keyP q) (.int (k : Nat)) = kdsQ (l ++ [(q, k)]) := by
  unfold putD
  have : lookD (kdsQ l) (keyP q) = none := by
    rw [look_kdsQ, List.find?_eq_none.mpr]
    · rfl
    · intro e he
      simpa using h e he
  rw [this, if_neg (by decide)]
  unfold kdsQ
  rw [List.map_append]
  rfl
theorem ptsL_fst {xs : List Int} {m : Nat} {e : (Nat × Nat) × Nat} (h : e ∈ ptsL xs m) : ∃ k, k < m ∧ e.2 = k ∧ (e.1 = rEn (xs.getD k 0) ∨ e.1 = lEn (xs.getD (k + 1) 0)) := by
  unfold ptsL at h
  obtain ⟨k, hk, h⟩ := List.mem_flatMap.mp h
  have hk := List.mem_range.mp hk
  rcases List.mem_cons.mp h with rfl | h
  · exact ⟨k, hk, rfl, .inl rfl⟩
  · rw [List.mem_singleton.mp h]
    exact ⟨k, hk, rfl, .inr rfl⟩
/-- no end comes twice -/
theorem pts_new {xs : List Int} (hn : NumOk xs) {m : Nat} (hm : m + 1 < xs.length) : (∀ e ∈ ptsL xs m, e.1 ≠ rEn (xs.getD m 0)) ∧ ∀ e ∈ ptsL xs m ++ [(rEn (xs.getD m 0), m)], e.1 ≠ lEn (xs.getD (m + 1) 0) := by
  have far : ∀ {i j : Nat} {a b : Nat}, i < xs.length → j < xs.length → ((xs.getD i 0).natAbs, a) = ((xs.getD j 0).natAbs, b) → i = j := fun hi hj h => absA_inj hn hi hj (congrArg Prod.fst h)
  refine ⟨fun e he q => ?_, fun e he q => ?_⟩
  · obtain ⟨k, hk, _, h⟩ := ptsL_fst he
    rcases h with h | h
    · have := far (by omega) (by omega) (h.symm.trans q)
      omega
    · have e1 := far (by omega) (by omega) (h.symm.trans q)
      have h2 := h.symm.trans q
      rw [e1] at h2
      exact rl_ne _ h2.symm
  · rcases List.mem_append.mp he with he | he
    · obtain ⟨k, hk, _, h⟩ := ptsL_fst he
      rcases h with h | h
      · have := far (by omega) (by omega) (h.symm.trans q)
        omega
      · have := far (by omega) (by omega) (h.symm.trans q)
        omega
    · rw [List.mem_singleton.mp he] at q
      have := far (by omega) (by omega) q
      omega
/-- the point of an end -/
def ptF (xs : List Int) (q : Nat × Nat) : Nat := (((ptsL xs (xs.length - 1)).find? fun e => decide (e.1 = q)).map fun e => e.2).getD 0
theorem ends_all {xs : List Int} (h : Num0 xs) {v s : Nat} (hv : v < xs.length) (hs : s = 0 ∨ s = 1) (h0 : ¬ (v = 0 ∧ s = 0)) (h1 : ¬ (v = xs.length - 1 ∧ s = 1)) : ∃ e ∈ ptsL xs (xs.length - 1), e.1 = (v, s) := by
  have hl := h.l
  have g0 : xs.getD 0 0 = 0 := by
    have := h.e.1
    rw [List.head?_eq_getElem?] at this
    rw [List.getD_eq_getElem?_getD, this]
    rfl
  have g1 : xs.getD (xs.length - 1) 0 = (xs.length : Int) - 1 := by
    have := h.e.2
    rw [List.getLast?_eq_getElem?] at this
    rw [List.getD_eq_getElem?_getD, this]
    rfl
  have f : SpanF xs 0 (xs.length - 1) 0 (xs.length - 1) := ⟨fun i _ i2 => by
    refine ⟨Nat.zero_le _, ?_⟩
    have := h.g.2 xs[i] (List.getElem_mem (by omega))
    unfold absA
    rw [List.getD_eq_getElem?_getD, List.getElem?_eq_getElem (by omega : i < xs.length)]
    show (xs[i]).natAbs ≤ _
    omega, by omega, .inl ⟨by rw [g0]; rfl, by rw [g1]; omega⟩⟩
  obtain ⟨q, _, hq, ev⟩ := f.full h.g.1 (by omega) (by omega) (Nat.zero_le v) (by omega)
  have ev : (xs.getD q 0).natAbs = v := ev
  have mem : ∀ {k : Nat} {e : (Nat × Nat) × Nat}, k < xs.length - 1 → e ∈ [(rEn (xs.getD k 0), k), (lEn (xs.getD (k + 1) 0), k)] → e ∈ ptsL xs (xs.length - 1) := fun {k e} hk he => List.mem_flatMap.mpr ⟨k, List.mem_range.mpr hk, he⟩
  by_cases c : s = sdI (decide (0 ≤ xs.getD q 0))
  · by_cases hq2 : q = xs.length - 1
    · exfalso
      rw [hq2, g1] at ev c
      rw [decide_eq_true (by omega)] at c
      exact h1 ⟨by omega, c⟩
    · exact ⟨_, mem (k := q) (by omega) List.mem_cons_self, by unfold rEn; rw [ev, ← c]⟩
  · have c2 : s = sdI (decide (xs.getD q 0 < 0)) := by
      unfold sdI at c ⊢
      by_cases d : 0 ≤ xs.getD q 0
      · rw [decide_eq_true d] at c
        rw [decide_eq_false (by omega)]
        simp at c ⊢
        omega
      · rw [decide_eq_false d] at c
        rw [decide_eq_true (by omega)]
        simp at c ⊢
        omega
    by_cases hq0 : q = 0
    · exfalso
      rw [hq0, g0] at ev c2
      exact h0 ⟨by rw [← ev]; rfl, by rw [c2]; rfl⟩
    · refine ⟨(lEn (xs.getD (q - 1 + 1) 0), q - 1), mem (k := q - 1) (by omega) (List.mem_cons_of_mem _ List.mem_cons_self), ?_⟩
      rw [show q - 1 + 1 = q by omega]
      unfold lEn
      rw [ev, ← c2]
theorem pt_lt {xs : List Int} (h : Num0 xs) (q : Nat × Nat) : ptF xs q < xs.length - 1 := by
  have hl := h.l
  unfold ptF
  cases c : (ptsL xs (xs.length - 1)).find? fun e => decide (e.1 = q) with
  | none =>
    show 0 < _
    omega
  | some e =>
    obtain ⟨k, hk, e2, _⟩ := ptsL_fst (List.mem_of_find?_eq_some c)
    show e.2 < _
    omega
theorem pt_look {xs : List Int} {q : Nat × Nat} (h : ∃ e ∈ ptsL xs (xs.length - 1), e.1 = q) : lookD (kdsQ (ptsL xs (xs.length - 1))) (keyP q) = some (.int (ptF xs q : Nat)) := by
  rw [look_kdsQ]
  unfold ptF
  cases c : (ptsL xs (xs.length - 1)).find? fun e => decide (e.1 = q) with
  | none =>
    obtain ⟨e, he, e1⟩ := h
    have := List.find?_eq_none.mp c e he
    simp [e1] at this
  | some e => rfl
/-- to which points a point is tied, by the ends ahead -/
def tieF (xs : List Int) (X k : Nat) : List Nat := (List.range X).flatMap fun x => (if ptF xs (x, 1) = k then [ptF xs (x + 1, 0)] else []) ++ (if ptF xs (x + 1, 0) = k then [ptF xs (x, 1)] else [])
def tieL (xs : List Int) (X : Nat) : List (List Nat) := (List.range (xs.length - 1)).map (tieF xs X)
theorem pForA_inv {G : TG'} {B : MSA} {Dp : MEndsA} {ds : List D} {g : NGA} {env : List SV} (I : Nat → NGA → List SV → Prop) (h0 : I 0 g env)
    (hs : ∀ i d, ds[i]? = some d → ∀ g env, I i g env → ∀ K : NGA → List SV → Prop, (∀ g' env', I (i + 1) g' env' → K g' env') → G d env fun env1 => B { Dp with nx := K, ct := K, bk := Dp.nx } g env1)
    (hd : ∀ g env, I ds.length g env → Dp.nx g env) : pForA G B Dp ds g env := by
  have key : ∀ (n i : Nat) (g : NGA) (env : List SV), i + n = ds.length → I i g env → pForA G B Dp (ds.drop i) g env := by
    intro n
    induction n with
    | zero =>
      intro i g env h hi
      have : ds.drop i = [] := by rw [List.drop_eq_nil_iff]; omega
      rw [this]
      have e : i = ds.length := by omega
      rw [e] at hi
      exact hd g env hi
    | succ n ih =>
      intro i g env h hi
      have hlt : i < ds.length := by omega
      rw [List.drop_eq_getElem_cons hlt]
      exact hs i ds[i] (List.getElem?_eq_getElem hlt) g env hi (fun g' env' => pForA G B Dp (ds.drop (i + 1)) g' env') fun g' env' h' => ih (i + 1) g' env' (by omega) h'
  exact key ds.length 0 g env (by omega) h0
theorem set_add {m a b : Nat} {f : Nat → List Nat} (h : a < m) : ((List.range m).map fun k => natsD (f k)).set a (natsD (f a) ++ [.int (b : Nat)]) = (List.range m).map fun k => natsD (f k ++ if a = k then [b] else []) := by
  apply List.ext_getElem?
  intro i
  by_cases c : a = i
  · subst c
    rw [List.getElem?_set_self (by rw [List.length_map, List.length_range]; exact h), List.getElem?_map, List.getElem?_range h]
    show some _ = some (natsD (f a ++ if a = a then [b] else []))
    rw [if_pos rfl]
    unfold natsD
    rw [List.map_append]
    rfl
  · rw [List.getElem?_set_ne c, List.getElem?_map, List.getElem?_map]
    cases q : (List.range m)[i]? with
    | none => rfl
    | some j =>
      have : j = i := by
        obtain ⟨h1, h2⟩ := List.getElem?_eq_some_iff.mp q
        rw [List.getElem_range] at h2
        exact h2.symm
      subst this
      show some _ = some (natsD (f j ++ if a = j then [b] else []))
      rw [if_neg c, List.append_nil]
theorem tieF_succ (xs : List Int) (X k : Nat) : tieF xs (X + 1) k = (tieF xs X k ++ if ptF xs (X, 1) = k then [ptF xs (X + 1, 0)] else []) ++ if ptF xs (X + 1, 0) = k then [ptF xs (X, 1)] else [] := by
  unfold tieF
  rw [List.range_succ, List.flatMap_append, List.append_assoc]
  congr 1
  exact List.append_nil _
theorem tieF_len (xs : List Int) : ∀ X k : Nat, (tieF xs X k).length ≤ 2 * X
  | 0, _ => Nat.le_refl 0
  | X + 1, k => by
    have ih := tieF_len xs X k
    rw [tieF_succ, List.length_append, List.length_append]
    split <;> split <;> simp <;> omega
def sp_tied_points : PSp := fun fl ds Q => fl = none ∧ ∃ xs : List Int, ds = [.list (xs.map .int)] ∧ Num0 xs ∧ xs.length ≤ 50 ∧ Q (.dt (.list ((tieL xs (xs.length - 1)).map fun ks => .list (natsD ks)))) none
abbrev N_tied_points : List Str := ["numbers", "points", "ties", "k", "x", "one", "other"]
def T_tied_points : PS' := (sSeq (sAsgD 1 true)
  (sNestA 2 (aSeq (aFor (iRg1 (qOp (gI dSub) (qCB gLen (qCons (qVar 0) qNil)) (qC (.int 1)))) (gN 3) (aSeq (aLift (sPutD 1 (qVar 3) (qCall sp_right_end_2 (qAddD (qCons (qOp gIx (qVar 0) (qVar 3)) qNil) []))))
  (aSeq (aLift (sPutD 1 (qVar 3) (qCall sp_left_end_2 (qAddD (qCons (qOp gIx (qVar 0) (qOp gAdd (qVar 3) (qC (.int 1)))) qNil) []))))
  (aPush 2 (fLst (qNil))))))
  (aSeq (aFor (iRg1 (qOp (gI dSub) (qCB gLen (qCons (qVar 0) qNil)) (qC (.int 1)))) (gN 4) (aSeq (aLift (sAsg 5 (qDGet (qVar 1) (qTup (qCons (qVar 4) (qCons (qC (.int 1)) qNil))))))
  (aSeq (aLift (sAsg 6 (qDGet (qVar 1) (qTup (qCons (qOp gAdd (qVar 4) (qC (.int 1))) (qCons (qC (.int 0)) qNil))))))
  (aSeq (aMO 2 gAppend (qVar 5) (qCons (qVar 6) qNil))
  (aMO 2 gAppend (qVar 6) (qCons (qVar 5) qNil))))))
  (aRet 2)))))
theorem pure_tied_points (fl : Option (List D)) (ds : List D) (Q : RV → Option (List D) → Prop) (_ : false = true ↔ fl ≠ none) (h : sp_tied_points fl ds Q) : T_tied_points (endsOf false Q) (startE false N_tied_points fl ds) := by
  obtain ⟨rfl, xs, rfl, hx, hl, k⟩ := h
  show T_tied_points _ [SV.dat (.list (xs.map .int)), SV.un, SV.un, SV.un, SV.un, SV.un, SV.un]
  unfold T_tied_points
  have hl2 := hx.l
  obtain ⟨m, hm⟩ : ∃ m, m = xs.length - 1 := ⟨_, rfl⟩
  refine sSeq_abs fun R hR => ?_
  walk_at "wy"
  subst hR
  refine ⟨by simp, fun p0 => ?_⟩
  unfold aSeq
  unfold aFor
  walk_at "wy"
  have ej : (((xs.map PyData.int).length : Int) - 1).toNat = m := by rw [List.length_map]; omega
  rw [ej]
  refine ⟨by rw [List.length_map]; omega, ?_⟩
  refine pForA_inv (fun i g env => g = (p0, (List.range i).map fun k => natsD (tieF xs 0 k)) ∧ ∃ y3, env = [SV.dat (.list (xs.map .int)), SV.dic true (kdsQ (ptsL xs i)), SV.raw (.ref p0), y3, SV.un, SV.un, SV.un]) ⟨rfl, _, rfl⟩ ?_ ?_
  · rintro i d hd g env ⟨rfl, y3, rfl⟩ K hK
    obtain ⟨hi, rfl⟩ := rgD_get hd
    rw [show ((0 : Int) + (i : Int)) = ((i : Nat) : Int) by omega]
    obtain ⟨n1, n2⟩ := pts_new hx.g.1 (m := i) (by omega)
    have pl : (ptsL xs i).length = 2 * i := by
      unfold ptsL
      rw [List.length_flatMap]
      simp only [List.length_cons, List.length_nil]
      rw [List.map_const', List.sum_replicate_nat, List.length_range]
      omega
    have g1 := int_at (xs := xs) (k := i) (by omega)
    have g2 := int_at (xs := xs) (k := i + 1) (by omega)
    refine ⟨by simp, ?_⟩
    unfold aLift
    walk_at "wy"
    refine ⟨_, g1, rfl, _, rfl, keyT_keyP _, ?_⟩
    have s1 : (kdsQ (ptsL xs i)).length < sizeLine := by
      unfold kdsQ
      rw [List.length_map, pl]
      exact sizeL (by omega)
    refine ⟨s1, _, g2, rfl, _, rfl, keyT_keyP _, ?_⟩
    rw [put_kdsQ n1, put_kdsQ n2]
    have s2 : (kdsQ (ptsL xs i ++ [(rEn (xs.getD i 0), i)])).length < sizeLine := by
      unfold kdsQ
      rw [List.length_map, List.length_append, pl]
      exact sizeL (by rw [List.length_singleton]; omega)
    refine ⟨s2, ?_⟩
    unfold aPush fLst qNil
    refine ⟨rfl, _, _, rfl, sizeL (by decide), ?_, hK _ _ ⟨?_, .dat (.int (i : Int)), ?_⟩⟩
    · rw [List.length_map, List.length_range]
      exact sizeL (by omega)
    · rw [List.range_succ, List.map_append]
      rfl
    · rw [ptsL_succ, List.append_assoc]
      rfl
  · rintro g env ⟨rfl, y3, rfl⟩
    walk_at "wy"
    refine ⟨by rw [List.length_map]; omega, ?_⟩
    rw [ej]
    have gm : (rgD 0 m).length = m := by simp [rgD]
    rw [gm]
    refine pForA_inv (fun i g env => g = (p0, (List.range m).map fun k => natsD (tieF xs i k)) ∧ ∃ y4 y5 y6, env = [SV.dat (.list (xs.map .int)), SV.dic true (kdsQ (ptsL xs m)), SV.raw (.ref p0), y3, y4, y5, y6]) ⟨rfl, _, _, _, rfl⟩ ?_ ?_
    · rintro x d hd g env ⟨rfl, y4, y5, y6, rfl⟩ K hK
      obtain ⟨hx2, rfl⟩ := rgD_get hd
      rw [show ((0 : Int) + (x : Int)) = ((x : Nat) : Int) by omega]
      refine ⟨by simp, ?_⟩
      unfold aLift
      walk_at "wy"
      have l1 := pt_look (xs := xs) (q := (x, 1)) (ends_all hx (by omega) (.inr rfl) (by omega) (by omega))
      have l2 := pt_look (xs := xs) (q := (x + 1, 0)) (ends_all hx (by omega) (.inl rfl) (by omega) (by omega))
      rw [← hm] at l1 l2
      refine ⟨sizeL (by decide), keyT_keyP (x, 1), _, l1, sizeL (by decide), keyT_keyP (x + 1, 0), _, l2, ?_⟩
      have b1 := pt_lt hx (x, 1)
      have b2 := pt_lt hx (x + 1, 0)
      rw [← hm] at b1 b2
      unfold aMO qVar qCons qNil
      have e1 : ((List.range m).map fun k => natsD (tieF xs x k))[ptF xs (x, 1)]? = some (natsD (tieF xs x (ptF xs (x, 1)))) := by
        rw [List.getElem?_map, List.getElem?_range b1]
        rfl
      have t1 := tieF_len xs x (ptF xs (x, 1))
      have ap : ∀ (ds : List D) (y : D), ds.length ≤ 200 → gAppend ds [y] = some (.none, ds ++ [y]) := fun ds y h => if_pos (sizeL (show ds.length < 16777216 by omega))
      refine ⟨rfl, ⟨_, rfl⟩, _, rfl, _, e1, ⟨_, rfl⟩, _, _, rfl, _, _, ap _ _ (by unfold natsD; rw [List.length_map]; omega), rfl, ⟨_, rfl⟩, _, rfl, ?_⟩
      rw [set_add (f := tieF xs x) b1]
      have t2 : (tieF xs x (ptF xs (x + 1, 0)) ++ if ptF xs (x, 1) = ptF xs (x + 1, 0) then [ptF xs (x + 1, 0)] else []).length ≤ 2 * x + 1 := by
        rw [List.length_append]
        have := tieF_len xs x (ptF xs (x + 1, 0))
        split <;> simp <;> omega
      refine ⟨natsD (tieF xs x (ptF xs (x + 1, 0)) ++ if ptF xs (x, 1) = ptF xs (x + 1, 0) then [ptF xs (x + 1, 0)] else []), ?_, ⟨_, rfl⟩, _, _, rfl, _, _, ap _ _ (by unfold natsD; rw [List.length_map]; omega), hK _ _ ⟨?_, _, _, _, rfl⟩⟩
      · rw [List.getElem?_map, List.getElem?_range b2]
        rfl
      · rw [set_add (f := fun k => tieF xs x k ++ if ptF xs (x, 1) = k then [ptF xs (x + 1, 0)] else []) b2]
        congr 2
        funext k
        rw [tieF_succ]
    · rintro g env ⟨rfl, y4, y5, y6, rfl⟩
      rw [gm]
      unfold aRet
      refine ⟨rfl, ?_⟩
      have : ((List.range m).map fun k => natsD (tieF xs m k)).map PyData.list = (tieL xs (xs.length - 1)).map fun ks => PyData.list (natsD ks) := by
        unfold tieL
        rw [← hm, List.map_map, List.map_map]
        rfl
      show Q (.dt (.list (((List.range m).map fun k => natsD (tieF xs m k)).map PyData.list))) none
      rw [this]
      exact k

end Sw

open PySem PySem.Spec L2 Sw
namespace Sw
theorem gIn_nats (a : Nat) (l : List Nat) : gIn true (.int (a : Int)) (.list (natsD l)) = some (.bool (!decide (a ∈ l))) := by
  have h1 : ∀ d ∈ natsD l, Hn 0 d := fun d hd => by
    obtain ⟨s, _, rfl⟩ := List.mem_map.mp hd
    trivial
  have h2 : okD (.list (natsD l)) = true := Hn.okD (n := 1) h1 (by omega)
  have h3 : okD (.int (a : Int)) = true := Hn.okD (n := 0) trivial (by omega)
  show (if okD (PyData.int (a : Int)) = true ∧ okD (PyData.list (natsD l)) = true then some (inB true (PyData.int (a : Int)) (natsD l)) else none) = _
  rw [if_pos ⟨h3, h2⟩]
  have e : ((natsD l).any fun z => PyData.eqv z (.int (a : Int))) = decide (a ∈ l) := by
    rw [Bool.eq_iff_iff, List.any_eq_true, decide_eq_true_eq]
    constructor
    · rintro ⟨z, hz, e⟩
      obtain ⟨b, hb, rfl⟩ := List.mem_map.mp hz
      have := (eqv_hn 0 (.int (b : Int)) (.int (a : Int)) trivial trivial).mp e
      injection this with this
      have : b = a := by omega
      exact this ▸ hb
    · exact fun h => ⟨_, List.mem_map.mpr ⟨a, h, rfl⟩, (eqv_hn 0 (.int (a : Int)) (.int (a : Int)) trivial trivial).mpr rfl⟩
  show some (PyData.bool (!((natsD l).any fun z => PyData.eqv z (.int (a : Int))))) = _
  rw [e]
inductive Reach (ties : List (List Nat)) (p : Nat) : Nat → Prop
  | base : Reach ties p p
  | step {x y : Nat} : Reach ties p x → y ∈ ties.getD x [] → Reach ties p y
def tiesD (ties : List (List Nat)) : D := .list (ties.map fun l => .list (natsD l))
theorem gIx_ties {ties : List (List Nat)} {q : Nat} (h : q < ties.length) : gIx (tiesD ties) (.int (q : Nat)) = some (.list (natsD (ties.getD q []))) := by
  show atI _ _ = _
  rw [atI_at (by omega), Int.toNat_natCast, List.getElem?_map, List.getElem?_eq_getElem h, List.getD_eq_getElem?_getD, List.getElem?_eq_getElem h]
  rfl
theorem Reach.lt {ties : List (List Nat)} {p : Nat} (hp : p < ties.length) (h : ∀ l ∈ ties, ∀ y ∈ l, y < ties.length) {x : Nat} (r : Reach ties p x) : x < ties.length := by
  induction r with
  | base => exact hp
  | step _ hy ih =>
    rw [List.getD_eq_getElem?_getD, List.getElem?_eq_getElem ih] at hy
    exact h _ (List.getElem_mem ih) _ hy
theorem pWh_fuel2 {c : PT'} {B : PS'} {Dp : PEnds} {env : List SV} (I : Nat → List SV → Prop) (n : Nat) (h0 : I n env)
    (hs : ∀ m env, I m env → ∀ K : List SV → Prop, (∀ m' env', m' < m → I m' env' → K env') → c env fun b env1 => if b = true then B { Dp with nx := K, ct := K, bk := Dp.nx } env1 else Dp.nx env1) : sWh c B Dp env := by
  have key : ∀ (k m : Nat) (env : List SV), I m env → m < k → pWh c B Dp k env := by
    intro k
    induction k with
    | zero => intro m env _ h; omega
    | succ k ih =>
      intro m env hi hm
      exact hs m env hi (fun env' => pWh c B Dp k env') fun m' env' hm' h' => ih m' env' h' (by omega)
  exact ⟨n + 1, key (n + 1) n env h0 (Nat.lt_succ_self _)⟩
theorem lt_few {m : Nat} {F : List Nat} (h : F.Nodup) (l : ∀ x ∈ F, x < m) : F.length ≤ m := by
  have := nodup_few h (ys := List.range m) fun x hx => List.mem_range.mpr (l x hx)
  rwa [List.length_range] at this
def sp_ring_of : PSp := fun fl ds Q => fl = none ∧ ∃ (ties : List (List Nat)) (p : Nat), ds = [tiesD ties, .int (p : Nat)] ∧ (∀ l ∈ ties, l.length ≤ 200 ∧ ∀ y ∈ l, y < ties.length) ∧ p < ties.length ∧ ties.length ≤ 50 ∧ ∀ r : List Nat, r.Pairwise (· < ·) → (∀ x, x ∈ r ↔ Reach ties p x) → Q (.fr (natsD r)) none
abbrev N_ring_of : List Str := ["ties", "point", "found", "at", "other"]
def T_ring_of : PS' := (sSeq (sAsgF 2 (fLst (qCons (qVar 1) qNil)))
  (sSeq (sAsg 3 (qC (.int 0)))
  (sSeq (sWh (qTest (qOp gLt (qVar 3) (qCB gLen (qCons (qVar 2) qNil)))) (sSeq (sFor (iAny (qOp gIx (qVar 0) (qOp gIx (qVar 2) (qVar 3)))) (gN 4) (sIf (qTest (qOp (gIn true) (qVar 4) (qVar 2))) (sDrop (qMO 2 gAppend (qCons (qVar 4) qNil))) sNil))
  (sAug 3 (qC (.int 1)))))
  (sRetF (fCB gSortD (qCons (qVar 2) qNil))))))
theorem pure_ring_of (fl : Option (List D)) (ds : List D) (Q : RV → Option (List D) → Prop) (_ : false = true ↔ fl ≠ none) (h : sp_ring_of fl ds Q) : T_ring_of (endsOf false Q) (startE false N_ring_of fl ds) := by
  obtain ⟨rfl, ties, p, rfl, ht, hp, hl, k⟩ := h
  show T_ring_of _ [SV.dat (tiesD ties), SV.dat (.int (p : Nat)), SV.un, SV.un, SV.un]
  unfold T_ring_of sAug
  walk_at "wy"
  refine ⟨sizeL (by decide), ?_⟩
  have rl : ∀ {x}, Reach ties p x → x < ties.length := fun h => h.lt hp fun l hl => (ht l hl).2
  refine pWh_fuel2 (fun n env => ∃ (F : List Nat) (a : Nat) (y : SV), env = [SV.dat (tiesD ties), SV.dat (.int (p : Nat)), SV.own false (natsD F), SV.dat (.int (a : Nat)), y] ∧ F.Nodup ∧ p ∈ F ∧ a ≤ F.length ∧ n = 50 - a ∧ (∀ x ∈ F, Reach ties p x) ∧ ∀ i, i < a → ∀ y ∈ ties.getD (F.getD i 0) [], y ∈ F) 50 ⟨[p], 0, SV.un, rfl, by simp, List.mem_singleton.mpr rfl, Nat.zero_le _, rfl, fun x hx => by rw [List.mem_singleton.mp hx]; exact .base, fun i hi => absurd hi (Nat.not_lt_zero i)⟩ ?_
  rintro n env ⟨F, a, y, rfl, hF, hpF, ha, rfl, hr, hc⟩ K hK
  have Fl : F.length ≤ 50 := Nat.le_trans (lt_few hF fun x hx => rl (hr x hx)) hl
  walk_at "wy"
  have el : ((natsD F).length : Int) = (F.length : Nat) := by unfold natsD; rw [List.length_map]
  rw [el]
  by_cases c : (a : Int) < (F.length : Nat)
  · have c' : a < F.length := by omega
    rw [if_pos c]
    have mF : F.getD a 0 ∈ F := by
      rw [List.getD_eq_getElem?_getD, List.getElem?_eq_getElem c']
      exact List.getElem_mem c'
    have Fa := rl (hr _ mF)
    have ml : ties.getD (F.getD a 0) [] ∈ ties := by
      rw [List.getD_eq_getElem?_getD, List.getElem?_eq_getElem Fa]
      exact List.getElem_mem Fa
    have e1 : atI (natsD F) (a : Int) = some (.int (F.getD a 0 : Nat)) := by
      unfold natsD
      rw [atI_at (by omega), Int.toNat_natCast, List.getElem?_map, List.getElem?_eq_getElem c', List.getD_eq_getElem?_getD, List.getElem?_eq_getElem c']
      rfl
    have e2 := gIx_ties Fa
    obtain ⟨l, lE⟩ : ∃ l, ties.getD (F.getD a 0) [] = l := ⟨_, rfl⟩
    rw [lE] at e2 ml
    refine ⟨_, e1, _, e2, _, rfl, ?_⟩
    refine pFor_inv (fun j env => ∃ (G : List Nat) (y : SV), env = [SV.dat (tiesD ties), SV.dat (.int (p : Nat)), SV.own false (natsD G), SV.dat (.int (a : Nat)), y] ∧ G.Nodup ∧ F <+: G ∧ (∀ x ∈ G, Reach ties p x) ∧ ∀ x ∈ l.take j, x ∈ G) ⟨F, _, rfl, hF, List.prefix_refl F, hr, fun x hx => by rw [List.take_zero] at hx; cases hx⟩ ?_ ?_
    · rintro j d hd env ⟨G, y, rfl, hG, fG, rG, tG⟩ K2 hK2
      obtain ⟨z, hz, rfl⟩ : ∃ z, l[j]? = some z ∧ d = .int (z : Nat) := by
        unfold natsD at hd
        rw [List.getElem?_map] at hd
        cases q : l[j]? with
        | none => rw [q] at hd; cases hd
        | some z => rw [q] at hd; injection hd with hd; exact ⟨z, rfl, hd.symm⟩
      have zl : z ∈ l := List.mem_of_getElem? hz
      have tk : l.take (j + 1) = l.take j ++ [z] := by rw [List.take_add_one, hz]; rfl
      have rz : Reach ties p z := .step (hr _ mF) (lE.symm ▸ zl)
      have Gl : G.length ≤ 50 := Nat.le_trans (lt_few hG fun x hx => rl (rG x hx)) hl
      refine ⟨by simp, ?_⟩
      walk_at "wy"
      refine ⟨_, gIn_nats z G, _, rfl, ?_⟩
      by_cases c2 : z ∈ G
      · rw [decide_eq_true c2]
        walk_at "wy"
        refine hK2 _ ⟨G, _, rfl, hG, fG, rG, fun x hx => ?_⟩
        rw [tk] at hx
        rcases List.mem_append.mp hx with hx | hx
        · exact tG x hx
        · exact List.mem_singleton.mp hx ▸ c2
      · rw [decide_eq_false c2]
        walk_at "wy"
        have ga : natsD G ++ [PyData.int (z : Nat)] = natsD (G ++ [z]) := by
          unfold natsD
          rw [List.map_append]
          rfl
        rw [ga]
        have gl : (natsD G).length < sizeLine := by
          unfold natsD
          rw [List.length_map]
          exact sizeL (by omega)
        refine ⟨gl, hK2 _ ⟨G ++ [z], _, rfl, ?_, fG.trans (List.prefix_append G [z]), fun x hx => ?_, fun x hx => ?_⟩⟩
        · refine List.nodup_append.mpr ⟨hG, by simp, fun u hu v hv e => ?_⟩
          rw [List.mem_singleton.mp hv] at e
          exact c2 (e ▸ hu)
        · rcases List.mem_append.mp hx with hx | hx
          · exact rG x hx
          · exact List.mem_singleton.mp hx ▸ rz
        · rw [tk] at hx
          rcases List.mem_append.mp hx with hx | hx
          · exact List.mem_append_left _ (tG x hx)
          · exact List.mem_append_right _ hx
    · rintro env ⟨G, y, rfl, hG, fG, rG, tG⟩
      walk_at "wy"
      rw [show l.take (natsD l).length = l by unfold natsD; rw [List.length_map, List.take_length]] at tG
      obtain ⟨Z, rfl⟩ := fG
      have gE : ∀ i, i < F.length → (F ++ Z).getD i 0 = F.getD i 0 := fun i hi => by
        rw [List.getD_eq_getElem?_getD, List.getD_eq_getElem?_getD, List.getElem?_append_left hi]
      refine ⟨_, rfl, hK (50 - (a + 1)) _ (by omega) ⟨F ++ Z, a + 1, y, rfl, hG, List.mem_append_left _ hpF, by rw [List.length_append]; omega, rfl, rG, fun i hi w hw => ?_⟩⟩
      rw [gE i (by omega)] at hw
      by_cases ia : i = a
      · subst ia
        rw [lE] at hw
        exact tG w hw
      · exact List.mem_append_left _ (hc i (by omega) w hw)
  · rw [if_neg c]
    obtain ⟨B, hp1, hs, hB⟩ := srt_nats F hF
    refine ⟨_, ?_, k B hs fun x => ?_⟩
    · show (if okSort (F.map fun (n : Nat) => PyData.int (n : Int)) = true then some (srtD (F.map fun (n : Nat) => PyData.int (n : Int))) else none) = _
      rw [if_pos (okSort_nats _), hB]
      rfl
    · rw [hp1.mem_iff]
      refine ⟨hr x, fun h => ?_⟩
      induction h with
      | base => exact hpF
      | step _ hy ih =>
        obtain ⟨i, hi, rfl⟩ := List.getElem_of_mem ih
        refine hc i (by omega) _ ?_
        rw [show F.getD i 0 = F[i] by rw [List.getD_eq_getElem?_getD, List.getElem?_eq_getElem hi]; rfl]
        exact hy

end Sw

open PySem PySem.Spec L2 Sw
namespace Sw
open Classical in
/-- the ring of a point, rising -/
noncomputable def ringL (ties : List (List Nat)) (k : Nat) : List Nat := (List.range ties.length).filter fun x => decide (Reach ties k x)
open Classical in
theorem ringL_mem {ties : List (List Nat)} {k x : Nat} : x ∈ ringL ties k ↔ x < ties.length ∧ Reach ties k x := by
  unfold ringL
  rw [List.mem_filter, List.mem_range, decide_eq_true_eq]
theorem ringL_lt (ties : List (List Nat)) (k : Nat) : (ringL ties k).Pairwise (· < ·) := List.pairwise_lt_range.filter _
theorem up_one {A B : List Nat} (h1 : A.Pairwise (· < ·)) (h2 : B.Pairwise (· < ·)) (h : ∀ x, x ∈ A ↔ x ∈ B) : A = B := by
  have n1 : A.Nodup := h1.imp fun q => Nat.ne_of_lt q
  have n2 : B.Nodup := h2.imp fun q => Nat.ne_of_lt q
  have p : A.Perm B := (List.perm_ext_iff_of_nodup n1 n2).mpr h
  exact p.eq_of_pairwise (fun a b _ _ q1 q2 => by omega) h1 h2
/-- the rings by the points ahead -/
noncomputable def ringsL (ties : List (List Nat)) : Nat → List (List Nat)
  | 0 => []
  | k + 1 => ringsL ties k ++ if k ∈ (ringsL ties k).flatten then [] else [ringL ties k]
theorem eqv_nat (x y : Nat) : PyData.eqv (.int (x : Int)) (.int (y : Int)) = decide (x = y) := by
  have : PyData.eqv (.int (x : Int)) (.int (y : Int)) = decide ((x : Int) = (y : Int)) := rfl
  rw [this]
  by_cases c : x = y
  · rw [decide_eq_true c, decide_eq_true (by omega)]
  · rw [decide_eq_false c, decide_eq_false (by omega)]
/-- the points met -/
def metK (U : List Nat) : List (D × D) := U.map fun (u : Nat) => (.int (u : Int), .bool true)
theorem look_met (x : Nat) : ∀ U : List Nat, (lookD (metK U) (.int (x : Int))).isSome = decide (x ∈ U)
  | [] => rfl
  | u :: r => by
    have ih := look_met x r
    show (lookD ((.int (u : Int), .bool true) :: metK r) (.int (x : Int))).isSome = _
    rw [lookD_cons, eqv_nat]
    by_cases c : u = x
    · simp [c]
    · simp only [c, decide_false, Bool.false_eq_true, if_false]
      rw [ih]
      simp [Ne.symm c]
theorem put_met (U : List Nat) (x : Nat) : putD (metK U) (.int (x : Int)) (.bool true) = metK (if x ∈ U then U else U ++ [x]) := by
  unfold putD
  rw [look_met]
  by_cases c : x ∈ U
  · rw [if_pos (decide_eq_true c), if_pos c]
    unfold metK
    rw [List.map_map]
    refine List.map_congr_left fun u _ => ?_
    show (if _ then _ else _) = _
    split <;> rfl
  · rw [if_neg (by simpa using c), if_neg c]
    unfold metK
    rw [List.map_append]
    rfl
theorem tieL_ok {xs : List Int} (h : Num0 xs) (hl : xs.length ≤ 50) : ∀ l ∈ tieL xs (xs.length - 1), l.length ≤ 200 ∧ ∀ y ∈ l, y < (tieL xs (xs.length - 1)).length := fun l hl2 => by
  have tl : (tieL xs (xs.length - 1)).length = xs.length - 1 := by unfold tieL; rw [List.length_map, List.length_range]
  rw [tl]
  obtain ⟨k, _, rfl⟩ := List.mem_map.mp hl2
  have := tieF_len xs (xs.length - 1) k
  refine ⟨by omega, fun y hy => ?_⟩
  unfold tieF at hy
  obtain ⟨x, _, hy⟩ := List.mem_flatMap.mp hy
  rcases List.mem_append.mp hy with hy | hy
  · split at hy
    · rw [List.mem_singleton.mp hy]; exact pt_lt h _
    · cases hy
  · split at hy
    · rw [List.mem_singleton.mp hy]; exact pt_lt h _
    · cases hy
end Sw

open PySem PySem.Spec L2 Sw
namespace Sw
def backV (k : Nat) (x : Int) : Int := if x < 0 then 0 - (k : Int) else (k : Int)
end Sw

open PySem PySem.Spec L2 Sw
namespace Sw
structure Gone {α : Type} (E : α → Prop) (pt : α → Nat) (pa ot : α → α) : Prop where
  paE : ∀ q, E q → E (pa q)
  otE : ∀ q, E q → E (ot q)
  pa2 : ∀ q, E q → pa (pa q) = q
  ot2 : ∀ q, E q → ot (ot q) = q
  paN : ∀ q, E q → pa q ≠ q
  otN : ∀ q, E q → ot q ≠ q
  otP : ∀ q, E q → pt (ot q) = pt q
  two : ∀ q r, E q → E r → pt q = pt r → r = q ∨ r = ot q
section
variable {α : Type} {E : α → Prop} {pt : α → Nat} {pa ot : α → α}
def goE (pa ot : α → α) (q : α) : Nat → α
  | 0 => q
  | n + 1 => ot (pa (goE pa ot q n))
theorem Gone.go (g : Gone E pt pa ot) {q : α} (h : E q) : ∀ n, E (goE pa ot q n)
  | 0 => h
  | n + 1 => g.otE _ (g.paE _ (g.go h n))
theorem Gone.inj (g : Gone E pt pa ot) {q r : α} (hq : E q) (hr : E r) (e : ot (pa q) = ot (pa r)) : q = r := by
  have e1 := congrArg ot e
  rw [g.ot2 _ (g.paE _ hq), g.ot2 _ (g.paE _ hr)] at e1
  have e2 := congrArg pa e1
  rwa [g.pa2 _ hq, g.pa2 _ hr] at e2
theorem Gone.no (g : Gone E pt pa ot) {q : α} (h : E q) : ∀ (d a : Nat), goE pa ot q (a + d + 1) ≠ ot (goE pa ot q a) := by
  intro d
  induction d using Nat.strongRecOn with
  | _ d ih =>
    intro a e
    have e1 := congrArg ot e
    have hb := g.go h (a + d)
    have ha := g.go h a
    rw [show goE pa ot q (a + d + 1) = ot (pa (goE pa ot q (a + d))) from rfl, g.ot2 _ (g.paE _ hb), g.ot2 _ ha] at e1
    match d, ih, e1, hb with
    | 0, _, e1, hb => exact g.paN _ hb e1
    | 1, _, e1, hb =>
      have e2 : goE pa ot q (a + 1) = ot (pa (goE pa ot q a)) := rfl
      rw [← e1, g.pa2 _ hb] at e2
      exact g.otN _ hb e2.symm
    | d + 2, ih, e1, hb =>
      have e2 : goE pa ot q (a + 1) = ot (pa (goE pa ot q a)) := rfl
      rw [← e1, g.pa2 _ hb] at e2
      have e3 := congrArg ot e2
      rw [g.ot2 _ hb] at e3
      refine ih d (by omega) (a + 1) ?_
      rw [e3]
      congr 1
      omega
/-- the first point that comes again is the first point; there the round closes -/
theorem Gone.back (g : Gone E pt pa ot) {q : α} (h : E q) {a b : Nat} (hab : a < b) (e : pt (goE pa ot q b) = pt (goE pa ot q a)) (hd : ∀ i j, i < j → j < b → pt (goE pa ot q i) ≠ pt (goE pa ot q j)) : a = 0 ∧ goE pa ot q b = q := by
  rcases g.two _ _ (g.go h a) (g.go h b) e.symm with e1 | e1
  · cases a with
    | zero => exact ⟨rfl, e1⟩
    | succ a =>
      obtain ⟨b, rfl⟩ : ∃ b', b = b' + 1 := ⟨b - 1, by omega⟩
      have := g.inj (g.go h b) (g.go h a) e1
      exact absurd (congrArg pt this.symm) (hd a b (by omega) (by omega))
  · obtain ⟨d, rfl⟩ : ∃ d, b = a + d + 1 := ⟨b - a - 1, by omega⟩
    exact absurd e1 (g.no h d a)
/-- what is met before is closed -/
theorem Gone.closed (g : Gone E pt pa ot) {q : α} (h : E q) {b : Nat} (hb : 0 < b) (e : goE pa ot q b = q) {i : Nat} (hi : i < b) {r : α} (hr : E r) (er : pt r = pt (goE pa ot q i)) : ∃ j, j < b ∧ pt (pa r) = pt (goE pa ot q j) := by
  rcases g.two _ _ (g.go h i) hr er.symm with rfl | rfl
  · have e1 : pt (goE pa ot q (i + 1)) = pt (pa (goE pa ot q i)) := g.otP _ (g.paE _ (g.go h i))
    by_cases c : i + 1 < b
    · exact ⟨i + 1, c, e1.symm⟩
    · have : i + 1 = b := by omega
      rw [this, e] at e1
      exact ⟨0, hb, e1.symm⟩
  · have key : ∀ k, pt (pa (ot (goE pa ot q (k + 1)))) = pt (goE pa ot q k) := fun k => by
      show pt (pa (ot (ot (pa (goE pa ot q k))))) = _
      rw [g.ot2 _ (g.paE _ (g.go h k)), g.pa2 _ (g.go h k)]
    cases i with
    | zero =>
      obtain ⟨c, rfl⟩ : ∃ c, b = c + 1 := ⟨b - 1, by omega⟩
      have := key c
      rw [e] at this
      exact ⟨c, by omega, this⟩
    | succ i => exact ⟨i, by omega, key i⟩
end

end Sw

open PySem PySem.Spec L2 Sw
namespace Sw
structure EndP (xs : List Int) (q : Nat × Nat) : Prop where
  s : q.2 = 0 ∨ q.2 = 1
  l : q.1 < xs.length
  n0 : ¬ (q.1 = 0 ∧ q.2 = 0)
  n1 : ¬ (q.1 = xs.length - 1 ∧ q.2 = 1)
def besE (q : Nat × Nat) : Nat × Nat := if q.2 = 1 then (q.1 + 1, 0) else (q.1 - 1, 1)
def otE (xs : List Int) (q : Nat × Nat) : Nat × Nat := if q = rEn (xs.getD (ptF xs q) 0) then lEn (xs.getD (ptF xs q + 1) 0) else rEn (xs.getD (ptF xs q) 0)
theorem pt_spec {xs : List Int} (h : Num0 xs) {q : Nat × Nat} (hq : EndP xs q) : q = rEn (xs.getD (ptF xs q) 0) ∨ q = lEn (xs.getD (ptF xs q + 1) 0) := by
  obtain ⟨e, he, e1⟩ := ends_all h hq.l hq.s hq.n0 hq.n1
  unfold ptF
  cases c : (ptsL xs (xs.length - 1)).find? fun e => decide (e.1 = q) with
  | none =>
    have := List.find?_eq_none.mp c e he
    simp [e1] at this
  | some e2 =>
    have h1 := List.find?_some c
    have h1 : e2.1 = q := of_decide_eq_true h1
    obtain ⟨k, hk, e3, h2⟩ := ptsL_fst (List.mem_of_find?_eq_some c)
    show q = rEn (xs.getD e2.2 0) ∨ q = lEn (xs.getD (e2.2 + 1) 0)
    rw [e3, ← h1]
    exact h2
theorem rl_far {xs : List Int} (hn : NumOk xs) {i j : Nat} (hi : i < xs.length) (hj : j < xs.length) (h : rEn (xs.getD i 0) = lEn (xs.getD j 0)) : False := by
  have e : i = j := absA_inj hn hi hj (congrArg Prod.fst h)
  rw [e] at h
  exact rl_ne _ h
theorem pt_r {xs : List Int} (h : Num0 xs) {k : Nat} (hk : k < xs.length - 1) : ptF xs (rEn (xs.getD k 0)) = k := by
  have hm : ((rEn (xs.getD k 0), k) : (Nat × Nat) × Nat) ∈ ptsL xs (xs.length - 1) := List.mem_flatMap.mpr ⟨k, List.mem_range.mpr hk, List.mem_cons_self⟩
  unfold ptF
  cases c : (ptsL xs (xs.length - 1)).find? fun e => decide (e.1 = rEn (xs.getD k 0)) with
  | none =>
    have := List.find?_eq_none.mp c _ hm
    simp at this
  | some e2 =>
    have h1 := List.find?_some c
    have h1 : e2.1 = rEn (xs.getD k 0) := of_decide_eq_true h1
    obtain ⟨j, hj, e3, h2⟩ := ptsL_fst (List.mem_of_find?_eq_some c)
    show e2.2 = k
    rcases h2 with h2 | h2
    · rw [e3]
      exact absA_inj h.g.1 (by omega) (by omega) (congrArg Prod.fst (h2.symm.trans h1))
    · exact (rl_far h.g.1 (by omega) (by omega) (h1.symm.trans h2)).elim
theorem pt_l {xs : List Int} (h : Num0 xs) {k : Nat} (hk : k < xs.length - 1) : ptF xs (lEn (xs.getD (k + 1) 0)) = k := by
  have hm : ((lEn (xs.getD (k + 1) 0), k) : (Nat × Nat) × Nat) ∈ ptsL xs (xs.length - 1) := List.mem_flatMap.mpr ⟨k, List.mem_range.mpr hk, List.mem_cons_of_mem _ List.mem_cons_self⟩
  unfold ptF
  cases c : (ptsL xs (xs.length - 1)).find? fun e => decide (e.1 = lEn (xs.getD (k + 1) 0)) with
  | none =>
    have := List.find?_eq_none.mp c _ hm
    simp at this
  | some e2 =>
    have h1 := List.find?_some c
    have h1 : e2.1 = lEn (xs.getD (k + 1) 0) := of_decide_eq_true h1
    obtain ⟨j, hj, e3, h2⟩ := ptsL_fst (List.mem_of_find?_eq_some c)
    show e2.2 = k
    rcases h2 with h2 | h2
    · exact (rl_far h.g.1 (by omega) (by omega) (h2.symm.trans h1)).elim
    · have := absA_inj h.g.1 (i := j + 1) (j := k + 1) (by omega) (by omega) (congrArg Prod.fst (h2.symm.trans h1))
      omega
theorem gone_ends {xs : List Int} (h : Num0 xs) : Gone (EndP xs) (ptF xs) besE (otE xs) := by
  have hl := h.l
  have g0 : xs.getD 0 0 = 0 := by
    have := h.e.1
    rw [List.head?_eq_getElem?] at this
    rw [List.getD_eq_getElem?_getD, this]
    rfl
  have g1 : xs.getD (xs.length - 1) 0 = (xs.length : Int) - 1 := by
    have := h.e.2
    rw [List.getLast?_eq_getElem?] at this
    rw [List.getD_eq_getElem?_getD, this]
    rfl
  have sd : ∀ b : Bool, sdI b = 0 ∨ sdI b = 1 := fun b => by cases b <;> simp [sdI]
  have al : ∀ k, k < xs.length → (xs.getD k 0).natAbs < xs.length := fun k hk => by
    have := h.g.2 xs[k] (List.getElem_mem hk)
    rw [List.getD_eq_getElem?_getD, List.getElem?_eq_getElem hk]
    show (xs[k]).natAbs < _
    omega
  have eR : ∀ k, k < xs.length - 1 → EndP xs (rEn (xs.getD k 0)) := fun k hk => by
    refine ⟨sd _, al k (by omega), ?_, ?_⟩
    · rintro ⟨q1, q2⟩
      have q1 : (xs.getD k 0).natAbs = 0 := q1
      have q2 : sdI (decide (0 ≤ xs.getD k 0)) = 0 := q2
      rw [decide_eq_true (by omega)] at q2
      cases q2
    · rintro ⟨q1, q2⟩
      have q1 : (xs.getD k 0).natAbs = xs.length - 1 := q1
      have := absA_inj h.g.1 (i := k) (j := xs.length - 1) (by omega) (by omega) (show (xs.getD k 0).natAbs = (xs.getD (xs.length - 1) 0).natAbs by rw [q1, g1]; omega)
      omega
  have eL : ∀ k, k < xs.length - 1 → EndP xs (lEn (xs.getD (k + 1) 0)) := fun k hk => by
    refine ⟨sd _, al (k + 1) (by omega), ?_, ?_⟩
    · rintro ⟨q1, q2⟩
      have q1 : (xs.getD (k + 1) 0).natAbs = 0 := q1
      have := absA_inj h.g.1 (i := k + 1) (j := 0) (by omega) (by omega) (show (xs.getD (k + 1) 0).natAbs = (xs.getD 0 0).natAbs by rw [q1, g0]; rfl)
      omega
    · rintro ⟨q1, q2⟩
      have q1 : (xs.getD (k + 1) 0).natAbs = xs.length - 1 := q1
      have e := absA_inj h.g.1 (i := k + 1) (j := xs.length - 1) (by omega) (by omega) (show (xs.getD (k + 1) 0).natAbs = (xs.getD (xs.length - 1) 0).natAbs by rw [q1, g1]; omega)
      have q2 : sdI (decide (xs.getD (k + 1) 0 < 0)) = 1 := q2
      rw [e, g1, decide_eq_false (by omega)] at q2
      cases q2
  have otR : ∀ k, k < xs.length - 1 → otE xs (rEn (xs.getD k 0)) = lEn (xs.getD (k + 1) 0) := fun k hk => by
    unfold otE
    rw [pt_r h hk, if_pos rfl]
  have otL : ∀ k, k < xs.length - 1 → otE xs (lEn (xs.getD (k + 1) 0)) = rEn (xs.getD k 0) := fun k hk => by
    unfold otE
    rw [pt_l h hk, if_neg fun e => rl_far h.g.1 (by omega) (by omega) e.symm]
  have cs : ∀ q, EndP xs q → ∃ k, k < xs.length - 1 ∧ ptF xs q = k ∧ (q = rEn (xs.getD k 0) ∨ q = lEn (xs.getD (k + 1) 0)) := fun q hq => ⟨_, pt_lt h q, rfl, pt_spec h hq⟩
  refine ⟨fun q hq => ?_, fun q hq => ?_, fun q hq => ?_, fun q hq => ?_, fun q hq => ?_, fun q hq => ?_, fun q hq => ?_, fun q r hq hr e => ?_⟩
  · obtain ⟨v, s⟩ := q
    obtain ⟨h1, h2, h3, h4⟩ := hq
    simp only at h1 h2 h3 h4
    unfold besE
    split
    · rename_i c
      exact ⟨.inl rfl, by simp only at c ⊢; omega, by simp, by simp⟩
    · rename_i c
      exact ⟨.inr rfl, by simp only at c ⊢; omega, by simp, by simp only at c ⊢; omega⟩
  · obtain ⟨k, hk, _, rfl | rfl⟩ := cs q hq
    · rw [otR k hk]; exact eL k hk
    · rw [otL k hk]; exact eR k hk
  · obtain ⟨v, s⟩ := q
    obtain ⟨h1, h2, h3, h4⟩ := hq
    simp only at h1 h2 h3 h4
    unfold besE
    rcases h1 with rfl | rfl
    · simp; omega
    · simp
  · obtain ⟨k, hk, _, rfl | rfl⟩ := cs q hq
    · rw [otR k hk, otL k hk]
    · rw [otL k hk, otR k hk]
  · intro e
    have := congrArg Prod.snd e
    unfold besE at this
    split at this
    · rename_i c; rw [c] at this; cases this
    · rename_i c; exact c this.symm
  · obtain ⟨k, hk, _, rfl | rfl⟩ := cs q hq
    · rw [otR k hk]; exact fun e => rl_far h.g.1 (by omega) (by omega) e.symm
    · rw [otL k hk]; exact fun e => rl_far h.g.1 (by omega) (by omega) e
  · obtain ⟨k, hk, _, rfl | rfl⟩ := cs q hq
    · rw [otR k hk, pt_l h hk, pt_r h hk]
    · rw [otL k hk, pt_l h hk, pt_r h hk]
  · obtain ⟨k, hk, ek, hc⟩ := cs q hq
    obtain ⟨j, hj, ej, hc2⟩ := cs r hr
    have : j = k := by omega
    subst this
    rcases hc with rfl | rfl <;> rcases hc2 with rfl | rfl
    · exact .inl rfl
    · exact .inr (otR j hj).symm
    · exact .inr (otL j hj).symm
    · exact .inl rfl
/-- the ties, by the ends -/
theorem mem_tieF {xs : List Int} (hl : 2 ≤ xs.length) {p y : Nat} : y ∈ tieF xs (xs.length - 1) p ↔ ∃ q, EndP xs q ∧ ptF xs q = p ∧ ptF xs (besE q) = y := by
  unfold tieF
  rw [List.mem_flatMap]
  constructor
  · rintro ⟨x, hx, h⟩
    have hx := List.mem_range.mp hx
    rcases List.mem_append.mp h with h | h
    · split at h
      · rename_i c
        refine ⟨(x, 1), ⟨.inr rfl, by show x < _; omega, by simp, by simp only; omega⟩, c, ?_⟩
        rw [List.mem_singleton.mp h]
        rfl
      · cases h
    · split at h
      · rename_i c
        refine ⟨(x + 1, 0), ⟨.inl rfl, by show x + 1 < _; omega, by simp, by simp⟩, c, ?_⟩
        rw [List.mem_singleton.mp h]
        rfl
      · cases h
  · rintro ⟨⟨v, s⟩, ⟨h1, h2, h3, h4⟩, hp, hy⟩
    simp only at h1 h2 h3 h4
    rcases h1 with rfl | rfl
    · obtain ⟨x, rfl⟩ : ∃ x, v = x + 1 := ⟨v - 1, by omega⟩
      refine ⟨x, List.mem_range.mpr (by omega), List.mem_append_right _ ?_⟩
      rw [if_pos hp]
      exact List.mem_singleton.mpr hy.symm
    · refine ⟨v, List.mem_range.mpr (by omega), List.mem_append_left _ ?_⟩
      rw [if_pos hp]
      exact List.mem_singleton.mpr hy.symm
theorem tieL_get {xs : List Int} {p : Nat} (hp : p < xs.length - 1) : (tieL xs (xs.length - 1)).getD p [] = tieF xs (xs.length - 1) p := by
  unfold tieL
  rw [List.getD_eq_getElem?_getD, List.getElem?_map, List.getElem?_range hp]
  rfl
/-- the points gone through till the round closes are the ring -/
theorem reach_go {xs : List Int} (h : Num0 xs) {q : Nat × Nat} (hq : EndP xs q) {b : Nat} (hb : 0 < b) (e : goE besE (otE xs) q b = q) (x : Nat) : Reach (tieL xs (xs.length - 1)) (ptF xs q) x ↔ ∃ i, i < b ∧ x = ptF xs (goE besE (otE xs) q i) := by
  have g := gone_ends h
  constructor
  · intro r
    induction r with
    | base => exact ⟨0, hb, rfl⟩
    | step _ hy ih =>
      obtain ⟨i, hi, rfl⟩ := ih
      rw [tieL_get (pt_lt h _)] at hy
      obtain ⟨r, hr, hp, rfl⟩ := (mem_tieF h.l).mp hy
      exact g.closed hq hb e hi hr hp
  · rintro ⟨i, hi, rfl⟩
    clear hi hb e
    induction i with
    | zero => exact .base
    | succ i ih =>
      refine .step ih ?_
      rw [tieL_get (pt_lt h _)]
      exact (mem_tieF h.l).mpr ⟨_, g.go hq i, rfl, (g.otP _ (g.paE _ (g.go hq i))).symm⟩
/-- who is reached reaches back -/
theorem reach_sym {xs : List Int} (h : Num0 xs) {x y : Nat} (hx : x < xs.length - 1) (r : Reach (tieL xs (xs.length - 1)) x y) : Reach (tieL xs (xs.length - 1)) y x := by
  have g := gone_ends h
  have tr : ∀ {a b c : Nat}, Reach (tieL xs (xs.length - 1)) a b → Reach (tieL xs (xs.length - 1)) b c → Reach (tieL xs (xs.length - 1)) a c := fun r1 r2 => by
    induction r2 with
    | base => exact r1
    | step _ hy ih => exact .step ih hy
  induction r with
  | base => exact .base
  | step r1 hy ih =>
    have hlt := r1.lt (by unfold tieL; rw [List.length_map, List.length_range]; exact hx) fun l hl y hy => by
      obtain ⟨k, _, rfl⟩ := List.mem_map.mp hl
      obtain ⟨q, _, _, rfl⟩ := (mem_tieF h.l).mp hy
      unfold tieL
      rw [List.length_map, List.length_range]
      exact pt_lt h _
    unfold tieL at hlt
    rw [List.length_map, List.length_range] at hlt
    rw [tieL_get hlt] at hy
    obtain ⟨q, hq, rfl, rfl⟩ := (mem_tieF h.l).mp hy
    refine tr (.step .base ?_) ih
    rw [tieL_get (pt_lt h _)]
    exact (mem_tieF h.l).mpr ⟨besE q, g.paE _ hq, rfl, by rw [g.pa2 _ hq]⟩
theorem reach_tr {ties : List (List Nat)} {a b c : Nat} (r1 : Reach ties a b) (r2 : Reach ties b c) : Reach ties a c := by
  induction r2 with
  | base => exact r1
  | step _ hy ih => exact .step ih hy
theorem rings_of (ties : List (List Nat)) : ∀ k : Nat, ∀ r ∈ ringsL ties k, ∃ j, j < k ∧ r = ringL ties j
  | 0, r, h => by cases h
  | k + 1, r, h => by
    unfold ringsL at h
    rcases List.mem_append.mp h with h | h
    · obtain ⟨j, hj, e⟩ := rings_of ties k r h
      exact ⟨j, by omega, e⟩
    · split at h
      · cases h
      · exact ⟨k, by omega, List.mem_singleton.mp h⟩
theorem rings_all (ties : List (List Nat)) : ∀ k : Nat, k ≤ ties.length → ∀ x, x < k → x ∈ (ringsL ties k).flatten
  | 0, _, x, h => by omega
  | k + 1, hk, x, h => by
    unfold ringsL
    rw [List.flatten_append]
    by_cases c : x < k
    · exact List.mem_append_left _ (rings_all ties k (by omega) x c)
    · have : x = k := by omega
      subst this
      by_cases d : x ∈ (ringsL ties x).flatten
      · exact List.mem_append_left _ d
      · rw [if_neg d]
        refine List.mem_append_right _ ?_
        rw [List.flatten_cons, List.flatten_nil, List.append_nil]
        exact ringL_mem.mpr ⟨by omega, .base⟩
/-- a new ring begins with its point -/
theorem ring_first {ties : List (List Nat)} (hs : ∀ x y, x < ties.length → Reach ties x y → Reach ties y x) {k : Nat} (hk : k < ties.length) (hn : k ∉ (ringsL ties k).flatten) : ∃ r, ringL ties k = k :: r := by
  have hm : k ∈ ringL ties k := ringL_mem.mpr ⟨hk, .base⟩
  have lo : ∀ x ∈ ringL ties k, k ≤ x := fun x hx => by
    obtain ⟨_, h2⟩ := ringL_mem.mp hx
    apply Classical.byContradiction
    intro c
    obtain ⟨r, hr, hxr⟩ := List.mem_flatten.mp (rings_all ties k (by omega) x (by omega))
    obtain ⟨j, hj, rfl⟩ := rings_of ties k r hr
    have h3 := (ringL_mem.mp hxr).2
    exact hn (List.mem_flatten.mpr ⟨_, hr, ringL_mem.mpr ⟨hk, reach_tr h3 (hs k x hk h2)⟩⟩)
  have p := ringL_lt ties k
  cases c : ringL ties k with
  | nil => rw [c] at hm; cases hm
  | cons a r =>
    rw [c] at hm lo p
    have h1 := lo a List.mem_cons_self
    rcases List.mem_cons.mp hm with e | e
    · exact ⟨r, by rw [e]⟩
    · have := (List.pairwise_cons.mp p).1 k e
      omega
theorem rings_up {ties : List (List Nat)} (hs : ∀ x y, x < ties.length → Reach ties x y → Reach ties y x) : ∀ k : Nat, k ≤ ties.length → (∀ r ∈ ringsL ties k, ∃ a r', a < k ∧ r = a :: r') ∧ (ringsL ties k).Pairwise fun r s => ∃ a b r' s', r = a :: r' ∧ s = b :: s' ∧ a < b
  | 0, _ => ⟨fun r h => (by cases h), List.Pairwise.nil⟩
  | k + 1, hk => by
    obtain ⟨h1, h2⟩ := rings_up hs k (by omega)
    unfold ringsL
    by_cases d : k ∈ (ringsL ties k).flatten
    · rw [if_pos d, List.append_nil]
      refine ⟨fun r hr => ?_, h2⟩
      obtain ⟨a, r', ha, e⟩ := h1 r hr
      exact ⟨a, r', by omega, e⟩
    · rw [if_neg d]
      obtain ⟨t, et⟩ := ring_first hs (by omega) d
      refine ⟨fun r hr => ?_, List.pairwise_append.mpr ⟨h2, List.pairwise_singleton _ _, fun r hr s hs2 => ?_⟩⟩
      · rcases List.mem_append.mp hr with hr | hr
        · obtain ⟨a, r', ha, e⟩ := h1 r hr
          exact ⟨a, r', by omega, e⟩
        · rw [List.mem_singleton.mp hr]
          exact ⟨k, t, by omega, et⟩
      · obtain ⟨a, r', ha, e⟩ := h1 r hr
        rw [List.mem_singleton.mp hs2]
        exact ⟨a, k, r', t, e, et, ha⟩

end Sw

open PySem PySem.Spec L2 Sw
namespace Sw

end Sw

open PySem PySem.Spec L2 Sw
namespace Sw
theorem end_r {xs : List Int} (h : Num0 xs) {k : Nat} (hk : k < xs.length - 1) : EndP xs (rEn (xs.getD k 0)) := by
  have hl := h.l
  have g1 : xs.getD (xs.length - 1) 0 = (xs.length : Int) - 1 := by
    have := h.e.2
    rw [List.getLast?_eq_getElem?] at this
    rw [List.getD_eq_getElem?_getD, this]
    rfl
  have al : (xs.getD k 0).natAbs < xs.length := by
    have := h.g.2 xs[k] (List.getElem_mem (by omega))
    rw [List.getD_eq_getElem?_getD, List.getElem?_eq_getElem (by omega : k < xs.length)]
    show (xs[k]).natAbs < _
    omega
  refine ⟨?_, al, ?_, ?_⟩
  · show sdI _ = 0 ∨ sdI _ = 1
    cases decide (0 ≤ xs.getD k 0) <;> simp [sdI]
  · rintro ⟨q1, q2⟩
    have q1 : (xs.getD k 0).natAbs = 0 := q1
    have q2 : sdI (decide (0 ≤ xs.getD k 0)) = 0 := q2
    rw [decide_eq_true (by omega)] at q2
    cases q2
  · rintro ⟨q1, q2⟩
    have q1 : (xs.getD k 0).natAbs = xs.length - 1 := q1
    have := absA_inj h.g.1 (i := k) (j := xs.length - 1) (by omega) (by omega) (show (xs.getD k 0).natAbs = (xs.getD (xs.length - 1) 0).natAbs by rw [q1, g1]; omega)
    omega
end Sw

open PySem PySem.Spec L2 Sw
namespace Sw
inductive Orb {α : Type} (pa ot : α → α) (q : α) : α → Prop
  | base : Orb pa ot q q
  | pa {r : α} : Orb pa ot q r → Orb pa ot q (pa r)
  | ot {r : α} : Orb pa ot q r → Orb pa ot q (ot r)
theorem orb_reach {xs : List Int} (h : Num0 xs) {q r : Nat × Nat} (hq : EndP xs q) (o : Orb besE (otE xs) q r) : EndP xs r ∧ Reach (tieL xs (xs.length - 1)) (ptF xs q) (ptF xs r) := by
  have g := gone_ends h
  induction o with
  | base => exact ⟨hq, .base⟩
  | pa _ ih =>
    refine ⟨g.paE _ ih.1, .step ih.2 ?_⟩
    rw [tieL_get (pt_lt h _)]
    exact (mem_tieF h.l).mpr ⟨_, ih.1, rfl, rfl⟩
  | ot _ ih =>
    refine ⟨g.otE _ ih.1, ?_⟩
    rw [g.otP _ ih.1]
    exact ih.2
theorem reach_lt {xs : List Int} (h : Num0 xs) {x y : Nat} (hx : x < xs.length - 1) (r : Reach (tieL xs (xs.length - 1)) x y) : y < xs.length - 1 := by
  have tl : (tieL xs (xs.length - 1)).length = xs.length - 1 := by unfold tieL; rw [List.length_map, List.length_range]
  have := r.lt (by rw [tl]; exact hx) fun l hl y hy => by
    obtain ⟨k, _, rfl⟩ := List.mem_map.mp hl
    obtain ⟨q, _, _, rfl⟩ := (mem_tieF h.l).mp hy
    rw [tl]
    exact pt_lt h _
  rwa [tl] at this
theorem reach_orb {xs : List Int} (h : Num0 xs) {q : Nat × Nat} (hq : EndP xs q) {x : Nat} (r : Reach (tieL xs (xs.length - 1)) (ptF xs q) x) : ∀ {r : Nat × Nat}, EndP xs r → ptF xs r = x → Orb besE (otE xs) q r := by
  have g := gone_ends h
  induction r with
  | base =>
    intro r hr e
    rcases g.two _ _ hq hr e.symm with rfl | rfl
    · exact .base
    · exact .ot .base
  | step r1 hy ih =>
    intro r hr e
    have hlt := reach_lt h (pt_lt h _) r1
    rw [tieL_get hlt] at hy
    obtain ⟨q2, hq2, e1, e2⟩ := (mem_tieF h.l).mp hy
    have o := Orb.pa (ih hq2 e1)
    rcases g.two _ _ (g.paE _ hq2) hr (by rw [e2, e]) with rfl | rfl
    · exact o
    · exact .ot o
/-- an end, told by the other line -/
def phE (ys : List Int) (q : Nat × Nat) : Nat × Nat := if q.2 = 1 then rEn (ys.getD q.1 0) else lEn (ys.getD q.1 0)
structure Bk (xs ys : List Int) : Prop where
  l : ys.length = xs.length
  e : ∀ k, k < xs.length → ys.getD (xs.getD k 0).natAbs 0 = backV k (xs.getD k 0)
theorem num0_first {xs : List Int} (h : Num0 xs) : xs.getD 0 0 = 0 := by
  have := h.e.1
  rw [List.head?_eq_getElem?] at this
  rw [List.getD_eq_getElem?_getD, this]
  rfl
theorem num0_last {xs : List Int} (h : Num0 xs) : xs.getD (xs.length - 1) 0 = (xs.length : Int) - 1 := by
  have := h.e.2
  rw [List.getLast?_eq_getElem?] at this
  rw [List.getD_eq_getElem?_getD, this]
  rfl
theorem num0_lt {xs : List Int} (h : Num0 xs) {k : Nat} (hk : k < xs.length) : (xs.getD k 0).natAbs < xs.length := by
  have := h.g.2 xs[k] (List.getElem_mem hk)
  rw [List.getD_eq_getElem?_getD, List.getElem?_eq_getElem hk]
  exact this
theorem num0_full {xs : List Int} (h : Num0 xs) {v : Nat} (hv : v < xs.length) : ∃ k, k < xs.length ∧ (xs.getD k 0).natAbs = v := by
  have hl := h.l
  have f : SpanF xs 0 (xs.length - 1) 0 (xs.length - 1) := ⟨fun i _ i2 => ⟨Nat.zero_le _, by have := num0_lt h (k := i) (by omega); unfold absA; omega⟩, by omega, .inl ⟨by rw [num0_first h]; rfl, by rw [num0_last h]; omega⟩⟩
  obtain ⟨q, _, hq, ev⟩ := f.full h.g.1 (by omega) (by omega) (Nat.zero_le v) (by omega)
  exact ⟨q, by omega, ev⟩
theorem num0_neg {xs : List Int} (h : Num0 xs) {k : Nat} (hk : xs.getD k 0 < 0) : 0 < k := by
  cases k with
  | zero => rw [num0_first h] at hk; omega
  | succ k => omega
theorem Bk.r {xs ys : List Int} (b : Bk xs ys) (h : Num0 xs) {k : Nat} (hk : k < xs.length) : phE ys (rEn (xs.getD k 0)) = (k, 1) := by
  have e := b.e k hk
  unfold phE
  by_cases c : 0 ≤ xs.getD k 0
  · have e1 : rEn (xs.getD k 0) = ((xs.getD k 0).natAbs, 1) := by unfold rEn sdI; rw [decide_eq_true c]; rfl
    rw [e1, if_pos rfl]
    show rEn (ys.getD (xs.getD k 0).natAbs 0) = _
    rw [e]
    unfold backV rEn sdI
    rw [if_neg (by omega), decide_eq_true (by omega)]
    rfl
  · have e1 : rEn (xs.getD k 0) = ((xs.getD k 0).natAbs, 0) := by unfold rEn sdI; rw [decide_eq_false c]; rfl
    have := num0_neg h (k := k) (by omega)
    rw [e1, if_neg (by simp)]
    show lEn (ys.getD (xs.getD k 0).natAbs 0) = _
    rw [e]
    unfold backV lEn sdI
    rw [if_pos (by omega), decide_eq_true (by omega)]
    show ((0 - (k : Int)).natAbs, 1) = _
    rw [show (0 - (k : Int)).natAbs = k by omega]
theorem Bk.le {xs ys : List Int} (b : Bk xs ys) (h : Num0 xs) {k : Nat} (hk : k < xs.length) : phE ys (lEn (xs.getD k 0)) = (k, 0) := by
  have e := b.e k hk
  unfold phE
  by_cases c : 0 ≤ xs.getD k 0
  · have e1 : lEn (xs.getD k 0) = ((xs.getD k 0).natAbs, 0) := by unfold lEn sdI; rw [decide_eq_false (by omega)]; rfl
    rw [e1, if_neg (by simp)]
    show lEn (ys.getD (xs.getD k 0).natAbs 0) = _
    rw [e]
    unfold backV lEn sdI
    rw [if_neg (by omega), decide_eq_false (by omega)]
    rfl
  · have e1 : lEn (xs.getD k 0) = ((xs.getD k 0).natAbs, 1) := by unfold lEn sdI; rw [decide_eq_true (by omega)]; rfl
    have := num0_neg h (k := k) (by omega)
    rw [e1, if_pos rfl]
    show rEn (ys.getD (xs.getD k 0).natAbs 0) = _
    rw [e]
    unfold backV rEn sdI
    rw [if_pos (by omega), decide_eq_false (by omega)]
    show ((0 - (k : Int)).natAbs, 0) = _
    rw [show (0 - (k : Int)).natAbs = k by omega]
theorem Bk.at {xs ys : List Int} (b : Bk xs ys) (h : Num0 xs) {v : Nat} (hv : v < xs.length) : ∃ k, k < xs.length ∧ (xs.getD k 0).natAbs = v ∧ ys.getD v 0 = backV k (xs.getD k 0) ∧ (ys.getD v 0).natAbs = k := by
  obtain ⟨k, hk, rfl⟩ := num0_full h hv
  refine ⟨k, hk, rfl, b.e k hk, ?_⟩
  rw [b.e k hk]
  unfold backV
  split <;> omega
theorem Bk.num {xs ys : List Int} (b : Bk xs ys) (h : Num0 xs) : Num0 ys := by
  have hl := h.l
  have bl := b.l
  refine ⟨⟨?_, fun y hy => ?_⟩, ⟨?_, ?_⟩, by omega⟩
  · refine List.pairwise_iff_getElem.mpr fun i j hi hj hij e => ?_
    obtain ⟨k, hk, e1, _, e2⟩ := b.at h (v := i) (by omega)
    obtain ⟨k2, hk2, e3, _, e4⟩ := b.at h (v := j) (by omega)
    rw [List.getD_eq_getElem?_getD, List.getElem?_eq_getElem hi] at e2
    rw [List.getD_eq_getElem?_getD, List.getElem?_eq_getElem hj] at e4
    have : k = k2 := by rw [← e2, ← e4]; exact e
    subst this
    omega
  · obtain ⟨i, hi, rfl⟩ := List.getElem_of_mem hy
    obtain ⟨k, hk, _, _, e2⟩ := b.at h (v := i) (by omega)
    rw [List.getD_eq_getElem?_getD, List.getElem?_eq_getElem hi] at e2
    have e2 : (ys[i]).natAbs = k := e2
    omega
  · obtain ⟨k, hk, e1, e2, e3⟩ := b.at h (v := 0) (by omega)
    have g0 := num0_first h
    have := absA_inj h.g.1 (i := k) (j := 0) hk (by omega) (by show (xs.getD k 0).natAbs = (xs.getD 0 0).natAbs; rw [e1, g0]; rfl)
    rw [List.head?_eq_getElem?, List.getElem?_eq_getElem (by omega)]
    rw [List.getD_eq_getElem?_getD, List.getElem?_eq_getElem (by omega : 0 < ys.length)] at e3
    have e3 : (ys[0]).natAbs = k := e3
    congr 1
    omega
  · obtain ⟨k, hk, e1, e2, e3⟩ := b.at h (v := xs.length - 1) (by omega)
    have g1 := num0_last h
    have := absA_inj h.g.1 (i := k) (j := xs.length - 1) hk (by omega) (by show (xs.getD k 0).natAbs = (xs.getD (xs.length - 1) 0).natAbs; rw [e1, g1]; omega)
    subst this
    rw [List.getLast?_eq_getElem?, bl, List.getElem?_eq_getElem (by omega)]
    rw [List.getD_eq_getElem?_getD, List.getElem?_eq_getElem (by omega : xs.length - 1 < ys.length)] at e2
    have e2 : ys[xs.length - 1] = backV (xs.length - 1) (xs.getD (xs.length - 1) 0) := e2
    rw [e2, g1]
    unfold backV
    rw [if_neg (by omega)]
    congr 1
    omega
theorem Bk.sym {xs ys : List Int} (b : Bk xs ys) (h : Num0 xs) : Bk ys xs := by
  refine ⟨b.l.symm, fun v hv => ?_⟩
  obtain ⟨k, hk, e1, e2, e3⟩ := b.at h (v := v) (by have := b.l; omega)
  rw [e3, e2]
  unfold backV
  by_cases c : xs.getD k 0 < 0
  · have := num0_neg h c
    rw [if_pos c, if_pos (by omega)]
    omega
  · rw [if_neg c, if_neg (by omega)]
    omega
theorem ot_r {xs : List Int} (h : Num0 xs) {k : Nat} (hk : k < xs.length - 1) : otE xs (rEn (xs.getD k 0)) = lEn (xs.getD (k + 1) 0) := by
  unfold otE
  rw [pt_r h hk, if_pos rfl]
theorem ot_l {xs : List Int} (h : Num0 xs) {k : Nat} (hk : k < xs.length - 1) : otE xs (lEn (xs.getD (k + 1) 0)) = rEn (xs.getD k 0) := by
  unfold otE
  rw [pt_l h hk, if_neg fun e => rl_far h.g.1 (by omega) (by omega) e.symm]
/-- beside and over there change places -/
theorem Bk.pa {xs ys : List Int} (b : Bk xs ys) (h : Num0 xs) {q : Nat × Nat} (hq : EndP xs q) : phE ys (besE q) = otE ys (phE ys q) := by
  have hy := b.num h
  have bl := b.l
  obtain ⟨v, s⟩ := q
  obtain ⟨h1, h2, h3, h4⟩ := hq
  simp only at h1 h2 h3 h4
  rcases h1 with rfl | rfl
  · obtain ⟨x, rfl⟩ : ∃ x, v = x + 1 := ⟨v - 1, by omega⟩
    show rEn (ys.getD x 0) = otE ys (lEn (ys.getD (x + 1) 0))
    rw [ot_l hy (by omega)]
  · show lEn (ys.getD (v + 1) 0) = otE ys (rEn (ys.getD v 0))
    rw [ot_r hy (by omega)]
theorem Bk.ot {xs ys : List Int} (b : Bk xs ys) (h : Num0 xs) {q : Nat × Nat} (hq : EndP xs q) : phE ys (otE xs q) = besE (phE ys q) := by
  have hl := h.l
  have hk := pt_lt h q
  have sp := pt_spec h hq
  obtain ⟨k, ek⟩ : ∃ k, ptF xs q = k := ⟨_, rfl⟩
  rw [ek] at hk sp
  rcases sp with rfl | rfl
  · rw [ot_r h hk, b.le h (by omega), b.r h (by omega)]
    rfl
  · rw [ot_l h hk, b.le h (by omega), b.r h (by omega)]
    rfl
theorem Bk.endp {xs ys : List Int} (b : Bk xs ys) (h : Num0 xs) {q : Nat × Nat} (hq : EndP xs q) : EndP ys (phE ys q) ∧ phE xs (phE ys q) = q := by
  have hl := h.l
  have hk := pt_lt h q
  have sp := pt_spec h hq
  have b2 := b.sym h
  have hy := b.num h
  have bl := b.l
  obtain ⟨k, ek⟩ : ∃ k, ptF xs q = k := ⟨_, rfl⟩
  rw [ek] at hk sp
  rcases sp with rfl | rfl
  · rw [b.r h (by omega)]
    exact ⟨⟨.inr rfl, by show k < _; omega, by simp, by simp only; omega⟩, rfl⟩
  · rw [b.le h (by omega)]
    exact ⟨⟨.inl rfl, by show k + 1 < _; omega, by simp, by simp⟩, rfl⟩
theorem Bk.orb {xs ys : List Int} (b : Bk xs ys) (h : Num0 xs) {q r : Nat × Nat} (hq : EndP xs q) (o : Orb besE (otE xs) q r) : Orb besE (otE ys) (phE ys q) (phE ys r) := by
  induction o with
  | base => exact .base
  | pa o ih =>
    rw [b.pa h (orb_reach h hq o).1]
    exact .ot ih
  | ot o ih =>
    rw [b.ot h (orb_reach h hq o).1]
    exact .pa ih
theorem Bk.reach {xs ys : List Int} (b : Bk xs ys) (h : Num0 xs) {q r : Nat × Nat} (hq : EndP xs q) (hr : EndP xs r) (o : Reach (tieL xs (xs.length - 1)) (ptF xs q) (ptF xs r)) : Reach (tieL ys (ys.length - 1)) (ptF ys (phE ys q)) (ptF ys (phE ys r)) :=
  (orb_reach (b.num h) (b.endp h hq).1 (b.orb h hq (reach_orb h hq o hr rfl))).2
theorem ring_eq {xs : List Int} (h : Num0 xs) {j p : Nat} (hj : j < xs.length - 1) (r : Reach (tieL xs (xs.length - 1)) j p) : ringL (tieL xs (xs.length - 1)) j = ringL (tieL xs (xs.length - 1)) p := by
  refine up_one (ringL_lt _ _) (ringL_lt _ _) fun x => ?_
  rw [ringL_mem, ringL_mem]
  exact ⟨fun q => ⟨q.1, reach_tr (reach_sym h hj r) q.2⟩, fun q => ⟨q.1, reach_tr r q.2⟩⟩
theorem tie_len (xs : List Int) : (tieL xs (xs.length - 1)).length = xs.length - 1 := by unfold tieL; rw [List.length_map, List.length_range]
theorem ring_in {xs : List Int} (h : Num0 xs) {p : Nat} (hp : p < xs.length - 1) : ringL (tieL xs (xs.length - 1)) p ∈ ringsL (tieL xs (xs.length - 1)) (xs.length - 1) := by
  obtain ⟨r, hr, hpr⟩ := List.mem_flatten.mp (rings_all (tieL xs (xs.length - 1)) (xs.length - 1) (by rw [tie_len]; omega) p hp)
  obtain ⟨j, hj, rfl⟩ := rings_of _ _ r hr
  rw [← ring_eq h hj (ringL_mem.mp hpr).2]
  exact hr
end Sw

open PySem PySem.Spec L2 Sw
namespace Sw

end Sw

open PySem PySem.Spec L2 Sw
namespace Sw
/-- a line of beads -/
structure LnOk (bs : List Bead) : Prop where
  nd : (bs.map Prod.snd).Nodup
  nm : ∀ b ∈ bs, Nm b.2
  few : bs.length ≤ 50
end Sw

open PySem PySem.Spec L2 Sw
namespace Sw
def bead0 : Bead := (false, ⟨#[]⟩)
def plL (ts : List Bead) (m : Nat) : List (Bead × Int) := (List.range m).flatMap fun k => [(ts.getD k bead0, (k : Int) + 1), (mirB (ts.getD k bead0), 0 - (k : Int) - 1)]
def kdsB (l : List (Bead × Int)) : List (D × D) := l.map fun e => (bdD e.1, .int e.2)
def plF (ts : List Bead) (b : Bead) : Int := (((plL ts ts.length).find? fun e => decide (e.1 = b)).map Prod.snd).getD 0
def nums (os ts : List Bead) : List Int := 0 :: os.map (plF ts) ++ [(os.length : Int) + 1]
theorem plL_succ (ts : List Bead) (m : Nat) : plL ts (m + 1) = plL ts m ++ [(ts.getD m bead0, (m : Int) + 1), (mirB (ts.getD m bead0), 0 - (m : Int) - 1)] := by
  unfold plL
  rw [List.range_succ, List.flatMap_append]
  rfl
theorem plL_len (ts : List Bead) (m : Nat) : (plL ts m).length = 2 * m := by
  unfold plL
  rw [List.length_flatMap]
  simp only [List.length_cons, List.length_nil]
  rw [List.map_const', List.sum_replicate_nat, List.length_range]
  omega
theorem plL_at {ts : List Bead} {m : Nat} {e : Bead × Int} (h : e ∈ plL ts m) : ∃ k, k < m ∧ (e = (ts.getD k bead0, (k : Int) + 1) ∨ e = (mirB (ts.getD k bead0), 0 - (k : Int) - 1)) := by
  unfold plL at h
  obtain ⟨k, hk, h⟩ := List.mem_flatMap.mp h
  have hk := List.mem_range.mp hk
  rcases List.mem_cons.mp h with rfl | h
  · exact ⟨k, hk, .inl rfl⟩
  · exact ⟨k, hk, .inr (List.mem_singleton.mp h)⟩
theorem mirB_ne (b : Bead) : mirB b ≠ b := fun h => by
  have h := congrArg Prod.fst h
  cases b.1 <;> simp [mirB] at h
theorem ln_at {bs : List Bead} (h : LnOk bs) {k : Nat} (hk : k < bs.length) : bs.getD k bead0 = bs[k] ∧ Nm (bs.getD k bead0).2 := by
  have e : bs.getD k bead0 = bs[k] := by rw [List.getD_eq_getElem?_getD, List.getElem?_eq_getElem hk]; rfl
  rw [e]
  exact ⟨rfl, h.nm _ (List.getElem_mem hk)⟩
theorem ln_inj {bs : List Bead} (h : LnOk bs) {i j : Nat} (hi : i < bs.length) (hj : j < bs.length) (e : (bs.getD i bead0).2 = (bs.getD j bead0).2) : i = j := by
  rw [(ln_at h hi).1, (ln_at h hj).1] at e
  have hn := h.nd
  have e2 : (bs.map Prod.snd)[i]'(by rw [List.length_map]; exact hi) = (bs.map Prod.snd)[j]'(by rw [List.length_map]; exact hj) := by
    rw [List.getElem_map, List.getElem_map]
    exact e
  exact (List.getElem_inj hn).mp e2
theorem ln_find {bs : List Bead} {z : Str} (h : z ∈ bs.map Prod.snd) : ∃ k, k < bs.length ∧ (bs.getD k bead0).2 = z := by
  obtain ⟨b, hb, rfl⟩ := List.mem_map.mp h
  obtain ⟨k, hk, rfl⟩ := List.getElem_of_mem hb
  exact ⟨k, hk, by rw [List.getD_eq_getElem?_getD, List.getElem?_eq_getElem hk]; rfl⟩
theorem bead_two {a b : Bead} (h : a.2 = b.2) : a = b ∨ a = mirB b := by
  obtain ⟨s, z⟩ := a
  obtain ⟨t, y⟩ := b
  have h : z = y := h
  subst h
  cases s <;> cases t <;> simp [mirB]
theorem eqv_bd {a b : Bead} (ha : Nm a.2) (hb : Nm b.2) : PyData.eqv (bdD a) (bdD b) = decide (a = b) := by
  show PyData.eqv (.str (bdS a)) (.str (bdS b)) = _
  rw [eqv_S, Bool.eq_iff_iff, decide_eq_true_eq, decide_eq_true_eq]
  exact ⟨fun h => bdS_inj ha hb h, fun h => by rw [h]⟩
theorem look_kdsB {b : Bead} (hb : Nm b.2) : ∀ l : List (Bead × Int), (∀ e ∈ l, Nm e.1.2) → lookD (kdsB l) (bdD b) = ((l.find? fun e => decide (e.1 = b)).map fun e => PyData.int e.2)
  | [], _ => rfl
  | e :: r, h => by
    have ih := look_kdsB hb r fun x hx => h x (List.mem_cons_of_mem _ hx)
    show lookD ((bdD e.1, .int e.2) :: kdsB r) (bdD b) = _
    rw [lookD_cons, eqv_bd (h e List.mem_cons_self) hb, List.find?_cons]
    by_cases c : e.1 = b
    · simp [c]
    · simp only [c, decide_false, Bool.false_eq_true, if_false]
      exact ih
theorem put_kdsB {l : List (Bead × Int)} {b : Bead} {v : Int} (hb : Nm b.2) (hl : ∀ e ∈ l, Nm e.1.2) (h : ∀ e ∈ l, e.1 ≠ b) : putD (kdsB l) (bdD b) (.int v) = kdsB (l ++ [(b, v)]) := by
  unfold putD
  have : lookD (kdsB l) (bdD b) = none := by
    rw [look_kdsB hb l hl, List.find?_eq_none.mpr]
    · rfl
    · intro e he
      simpa using h e he
  rw [this, if_neg (by decide)]
  unfold kdsB
  rw [List.map_append]
  rfl
theorem plL_nm {ts : List Bead} (h : LnOk ts) {m : Nat} (hm : m ≤ ts.length) : ∀ e ∈ plL ts m, Nm e.1.2 := fun e he => by
  obtain ⟨k, hk, rfl | rfl⟩ := plL_at he
  · exact (ln_at h (by omega)).2
  · exact (ln_at h (k := k) (by omega)).2
theorem plL_new {ts : List Bead} (h : LnOk ts) {m : Nat} (hm : m < ts.length) {b : Bead} (hb : b.2 = (ts.getD m bead0).2) : ∀ e ∈ plL ts m, e.1 ≠ b := fun e he q => by
  obtain ⟨k, hk, rfl | rfl⟩ := plL_at he
  · have := ln_inj h (i := k) (j := m) (by omega) hm (by rw [← hb, ← q])
    omega
  · have := ln_inj h (i := k) (j := m) (by omega) hm (by rw [← hb, ← q]; rfl)
    omega
theorem plF_some {ts : List Bead} (h : LnOk ts) {k : Nat} (hk : k < ts.length) {b : Bead} {v : Int} (he : (b, v) ∈ [(ts.getD k bead0, (k : Int) + 1), (mirB (ts.getD k bead0), 0 - (k : Int) - 1)]) : (plL ts ts.length).find? (fun e => decide (e.1 = b)) = some (b, v) := by
  have hm : (b, v) ∈ plL ts ts.length := List.mem_flatMap.mpr ⟨k, List.mem_range.mpr hk, he⟩
  have hb : b.2 = (ts.getD k bead0).2 := by
    rcases List.mem_cons.mp he with e | e
    · injection e with e1 _
      rw [e1]
    · injection List.mem_singleton.mp e with e1 _
      rw [e1]
      rfl
  cases c : (plL ts ts.length).find? fun e => decide (e.1 = b) with
  | none =>
    have := List.find?_eq_none.mp c _ hm
    simp at this
  | some e =>
    have h1 := List.find?_some c
    have h1 : e.1 = b := of_decide_eq_true h1
    obtain ⟨j, hj, h2⟩ := plL_at (List.mem_of_find?_eq_some c)
    have jk : j = k := by
      refine ln_inj h hj hk ?_
      rcases h2 with h2 | h2
      · rw [← hb, ← h1, h2]
      · rw [← hb, ← h1, h2]
        rfl
    subst jk
    have ne := mirB_ne (ts.getD j bead0)
    rcases h2 with rfl | rfl <;> rcases List.mem_cons.mp he with e | e
    · rw [e]
    · exfalso
      injection List.mem_singleton.mp e with e1 _
      exact ne (e1.symm.trans h1.symm)
    · exfalso
      injection e with e1 _
      exact ne (h1.trans e1)
    · rw [List.mem_singleton.mp e]
theorem plF_at {ts : List Bead} (h : LnOk ts) {k : Nat} (hk : k < ts.length) : plF ts (ts.getD k bead0) = (k : Int) + 1 ∧ plF ts (mirB (ts.getD k bead0)) = 0 - (k : Int) - 1 := by
  unfold plF
  rw [plF_some h hk (b := ts.getD k bead0) (v := (k : Int) + 1) (by simp), plF_some h hk (b := mirB (ts.getD k bead0)) (v := 0 - (k : Int) - 1) (by simp)]
  exact ⟨rfl, rfl⟩
theorem look_plF {ts : List Bead} (h : LnOk ts) {b : Bead} (hb : b.2 ∈ ts.map Prod.snd) : Nm b.2 ∧ lookD (kdsB (plL ts ts.length)) (bdD b) = some (.int (plF ts b)) := by
  obtain ⟨k, hk, e⟩ := ln_find hb
  have nm : Nm b.2 := by rw [← e]; exact (ln_at h hk).2
  refine ⟨nm, ?_⟩
  rw [look_kdsB nm _ (plL_nm h (Nat.le_refl _))]
  unfold plF
  rcases bead_two e.symm with rfl | rfl
  · rw [plF_some h hk (b := ts.getD k bead0) (v := (k : Int) + 1) (by simp)]
    rfl
  · rw [plF_some h hk (b := mirB (ts.getD k bead0)) (v := 0 - (k : Int) - 1) (by simp)]
    rfl
theorem nums_len (os ts : List Bead) : (nums os ts).length = os.length + 2 := by
  unfold nums
  simp
theorem nums_mid {os ts : List Bead} {k : Nat} (hk : k < os.length) : (nums os ts).getD (k + 1) 0 = plF ts (os.getD k bead0) := by
  unfold nums
  rw [List.getD_eq_getElem?_getD, List.cons_append, List.getElem?_cons_succ, List.getElem?_append_left (by rw [List.length_map]; exact hk), List.getElem?_map, List.getElem?_eq_getElem hk, List.getD_eq_getElem?_getD, List.getElem?_eq_getElem hk]
  rfl
theorem nums_end (os ts : List Bead) : (nums os ts).getD (os.length + 1) 0 = (os.length : Int) + 1 := by
  unfold nums
  rw [List.getD_eq_getElem?_getD, List.cons_append, List.getElem?_cons_succ, List.getElem?_append_right (by rw [List.length_map]; exact Nat.le_refl _), List.length_map, Nat.sub_self]
  rfl
end Sw

open PySem PySem.Spec L2 Sw
namespace Sw
def nmsL (bs : List Bead) : List Str := bs.map Prod.snd
def sp_numbers_of : PSp := fun fl ds Q => fl = none ∧ ∃ os ts : List Bead, ds = [.tuple (os.map bdD), .tuple (ts.map bdD)] ∧ LnOk os ∧ LnOk ts ∧ (∀ z, z ∈ nmsL os ↔ z ∈ nmsL ts) ∧ Q (.fr ((nums os ts).map .int)) none

end Sw

open PySem PySem.Spec L2 Sw
namespace Sw
noncomputable def ringN (xs : List Int) : Nat := (ringsL (tieL xs (xs.length - 1)) (xs.length - 1)).length
theorem ring_max {xs : List Int} (h : Num0 xs) {L : List Nat} (hl : ∀ p ∈ L, p < xs.length - 1) (hp : L.Pairwise fun p q => ¬ Reach (tieL xs (xs.length - 1)) p q) : L.length ≤ ringN xs := by
  have nd : (L.map (ringL (tieL xs (xs.length - 1)))).Nodup := by
    rw [List.nodup_iff_pairwise_ne, List.pairwise_map]
    refine hp.imp_of_mem fun {p q} hp hq ne e => ?_
    have m : q ∈ ringL (tieL xs (xs.length - 1)) q := ringL_mem.mpr ⟨by rw [tie_len]; exact hl q hq, .base⟩
    rw [← e] at m
    exact ne (ringL_mem.mp m).2
  have := nodup_few nd (ys := ringsL (tieL xs (xs.length - 1)) (xs.length - 1)) fun x hx => by
    obtain ⟨p, hp, rfl⟩ := List.mem_map.mp hx
    exact ring_in h (hl p hp)
  rwa [List.length_map] at this
theorem ring_reps {xs : List Int} (h : Num0 xs) : ∃ L : List Nat, L.length = ringN xs ∧ (∀ p ∈ L, p < xs.length - 1) ∧ L.Pairwise fun p q => ¬ Reach (tieL xs (xs.length - 1)) p q := by
  obtain ⟨h1, h2⟩ := rings_up (ties := tieL xs (xs.length - 1)) (fun x y hx r => reach_sym h (by rwa [tie_len] at hx) r) (xs.length - 1) (by rw [tie_len]; omega)
  refine ⟨(ringsL (tieL xs (xs.length - 1)) (xs.length - 1)).map fun r => r.headD 0, by rw [List.length_map]; rfl, fun p hp => ?_, ?_⟩
  · obtain ⟨r, hr, rfl⟩ := List.mem_map.mp hp
    obtain ⟨a, r', ha, e⟩ := h1 r hr
    rw [e]
    exact ha
  · rw [List.pairwise_map]
    refine h2.imp_of_mem fun {r s} hr hs ⟨a, c, r', s', er, es, ac⟩ q => ?_
    rw [er, es] at q
    have q : Reach (tieL xs (xs.length - 1)) a c := q
    obtain ⟨j, hj, ej⟩ := rings_of _ _ r hr
    obtain ⟨j2, hj2, ej2⟩ := rings_of _ _ s hs
    have t1 : a ∈ ringL (tieL xs (xs.length - 1)) j := by rw [← ej, er]; exact List.mem_cons_self
    have t2 : c ∈ ringL (tieL xs (xs.length - 1)) j2 := by rw [← ej2, es]; exact List.mem_cons_self
    have e3 := ring_eq h hj (reach_tr (ringL_mem.mp t1).2 q)
    rw [← ring_eq h hj2 (ringL_mem.mp t2).2, ← ej, ← ej2, er, es] at e3
    injection e3 with q1 _
    omega
structure EqvR (E : Nat → Nat → Prop) : Prop where
  r : ∀ x, E x x
  s : ∀ x y, E x y → E y x
  t : ∀ x y z, E x y → E y z → E x z
def mergeE (E : Nat → Nat → Prop) (a c : Nat) (x y : Nat) : Prop := E x y ∨ (E x a ∧ E c y) ∨ (E x c ∧ E a y)
theorem merge_eqv {E : Nat → Nat → Prop} (h : EqvR E) (a c : Nat) : EqvR (mergeE E a c) := by
  refine ⟨fun x => .inl (h.r x), fun x y q => ?_, fun x y z p q => ?_⟩
  · rcases q with q | ⟨q1, q2⟩ | ⟨q1, q2⟩
    · exact .inl (h.s _ _ q)
    · exact .inr (.inr ⟨h.s _ _ q2, h.s _ _ q1⟩)
    · exact .inr (.inl ⟨h.s _ _ q2, h.s _ _ q1⟩)
  · rcases p with p | ⟨p1, p2⟩ | ⟨p1, p2⟩ <;> rcases q with q | ⟨q1, q2⟩ | ⟨q1, q2⟩
    · exact .inl (h.t _ _ _ p q)
    · exact .inr (.inl ⟨h.t _ _ _ p q1, q2⟩)
    · exact .inr (.inr ⟨h.t _ _ _ p q1, q2⟩)
    · exact .inr (.inl ⟨p1, h.t _ _ _ p2 q⟩)
    · exact .inl (h.t _ _ _ p1 (h.t _ _ _ (h.s _ _ (h.t _ _ _ p2 q1)) q2))
    · exact .inl (h.t _ _ _ p1 q2)
    · exact .inr (.inr ⟨p1, h.t _ _ _ p2 q⟩)
    · exact .inl (h.t _ _ _ p1 q2)
    · exact .inl (h.t _ _ _ p1 (h.t _ _ _ (h.s _ _ (h.t _ _ _ p2 q1)) q2))
theorem merge_pair {E : Nat → Nat → Prop} (h : EqvR E) (a c : Nat) : mergeE E a c a c := .inr (.inl ⟨h.r a, h.r c⟩)
open Classical in
theorem prune {E : Nat → Nat → Prop} (h : EqvR E) {L : List Nat} (hp : L.Pairwise fun p q => ¬ E p q) (a c : Nat) : ∃ M : List Nat, L.length ≤ M.length + 1 ∧ (∀ p ∈ M, p ∈ L) ∧ M.Pairwise fun p q => ¬ mergeE E a c p q := by
  have len : ∀ L : List Nat, L.Pairwise (fun p q => ¬ E p q) → L.length ≤ (L.filter fun p => decide (¬ E c p)).length + 1 := fun L => by
    induction L with
    | nil => intro _; exact Nat.zero_le _
    | cons p r ih =>
      intro hp
      obtain ⟨h1, h2⟩ := List.pairwise_cons.mp hp
      rw [List.filter_cons]
      by_cases q : E c p
      · have e : r.filter (fun p => decide (¬ E c p)) = r := List.filter_eq_self.mpr fun x hx => decide_eq_true fun e => h1 x hx (h.t _ _ _ (h.s _ _ q) e)
        rw [if_neg (by simpa using q), e]
        exact Nat.le_refl _
      · rw [if_pos (by simpa using q), List.length_cons, List.length_cons]
        have := ih h2
        omega
  refine ⟨L.filter fun p => decide (¬ E c p), len L hp, fun p hp => (List.mem_filter.mp hp).1, ?_⟩
  refine (hp.filter _).imp_of_mem fun {p q} hp hq ne e => ?_
  have n1 := of_decide_eq_true (List.mem_filter.mp hp).2
  have n2 := of_decide_eq_true (List.mem_filter.mp hq).2
  rcases e with e | ⟨_, e⟩ | ⟨e, _⟩
  · exact ne e
  · exact n2 e
  · exact n1 (h.s _ _ e)
def AdjI (L : List Int) (v w : Int) : Prop := ∃ P S, L = P ++ v :: w :: S
theorem adj_left {X : List Int} {v w : Int} (h : AdjI X v w) (Y : List Int) : AdjI (X ++ Y) v w := by
  obtain ⟨P, S, rfl⟩ := h
  exact ⟨P, S ++ Y, by simp⟩
theorem adj_right {Y : List Int} {v w : Int} (h : AdjI Y v w) (X : List Int) : AdjI (X ++ Y) v w := by
  obtain ⟨P, S, rfl⟩ := h
  exact ⟨X ++ P, S, by simp⟩
theorem adj_mid (X : List Int) (v w : Int) (Y : List Int) : AdjI ((X ++ [v]) ++ (w :: Y)) v w := ⟨X, Y, by simp⟩
theorem adj_cut : ∀ {X : List Int} {a : Int} {b : Int} {Y : List Int} {v w : Int}, AdjI ((X ++ [a]) ++ (b :: Y)) v w → AdjI (X ++ [a]) v w ∨ AdjI (b :: Y) v w ∨ (v = a ∧ w = b)
  | [], a, b, Y, v, w, ⟨P, S, h⟩ => by
    cases P with
    | nil =>
      injection h with h1 h2
      injection h2 with h2 h3
      exact .inr (.inr ⟨h1.symm, h2.symm⟩)
    | cons p P =>
      injection h with h1 h2
      exact .inr (.inl ⟨P, S, h2⟩)
  | x :: X, a, b, Y, v, w, ⟨P, S, h⟩ => by
    cases P with
    | nil =>
      have h : x :: ((X ++ [a]) ++ (b :: Y)) = v :: w :: S := h
      injection h with h1 h2
      cases X with
      | nil =>
        injection h2 with h2 h3
        exact .inl ⟨[], [], by rw [h1, h2]; rfl⟩
      | cons y X =>
        injection h2 with h2 h3
        exact .inl ⟨[], X ++ [a], by rw [h1, h2]; rfl⟩
    | cons p P =>
      have h : x :: ((X ++ [a]) ++ (b :: Y)) = p :: (P ++ v :: w :: S) := h
      injection h with h1 h2
      rcases adj_cut (X := X) ⟨P, S, h2⟩ with h | h | h
      · exact .inl (by rw [List.cons_append]; exact adj_right h [x])
      · exact .inr (.inl h)
      · exact .inr (.inr h)
theorem adj_at {L : List Int} {p : Nat} (h : p + 1 < L.length) : AdjI L (L.getD p 0) (L.getD (p + 1) 0) := by
  have e1 : L.getD p 0 = L[p] := by rw [List.getD_eq_getElem?_getD, List.getElem?_eq_getElem (by omega)]; rfl
  have e2 : L.getD (p + 1) 0 = L[p + 1] := by rw [List.getD_eq_getElem?_getD, List.getElem?_eq_getElem h]; rfl
  rw [e1, e2]
  refine ⟨L.take p, L.drop (p + 2), ?_⟩
  rw [← List.drop_eq_getElem_cons h, ← List.drop_eq_getElem_cons (by omega), List.take_append_drop]
theorem adj_find {L : List Int} {v w : Int} (h : AdjI L v w) : ∃ p, p + 1 < L.length ∧ L.getD p 0 = v ∧ L.getD (p + 1) 0 = w := by
  obtain ⟨P, S, rfl⟩ := h
  refine ⟨P.length, by rw [List.length_append, List.length_cons, List.length_cons]; omega, ?_, ?_⟩
  · rw [List.getD_eq_getElem?_getD, List.getElem?_append_right (Nat.le_refl _), Nat.sub_self]
    rfl
  · rw [List.getD_eq_getElem?_getD, List.getElem?_append_right (by omega), show P.length + 1 - P.length = 1 by omega]
    rfl
def RelN (xs : List Int) (u v : Nat) : Prop := Reach (tieL xs (xs.length - 1)) (ptF xs (u, 1)) (ptF xs (v, 1))
theorem relN_eqv {xs : List Int} (h : Num0 xs) : EqvR (RelN xs) :=
  ⟨fun _ => .base, fun _ _ r => reach_sym h (pt_lt h _) r, fun _ _ _ r1 r2 => reach_tr r1 r2⟩
theorem r_pos {x : Int} (h : 0 ≤ x) : rEn x = (x.toNat, 1) := by
  unfold rEn sdI
  rw [decide_eq_true h, show x.natAbs = x.toNat by omega]
  rfl
theorem l_pos {x : Int} (h : 0 ≤ x) : lEn x = (x.toNat, 0) := by
  unfold lEn sdI
  rw [decide_eq_false (by omega), show x.natAbs = x.toNat by omega]
  rfl
theorem pos_at {xs : List Int} (hp : ∀ x ∈ xs, 0 ≤ x) {k : Nat} (hk : k < xs.length) : 0 ≤ xs.getD k 0 := by
  rw [List.getD_eq_getElem?_getD, List.getElem?_eq_getElem hk]
  exact hp _ (List.getElem_mem hk)
theorem pos_next {xs : List Int} (h : Num0 xs) (hp : ∀ x ∈ xs, 0 ≤ x) {k : Nat} (hk : k + 1 < xs.length) : 1 ≤ (xs.getD (k + 1) 0).toNat := by
  have h1 := pos_at hp hk
  refine Nat.pos_of_ne_zero fun e => ?_
  have := absA_inj h.g.1 (i := k + 1) (j := 0) hk (by omega) (by show (xs.getD (k + 1) 0).natAbs = (xs.getD 0 0).natAbs; rw [num0_first h]; omega)
  omega
theorem relN_adj {xs : List Int} (h : Num0 xs) (hp : ∀ x ∈ xs, 0 ≤ x) {v w : Int} (a : AdjI xs v w) : RelN xs v.toNat (w.toNat - 1) := by
  obtain ⟨p, hl, rfl, rfl⟩ := adj_find a
  have h1 := pos_at hp (k := p) (by omega)
  have h2 := pos_at hp hl
  have h3 := pos_next h hp hl
  have er := end_r h (k := p) (by omega)
  have o : Orb besE (otE xs) (rEn (xs.getD p 0)) (besE (lEn (xs.getD (p + 1) 0))) := by
    rw [← ot_r h (by omega)]
    exact .pa (.ot .base)
  have := (orb_reach h er o).2
  rw [r_pos h1, l_pos h2] at this
  exact this
def nxE (q : Nat × Nat) : Nat := if q.2 = 1 then q.1 else q.1 - 1
theorem relN_sub {xs : List Int} (h : Num0 xs) (hp : ∀ x ∈ xs, 0 ≤ x) {E : Nat → Nat → Prop} (he : EqvR E) (ha : ∀ v w, AdjI xs v w → E v.toNat (w.toNat - 1)) {u v : Nat} (hu : u < xs.length - 1) (hv : v < xs.length - 1) (r : RelN xs u v) : E u v := by
  have eu : ∀ u, u < xs.length - 1 → EndP xs (u, 1) := fun u hu => ⟨.inr rfl, by show u < _; omega, by simp, by simp only; omega⟩
  have o := reach_orb h (eu u hu) r (eu v hv) rfl
  have key : ∀ q, Orb besE (otE xs) (u, 1) q → E u (nxE q) := fun q o => by
    induction o with
    | base => exact he.r u
    | @pa q o ih =>
      have hq := (orb_reach h (eu u hu) o).1
      have e : nxE (besE q) = nxE q := by
        obtain ⟨a, s⟩ := q
        rcases hq.s with hs | hs
        · have hs : s = 0 := hs
          subst hs
          rfl
        · have hs : s = 1 := hs
          subst hs
          rfl
      rw [e]
      exact ih
    | @ot q o ih =>
      have hq := (orb_reach h (eu u hu) o).1
      have hlt := pt_lt h q
      have sp := pt_spec h hq
      obtain ⟨p, ep⟩ : ∃ p, ptF xs q = p := ⟨_, rfl⟩
      rw [ep] at hlt sp
      have h1 := pos_at hp (k := p) (by omega)
      have h2 := pos_at hp (k := p + 1) (by omega)
      have ad := ha _ _ (adj_at (L := xs) (p := p) (by omega))
      rcases sp with rfl | rfl
      · rw [ot_r h hlt, l_pos h2]
        rw [r_pos h1] at ih
        exact he.t _ _ _ ih ad
      · rw [ot_l h hlt, r_pos h1]
        rw [l_pos h2] at ih
        exact he.t _ _ _ ih (he.s _ _ ad)
  exact key _ o
theorem rings_two {xs ys : List Int} (hx : Num0 xs) (hy : Num0 ys) (hl : ys.length = xs.length) (px : ∀ x ∈ xs, 0 ≤ x) (py : ∀ x ∈ ys, 0 ≤ x) {a b c d : Nat} (ha : ∀ v w, AdjI xs v w → mergeE (mergeE (RelN ys) a c) b d v.toNat (w.toNat - 1)) : ringN ys ≤ ringN xs + 2 := by
  obtain ⟨L, l1, l2, l3⟩ := ring_reps hy
  have E0 := relN_eqv hy
  have E1 := merge_eqv E0 a c
  have E2 := merge_eqv E1 b d
  have back : ∀ q, q < ys.length - 1 → ptF ys ((ys.getD q 0).toNat, 1) = q ∧ (ys.getD q 0).toNat < ys.length - 1 := fun q hq => by
    have h1 := pos_at py (k := q) (by omega)
    have h2 := pt_r hy hq
    rw [r_pos h1] at h2
    refine ⟨h2, ?_⟩
    have h3 := num0_lt hy (k := q) (by omega)
    refine Nat.lt_of_le_of_ne (by omega) fun e => ?_
    have := absA_inj hy.g.1 (i := q) (j := ys.length - 1) (by omega) (by omega) (by show (ys.getD q 0).natAbs = (ys.getD (ys.length - 1) 0).natAbs; rw [num0_last hy]; omega)
    omega
  have pw : (L.map fun q => (ys.getD q 0).toNat).Pairwise fun p q => ¬ RelN ys p q := by
    rw [List.pairwise_map]
    refine l3.imp_of_mem fun {p q} hp hq ne r => ne ?_
    unfold RelN at r
    rw [(back p (l2 p hp)).1, (back q (l2 q hq)).1] at r
    exact r
  -- the numbers below the greatest stay so
  obtain ⟨M0, hM0⟩ : ∃ M0, L.map (fun q => (ys.getD q 0).toNat) = M0 := ⟨_, rfl⟩
  rw [hM0] at pw
  obtain ⟨M, m1, m2⟩ : ∃ M : List Nat, M0.length ≤ M.length + 2 ∧ (∀ u ∈ M, u < xs.length - 1) ∧ M.Pairwise fun p q => ¬ mergeE (mergeE (RelN ys) a c) b d p q := by
    obtain ⟨M1, a1, a2, a3⟩ := prune E0 pw a c
    obtain ⟨M2, b1, b2, b3⟩ := prune E1 a3 b d
    refine ⟨M2, by omega, fun u hu => ?_, b3⟩
    have := a2 u (b2 u hu)
    rw [← hM0] at this
    obtain ⟨q, hq, rfl⟩ := List.mem_map.mp this
    have := (back q (l2 q hq)).2
    omega
  obtain ⟨m2, m3⟩ := m2
  have fin : (M.map fun u => ptF xs (u, 1)).length ≤ ringN xs := by
    refine ring_max hx (fun p hp => ?_) ?_
    · obtain ⟨u, _, rfl⟩ := List.mem_map.mp hp
      exact pt_lt hx _
    · rw [List.pairwise_map]
      exact m3.imp_of_mem fun {p q} hp hq ne r => ne (relN_sub hx px E2 ha (m2 p hp) (m2 q hq) r)
  rw [List.length_map] at fin
  have : M0.length = ringN ys := by rw [← hM0, List.length_map, l1]
  omega
def changedL (xs : List Int) (i j k l : Nat) : List Int := xs.take (i + 1) ++ (xs.drop (k + 1)).take (l - k) ++ (xs.drop (j + 1)).take (k - j) ++ (xs.drop (i + 1)).take (j - i) ++ xs.drop (l + 1)
theorem snoc_of {L : List Int} (h : 0 < L.length) : ∃ X a, L = X ++ [a] := ⟨L.dropLast, L.getLast (by intro e; rw [e] at h; exact absurd h (by simp)), (List.dropLast_concat_getLast _).symm⟩
theorem cons_of {L : List Int} (h : 0 < L.length) : ∃ b Y, L = b :: Y := by
  cases L with
  | nil => simp at h
  | cons b Y => exact ⟨b, Y, rfl⟩
theorem parts_of_line (xs : List Int) {i j k l : Nat} (h1 : i < j) (h2 : j ≤ k) (h3 : k < l) : xs = xs.take (i + 1) ++ ((xs.drop (i + 1)).take (j - i) ++ ((xs.drop (j + 1)).take (k - j) ++ ((xs.drop (k + 1)).take (l - k) ++ xs.drop (l + 1)))) := by
  have st : ∀ a b, a ≤ b → xs.drop (a + 1) = (xs.drop (a + 1)).take (b - a) ++ xs.drop (b + 1) := fun a b hab => by
    have e : xs.drop (b + 1) = (xs.drop (a + 1)).drop (b - a) := by
      rw [List.drop_drop]
      congr 1
      omega
    rw [e, List.take_append_drop]
  rw [← st k l (by omega), ← st j k h2, ← st i j (by omega), List.take_append_drop]
theorem rings_change {xs : List Int} {i j k l : Nat} (hx : Num0 xs) (px : ∀ x ∈ xs, 0 ≤ x) (h1 : i < j) (h2 : j ≤ k) (h3 : k < l) (h4 : l + 1 < xs.length) (hy : Num0 (changedL xs i j k l)) (hl : (changedL xs i j k l).length = xs.length) (py : ∀ x ∈ changedL xs i j k l, 0 ≤ x) : ringN (changedL xs i j k l) ≤ ringN xs + 2 := by
  obtain ⟨A, eA⟩ : ∃ A, xs.take (i + 1) = A := ⟨_, rfl⟩
  obtain ⟨B, eB⟩ : ∃ B, (xs.drop (i + 1)).take (j - i) = B := ⟨_, rfl⟩
  obtain ⟨C, eC⟩ : ∃ C, (xs.drop (j + 1)).take (k - j) = C := ⟨_, rfl⟩
  obtain ⟨Dd, eD⟩ : ∃ Dd, (xs.drop (k + 1)).take (l - k) = Dd := ⟨_, rfl⟩
  obtain ⟨Ee, eE⟩ : ∃ Ee, xs.drop (l + 1) = Ee := ⟨_, rfl⟩
  have ex := parts_of_line xs h1 h2 h3
  have ey : changedL xs i j k l = A ++ (Dd ++ (C ++ (B ++ Ee))) := by
    unfold changedL
    rw [eA, eB, eC, eD, eE]
    simp
  rw [eA, eB, eC, eD, eE] at ex
  have lA : 0 < A.length := by rw [← eA, List.length_take]; omega
  have lB : 0 < B.length := by rw [← eB, List.length_take, List.length_drop]; omega
  have lD : 0 < Dd.length := by rw [← eD, List.length_take, List.length_drop]; omega
  have lE : 0 < Ee.length := by rw [← eE, List.length_drop]; omega
  obtain ⟨A', a, rfl⟩ := snoc_of lA
  obtain ⟨b0, B1, hB0⟩ := cons_of lB
  obtain ⟨B', b, hB⟩ := snoc_of lB
  obtain ⟨d0, D1, hD0⟩ := cons_of lD
  obtain ⟨D', d, hD⟩ := snoc_of lD
  obtain ⟨e0, E1, hE0⟩ := cons_of lE
  generalize changedL xs i j k l = ys at *
  clear eA eB eC eD eE
  have R := relN_eqv hy
  have ra : ∀ v w, AdjI ys v w → RelN ys v.toNat (w.toNat - 1) := fun v w h => relN_adj hy py h
  -- what stands within a part stands so in both
  have iA : ∀ v w, AdjI (A' ++ [a]) v w → AdjI ys v w := fun v w h => by rw [ey]; exact adj_left h _
  have iD : ∀ v w, AdjI Dd v w → AdjI ys v w := fun v w h => by rw [ey]; exact adj_right (adj_left h _) _
  have iC : ∀ v w, AdjI C v w → AdjI ys v w := fun v w h => by rw [ey]; exact adj_right (adj_right (adj_left h _) _) _
  have iB : ∀ v w, AdjI B v w → AdjI ys v w := fun v w h => by rw [ey]; exact adj_right (adj_right (adj_right (adj_left h _) _) _) _
  have iE : ∀ v w, AdjI Ee v w → AdjI ys v w := fun v w h => by rw [ey]; exact adj_right (adj_right (adj_right (adj_right h _) _) _) _
  have yAD : AdjI ys a d0 := by
    rw [ey, hD0, List.cons_append]
    exact adj_mid A' a d0 _
  have yBE : AdjI ys b e0 := by
    rw [ey, hB, hE0]
    exact adj_right (adj_right (adj_right (adj_mid B' b e0 E1) _) _) _
  cases C with
  | nil =>
    have yDB : AdjI ys d b0 := by
      rw [ey, hD, hB0, List.nil_append, List.cons_append]
      exact adj_right (adj_mid D' d b0 _) _
    have E2 := merge_eqv (merge_eqv R a.toNat d.toNat) a.toNat b.toNat
    have lift : ∀ u v, RelN ys u v → mergeE (mergeE (RelN ys) a.toNat d.toNat) a.toNat b.toNat u v := fun u v h => .inl (.inl h)
    have m1 : mergeE (mergeE (RelN ys) a.toNat d.toNat) a.toNat b.toNat a.toNat d.toNat := .inl (merge_pair R _ _)
    have m2 : mergeE (mergeE (RelN ys) a.toNat d.toNat) a.toNat b.toNat a.toNat b.toNat := merge_pair (merge_eqv R _ _) _ _
    refine rings_two hx hy hl px py (a := a.toNat) (c := d.toNat) (b := a.toNat) (d := b.toNat) fun v w h => ?_
    rw [ex, hB0, List.cons_append] at h
    rcases adj_cut h with h | h | ⟨rfl, rfl⟩
    · exact lift _ _ (ra _ _ (iA _ _ h))
    · rw [← List.cons_append, ← hB0, hB, List.nil_append, hD0, List.cons_append] at h
      rcases adj_cut h with h | h | ⟨rfl, rfl⟩
      · rw [← hB] at h
        exact lift _ _ (ra _ _ (iB _ _ h))
      · rw [← List.cons_append, ← hD0, hD, hE0] at h
        rcases adj_cut h with h | h | ⟨rfl, rfl⟩
        · rw [← hD] at h
          exact lift _ _ (ra _ _ (iD _ _ h))
        · rw [← hE0] at h
          exact lift _ _ (ra _ _ (iE _ _ h))
        · exact E2.t _ _ _ (E2.s _ _ m1) (E2.t _ _ _ m2 (lift _ _ (ra _ _ yBE)))
      · exact E2.t _ _ _ (E2.s _ _ m2) (lift _ _ (ra _ _ yAD))
    · exact E2.t _ _ _ m1 (lift _ _ (ra _ _ yDB))
  | cons c0 C1 =>
    obtain ⟨C', c, hC⟩ := snoc_of (L := c0 :: C1) (by simp)
    have yDC : AdjI ys d c0 := by
      rw [ey, hD, List.cons_append]
      exact adj_right (adj_mid D' d c0 _) _
    have yCB : AdjI ys c b0 := by
      rw [ey, hC, hB0, List.cons_append]
      exact adj_right (adj_right (adj_mid C' c b0 _) _) _
    have E2 := merge_eqv (merge_eqv R a.toNat c.toNat) b.toNat d.toNat
    have lift : ∀ u v, RelN ys u v → mergeE (mergeE (RelN ys) a.toNat c.toNat) b.toNat d.toNat u v := fun u v h => .inl (.inl h)
    have m1 : mergeE (mergeE (RelN ys) a.toNat c.toNat) b.toNat d.toNat a.toNat c.toNat := .inl (merge_pair R _ _)
    have m2 : mergeE (mergeE (RelN ys) a.toNat c.toNat) b.toNat d.toNat b.toNat d.toNat := merge_pair (merge_eqv R _ _) _ _
    refine rings_two hx hy hl px py (a := a.toNat) (c := c.toNat) (b := b.toNat) (d := d.toNat) fun v w h => ?_
    rw [ex, hB0, List.cons_append] at h
    rcases adj_cut h with h | h | ⟨rfl, rfl⟩
    · exact lift _ _ (ra _ _ (iA _ _ h))
    · rw [← List.cons_append, ← hB0, hB, List.cons_append] at h
      rcases adj_cut h with h | h | ⟨rfl, rfl⟩
      · rw [← hB] at h
        exact lift _ _ (ra _ _ (iB _ _ h))
      · rw [← List.cons_append, hC, hD0, List.cons_append] at h
        rcases adj_cut h with h | h | ⟨rfl, rfl⟩
        · rw [← hC] at h
          exact lift _ _ (ra _ _ (iC _ _ h))
        · rw [← List.cons_append, ← hD0, hD, hE0] at h
          rcases adj_cut h with h | h | ⟨rfl, rfl⟩
          · rw [← hD] at h
            exact lift _ _ (ra _ _ (iD _ _ h))
          · rw [← hE0] at h
            exact lift _ _ (ra _ _ (iE _ _ h))
          · exact E2.t _ _ _ (E2.s _ _ m2) (lift _ _ (ra _ _ yBE))
        · exact E2.t _ _ _ (E2.s _ _ m1) (lift _ _ (ra _ _ yAD))
      · exact E2.t _ _ _ m2 (lift _ _ (ra _ _ yDC))
    · exact E2.t _ _ _ m1 (lift _ _ (ra _ _ yCB))

end Sw

open PySem PySem.Spec L2 Sw
namespace Sw
def sp_point_rings : PSp := fun fl ds Q => fl = none ∧ ∃ xs : List Int, ds = [.list (xs.map .int)] ∧ Num0 xs ∧ xs.length ≤ 50 ∧ Q (.fr ((ringsL (tieL xs (xs.length - 1)) (xs.length - 1)).map fun r => .list (natsD r))) none
abbrev N_point_rings : List Str := ["numbers", "ties", "met", "found", "k", "ring", "point"]
def T_point_rings : PS' := (sSeq (sAsg 1 (qCall sp_tied_points (qAddD (qCons (qVar 0) qNil) [])))
  (sSeq (sAsgD 2 false)
  (sSeq (sAsgF 3 (fLst (qNil)))
  (sSeq (sFor (iRg1 (qCB gLen (qCons (qVar 1) qNil))) (gN 4) (sIf (qTest (qDIn true (qVar 4) (qVar 2))) (sSeq (sAsg 5 (qCall sp_ring_of (qAddD (qCons (qVar 1) (qCons (qVar 4) qNil)) [])))
  (sSeq (sFor (iAny (qVar 5)) (gN 6) (sPutD 2 (qC (.bool true)) (qVar 6)))
  (sDrop (qMO 3 gAppend (qCons (qVar 5) qNil))))) sNil))
  (sRetS 3)))))
theorem pure_point_rings (fl : Option (List D)) (ds : List D) (Q : RV → Option (List D) → Prop) (_ : false = true ↔ fl ≠ none) (h : sp_point_rings fl ds Q) : T_point_rings (endsOf false Q) (startE false N_point_rings fl ds) := by
  obtain ⟨rfl, xs, rfl, hx, hl, k⟩ := h
  show T_point_rings _ [SV.dat (.list (xs.map .int)), SV.un, SV.un, SV.un, SV.un, SV.un, SV.un]
  unfold T_point_rings
  refine sSeq_abs fun R hR => ?_
  walk_at "wy"
  refine ⟨rfl, xs, rfl, hx, hl, ?_⟩
  have hl2 := hx.l
  obtain ⟨m, hm⟩ : ∃ m, m = xs.length - 1 := ⟨_, rfl⟩
  rw [← hm] at k ⊢
  have tl : (tieL xs m).length = m := by unfold tieL; rw [List.length_map, List.length_range, hm]
  have tO := tieL_ok hx hl
  rw [← hm] at tO
  obtain ⟨ties, hT⟩ : ∃ t, tieL xs m = t := ⟨_, rfl⟩
  have e0 : PyData.list ((tieL xs m).map fun ks => PyData.list (natsD ks)) = tiesD ties := by rw [hT]; rfl
  rw [hT] at k tl tO
  rw [e0]
  subst hR
  walk_at "wy"
  refine ⟨sizeL (by decide), _, rfl, ((ties.length : Nat) : Int), by rw [List.length_map], ⟨by omega, by omega⟩, ?_⟩
  rw [Int.toNat_natCast]
  refine pFor_inv (fun i env => ∃ (U : List Nat) (y4 y5 y6 : SV), env = [SV.dat (.list (xs.map .int)), SV.dat (tiesD ties), SV.dic false (metK U), SV.own false ((ringsL ties i).map fun r => .list (natsD r)), y4, y5, y6] ∧ U.Nodup ∧ (∀ u ∈ U, u < m) ∧ (∀ u, u ∈ U ↔ u ∈ (ringsL ties i).flatten) ∧ (ringsL ties i).length ≤ i) ⟨[], _, _, _, rfl, List.nodup_nil, fun _ h => (by cases h), fun u => Iff.rfl, Nat.le_refl _⟩ ?_ ?_
  · rintro i d hd env ⟨U, y4, y5, y6, rfl, hU, lU, mU, nU⟩ K hK
    obtain ⟨hi, rfl⟩ := rgD_get hd
    rw [show ((0 : Int) + (i : Int)) = ((i : Nat) : Int) by omega]
    walk_at "wy"
    refine ⟨⟨.inl (i : Int), rfl⟩, ?_⟩
    rw [look_met]
    by_cases c : i ∈ U
    · rw [decide_eq_true c, if_neg (by decide)]
      have e1 : ringsL ties (i + 1) = ringsL ties i := by
        show ringsL ties i ++ (if i ∈ (ringsL ties i).flatten then [] else [ringL ties i]) = _
        rw [if_pos ((mU i).mp c), List.append_nil]
      exact hK _ ⟨U, _, _, _, by rw [e1], hU, lU, by rw [e1]; exact mU, by rw [e1]; omega⟩
    · rw [decide_eq_false c, if_pos rfl]
      refine ⟨rfl, ties, i, rfl, tO, hi, by omega, fun r hr hm2 => ?_⟩
      have er : r = ringL ties i := up_one hr (ringL_lt ties i) fun x => by
        rw [hm2, ringL_mem]
        exact ⟨fun h => ⟨h.lt hi fun l hl => (tO l hl).2, h⟩, fun h => h.2⟩
      have lr : ∀ x ∈ r, x < m := fun x h => by
        rw [er] at h
        have := (ringL_mem.mp h).1
        omega
      refine ⟨_, rfl, ?_⟩
      refine pFor_inv (fun j env => ∃ (V : List Nat) (y6 : SV), env = [SV.dat (.list (xs.map .int)), SV.dat (tiesD ties), SV.dic false (metK V), SV.own false ((ringsL ties i).map fun r => .list (natsD r)), SV.dat (.int (i : Nat)), SV.dat (.list (natsD r)), y6] ∧ V.Nodup ∧ (∀ u ∈ V, u < m) ∧ ∀ u, u ∈ V ↔ u ∈ U ∨ u ∈ r.take j) ⟨U, _, rfl, hU, lU, fun u => by rw [List.take_zero]; simp⟩ ?_ ?_
      · rintro j d hd env ⟨V, y6, rfl, hV, lV, mV⟩ K2 hK2
        obtain ⟨z, hz, rfl⟩ : ∃ z, r[j]? = some z ∧ d = .int (z : Nat) := by
          unfold natsD at hd
          rw [List.getElem?_map] at hd
          cases q : r[j]? with
          | none => rw [q] at hd; cases hd
          | some z => rw [q] at hd; injection hd with hd; exact ⟨z, rfl, hd.symm⟩
        have zl : z ∈ r := List.mem_of_getElem? hz
        have tk : r.take (j + 1) = r.take j ++ [z] := by rw [List.take_add_one, hz]; rfl
        walk_at "wy"
        have ml : (metK V).length < sizeLine := by
          have := lt_few hV lV
          unfold metK
          rw [List.length_map]
          exact sizeL (by omega)
        refine ⟨⟨.inl (z : Int), rfl⟩, ml, ?_⟩
        rw [put_met]
        refine hK2 _ ⟨if z ∈ V then V else V ++ [z], _, rfl, ?_, ?_, fun u => ?_⟩
        · split
          · exact hV
          · rename_i c2
            refine List.nodup_append.mpr ⟨hV, by simp, fun u hu v hv e => ?_⟩
            rw [List.mem_singleton.mp hv] at e
            exact c2 (e ▸ hu)
        · intro u hu
          split at hu
          · exact lV u hu
          · rcases List.mem_append.mp hu with hu | hu
            · exact lV u hu
            · exact List.mem_singleton.mp hu ▸ lr z zl
        · have h0 : (u ∈ if z ∈ V then V else V ++ [z]) ↔ u ∈ V ∨ u = z := by
            split
            · rename_i c2
              exact ⟨.inl, fun h => h.elim id fun e => e ▸ c2⟩
            · rw [List.mem_append, List.mem_singleton]
          rw [h0, mV, tk, List.mem_append, List.mem_singleton, or_assoc]
      · rintro env ⟨V, y6, rfl, hV, lV, mV⟩
        walk_at "wy"
        rw [show r.take (natsD r).length = r by unfold natsD; rw [List.length_map, List.take_length]] at mV
        have nc : i ∉ (ringsL ties i).flatten := fun h => c ((mU i).mpr h)
        have e1 : ringsL ties (i + 1) = ringsL ties i ++ [ringL ties i] := by
          show ringsL ties i ++ (if i ∈ (ringsL ties i).flatten then [] else [ringL ties i]) = _
          rw [if_neg nc]
        refine ⟨by rw [List.length_map]; exact sizeL (by omega), hK _ ⟨V, .dat (.int (i : Nat)), .dat (.list (natsD r)), y6, ?_, hV, lV, fun u => ?_, ?_⟩⟩
        · rw [e1, List.map_append, ← er]
          rfl
        · rw [e1, List.flatten_append, List.mem_append, mV, mU, er]
          simp
        · rw [e1, List.length_append, List.length_singleton]
          omega
  · rintro env ⟨U, y4, y5, y6, rfl, hU, lU, mU, nU⟩
    have rl : (rgD 0 ties.length).length = m := by simp [rgD, tl]
    rw [rl]
    walk_at "wy"
    exact k
/-- half of the points less the rings -/
noncomputable def halfV (xs : List Int) : Int := ((xs.length : Int) - 1 - (ringN xs : Nat)) / 2
def sp_half_sum : PSp := fun fl ds Q => fl = none ∧ ∃ xs : List Int, ds = [.list (xs.map .int)] ∧ Num0 xs ∧ xs.length ≤ 50 ∧ Q (.dt (.int (halfV xs))) none
abbrev N_half_sum : List Str := ["numbers"]
def T_half_sum : PS' := (sRet (qOp (gI gDiv) (qOp (gI dSub) (qOp (gI dSub) (qCB gLen (qCons (qVar 0) qNil)) (qC (.int 1))) (qCB gLen (qCons (qCall sp_point_rings (qAddD (qCons (qVar 0) qNil) [])) qNil))) (qC (.int 2))))
theorem pure_half_sum (fl : Option (List D)) (ds : List D) (Q : RV → Option (List D) → Prop) (_ : false = true ↔ fl ≠ none) (h : sp_half_sum fl ds Q) : T_half_sum (endsOf false Q) (startE false N_half_sum fl ds) := by
  obtain ⟨rfl, xs, rfl, hx, hl, k⟩ := h
  show T_half_sum _ [SV.dat (.list (xs.map .int))]
  unfold T_half_sum
  walk_at "wy"
  refine ⟨rfl, xs, rfl, hx, hl, ?_⟩
  walk_at "wy"
  rw [List.length_map, List.length_map]
  exact ⟨⟨by decide, by decide⟩, k⟩
def sp_changed : PSp := fun fl ds Q => fl = none ∧ ∃ (xs : List Int) (i j k l : Nat), ds = [.list (xs.map .int), .int (i : Nat), .int (j : Nat), .int (k : Nat), .int (l : Nat)] ∧ i < j ∧ j ≤ k ∧ k < l ∧ l + 1 ≤ xs.length ∧ xs.length ≤ 1000 ∧ Q (.dt (.list ((changedL xs i j k l).map .int))) none
abbrev N_changed : List Str := ["numbers", "i", "j", "k", "l", "ahead"]
def T_changed : PS' := (sSeq (sAsg 5 (qOp gAdd (qSl (qVar 0) qPn (qPs (qOp gAdd (qVar 1) (qC (.int 1))))) (qSl (qVar 0) (qPs (qOp gAdd (qVar 3) (qC (.int 1)))) (qPs (qOp gAdd (qVar 4) (qC (.int 1)))))))
  (sRet (qOp gAdd (qOp gAdd (qOp gAdd (qVar 5) (qSl (qVar 0) (qPs (qOp gAdd (qVar 2) (qC (.int 1)))) (qPs (qOp gAdd (qVar 3) (qC (.int 1)))))) (qSl (qVar 0) (qPs (qOp gAdd (qVar 1) (qC (.int 1)))) (qPs (qOp gAdd (qVar 2) (qC (.int 1)))))) (qSl (qVar 0) (qPs (qOp gAdd (qVar 4) (qC (.int 1)))) qPn))))
theorem pure_changed (fl : Option (List D)) (ds : List D) (Q : RV → Option (List D) → Prop) (_ : false = true ↔ fl ≠ none) (h : sp_changed fl ds Q) : T_changed (endsOf false Q) (startE false N_changed fl ds) := by
  obtain ⟨rfl, xs, i, j, k, l, rfl, h1, h2, h3, h4, h5, q⟩ := h
  show T_changed _ [SV.dat (.list (xs.map .int)), SV.dat (.int (i : Nat)), SV.dat (.int (j : Nat)), SV.dat (.int (k : Nat)), SV.dat (.int (l : Nat)), SV.un]
  unfold T_changed
  have cm : ∀ a b : Nat, a ≤ b → b + 1 ≤ xs.length → cutD (xs.map PyData.int) (some ((a : Int) + 1)) (some ((b : Int) + 1)) = ((xs.drop (a + 1)).take (b - a)).map .int := fun a b hab hb => by
    rw [show ((a : Int) + 1) = ((a + 1 : Nat) : Int) by omega, show ((b : Int) + 1) = ((b + 1 : Nat) : Int) by omega, cutD_mid (by omega) (by rw [List.length_map]; omega), ← List.map_drop, ← List.map_take, show b + 1 - (a + 1) = b - a by omega]
  have ct : cutD (xs.map PyData.int) none (some ((i : Int) + 1)) = (xs.take (i + 1)).map .int := by
    rw [show ((i : Int) + 1) = ((i + 1 : Nat) : Int) by omega, cutD_take (by rw [List.length_map]; omega), List.map_take]
  have cd : cutD (xs.map PyData.int) (some ((l : Int) + 1)) none = (xs.drop (l + 1)).map .int := by
    rw [cutD_dropS (by rw [List.length_map]; omega), List.map_drop]
  have sl := sizeLine_eq
  walk_at "wy"
  rw [ct, cm k l (by omega) h4, cm j k h2 (by omega), cm i j (by omega) (by omega), cd]
  simp only [List.length_map, List.length_append, List.length_take, List.length_drop]
  refine ⟨by omega, by omega, by omega, by omega, ?_⟩
  have e : (xs.take (i + 1)).map PyData.int ++ ((xs.drop (k + 1)).take (l - k)).map .int ++ ((xs.drop (j + 1)).take (k - j)).map .int ++ ((xs.drop (i + 1)).take (j - i)).map .int ++ (xs.drop (l + 1)).map .int = (changedL xs i j k l).map .int := by
    unfold changedL
    rw [List.map_append, List.map_append, List.map_append, List.map_append]
  rw [e]
  exact q

end Sw

open PySem PySem.Spec L2 Sw
namespace Sw
theorem JsOk.few {ns : List Str} {js : List D} (J : JsOk ns js) : js.length ≤ 2 * ns.length := by
  have h1 : js.length ≤ (js.flatMap tupE).length := by
    have hf := J.form
    clear J
    induction js with
    | nil => exact Nat.zero_le _
    | cons j r ih =>
      have := ih fun x hx => hf x (List.mem_cons_of_mem _ hx)
      have h2 : 1 ≤ (tupE j).length := by cases hf j List.mem_cons_self <;> simp [tupE]
      show r.length + 1 ≤ (tupE j ++ r.flatMap tupE).length
      rw [List.length_append]
      omega
  have h2 := J.all.length_eq
  rw [List.length_append, List.length_map, List.length_map] at h2
  omega
end Sw

open PySem PySem.Spec L2 Sw
namespace Sw

end Sw

open PySem PySem.Spec L2 Sw
namespace Sw
theorem Jt.isE {j : D} (h : Jt j) : ∀ e ∈ tupE j, IsE e := fun e he => by
  cases h with
  | one h => rw [List.mem_singleton.mp he]; exact h
  | two h g =>
    rcases List.mem_cons.mp he with rfl | he
    · exact h
    · rw [List.mem_singleton.mp he]; exact g
theorem Jt.tup {j : D} (h : Jt j) : j = .tuple (tupE j) := by cases h <;> rfl
theorem Jt.len {j : D} (h : Jt j) : 1 ≤ (tupE j).length ∧ (tupE j).length ≤ 2 := by cases h <;> simp [tupE]
theorem Jt.isJ {j : D} (h : Jt j) : IsJ j := by
  cases h with
  | one h => exact isJ_one h
  | two h g => exact ⟨_, rfl, fun e he => by
      rcases List.mem_cons.mp he with rfl | he
      · exact h
      · rw [List.mem_singleton.mp he]; exact g, by simp, by simp⟩
end Sw

open PySem PySem.Spec L2 Sw
namespace Sw
def notB (B : List D) (j : D) : Bool := !(B.any fun z => PyData.eqv z j)
def onlyIn (A B : List D) : List D := A.filter fun j => decide ((tupE j).length = 2) && notB B j
theorem notB_iff {B : List D} {j : D} (hB : ∀ x ∈ B, IsJ x) (hj : IsJ j) : notB B j = true ↔ j ∉ B := by
  unfold notB
  rw [Bool.not_eq_true', ← Bool.not_eq_true, List.any_eq_true]
  constructor
  · exact fun h m => h ⟨j, m, (eqv_hn 2 j j (hn_J hj 0) (hn_J hj 0)).mpr rfl⟩
  · rintro h ⟨x, hx, e⟩
    exact h ((eqv_hn 2 x j (hn_J (hB x hx) 0) (hn_J hj 0)).mp e ▸ hx)
theorem only_iff {A B : List D} (hA : ∀ x ∈ A, IsJ x) (hB : ∀ x ∈ B, IsJ x) {j : D} : j ∈ onlyIn A B ↔ j ∈ A ∧ (tupE j).length = 2 ∧ j ∉ B := by
  unfold onlyIn
  rw [List.mem_filter, Bool.and_eq_true, decide_eq_true_eq]
  constructor
  · rintro ⟨a, b, c⟩
    exact ⟨a, b, (notB_iff hB (hA j a)).mp c⟩
  · rintro ⟨a, b, c⟩
    exact ⟨a, b, (notB_iff hB (hA j a)).mpr c⟩
theorem JsOk.isJ {ns : List Str} {js : List D} (h : JsOk ns js) : ∀ j ∈ js, IsJ j := fun j hj => (h.form j hj).isJ
theorem JsOk.nodJ {ns : List Str} {js : List D} (h : JsOk ns js) (hn : ns.Nodup) : js.Nodup := by
  have h1 := h.nod hn
  have h2 := h.form
  clear h
  induction js with
  | nil => exact List.nodup_nil
  | cons j r ih =>
    have e : (j :: r).flatMap tupE = tupE j ++ r.flatMap tupE := rfl
    rw [e] at h1
    obtain ⟨_, a2, a3⟩ := List.nodup_append.mp h1
    refine List.nodup_cons.mpr ⟨fun hm => ?_, ih a2 fun x hx => h2 x (List.mem_cons_of_mem _ hx)⟩
    have hl := (h2 j List.mem_cons_self).len.1
    cases q : tupE j with
    | nil => rw [q] at hl; simp at hl
    | cons x s =>
      have hx : x ∈ tupE j := by rw [q]; exact List.mem_cons_self
      exact a3 x hx x (List.mem_flatMap.mpr ⟨j, hm, hx⟩) rfl
end Sw

open PySem PySem.Spec L2 Sw
namespace Sw
def Hl : Nat → D → Prop
  | _, .str z => Low z
  | _, .int _ => True
  | n + 1, .tuple ds => ∀ d ∈ ds, Hl n d
  | n + 1, .list ds => ∀ d ∈ ds, Hl n d
  | _, _ => False
theorem Hl.hn : ∀ {n : Nat} {d : D}, Hl n d → Hn n d := fun {n} => by
  induction n with
  | zero => intro d h; cases d <;> first | exact h.elim | trivial
  | succ n ih =>
    intro d h
    cases d <;> first
      | exact h.elim
      | trivial
      | exact fun x hx => ih (h x hx)
def cutJ : D → D
  | .tuple [x, y] => .tuple [.tuple [.tuple [x, y]], .tuple [.tuple [x], .tuple [y]]]
  | _ => .none
def joinJ : D → D
  | .tuple [x, y] => .tuple [.tuple [.tuple [x], .tuple [y]], .tuple [.tuple [x, y]]]
  | _ => .none
def rowOne (A B : List D) : List D := (onlyIn A B).map cutJ ++ (onlyIn B A).map joinJ
theorem Jt.one_of {j : D} (h : Jt j) (hl : (tupE j).length ≠ 2) : ∃ x, j = .tuple [x] ∧ IsE x := by
  cases h with
  | one h => exact ⟨_, rfl, h⟩
  | two h g => simp [tupE] at hl
def stepS (S : List D) : D → List D
  | .tuple [.tuple gone, .tuple come] => srtD (S.filter (notB gone) ++ come)
  | _ => S
/-- a list of joints with no joint twice, that holds just what P tells -/
structure Sg (S : List D) (P : D → Prop) : Prop where
  nod : S.Nodup
  iff : ∀ j, j ∈ S ↔ P j
def afterC (A C : List D) : D → Prop := fun j => (j ∈ A ∧ j ∉ C) ∨ ∃ c ∈ C, ∃ x ∈ tupE c, j = .tuple [x]
def afterJ (P : D → Prop) (E : List D) : D → Prop := fun j => (P j ∧ ¬∃ d ∈ E, ∃ x ∈ tupE d, j = .tuple [x]) ∨ j ∈ E
section
variable {ns : List Str} {A B : List D}
theorem JsOk.one_is (hA : JsOk ns A) (hn : ns.Nodup) {i j x : D} (hi : i ∈ A) (hj : j ∈ A) (h1 : x ∈ tupE i) (h2 : x ∈ tupE j) : i = j := uniq_flat (hA.nod hn) hi hj h1 h2
theorem JsOk.also (hA : JsOk ns A) (hB : JsOk ns B) {j x : D} (hj : j ∈ A) (hx : x ∈ tupE j) : ∃ i ∈ B, x ∈ tupE i := by
  have h1 := hA.mem.mp (List.mem_flatMap.mpr ⟨j, hj, hx⟩)
  exact List.mem_flatMap.mp (hB.mem.mpr h1)
theorem all_done {S : List D} (hA : JsOk ns A) (hB : JsOk ns B) (hn : ns.Nodup) (hS : Sg S (afterJ (afterC A (onlyIn A B)) (onlyIn B A))) : ∀ j, j ∈ S ↔ j ∈ B := fun j => by
  rw [hS.iff j]
  have oA := fun {j : D} => only_iff (j := j) hA.isJ hB.isJ
  have oB := fun {j : D} => only_iff (j := j) hB.isJ hA.isJ
  have single : ∀ x i, i ∈ A → x ∈ tupE i → (¬∃ d ∈ onlyIn B A, ∃ z ∈ tupE d, PyData.tuple [x] = .tuple [z]) → i ∉ B ∨ (tupE i).length ≠ 2 → .tuple [x] ∈ B := fun x i hi hx hno hor => by
    obtain ⟨b, hb, hxb⟩ := hA.also hB hi hx
    by_cases hl : (tupE b).length = 2
    · by_cases hbA : b ∈ A
      · have := hA.one_is hn hbA hi hxb hx
        subst this
        rcases hor with h | h
        · exact absurd hb h
        · exact absurd hl h
      · exact absurd ⟨b, oB.mpr ⟨hb, hl, hbA⟩, x, hxb, rfl⟩ hno
    · obtain ⟨x', rfl, _⟩ := (hB.form b hb).one_of hl
      rw [List.mem_singleton.mp hxb]
      exact hb
  constructor
  · rintro (⟨⟨h1, h2⟩ | ⟨c, hc, z, hz, rfl⟩, h3⟩ | h)
    · by_cases hl : (tupE j).length = 2
      · by_cases hb : j ∈ B
        · exact hb
        · exact absurd (oA.mpr ⟨h1, hl, hb⟩) h2
      · obtain ⟨x, rfl, _⟩ := (hA.form j h1).one_of hl
        exact single x _ h1 (by simp [tupE]) h3 (.inr hl)
    · have hc := oA.mp hc
      exact single z c hc.1 hz h3 (.inl hc.2.2)
    · exact (oB.mp h).1
  · intro hb
    by_cases hl : (tupE j).length = 2
    · by_cases ha : j ∈ A
      · refine .inl ⟨.inl ⟨ha, fun h => (oA.mp h).2.2 hb⟩, ?_⟩
        rintro ⟨d, _, z, _, rfl⟩
        simp [tupE] at hl
      · exact .inr (oB.mpr ⟨hb, hl, ha⟩)
    · obtain ⟨x, rfl, _⟩ := (hB.form j hb).one_of hl
      refine .inl ⟨?_, ?_⟩
      · obtain ⟨a, ha, hxa⟩ := hB.also hA hb (x := x) (by simp [tupE])
        by_cases hla : (tupE a).length = 2
        · refine .inr ⟨a, oA.mpr ⟨ha, hla, fun hab => ?_⟩, x, hxa, rfl⟩
          have := hB.one_is hn hab hb hxa (by simp [tupE])
          rw [this] at hla
          exact hl hla
        · obtain ⟨x', rfl, _⟩ := (hA.form a ha).one_of hla
          rw [List.mem_singleton.mp hxa]
          exact .inl ⟨ha, fun h => hla (oA.mp h).2.1⟩
      · rintro ⟨d, hd, z, hz, e⟩
        cases e
        have hd := oB.mp hd
        have := hB.one_is hn hd.1 hb hz (by simp [tupE])
        rw [this] at hd
        exact hl hd.2.1
end

end Sw

open PySem PySem.Spec L2 Sw
namespace Sw
def mayJ (S : List D) : D → Bool
  | .tuple [x, y] => !notB S (.tuple [x]) && !notB S (.tuple [y])
  | _ => false
def goodL (S B : List D) : List D := (onlyIn S B).map cutJ ++ (B.filter (mayJ S)).map joinJ
end Sw

open PySem PySem.Spec L2 Sw
namespace Sw
/-- a joint of low names -/
structure Lj (j : D) : Prop where
  jt : Jt j
  lo : ∀ x ∈ tupE j, ∀ n, Hl (n + 1) x
theorem Lj.hl {j : D} (h : Lj j) (n : Nat) : Hl (n + 2) j := by
  rw [h.jt.tup]
  exact fun x hx => h.lo x hx n
theorem Lj.one {j : D} (h : Lj j) {x : D} (hx : x ∈ tupE j) : Lj (.tuple [x]) := ⟨.one (h.jt.isE x hx), fun y hy n => by
  rw [List.mem_singleton.mp hy]
  exact h.lo x hx n⟩
structure RI (A B : List D) (i : Nat) (S : List D) : Prop where
  srt : S = srtD S
  sg : Sg S (afterJ (afterC A ((onlyIn A B).take i)) ((onlyIn B A).take (i - (onlyIn A B).length)))
  len : S.length ≤ A.length + 2 * i
section
variable {ns : List Str} {A B : List D}
theorem RI.zero (hA : JsOk ns A) (hn : ns.Nodup) (hs : A = srtD A) : RI A B 0 A := ⟨hs, ⟨hA.nodJ hn, fun j => by simp [afterJ, afterC]⟩, by omega⟩
theorem RI.fin (hA : JsOk ns A) (hB : JsOk ns B) (hn : ns.Nodup) (hb : B = srtD B) {S : List D} (h : RI A B (rowOne A B).length S) : S = B := by
  have hl : (rowOne A B).length = (onlyIn A B).length + (onlyIn B A).length := by unfold rowOne; rw [List.length_append, List.length_map, List.length_map]
  have hS := h.sg
  rw [hl, List.take_of_length_le (by omega), List.take_of_length_le (by omega)] at hS
  have hp : S.Perm B := (List.perm_ext_iff_of_nodup hS.nod (hB.nodJ hn)).mpr (all_done hA hB hn hS)
  rw [h.srt, hb]
  exact srtD_congr (allAlikeJ hB.isJ) hp
/-- what a deed of the row is, there where it stands -/
structure Dd (A B : List D) (i : Nat) (S gone come : List D) : Prop where
  g : ∀ x ∈ gone, IsJ x
  c : ∀ x ∈ come, IsJ x
  lg : gone.length ≤ 2
  lc : come.length ≤ 2
  hl : Hl 4 (.tuple [.tuple gone, .tuple come])
  may : .tuple [.tuple gone, .tuple come] ∈ goodL S B
  nx : RI A B (i + 1) (stepS S (.tuple [.tuple gone, .tuple come]))
end

end Sw

open PySem PySem.Spec L2 Sw
namespace Sw

end Sw

open PySem PySem.Spec L2 Sw
namespace Sw

end Sw

open PySem PySem.Spec L2 Sw
namespace Sw

end Sw

open PySem PySem.Spec L2 Sw
namespace Sw

end Sw

open PySem PySem.Spec L2 Sw
namespace Sw

end Sw

open PySem PySem.Spec L2 Sw
namespace Sw

end Sw

open PySem PySem.Spec L2 Sw
namespace Sw
/-- the deeds that only cut or join -/
def ties : D → D → List D
  | .tuple [a], .tuple [b] => [.tuple [.tuple [.tuple [a], .tuple [b]], .tuple [jt a b]]]
  | _, _ => []
end Sw

open PySem PySem.Spec L2 Sw
namespace Sw

end Sw

open PySem PySem.Spec L2 Sw
namespace Sw

end Sw

open PySem PySem.Spec L2 Sw
namespace Sw
def turnD (i j : Nat) : D := .tuple [.str (Str.ofString "turn"), .int i, .int j]
def changeD (i j k l : Nat) : D := .tuple [.str (Str.ofString "change"), .int i, .int j, .int k, .int l]
def changesK (n i j k : Nat) : List D := (List.range (n - k)).map fun l => changeD i j k (k + 1 + l)
def changesJ (n i j : Nat) : List D := (List.range (n - j)).flatMap fun k => changesK n i j (j + k)
def changesI (n i : Nat) : List D := (List.range (n - (i + 1))).flatMap fun j => changesJ n i (i + 1 + j)
def changesL (n : Nat) : List D := (List.range n).flatMap (changesI n)
theorem flat_bd {α β : Type} {f : α → List β} {b : Nat} : ∀ {xs : List α}, (∀ x ∈ xs, (f x).length ≤ b) → (xs.flatMap f).length ≤ xs.length * b
  | [], _ => by simp
  | x :: r, h => by
    have h1 := flat_bd (xs := r) fun z hz => h z (List.mem_cons_of_mem _ hz)
    have h2 := h x List.mem_cons_self
    show (f x ++ r.flatMap f).length ≤ _
    rw [List.length_append, List.length_cons, Nat.add_mul, Nat.one_mul]
    omega
theorem range_flat {β : Type} (f : Nat → List β) (i : Nat) : (List.range (i + 1)).flatMap f = (List.range i).flatMap f ++ f i := by
  rw [List.range_succ, List.flatMap_append]
  simp
theorem range_map {β : Type} (f : Nat → β) (i : Nat) : (List.range (i + 1)).map f = (List.range i).map f ++ [f i] := by
  rw [List.range_succ, List.map_append]
  rfl
theorem changesK_len {n i j k : Nat} (h : n ≤ 40) : (changesK n i j k).length ≤ 40 := by
  unfold changesK
  rw [List.length_map, List.length_range]
  omega
theorem changesKR_len {n i j m : Nat} (h : n ≤ 40) : ((List.range m).flatMap fun k => changesK n i j (j + k)).length ≤ m * 40 := by
  have := flat_bd (f := fun k => changesK n i j (j + k)) (b := 40) (xs := List.range m) fun x _ => changesK_len h
  rw [List.length_range] at this
  exact this
theorem changesJ_len {n i j : Nat} (h : n ≤ 40) : (changesJ n i j).length ≤ 1600 := by
  have := changesKR_len (i := i) (j := j) (m := n - j) h
  unfold changesJ
  omega
theorem changesJR_len {n i m : Nat} (h : n ≤ 40) : ((List.range m).flatMap fun j => changesJ n i (i + 1 + j)).length ≤ m * 1600 := by
  have := flat_bd (f := fun j => changesJ n i (i + 1 + j)) (b := 1600) (xs := List.range m) fun x _ => changesJ_len h
  rw [List.length_range] at this
  exact this
theorem changesI_len {n i : Nat} (h : n ≤ 40) : (changesI n i).length ≤ 64000 := by
  have := changesJR_len (i := i) (m := n - (i + 1)) h
  unfold changesI
  omega
theorem changesR_len {n m : Nat} (h : n ≤ 40) : ((List.range m).flatMap (changesI n)).length ≤ m * 64000 := by
  have := flat_bd (f := changesI n) (b := 64000) (xs := List.range m) fun x _ => changesI_len h
  rw [List.length_range] at this
  exact this
theorem changesL_len {n : Nat} (h : n ≤ 40) : (changesL n).length ≤ 2560000 := by
  have := changesR_len (m := n) h
  unfold changesL
  omega
theorem rgD_at {lo : Int} {n : Nat} : rgD lo n = (List.range n).map fun (i : Nat) => PyData.int (lo + (i : Int)) := rfl
end Sw

open PySem PySem.Spec L2 Sw
namespace Sw
def sp_changes_from : PSp := fun fl ds Q => fl = none ∧ ∃ ls : List D, ds = [.tuple ls] ∧ ls.length ≤ 40 ∧ Q (.fr (changesL ls.length)) none
abbrev N_changes_from : List Str := ["line", "size", "found", "i", "j", "k", "l"]
def T_changes_from : PS' := (sSeq (sAsg 1 (qCB gLen (qCons (qVar 0) qNil)))
  (sSeq (sAsgF 2 (fLst (qNil)))
  (sSeq (sFor (iRg1 (qVar 1)) (gN 3) (sFor (iRg2 (qOp gAdd (qVar 3) (qC (.int 1))) (qVar 1)) (gN 4) (sFor (iRg2 (qVar 4) (qVar 1)) (gN 5) (sFor (iRg2 (qOp gAdd (qVar 5) (qC (.int 1))) (qOp gAdd (qVar 1) (qC (.int 1)))) (gN 6) (sDrop (qMO 2 gAppend (qCons (qTup (qCons (qC (.str "change")) (qCons (qVar 3) (qCons (qVar 4) (qCons (qVar 5) (qCons (qVar 6) qNil)))))) qNil)))))))
  (sRetS 2))))
theorem pure_changes_from (fl : Option (List D)) (ds : List D) (Q : RV → Option (List D) → Prop) (_ : false = true ↔ fl ≠ none) (h : sp_changes_from fl ds Q) : T_changes_from (endsOf false Q) (startE false N_changes_from fl ds) := by
  obtain ⟨rfl, ls, rfl, hn, k⟩ := h
  show T_changes_from _ [SV.dat (.tuple ls), SV.un, SV.un, SV.un, SV.un, SV.un, SV.un]
  unfold T_changes_from
  refine sSeq_abs fun R hR => ?_
  walk_at "wp"
  subst hR
  generalize hL : ls.length = n at *
  refine sSeq_abs fun R hR => ?_
  walk_at "wp"
  refine ⟨sizeL (by decide), ?_⟩
  subst hR
  refine cut_seq (fun env => ∃ y3 y4 y5 y6, env = [SV.dat (.tuple ls), SV.dat (.int n), SV.own false (changesL n), y3, y4, y5, y6]) ?_ fun nx hnx => ?_
  · rintro env ⟨y3, y4, y5, y6, rfl⟩
    walk_at "wp"
    exact k
  refine sFor_abs fun BB hBB => ?_
  walk_at "wp"
  refine ⟨⟨by omega, by omega⟩, ?_⟩
  refine pFor_inv (fun i env => ∃ y3 y4 y5 y6, env = [SV.dat (.tuple ls), SV.dat (.int n), SV.own false ((List.range i).flatMap (changesI n)), y3, y4, y5, y6]) ⟨_, _, _, _, rfl⟩ ?_ (fun env h => hnx env (by rw [rgD_len] at h; exact h))
  rintro i d hd env ⟨y3, y4, y5, y6, rfl⟩ K hK
  obtain ⟨hi, rfl⟩ := rgD_get hd
  have hi : i < n := by omega
  rw [Int.zero_add]
  have l1 := changesR_len (m := i) hn
  have x1 : (List.range (i + 1)).flatMap (changesI n) = (List.range i).flatMap (changesI n) ++ changesI n i := range_flat _ _
  rw [x1] at hK
  generalize (List.range i).flatMap (changesI n) = A1 at *
  walk_at "wp"
  subst hBB
  -- j
  refine sFor_abs fun BB hBB => ?_
  walk_at "wp"
  refine ⟨⟨by omega, by omega, by omega, by omega⟩, ?_⟩
  have e1 : ((n : Int) - ((i : Int) + 1)).toNat = n - (i + 1) := by omega
  rw [e1]
  refine pFor_inv (fun m env => ∃ y4 y5 y6, env = [SV.dat (.tuple ls), SV.dat (.int n), SV.own false (A1 ++ (List.range m).flatMap fun j => changesJ n i (i + 1 + j)), SV.dat (.int i), y4, y5, y6]) ⟨y4, y5, y6, by simp⟩ ?_ (fun env h => by
    obtain ⟨y4, y5, y6, rfl⟩ := h
    rw [rgD_len]
    exact hK _ ⟨_, _, _, _, rfl⟩)
  rintro m d hd env ⟨y4, y5, y6, rfl⟩ K2 hK2
  obtain ⟨hm, rfl⟩ := rgD_get hd
  have l2 := changesJR_len (i := i) (m := m) hn
  have x2 : (List.range (m + 1)).flatMap (fun j => changesJ n i (i + 1 + j)) = (List.range m).flatMap (fun j => changesJ n i (i + 1 + j)) ++ changesJ n i (i + 1 + m) := range_flat _ _
  rw [x2, ← List.append_assoc] at hK2
  have l2' : (A1 ++ (List.range m).flatMap fun j => changesJ n i (i + 1 + j)).length ≤ i * 64000 + m * 1600 := by rw [List.length_append]; omega
  generalize (A1 ++ (List.range m).flatMap fun j => changesJ n i (i + 1 + j)) = A2 at *
  have ej : ((i : Int) + 1 + (m : Int)) = ((i + 1 + m : Nat) : Int) := by omega
  rw [ej]
  have hj : i + 1 + m < n := by omega
  generalize i + 1 + m = j at *
  walk_at "wp"
  subst hBB
  -- k
  refine sFor_abs fun BB hBB => ?_
  walk_at "wp"
  refine ⟨⟨by omega, by omega, by omega, by omega⟩, ?_⟩
  have e2 : ((n : Int) - (j : Int)).toNat = n - j := by omega
  rw [e2]
  refine pFor_inv (fun q env => ∃ y5 y6, env = [SV.dat (.tuple ls), SV.dat (.int n), SV.own false (A2 ++ (List.range q).flatMap fun k => changesK n i j (j + k)), SV.dat (.int i), SV.dat (.int j), y5, y6]) ⟨y5, y6, by simp⟩ ?_ (fun env h => by
    obtain ⟨y5, y6, rfl⟩ := h
    rw [rgD_len]
    exact hK2 _ ⟨_, _, _, rfl⟩)
  rintro q d hd env ⟨y5, y6, rfl⟩ K3 hK3
  obtain ⟨hq, rfl⟩ := rgD_get hd
  have l3 := changesKR_len (i := i) (j := j) (m := q) hn
  have x3 : (List.range (q + 1)).flatMap (fun k => changesK n i j (j + k)) = (List.range q).flatMap (fun k => changesK n i j (j + k)) ++ changesK n i j (j + q) := range_flat _ _
  rw [x3, ← List.append_assoc] at hK3
  have l3' : (A2 ++ (List.range q).flatMap fun k => changesK n i j (j + k)).length ≤ i * 64000 + m * 1600 + q * 40 := by rw [List.length_append]; omega
  generalize (A2 ++ (List.range q).flatMap fun k => changesK n i j (j + k)) = A3 at *
  have ek : ((j : Int) + (q : Int)) = ((j + q : Nat) : Int) := by omega
  rw [ek]
  have hk : j + q < n := by omega
  generalize hkk : j + q = kk at *
  walk_at "wp"
  subst hBB
  -- l
  refine sFor_abs fun BB hBB => ?_
  walk_at "wp"
  refine ⟨⟨by omega, by omega, by omega, by omega⟩, ?_⟩
  have e3 : ((n : Int) + 1 - ((kk : Int) + 1)).toNat = n - kk := by omega
  rw [e3]
  refine pFor_inv (fun p env => ∃ y6, env = [SV.dat (.tuple ls), SV.dat (.int n), SV.own false (A3 ++ (List.range p).map fun l => changeD i j kk (kk + 1 + l)), SV.dat (.int i), SV.dat (.int j), SV.dat (.int kk), y6]) ⟨y6, by simp⟩ ?_ (fun env h => by
    obtain ⟨y6, rfl⟩ := h
    rw [rgD_len]
    exact hK3 _ ⟨_, _, rfl⟩)
  rintro p d hd env ⟨y6, rfl⟩ K4 hK4
  obtain ⟨hp, rfl⟩ := rgD_get hd
  subst hBB
  walk_at "wp"
  have el : ((kk : Int) + 1 + (p : Int)) = ((kk + 1 + p : Nat) : Int) := by omega
  rw [el]
  refine ⟨sizeL (by decide), sizeL (by rw [List.length_append, List.length_map, List.length_range]; omega), hK4 _ ⟨SV.dat (.int ((kk + 1 + p : Nat) : Int)), ?_⟩⟩
  rw [range_map, ← List.append_assoc]
  rfl
def sp_law_changes : PSp := fun fl ds Q => fl = none ∧ ∃ n : Nat, ds = [.int n] ∧ n ≤ 40 ∧ Q (.fr (changesL n)) none
abbrev N_law_changes : List Str := ["_law_many", "_law_found", "_law_i", "_law_j", "_law_k", "_law_l"]
def T_law_changes : PS' := (sSeq (sAsgF 1 (fLst (qNil)))
  (sSeq (sFor (iRg1 (qVar 0)) (gN 2) (sFor (iRg2 (qOp gAdd (qVar 2) (qC (.int 1))) (qVar 0)) (gN 3) (sFor (iRg2 (qVar 3) (qVar 0)) (gN 4) (sDrop (qMO 1 gExtend (qCons (qF (fLc (iRg2 (qOp gAdd (qVar 4) (qC (.int 1))) (qOp gAdd (qVar 0) (qC (.int 1)))) (gN 5) tYes' (qTup (qCons (qC (.str "change")) (qCons (qVar 2) (qCons (qVar 3) (qCons (qVar 4) (qCons (qVar 5) qNil)))))) [5])) qNil))))))
  (sRetS 1)))
theorem pure_law_changes (fl : Option (List D)) (ds : List D) (Q : RV → Option (List D) → Prop) (_ : false = true ↔ fl ≠ none) (h : sp_law_changes fl ds Q) : T_law_changes (endsOf false Q) (startE false N_law_changes fl ds) := by
  obtain ⟨rfl, n, rfl, hn, k⟩ := h
  show T_law_changes _ [SV.dat (.int n), SV.un, SV.un, SV.un, SV.un, SV.un]
  unfold T_law_changes
  refine sSeq_abs fun R hR => ?_
  walk_at "wp"
  refine ⟨sizeL (by decide), ?_⟩
  subst hR
  refine cut_seq (fun env => ∃ y3 y4 y5, env = [SV.dat (.int n), SV.own false (changesL n), y3, y4, y5, SV.un]) ?_ fun nx hnx => ?_
  · rintro env ⟨y3, y4, y5, rfl⟩
    walk_at "wp"
    exact k
  refine sFor_abs fun BB hBB => ?_
  walk_at "wp"
  refine ⟨⟨by omega, by omega⟩, ?_⟩
  refine pFor_inv (fun i env => ∃ y3 y4 y5, env = [SV.dat (.int n), SV.own false ((List.range i).flatMap (changesI n)), y3, y4, y5, SV.un]) ⟨_, _, _, rfl⟩ ?_ (fun env h => hnx env (by rw [rgD_len] at h; exact h))
  rintro i d hd env ⟨y3, y4, y5, rfl⟩ K hK
  obtain ⟨hi, rfl⟩ := rgD_get hd
  have hi : i < n := by omega
  rw [Int.zero_add]
  have l1 := changesR_len (m := i) hn
  have x1 : (List.range (i + 1)).flatMap (changesI n) = (List.range i).flatMap (changesI n) ++ changesI n i := range_flat _ _
  rw [x1] at hK
  generalize (List.range i).flatMap (changesI n) = A1 at *
  walk_at "wp"
  subst hBB
  -- j
  refine sFor_abs fun BB hBB => ?_
  walk_at "wp"
  refine ⟨⟨by omega, by omega, by omega, by omega⟩, ?_⟩
  have e1 : ((n : Int) - ((i : Int) + 1)).toNat = n - (i + 1) := by omega
  rw [e1]
  refine pFor_inv (fun m env => ∃ y4 y5, env = [SV.dat (.int n), SV.own false (A1 ++ (List.range m).flatMap fun j => changesJ n i (i + 1 + j)), SV.dat (.int i), y4, y5, SV.un]) ⟨y4, y5, by simp⟩ ?_ (fun env h => by
    obtain ⟨y4, y5, rfl⟩ := h
    rw [rgD_len]
    exact hK _ ⟨_, _, _, rfl⟩)
  rintro m d hd env ⟨y4, y5, rfl⟩ K2 hK2
  obtain ⟨hm, rfl⟩ := rgD_get hd
  have l2 := changesJR_len (i := i) (m := m) hn
  have x2 : (List.range (m + 1)).flatMap (fun j => changesJ n i (i + 1 + j)) = (List.range m).flatMap (fun j => changesJ n i (i + 1 + j)) ++ changesJ n i (i + 1 + m) := range_flat _ _
  rw [x2, ← List.append_assoc] at hK2
  have l2' : (A1 ++ (List.range m).flatMap fun j => changesJ n i (i + 1 + j)).length ≤ i * 64000 + m * 1600 := by rw [List.length_append]; omega
  generalize (A1 ++ (List.range m).flatMap fun j => changesJ n i (i + 1 + j)) = A2 at *
  have ej : ((i : Int) + 1 + (m : Int)) = ((i + 1 + m : Nat) : Int) := by omega
  rw [ej]
  have hj : i + 1 + m < n := by omega
  generalize i + 1 + m = j at *
  walk_at "wp"
  subst hBB
  -- k
  refine sFor_abs fun BB hBB => ?_
  walk_at "wp"
  refine ⟨⟨by omega, by omega, by omega, by omega⟩, ?_⟩
  have e2 : ((n : Int) - (j : Int)).toNat = n - j := by omega
  rw [e2]
  refine pFor_inv (fun q env => ∃ y5, env = [SV.dat (.int n), SV.own false (A2 ++ (List.range q).flatMap fun k => changesK n i j (j + k)), SV.dat (.int i), SV.dat (.int j), y5, SV.un]) ⟨y5, by simp⟩ ?_ (fun env h => by
    obtain ⟨y5, rfl⟩ := h
    rw [rgD_len]
    exact hK2 _ ⟨_, _, rfl⟩)
  rintro q d hd env ⟨y5, rfl⟩ K3 hK3
  obtain ⟨hq, rfl⟩ := rgD_get hd
  have l3 := changesKR_len (i := i) (j := j) (m := q) hn
  have x3 : (List.range (q + 1)).flatMap (fun k => changesK n i j (j + k)) = (List.range q).flatMap (fun k => changesK n i j (j + k)) ++ changesK n i j (j + q) := range_flat _ _
  rw [x3, ← List.append_assoc] at hK3
  have l3' : (A2 ++ (List.range q).flatMap fun k => changesK n i j (j + k)).length ≤ i * 64000 + m * 1600 + q * 40 := by rw [List.length_append]; omega
  generalize (A2 ++ (List.range q).flatMap fun k => changesK n i j (j + k)) = A3 at *
  have ek : ((j : Int) + (q : Int)) = ((j + q : Nat) : Int) := by omega
  rw [ek]
  have hk : j + q < n := by omega
  have l4 := changesK_len (i := i) (j := j) (k := j + q) hn
  have x4 : changesK n i j (j + q) = (List.range (n - (j + q))).map fun l => changeD i j (j + q) (j + q + 1 + l) := rfl
  rw [x4] at hK3 l4
  generalize hkk : j + q = kk at *
  subst hBB
  walk_at "wp"
  refine ⟨⟨by omega, by omega, by omega, by omega⟩, by rw [rgD_len]; omega, ?_⟩
  have e3 : ((n : Int) + 1 - ((kk : Int) + 1)).toNat = n - kk := by omega
  rw [e3, rgD_at]
  refine map_comp (f := fun l => changeD i j kk (kk + 1 + l)) (fun p hp K hK => ?_) ?_
  · walk_at "wp"
    refine ⟨sizeL (by decide), ?_⟩
    have el : ((kk : Int) + 1 + (p : Int)) = ((kk + 1 + p : Nat) : Int) := by omega
    rw [el]
    exact hK
  walk_at "wp"
  exact ⟨sizeL (by omega), hK3 _ ⟨_, rfl⟩⟩

end Sw

open PySem PySem.Spec L2 Sw
namespace Sw
def turnB (bs : List Bead) (i j : Nat) : List Bead := bs.take i ++ mirR ((bs.drop i).take (j - i)) ++ bs.drop j
def changeB (bs : List Bead) (i j k l : Nat) : List Bead := bs.take i ++ (bs.drop k).take (l - k) ++ (bs.drop j).take (k - j) ++ (bs.drop i).take (j - i) ++ bs.drop l
theorem cutB_mid {bs : List Bead} {n m : Nat} (h : n ≤ m) (h2 : m ≤ bs.length) : cutD (bs.map bdD) (some (n : Int)) (some (m : Int)) = ((bs.drop n).take (m - n)).map bdD := by
  rw [cutD_mid h (by rw [List.length_map]; exact h2), ← List.map_drop, ← List.map_take]
theorem cutB_take {bs : List Bead} {n : Nat} (h : n ≤ bs.length) : cutD (bs.map bdD) none (some (n : Int)) = (bs.take n).map bdD := by
  rw [cutD_take (by rw [List.length_map]; exact h), ← List.map_take]
theorem cutB_drop {bs : List Bead} {n : Nat} (h : n ≤ bs.length) : cutD (bs.map bdD) (some (n : Int)) none = (bs.drop n).map bdD := by
  rw [cutD_drop (by rw [List.length_map]; exact h), ← List.map_drop]
theorem changeB_len {bs : List Bead} {i j k l : Nat} (h1 : i < j) (h2 : j ≤ k) (h3 : k < l) (h4 : l ≤ bs.length) : (changeB bs i j k l).length = bs.length := by
  unfold changeB
  simp only [List.length_append, List.length_take, List.length_drop]
  omega
theorem turnB_len {bs : List Bead} {i j : Nat} (h1 : i < j) (h4 : j ≤ bs.length) : (turnB bs i j).length = bs.length := by
  unfold turnB
  simp only [List.length_append, mirR_len, List.length_take, List.length_drop]
  omega
def sp_change : PSp := fun fl ds Q => fl = none ∧ ∃ (bs : List Bead) (i j k l : Nat), ds = [.tuple (bs.map bdD), .int i, .int j, .int k, .int l] ∧ i < j ∧ j ≤ k ∧ k < l ∧ l ≤ bs.length ∧ bs.length ≤ 1000 ∧ Q (.dt (.tuple ((changeB bs i j k l).map bdD))) none
abbrev N_change : List Str := ["line", "i", "j", "k", "l"]
def T_change : PS' := (sSeq (sIf (tNot' (qChain (qC (.int 0)) [(fun i j => decide (i ≤ j), qVar 1), (fun i j => decide (i < j), qVar 2), (fun i j => decide (i ≤ j), qVar 3), (fun i j => decide (i < j), qVar 4), (fun i j => decide (i ≤ j), qCB gLen (qCons (qVar 0) qNil))])) (sRaise) sNil)
  (sRet (qOp gAdd (qOp gAdd (qOp gAdd (qOp gAdd (qSl (qVar 0) qPn (qPs (qVar 1))) (qSl (qVar 0) (qPs (qVar 3)) (qPs (qVar 4)))) (qSl (qVar 0) (qPs (qVar 2)) (qPs (qVar 3)))) (qSl (qVar 0) (qPs (qVar 1)) (qPs (qVar 2)))) (qSl (qVar 0) (qPs (qVar 4)) qPn))))
theorem pure_change (fl : Option (List D)) (ds : List D) (Q : RV → Option (List D) → Prop) (_ : false = true ↔ fl ≠ none) (h : sp_change fl ds Q) : T_change (endsOf false Q) (startE false N_change fl ds) := by
  obtain ⟨rfl, bs, i, j, k, l, rfl, h1, h2, h3, h4, h5, hQ⟩ := h
  show T_change _ [SV.dat (.tuple (bs.map bdD)), SV.dat (.int i), SV.dat (.int j), SV.dat (.int k), SV.dat (.int l)]
  unfold T_change
  refine sSeq_abs fun R hR => ?_
  walk_at "wp"
  rw [List.length_map]
  rw [if_pos (by omega), if_pos (by omega), if_pos (by omega), if_pos (by omega), if_neg (by rw [decide_eq_true (by omega)]; decide)]
  subst hR
  walk_at "wp"
  simp only [cutB_take (bs := bs) (n := i) (by omega), cutB_mid (bs := bs) (n := k) (m := l) (by omega) h4, cutB_mid (bs := bs) (n := j) (m := k) h2 (by omega), cutB_mid (bs := bs) (n := i) (m := j) (by omega) (by omega), cutB_drop h4]
  simp only [← List.map_append]
  refine ⟨sizeL ?_, sizeL ?_, sizeL ?_, sizeL ?_, hQ⟩
  all_goals
    simp only [List.length_map, List.length_append, List.length_take, List.length_drop]
    omega
def sp_law_changed : PSp := fun fl ds Q => fl = none ∧ ∃ (bs : List Bead) (i j k l : Nat), ds = [.tuple (bs.map bdD), .int i, .int j, .int k, .int l] ∧ i < j ∧ j ≤ k ∧ k < l ∧ l ≤ bs.length ∧ bs.length ≤ 1000 ∧ Q (.dt (.tuple ((changeB bs i j k l).map bdD))) none
abbrev N_law_changed : List Str := ["_law_line_here", "_law_i", "_law_j", "_law_k", "_law_l", "_law_ahead"]
def T_law_changed : PS' := (sSeq (sAsg 5 (qOp gAdd (qSl (qVar 0) qPn (qPs (qVar 1))) (qSl (qVar 0) (qPs (qVar 3)) (qPs (qVar 4)))))
  (sRet (qOp gAdd (qOp gAdd (qOp gAdd (qVar 5) (qSl (qVar 0) (qPs (qVar 2)) (qPs (qVar 3)))) (qSl (qVar 0) (qPs (qVar 1)) (qPs (qVar 2)))) (qSl (qVar 0) (qPs (qVar 4)) qPn))))
theorem pure_law_changed (fl : Option (List D)) (ds : List D) (Q : RV → Option (List D) → Prop) (_ : false = true ↔ fl ≠ none) (h : sp_law_changed fl ds Q) : T_law_changed (endsOf false Q) (startE false N_law_changed fl ds) := by
  obtain ⟨rfl, bs, i, j, k, l, rfl, h1, h2, h3, h4, h5, hQ⟩ := h
  show T_law_changed _ [SV.dat (.tuple (bs.map bdD)), SV.dat (.int i), SV.dat (.int j), SV.dat (.int k), SV.dat (.int l), SV.un]
  unfold T_law_changed
  walk_at "wp"
  simp only [cutB_take (bs := bs) (n := i) (by omega), cutB_mid (bs := bs) (n := k) (m := l) (by omega) h4, cutB_mid (bs := bs) (n := j) (m := k) h2 (by omega), cutB_mid (bs := bs) (n := i) (m := j) (by omega) (by omega), cutB_drop h4]
  simp only [← List.map_append]
  refine ⟨sizeL ?_, sizeL ?_, sizeL ?_, sizeL ?_, hQ⟩
  all_goals
    simp only [List.length_map, List.length_append, List.length_take, List.length_drop]
    omega
theorem mir_map (xs : List Bead) : xs.reverse.map (fun b => bdD (mirB b)) = (mirR xs).map bdD := by
  unfold mirR
  rw [List.map_map]
  rfl
def sp_law_turned_2 : PSp := fun fl ds Q => fl = none ∧ ∃ (bs : List Bead) (i j : Nat), ds = [.tuple (bs.map bdD), .int i, .int j] ∧ i < j ∧ j ≤ bs.length ∧ bs.length ≤ 1000 ∧ (∀ b ∈ bs, Nm b.2) ∧ Q (.dt (.tuple ((turnB bs i j).map bdD))) none
abbrev N_law_turned_2 : List Str := ["_law_line_here", "_law_i", "_law_j", "_law_bead"]
def T_law_turned_2 : PS' := (sRet (qOp gAdd (qOp gAdd (qSl (qVar 0) qPn (qPs (qVar 1))) (qCB gTuple (qCons (qF (fLc (iAny (qRevA (qSl (qVar 0) (qPs (qVar 1)) (qPs (qVar 2))))) (gN 3) tYes' (qCall sp_law_mirrored (qAddD (qCons (qVar 3) qNil) [])) [3])) qNil))) (qSl (qVar 0) (qPs (qVar 2)) qPn)))
theorem pure_law_turned_2 (fl : Option (List D)) (ds : List D) (Q : RV → Option (List D) → Prop) (_ : false = true ↔ fl ≠ none) (h : sp_law_turned_2 fl ds Q) : T_law_turned_2 (endsOf false Q) (startE false N_law_turned_2 fl ds) := by
  obtain ⟨rfl, bs, i, j, rfl, h1, h4, h5, hN, hQ⟩ := h
  show T_law_turned_2 _ [SV.dat (.tuple (bs.map bdD)), SV.dat (.int i), SV.dat (.int j), SV.un]
  unfold T_law_turned_2
  walk_at "wp"
  simp only [cutB_take (bs := bs) (n := i) (by omega), cutB_mid (bs := bs) (n := i) (m := j) (by omega) h4, cutB_drop h4]
  refine ⟨by simp only [List.length_reverse, List.length_map, List.length_take, List.length_drop]; omega, ?_⟩
  rw [← List.map_reverse]
  refine map_comp (f := fun b => bdD (mirB b)) (fun b hb K hK => ?_) ?_
  · walk_at "wp"
    refine ⟨rfl, b, rfl, hN b (List.mem_of_mem_drop (List.mem_of_mem_take (List.mem_reverse.mp hb))), ?_⟩
    walk_at "wp"
    exact hK
  rw [mir_map]
  walk_at "wp"
  try simp only [cutB_drop h4]
  simp only [← List.map_append]
  refine ⟨sizeL ?_, sizeL ?_, hQ⟩
  all_goals
    simp only [List.length_map, List.length_append, mirR_len, List.length_take, List.length_drop]
    omega
/-- a deed of a line of n beads, and what it does -/
inductive LDx (n : Nat) : D → (List Bead → List Bead) → Prop
  | turn (i j : Nat) (h1 : i < j) (h2 : j ≤ n) : LDx n (turnD i j) (fun bs => turnB bs i j)
  | change (i j k l : Nat) (h1 : i < j) (h2 : j ≤ k) (h3 : k < l) (h4 : l ≤ n) : LDx n (changeD i j k l) (fun bs => changeB bs i j k l)
theorem LDx.len {n : Nat} {d : D} {f : List Bead → List Bead} (h : LDx n d f) {bs : List Bead} (hl : bs.length = n) : (f bs).length = n := by
  cases h with
  | turn i j h1 h2 => show (turnB bs i j).length = n; rw [turnB_len h1 (by omega)]; exact hl
  | change i j k l h1 h2 h3 h4 => show (changeB bs i j k l).length = n; rw [changeB_len h1 h2 h3 (by omega)]; exact hl
def sp_law_line_behind : PSp := fun fl ds Q => fl = none ∧ ∃ (bs : List Bead) (d : D) (f : List Bead → List Bead), ds = [.tuple (bs.map bdD), d] ∧ LDx bs.length d f ∧ bs.length ≤ 1000 ∧ (∀ b ∈ bs, Nm b.2) ∧ Q (.dt (.tuple ((f bs).map bdD))) none
abbrev N_law_line_behind : List Str := ["_law_line_here", "_law_deed"]
def T_law_line_behind : PS' := (sSeq (sIf (qTest (qOp (gEq false) (qOp gIx (qVar 1) (qC (.int 0))) (qC (.str "turn")))) (sRet (qCall sp_law_turned_2 (qAddD (qCons (qVar 0) (qCons (qOp gIx (qVar 1) (qC (.int 1))) (qCons (qOp gIx (qVar 1) (qC (.int 2))) qNil))) []))) sNil)
  (sRet (qCall sp_law_changed (qAddD (qCons (qVar 0) (qCons (qOp gIx (qVar 1) (qC (.int 1))) (qCons (qOp gIx (qVar 1) (qC (.int 2))) (qCons (qOp gIx (qVar 1) (qC (.int 3))) (qCons (qOp gIx (qVar 1) (qC (.int 4))) qNil))))) []))))
theorem pure_law_line_behind (fl : Option (List D)) (ds : List D) (Q : RV → Option (List D) → Prop) (_ : false = true ↔ fl ≠ none) (h : sp_law_line_behind fl ds Q) : T_law_line_behind (endsOf false Q) (startE false N_law_line_behind fl ds) := by
  obtain ⟨rfl, bs, d, f, rfl, hd, hl, hN, hQ⟩ := h
  cases hd with
  | turn i j h1 h2 =>
    show T_law_line_behind _ [SV.dat (.tuple (bs.map bdD)), SV.dat (.tuple [.str (Str.ofString "turn"), .int i, .int j])]
    unfold T_law_line_behind
    walk_at "wp"
    try rw [if_pos (by rfl)]
    refine ⟨rfl, bs, i, j, rfl, h1, h2, hl, hN, ?_⟩
    walk_at "wp"
    exact hQ
  | change i j k l h1 h2 h3 h4 =>
    show T_law_line_behind _ [SV.dat (.tuple (bs.map bdD)), SV.dat (.tuple [.str (Str.ofString "change"), .int i, .int j, .int k, .int l])]
    unfold T_law_line_behind
    walk_at "wp"
    try rw [if_neg (by decide)]
    refine ⟨rfl, bs, i, j, k, l, rfl, h1, h2, h3, h4, hl, ?_⟩
    walk_at "wp"
    exact hQ
theorem changes_LD {n : Nat} : ∀ d ∈ changesL n, ∃ f, LDx n d f := fun d hd => by
  obtain ⟨i, hi, hd⟩ := List.mem_flatMap.mp hd
  obtain ⟨j, hj, hd⟩ := List.mem_flatMap.mp hd
  obtain ⟨k, hk, hd⟩ := List.mem_flatMap.mp hd
  obtain ⟨l, hl, rfl⟩ := List.mem_map.mp hd
  have := List.mem_range.mp hi
  have := List.mem_range.mp hj
  have := List.mem_range.mp hk
  have := List.mem_range.mp hl
  exact ⟨_, .change _ _ _ _ (by omega) (by omega) (by omega) (by omega)⟩

end Sw

open PySem PySem.Spec L2 Sw
namespace Sw
theorem LDx.hn {n : Nat} {d : D} {f : List Bead → List Bead} (h : LDx n d f) : Hn 1 d := by
  cases h with
  | turn i j _ _ =>
    intro x hx
    simp only [List.mem_cons, List.not_mem_nil, or_false] at hx
    rcases hx with rfl | rfl | rfl <;> trivial
  | change i j k l _ _ _ _ =>
    intro x hx
    simp only [List.mem_cons, List.not_mem_nil, or_false] at hx
    rcases hx with rfl | rfl | rfl | rfl | rfl <;> trivial
theorem LDx.okA {n m : Nat} {d : D} {f : List Bead → List Bead} (h : LDx n d f) : okA (m + 2) d := by
  cases h with
  | turn i j _ _ =>
    refine ⟨by simp, fun x hx => ?_⟩
    simp only [List.mem_cons, List.not_mem_nil, or_false] at hx
    rcases hx with rfl | rfl | rfl <;> trivial
  | change i j k l _ _ _ _ =>
    refine ⟨by simp, fun x hx => ?_⟩
    simp only [List.mem_cons, List.not_mem_nil, or_false] at hx
    rcases hx with rfl | rfl | rfl | rfl | rfl <;> trivial
theorem LDx.nm {n : Nat} {d : D} {f : List Bead → List Bead} (h : LDx n d f) {bs : List Bead} (hN : ∀ b ∈ bs, Nm b.2) : ∀ b ∈ f bs, Nm b.2 := fun b hb => by
  cases h with
  | turn i j _ _ =>
    have hb : b ∈ turnB bs i j := hb
    unfold turnB at hb
    rcases List.mem_append.mp hb with hb | hb
    · rcases List.mem_append.mp hb with hb | hb
      · exact hN b (List.mem_of_mem_take hb)
      · exact mirB_nm (fun c hc => hN c (List.mem_of_mem_drop (List.mem_of_mem_take hc))) b hb
    · exact hN b (List.mem_of_mem_drop hb)
  | change i j k l _ _ _ _ =>
    have hb : b ∈ changeB bs i j k l := hb
    unfold changeB at hb
    simp only [List.mem_append] at hb
    rcases hb with (((hb | hb) | hb) | hb) | hb
    · exact hN b (List.mem_of_mem_take hb)
    · exact hN b (List.mem_of_mem_drop (List.mem_of_mem_take hb))
    · exact hN b (List.mem_of_mem_drop (List.mem_of_mem_take hb))
    · exact hN b (List.mem_of_mem_drop (List.mem_of_mem_take hb))
    · exact hN b (List.mem_of_mem_drop hb)
theorem changesI_small {n i : Nat} (h : n ≤ 10) : (changesI n i).length ≤ 1000 := by
  have k : ∀ j k, (changesK n i j k).length ≤ 10 := fun j k => by unfold changesK; rw [List.length_map, List.length_range]; omega
  have j : ∀ j, (changesJ n i j).length ≤ 100 := fun j => by
    have := flat_bd (f := fun k => changesK n i j (j + k)) (b := 10) (xs := List.range (n - j)) fun x _ => k j (j + x)
    rw [List.length_range] at this
    unfold changesJ
    omega
  have := flat_bd (f := fun j => changesJ n i (i + 1 + j)) (b := 100) (xs := List.range (n - (i + 1))) fun x _ => j (i + 1 + x)
  rw [List.length_range] at this
  unfold changesI
  omega
theorem changes_small {n : Nat} (h : n ≤ 10) : (changesL n).length ≤ 10000 := by
  have := flat_bd (f := changesI n) (b := 1000) (xs := List.range n) fun x _ => changesI_small h
  rw [List.length_range] at this
  unfold changesL
  omega
end Sw

open PySem PySem.Spec L2 Sw
namespace Sw
theorem num0_get {xs : List Int} (hl : 2 ≤ xs.length) (h0 : xs.getD 0 0 = 0) (h1 : xs.getD (xs.length - 1) 0 = (xs.length : Int) - 1) (hi : ∀ i j, i < xs.length → j < xs.length → (xs.getD i 0).natAbs = (xs.getD j 0).natAbs → i = j) (hb : ∀ i, i < xs.length → (xs.getD i 0).natAbs < xs.length) : Num0 xs := by
  have at_ : ∀ i (h : i < xs.length), xs.getD i 0 = xs[i] := fun i h => by rw [List.getD_eq_getElem?_getD, List.getElem?_eq_getElem h]; rfl
  refine ⟨⟨?_, fun x hx => ?_⟩, ⟨?_, ?_⟩, hl⟩
  · refine List.pairwise_iff_getElem.mpr fun i j h2 h3 hij e => ?_
    have := hi i j h2 h3 (by rw [at_ i h2, at_ j h3]; exact e)
    omega
  · obtain ⟨i, h2, rfl⟩ := List.getElem_of_mem hx
    rw [← at_ i h2]
    exact hb i h2
  · rw [List.head?_eq_getElem?, List.getElem?_eq_getElem (by omega), ← at_ 0 (by omega), h0]
  · rw [List.getLast?_eq_getElem?, List.getElem?_eq_getElem (by omega), ← at_ _ (by omega), h1]
theorem same_len {os ts : List Bead} (ho : LnOk os) (ht : LnOk ts) (h : ∀ z, z ∈ nmsL os ↔ z ∈ nmsL ts) : os.length = ts.length := by
  have p : (nmsL os).Perm (nmsL ts) := (List.perm_ext_iff_of_nodup ho.nd ht.nd).mpr h
  have := p.length_eq
  unfold nmsL at this
  rwa [List.length_map, List.length_map] at this
theorem nums_abs {os ts : List Bead} (ho : LnOk os) (ht : LnOk ts) (h : ∀ z, z ∈ nmsL os ↔ z ∈ nmsL ts) {k : Nat} (hk : k < os.length) : ∃ v, v < ts.length ∧ (ts.getD v bead0).2 = (os.getD k bead0).2 ∧ ((nums os ts).getD (k + 1) 0).natAbs = v + 1 := by
  have m : (os.getD k bead0).2 ∈ nmsL ts := (h _).mp (by rw [(ln_at ho hk).1]; exact List.mem_map_of_mem (List.getElem_mem hk))
  obtain ⟨v, hv, e⟩ := ln_find m
  refine ⟨v, hv, e, ?_⟩
  rw [nums_mid hk]
  obtain ⟨p1, p2⟩ := plF_at ht hv
  rcases bead_two e.symm with q | q
  · rw [q, p1]; omega
  · rw [q, p2]; omega
theorem nums_num0 {os ts : List Bead} (ho : LnOk os) (ht : LnOk ts) (h : ∀ z, z ∈ nmsL os ↔ z ∈ nmsL ts) : Num0 (nums os ts) := by
  have hl := nums_len os ts
  have sl := same_len ho ht h
  have ab : ∀ i, i < os.length + 2 → (i = 0 ∧ ((nums os ts).getD i 0).natAbs = 0) ∨ (i = os.length + 1 ∧ ((nums os ts).getD i 0).natAbs = os.length + 1) ∨ ∃ k v, i = k + 1 ∧ k < os.length ∧ v < ts.length ∧ (ts.getD v bead0).2 = (os.getD k bead0).2 ∧ ((nums os ts).getD i 0).natAbs = v + 1 := fun i hi => by
    by_cases c0 : i = 0
    · subst c0
      exact .inl ⟨rfl, rfl⟩
    · by_cases c1 : i = os.length + 1
      · subst c1
        refine .inr (.inl ⟨rfl, ?_⟩)
        rw [nums_end]
        omega
      · obtain ⟨k, rfl⟩ : ∃ k, i = k + 1 := ⟨i - 1, by omega⟩
        obtain ⟨v, v1, v2, v3⟩ := nums_abs ho ht h (k := k) (by omega)
        exact .inr (.inr ⟨k, v, rfl, by omega, v1, v2, v3⟩)
  refine num0_get (by omega) rfl ?_ (fun i j hi hj e => ?_) (fun i hi => ?_)
  · rw [hl, show os.length + 2 - 1 = os.length + 1 by omega, nums_end]
    omega
  · rcases ab i (by omega) with ⟨a1, a2⟩ | ⟨a1, a2⟩ | ⟨k, v, a1, a2, a3, a4, a5⟩ <;> rcases ab j (by omega) with ⟨b1, b2⟩ | ⟨b1, b2⟩ | ⟨k2, v2, b1, b2, b3, b4, b5⟩
    · omega
    · omega
    · omega
    · omega
    · omega
    · omega
    · omega
    · omega
    · have : v = v2 := by omega
      subst this
      have := ln_inj ho a2 b2 (by rw [← a4, ← b4])
      omega
  · rcases ab i (by omega) with ⟨a1, a2⟩ | ⟨a1, a2⟩ | ⟨k, v, a1, a2, a3, a4, a5⟩ <;> omega
theorem perm_names {os ts : List Bead} (p : os.Perm ts) : ∀ z, z ∈ nmsL os ↔ z ∈ nmsL ts := fun z => (p.map Prod.snd).mem_iff
theorem perm_ok {os ts : List Bead} (p : os.Perm ts) (ht : LnOk ts) : LnOk os := ⟨(p.map Prod.snd).nodup_iff.mpr ht.nd, fun b hb => ht.nm b (p.mem_iff.mp hb), by rw [p.length_eq]; exact ht.few⟩
theorem nums_pos {os ts : List Bead} (ht : LnOk ts) (p : os.Perm ts) : ∀ x ∈ nums os ts, 0 ≤ x := fun x hx => by
  unfold nums at hx
  rcases List.mem_append.mp hx with hx | hx
  · rcases List.mem_cons.mp hx with rfl | hx
    · exact Int.le_refl 0
    · obtain ⟨b, hb, rfl⟩ := List.mem_map.mp hx
      obtain ⟨k, hk, rfl⟩ := List.getElem_of_mem (p.mem_iff.mp hb)
      rw [← (ln_at ht hk).1, (plF_at ht hk).1]
      omega
  · rw [List.mem_singleton.mp hx]
    omega
theorem nums_changed {os ts : List Bead} {i j k l : Nat} (h1 : i < j) (h2 : j ≤ k) (h3 : k < l) (h4 : l ≤ os.length) : changedL (nums os ts) i j k l = nums (changeB os i j k l) ts := by
  have cl := changeB_len h1 h2 h3 h4
  unfold nums
  rw [cl]
  obtain ⟨M, hM⟩ : ∃ M, os.map (plF ts) = M := ⟨_, rfl⟩
  have ml : M.length = os.length := by rw [← hM, List.length_map]
  have em : (changeB os i j k l).map (plF ts) = M.take i ++ (M.drop k).take (l - k) ++ (M.drop j).take (k - j) ++ (M.drop i).take (j - i) ++ M.drop l := by
    unfold changeB
    rw [← hM]
    simp only [List.map_append, List.map_take, List.map_drop]
  rw [em, hM]
  unfold changedL
  have mid : ∀ a b, a ≤ b → b ≤ M.length → ((0 :: M ++ [(os.length : Int) + 1]).drop (a + 1)).take (b - a) = (M.drop a).take (b - a) := fun a b hab hb => by
    rw [List.cons_append, List.drop_succ_cons, List.drop_append_of_le_length (by omega), List.take_append_of_le_length (by rw [List.length_drop]; omega)]
  rw [mid k l (by omega) (by omega), mid j k h2 (by omega), mid i j (by omega) (by omega)]
  rw [List.cons_append, List.take_succ_cons, List.take_append_of_le_length (by omega), List.drop_succ_cons, List.drop_append_of_le_length (by omega)]
  simp
theorem changeB_perm {os : List Bead} {i j k l : Nat} (h1 : i < j) (h2 : j ≤ k) (h3 : k < l) : (changeB os i j k l).Perm os := by
  have st : ∀ a b, a ≤ b → os.drop a = (os.drop a).take (b - a) ++ os.drop b := fun a b hab => by
    have e : os.drop b = (os.drop a).drop (b - a) := by
      rw [List.drop_drop]
      congr 1
      omega
    rw [e, List.take_append_drop]
  have e : os = os.take i ++ ((os.drop i).take (j - i) ++ ((os.drop j).take (k - j) ++ ((os.drop k).take (l - k) ++ os.drop l))) := by
    rw [← st k l (by omega), ← st j k h2, ← st i j (by omega), List.take_append_drop]
  conv => rhs; rw [e]
  unfold changeB
  rw [List.append_assoc, List.append_assoc, List.append_assoc]
  refine List.Perm.append_left _ ?_
  generalize (os.drop i).take (j - i) = B
  generalize (os.drop j).take (k - j) = C
  generalize (os.drop k).take (l - k) = Dd
  generalize os.drop l = Ee
  have p1 : (Dd ++ (C ++ (B ++ Ee))).Perm (Dd ++ (B ++ (C ++ Ee))) := by
    refine List.Perm.append_left _ ?_
    rw [← List.append_assoc, ← List.append_assoc]
    exact List.perm_append_comm.append_right _
  refine p1.trans ?_
  rw [← List.append_assoc, ← List.append_assoc, ← List.append_assoc, ← List.append_assoc]
  refine List.Perm.append_right _ ?_
  rw [List.append_assoc]
  exact List.perm_append_comm
/-- a change alters the half by one at most -/
theorem half_change {os ts : List Bead} {i j k l : Nat} (ht : LnOk ts) (p : os.Perm ts) (h1 : i < j) (h2 : j ≤ k) (h3 : k < l) (h4 : l ≤ os.length) : halfV (nums os ts) - 1 ≤ halfV (nums (changeB os i j k l) ts) := by
  have ho := perm_ok p ht
  have pc := changeB_perm (os := os) h1 h2 h3
  have hc := perm_ok pc ho
  have cl := changeB_len h1 h2 h3 h4
  have e := nums_changed (ts := ts) h1 h2 h3 h4
  have r := rings_change (nums_num0 ho ht (perm_names p)) (nums_pos ht p) h1 h2 h3 (by rw [nums_len]; omega) (by rw [e]; exact nums_num0 hc ht (perm_names (pc.trans p))) (by rw [e, nums_len, nums_len, cl]) (by rw [e]; exact nums_pos ht (pc.trans p))
  rw [e] at r
  unfold halfV
  rw [nums_len, nums_len, cl]
  omega

end Sw

open PySem PySem.Spec L2 Sw
namespace Sw
def sp_look_alike : PSp := fun fl ds Q => fl = none ∧ ∃ os ts : List Bead, ds = [.tuple (os.map bdD), .tuple (ts.map bdD)] ∧ LnOk os ∧ LnOk ts ∧ (∀ z, z ∈ nmsL os ↔ z ∈ nmsL ts) ∧ Q (.dt .none) none
abbrev N_look_alike : List Str := ["ours", "theirs", "alone"]
def T_look_alike : PS' := (sSeq (sAsg 2 (qF (fSortXor (qCall sp_names_in (qAddD (qCons (qVar 0) qNil) [])) (qCall sp_names_in (qAddD (qCons (qVar 1) qNil) [])))))
  (sIf (qTest (qOp (gEq true) (qVar 2) (qF (fLst (qNil))))) (sRaise) sNil))
theorem pure_look_alike (fl : Option (List D)) (ds : List D) (Q : RV → Option (List D) → Prop) (_ : false = true ↔ fl ≠ none) (h : sp_look_alike fl ds Q) : T_look_alike (endsOf false Q) (startE false N_look_alike fl ds) := by
  obtain ⟨rfl, os, ts, rfl, ho, ht, hs, k⟩ := h
  show T_look_alike _ [SV.dat (.tuple (os.map bdD)), SV.dat (.tuple (ts.map bdD)), SV.un]
  unfold T_look_alike fSortXor
  have f1 := ho.few
  have f2 := ht.few
  refine sSeq_abs fun R hR => ?_
  walk_at "wy"
  have sl : ∀ bs : List Bead, LnOk bs → (sortS (bs.map Prod.snd)).length ≤ 60 := fun bs hb => by
    rw [(sortS_perm _).length_eq, List.length_map]
    have := hb.few
    omega
  have sm : ∀ (bs : List Bead) (k : Str), k ∈ sortS (bs.map Prod.snd) ↔ k ∈ nmsL bs := fun bs k => (sortS_perm _).mem_iff
  refine ⟨rfl, _, os, rfl, .line os, by omega, ho.nm, _, rfl, sl os ho, rfl, _, ts, rfl, .line ts, by omega, ht.nm, _, rfl, sl ts ht, fun zs _ zm => ?_⟩
  have z0 : zs = [] := List.eq_nil_iff_forall_not_mem.mpr fun z hz => by
    have := (zm z).mp hz
    rw [sm, sm, hs z] at this
    rcases this with h | h
    · exact h.2 h.1
    · exact h.1 h.2
  subst z0
  have s0 : sortS ([] : List Str) = [] := rfl
  rw [s0]
  subst hR
  walk_at "wy"
  refine ⟨Nat.zero_le _, ?_⟩
  exact ne_hn (n := 1) (fun d hd => (nomatch hd)) (fun d hd => (nomatch hd)) (by omega) (fun _ => ⟨_, rfl, by rw [if_neg (by decide)]; exact k⟩) (fun e => absurd rfl e)
abbrev N_numbers_of : List Str := ["ours", "theirs", "places", "k", "bead"]
def T_numbers_of : PS' := (sSeq (sDrop (qCall sp_look_alike (qAddD (qCons (qVar 0) (qCons (qVar 1) qNil)) [])))
  (sSeq (sAsgD 2 false)
  (sSeq (sFor (iEnuT (qVar 1)) (gT 2 (gsC (gN 3) (gsC (gN 4) gsN))) (sSeq (sPutD 2 (qOp gAdd (qVar 3) (qC (.int 1))) (qVar 4))
  (sPutD 2 (qOp (gI dSub) (qOp (gI dSub) (qC (.int 0)) (qVar 3)) (qC (.int 1))) (qCall sp_mirrored (qAddD (qCons (qVar 4) qNil) [])))))
  (sRetF (fOp gCatF (qOp gAdd (qF (fLst (qCons (qC (.int 0)) qNil))) (qF (fLcR (iAny (qVar 0)) (gN 4) tYes' (qDGet (qVar 2) (qVar 4)) [4]))) (qF (fLst (qCons (qOp gAdd (qCB gLen (qCons (qVar 0) qNil)) (qC (.int 1))) qNil))))))))
theorem pure_numbers_of (fl : Option (List D)) (ds : List D) (Q : RV → Option (List D) → Prop) (_ : false = true ↔ fl ≠ none) (h : sp_numbers_of fl ds Q) : T_numbers_of (endsOf false Q) (startE false N_numbers_of fl ds) := by
  obtain ⟨rfl, os, ts, rfl, ho, ht, hs, k⟩ := h
  show T_numbers_of _ [SV.dat (.tuple (os.map bdD)), SV.dat (.tuple (ts.map bdD)), SV.un, SV.un, SV.un]
  unfold T_numbers_of
  have f1 := ho.few
  have f2 := ht.few
  refine sSeq_abs fun R hR => ?_
  walk_at "wy"
  refine ⟨rfl, os, ts, rfl, ho, ht, hs, ?_⟩
  subst hR
  walk_at "wy"
  simp only [iEnuT]
  walk_at "wy"
  refine pFor_inv (fun i env => ∃ y3 y4, (y4 = SV.un ∨ ∃ d, y4 = SV.dat d) ∧ env = [SV.dat (.tuple (os.map bdD)), SV.dat (.tuple (ts.map bdD)), SV.dic false (kdsB (plL ts i)), y3, y4]) ⟨_, _, .inl rfl, rfl⟩ ?_ ?_
  · rintro i d hd env ⟨y3, y4, _, rfl⟩ K hK
    rw [enD_get] at hd
    obtain ⟨x, hx, rfl⟩ := Option.map_eq_some_iff.mp hd
    rw [List.getElem?_map] at hx
    obtain ⟨b, hb, rfl⟩ := Option.map_eq_some_iff.mp hx
    rw [Nat.zero_add]
    have hi : i < ts.length := (List.getElem?_eq_some_iff.mp hb).1
    have hbe : ts.getD i bead0 = b := by rw [List.getD_eq_getElem?_getD, hb]; rfl
    have nb : Nm b.2 := ht.nm b (List.mem_of_getElem? hb)
    walk_at "wy"
    have kb : ∀ c : Bead, KeyT false (bdD c) := fun c => keyT_str (bdS c)
    have nmi := plL_nm ht (m := i) (by omega)
    have p1 : putD (kdsB (plL ts i)) (bdD b) (.int ((i : Int) + 1)) = kdsB (plL ts i ++ [(b, (i : Int) + 1)]) := put_kdsB nb nmi (plL_new ht hi (by rw [hbe]))
    have p2 : putD (kdsB (plL ts i ++ [(b, (i : Int) + 1)])) (bdD (mirB b)) (.int (0 - (i : Int) - 1)) = kdsB (plL ts (i + 1)) := by
      rw [put_kdsB (b := mirB b) nb (fun e he => ?_) (fun e he => ?_)]
      · rw [plL_succ, hbe, List.append_assoc]
        rfl
      · rcases List.mem_append.mp he with he | he
        · exact nmi e he
        · rw [List.mem_singleton.mp he]
          exact nb
      · rcases List.mem_append.mp he with he | he
        · exact plL_new ht hi (by rw [hbe]; rfl) e he
        · rw [List.mem_singleton.mp he]
          exact fun q => mirB_ne b q.symm
    have l1 : (kdsB (plL ts i)).length < sizeLine := by unfold kdsB; rw [List.length_map, plL_len]; exact sizeL (by omega)
    have l2 : (kdsB (plL ts i ++ [(b, (i : Int) + 1)])).length < sizeLine := by unfold kdsB; rw [List.length_map, List.length_append, plL_len, List.length_singleton]; exact sizeL (by omega)
    rw [p1]
    refine ⟨kb b, l1, rfl, b, rfl, nb, kb _, l2, hK _ ⟨.dat (.int (i : Int)), .dat (bdD b), .inr ⟨_, rfl⟩, ?_⟩⟩
    show [_, _, SV.dic false (putD (kdsB (plL ts i ++ [(b, (i : Int) + 1)])) (bdD (mirB b)) (.int (0 - (i : Int) - 1))), _, _] = _
    rw [p2]
  · rintro env ⟨y3, y4, h4, rfl⟩
    walk_at "wy"
    rw [enD_len, List.length_map]
    have no4 : nob (some y4) := by
      rcases h4 with rfl | ⟨d, rfl⟩
      · exact nob_u.mpr trivial
      · exact nob_d.mpr trivial
    refine ⟨sizeL (by decide), no4, by first | (rw [List.length_map]; omega) | omega, ?_⟩
    have sub : ∀ b ∈ os, b.2 ∈ ts.map Prod.snd := fun b hb => (hs b.2).mp (List.mem_map_of_mem hb)
    try rw [List.length_map]
    refine map_comp (e := bdD) (f := fun b => .int (plF ts b)) (fun b hb K hK => ?_) ?_
    · show gN 4 (bdD b) _ _
      walk_at "wy"
      exact ⟨keyT_str (bdS b), _, (look_plF ht (sub b hb)).2, hK⟩
    rw [List.length_map]
    refine ⟨by rw [sizeLine_eq]; omega, ⟨_, rfl⟩, _, rfl, _, rfl, _, rfl, sizeL (by decide), by rw [sizeLine_eq]; omega, ?_⟩
    have e : PyData.int 0 :: (List.map (fun b => PyData.int (plF ts b)) os ++ [PyData.int ((os.length : Int) + 1)]) = (nums os ts).map .int := by
      unfold nums
      rw [List.cons_append, List.map_cons, List.map_append, List.map_map]
      rfl
    rw [← List.length_map (f := bdD)] at e
    rw [e]
    exact k
theorem allI : ∀ {L : List D}, (∀ d ∈ L, ∃ i : Int, d = .int i) → ∃ ns : List Int, L = ns.map PyData.int
  | [], _ => ⟨[], rfl⟩
  | d :: r, h => by
    obtain ⟨i, rfl⟩ := h d List.mem_cons_self
    obtain ⟨ns, e⟩ := allI fun x hx => h x (List.mem_cons_of_mem _ hx)
    exact ⟨i :: ns, by rw [e]; rfl⟩
theorem minOkI (ys : List Int) : minOk (ys.map .int) = true := by
  have h1 : (ys.map PyData.int).all okD = true := List.all_eq_true.mpr fun x hx => by
    obtain ⟨y, _, rfl⟩ := List.mem_map.mp hx
    exact okD_of (okI_int y)
  have h2 : (ys.map PyData.int).all (fun d => !noneD d) = true := List.all_eq_true.mpr fun x hx => by
    obtain ⟨y, _, rfl⟩ := List.mem_map.mp hx
    rfl
  have h3 : ((ys.map PyData.int).all fun d => (ys.map PyData.int).all fun e => W.alike d e) = true := List.all_eq_true.mpr fun x hx => List.all_eq_true.mpr fun z hz => by
    obtain ⟨y, _, rfl⟩ := List.mem_map.mp hx
    obtain ⟨y2, _, rfl⟩ := List.mem_map.mp hz
    rfl
  unfold minOk
  rw [h1, h2, h3]
  rfl
theorem fminI : ∀ (xs : List Int) (x : Int), xs.foldl min x ∈ x :: xs ∧ ∀ y ∈ x :: xs, xs.foldl min x ≤ y
  | [], x => ⟨List.mem_cons_self, fun y hy => by rw [List.mem_singleton.mp hy]; exact Int.le_refl _⟩
  | z :: r, x => by
    obtain ⟨h1, h2⟩ := fminI r (min x z)
    show r.foldl min (min x z) ∈ _ ∧ _
    have b1 := h2 _ List.mem_cons_self
    refine ⟨?_, fun y hy => ?_⟩
    · rcases List.mem_cons.mp h1 with e | h
      · rw [e]
        rcases (by omega : min x z = x ∨ min x z = z) with e | e <;> rw [e] <;> simp
      · exact List.mem_cons_of_mem _ (List.mem_cons_of_mem _ h)
    · show r.foldl min (min x z) ≤ y
      rcases List.mem_cons.mp hy with rfl | hy
      · omega
      · rcases List.mem_cons.mp hy with rfl | hy
        · omega
        · exact h2 _ (List.mem_cons_of_mem _ hy)
theorem bestI {L : List D} (hne : L ≠ []) (hi : ∀ d ∈ L, ∃ i : Int, d = .int i) : ∃ m : Int, gBestL W.minD [.list L] = some (.int m) ∧ PyData.int m ∈ L ∧ ∀ i : Int, PyData.int i ∈ L → m ≤ i := by
  obtain ⟨ns, rfl⟩ := allI hi
  cases ns with
  | nil => exact absurd rfl hne
  | cons x xs =>
    have h : minOk (PyData.int x :: xs.map .int) = true := minOkI (x :: xs)
    obtain ⟨h1, h2⟩ := fminI xs x
    refine ⟨xs.foldl min x, ?_, List.mem_map_of_mem h1, fun i hi => ?_⟩
    · show (if minOk (PyData.int x :: xs.map .int) = true then some (W.minD (PyData.int x) (xs.map .int)) else none) = _
      rw [if_pos h, W.minD_ints]
    · obtain ⟨j, hj, e⟩ := List.mem_map.mp hi
      cases e
      exact h2 _ hj
def sp_numbers_for_changes : PSp := fun fl ds Q => fl = none ∧ ∃ os ts : List Bead, ds = [.tuple (os.map bdD), .tuple (ts.map bdD)] ∧ LnOk ts ∧ os.Perm ts ∧ Q (.dt (.list ((nums os ts).map .int))) none
abbrev N_numbers_for_changes : List Str := ["ours", "theirs", "numbers"]
def T_numbers_for_changes : PS' := (sSeq (sAsg 2 (qCall sp_numbers_of (qAddD (qCons (qVar 0) (qCons (qVar 1) qNil)) [])))
  (sSeq (sIf (qTest (qOp gLt (qCB (gBestL W.minD) (qCons (qVar 2) qNil)) (qC (.int 0)))) (sRaise) sNil)
  (sRet (qVar 2))))
theorem pure_numbers_for_changes (fl : Option (List D)) (ds : List D) (Q : RV → Option (List D) → Prop) (_ : false = true ↔ fl ≠ none) (h : sp_numbers_for_changes fl ds Q) : T_numbers_for_changes (endsOf false Q) (startE false N_numbers_for_changes fl ds) := by
  obtain ⟨rfl, os, ts, rfl, ht, p, k⟩ := h
  show T_numbers_for_changes _ [SV.dat (.tuple (os.map bdD)), SV.dat (.tuple (ts.map bdD)), SV.un]
  unfold T_numbers_for_changes
  have ho := perm_ok p ht
  refine sSeq_abs fun R hR => ?_
  walk_at "wy"
  refine ⟨rfl, os, ts, rfl, ho, ht, perm_names p, ?_⟩
  subst hR
  walk_at "wy"
  obtain ⟨m, b1, b2, b3⟩ := bestI (L := (nums os ts).map .int) (by unfold nums; exact fun q => nomatch q) fun d hd => by
    obtain ⟨i, _, rfl⟩ := List.mem_map.mp hd
    exact ⟨i, rfl⟩
  obtain ⟨j, hj, ej⟩ := List.mem_map.mp b2
  cases ej
  have m0 := nums_pos ht p _ hj
  refine ⟨_, b1, _, rfl, _, rfl, ?_⟩
  split
  · rename_i c
    have c := of_decide_eq_true c
    omega
  · exact k
def sp_fewest_changes : PSp := fun fl ds Q => fl = none ∧ ∃ os ts : List Bead, ds = [.tuple (os.map bdD), .tuple (ts.map bdD)] ∧ LnOk ts ∧ os.Perm ts ∧ ts.length ≤ 40 ∧ Q (.dt (.int (halfV (nums os ts)))) none
abbrev N_fewest_changes : List Str := ["ours", "theirs"]
def T_fewest_changes : PS' := (sRet (qCall sp_half_sum (qAddD (qCons (qCall sp_numbers_for_changes (qAddD (qCons (qVar 0) (qCons (qVar 1) qNil)) [])) qNil) [])))
theorem pure_fewest_changes (fl : Option (List D)) (ds : List D) (Q : RV → Option (List D) → Prop) (_ : false = true ↔ fl ≠ none) (h : sp_fewest_changes fl ds Q) : T_fewest_changes (endsOf false Q) (startE false N_fewest_changes fl ds) := by
  obtain ⟨rfl, os, ts, rfl, ht, p, hl, k⟩ := h
  show T_fewest_changes _ [SV.dat (.tuple (os.map bdD)), SV.dat (.tuple (ts.map bdD))]
  unfold T_fewest_changes
  have ho := perm_ok p ht
  have pl := p.length_eq
  walk_at "wy"
  exact ⟨rfl, os, ts, rfl, ht, p, rfl, _, rfl, nums_num0 ho ht (perm_names p), by rw [nums_len]; omega, k⟩
/-- the line behind a change -/
def unD : D → Nat × Nat × Nat × Nat
  | .tuple [_, .int i, .int j, .int k, .int l] => (i.toNat, j.toNat, k.toNat, l.toNat)
  | _ => (0, 0, 0, 0)
def lineD (os : List Bead) (d : D) : List Bead := changeB os (unD d).1 (unD d).2.1 (unD d).2.2.1 (unD d).2.2.2
noncomputable def firstsL (os ts : List Bead) : List D := (changesL os.length).filter fun d => decide (halfV (nums (lineD os d) ts) = halfV (nums os ts) - 1)
theorem changes_at {n : Nat} {d : D} (h : d ∈ changesL n) : ∃ i j k l : Nat, d = changeD i j k l ∧ i < j ∧ j ≤ k ∧ k < l ∧ l ≤ n := by
  obtain ⟨i, hi, hd⟩ := List.mem_flatMap.mp h
  obtain ⟨j, hj, hd⟩ := List.mem_flatMap.mp hd
  obtain ⟨k, hk, hd⟩ := List.mem_flatMap.mp hd
  obtain ⟨l, hl, rfl⟩ := List.mem_map.mp hd
  have := List.mem_range.mp hi
  have := List.mem_range.mp hj
  have := List.mem_range.mp hk
  have := List.mem_range.mp hl
  exact ⟨_, _, _, _, rfl, by omega, by omega, by omega, by omega⟩
def sp_firsts_changes : PSp := fun fl ds Q => fl = none ∧ ∃ os ts : List Bead, ds = [.tuple (os.map bdD), .tuple (ts.map bdD)] ∧ LnOk ts ∧ os.Perm ts ∧ ts.length ≤ 40 ∧ Q (.fr (firstsL os ts)) none
abbrev N_firsts_changes : List Str := ["ours", "theirs", "numbers", "due", "found", "deed"]
def T_firsts_changes : PS' := (sSeq (sAsg 2 (qCall sp_numbers_for_changes (qAddD (qCons (qVar 0) (qCons (qVar 1) qNil)) [])))
  (sSeq (sAsg 3 (qOp (gI dSub) (qCall sp_half_sum (qAddD (qCons (qVar 2) qNil) [])) (qC (.int 1))))
  (sSeq (sAsgF 4 (fLst (qNil)))
  (sSeq (sFor (iAny (qCall sp_changes_from (qAddD (qCons (qVar 0) qNil) []))) (gN 5) (sIf (qTest (qOp (gEq false) (qCall sp_half_sum (qAddD (qCons (qCall sp_changed (qAddD (qCons (qVar 2) (qCons (qOp gIx (qVar 5) (qC (.int 1))) (qCons (qOp gIx (qVar 5) (qC (.int 2))) (qCons (qOp gIx (qVar 5) (qC (.int 3))) (qCons (qOp gIx (qVar 5) (qC (.int 4))) qNil))))) [])) qNil) [])) (qVar 3))) (sDrop (qMO 4 gAppend (qCons (qVar 5) qNil))) sNil))
  (sRetS 4)))))
theorem pure_firsts_changes (fl : Option (List D)) (ds : List D) (Q : RV → Option (List D) → Prop) (_ : false = true ↔ fl ≠ none) (h : sp_firsts_changes fl ds Q) : T_firsts_changes (endsOf false Q) (startE false N_firsts_changes fl ds) := by
  obtain ⟨rfl, os, ts, rfl, ht, p, hl, k⟩ := h
  show T_firsts_changes _ [SV.dat (.tuple (os.map bdD)), SV.dat (.tuple (ts.map bdD)), SV.un, SV.un, SV.un, SV.un]
  unfold T_firsts_changes
  have ho := perm_ok p ht
  have pl := p.length_eq
  have nn := nums_num0 ho ht (perm_names p)
  have nl := nums_len os ts
  refine sSeq_abs fun R hR => ?_
  walk_at "wy"
  refine ⟨rfl, os, ts, rfl, ht, p, ?_⟩
  subst hR
  refine sSeq_abs fun R hR => ?_
  walk_at "wy"
  refine ⟨rfl, nums os ts, rfl, nn, by omega, ?_⟩
  subst hR
  walk_at "wy"
  refine ⟨Nat.zero_le _, rfl, os.map bdD, rfl, by rw [List.length_map]; omega, ?_⟩
  rw [List.length_map]
  refine ⟨_, rfl, ?_⟩
  have cl := changesL_len (n := os.length) (by omega)
  obtain ⟨L, hL⟩ : ∃ L, changesL os.length = L := ⟨_, rfl⟩
  have mem : ∀ d ∈ L, d ∈ changesL os.length := fun d hd => by rw [hL]; exact hd
  have ef : firstsL os ts = L.filter fun d => decide (halfV (nums (lineD os d) ts) = halfV (nums os ts) - 1) := by unfold firstsL; rw [hL]
  rw [ef] at k
  rw [hL] at cl ⊢
  refine pFor_inv (fun i env => ∃ y5, env = [SV.dat (.tuple (os.map bdD)), SV.dat (.tuple (ts.map bdD)), SV.dat (.list ((nums os ts).map .int)), SV.dat (.int (halfV (nums os ts) - 1)), SV.own false ((L.take i).filter fun d => decide (halfV (nums (lineD os d) ts) = halfV (nums os ts) - 1)), y5]) ⟨_, rfl⟩ ?_ ?_
  · rintro n d hd env ⟨y5, rfl⟩ K hK
    obtain ⟨i, j, kk, l, rfl, h1, h2, h3, h4⟩ := changes_at (mem d (List.mem_of_getElem? hd))
    have tk : L.take (n + 1) = L.take n ++ [changeD i j kk l] := by rw [List.take_add_one, hd]; rfl
    rw [tk, List.filter_append] at hK
    have hlen : ((L.take n).filter fun d => decide (halfV (nums (lineD os d) ts) = halfV (nums os ts) - 1)).length < sizeLine := by
      have a1 := List.length_filter_le (fun d => decide (halfV (nums (lineD os d) ts) = halfV (nums os ts) - 1)) (L.take n)
      have a2 : (L.take n).length ≤ L.length := by rw [List.length_take]; omega
      exact sizeL (by omega)
    have hc := changeB_perm (os := os) (i := i) (j := j) (k := kk) (l := l) h1 h2 h3
    have lc := changeB_len h1 h2 h3 h4
    show gN 5 (changeD i j kk l) _ _
    unfold changeD
    walk_at "wy"
    have pc := hc.trans p
    have ld : lineD os (changeD i j kk l) = changeB os i j kk l := by
      unfold lineD unD changeD
      simp only [Int.toNat_natCast]
    have eqI : gEq false (.int (halfV (nums (changeB os i j kk l) ts))) (.int (halfV (nums os ts) - 1)) = some (.bool (decide (halfV (nums (changeB os i j kk l) ts) = halfV (nums os ts) - 1))) := by
      rw [gEq_ii]
      rfl
    refine ⟨rfl, nums os ts, i, j, kk, l, rfl, h1, h2, h3, by omega, by omega, ?_⟩
    rw [nums_changed h1 h2 h3 h4]
    refine ⟨rfl, _, rfl, nums_num0 (perm_ok pc ht) ht (perm_names pc), by rw [nums_len, lc]; omega, _, eqI, _, rfl, ?_⟩
    by_cases c : halfV (nums (changeB os i j kk l) ts) = halfV (nums os ts) - 1
    · rw [if_pos (decide_eq_true c)]
      refine ⟨hlen, hK _ ⟨.dat (changeD i j kk l), ?_⟩⟩
      rw [List.filter_cons_of_pos (by rw [ld]; exact decide_eq_true c)]
      rfl
    · rw [if_neg (by rw [decide_eq_true_iff]; exact c)]
      refine hK _ ⟨.dat (changeD i j kk l), ?_⟩
      rw [List.filter_cons_of_neg (by rw [ld, decide_eq_true_iff]; exact c), List.filter_nil, List.append_nil]
      rfl
  · rintro env ⟨y5, rfl⟩
    rw [List.take_length]
    walk_at "wy"
    exact k

end Sw

open PySem PySem.Spec L2 Sw
namespace Sw
def plP (ts : List Bead) (m : Nat) : List (Bead × Int) := (List.range m).map fun k => (ts.getD k bead0, (k : Int) + 1)
theorem plP_succ (ts : List Bead) (m : Nat) : plP ts (m + 1) = plP ts m ++ [(ts.getD m bead0, (m : Int) + 1)] := by
  unfold plP
  rw [List.range_succ, List.map_append]
  rfl
theorem plP_len (ts : List Bead) (m : Nat) : (plP ts m).length = m := by
  unfold plP
  rw [List.length_map, List.length_range]
theorem plP_at {ts : List Bead} {m : Nat} {e : Bead × Int} (h : e ∈ plP ts m) : ∃ k, k < m ∧ e = (ts.getD k bead0, (k : Int) + 1) := by
  unfold plP at h
  obtain ⟨k, hk, rfl⟩ := List.mem_map.mp h
  exact ⟨k, List.mem_range.mp hk, rfl⟩
theorem plP_nm {ts : List Bead} (h : LnOk ts) {m : Nat} (hm : m ≤ ts.length) : ∀ e ∈ plP ts m, Nm e.1.2 := fun e he => by
  obtain ⟨k, hk, rfl⟩ := plP_at he
  exact (ln_at h (by omega)).2
theorem plP_new {ts : List Bead} (h : LnOk ts) {m : Nat} (hm : m < ts.length) : ∀ e ∈ plP ts m, e.1 ≠ ts.getD m bead0 := fun e he q => by
  obtain ⟨k, hk, rfl⟩ := plP_at he
  have := ln_inj h (i := k) (j := m) (by omega) hm (congrArg Prod.snd q)
  omega
theorem plP_look {ts : List Bead} (h : LnOk ts) {b : Bead} (hb : b ∈ ts) : lookD (kdsB (plP ts ts.length)) (bdD b) = some (.int (plF ts b)) := by
  obtain ⟨k, hk, rfl⟩ := List.getElem_of_mem hb
  rw [← (ln_at h hk).1, look_kdsB (ln_at h hk).2 _ (plP_nm h (Nat.le_refl _)), (plF_at h hk).1]
  have hm : (ts.getD k bead0, (k : Int) + 1) ∈ plP ts ts.length := List.mem_map.mpr ⟨k, List.mem_range.mpr hk, rfl⟩
  cases c : (plP ts ts.length).find? fun e => decide (e.1 = ts.getD k bead0) with
  | none =>
    have := List.find?_eq_none.mp c _ hm
    simp at this
  | some e =>
    have h1 := List.find?_some c
    have h1 : e.1 = ts.getD k bead0 := of_decide_eq_true h1
    obtain ⟨j, hj, rfl⟩ := plP_at (List.mem_of_find?_eq_some c)
    have := ln_inj h hj hk (congrArg Prod.snd h1)
    subst this
    rfl
def kdsI (l : List (Int × Int)) : List (D × D) := l.map fun e => (.int e.1, .int e.2)
theorem eqv_ii (a b : Int) : PyData.eqv (.int a) (.int b) = decide (a = b) := rfl
theorem look_kdsI (x : Int) : ∀ l : List (Int × Int), lookD (kdsI l) (.int x) = ((l.find? fun e => decide (e.1 = x)).map fun e => PyData.int e.2)
  | [] => rfl
  | e :: r => by
    have ih := look_kdsI x r
    show lookD ((.int e.1, .int e.2) :: kdsI r) (.int x) = _
    rw [lookD_cons, eqv_ii, List.find?_cons]
    by_cases c : e.1 = x
    · simp [c]
    · simp only [c, decide_false, Bool.false_eq_true, if_false]
      exact ih
theorem put_kdsI {l : List (Int × Int)} {x v : Int} (h : ∀ e ∈ l, e.1 ≠ x) : putD (kdsI l) (.int x) (.int v) = kdsI (l ++ [(x, v)]) := by
  unfold putD
  have : lookD (kdsI l) (.int x) = none := by
    rw [look_kdsI, List.find?_eq_none.mpr]
    · rfl
    · intro e he
      simpa using h e he
  rw [this, if_neg (by decide)]
  unfold kdsI
  rw [List.map_append]
  rfl
def sdL (xs : List Int) (m : Nat) : List (Int × Int) := (List.range m).map fun k => (xs.getD k 0, (k : Int))
theorem sdL_succ (xs : List Int) (m : Nat) : sdL xs (m + 1) = sdL xs m ++ [(xs.getD m 0, (m : Int))] := by
  unfold sdL
  rw [List.range_succ, List.map_append]
  rfl
theorem sdL_at {xs : List Int} {m : Nat} {e : Int × Int} (h : e ∈ sdL xs m) : ∃ k, k < m ∧ e = (xs.getD k 0, (k : Int)) := by
  unfold sdL at h
  obtain ⟨k, hk, rfl⟩ := List.mem_map.mp h
  exact ⟨k, List.mem_range.mp hk, rfl⟩
theorem sdL_len (xs : List Int) (m : Nat) : (kdsI (sdL xs m)).length = m := by
  unfold kdsI sdL
  rw [List.length_map, List.length_map, List.length_range]
theorem num0_inj {xs : List Int} (h : Num0 xs) {i j : Nat} (hi : i < xs.length) (hj : j < xs.length) (e : xs.getD i 0 = xs.getD j 0) : i = j := absA_inj h.g.1 hi hj (congrArg Int.natAbs e)
theorem sdL_look {xs : List Int} (h : Num0 xs) {k : Nat} (hk : k < xs.length) : lookD (kdsI (sdL xs xs.length)) (.int (xs.getD k 0)) = some (.int (k : Nat)) := by
  rw [look_kdsI]
  have hm : (xs.getD k 0, (k : Int)) ∈ sdL xs xs.length := List.mem_map.mpr ⟨k, List.mem_range.mpr hk, rfl⟩
  cases c : (sdL xs xs.length).find? fun e => decide (e.1 = xs.getD k 0) with
  | none =>
    have := List.find?_eq_none.mp c _ hm
    simp at this
  | some e =>
    have h1 := List.find?_some c
    have h1 : e.1 = xs.getD k 0 := of_decide_eq_true h1
    obtain ⟨j, hj, rfl⟩ := sdL_at (List.mem_of_find?_eq_some c)
    have := num0_inj h hj hk h1
    subst this
    rfl
/-- one step: behind the right end of x stands the left end of x + 1 -/
theorem step_pos {xs : List Int} (h : Num0 xs) (hp : ∀ x ∈ xs, 0 ≤ x) {p : Nat} (hlt : p < xs.length - 1) : ∃ p2, p2 < xs.length - 1 ∧ otE xs (besE (rEn (xs.getD p 0))) = rEn (xs.getD p2 0) ∧ xs.getD (p2 + 1) 0 = xs.getD p 0 + 1 := by
  have h1 := pos_at hp (k := p) (by omega)
  have hE := (gone_ends h).paE _ (end_r h hlt)
  have sp := pt_spec h hE
  have lt := pt_lt h (besE (rEn (xs.getD p 0)))
  obtain ⟨p2, e2⟩ : ∃ p2, ptF xs (besE (rEn (xs.getD p 0))) = p2 := ⟨_, rfl⟩
  rw [e2] at sp lt
  have h2 := pos_at hp (k := p2) (by omega)
  have h3 := pos_at hp (k := p2 + 1) (by omega)
  have eb : besE (rEn (xs.getD p 0)) = ((xs.getD p 0).toNat + 1, 0) := by rw [r_pos h1]; rfl
  rcases sp with sp | sp
  · rw [eb, r_pos h2] at sp
    cases congrArg Prod.snd sp
  · refine ⟨p2, lt, by rw [sp, ot_l h lt], ?_⟩
    rw [eb, l_pos h3] at sp
    have := congrArg Prod.fst sp
    have this : (xs.getD p 0).toNat + 1 = (xs.getD (p2 + 1) 0).toNat := this
    omega
theorem go_pos {xs : List Int} (h : Num0 xs) (hp : ∀ x ∈ xs, 0 ≤ x) {i : Nat} (hi : i < xs.length - 1) : ∀ n, ∃ p, p < xs.length - 1 ∧ goE besE (otE xs) (rEn (xs.getD i 0)) n = rEn (xs.getD p 0)
  | 0 => ⟨i, hi, rfl⟩
  | n + 1 => by
    obtain ⟨p, hlt, e⟩ := go_pos h hp hi n
    obtain ⟨p2, h2, e2, _⟩ := step_pos h hp hlt
    exact ⟨p2, h2, by show otE xs (besE (goE besE (otE xs) (rEn (xs.getD i 0)) n)) = _; rw [e, e2]⟩
theorem go_next {xs : List Int} (h : Num0 xs) (hp : ∀ x ∈ xs, 0 ≤ x) {i : Nat} (hi : i < xs.length - 1) (n : Nat) : xs.getD (ptF xs (goE besE (otE xs) (rEn (xs.getD i 0)) (n + 1)) + 1) 0 = xs.getD (ptF xs (goE besE (otE xs) (rEn (xs.getD i 0)) n)) 0 + 1 := by
  obtain ⟨p, hlt, e⟩ := go_pos h hp hi n
  obtain ⟨p2, h2, e2, e3⟩ := step_pos h hp hlt
  have e4 : goE besE (otE xs) (rEn (xs.getD i 0)) (n + 1) = rEn (xs.getD p2 0) := by show otE xs (besE (goE besE (otE xs) (rEn (xs.getD i 0)) n)) = _; rw [e, e2]
  rw [e4, e, pt_r h h2, pt_r h hlt, e3]
theorem go_orb {α : Type} {pa ot : α → α} (q : α) : ∀ n, Orb pa ot q (goE pa ot q n)
  | 0 => .base
  | n + 1 => .ot (.pa (go_orb q n))
def sp_law_half : PSp := fun fl ds Q => fl = none ∧ ∃ os ts : List Bead, ds = [.tuple (os.map bdD), .tuple (ts.map bdD)] ∧ LnOk ts ∧ os.Perm ts ∧ ts.length ≤ 40 ∧ Q (.dt (.int (halfV (nums os ts)))) none
abbrev N_law_half : List Str := ["_law_ours", "_law_theirs", "_law_places", "_law_k", "_law_bead", "_law_steps", "_law_stands", "_law_number", "_law_met", "_law_rings", "_law_at"]
def T_law_half : PS' := (sSeq (sAsgD 2 false)
  (sSeq (sFor (iEnuT (qVar 1)) (gT 2 (gsC (gN 3) (gsC (gN 4) gsN))) (sPutD 2 (qOp gAdd (qVar 3) (qC (.int 1))) (qVar 4)))
  (sSeq (sAsg 5 (qOp gAdd (qOp gAdd (qF (fLst (qCons (qC (.int 0)) qNil))) (qF (fLcR (iAny (qVar 0)) (gN 4) tYes' (qDGet (qVar 2) (qVar 4)) [4]))) (qF (fLst (qCons (qOp gAdd (qCB gLen (qCons (qVar 0) qNil)) (qC (.int 1))) qNil)))))
  (sSeq (sAsgD 6 false)
  (sSeq (sFor (iEnu (qVar 5)) (gT 2 (gsC (gN 3) (gsC (gN 7) gsN))) (sPutD 6 (qVar 3) (qVar 7)))
  (sSeq (sAsgD 8 false)
  (sSeq (sAsg 9 (qC (.int 0)))
  (sSeq (sFor (iRg1 (qOp (gI dSub) (qCB gLen (qCons (qVar 5) qNil)) (qC (.int 1)))) (gN 3) (sIf (qTest (qDIn true (qVar 3) (qVar 8))) (sSeq (sAsg 9 (qOp gAdd (qVar 9) (qC (.int 1))))
  (sSeq (sAsg 10 (qVar 3))
  (sWh (qTest (qDIn true (qVar 10) (qVar 8))) (sSeq (sPutD 8 (qC (.bool true)) (qVar 10))
  (sAsg 10 (qOp (gI dSub) (qDGet (qVar 6) (qOp gAdd (qOp gIx (qVar 5) (qVar 10)) (qC (.int 1)))) (qC (.int 1)))))))) sNil))
  (sRet (qOp (gI gDiv) (qOp (gI dSub) (qOp (gI dSub) (qCB gLen (qCons (qVar 5) qNil)) (qC (.int 1))) (qVar 9)) (qC (.int 2))))))))))))
theorem pure_law_half (fl : Option (List D)) (ds : List D) (Q : RV → Option (List D) → Prop) (_ : false = true ↔ fl ≠ none) (h : sp_law_half fl ds Q) : T_law_half (endsOf false Q) (startE false N_law_half fl ds) := by
  obtain ⟨rfl, os, ts, rfl, ht, p, hl, k⟩ := h
  show T_law_half _ [SV.dat (.tuple (os.map bdD)), SV.dat (.tuple (ts.map bdD)), SV.un, SV.un, SV.un, SV.un, SV.un, SV.un, SV.un, SV.un, SV.un]
  unfold T_law_half
  have ho := perm_ok p ht
  have pl := p.length_eq
  have f1 := ho.few
  have f2 := ht.few
  have nn := nums_num0 ho ht (perm_names p)
  have np := nums_pos ht p
  have nl := nums_len os ts
  refine sSeq_abs fun R0 hR0 => ?_
  walk_at "wy"
  subst hR0
  refine sSeq_abs fun R hR => ?_
  walk_at "wy"
  simp only [iEnuT]
  walk_at "wy"
  refine pFor_inv (fun i env => ∃ y3 y4, env = [SV.dat (.tuple (os.map bdD)), SV.dat (.tuple (ts.map bdD)), SV.dic false (kdsB (plP ts i)), y3, y4, SV.un, SV.un, SV.un, SV.un, SV.un, SV.un] ∧ (y4 = SV.un ∨ ∃ d, y4 = SV.dat d)) ⟨_, _, rfl, .inl rfl⟩ ?_ ?_
  · rintro i d hd env ⟨y3, y4, rfl, _⟩ K hK
    rw [enD_get] at hd
    obtain ⟨x, hx, rfl⟩ := Option.map_eq_some_iff.mp hd
    rw [List.getElem?_map] at hx
    obtain ⟨b, hb, rfl⟩ := Option.map_eq_some_iff.mp hx
    rw [Nat.zero_add]
    have hi : i < ts.length := (List.getElem?_eq_some_iff.mp hb).1
    have hbe : ts.getD i bead0 = b := by rw [List.getD_eq_getElem?_getD, hb]; rfl
    have nb : Nm b.2 := ht.nm b (List.mem_of_getElem? hb)
    walk_at "wy"
    have p1 : putD (kdsB (plP ts i)) (bdD b) (.int ((i : Int) + 1)) = kdsB (plP ts (i + 1)) := by
      rw [put_kdsB nb (plP_nm ht (by omega)) (by rw [← hbe]; exact plP_new ht hi), plP_succ, hbe]
    have l1 : (kdsB (plP ts i)).length < sizeLine := by unfold kdsB; rw [List.length_map, plP_len]; exact sizeL (by omega)
    rw [p1]
    exact ⟨keyT_str (bdS b), l1, hK _ ⟨_, _, rfl, .inr ⟨_, rfl⟩⟩⟩
  · rintro env ⟨y3, y4, rfl, h4⟩
    rw [enD_len, List.length_map]
    walk_at "wy"
    subst hR
    refine sSeq_abs fun R hR => ?_
    walk_at "wy"
    have no4 : nob (some y4) := by
      rcases h4 with rfl | ⟨d, rfl⟩
      · exact nob_u.mpr trivial
      · exact nob_d.mpr trivial
    have sub : ∀ b ∈ os, b ∈ ts := fun b hb => p.mem_iff.mp hb
    refine ⟨sizeL (by decide), no4, by rw [List.length_map]; omega, ?_⟩
    refine map_comp (e := bdD) (f := fun b => .int (plF ts b)) (fun b hb K hK => ?_) ?_
    · show gN 4 (bdD b) _ _
      walk_at "wy"
      exact ⟨keyT_str (bdS b), _, plP_look ht (sub b hb), hK⟩
    rw [List.length_map]
    refine ⟨by rw [sizeLine_eq]; omega, ⟨_, rfl⟩, _, rfl, _, rfl, _, rfl, sizeL (by decide), by rw [sizeLine_eq]; omega, by simp, ?_⟩
    have e : PyData.int 0 :: (List.map (fun b => PyData.int (plF ts b)) os ++ [PyData.int ((os.length : Int) + 1)]) = (nums os ts).map .int := by
      unfold nums
      rw [List.cons_append, List.map_cons, List.map_append, List.map_map]
      rfl
    rw [← List.length_map (f := bdD)] at e
    rw [e]
    obtain ⟨xs, hxs⟩ : ∃ xs, nums os ts = xs := ⟨_, rfl⟩
    rw [hxs] at nn np nl k ⊢
    subst hR
    refine sSeq_abs fun R hR => ?_
    walk_at "wy"
    subst hR
    refine sSeq_abs fun R hR => ?_
    walk_at "wy"
    refine ⟨_, rfl, ?_⟩
    have tOs : ∃ a, SV.dat (PyData.tuple (os.map bdD)) = a := ⟨_, rfl⟩
    obtain ⟨a0, e0⟩ := tOs
    obtain ⟨a1, e1⟩ : ∃ a, SV.dat (PyData.tuple (ts.map bdD)) = a := ⟨_, rfl⟩
    obtain ⟨a2, e2⟩ : ∃ a, SV.dic false (kdsB (plP ts ts.length)) = a := ⟨_, rfl⟩
    rw [e0, e1, e2]
    refine pFor_inv (fun i env => ∃ y3 y7 : SV, env = [a0, a1, a2, y3, y4, SV.dat (.list (xs.map .int)), SV.dic false (kdsI (sdL xs i)), y7, SV.un, SV.un, SV.un]) ⟨_, _, rfl⟩ ?_ ?_
    · rintro i d hd env ⟨y3, y7, rfl⟩ K hK
      obtain ⟨hi, rfl⟩ : i < xs.length ∧ d = .tuple [.int (i : Nat), .int (xs.getD i 0)] := by
        rw [enD_get, List.getElem?_map] at hd
        cases q : xs[i]? with
        | none => rw [q] at hd; cases hd
        | some x =>
          rw [q] at hd
          injection hd with hd
          refine ⟨(List.getElem?_eq_some_iff.mp q).1, ?_⟩
          rw [← hd, List.getD_eq_getElem?_getD, q, Nat.zero_add]
          rfl
      walk_at "wy"
      have p1 : putD (kdsI (sdL xs i)) (.int (xs.getD i 0)) (.int (i : Nat)) = kdsI (sdL xs (i + 1)) := by
        rw [put_kdsI (fun e he q => ?_), sdL_succ]
        obtain ⟨k2, hk2, rfl⟩ := sdL_at he
        have := num0_inj nn (i := k2) (j := i) (by omega) hi q
        omega
      rw [p1]
      refine ⟨⟨.inl _, rfl⟩, by rw [sdL_len]; exact sizeL (by omega), hK _ ⟨_, _, rfl⟩⟩
    · rintro env ⟨y3, y7, rfl⟩
      rw [enD_len, List.length_map]
      walk_at "wy"
      subst hR
      refine sSeq_abs fun R hR => ?_
      walk_at "wy"
      subst hR
      refine sSeq_abs fun R hR => ?_
      walk_at "wy"
      subst hR
      refine sSeq_abs fun R hR => ?_
      walk_at "wy"
      have hl2 := nn.l
      obtain ⟨m, hm⟩ : ∃ m, m = xs.length - 1 := ⟨_, rfl⟩
      have ej : (((xs.map PyData.int).length : Int) - 1).toNat = m := by rw [List.length_map]; omega
      have tl : (tieL xs m).length = m := by unfold tieL; rw [List.length_map, List.length_range, hm]
      obtain ⟨ties, hT⟩ : ∃ t, tieL xs m = t := ⟨_, rfl⟩
      rw [hT] at tl
      refine ⟨⟨by rw [List.length_map]; omega, by rw [List.length_map]; omega⟩, ?_⟩
      rw [ej]
      obtain ⟨a6, e6⟩ : ∃ a, SV.dic false (kdsI (sdL xs xs.length)) = a := ⟨_, rfl⟩
      obtain ⟨a5, e5⟩ : ∃ a, SV.dat (PyData.list (xs.map .int)) = a := ⟨_, rfl⟩
      rw [e6, e5]
      refine pFor_inv (fun i env => ∃ (U : List Nat) (y3 y10 : SV), env = [a0, a1, a2, y3, y4, a5, a6, y7, SV.dic false (metK U), SV.dat (.int ((ringsL ties i).length : Nat)), y10] ∧ U.Nodup ∧ (∀ u ∈ U, u < m) ∧ (∀ u, u ∈ U ↔ u ∈ (ringsL ties i).flatten) ∧ (ringsL ties i).length ≤ i) ⟨[], _, _, rfl, List.nodup_nil, fun _ h => (by cases h), fun u => Iff.rfl, Nat.le_refl _⟩ ?_ ?_
      · rintro i d hd env ⟨U, y3, y10, rfl, hU, lU, mU, nU⟩ K hK
        obtain ⟨hi, rfl⟩ := rgD_get hd
        rw [show ((0 : Int) + (i : Int)) = ((i : Nat) : Int) by omega]
        walk_at "wy"
        refine ⟨⟨.inl (i : Int), rfl⟩, ?_⟩
        rw [look_met]
        by_cases c : i ∈ U
        · rw [decide_eq_true c, if_neg (by decide)]
          have e1 : ringsL ties (i + 1) = ringsL ties i := by
            show ringsL ties i ++ (if i ∈ (ringsL ties i).flatten then [] else [ringL ties i]) = _
            rw [if_pos ((mU i).mp c), List.append_nil]
          exact hK _ ⟨U, _, _, by rw [e1], hU, lU, by rw [e1]; exact mU, by rw [e1]; omega⟩
        · rw [decide_eq_false c, if_pos rfl]
          have g := gone_ends nn
          have hE : EndP xs (rEn (xs.getD i 0)) := end_r nn (by omega)
          have hp0 : ptF xs (rEn (xs.getD i 0)) = i := pt_r nn (by omega)
          have gnx := go_next nn np (i := i) (by omega)
          obtain ⟨q0, hq0⟩ : ∃ q, rEn (xs.getD i 0) = q := ⟨_, rfl⟩
          rw [hq0] at hE hp0 gnx
          have nc : i ∉ (ringsL ties i).flatten := fun h => c ((mU i).mpr h)
          have rch : ∀ n, Reach ties i (ptF xs (goE besE (otE xs) q0 n)) := fun n => by
            have := (orb_reach nn hE (go_orb q0 n)).2
            rwa [hp0, ← hm, hT] at this
          have plt : ∀ n, ptF xs (goE besE (otE xs) q0 n) < m := fun n => by rw [hm]; exact pt_lt nn _
          have far : ∀ n, ptF xs (goE besE (otE xs) q0 n) ∉ U := fun n hu => by
            obtain ⟨r, hr, hur⟩ := List.mem_flatten.mp ((mU _).mp hu)
            obtain ⟨j, hj, rfl⟩ := rings_of ties i r hr
            have h3 := (ringL_mem.mp hur).2
            have h5 : Reach ties (ptF xs (goE besE (otE xs) q0 n)) i := by
              have := rch n
              rw [← hT, hm] at this ⊢
              exact reach_sym nn (by omega) this
            exact nc (List.mem_flatten.mpr ⟨_, hr, ringL_mem.mpr ⟨by omega, reach_tr h3 h5⟩⟩)
          refine pWh_fuel2 (fun f env => ∃ n : Nat, env = [a0, a1, a2, SV.dat (.int (i : Nat)), y4, a5, a6, y7, SV.dic false (metK (U ++ (List.range n).map fun j => ptF xs (goE besE (otE xs) q0 j))), SV.dat (.int (((ringsL ties i).length : Nat) + 1)), SV.dat (.int (ptF xs (goE besE (otE xs) q0 n) : Nat))] ∧ f = 60 - n ∧ ((List.range n).map fun j => ptF xs (goE besE (otE xs) q0 j)).Nodup) 60 ⟨0, ?_, rfl, List.nodup_nil⟩ ?_
          · show _ = [_, _, _, _, _, _, _, _, SV.dic false (metK (U ++ [])), _, SV.dat (.int (ptF xs q0 : Nat))]
            rw [hp0, List.append_nil]
          · rintro f env ⟨n, rfl, rfl, hV⟩ K2 hK2
            walk_at "wy"
            refine ⟨⟨.inl _, rfl⟩, ?_⟩
            rw [look_met]
            obtain ⟨V, hVe⟩ : ∃ V, (List.range n).map (fun j => ptF xs (goE besE (otE xs) q0 j)) = V := ⟨_, rfl⟩
            have Vm : ∀ u, u ∈ V ↔ ∃ j, j < n ∧ u = ptF xs (goE besE (otE xs) q0 j) := fun u => by
              rw [← hVe, List.mem_map]
              exact ⟨fun ⟨j, hj, e⟩ => ⟨j, List.mem_range.mp hj, e.symm⟩, fun ⟨j, hj, e⟩ => ⟨j, List.mem_range.mpr hj, e.symm⟩⟩
            have Vd : ∀ i j, i < j → j < n → ptF xs (goE besE (otE xs) q0 i) ≠ ptF xs (goE besE (otE xs) q0 j) := fun i j h1 h2 => by
              have := (List.pairwise_map.mp hV)
              have := List.pairwise_iff_getElem.mp this i j (by simp; omega) (by simp; omega) h1
              simpa using this
            rw [hVe] at hV ⊢
            have lV : ∀ u ∈ V, u < m := fun u hu => by
              obtain ⟨j, _, rfl⟩ := (Vm u).mp hu
              exact plt _
            have Vl := lt_few hV lV
            have Vn : V.length = n := by rw [← hVe, List.length_map, List.length_range]
            have dj : ∀ u ∈ U, ∀ v ∈ V, u ≠ v := fun u hu v hv e => by
              subst e
              obtain ⟨j, _, rfl⟩ := (Vm u).mp hv
              exact far j hu
            have nUV : (U ++ V).Nodup := List.nodup_append.mpr ⟨hU, hV, dj⟩
            have lUV : ∀ u ∈ U ++ V, u < m := fun u hu => (List.mem_append.mp hu).elim (lU u) (lV u)
            have UVl := lt_few nUV lUV
            by_cases c2 : ptF xs (goE besE (otE xs) q0 n) ∈ V
            · rw [decide_eq_true (List.mem_append_right _ c2)]
              obtain ⟨a, ha, ea⟩ := (Vm _).mp c2
              obtain ⟨_, eq⟩ := g.back hE ha ea Vd
              have Vr : ∀ x, x ∈ V ↔ x ∈ ringL ties i := fun x => by
                have := reach_go nn hE (by omega) eq x
                rw [hp0, ← hm, hT] at this
                rw [Vm, ← this, ringL_mem]
                exact ⟨fun h => ⟨by have := lV x ((Vm x).mpr (this.mp h)); omega, h⟩, fun h => h.2⟩
              have e1 : ringsL ties (i + 1) = ringsL ties i ++ [ringL ties i] := by
                show ringsL ties i ++ (if i ∈ (ringsL ties i).flatten then [] else [ringL ties i]) = _
                rw [if_neg nc]
              refine hK _ ⟨U ++ V, SV.dat (.int (i : Nat)), SV.dat (.int (ptF xs (goE besE (otE xs) q0 n) : Nat)), ?_, nUV, lUV, fun u => ?_, by rw [e1, List.length_append, List.length_singleton]; omega⟩
              · rw [e1, List.length_append, List.length_singleton]
                rfl
              · rw [e1, List.flatten_append, List.mem_append, List.mem_append, mU, Vr]
                simp
            · rw [decide_eq_false (fun h => (List.mem_append.mp h).elim (far n) c2)]
              subst e5
              subst e6
              walk_at "wy"
              have c3 : ptF xs (goE besE (otE xs) q0 n) ∉ U ++ V := fun h => (List.mem_append.mp h).elim (far n) c2
              have hV2 : ((List.range (n + 1)).map fun j => ptF xs (goE besE (otE xs) q0 j)).Nodup := by
                rw [List.range_succ, List.map_append, hVe, List.map_singleton]
                refine List.nodup_append.mpr ⟨hV, by simp, fun u hu v hv e => ?_⟩
                rw [List.mem_singleton.mp hv] at e
                exact c2 (e ▸ hu)
              have eV2 : (U ++ V) ++ [ptF xs (goE besE (otE xs) q0 n)] = U ++ (List.range (n + 1)).map fun j => ptF xs (goE besE (otE xs) q0 j) := by
                rw [List.range_succ, List.map_append, hVe, List.map_singleton, List.append_assoc]
              have lk := sdL_look nn (k := ptF xs (goE besE (otE xs) q0 (n + 1)) + 1) (by have := plt (n + 1); omega)
              rw [gnx n] at lk
              have pn := plt n
              rw [put_met, if_neg c3, eV2]
              refine ⟨⟨.inl _, rfl⟩, by unfold metK; rw [List.length_map]; exact sizeL (by omega), _, int_at (by omega), _, rfl, ⟨.inl _, rfl⟩, _, lk, _, rfl, ?_⟩
              refine hK2 (60 - (n + 1)) _ (by omega) ⟨n + 1, ?_, rfl, hV2⟩
              rw [show ((((ptF xs (goE besE (otE xs) q0 (n + 1)) + 1 : Nat) : Int)) - 1) = ((ptF xs (goE besE (otE xs) q0 (n + 1)) : Nat) : Int) by omega]
      · rintro env ⟨U, y3, y10, rfl, hU, lU, mU, nU⟩
        have gm : (rgD 0 m).length = m := by simp [rgD]
        rw [gm]
        walk_at "wy"
        subst hR
        subst e5
        walk_at "wy"
        rw [List.length_map]
        unfold halfV ringN at k
        rw [← hm, hT] at k
        exact ⟨by decide, k⟩

end Sw

open PySem PySem.Spec L2 Sw
namespace Sw
def sp_law_first_changes : PSp := fun fl ds Q => fl = none ∧ ∃ os ts : List Bead, ds = [.tuple (os.map bdD), .tuple (ts.map bdD)] ∧ LnOk ts ∧ os.Perm ts ∧ ts.length ≤ 40 ∧ Q (.fr (firstsL os ts)) none
abbrev N_law_first_changes : List Str := ["_law_ours", "_law_theirs", "_law_due", "_law_deed"]
def T_law_first_changes : PS' := (sSeq (sAsg 2 (qOp (gI dSub) (qCall sp_law_half (qAddD (qCons (qVar 0) (qCons (qVar 1) qNil)) [])) (qC (.int 1))))
  (sRetF (fLc (iAny (qCall sp_law_changes (qAddD (qCons (qCB gLen (qCons (qVar 0) qNil)) qNil) []))) (gN 3) (qTest (qOp (gEq false) (qCall sp_law_half (qAddD (qCons (qCall sp_law_line_behind (qAddD (qCons (qVar 0) (qCons (qVar 3) qNil)) [])) (qCons (qVar 1) qNil)) [])) (qVar 2))) (qVar 3) [3])))
theorem pure_law_first_changes (fl : Option (List D)) (ds : List D) (Q : RV → Option (List D) → Prop) (_ : false = true ↔ fl ≠ none) (h : sp_law_first_changes fl ds Q) : T_law_first_changes (endsOf false Q) (startE false N_law_first_changes fl ds) := by
  obtain ⟨rfl, os, ts, rfl, ht, p, hl, k⟩ := h
  show T_law_first_changes _ [SV.dat (.tuple (os.map bdD)), SV.dat (.tuple (ts.map bdD)), SV.un, SV.un]
  unfold T_law_first_changes
  have ho := perm_ok p ht
  have pl := p.length_eq
  refine sSeq_abs fun R hR => ?_
  walk_at "wy"
  refine ⟨rfl, os, ts, rfl, ht, p, hl, ?_⟩
  walk_at "wy"
  subst hR
  walk_at "wy"
  rw [List.length_map]
  have cl := changesL_len (n := os.length) (by omega)
  refine ⟨rfl, os.length, rfl, by omega, _, rfl, by show (changesL os.length).length ≤ _; omega, ?_⟩
  show pLc _ _ _ _ _ (changesL os.length) _ _
  obtain ⟨L, hL⟩ : ∃ L, changesL os.length = L := ⟨_, rfl⟩
  have mem : ∀ d ∈ L, d ∈ changesL os.length := fun d hd => by rw [hL]; exact hd
  have ef : firstsL os ts = L.filter fun d => decide (halfV (nums (lineD os d) ts) = halfV (nums os ts) - 1) := by unfold firstsL; rw [hL]
  rw [ef] at k
  rw [hL] at cl ⊢
  refine pLc_inv (fun w acc env => acc = ((L.take w).filter fun d => decide (halfV (nums (lineD os d) ts) = halfV (nums os ts) - 1)) ∧ ∃ y3, env = [SV.dat (.tuple (os.map bdD)), SV.dat (.tuple (ts.map bdD)), SV.dat (.int (halfV (nums os ts) - 1)), y3]) ⟨rfl, _, rfl⟩ ?_ ?_
  · rintro w d hd acc env ⟨rfl, y3, rfl⟩ K hK
    obtain ⟨i, j, kk, l, rfl, h1, h2, h3, h4⟩ := changes_at (mem d (List.mem_of_getElem? hd))
    have tk : L.take (w + 1) = L.take w ++ [changeD i j kk l] := by rw [List.take_add_one, hd]; rfl
    have hc := changeB_perm (os := os) (i := i) (j := j) (k := kk) (l := l) h1 h2 h3
    have pc := hc.trans p
    have ld : lineD os (changeD i j kk l) = changeB os i j kk l := by
      unfold lineD unD changeD
      simp only [Int.toNat_natCast]
    have eqI : gEq false (.int (halfV (nums (changeB os i j kk l) ts))) (.int (halfV (nums os ts) - 1)) = some (.bool (decide (halfV (nums (changeB os i j kk l) ts) = halfV (nums os ts) - 1))) := by
      rw [gEq_ii]
      rfl
    rw [tk, List.filter_append] at hK
    show gN 3 (changeD i j kk l) _ _
    unfold changeD
    walk_at "wy"
    refine ⟨rfl, os, _, _, rfl, .change i j kk l h1 h2 h3 h4, by omega, ho.nm, ?_⟩
    refine ⟨rfl, _, ts, rfl, ht, pc, hl, _, eqI, _, rfl, ?_⟩
    by_cases c : halfV (nums (changeB os i j kk l) ts) = halfV (nums os ts) - 1
    · rw [if_pos (decide_eq_true c)]
      refine hK _ _ ⟨?_, _, rfl⟩
      rw [List.filter_cons_of_pos (by rw [ld]; exact decide_eq_true c)]
      rfl
    · rw [if_neg (by rw [decide_eq_true_iff]; exact c)]
      refine hK _ _ ⟨?_, _, rfl⟩
      rw [List.filter_cons_of_neg (by rw [ld, decide_eq_true_iff]; exact c), List.filter_nil, List.append_nil]
  · rintro acc env ⟨rfl, y3, rfl⟩
    rw [List.take_length]
    exact k
def sp_law_good_deedC : PSp := fun fl ds Q => ∃ (fd : List D) (n : Nat), fl = some fd ∧ FlOk fd ∧ ds = [.str (Str.ofString "change"), .int (n : Nat)] ∧ 2 ≤ n ∧ n ≤ 1000 ∧ ∀ (i j k l : Nat) fd2, i < j → j ≤ k → k < l → l ≤ n → FlOk fd2 → Q (.dt (changeD i j k l)) (some fd2)
abbrev N_law_good_deedC : List Str := ["_law_flow_here", "_law_word", "_law_many", "_law_i", "_law_j", "_law_k", "_law_l"]
def T_law_good_deedC : PS' := (sSeq (sIf (qTest (qOp (gEq false) (qVar 1) (qC (.str "turn")))) (sSeq (sAsg 3 (qCallL sp_law_pick 0 (qAddD (qCons (qVar 2) qNil) [])))
  (sRet (qTup (qCons (qC (.str "turn")) (qCons (qVar 3) (qCons (qOp gAdd (qOp gAdd (qVar 3) (qC (.int 1))) (qCallL sp_law_pick 0 (qAddD (qCons (qOp (gI dSub) (qVar 2) (qVar 3)) qNil) []))) qNil)))))) sNil)
  (sSeq (sAsg 3 (qCallL sp_law_pick 0 (qAddD (qCons (qOp (gI dSub) (qVar 2) (qC (.int 1))) qNil) [])))
  (sSeq (sAsg 4 (qOp gAdd (qOp gAdd (qVar 3) (qC (.int 1))) (qCallL sp_law_pick 0 (qAddD (qCons (qOp (gI dSub) (qOp (gI dSub) (qVar 2) (qC (.int 1))) (qVar 3)) qNil) []))))
  (sSeq (sAsg 5 (qOp gAdd (qVar 4) (qCallL sp_law_pick 0 (qAddD (qCons (qOp (gI dSub) (qVar 2) (qVar 4)) qNil) []))))
  (sSeq (sAsg 6 (qOp gAdd (qOp gAdd (qVar 5) (qC (.int 1))) (qCallL sp_law_pick 0 (qAddD (qCons (qOp (gI dSub) (qVar 2) (qVar 5)) qNil) []))))
  (sRet (qTup (qCons (qC (.str "change")) (qCons (qVar 3) (qCons (qVar 4) (qCons (qVar 5) (qCons (qVar 6) qNil))))))))))))
theorem pure_law_good_deedC (fl : Option (List D)) (ds : List D) (Q : RV → Option (List D) → Prop) (_ : true = true ↔ fl ≠ none) (h : sp_law_good_deedC fl ds Q) : T_law_good_deedC (endsOf true Q) (startE true N_law_good_deedC fl ds) := by
  obtain ⟨fd, n, rfl, hf, rfl, n1, n2, q⟩ := h
  show T_law_good_deedC _ [SV.own true _, SV.dat _, SV.dat _, SV.un, SV.un, SV.un, SV.un]
  unfold T_law_good_deedC
  refine sSeq_abs fun R hR => ?_
  walk_at "wp"
  rw [if_neg (by decide)]
  subst hR
  walk_at "wp"
  refine ⟨fd, _, rfl, hf, rfl, by omega, by omega, fun d1 fd1 p0 p1 hf1 => ?_⟩
  obtain ⟨i, rfl⟩ : ∃ i : Nat, d1 = i := ⟨d1.toNat, by omega⟩
  walk_at "wp"
  refine ⟨fd1, _, rfl, hf1, rfl, by omega, by omega, fun d2 fd2 q0 q1 hf2 => ?_⟩
  obtain ⟨j, rfl⟩ : ∃ j : Nat, d2 = j := ⟨d2.toNat, by omega⟩
  walk_at "wp"
  refine ⟨fd2, _, rfl, hf2, rfl, by omega, by omega, fun d3 fd3 r0 r1 hf3 => ?_⟩
  obtain ⟨k, rfl⟩ : ∃ k : Nat, d3 = k := ⟨d3.toNat, by omega⟩
  walk_at "wp"
  refine ⟨fd3, _, rfl, hf3, rfl, by omega, by omega, fun d4 fd4 s0 s1 hf4 => ?_⟩
  obtain ⟨l, rfl⟩ : ∃ l : Nat, d4 = l := ⟨d4.toNat, by omega⟩
  walk_at "wp"
  have := q i (i + 1 + j) (i + 1 + j + k) (i + 1 + j + k + 1 + l) fd4 (by omega) (by omega) (by omega) (by omega) hf4
  unfold changeD at this
  push_cast at this
  exact ⟨sizeL (by decide), this⟩
theorem firsts_len (os ts : List Bead) : (firstsL os ts).length ≤ (changesL os.length).length := List.length_filter_le _ _
theorem firsts_in {os ts : List Bead} {d : D} (h : d ∈ firstsL os ts) : d ∈ changesL os.length := (List.mem_filter.mp h).1
theorem firsts_none {os ts : List Bead} (h : os.length < 2) : firstsL os ts = [] := by
  refine List.eq_nil_iff_forall_not_mem.mpr fun d hd => ?_
  obtain ⟨i, j, k, l, _, h1, h2, h3, h4⟩ := changes_at (firsts_in hd)
  omega
theorem okA_firsts {os ts : List Bead} (h : os.length ≤ 10) (m : Nat) : okA (m + 3) (.list (firstsL os ts)) := ⟨Nat.le_trans (firsts_len os ts) (Nat.le_trans (changes_small h) (by omega)), fun d hd => by
  obtain ⟨f, hf⟩ := changes_LD d (firsts_in hd)
  exact hf.okA⟩
theorem hn_firsts (os ts : List Bead) : Hn 2 (.list (firstsL os ts)) := fun d hd => by
  obtain ⟨f, hf⟩ := changes_LD d (firsts_in hd)
  exact hf.hn

end Sw

open PySem PySem.Spec L2 Sw
namespace Sw
/-! law_50 level 14 -/
abbrev N_law_50 : List Str := ["_law_script", "_law_flow_here", "_law_many", "_law_ours", "_law_theirs", "_law_k", "_law_due", "_law_found", "_law_word", "_law_i", "_law_j", "_law_l", "_law_then", "_law_least"]
def T_law_50 : PS' := (sSeq (sAsg 2 (qCallL sp_law_pick 1 (qAddD (qCons (qC (.int 6)) qNil) [])))
  (sSeq (sIf (qTest (qOp (gEq false) (qCallL sp_law_pick 1 (qAddD (qCons (qC (.int 8)) qNil) [])) (qC (.int 0)))) (sAsg 2 (qCallL sp_law_pick 1 (qAddD (qCons (qC (.int 11)) qNil) []))) sNil)
  (sSeq (sAsg 3 (qCallL sp_law_line 1 (qAddD (qCons (qCallL sp_law_names 1 (qAddD (qCons (qVar 2) qNil) [])) qNil) [])))
  (sSeq (sAsg 4 (qVar 3))
  (sSeq (sIf (qTest (qOp (gEq false) (qCallL sp_law_pick 1 (qAddD (qCons (qC (.int 2)) qNil) [])) (qC (.int 0)))) (sAsg 4 (qCB gTuple (qCons (qCallL sp_law_shuffled 1 (qAddD (qCons (qVar 3) qNil) [])) qNil))) (sIf (qTest (qOp (gI (gCmp fun i j => decide (j < i))) (qVar 2) (qC (.int 1)))) (sFor (iRg1 (qCallL sp_law_pick 1 (qAddD (qCons (qC (.int 4)) qNil) []))) (gN 5) (sAsg 4 (qCall sp_law_line_behind (qAddD (qCons (qVar 4) (qCons (qCallL sp_law_good_deedC 1 (qAddD (qCons (qC (.str "change")) (qCons (qVar 2) qNil)) [])) qNil)) [])))) sNil))
  (sSeq (sAsg 6 (qCall sp_law_first_changes (qAddD (qCons (qVar 3) (qCons (qVar 4) qNil)) [])))
  (sSeq (sAsgF 7 (fCall sp_firsts_changes (qAddD (qCons (qVar 3) (qCons (qVar 4) qNil)) [])))
  (sSeq (sIf (tNot' (qTest (qCallV sp_law_alike (qAddD (qCons (qVar 7) (qCons (qVar 6) qNil)) [])))) (sRet (qC (.bool false))) sNil)
  (sSeq (sDrop (qMO0 7 gClear))
  (sSeq (sIf (tNot' (qTest (qCall sp_law_alike (qAddD (qCons (qCall sp_firsts_changes (qAddD (qCons (qVar 4) (qCons (qVar 3) qNil)) [])) (qCons (qCall sp_law_first_changes (qAddD (qCons (qVar 4) (qCons (qVar 3) qNil)) [])) qNil)) [])))) (sRet (qC (.bool false))) sNil)
  (sSeq (sIf (tAnd' (qTest (qOp gLt (qVar 2) (qC (.int 9)))) (qTest (qOp (gEq true) (qCall sp_firsts_changes (qAddD (qCons (qVar 3) (qCons (qVar 4) qNil)) [])) (qVar 6)))) (sRet (qC (.bool false))) sNil)
  (sSeq (sIf (qTest (qOp gLt (qVar 2) (qC (.int 2)))) (sRet (qOp (gEq false) (qVar 6) (qF (fLst (qNil))))) sNil)
  (sSeq (sAsgG (qCallL sp_law_good_deedC 1 (qAddD (qCons (qC (.str "change")) (qCons (qVar 2) qNil)) [])) (gT 5 (gsC (gN 8) (gsC (gN 9) (gsC (gN 10) (gsC (gN 5) (gsC (gN 11) gsN)))))))
  (sSeq (sAsg 12 (qCall sp_change (qAddD (qCons (qVar 3) (qCons (qVar 9) (qCons (qVar 10) (qCons (qVar 5) (qCons (qVar 11) qNil))))) [])))
  (sSeq (sAsg 13 (qCall sp_law_half (qAddD (qCons (qVar 12) (qCons (qVar 4) qNil)) [])))
  (sRet (qAnd (qCall sp_law_alike (qAddD (qCons (qCall sp_fewest_changes (qAddD (qCons (qVar 12) (qCons (qVar 4) qNil)) [])) (qCons (qVar 13) qNil)) [])) (qOp (gI (gCmp fun i j => decide (j ≤ i))) (qVar 13) (qOp (gI dSub) (qCall sp_law_half (qAddD (qCons (qVar 3) (qCons (qVar 4) qNil)) [])) (qC (.int 1)))))))))))))))))))))
/-! ### the law of k50 -/
theorem pure_law_50 (ns : List Int) (_ : ns.length ≤ 63) : T_law_50 (endsOf false fun rv _ => rv = .dt (.bool true)) (SV.un :: SV.own false (flow0 ns) :: List.replicate (N_law_50.length - 2) SV.un) := by
  have hf := flOk0 ns
  generalize flow0 ns = fd at hf
  show T_law_50 _ [SV.un, SV.own false fd, SV.un, SV.un, SV.un, SV.un, SV.un, SV.un, SV.un, SV.un, SV.un, SV.un, SV.un, SV.un]
  unfold T_law_50
  refine sSeq_abs fun R hR => ?_
  walk_at "wy"
  refine ⟨fd, 6, rfl, hf, rfl, by omega, by omega, fun m fd2 m0 m1 hf2 => ?_⟩
  walk_at "wy"
  subst hR
  refine cut_seq (fun env => ∃ m fd, 0 ≤ m ∧ m ≤ 10 ∧ FlOk fd ∧ env = [SV.un, SV.own false fd, SV.dat (.int m), SV.un, SV.un, SV.un, SV.un, SV.un, SV.un, SV.un, SV.un, SV.un, SV.un, SV.un]) ?_ fun nx hnx => ?_
  rotate_left
  · walk_at "wy"
    refine ⟨fd2, 8, rfl, hf2, rfl, by omega, by omega, fun d fd3 h0 h1 hf3 => ?_⟩
    walk_at "wy"
    split
    · refine ⟨fd3, 11, rfl, hf3, rfl, by omega, by omega, fun m fd4 m0 m1 hf4 => ?_⟩
      walk_at "wy"
      exact hnx _ ⟨m, fd4, m0, by omega, hf4, rfl⟩
    · exact hnx _ ⟨m, fd3, m0, by omega, hf3, rfl⟩
  clear hf hf2 m0 m1 m fd fd2
  rintro env ⟨m, fd, m0, m1, hf, rfl⟩
  obtain ⟨n, rfl⟩ : ∃ n : Nat, m = n := ⟨m.toNat, by omega⟩
  refine sSeq_abs fun R hR => ?_
  walk_at "wy"
  refine ⟨fd, n, rfl, hf, rfl, m0, by omega, fun ns fd3 hnd hnm hnl hf3 => ?_⟩
  walk_at "wy"
  refine ⟨fd3, _, ns, rfl, hf3, rfl, .inl rfl, by omega, hnm, fun os fd4 hbp hf4 => ?_⟩
  walk_at "wy"
  subst hR
  have hbl := hbp.length_eq
  rw [List.length_map] at hbl
  have hbn : os.length = n := by omega
  have ho : LnOk os := ⟨hbp.nodup_iff.mpr hnd, fun b hb => hnm _ (hbp.mem_iff.mp (List.mem_map_of_mem hb)), by omega⟩
  refine sSeq_abs fun R hR => ?_
  walk_at "wy"
  subst hR
  refine cut_seq (fun env => ∃ (ts : List Bead) (y5 : SV) (fd : List D), os.Perm ts ∧ FlOk fd ∧ env = [SV.un, SV.own false fd, SV.dat (.int n), SV.dat (.tuple (os.map bdD)), SV.dat (.tuple (ts.map bdD)), y5, SV.un, SV.un, SV.un, SV.un, SV.un, SV.un, SV.un, SV.un]) ?_ fun nx hnx => ?_
  rotate_left
  · refine sIf_abs fun X Y hX hY => ?_
    walk_at "wy"
    refine ⟨fd4, 2, rfl, hf4, rfl, by omega, by omega, fun d fd5 d0 d1 hf5 => ?_⟩
    walk_at "wy"
    split
    · subst hX
      walk_at "wy"
      refine ⟨fd5, _, _, rfl, hf5, rfl, .inr rfl, by rw [List.length_map]; omega, okI_bds os, fun ys fd6 hys hf6 => ⟨fd6, rfl, ?_⟩⟩
      obtain ⟨ts, rfl, hts⟩ := perm_of_map hys
      refine ⟨_, rfl, ?_⟩
      exact hnx _ ⟨ts, _, fd6, hts.symm, hf6, rfl⟩
    · subst hY
      walk_at "wy"
      split
      · rename_i h1
        refine ⟨fd5, 4, rfl, hf5, rfl, by omega, by omega, fun q fd6 q0 q1 hf6 => ⟨fd6, rfl, q, rfl, by omega, ?_⟩⟩
        refine pFor_inv (fun i env => ∃ (ts : List Bead) (y5 : SV) (fd : List D), os.Perm ts ∧ FlOk fd ∧ env = [SV.un, SV.own false fd, SV.dat (.int n), SV.dat (.tuple (os.map bdD)), SV.dat (.tuple (ts.map bdD)), y5, SV.un, SV.un, SV.un, SV.un, SV.un, SV.un, SV.un, SV.un]) ⟨os, _, fd6, .refl _, hf6, rfl⟩ ?_ (fun env h => hnx env h)
        rintro i d hd env ⟨ts, y5, fd, hp, hf, rfl⟩ K hK
        obtain ⟨_, rfl⟩ := rgD_get hd
        have tl := hp.length_eq
        have ht := perm_ok hp.symm ho
        walk_at "wy"
        refine ⟨fd, n, rfl, hf, rfl, by omega, by omega, fun i j k l fd2 a1 a2 a3 a4 hf2 => ?_⟩
        unfold changeD
        walk_at "wy"
        refine ⟨rfl, ts, _, _, rfl, .change i j k l a1 a2 a3 (by omega), by omega, ht.nm, ?_⟩
        walk_at "wy"
        exact hK _ ⟨_, _, fd2, hp.trans (changeB_perm a1 a2 a3).symm, hf2, rfl⟩
      · exact hnx _ ⟨os, _, fd5, .refl _, hf5, rfl⟩
  clear hf4 fd4
  rintro env ⟨ts, y5, fd, hp, hf, rfl⟩
  have tl := hp.length_eq
  have ht := perm_ok hp.symm ho
  refine sSeq_abs fun R hR => ?_
  walk_at "wy"
  refine ⟨rfl, os, ts, rfl, ht, hp, by omega, ?_⟩
  walk_at "wy"
  subst hR
  refine sSeq_abs fun R hR => ?_
  walk_at "wy"
  refine ⟨rfl, os, ts, rfl, ht, hp, by omega, ?_⟩
  walk_at "wy"
  subst hR
  refine sSeq_abs fun R hR => ?_
  walk_at "wy"
  refine ⟨rfl, _, rfl, okA_firsts (by omega) 8, ?_⟩
  walk_at "wy"
  try rw [if_neg (by decide)]
  subst hR
  refine sSeq_abs fun R hR => ?_
  walk_at "wy"
  subst hR
  refine sSeq_abs fun R hR => ?_
  walk_at "wy"
  refine ⟨rfl, ts, os, rfl, ho, hp.symm, by omega, rfl, ts, os, rfl, ho, hp.symm, by omega, rfl, _, rfl, okA_firsts (by omega) 8, true, rfl, ?_⟩
  rw [if_neg (by decide)]
  subst hR
  refine cut_seq (fun env => env = [SV.un, SV.own false fd, SV.dat (.int n), SV.dat (.tuple (os.map bdD)), SV.dat (.tuple (ts.map bdD)), y5, SV.dat (.list (firstsL os ts)), SV.own false [], SV.un, SV.un, SV.un, SV.un, SV.un, SV.un]) ?_ fun nx hnx => ?_
  rotate_left
  · walk_at "wy"
    split
    · refine ⟨rfl, os, ts, rfl, ht, hp, by omega, ?_⟩
      show ∃ d, gEq true (.list (firstsL os ts)) (.list (firstsL os ts)) = some d ∧ _
      refine ne_hn (hn_firsts os ts) (hn_firsts os ts) (by omega) (fun _ => ?_) (fun e => absurd rfl e)
      refine ⟨_, rfl, ?_⟩
      rw [if_neg (by decide)]
      exact hnx _ rfl
    · exact hnx _ rfl
  rintro env rfl
  refine sSeq_abs fun R hR => ?_
  walk_at "wy"
  split
  · rw [firsts_none (by omega)]
    exact ⟨Nat.zero_le _, _, rfl, rfl⟩
  subst hR
  refine sSeq_abs fun R hR => ?_
  walk_at "wy"
  refine ⟨fd, n, rfl, hf, rfl, by omega, by omega, fun i j k l fd2 a1 a2 a3 a4 hf2 => ?_⟩
  unfold changeD
  walk_at "wy"
  subst hR
  refine sSeq_abs fun R hR => ?_
  walk_at "wy"
  have hc := changeB_perm (os := os) (i := i) (j := j) (k := k) (l := l) a1 a2 a3
  refine ⟨rfl, os, i, j, k, l, rfl, a1, a2, a3, by omega, by omega, ?_⟩
  walk_at "wy"
  subst hR
  refine sSeq_abs fun R hR => ?_
  walk_at "wy"
  refine ⟨rfl, _, ts, rfl, ht, hc.trans hp, by omega, ?_⟩
  walk_at "wy"
  subst hR
  walk_at "wy"
  have hh := half_change (i := i) (j := j) (k := k) (l := l) ht hp a1 a2 a3 (by omega)
  refine ⟨rfl, _, ts, rfl, ht, hc.trans hp, by omega, rfl, _, rfl, trivial, true, rfl, ?_⟩
  rw [if_pos rfl]
  refine ⟨rfl, os, ts, rfl, ht, hp, by omega, _, rfl, _, rfl, ?_⟩
  show RV.dt (PyData.bool (decide _)) = _
  rw [decide_eq_true hh]

end Sw

set_option maxHeartbeats 0
namespace SwLaw
open PySem PySem.Spec PyProof.Rows L2 Sw
section
variable {P : Program} {w : World} {K : PySem.W.Frag} {mg : Str → Option Value} {base : Heap} {f : Addr} {fd : FuncData}
abbrev M_name_of : List Str := ["bead"]
theorem sc_name_of : FnScope M_name_of ["bead"] (defScope s_name_of) := ⟨rfl, rfl, rfl, by decide +kernel, rfl, by decide +kernel, by decide +kernel⟩
theorem len_name_of : ∀ fl ds Q, sp_name_of fl ds Q → ds.length + (if false = true then 1 else 0) = 1 := by
  intro fl ds Q h
  unfold sp_name_of at h
  grind
theorem ok_name_of (bt : Bt mg) (F : FunD K "name_of" "name_of" (defArgs s_name_of) (defBody s_name_of) (defScope s_name_of) [] [] f fd) : FnOk P w K mg base CX0 1 f fd ["bead"] (spOf ⟨K, P, w⟩ false sp_name_of) :=
  defD_ok false F sc_name_of len_name_of (by decide) fun cdv A outer s H E hr => ⟨T_name_of, (s_cons (s_if (t_cmp (op_eqP hr.units) l_eq (q_ix (qv 0) (q_int)) (q_str) (nomark _)) (s_one (s_ret (q_sl (qv 0) (o_some (q_int)) o_none))) s_nil)
    (s_one (s_ret (qv 0)))), pure_ren rfl pure_name_of⟩
theorem cal_name_of (bt : Bt mg) (hm : mg "name_of" = some (.ref f)) (F : FunD K "name_of" "name_of" (defArgs s_name_of) (defBody s_name_of) (defScope s_name_of) [] [] f fd) : Cal P w K mg base 1 "name_of" false ["bead"] [] sp_name_of := ⟨f, fd, [], [], ok_name_of bt F, hm, F.kp, F.bindsN (ps := ["bead"]) fun _ _ _ _ _ _ us hl => match us, hl with | [_], _ => rfl, .nil, consts_nil⟩
abbrev M_mirrored : List Str := ["bead"]
theorem sc_mirrored : FnScope M_mirrored ["bead"] (defScope s_mirrored) := ⟨rfl, rfl, rfl, by decide +kernel, rfl, by decide +kernel, by decide +kernel⟩
theorem len_mirrored : ∀ fl ds Q, sp_mirrored fl ds Q → ds.length + (if false = true then 1 else 0) = 1 := by
  intro fl ds Q h
  unfold sp_mirrored at h
  grind
theorem ok_mirrored (bt : Bt mg) (F : FunD K "mirrored" "mirrored" (defArgs s_mirrored) (defBody s_mirrored) (defScope s_mirrored) [] [] f fd) : FnOk P w K mg base CX0 1 f fd ["bead"] (spOf ⟨K, P, w⟩ false sp_mirrored) :=
  defD_ok false F sc_mirrored len_mirrored (by decide) fun cdv A outer s H E hr => ⟨T_mirrored, (s_cons (s_if (t_cmp (op_eqP hr.units) l_eq (q_ix (qv 0) (q_int)) (q_str) (nomark _)) (s_one (s_ret (q_sl (qv 0) (o_some (q_int)) o_none))) s_nil)
    (s_one (s_ret (q_op op_addA l_add (q_str) (qv 0))))), pure_ren rfl pure_mirrored⟩
theorem cal_mirrored (bt : Bt mg) (hm : mg "mirrored" = some (.ref f)) (F : FunD K "mirrored" "mirrored" (defArgs s_mirrored) (defBody s_mirrored) (defScope s_mirrored) [] [] f fd) : Cal P w K mg base 1 "mirrored" false ["bead"] [] sp_mirrored := ⟨f, fd, [], [], ok_mirrored bt F, hm, F.kp, F.bindsN (ps := ["bead"]) fun _ _ _ _ _ _ us hl => match us, hl with | [_], _ => rfl, .nil, consts_nil⟩
abbrev M_beads_in : List Str := ["thing", "found", "each"]
theorem sc_beads_in : FnScope M_beads_in ["thing"] (defScope s_beads_in) := ⟨rfl, rfl, rfl, by decide +kernel, rfl, by decide +kernel, by decide +kernel⟩
theorem len_beads_in : ∀ fl ds Q, sp_beads_in fl ds Q → ds.length + (if false = true then 1 else 0) = 1 := by
  intro fl ds Q h
  unfold sp_beads_in at h
  grind
theorem ok_beads_in (bt : Bt mg) (F : FunD K "beads_in" "beads_in" (defArgs s_beads_in) (defBody s_beads_in) (defScope s_beads_in) [] [] f fd) : FnOk P w K mg base CX0 1 f fd ["thing"] (spOf ⟨K, P, w⟩ false sp_beads_in) :=
  defD_ok false F sc_beads_in len_beads_in (by decide) fun cdv A outer s H E hr => ⟨T_beads_in, (s_cons (s_setF (i := 1) sc_beads_in.nd rfl (by first | exact Or.inl rfl | exact Or.inr rfl) (f_lst (qa_nil)))
    (s_cons (s_for PassesOwn.never rfl (i_any (qv 0)) (g_name sc_beads_in.nd rfl (by first | exact Or.inl rfl | exact Or.inr rfl)) (s_one (s_if (t_val (q_isi .tuple (qv 2) (by rfl) (bt "isinstance" (by decide)) (by rfl) (bt "tuple" (by decide)) (by decide +kernel))) (s_one (s_expr (q_moE 1 rfl (qa_cons (q_ix (qv 2) (q_int)) qa_nil)))) (s_one (s_expr (q_mo 1 l_append PySem.F.slot_list_append PySem.F.type_list_append mt_append (qa_cons (qv 2) qa_nil)))))))
    (s_one (s_retS 1)))), pure_ren rfl pure_beads_in⟩
theorem cal_beads_in (bt : Bt mg) (hm : mg "beads_in" = some (.ref f)) (F : FunD K "beads_in" "beads_in" (defArgs s_beads_in) (defBody s_beads_in) (defScope s_beads_in) [] [] f fd) : Cal P w K mg base 1 "beads_in" false ["thing"] [] sp_beads_in := ⟨f, fd, [], [], ok_beads_in bt F, hm, F.kp, F.bindsN (ps := ["thing"]) fun _ _ _ _ _ _ us hl => match us, hl with | [_], _ => rfl, .nil, consts_nil⟩
abbrev M_names_in : List Str := ["thing", "bead"]
theorem sc_names_in : FnScope M_names_in ["thing"] (defScope s_names_in) := ⟨rfl, rfl, rfl, by decide +kernel, rfl, by decide +kernel, by decide +kernel⟩
theorem len_names_in : ∀ fl ds Q, sp_names_in fl ds Q → ds.length + (if false = true then 1 else 0) = 1 := by
  intro fl ds Q h
  unfold sp_names_in at h
  grind
theorem ok_names_in (bt : Bt mg) (c_beads_in : Cal P w K mg base 1 "beads_in" false ["thing"] [] sp_beads_in) (c_name_of : Cal P w K mg base 1 "name_of" false ["bead"] [] sp_name_of) (F : FunD K "names_in" "names_in" (defArgs s_names_in) (defBody s_names_in) (defScope s_names_in) [] [] f fd) : FnOk P w K mg base CX0 2 f fd ["thing"] (spOf ⟨K, P, w⟩ false sp_names_in) :=
  defD_ok false F sc_names_in len_names_in (by decide) fun cdv A outer s H E hr => ⟨T_names_in, (s_one (s_retF (f_callB l_sortD (cr_sortedD hr.units) (by rfl) (bt "sorted" (by decide)) (by decide +kernel) (qa_cons (EF.ev (f_lc (own := [("bead", 1)]) (S := [1]) rfl sc_names_in.nd (blkOk_by (N := M_names_in) (sc := defScope s_names_in) (by decide +kernel)) (i_any (q_cal c_beads_in hr (by first | decide | exact Nat.le_refl _ | (simp only [Nat.add_eq]; omega)) (by rfl) (qa_cons (qv 0) qa_nil))) (fun _ _ _ _ _ => g_name sc_names_in.nd rfl (by first | exact Or.inl rfl | exact Or.inr rfl)) (fun _ _ _ _ _ => ts_nil) (fun _ _ _ _ _ => q_cal c_name_of hr (by first | decide | exact Nat.le_refl _ | (simp only [Nat.add_eq]; omega)) (by rfl) (qa_cons (qv 1) qa_nil)))) qa_nil)))), pure_ren rfl pure_names_in⟩
theorem cal_names_in (bt : Bt mg) (c_beads_in : Cal P w K mg base 1 "beads_in" false ["thing"] [] sp_beads_in) (c_name_of : Cal P w K mg base 1 "name_of" false ["bead"] [] sp_name_of) (hm : mg "names_in" = some (.ref f)) (F : FunD K "names_in" "names_in" (defArgs s_names_in) (defBody s_names_in) (defScope s_names_in) [] [] f fd) : Cal P w K mg base 2 "names_in" false ["thing"] [] sp_names_in := ⟨f, fd, [], [], ok_names_in bt c_beads_in c_name_of F, hm, F.kp, F.bindsN (ps := ["thing"]) fun _ _ _ _ _ _ us hl => match us, hl with | [_], _ => rfl, .nil, consts_nil⟩
abbrev M_look_alike : List Str := ["ours", "theirs", "alone"]
theorem sc_look_alike : FnScope M_look_alike ["ours", "theirs"] (defScope s_look_alike) := ⟨rfl, rfl, rfl, by decide +kernel, rfl, by decide +kernel, by decide +kernel⟩
theorem len_look_alike : ∀ fl ds Q, sp_look_alike fl ds Q → ds.length + (if false = true then 1 else 0) = 2 := by
  intro fl ds Q h
  unfold sp_look_alike at h
  grind
theorem ok_look_alike (bt : Bt mg) (c_names_in : Cal P w K mg base 2 "names_in" false ["thing"] [] sp_names_in) (F : FunD K "look_alike" "look_alike" (defArgs s_look_alike) (defBody s_look_alike) (defScope s_look_alike) [] [] f fd) : FnOk P w K mg base CX0 3 f fd ["ours", "theirs"] (spOf ⟨K, P, w⟩ false sp_look_alike) :=
  defD_ok false F sc_look_alike len_look_alike (by decide) fun cdv A outer s H E hr => ⟨T_look_alike, (s_cons (s_set (i := 2) sc_look_alike.nd rfl (by first | exact Or.inl rfl | exact Or.inr rfl) (EF.ev (f_sortXor hr.units rfl (q_cal c_names_in hr (by first | decide | exact Nat.le_refl _ | (simp only [Nat.add_eq]; omega)) (by rfl) (qa_cons (qv 0) qa_nil)) (q_cal c_names_in hr (by first | decide | exact Nat.le_refl _ | (simp only [Nat.add_eq]; omega)) (by rfl) (qa_cons (qv 1) qa_nil)) (by rfl) (bt "sorted" (by decide)) (by rfl) (bt "set" (by decide)))))
    (s_one (s_if (t_cmp (op_neP hr.units) l_eq (qv 2) (EF.ev (f_lst (qa_nil))) (nomark _)) (s_one (s_raise)) s_nil))), pure_ren rfl pure_look_alike⟩
theorem cal_look_alike (bt : Bt mg) (c_names_in : Cal P w K mg base 2 "names_in" false ["thing"] [] sp_names_in) (hm : mg "look_alike" = some (.ref f)) (F : FunD K "look_alike" "look_alike" (defArgs s_look_alike) (defBody s_look_alike) (defScope s_look_alike) [] [] f fd) : Cal P w K mg base 3 "look_alike" false ["ours", "theirs"] [] sp_look_alike := ⟨f, fd, [], [], ok_look_alike bt c_names_in F, hm, F.kp, F.bindsN (ps := ["ours", "theirs"]) fun _ _ _ _ _ _ us hl => match us, hl with | [_, _], _ => rfl, .nil, consts_nil⟩
abbrev M_numbers_of : List Str := ["ours", "theirs", "places", "k", "bead"]
theorem sc_numbers_of : FnScope M_numbers_of ["ours", "theirs"] (defScope s_numbers_of) := ⟨rfl, rfl, rfl, by decide +kernel, rfl, by decide +kernel, by decide +kernel⟩
theorem len_numbers_of : ∀ fl ds Q, sp_numbers_of fl ds Q → ds.length + (if false = true then 1 else 0) = 2 := by
  intro fl ds Q h
  unfold sp_numbers_of at h
  grind
theorem ok_numbers_of (bt : Bt mg) (c_look_alike : Cal P w K mg base 3 "look_alike" false ["ours", "theirs"] [] sp_look_alike) (c_mirrored : Cal P w K mg base 1 "mirrored" false ["bead"] [] sp_mirrored) (F : FunD K "numbers_of" "numbers_of" (defArgs s_numbers_of) (defBody s_numbers_of) (defScope s_numbers_of) [] [] f fd) : FnOk P w K mg base CX0 4 f fd ["ours", "theirs"] (spOf ⟨K, P, w⟩ false sp_numbers_of) :=
  defD_ok false F sc_numbers_of len_numbers_of (by decide) fun cdv A outer s H E hr => ⟨T_numbers_of, (s_cons (s_expr (q_cal c_look_alike hr (by first | decide | exact Nat.le_refl _ | (simp only [Nat.add_eq]; omega)) (by rfl) (qa_cons (qv 0) (qa_cons (qv 1) qa_nil))))
    (s_cons (s_setDK (i := 2) sc_numbers_of.nd rfl (by first | exact Or.inl rfl | exact Or.inr rfl))
    (s_cons (s_for PassesOwn.never rfl (i_enuT (qv 1) (by rfl) (bt "enumerate" (by decide))) (g_tup rfl (gs_cons (g_name sc_numbers_of.nd rfl (by first | exact Or.inl rfl | exact Or.inr rfl)) (gs_cons (g_name sc_numbers_of.nd rfl (by first | exact Or.inl rfl | exact Or.inr rfl)) gs_nil))) (s_cons (s_putD 2 hr.units (q_op op_addA l_add (qv 3) (q_int)) (qv 4))
    (s_one (s_putD 2 hr.units (q_op op_sub l_sub (q_op op_sub l_sub (q_int) (qv 3)) (q_int)) (q_cal c_mirrored hr (by first | decide | exact Nat.le_refl _ | (simp only [Nat.add_eq]; omega)) (by rfl) (qa_cons (qv 4) qa_nil))))))
    (s_one (s_retF (f_add (q_op op_addA l_add (EF.ev (f_lst (qa_cons (q_int) qa_nil))) (EF.ev (f_lcR (own := [("bead", 4)]) (S := [4]) rfl sc_numbers_of.nd (blkOk_by (N := M_numbers_of) (sc := defScope s_numbers_of) (by decide +kernel)) (i_any (qv 0)) (fun _ _ _ _ _ => g_name sc_numbers_of.nd rfl (by first | exact Or.inl rfl | exact Or.inr rfl)) (fun _ _ _ _ _ => ts_nil) (fun _ _ _ _ _ => q_dget hr.units (qv 2) (qv 4))))) (EF.ev (f_lst (qa_cons (q_op op_addA l_add (q_callB l_len call_len (by rfl) (bt "len" (by decide)) (by decide +kernel) (qa_cons (qv 0) qa_nil)) (q_int)) qa_nil))))))))), pure_ren rfl pure_numbers_of⟩
theorem cal_numbers_of (bt : Bt mg) (c_look_alike : Cal P w K mg base 3 "look_alike" false ["ours", "theirs"] [] sp_look_alike) (c_mirrored : Cal P w K mg base 1 "mirrored" false ["bead"] [] sp_mirrored) (hm : mg "numbers_of" = some (.ref f)) (F : FunD K "numbers_of" "numbers_of" (defArgs s_numbers_of) (defBody s_numbers_of) (defScope s_numbers_of) [] [] f fd) : Cal P w K mg base 4 "numbers_of" false ["ours", "theirs"] [] sp_numbers_of := ⟨f, fd, [], [], ok_numbers_of bt c_look_alike c_mirrored F, hm, F.kp, F.bindsN (ps := ["ours", "theirs"]) fun _ _ _ _ _ _ us hl => match us, hl with | [_, _], _ => rfl, .nil, consts_nil⟩
abbrev M_right_end_2 : List Str := ["number"]
theorem sc_right_end_2 : FnScope M_right_end_2 ["number"] (defScope s_right_end_2) := ⟨rfl, rfl, rfl, by decide +kernel, rfl, by decide +kernel, by decide +kernel⟩
theorem len_right_end_2 : ∀ fl ds Q, sp_right_end_2 fl ds Q → ds.length + (if false = true then 1 else 0) = 1 := by
  intro fl ds Q h
  unfold sp_right_end_2 at h
  grind
theorem ok_right_end_2 (bt : Bt mg) (F : FunD K "right_end" "right_end" (defArgs s_right_end_2) (defBody s_right_end_2) (defScope s_right_end_2) [] [] f fd) : FnOk P w K mg base CX0 1 f fd ["number"] (spOf ⟨K, P, w⟩ false sp_right_end_2) :=
  defD_ok false F sc_right_end_2 len_right_end_2 (by decide) fun cdv A outer s H E hr => ⟨T_right_end_2, (s_one (s_ret (q_tup (qa_cons (q_callB l_abs call_abs (by rfl) (bt "abs" (by decide)) (by decide +kernel) (qa_cons (qv 0) qa_nil)) (qa_cons (q_callTy l_int1 call_int1 (by rfl) (bt "int" (by decide)) (by decide +kernel) (qa_cons (q_cmp op_ge l_cmp (qv 0) (q_int) (nomark _)) qa_nil)) qa_nil))))), pure_ren rfl pure_right_end_2⟩
theorem cal_right_end_2 (bt : Bt mg) (hm : mg "right_end" = some (.ref f)) (F : FunD K "right_end" "right_end" (defArgs s_right_end_2) (defBody s_right_end_2) (defScope s_right_end_2) [] [] f fd) : Cal P w K mg base 1 "right_end" false ["number"] [] sp_right_end_2 := ⟨f, fd, [], [], ok_right_end_2 bt F, hm, F.kp, F.bindsN (ps := ["number"]) fun _ _ _ _ _ _ us hl => match us, hl with | [_], _ => rfl, .nil, consts_nil⟩
abbrev M_left_end_2 : List Str := ["number"]
theorem sc_left_end_2 : FnScope M_left_end_2 ["number"] (defScope s_left_end_2) := ⟨rfl, rfl, rfl, by decide +kernel, rfl, by decide +kernel, by decide +kernel⟩
theorem len_left_end_2 : ∀ fl ds Q, sp_left_end_2 fl ds Q → ds.length + (if false = true then 1 else 0) = 1 := by
  intro fl ds Q h
  unfold sp_left_end_2 at h
  grind
theorem ok_left_end_2 (bt : Bt mg) (F : FunD K "left_end" "left_end" (defArgs s_left_end_2) (defBody s_left_end_2) (defScope s_left_end_2) [] [] f fd) : FnOk P w K mg base CX0 1 f fd ["number"] (spOf ⟨K, P, w⟩ false sp_left_end_2) :=
  defD_ok false F sc_left_end_2 len_left_end_2 (by decide) fun cdv A outer s H E hr => ⟨T_left_end_2, (s_one (s_ret (q_tup (qa_cons (q_callB l_abs call_abs (by rfl) (bt "abs" (by decide)) (by decide +kernel) (qa_cons (qv 0) qa_nil)) (qa_cons (q_callTy l_int1 call_int1 (by rfl) (bt "int" (by decide)) (by decide +kernel) (qa_cons (q_cmp op_ltA l_lt (qv 0) (q_int) (nomark _)) qa_nil)) qa_nil))))), pure_ren rfl pure_left_end_2⟩
theorem cal_left_end_2 (bt : Bt mg) (hm : mg "left_end" = some (.ref f)) (F : FunD K "left_end" "left_end" (defArgs s_left_end_2) (defBody s_left_end_2) (defScope s_left_end_2) [] [] f fd) : Cal P w K mg base 1 "left_end" false ["number"] [] sp_left_end_2 := ⟨f, fd, [], [], ok_left_end_2 bt F, hm, F.kp, F.bindsN (ps := ["number"]) fun _ _ _ _ _ _ us hl => match us, hl with | [_], _ => rfl, .nil, consts_nil⟩
abbrev M_tied_points : List Str := ["numbers", "points", "ties", "k", "x", "one", "other"]
theorem sc_tied_points : FnScope M_tied_points ["numbers"] (defScope s_tied_points) := ⟨rfl, rfl, rfl, by decide +kernel, rfl, by decide +kernel, by decide +kernel⟩
theorem len_tied_points : ∀ fl ds Q, sp_tied_points fl ds Q → ds.length + (if false = true then 1 else 0) = 1 := by
  intro fl ds Q h
  unfold sp_tied_points at h
  grind
theorem ok_tied_points (bt : Bt mg) (c_right_end_2 : Cal P w K mg base 1 "right_end" false ["number"] [] sp_right_end_2) (c_left_end_2 : Cal P w K mg base 1 "left_end" false ["number"] [] sp_left_end_2) (F : FunD K "tied_points" "tied_points" (defArgs s_tied_points) (defBody s_tied_points) (defScope s_tied_points) [] [] f fd) : FnOk P w K mg base CX0 2 f fd ["numbers"] (spOf ⟨K, P, w⟩ false sp_tied_points) :=
  defD_ok false F sc_tied_points len_tied_points (by decide) fun cdv A outer s H E hr => ⟨T_tied_points, (s_cons (s_setDN (i := 1) sc_tied_points.nd rfl (by first | exact Or.inl rfl | exact Or.inr rfl))
    (s_nestA (i := 2) (fun _ _ => by first | exact ⟨fun _ => xok_no rfl, fun _ => xok_no rfl⟩ | exact ⟨fun h => xok_no rfl h.1, fun h => xok_no rfl h.1⟩) sc_tied_points.nd rfl (by first | exact Or.inl rfl | exact Or.inr rfl) (f_lst (qa_nil)) (a_cons (a_for PassesOwn.never rfl (i_rg1 (q_op op_sub l_sub (q_callB l_len call_len (by rfl) (bt "len" (by decide)) (by decide +kernel) (qa_cons (qv 0) qa_nil)) (q_int)) (by rfl) (bt "range" (by decide))) (g_name sc_tied_points.nd rfl (by first | exact Or.inl rfl | exact Or.inr rfl)) (a_cons (a_lift (fun _ _ => by first | exact ⟨fun _ => xok_no rfl, fun _ => xok_no rfl⟩ | exact ⟨fun h => xok_no rfl h.1, fun h => xok_no rfl h.1⟩) (s_putD 1 hr.units (qv 3) (q_cal c_right_end_2 hr (by first | decide | exact Nat.le_refl _ | (simp only [Nat.add_eq]; omega)) (by rfl) (qa_cons (q_ix (qv 0) (qv 3)) qa_nil))))
    (a_cons (a_lift (fun _ _ => by first | exact ⟨fun _ => xok_no rfl, fun _ => xok_no rfl⟩ | exact ⟨fun h => xok_no rfl h.1, fun h => xok_no rfl h.1⟩) (s_putD 1 hr.units (qv 3) (q_cal c_left_end_2 hr (by first | decide | exact Nat.le_refl _ | (simp only [Nat.add_eq]; omega)) (by rfl) (qa_cons (q_ix (qv 0) (q_op op_addA l_add (qv 3) (q_int))) qa_nil))))
    (a_one (a_push 2 (fun _ _ => by first | exact ⟨fun _ => xok_no rfl, fun _ => xok_no rfl⟩ | exact ⟨fun h => xok_no rfl h.1, fun h => xok_no rfl h.1⟩) (f_lst (qa_nil)))))))
    (a_cons (a_for PassesOwn.never rfl (i_rg1 (q_op op_sub l_sub (q_callB l_len call_len (by rfl) (bt "len" (by decide)) (by decide +kernel) (qa_cons (qv 0) qa_nil)) (q_int)) (by rfl) (bt "range" (by decide))) (g_name sc_tied_points.nd rfl (by first | exact Or.inl rfl | exact Or.inr rfl)) (a_cons (a_lift (fun _ _ => by first | exact ⟨fun _ => xok_no rfl, fun _ => xok_no rfl⟩ | exact ⟨fun h => xok_no rfl h.1, fun h => xok_no rfl h.1⟩) (s_set (i := 5) sc_tied_points.nd rfl (by first | exact Or.inl rfl | exact Or.inr rfl) (q_dget hr.units (qv 1) (q_tup (qa_cons (qv 4) (qa_cons (q_int) qa_nil))))))
    (a_cons (a_lift (fun _ _ => by first | exact ⟨fun _ => xok_no rfl, fun _ => xok_no rfl⟩ | exact ⟨fun h => xok_no rfl h.1, fun h => xok_no rfl h.1⟩) (s_set (i := 6) sc_tied_points.nd rfl (by first | exact Or.inl rfl | exact Or.inr rfl) (q_dget hr.units (qv 1) (q_tup (qa_cons (q_op op_addA l_add (qv 4) (q_int)) (qa_cons (q_int) qa_nil))))))
    (a_cons (a_mo 2 (fun _ _ => by first | exact ⟨fun _ => xok_no rfl, fun _ => xok_no rfl⟩ | exact ⟨fun h => xok_no rfl h.1, fun h => xok_no rfl h.1⟩) l_append PySem.F.slot_list_append PySem.F.type_list_append mt_append (qv 5) (qa_cons (qv 6) qa_nil))
    (a_one (a_mo 2 (fun _ _ => by first | exact ⟨fun _ => xok_no rfl, fun _ => xok_no rfl⟩ | exact ⟨fun h => xok_no rfl h.1, fun h => xok_no rfl h.1⟩) l_append PySem.F.slot_list_append PySem.F.type_list_append mt_append (qv 6) (qa_cons (qv 5) qa_nil)))))))
    (a_one (a_ret 2 (fun _ _ => by first | exact ⟨fun _ => xok_no rfl, fun _ => xok_no rfl⟩ | exact ⟨fun h => xok_no rfl h.1, fun h => xok_no rfl h.1⟩))))))), pure_ren rfl pure_tied_points⟩
theorem cal_tied_points (bt : Bt mg) (c_right_end_2 : Cal P w K mg base 1 "right_end" false ["number"] [] sp_right_end_2) (c_left_end_2 : Cal P w K mg base 1 "left_end" false ["number"] [] sp_left_end_2) (hm : mg "tied_points" = some (.ref f)) (F : FunD K "tied_points" "tied_points" (defArgs s_tied_points) (defBody s_tied_points) (defScope s_tied_points) [] [] f fd) : Cal P w K mg base 2 "tied_points" false ["numbers"] [] sp_tied_points := ⟨f, fd, [], [], ok_tied_points bt c_right_end_2 c_left_end_2 F, hm, F.kp, F.bindsN (ps := ["numbers"]) fun _ _ _ _ _ _ us hl => match us, hl with | [_], _ => rfl, .nil, consts_nil⟩
abbrev M_ring_of : List Str := ["ties", "point", "found", "at", "other"]
theorem sc_ring_of : FnScope M_ring_of ["ties", "point"] (defScope s_ring_of) := ⟨rfl, rfl, rfl, by decide +kernel, rfl, by decide +kernel, by decide +kernel⟩
theorem len_ring_of : ∀ fl ds Q, sp_ring_of fl ds Q → ds.length + (if false = true then 1 else 0) = 2 := by
  intro fl ds Q h
  unfold sp_ring_of at h
  grind
theorem ok_ring_of (bt : Bt mg) (F : FunD K "ring_of" "ring_of" (defArgs s_ring_of) (defBody s_ring_of) (defScope s_ring_of) [] [] f fd) : FnOk P w K mg base CX0 1 f fd ["ties", "point"] (spOf ⟨K, P, w⟩ false sp_ring_of) :=
  defD_ok false F sc_ring_of len_ring_of (by decide) fun cdv A outer s H E hr => ⟨T_ring_of, (s_cons (s_setF (i := 2) sc_ring_of.nd rfl (by first | exact Or.inl rfl | exact Or.inr rfl) (f_lst (qa_cons (qv 1) qa_nil)))
    (s_cons (s_set (i := 3) sc_ring_of.nd rfl (by first | exact Or.inl rfl | exact Or.inr rfl) (q_int))
    (s_cons (s_while PassesOwn.never (t_cmp op_ltA l_lt (qv 3) (q_callB l_len call_len (by rfl) (bt "len" (by decide)) (by decide +kernel) (qa_cons (qv 2) qa_nil)) (nomark _)) (s_cons (s_for PassesOwn.never rfl (i_any (q_ix (qv 0) (q_ix (qv 2) (qv 3)))) (g_name sc_ring_of.nd rfl (by first | exact Or.inl rfl | exact Or.inr rfl)) (s_one (s_if (t_cmp (op_ninA hr.units) l_nin (qv 4) (qv 2) (by rfl)) (s_one (s_expr (q_mo 2 l_append PySem.F.slot_list_append PySem.F.type_list_append mt_append (qa_cons (qv 4) qa_nil)))) s_nil)))
    (s_one (s_aug (i := 3) sc_ring_of.nd rfl (by first | exact Or.inl rfl | exact Or.inr rfl) (q_int)))))
    (s_one (s_retF (f_callB l_sortD (cr_sortedD hr.units) (by rfl) (bt "sorted" (by decide)) (by decide +kernel) (qa_cons (qv 2) qa_nil))))))), pure_ren rfl pure_ring_of⟩
theorem cal_ring_of (bt : Bt mg) (hm : mg "ring_of" = some (.ref f)) (F : FunD K "ring_of" "ring_of" (defArgs s_ring_of) (defBody s_ring_of) (defScope s_ring_of) [] [] f fd) : Cal P w K mg base 1 "ring_of" false ["ties", "point"] [] sp_ring_of := ⟨f, fd, [], [], ok_ring_of bt F, hm, F.kp, F.bindsN (ps := ["ties", "point"]) fun _ _ _ _ _ _ us hl => match us, hl with | [_, _], _ => rfl, .nil, consts_nil⟩
abbrev M_point_rings : List Str := ["numbers", "ties", "met", "found", "k", "ring", "point"]
theorem sc_point_rings : FnScope M_point_rings ["numbers"] (defScope s_point_rings) := ⟨rfl, rfl, rfl, by decide +kernel, rfl, by decide +kernel, by decide +kernel⟩
theorem len_point_rings : ∀ fl ds Q, sp_point_rings fl ds Q → ds.length + (if false = true then 1 else 0) = 1 := by
  intro fl ds Q h
  unfold sp_point_rings at h
  grind
theorem ok_point_rings (bt : Bt mg) (c_tied_points : Cal P w K mg base 2 "tied_points" false ["numbers"] [] sp_tied_points) (c_ring_of : Cal P w K mg base 1 "ring_of" false ["ties", "point"] [] sp_ring_of) (F : FunD K "point_rings" "point_rings" (defArgs s_point_rings) (defBody s_point_rings) (defScope s_point_rings) [] [] f fd) : FnOk P w K mg base CX0 3 f fd ["numbers"] (spOf ⟨K, P, w⟩ false sp_point_rings) :=
  defD_ok false F sc_point_rings len_point_rings (by decide) fun cdv A outer s H E hr => ⟨T_point_rings, (s_cons (s_set (i := 1) sc_point_rings.nd rfl (by first | exact Or.inl rfl | exact Or.inr rfl) (q_cal c_tied_points hr (by first | decide | exact Nat.le_refl _ | (simp only [Nat.add_eq]; omega)) (by rfl) (qa_cons (qv 0) qa_nil)))
    (s_cons (s_setDK (i := 2) sc_point_rings.nd rfl (by first | exact Or.inl rfl | exact Or.inr rfl))
    (s_cons (s_setF (i := 3) sc_point_rings.nd rfl (by first | exact Or.inl rfl | exact Or.inr rfl) (f_lst (qa_nil)))
    (s_cons (s_for PassesOwn.never rfl (i_rg1 (q_callB l_len call_len (by rfl) (bt "len" (by decide)) (by decide +kernel) (qa_cons (qv 1) qa_nil)) (by rfl) (bt "range" (by decide))) (g_name sc_point_rings.nd rfl (by first | exact Or.inl rfl | exact Or.inr rfl)) (s_one (s_if (t_dnin hr.units (qv 4) (qv 2)) (s_cons (s_set (i := 5) sc_point_rings.nd rfl (by first | exact Or.inl rfl | exact Or.inr rfl) (q_cal c_ring_of hr (by first | decide | exact Nat.le_refl _ | (simp only [Nat.add_eq]; omega)) (by rfl) (qa_cons (qv 1) (qa_cons (qv 4) qa_nil))))
    (s_cons (s_for PassesOwn.never rfl (i_any (qv 5)) (g_name sc_point_rings.nd rfl (by first | exact Or.inl rfl | exact Or.inr rfl)) (s_one (s_putD 2 hr.units (q_bl) (qv 6))))
    (s_one (s_expr (q_mo 3 l_append PySem.F.slot_list_append PySem.F.type_list_append mt_append (qa_cons (qv 5) qa_nil)))))) s_nil)))
    (s_one (s_retS 3)))))), pure_ren rfl pure_point_rings⟩
theorem cal_point_rings (bt : Bt mg) (c_tied_points : Cal P w K mg base 2 "tied_points" false ["numbers"] [] sp_tied_points) (c_ring_of : Cal P w K mg base 1 "ring_of" false ["ties", "point"] [] sp_ring_of) (hm : mg "point_rings" = some (.ref f)) (F : FunD K "point_rings" "point_rings" (defArgs s_point_rings) (defBody s_point_rings) (defScope s_point_rings) [] [] f fd) : Cal P w K mg base 3 "point_rings" false ["numbers"] [] sp_point_rings := ⟨f, fd, [], [], ok_point_rings bt c_tied_points c_ring_of F, hm, F.kp, F.bindsN (ps := ["numbers"]) fun _ _ _ _ _ _ us hl => match us, hl with | [_], _ => rfl, .nil, consts_nil⟩
abbrev M_change : List Str := ["line", "i", "j", "k", "l"]
theorem sc_change : FnScope M_change ["line", "i", "j", "k", "l"] (defScope s_change) := ⟨rfl, rfl, rfl, by decide +kernel, rfl, by decide +kernel, by decide +kernel⟩
theorem len_change : ∀ fl ds Q, sp_change fl ds Q → ds.length + (if false = true then 1 else 0) = 5 := by
  intro fl ds Q h
  unfold sp_change at h
  grind
theorem ok_change (bt : Bt mg) (F : FunD K "change" "change" (defArgs s_change) (defBody s_change) (defScope s_change) [] [] f fd) : FnOk P w K mg base CX0 1 f fd ["line", "i", "j", "k", "l"] (spOf ⟨K, P, w⟩ false sp_change) :=
  defD_ok false F sc_change len_change (by decide) fun cdv A outer s H E hr => ⟨T_change, (s_cons (s_if (t_not (t_chain (q_int) (ech_more (p := fun i j => decide (i ≤ j)) op_le (qv 1) (ech_more (p := fun i j => decide (i < j)) op_lt (qv 2) (ech_more (p := fun i j => decide (i ≤ j)) op_le (qv 3) (ech_more (p := fun i j => decide (i < j)) op_lt (qv 4) (ech_one (p := fun i j => decide (i ≤ j)) op_le (q_callB l_len call_len (by rfl) (bt "len" (by decide)) (by decide +kernel) (qa_cons (qv 0) qa_nil))))))) (by rfl))) (s_one (s_raise)) s_nil)
    (s_one (s_ret (q_op op_addA l_add (q_op op_addA l_add (q_op op_addA l_add (q_op op_addA l_add (q_sl (qv 0) o_none (o_some (qv 1))) (q_sl (qv 0) (o_some (qv 3)) (o_some (qv 4)))) (q_sl (qv 0) (o_some (qv 2)) (o_some (qv 3)))) (q_sl (qv 0) (o_some (qv 1)) (o_some (qv 2)))) (q_sl (qv 0) (o_some (qv 4)) o_none))))), pure_ren rfl pure_change⟩
theorem cal_change (bt : Bt mg) (hm : mg "change" = some (.ref f)) (F : FunD K "change" "change" (defArgs s_change) (defBody s_change) (defScope s_change) [] [] f fd) : Cal P w K mg base 1 "change" false ["line", "i", "j", "k", "l"] [] sp_change := ⟨f, fd, [], [], ok_change bt F, hm, F.kp, F.bindsN (ps := ["line", "i", "j", "k", "l"]) fun _ _ _ _ _ _ us hl => match us, hl with | [_, _, _, _, _], _ => rfl, .nil, consts_nil⟩
abbrev M_changes_from : List Str := ["line", "size", "found", "i", "j", "k", "l"]
theorem sc_changes_from : FnScope M_changes_from ["line"] (defScope s_changes_from) := ⟨rfl, rfl, rfl, by decide +kernel, rfl, by decide +kernel, by decide +kernel⟩
theorem len_changes_from : ∀ fl ds Q, sp_changes_from fl ds Q → ds.length + (if false = true then 1 else 0) = 1 := by
  intro fl ds Q h
  unfold sp_changes_from at h
  grind
theorem ok_changes_from (bt : Bt mg) (F : FunD K "changes_from" "changes_from" (defArgs s_changes_from) (defBody s_changes_from) (defScope s_changes_from) [] [] f fd) : FnOk P w K mg base CX0 1 f fd ["line"] (spOf ⟨K, P, w⟩ false sp_changes_from) :=
  defD_ok false F sc_changes_from len_changes_from (by decide) fun cdv A outer s H E hr => ⟨T_changes_from, (s_cons (s_set (i := 1) sc_changes_from.nd rfl (by first | exact Or.inl rfl | exact Or.inr rfl) (q_callB l_len call_len (by rfl) (bt "len" (by decide)) (by decide +kernel) (qa_cons (qv 0) qa_nil)))
    (s_cons (s_setF (i := 2) sc_changes_from.nd rfl (by first | exact Or.inl rfl | exact Or.inr rfl) (f_lst (qa_nil)))
    (s_cons (s_for PassesOwn.never rfl (i_rg1 (qv 1) (by rfl) (bt "range" (by decide))) (g_name sc_changes_from.nd rfl (by first | exact Or.inl rfl | exact Or.inr rfl)) (s_one (s_for PassesOwn.never rfl (i_rg2 (q_op op_addA l_add (qv 3) (q_int)) (qv 1) (by rfl) (bt "range" (by decide))) (g_name sc_changes_from.nd rfl (by first | exact Or.inl rfl | exact Or.inr rfl)) (s_one (s_for PassesOwn.never rfl (i_rg2 (qv 4) (qv 1) (by rfl) (bt "range" (by decide))) (g_name sc_changes_from.nd rfl (by first | exact Or.inl rfl | exact Or.inr rfl)) (s_one (s_for PassesOwn.never rfl (i_rg2 (q_op op_addA l_add (qv 5) (q_int)) (q_op op_addA l_add (qv 1) (q_int)) (by rfl) (bt "range" (by decide))) (g_name sc_changes_from.nd rfl (by first | exact Or.inl rfl | exact Or.inr rfl)) (s_one (s_expr (q_mo 2 l_append PySem.F.slot_list_append PySem.F.type_list_append mt_append (qa_cons (q_tup (qa_cons (q_str) (qa_cons (qv 3) (qa_cons (qv 4) (qa_cons (qv 5) (qa_cons (qv 6) qa_nil)))))) qa_nil)))))))))))
    (s_one (s_retS 2))))), pure_ren rfl pure_changes_from⟩
theorem cal_changes_from (bt : Bt mg) (hm : mg "changes_from" = some (.ref f)) (F : FunD K "changes_from" "changes_from" (defArgs s_changes_from) (defBody s_changes_from) (defScope s_changes_from) [] [] f fd) : Cal P w K mg base 1 "changes_from" false ["line"] [] sp_changes_from := ⟨f, fd, [], [], ok_changes_from bt F, hm, F.kp, F.bindsN (ps := ["line"]) fun _ _ _ _ _ _ us hl => match us, hl with | [_], _ => rfl, .nil, consts_nil⟩
abbrev M_changed : List Str := ["numbers", "i", "j", "k", "l", "ahead"]
theorem sc_changed : FnScope M_changed ["numbers", "i", "j", "k", "l"] (defScope s_changed) := ⟨rfl, rfl, rfl, by decide +kernel, rfl, by decide +kernel, by decide +kernel⟩
theorem len_changed : ∀ fl ds Q, sp_changed fl ds Q → ds.length + (if false = true then 1 else 0) = 5 := by
  intro fl ds Q h
  unfold sp_changed at h
  grind
theorem ok_changed (bt : Bt mg) (F : FunD K "changed" "changed" (defArgs s_changed) (defBody s_changed) (defScope s_changed) [] [] f fd) : FnOk P w K mg base CX0 1 f fd ["numbers", "i", "j", "k", "l"] (spOf ⟨K, P, w⟩ false sp_changed) :=
  defD_ok false F sc_changed len_changed (by decide) fun cdv A outer s H E hr => ⟨T_changed, (s_cons (s_set (i := 5) sc_changed.nd rfl (by first | exact Or.inl rfl | exact Or.inr rfl) (q_op op_addA l_add (q_sl (qv 0) o_none (o_some (q_op op_addA l_add (qv 1) (q_int)))) (q_sl (qv 0) (o_some (q_op op_addA l_add (qv 3) (q_int))) (o_some (q_op op_addA l_add (qv 4) (q_int))))))
    (s_one (s_ret (q_op op_addA l_add (q_op op_addA l_add (q_op op_addA l_add (qv 5) (q_sl (qv 0) (o_some (q_op op_addA l_add (qv 2) (q_int))) (o_some (q_op op_addA l_add (qv 3) (q_int))))) (q_sl (qv 0) (o_some (q_op op_addA l_add (qv 1) (q_int))) (o_some (q_op op_addA l_add (qv 2) (q_int))))) (q_sl (qv 0) (o_some (q_op op_addA l_add (qv 4) (q_int))) o_none))))), pure_ren rfl pure_changed⟩
theorem cal_changed (bt : Bt mg) (hm : mg "changed" = some (.ref f)) (F : FunD K "changed" "changed" (defArgs s_changed) (defBody s_changed) (defScope s_changed) [] [] f fd) : Cal P w K mg base 1 "changed" false ["numbers", "i", "j", "k", "l"] [] sp_changed := ⟨f, fd, [], [], ok_changed bt F, hm, F.kp, F.bindsN (ps := ["numbers", "i", "j", "k", "l"]) fun _ _ _ _ _ _ us hl => match us, hl with | [_, _, _, _, _], _ => rfl, .nil, consts_nil⟩
abbrev M_numbers_for_changes : List Str := ["ours", "theirs", "numbers"]
theorem sc_numbers_for_changes : FnScope M_numbers_for_changes ["ours", "theirs"] (defScope s_numbers_for_changes) := ⟨rfl, rfl, rfl, by decide +kernel, rfl, by decide +kernel, by decide +kernel⟩
theorem len_numbers_for_changes : ∀ fl ds Q, sp_numbers_for_changes fl ds Q → ds.length + (if false = true then 1 else 0) = 2 := by
  intro fl ds Q h
  unfold sp_numbers_for_changes at h
  grind
theorem ok_numbers_for_changes (bt : Bt mg) (c_numbers_of : Cal P w K mg base 4 "numbers_of" false ["ours", "theirs"] [] sp_numbers_of) (F : FunD K "numbers_for_changes" "numbers_for_changes" (defArgs s_numbers_for_changes) (defBody s_numbers_for_changes) (defScope s_numbers_for_changes) [] [] f fd) : FnOk P w K mg base CX0 5 f fd ["ours", "theirs"] (spOf ⟨K, P, w⟩ false sp_numbers_for_changes) :=
  defD_ok false F sc_numbers_for_changes len_numbers_for_changes (by decide) fun cdv A outer s H E hr => ⟨T_numbers_for_changes, (s_cons (s_set (i := 2) sc_numbers_for_changes.nd rfl (by first | exact Or.inl rfl | exact Or.inr rfl) (q_cal c_numbers_of hr (by first | decide | exact Nat.le_refl _ | (simp only [Nat.add_eq]; omega)) (by rfl) (qa_cons (qv 0) (qa_cons (qv 1) qa_nil))))
    (s_cons (s_if (t_cmp op_ltA l_lt (q_callB l_bestL (call_minL rfl hr.units) (by rfl) (bt "min" (by decide)) (by decide +kernel) (qa_cons (qv 2) qa_nil)) (q_int) (nomark _)) (s_one (s_raise)) s_nil)
    (s_one (s_ret (qv 2))))), pure_ren rfl pure_numbers_for_changes⟩
theorem cal_numbers_for_changes (bt : Bt mg) (c_numbers_of : Cal P w K mg base 4 "numbers_of" false ["ours", "theirs"] [] sp_numbers_of) (hm : mg "numbers_for_changes" = some (.ref f)) (F : FunD K "numbers_for_changes" "numbers_for_changes" (defArgs s_numbers_for_changes) (defBody s_numbers_for_changes) (defScope s_numbers_for_changes) [] [] f fd) : Cal P w K mg base 5 "numbers_for_changes" false ["ours", "theirs"] [] sp_numbers_for_changes := ⟨f, fd, [], [], ok_numbers_for_changes bt c_numbers_of F, hm, F.kp, F.bindsN (ps := ["ours", "theirs"]) fun _ _ _ _ _ _ us hl => match us, hl with | [_, _], _ => rfl, .nil, consts_nil⟩
abbrev M_half_sum : List Str := ["numbers"]
theorem sc_half_sum : FnScope M_half_sum ["numbers"] (defScope s_half_sum) := ⟨rfl, rfl, rfl, by decide +kernel, rfl, by decide +kernel, by decide +kernel⟩
theorem len_half_sum : ∀ fl ds Q, sp_half_sum fl ds Q → ds.length + (if false = true then 1 else 0) = 1 := by
  intro fl ds Q h
  unfold sp_half_sum at h
  grind
theorem ok_half_sum (bt : Bt mg) (c_point_rings : Cal P w K mg base 3 "point_rings" false ["numbers"] [] sp_point_rings) (F : FunD K "half_sum" "half_sum" (defArgs s_half_sum) (defBody s_half_sum) (defScope s_half_sum) [] [] f fd) : FnOk P w K mg base CX0 4 f fd ["numbers"] (spOf ⟨K, P, w⟩ false sp_half_sum) :=
  defD_ok false F sc_half_sum len_half_sum (by decide) fun cdv A outer s H E hr => ⟨T_half_sum, (s_one (s_ret (q_op op_fdiv l_div (q_op op_sub l_sub (q_op op_sub l_sub (q_callB l_len call_len (by rfl) (bt "len" (by decide)) (by decide +kernel) (qa_cons (qv 0) qa_nil)) (q_int)) (q_callB l_len call_len (by rfl) (bt "len" (by decide)) (by decide +kernel) (qa_cons (q_cal c_point_rings hr (by first | decide | exact Nat.le_refl _ | (simp only [Nat.add_eq]; omega)) (by rfl) (qa_cons (qv 0) qa_nil)) qa_nil))) (q_int)))), pure_ren rfl pure_half_sum⟩
theorem cal_half_sum (bt : Bt mg) (c_point_rings : Cal P w K mg base 3 "point_rings" false ["numbers"] [] sp_point_rings) (hm : mg "half_sum" = some (.ref f)) (F : FunD K "half_sum" "half_sum" (defArgs s_half_sum) (defBody s_half_sum) (defScope s_half_sum) [] [] f fd) : Cal P w K mg base 4 "half_sum" false ["numbers"] [] sp_half_sum := ⟨f, fd, [], [], ok_half_sum bt c_point_rings F, hm, F.kp, F.bindsN (ps := ["numbers"]) fun _ _ _ _ _ _ us hl => match us, hl with | [_], _ => rfl, .nil, consts_nil⟩
abbrev M_fewest_changes : List Str := ["ours", "theirs"]
theorem sc_fewest_changes : FnScope M_fewest_changes ["ours", "theirs"] (defScope s_fewest_changes) := ⟨rfl, rfl, rfl, by decide +kernel, rfl, by decide +kernel, by decide +kernel⟩
theorem len_fewest_changes : ∀ fl ds Q, sp_fewest_changes fl ds Q → ds.length + (if false = true then 1 else 0) = 2 := by
  intro fl ds Q h
  unfold sp_fewest_changes at h
  grind
theorem ok_fewest_changes (bt : Bt mg) (c_half_sum : Cal P w K mg base 4 "half_sum" false ["numbers"] [] sp_half_sum) (c_numbers_for_changes : Cal P w K mg base 5 "numbers_for_changes" false ["ours", "theirs"] [] sp_numbers_for_changes) (F : FunD K "fewest_changes" "fewest_changes" (defArgs s_fewest_changes) (defBody s_fewest_changes) (defScope s_fewest_changes) [] [] f fd) : FnOk P w K mg base CX0 6 f fd ["ours", "theirs"] (spOf ⟨K, P, w⟩ false sp_fewest_changes) :=
  defD_ok false F sc_fewest_changes len_fewest_changes (by decide) fun cdv A outer s H E hr => ⟨T_fewest_changes, (s_one (s_ret (q_cal c_half_sum hr (by first | decide | exact Nat.le_refl _ | (simp only [Nat.add_eq]; omega)) (by rfl) (qa_cons (q_cal c_numbers_for_changes hr (by first | decide | exact Nat.le_refl _ | (simp only [Nat.add_eq]; omega)) (by rfl) (qa_cons (qv 0) (qa_cons (qv 1) qa_nil))) qa_nil)))), pure_ren rfl pure_fewest_changes⟩
theorem cal_fewest_changes (bt : Bt mg) (c_half_sum : Cal P w K mg base 4 "half_sum" false ["numbers"] [] sp_half_sum) (c_numbers_for_changes : Cal P w K mg base 5 "numbers_for_changes" false ["ours", "theirs"] [] sp_numbers_for_changes) (hm : mg "fewest_changes" = some (.ref f)) (F : FunD K "fewest_changes" "fewest_changes" (defArgs s_fewest_changes) (defBody s_fewest_changes) (defScope s_fewest_changes) [] [] f fd) : Cal P w K mg base 6 "fewest_changes" false ["ours", "theirs"] [] sp_fewest_changes := ⟨f, fd, [], [], ok_fewest_changes bt c_half_sum c_numbers_for_changes F, hm, F.kp, F.bindsN (ps := ["ours", "theirs"]) fun _ _ _ _ _ _ us hl => match us, hl with | [_, _], _ => rfl, .nil, consts_nil⟩
abbrev M_firsts_changes : List Str := ["ours", "theirs", "numbers", "due", "found", "deed"]
theorem sc_firsts_changes : FnScope M_firsts_changes ["ours", "theirs"] (defScope s_firsts_changes) := ⟨rfl, rfl, rfl, by decide +kernel, rfl, by decide +kernel, by decide +kernel⟩
theorem len_firsts_changes : ∀ fl ds Q, sp_firsts_changes fl ds Q → ds.length + (if false = true then 1 else 0) = 2 := by
  intro fl ds Q h
  unfold sp_firsts_changes at h
  grind
theorem ok_firsts_changes (bt : Bt mg) (c_numbers_for_changes : Cal P w K mg base 5 "numbers_for_changes" false ["ours", "theirs"] [] sp_numbers_for_changes) (c_half_sum : Cal P w K mg base 4 "half_sum" false ["numbers"] [] sp_half_sum) (c_changes_from : Cal P w K mg base 1 "changes_from" false ["line"] [] sp_changes_from) (c_changed : Cal P w K mg base 1 "changed" false ["numbers", "i", "j", "k", "l"] [] sp_changed) (F : FunD K "firsts_changes" "firsts_changes" (defArgs s_firsts_changes) (defBody s_firsts_changes) (defScope s_firsts_changes) [] [] f fd) : FnOk P w K mg base CX0 6 f fd ["ours", "theirs"] (spOf ⟨K, P, w⟩ false sp_firsts_changes) :=
  defD_ok false F sc_firsts_changes len_firsts_changes (by decide) fun cdv A outer s H E hr => ⟨T_firsts_changes, (s_cons (s_set (i := 2) sc_firsts_changes.nd rfl (by first | exact Or.inl rfl | exact Or.inr rfl) (q_cal c_numbers_for_changes hr (by first | decide | exact Nat.le_refl _ | (simp only [Nat.add_eq]; omega)) (by rfl) (qa_cons (qv 0) (qa_cons (qv 1) qa_nil))))
    (s_cons (s_set (i := 3) sc_firsts_changes.nd rfl (by first | exact Or.inl rfl | exact Or.inr rfl) (q_op op_sub l_sub (q_cal c_half_sum hr (by first | decide | exact Nat.le_refl _ | (simp only [Nat.add_eq]; omega)) (by rfl) (qa_cons (qv 2) qa_nil)) (q_int)))
    (s_cons (s_setF (i := 4) sc_firsts_changes.nd rfl (by first | exact Or.inl rfl | exact Or.inr rfl) (f_lst (qa_nil)))
    (s_cons (s_for PassesOwn.never rfl (i_any (q_cal c_changes_from hr (by first | decide | exact Nat.le_refl _ | (simp only [Nat.add_eq]; omega)) (by rfl) (qa_cons (qv 0) qa_nil))) (g_name sc_firsts_changes.nd rfl (by first | exact Or.inl rfl | exact Or.inr rfl)) (s_one (s_if (t_cmp (op_eqP hr.units) l_eq (q_cal c_half_sum hr (by first | decide | exact Nat.le_refl _ | (simp only [Nat.add_eq]; omega)) (by rfl) (qa_cons (q_cal c_changed hr (by first | decide | exact Nat.le_refl _ | (simp only [Nat.add_eq]; omega)) (by rfl) (qa_cons (qv 2) (qa_cons (q_ix (qv 5) (q_int)) (qa_cons (q_ix (qv 5) (q_int)) (qa_cons (q_ix (qv 5) (q_int)) (qa_cons (q_ix (qv 5) (q_int)) qa_nil)))))) qa_nil)) (qv 3) (nomark _)) (s_one (s_expr (q_mo 4 l_append PySem.F.slot_list_append PySem.F.type_list_append mt_append (qa_cons (qv 5) qa_nil)))) s_nil)))
    (s_one (s_retS 4)))))), pure_ren rfl pure_firsts_changes⟩
theorem cal_firsts_changes (bt : Bt mg) (c_numbers_for_changes : Cal P w K mg base 5 "numbers_for_changes" false ["ours", "theirs"] [] sp_numbers_for_changes) (c_half_sum : Cal P w K mg base 4 "half_sum" false ["numbers"] [] sp_half_sum) (c_changes_from : Cal P w K mg base 1 "changes_from" false ["line"] [] sp_changes_from) (c_changed : Cal P w K mg base 1 "changed" false ["numbers", "i", "j", "k", "l"] [] sp_changed) (hm : mg "firsts_changes" = some (.ref f)) (F : FunD K "firsts_changes" "firsts_changes" (defArgs s_firsts_changes) (defBody s_firsts_changes) (defScope s_firsts_changes) [] [] f fd) : Cal P w K mg base 6 "firsts_changes" false ["ours", "theirs"] [] sp_firsts_changes := ⟨f, fd, [], [], ok_firsts_changes bt c_numbers_for_changes c_half_sum c_changes_from c_changed F, hm, F.kp, F.bindsN (ps := ["ours", "theirs"]) fun _ _ _ _ _ _ us hl => match us, hl with | [_, _], _ => rfl, .nil, consts_nil⟩
abbrev M_law_half : List Str := ["_law_ours", "_law_theirs", "_law_places", "_law_k", "_law_bead", "_law_steps", "_law_stands", "_law_number", "_law_met", "_law_rings", "_law_at"]
theorem sc_law_half : FnScope M_law_half ["_law_ours", "_law_theirs"] (defScope s_law_half) := ⟨rfl, rfl, rfl, by decide +kernel, rfl, by decide +kernel, by decide +kernel⟩
theorem len_law_half : ∀ fl ds Q, sp_law_half fl ds Q → ds.length + (if false = true then 1 else 0) = 2 := by
  intro fl ds Q h
  unfold sp_law_half at h
  grind
theorem ok_law_half (bt : Bt mg) (F : FunD K "_law_half" "_law_half" (defArgs s_law_half) (defBody s_law_half) (defScope s_law_half) [] [] f fd) : FnOk P w K mg base CX0 1 f fd ["_law_ours", "_law_theirs"] (spOf ⟨K, P, w⟩ false sp_law_half) :=
  defD_ok false F sc_law_half len_law_half (by decide) fun cdv A outer s H E hr => ⟨T_law_half, (s_cons (s_setDK (i := 2) sc_law_half.nd rfl (by first | exact Or.inl rfl | exact Or.inr rfl))
    (s_cons (s_for PassesOwn.never rfl (i_enuT (qv 1) (by rfl) (bt "enumerate" (by decide))) (g_tup rfl (gs_cons (g_name sc_law_half.nd rfl (by first | exact Or.inl rfl | exact Or.inr rfl)) (gs_cons (g_name sc_law_half.nd rfl (by first | exact Or.inl rfl | exact Or.inr rfl)) gs_nil))) (s_one (s_putD 2 hr.units (q_op op_addA l_add (qv 3) (q_int)) (qv 4))))
    (s_cons (s_set (i := 5) sc_law_half.nd rfl (by first | exact Or.inl rfl | exact Or.inr rfl) (q_op op_addA l_add (q_op op_addA l_add (EF.ev (f_lst (qa_cons (q_int) qa_nil))) (EF.ev (f_lcR (own := [("_law_bead", 4)]) (S := [4]) rfl sc_law_half.nd (blkOk_by (N := M_law_half) (sc := defScope s_law_half) (by decide +kernel)) (i_any (qv 0)) (fun _ _ _ _ _ => g_name sc_law_half.nd rfl (by first | exact Or.inl rfl | exact Or.inr rfl)) (fun _ _ _ _ _ => ts_nil) (fun _ _ _ _ _ => q_dget hr.units (qv 2) (qv 4))))) (EF.ev (f_lst (qa_cons (q_op op_addA l_add (q_callB l_len call_len (by rfl) (bt "len" (by decide)) (by decide +kernel) (qa_cons (qv 0) qa_nil)) (q_int)) qa_nil)))))
    (s_cons (s_setDK (i := 6) sc_law_half.nd rfl (by first | exact Or.inl rfl | exact Or.inr rfl))
    (s_cons (s_for PassesOwn.never rfl (i_enu (qv 5) (by rfl) (bt "enumerate" (by decide))) (g_tup rfl (gs_cons (g_name sc_law_half.nd rfl (by first | exact Or.inl rfl | exact Or.inr rfl)) (gs_cons (g_name sc_law_half.nd rfl (by first | exact Or.inl rfl | exact Or.inr rfl)) gs_nil))) (s_one (s_putD 6 hr.units (qv 3) (qv 7))))
    (s_cons (s_setDK (i := 8) sc_law_half.nd rfl (by first | exact Or.inl rfl | exact Or.inr rfl))
    (s_cons (s_set (i := 9) sc_law_half.nd rfl (by first | exact Or.inl rfl | exact Or.inr rfl) (q_int))
    (s_cons (s_for PassesOwn.never rfl (i_rg1 (q_op op_sub l_sub (q_callB l_len call_len (by rfl) (bt "len" (by decide)) (by decide +kernel) (qa_cons (qv 5) qa_nil)) (q_int)) (by rfl) (bt "range" (by decide))) (g_name sc_law_half.nd rfl (by first | exact Or.inl rfl | exact Or.inr rfl)) (s_one (s_if (t_dnin hr.units (qv 3) (qv 8)) (s_cons (s_set (i := 9) sc_law_half.nd rfl (by first | exact Or.inl rfl | exact Or.inr rfl) (q_op op_addA l_add (qv 9) (q_int)))
    (s_cons (s_set (i := 10) sc_law_half.nd rfl (by first | exact Or.inl rfl | exact Or.inr rfl) (qv 3))
    (s_one (s_while PassesOwn.never (t_dnin hr.units (qv 10) (qv 8)) (s_cons (s_putD 8 hr.units (q_bl) (qv 10))
    (s_one (s_set (i := 10) sc_law_half.nd rfl (by first | exact Or.inl rfl | exact Or.inr rfl) (q_op op_sub l_sub (q_dget hr.units (qv 6) (q_op op_addA l_add (q_ix (qv 5) (qv 10)) (q_int))) (q_int))))))))) s_nil)))
    (s_one (s_ret (q_op op_fdiv l_div (q_op op_sub l_sub (q_op op_sub l_sub (q_callB l_len call_len (by rfl) (bt "len" (by decide)) (by decide +kernel) (qa_cons (qv 5) qa_nil)) (q_int)) (qv 9)) (q_int)))))))))))), pure_ren rfl pure_law_half⟩
theorem cal_law_half (bt : Bt mg) (hm : mg "_law_half" = some (.ref f)) (F : FunD K "_law_half" "_law_half" (defArgs s_law_half) (defBody s_law_half) (defScope s_law_half) [] [] f fd) : Cal P w K mg base 1 "_law_half" false ["_law_ours", "_law_theirs"] [] sp_law_half := ⟨f, fd, [], [], ok_law_half bt F, hm, F.kp, F.bindsN (ps := ["_law_ours", "_law_theirs"]) fun _ _ _ _ _ _ us hl => match us, hl with | [_, _], _ => rfl, .nil, consts_nil⟩
abbrev M_law_changes : List Str := ["_law_many", "_law_found", "_law_i", "_law_j", "_law_k", "_law_l"]
theorem sc_law_changes : FnScope M_law_changes ["_law_many"] (defScope s_law_changes) := ⟨rfl, rfl, rfl, by decide +kernel, rfl, by decide +kernel, by decide +kernel⟩
theorem len_law_changes : ∀ fl ds Q, sp_law_changes fl ds Q → ds.length + (if false = true then 1 else 0) = 1 := by
  intro fl ds Q h
  unfold sp_law_changes at h
  grind
theorem ok_law_changes (bt : Bt mg) (F : FunD K "_law_changes" "_law_changes" (defArgs s_law_changes) (defBody s_law_changes) (defScope s_law_changes) [] [] f fd) : FnOk P w K mg base CX0 1 f fd ["_law_many"] (spOf ⟨K, P, w⟩ false sp_law_changes) :=
  defD_ok false F sc_law_changes len_law_changes (by decide) fun cdv A outer s H E hr => ⟨T_law_changes, (s_cons (s_setF (i := 1) sc_law_changes.nd rfl (by first | exact Or.inl rfl | exact Or.inr rfl) (f_lst (qa_nil)))
    (s_cons (s_for PassesOwn.never rfl (i_rg1 (qv 0) (by rfl) (bt "range" (by decide))) (g_name sc_law_changes.nd rfl (by first | exact Or.inl rfl | exact Or.inr rfl)) (s_one (s_for PassesOwn.never rfl (i_rg2 (q_op op_addA l_add (qv 2) (q_int)) (qv 0) (by rfl) (bt "range" (by decide))) (g_name sc_law_changes.nd rfl (by first | exact Or.inl rfl | exact Or.inr rfl)) (s_one (s_for PassesOwn.never rfl (i_rg2 (qv 3) (qv 0) (by rfl) (bt "range" (by decide))) (g_name sc_law_changes.nd rfl (by first | exact Or.inl rfl | exact Or.inr rfl)) (s_one (s_expr (q_moE 1 rfl (qa_cons (EF.ev (f_lc (own := [("_law_l", 5)]) (S := [5]) rfl sc_law_changes.nd (blkOk_by (N := M_law_changes) (sc := defScope s_law_changes) (by decide +kernel)) (i_rg2 (q_op op_addA l_add (qv 4) (q_int)) (q_op op_addA l_add (qv 0) (q_int)) (by rfl) (bt "range" (by decide))) (fun _ _ _ _ _ => g_name sc_law_changes.nd rfl (by first | exact Or.inl rfl | exact Or.inr rfl)) (fun _ _ _ _ _ => ts_nil) (fun _ _ _ _ _ => q_tup (qa_cons (q_str) (qa_cons (qv 2) (qa_cons (qv 3) (qa_cons (qv 4) (qa_cons (qv 5) qa_nil)))))))) qa_nil)))))))))
    (s_one (s_retS 1)))), pure_ren rfl pure_law_changes⟩
theorem cal_law_changes (bt : Bt mg) (hm : mg "_law_changes" = some (.ref f)) (F : FunD K "_law_changes" "_law_changes" (defArgs s_law_changes) (defBody s_law_changes) (defScope s_law_changes) [] [] f fd) : Cal P w K mg base 1 "_law_changes" false ["_law_many"] [] sp_law_changes := ⟨f, fd, [], [], ok_law_changes bt F, hm, F.kp, F.bindsN (ps := ["_law_many"]) fun _ _ _ _ _ _ us hl => match us, hl with | [_], _ => rfl, .nil, consts_nil⟩
abbrev M_law_mirrored : List Str := ["_law_bead"]
theorem sc_law_mirrored : FnScope M_law_mirrored ["_law_bead"] (defScope s_law_mirrored) := ⟨rfl, rfl, rfl, by decide +kernel, rfl, by decide +kernel, by decide +kernel⟩
theorem len_law_mirrored : ∀ fl ds Q, sp_law_mirrored fl ds Q → ds.length + (if false = true then 1 else 0) = 1 := by
  intro fl ds Q h
  unfold sp_law_mirrored at h
  grind
theorem ok_law_mirrored (bt : Bt mg) (F : FunD K "_law_mirrored" "_law_mirrored" (defArgs s_law_mirrored) (defBody s_law_mirrored) (defScope s_law_mirrored) [] [] f fd) : FnOk P w K mg base CX0 1 f fd ["_law_bead"] (spOf ⟨K, P, w⟩ false sp_law_mirrored) :=
  defD_ok false F sc_law_mirrored len_law_mirrored (by decide) fun cdv A outer s H E hr => ⟨T_law_mirrored, (s_cons (s_if (t_cmp (op_eqP hr.units) l_eq (q_ix (qv 0) (q_int)) (q_str) (nomark _)) (s_one (s_ret (q_sl (qv 0) (o_some (q_int)) o_none))) s_nil)
    (s_one (s_ret (q_op op_addA l_add (q_str) (qv 0))))), pure_ren rfl pure_law_mirrored⟩
theorem cal_law_mirrored (bt : Bt mg) (hm : mg "_law_mirrored" = some (.ref f)) (F : FunD K "_law_mirrored" "_law_mirrored" (defArgs s_law_mirrored) (defBody s_law_mirrored) (defScope s_law_mirrored) [] [] f fd) : Cal P w K mg base 1 "_law_mirrored" false ["_law_bead"] [] sp_law_mirrored := ⟨f, fd, [], [], ok_law_mirrored bt F, hm, F.kp, F.bindsN (ps := ["_law_bead"]) fun _ _ _ _ _ _ us hl => match us, hl with | [_], _ => rfl, .nil, consts_nil⟩
abbrev M_law_turned_2 : List Str := ["_law_line_here", "_law_i", "_law_j", "_law_bead"]
theorem sc_law_turned_2 : FnScope M_law_turned_2 ["_law_line_here", "_law_i", "_law_j"] (defScope s_law_turned_2) := ⟨rfl, rfl, rfl, by decide +kernel, rfl, by decide +kernel, by decide +kernel⟩
theorem len_law_turned_2 : ∀ fl ds Q, sp_law_turned_2 fl ds Q → ds.length + (if false = true then 1 else 0) = 3 := by
  intro fl ds Q h
  unfold sp_law_turned_2 at h
  grind
theorem ok_law_turned_2 (bt : Bt mg) (c_law_mirrored : Cal P w K mg base 1 "_law_mirrored" false ["_law_bead"] [] sp_law_mirrored) (F : FunD K "_law_turned" "_law_turned" (defArgs s_law_turned_2) (defBody s_law_turned_2) (defScope s_law_turned_2) [] [] f fd) : FnOk P w K mg base CX0 2 f fd ["_law_line_here", "_law_i", "_law_j"] (spOf ⟨K, P, w⟩ false sp_law_turned_2) :=
  defD_ok false F sc_law_turned_2 len_law_turned_2 (by decide) fun cdv A outer s H E hr => ⟨T_law_turned_2, (s_one (s_ret (q_op op_addA l_add (q_op op_addA l_add (q_sl (qv 0) o_none (o_some (qv 1))) (q_callTy l_tuple call_tuple_of (by rfl) (bt "tuple" (by decide)) (by decide +kernel) (qa_cons (EF.ev (f_lc (own := [("_law_bead", 3)]) (S := [3]) rfl sc_law_turned_2.nd (blkOk_by (N := M_law_turned_2) (sc := defScope s_law_turned_2) (by decide +kernel)) (i_any (q_rev (q_sl (qv 0) (o_some (qv 1)) (o_some (qv 2))))) (fun _ _ _ _ _ => g_name sc_law_turned_2.nd rfl (by first | exact Or.inl rfl | exact Or.inr rfl)) (fun _ _ _ _ _ => ts_nil) (fun _ _ _ _ _ => q_cal c_law_mirrored hr (by first | decide | exact Nat.le_refl _ | (simp only [Nat.add_eq]; omega)) (by rfl) (qa_cons (qv 3) qa_nil)))) qa_nil))) (q_sl (qv 0) (o_some (qv 2)) o_none)))), pure_ren rfl pure_law_turned_2⟩
theorem cal_law_turned_2 (bt : Bt mg) (c_law_mirrored : Cal P w K mg base 1 "_law_mirrored" false ["_law_bead"] [] sp_law_mirrored) (hm : mg "_law_turned" = some (.ref f)) (F : FunD K "_law_turned" "_law_turned" (defArgs s_law_turned_2) (defBody s_law_turned_2) (defScope s_law_turned_2) [] [] f fd) : Cal P w K mg base 2 "_law_turned" false ["_law_line_here", "_law_i", "_law_j"] [] sp_law_turned_2 := ⟨f, fd, [], [], ok_law_turned_2 bt c_law_mirrored F, hm, F.kp, F.bindsN (ps := ["_law_line_here", "_law_i", "_law_j"]) fun _ _ _ _ _ _ us hl => match us, hl with | [_, _, _], _ => rfl, .nil, consts_nil⟩
abbrev M_law_changed : List Str := ["_law_line_here", "_law_i", "_law_j", "_law_k", "_law_l", "_law_ahead"]
theorem sc_law_changed : FnScope M_law_changed ["_law_line_here", "_law_i", "_law_j", "_law_k", "_law_l"] (defScope s_law_changed) := ⟨rfl, rfl, rfl, by decide +kernel, rfl, by decide +kernel, by decide +kernel⟩
theorem len_law_changed : ∀ fl ds Q, sp_law_changed fl ds Q → ds.length + (if false = true then 1 else 0) = 5 := by
  intro fl ds Q h
  unfold sp_law_changed at h
  grind
theorem ok_law_changed (bt : Bt mg) (F : FunD K "_law_changed" "_law_changed" (defArgs s_law_changed) (defBody s_law_changed) (defScope s_law_changed) [] [] f fd) : FnOk P w K mg base CX0 1 f fd ["_law_line_here", "_law_i", "_law_j", "_law_k", "_law_l"] (spOf ⟨K, P, w⟩ false sp_law_changed) :=
  defD_ok false F sc_law_changed len_law_changed (by decide) fun cdv A outer s H E hr => ⟨T_law_changed, (s_cons (s_set (i := 5) sc_law_changed.nd rfl (by first | exact Or.inl rfl | exact Or.inr rfl) (q_op op_addA l_add (q_sl (qv 0) o_none (o_some (qv 1))) (q_sl (qv 0) (o_some (qv 3)) (o_some (qv 4)))))
    (s_one (s_ret (q_op op_addA l_add (q_op op_addA l_add (q_op op_addA l_add (qv 5) (q_sl (qv 0) (o_some (qv 2)) (o_some (qv 3)))) (q_sl (qv 0) (o_some (qv 1)) (o_some (qv 2)))) (q_sl (qv 0) (o_some (qv 4)) o_none))))), pure_ren rfl pure_law_changed⟩
theorem cal_law_changed (bt : Bt mg) (hm : mg "_law_changed" = some (.ref f)) (F : FunD K "_law_changed" "_law_changed" (defArgs s_law_changed) (defBody s_law_changed) (defScope s_law_changed) [] [] f fd) : Cal P w K mg base 1 "_law_changed" false ["_law_line_here", "_law_i", "_law_j", "_law_k", "_law_l"] [] sp_law_changed := ⟨f, fd, [], [], ok_law_changed bt F, hm, F.kp, F.bindsN (ps := ["_law_line_here", "_law_i", "_law_j", "_law_k", "_law_l"]) fun _ _ _ _ _ _ us hl => match us, hl with | [_, _, _, _, _], _ => rfl, .nil, consts_nil⟩
abbrev M_law_line_behind : List Str := ["_law_line_here", "_law_deed"]
theorem sc_law_line_behind : FnScope M_law_line_behind ["_law_line_here", "_law_deed"] (defScope s_law_line_behind) := ⟨rfl, rfl, rfl, by decide +kernel, rfl, by decide +kernel, by decide +kernel⟩
theorem len_law_line_behind : ∀ fl ds Q, sp_law_line_behind fl ds Q → ds.length + (if false = true then 1 else 0) = 2 := by
  intro fl ds Q h
  unfold sp_law_line_behind at h
  grind
theorem ok_law_line_behind (bt : Bt mg) (c_law_turned_2 : Cal P w K mg base 2 "_law_turned" false ["_law_line_here", "_law_i", "_law_j"] [] sp_law_turned_2) (c_law_changed : Cal P w K mg base 1 "_law_changed" false ["_law_line_here", "_law_i", "_law_j", "_law_k", "_law_l"] [] sp_law_changed) (F : FunD K "_law_line_behind" "_law_line_behind" (defArgs s_law_line_behind) (defBody s_law_line_behind) (defScope s_law_line_behind) [] [] f fd) : FnOk P w K mg base CX0 3 f fd ["_law_line_here", "_law_deed"] (spOf ⟨K, P, w⟩ false sp_law_line_behind) :=
  defD_ok false F sc_law_line_behind len_law_line_behind (by decide) fun cdv A outer s H E hr => ⟨T_law_line_behind, (s_cons (s_if (t_cmp (op_eqP hr.units) l_eq (q_ix (qv 1) (q_int)) (q_str) (nomark _)) (s_one (s_ret (q_cal c_law_turned_2 hr (by first | decide | exact Nat.le_refl _ | (simp only [Nat.add_eq]; omega)) (by rfl) (qa_cons (qv 0) (qa_cons (q_ix (qv 1) (q_int)) (qa_cons (q_ix (qv 1) (q_int)) qa_nil)))))) s_nil)
    (s_one (s_ret (q_cal c_law_changed hr (by first | decide | exact Nat.le_refl _ | (simp only [Nat.add_eq]; omega)) (by rfl) (qa_cons (qv 0) (qa_cons (q_ix (qv 1) (q_int)) (qa_cons (q_ix (qv 1) (q_int)) (qa_cons (q_ix (qv 1) (q_int)) (qa_cons (q_ix (qv 1) (q_int)) qa_nil))))))))), pure_ren rfl pure_law_line_behind⟩
theorem cal_law_line_behind (bt : Bt mg) (c_law_turned_2 : Cal P w K mg base 2 "_law_turned" false ["_law_line_here", "_law_i", "_law_j"] [] sp_law_turned_2) (c_law_changed : Cal P w K mg base 1 "_law_changed" false ["_law_line_here", "_law_i", "_law_j", "_law_k", "_law_l"] [] sp_law_changed) (hm : mg "_law_line_behind" = some (.ref f)) (F : FunD K "_law_line_behind" "_law_line_behind" (defArgs s_law_line_behind) (defBody s_law_line_behind) (defScope s_law_line_behind) [] [] f fd) : Cal P w K mg base 3 "_law_line_behind" false ["_law_line_here", "_law_deed"] [] sp_law_line_behind := ⟨f, fd, [], [], ok_law_line_behind bt c_law_turned_2 c_law_changed F, hm, F.kp, F.bindsN (ps := ["_law_line_here", "_law_deed"]) fun _ _ _ _ _ _ us hl => match us, hl with | [_, _], _ => rfl, .nil, consts_nil⟩
abbrev M_law_pick : List Str := ["_law_flow_here", "_law_many", "_law_cell", "_law_digit"]
theorem sc_law_pick : FnScope M_law_pick ["_law_flow_here", "_law_many"] (defScope s_law_pick) := ⟨rfl, rfl, rfl, by decide +kernel, rfl, by decide +kernel, by decide +kernel⟩
theorem len_law_pick : ∀ fl ds Q, sp_law_pick fl ds Q → ds.length + (if true = true then 1 else 0) = 2 := by
  intro fl ds Q h
  unfold sp_law_pick at h
  grind
theorem ok_law_pick (bt : Bt mg) (F : FunD K "_law_pick" "_law_pick" (defArgs s_law_pick) (defBody s_law_pick) (defScope s_law_pick) [] [] f fd) : FnOk P w K mg base CX0 1 f fd ["_law_flow_here", "_law_many"] (spOf ⟨K, P, w⟩ true sp_law_pick) :=
  defD_ok true F sc_law_pick len_law_pick (by decide) fun cdv A outer s H E hr => ⟨T_law_pick, (s_cons (s_if (EW.et (w_and (t_cmp (op_eqP hr.units) l_eq (q_ix (qv 0) (q_int)) (q_int) (nomark _)) (w_and1 (t_cmp op_ltA l_lt (q_ix (qv 0) (q_int)) (q_callB l_len call_len (by rfl) (bt "len" (by decide)) (by decide +kernel) (qa_cons (q_ix (qv 0) (q_int)) qa_nil)) (nomark _))))) (s_cons (s_set (i := 2) sc_law_pick.nd rfl (by first | exact Or.inl rfl | exact Or.inr rfl) (q_ix (q_ix (qv 0) (q_int)) (q_ix (qv 0) (q_int))))
    (s_cons (s_setIx 0 (q_op op_addA l_add (q_ix (qv 0) (q_int)) (q_int)) (q_int))
    (s_one (s_if (t_cmp op_ge l_cmp (qv 2) (q_op op_pow l_pow (q_int) (q_int)) (nomark _)) (s_one (s_setIx 0 (qv 2) (q_int))) (s_one (s_setIx 0 (q_op op_mod l_mod (q_op op_addA l_add (q_op op_addA l_add (q_op op_mulA l_mul (q_ix (qv 0) (q_int)) (q_int)) (q_op op_mod l_mod (qv 2) (q_int))) (q_int)) (q_int)) (q_int))))))) s_nil)
    (s_cons (s_if (t_cmp op_gt l_cmp (q_ix (qv 0) (q_int)) (q_int) (nomark _)) (s_cons (s_set (i := 3) sc_law_pick.nd rfl (by first | exact Or.inl rfl | exact Or.inr rfl) (q_op op_mod l_mod (q_ix (qv 0) (q_int)) (qv 1)))
    (s_cons (s_setIx 0 (q_op op_fdiv l_div (q_ix (qv 0) (q_int)) (qv 1)) (q_int))
    (s_one (s_ret (qv 3))))) s_nil)
    (s_cons (s_setIx 0 (q_op op_addA l_add (q_ix (qv 0) (q_int)) (q_int)) (q_int))
    (s_cons (s_setIx 0 (q_op op_mod l_mod (q_op op_addA l_add (q_op op_addA l_add (q_op op_mulA l_mul (q_ix (qv 0) (q_int)) (q_int)) (q_int)) (q_ix (qv 0) (q_int))) (q_int)) (q_int))
    (s_one (s_ret (q_op op_mod l_mod (q_op op_fdiv l_div (q_op op_mod l_mod (q_op op_mulA l_mul (q_op op_addA l_add (q_op op_mod l_mod (q_ix (qv 0) (q_int)) (q_int)) (q_int)) (q_op op_addA l_add (q_op op_fdiv l_div (q_ix (qv 0) (q_int)) (q_int)) (q_int))) (q_int)) (q_int)) (qv 1)))))))), pure_ren rfl pure_law_pick⟩
theorem cal_law_pick (bt : Bt mg) (hm : mg "_law_pick" = some (.ref f)) (F : FunD K "_law_pick" "_law_pick" (defArgs s_law_pick) (defBody s_law_pick) (defScope s_law_pick) [] [] f fd) : Cal P w K mg base 1 "_law_pick" true ["_law_flow_here", "_law_many"] [] sp_law_pick := ⟨f, fd, [], [], ok_law_pick bt F, hm, F.kp, F.bindsN (ps := ["_law_flow_here", "_law_many"]) fun _ _ _ _ _ _ us hl => match us, hl with | [_, _], _ => rfl, .nil, consts_nil⟩
abbrev M_law_shuffled : List Str := ["_law_flow_here", "_law_things", "_law_left", "_law_told"]
theorem sc_law_shuffled : FnScope M_law_shuffled ["_law_flow_here", "_law_things"] (defScope s_law_shuffled) := ⟨rfl, rfl, rfl, by decide +kernel, rfl, by decide +kernel, by decide +kernel⟩
theorem len_law_shuffled : ∀ fl ds Q, sp_law_shuffled fl ds Q → ds.length + (if true = true then 1 else 0) = 2 := by
  intro fl ds Q h
  unfold sp_law_shuffled at h
  grind
theorem ok_law_shuffled (bt : Bt mg) (c_law_pick : Cal P w K mg base 1 "_law_pick" true ["_law_flow_here", "_law_many"] [] sp_law_pick) (F : FunD K "_law_shuffled" "_law_shuffled" (defArgs s_law_shuffled) (defBody s_law_shuffled) (defScope s_law_shuffled) [] [] f fd) : FnOk P w K mg base CX0 2 f fd ["_law_flow_here", "_law_things"] (spOf ⟨K, P, w⟩ true sp_law_shuffled) :=
  defD_ok true F sc_law_shuffled len_law_shuffled (by decide) fun cdv A outer s H E hr => ⟨T_law_shuffled, (s_cons (s_setF (i := 2) sc_law_shuffled.nd rfl (by first | exact Or.inl rfl | exact Or.inr rfl) (f_callTy l_listF call_list_of (by rfl) (bt "list" (by decide)) (by decide +kernel) (qa_cons (qv 1) qa_nil)))
    (s_cons (s_setF (i := 3) sc_law_shuffled.nd rfl (by first | exact Or.inl rfl | exact Or.inr rfl) (f_lst (qa_nil)))
    (s_cons (s_while PassesOwn.never (t_cmp (op_neP hr.units) l_eq (qv 2) (EF.ev (f_lst (qa_nil))) (nomark _)) (s_one (s_expr (q_mo 3 l_append PySem.F.slot_list_append PySem.F.type_list_append mt_append (qa_cons (q_mo 2 l_popAt PySem.F.slot_list_pop PySem.F.type_list_pop mt_popAt (qa_cons (q_calL 0 c_law_pick hr (by first | decide | exact Nat.le_refl _ | (simp only [Nat.add_eq]; omega)) (by rfl) (qa_cons (q_callB l_len call_len (by rfl) (bt "len" (by decide)) (by decide +kernel) (qa_cons (qv 2) qa_nil)) qa_nil)) qa_nil)) qa_nil)))))
    (s_one (s_retS 3))))), pure_ren rfl pure_law_shuffled⟩
theorem cal_law_shuffled (bt : Bt mg) (c_law_pick : Cal P w K mg base 1 "_law_pick" true ["_law_flow_here", "_law_many"] [] sp_law_pick) (hm : mg "_law_shuffled" = some (.ref f)) (F : FunD K "_law_shuffled" "_law_shuffled" (defArgs s_law_shuffled) (defBody s_law_shuffled) (defScope s_law_shuffled) [] [] f fd) : Cal P w K mg base 2 "_law_shuffled" true ["_law_flow_here", "_law_things"] [] sp_law_shuffled := ⟨f, fd, [], [], ok_law_shuffled bt c_law_pick F, hm, F.kp, F.bindsN (ps := ["_law_flow_here", "_law_things"]) fun _ _ _ _ _ _ us hl => match us, hl with | [_, _], _ => rfl, .nil, consts_nil⟩
abbrev M_law_line : List Str := ["_law_flow_here", "_law_names_here", "_law_name_here"]
theorem sc_law_line : FnScope M_law_line ["_law_flow_here", "_law_names_here"] (defScope s_law_line) := ⟨rfl, rfl, rfl, by decide +kernel, rfl, by decide +kernel, by decide +kernel⟩
theorem len_law_line : ∀ fl ds Q, sp_law_line fl ds Q → ds.length + (if true = true then 1 else 0) = 2 := by
  intro fl ds Q h
  unfold sp_law_line at h
  grind
theorem ok_law_line (bt : Bt mg) (c_law_shuffled : Cal P w K mg base 2 "_law_shuffled" true ["_law_flow_here", "_law_things"] [] sp_law_shuffled) (c_law_pick : Cal P w K mg base 1 "_law_pick" true ["_law_flow_here", "_law_many"] [] sp_law_pick) (F : FunD K "_law_line" "_law_line" (defArgs s_law_line) (defBody s_law_line) (defScope s_law_line) [] [] f fd) : FnOk P w K mg base CX0 3 f fd ["_law_flow_here", "_law_names_here"] (spOf ⟨K, P, w⟩ true sp_law_line) :=
  defD_ok true F sc_law_line len_law_line (by decide) fun cdv A outer s H E hr => ⟨T_law_line, (s_one (s_ret (q_callTy l_tuple call_tuple_of (by rfl) (bt "tuple" (by decide)) (by decide +kernel) (qa_cons (EF.ev (f_lc (own := [("_law_name_here", 2)]) (S := [2]) rfl sc_law_line.nd (blkOk_by (N := M_law_line) (sc := defScope s_law_line) (by decide +kernel)) (i_any (q_calL 0 c_law_shuffled hr (by first | decide | exact Nat.le_refl _ | (simp only [Nat.add_eq]; omega)) (by rfl) (qa_cons (qv 1) qa_nil))) (fun _ _ _ _ _ => g_name sc_law_line.nd rfl (by first | exact Or.inl rfl | exact Or.inr rfl)) (fun _ _ _ _ _ => ts_nil) (fun _ _ _ _ _ => q_op op_addA l_add (q_op op_mulA l_mul (q_str) (q_calL 0 c_law_pick hr (by first | decide | exact Nat.le_refl _ | (simp only [Nat.add_eq]; omega)) (by rfl) (qa_cons (q_int) qa_nil))) (qv 2)))) qa_nil)))), pure_ren rfl pure_law_line⟩
theorem cal_law_line (bt : Bt mg) (c_law_shuffled : Cal P w K mg base 2 "_law_shuffled" true ["_law_flow_here", "_law_things"] [] sp_law_shuffled) (c_law_pick : Cal P w K mg base 1 "_law_pick" true ["_law_flow_here", "_law_many"] [] sp_law_pick) (hm : mg "_law_line" = some (.ref f)) (F : FunD K "_law_line" "_law_line" (defArgs s_law_line) (defBody s_law_line) (defScope s_law_line) [] [] f fd) : Cal P w K mg base 3 "_law_line" true ["_law_flow_here", "_law_names_here"] [] sp_law_line := ⟨f, fd, [], [], ok_law_line bt c_law_shuffled c_law_pick F, hm, F.kp, F.bindsN (ps := ["_law_flow_here", "_law_names_here"]) fun _ _ _ _ _ _ us hl => match us, hl with | [_, _], _ => rfl, .nil, consts_nil⟩
abbrev M_law_letters : List Str := ["_law_flow_here", "_law_many", "_law_k"]
theorem sc_law_letters : FnScope M_law_letters ["_law_flow_here", "_law_many"] (defScope s_law_letters) := ⟨rfl, rfl, rfl, by decide +kernel, rfl, by decide +kernel, by decide +kernel⟩
theorem len_law_letters : ∀ fl ds Q, sp_law_letters fl ds Q → ds.length + (if true = true then 1 else 0) = 2 := by
  intro fl ds Q h
  unfold sp_law_letters at h
  grind
theorem ok_law_letters (bt : Bt mg) (c_law_pick : Cal P w K mg base 1 "_law_pick" true ["_law_flow_here", "_law_many"] [] sp_law_pick) (F : FunD K "_law_letters" "_law_letters" (defArgs s_law_letters) (defBody s_law_letters) (defScope s_law_letters) [] [] f fd) : FnOk P w K mg base CX0 2 f fd ["_law_flow_here", "_law_many"] (spOf ⟨K, P, w⟩ true sp_law_letters) :=
  defD_ok true F sc_law_letters len_law_letters (by decide) fun cdv A outer s H E hr => ⟨T_law_letters, (s_one (s_ret (q_join (q_str) (EF.ev (f_lc (own := [("_law_k", 2)]) (S := [2]) rfl sc_law_letters.nd (blkOk_by (N := M_law_letters) (sc := defScope s_law_letters) (by decide +kernel)) (i_rg1 (qv 1) (by rfl) (bt "range" (by decide))) (fun _ _ _ _ _ => g_name sc_law_letters.nd rfl (by first | exact Or.inl rfl | exact Or.inr rfl)) (fun _ _ _ _ _ => ts_nil) (fun _ _ _ _ _ => q_ix (q_str) (q_calL 0 c_law_pick hr (by first | decide | exact Nat.le_refl _ | (simp only [Nat.add_eq]; omega)) (by rfl) (qa_cons (q_int) qa_nil)))))))), pure_ren rfl pure_law_letters⟩
theorem cal_law_letters (bt : Bt mg) (c_law_pick : Cal P w K mg base 1 "_law_pick" true ["_law_flow_here", "_law_many"] [] sp_law_pick) (hm : mg "_law_letters" = some (.ref f)) (F : FunD K "_law_letters" "_law_letters" (defArgs s_law_letters) (defBody s_law_letters) (defScope s_law_letters) [] [] f fd) : Cal P w K mg base 2 "_law_letters" true ["_law_flow_here", "_law_many"] [] sp_law_letters := ⟨f, fd, [], [], ok_law_letters bt c_law_pick F, hm, F.kp, F.bindsN (ps := ["_law_flow_here", "_law_many"]) fun _ _ _ _ _ _ us hl => match us, hl with | [_, _], _ => rfl, .nil, consts_nil⟩
abbrev M_law_name : List Str := ["_law_flow_here", "_law_stem", "_law_words"]
theorem sc_law_name : FnScope M_law_name ["_law_flow_here", "_law_stem"] (defScope s_law_name) := ⟨rfl, rfl, rfl, by decide +kernel, rfl, by decide +kernel, by decide +kernel⟩
theorem len_law_name : ∀ fl ds Q, sp_law_name fl ds Q → ds.length + (if true = true then 1 else 0) = 2 := by
  intro fl ds Q h
  unfold sp_law_name at h
  grind
theorem ok_law_name (bt : Bt mg) (c_law_letters : Cal P w K mg base 2 "_law_letters" true ["_law_flow_here", "_law_many"] [] sp_law_letters) (c_law_pick : Cal P w K mg base 1 "_law_pick" true ["_law_flow_here", "_law_many"] [] sp_law_pick) (F : FunD K "_law_name" "_law_name" (defArgs s_law_name) (defBody s_law_name) (defScope s_law_name) [] [] f fd) : FnOk P w K mg base CX0 3 f fd ["_law_flow_here", "_law_stem"] (spOf ⟨K, P, w⟩ true sp_law_name) :=
  defD_ok true F sc_law_name len_law_name (by decide) fun cdv A outer s H E hr => ⟨T_law_name, (s_cons (s_if (t_cmp (op_neP hr.units) l_eq (qv 1) (q_str) (nomark _)) (s_one (s_ret (q_op op_addA l_add (qv 1) (q_calL 0 c_law_letters hr (by first | decide | exact Nat.le_refl _ | (simp only [Nat.add_eq]; omega)) (by rfl) (qa_cons (q_op op_addA l_add (q_int) (q_calL 0 c_law_pick hr (by first | decide | exact Nat.le_refl _ | (simp only [Nat.add_eq]; omega)) (by rfl) (qa_cons (q_int) qa_nil))) qa_nil))))) s_nil)
    (s_cons (s_if (t_cmp (op_eqP hr.units) l_eq (q_calL 0 c_law_pick hr (by first | decide | exact Nat.le_refl _ | (simp only [Nat.add_eq]; omega)) (by rfl) (qa_cons (q_int) qa_nil)) (q_int) (nomark _)) (s_cons (s_set (i := 2) sc_law_name.nd rfl (by first | exact Or.inl rfl | exact Or.inr rfl) (EF.ev (f_lst (qa_cons (q_str) (qa_cons (q_str) (qa_cons (q_str) (qa_cons (q_str) (qa_cons (q_str) (qa_cons (q_str) (qa_cons (q_str) (qa_cons (q_str) (qa_cons (q_str) (qa_cons (q_str) (qa_cons (q_str) (qa_cons (q_str) qa_nil)))))))))))))))
    (s_cons (s_set (i := 2) sc_law_name.nd rfl (by first | exact Or.inl rfl | exact Or.inr rfl) (q_op op_addA l_add (qv 2) (EF.ev (f_lst (qa_cons (q_str) (qa_cons (q_str) (qa_cons (q_str) (qa_cons (q_str) (qa_cons (q_str) (qa_cons (q_str) (qa_cons (q_str) (qa_cons (q_str) (qa_cons (q_str) (qa_cons (q_str) (qa_cons (q_str) qa_nil)))))))))))))))
    (s_one (s_ret (q_ix (qv 2) (q_calL 0 c_law_pick hr (by first | decide | exact Nat.le_refl _ | (simp only [Nat.add_eq]; omega)) (by rfl) (qa_cons (q_int) qa_nil))))))) s_nil)
    (s_one (s_ret (q_calL 0 c_law_letters hr (by first | decide | exact Nat.le_refl _ | (simp only [Nat.add_eq]; omega)) (by rfl) (qa_cons (q_op op_addA l_add (q_int) (q_calL 0 c_law_pick hr (by first | decide | exact Nat.le_refl _ | (simp only [Nat.add_eq]; omega)) (by rfl) (qa_cons (q_int) qa_nil))) qa_nil)))))), pure_ren rfl pure_law_name⟩
theorem cal_law_name (bt : Bt mg) (c_law_letters : Cal P w K mg base 2 "_law_letters" true ["_law_flow_here", "_law_many"] [] sp_law_letters) (c_law_pick : Cal P w K mg base 1 "_law_pick" true ["_law_flow_here", "_law_many"] [] sp_law_pick) (hm : mg "_law_name" = some (.ref f)) (F : FunD K "_law_name" "_law_name" (defArgs s_law_name) (defBody s_law_name) (defScope s_law_name) [] [] f fd) : Cal P w K mg base 3 "_law_name" true ["_law_flow_here", "_law_stem"] [] sp_law_name := ⟨f, fd, [], [], ok_law_name bt c_law_letters c_law_pick F, hm, F.kp, F.bindsN (ps := ["_law_flow_here", "_law_stem"]) fun _ _ _ _ _ _ us hl => match us, hl with | [_, _], _ => rfl, .nil, consts_nil⟩
abbrev M_law_names : List Str := ["_law_flow_here", "_law_many", "_law_stem", "_law_names_here", "_law_k", "_law_name_here", "_law_spare"]
theorem sc_law_names : FnScope M_law_names ["_law_flow_here", "_law_many"] (defScope s_law_names) := ⟨rfl, rfl, rfl, by decide +kernel, rfl, by decide +kernel, by decide +kernel⟩
theorem len_law_names : ∀ fl ds Q, sp_law_names fl ds Q → ds.length + (if true = true then 1 else 0) = 2 := by
  intro fl ds Q h
  unfold sp_law_names at h
  grind
theorem ok_law_names (bt : Bt mg) (c_law_pick : Cal P w K mg base 1 "_law_pick" true ["_law_flow_here", "_law_many"] [] sp_law_pick) (c_law_letters : Cal P w K mg base 2 "_law_letters" true ["_law_flow_here", "_law_many"] [] sp_law_letters) (c_law_name : Cal P w K mg base 3 "_law_name" true ["_law_flow_here", "_law_stem"] [] sp_law_name) (F : FunD K "_law_names" "_law_names" (defArgs s_law_names) (defBody s_law_names) (defScope s_law_names) [] [] f fd) : FnOk P w K mg base CX0 4 f fd ["_law_flow_here", "_law_many"] (spOf ⟨K, P, w⟩ true sp_law_names) :=
  defD_ok true F sc_law_names len_law_names (by decide) fun cdv A outer s H E hr => ⟨T_law_names, (s_cons (s_set (i := 2) sc_law_names.nd rfl (by first | exact Or.inl rfl | exact Or.inr rfl) (q_str))
    (s_cons (s_if (t_cmp (op_eqP hr.units) l_eq (q_calL 0 c_law_pick hr (by first | decide | exact Nat.le_refl _ | (simp only [Nat.add_eq]; omega)) (by rfl) (qa_cons (q_int) qa_nil)) (q_int) (nomark _)) (s_one (s_set (i := 2) sc_law_names.nd rfl (by first | exact Or.inl rfl | exact Or.inr rfl) (q_calL 0 c_law_letters hr (by first | decide | exact Nat.le_refl _ | (simp only [Nat.add_eq]; omega)) (by rfl) (qa_cons (q_op op_addA l_add (q_int) (q_calL 0 c_law_pick hr (by first | decide | exact Nat.le_refl _ | (simp only [Nat.add_eq]; omega)) (by rfl) (qa_cons (q_int) qa_nil))) qa_nil)))) s_nil)
    (s_cons (s_setF (i := 3) sc_law_names.nd rfl (by first | exact Or.inl rfl | exact Or.inr rfl) (f_lst (qa_nil)))
    (s_cons (s_for PassesOwn.never rfl (i_rg1 (qv 1) (by rfl) (bt "range" (by decide))) (g_name sc_law_names.nd rfl (by first | exact Or.inl rfl | exact Or.inr rfl)) (s_cons (s_set (i := 5) sc_law_names.nd rfl (by first | exact Or.inl rfl | exact Or.inr rfl) (q_calL 0 c_law_name hr (by first | decide | exact Nat.le_refl _ | (simp only [Nat.add_eq]; omega)) (by rfl) (qa_cons (qv 2) qa_nil)))
    (s_cons (s_set (i := 6) sc_law_names.nd rfl (by first | exact Or.inl rfl | exact Or.inr rfl) (q_int))
    (s_cons (s_while PassesOwn.never (t_cmp (op_inA hr.units) l_in (qv 5) (qv 3) (by rfl)) (s_cons (s_set (i := 5) sc_law_names.nd rfl (by first | exact Or.inl rfl | exact Or.inr rfl) (q_op op_mulA l_mul (q_ix (q_str) (q_op op_mod l_mod (qv 6) (q_int))) (q_op op_addA l_add (q_int) (q_op op_fdiv l_div (qv 6) (q_int)))))
    (s_one (s_set (i := 6) sc_law_names.nd rfl (by first | exact Or.inl rfl | exact Or.inr rfl) (q_op op_addA l_add (qv 6) (q_int))))))
    (s_one (s_expr (q_mo 3 l_append PySem.F.slot_list_append PySem.F.type_list_append mt_append (qa_cons (qv 5) qa_nil))))))))
    (s_one (s_retS 3)))))), pure_ren rfl pure_law_names⟩
theorem cal_law_names (bt : Bt mg) (c_law_pick : Cal P w K mg base 1 "_law_pick" true ["_law_flow_here", "_law_many"] [] sp_law_pick) (c_law_letters : Cal P w K mg base 2 "_law_letters" true ["_law_flow_here", "_law_many"] [] sp_law_letters) (c_law_name : Cal P w K mg base 3 "_law_name" true ["_law_flow_here", "_law_stem"] [] sp_law_name) (hm : mg "_law_names" = some (.ref f)) (F : FunD K "_law_names" "_law_names" (defArgs s_law_names) (defBody s_law_names) (defScope s_law_names) [] [] f fd) : Cal P w K mg base 4 "_law_names" true ["_law_flow_here", "_law_many"] [] sp_law_names := ⟨f, fd, [], [], ok_law_names bt c_law_pick c_law_letters c_law_name F, hm, F.kp, F.bindsN (ps := ["_law_flow_here", "_law_many"]) fun _ _ _ _ _ _ us hl => match us, hl with | [_, _], _ => rfl, .nil, consts_nil⟩
abbrev M_law_good_deedC : List Str := ["_law_flow_here", "_law_word", "_law_many", "_law_i", "_law_j", "_law_k", "_law_l"]
theorem sc_law_good_deedC : FnScope M_law_good_deedC ["_law_flow_here", "_law_word", "_law_many"] (defScope s_law_good_deedC) := ⟨rfl, rfl, rfl, by decide +kernel, rfl, by decide +kernel, by decide +kernel⟩
theorem len_law_good_deedC : ∀ fl ds Q, sp_law_good_deedC fl ds Q → ds.length + (if true = true then 1 else 0) = 3 := by
  intro fl ds Q h
  unfold sp_law_good_deedC at h
  grind
theorem ok_law_good_deedC (bt : Bt mg) (c_law_pick : Cal P w K mg base 1 "_law_pick" true ["_law_flow_here", "_law_many"] [] sp_law_pick) (F : FunD K "_law_good_deed" "_law_good_deed" (defArgs s_law_good_deedC) (defBody s_law_good_deedC) (defScope s_law_good_deedC) [] [] f fd) : FnOk P w K mg base CX0 2 f fd ["_law_flow_here", "_law_word", "_law_many"] (spOf ⟨K, P, w⟩ true sp_law_good_deedC) :=
  defD_ok true F sc_law_good_deedC len_law_good_deedC (by decide) fun cdv A outer s H E hr => ⟨T_law_good_deedC, (s_cons (s_if (t_cmp (op_eqP hr.units) l_eq (qv 1) (q_str) (nomark _)) (s_cons (s_set (i := 3) sc_law_good_deedC.nd rfl (by first | exact Or.inl rfl | exact Or.inr rfl) (q_calL 0 c_law_pick hr (by first | decide | exact Nat.le_refl _ | (simp only [Nat.add_eq]; omega)) (by rfl) (qa_cons (qv 2) qa_nil)))
    (s_one (s_ret (q_tup (qa_cons (q_str) (qa_cons (qv 3) (qa_cons (q_op op_addA l_add (q_op op_addA l_add (qv 3) (q_int)) (q_calL 0 c_law_pick hr (by first | decide | exact Nat.le_refl _ | (simp only [Nat.add_eq]; omega)) (by rfl) (qa_cons (q_op op_sub l_sub (qv 2) (qv 3)) qa_nil))) qa_nil))))))) s_nil)
    (s_cons (s_set (i := 3) sc_law_good_deedC.nd rfl (by first | exact Or.inl rfl | exact Or.inr rfl) (q_calL 0 c_law_pick hr (by first | decide | exact Nat.le_refl _ | (simp only [Nat.add_eq]; omega)) (by rfl) (qa_cons (q_op op_sub l_sub (qv 2) (q_int)) qa_nil)))
    (s_cons (s_set (i := 4) sc_law_good_deedC.nd rfl (by first | exact Or.inl rfl | exact Or.inr rfl) (q_op op_addA l_add (q_op op_addA l_add (qv 3) (q_int)) (q_calL 0 c_law_pick hr (by first | decide | exact Nat.le_refl _ | (simp only [Nat.add_eq]; omega)) (by rfl) (qa_cons (q_op op_sub l_sub (q_op op_sub l_sub (qv 2) (q_int)) (qv 3)) qa_nil))))
    (s_cons (s_set (i := 5) sc_law_good_deedC.nd rfl (by first | exact Or.inl rfl | exact Or.inr rfl) (q_op op_addA l_add (qv 4) (q_calL 0 c_law_pick hr (by first | decide | exact Nat.le_refl _ | (simp only [Nat.add_eq]; omega)) (by rfl) (qa_cons (q_op op_sub l_sub (qv 2) (qv 4)) qa_nil))))
    (s_cons (s_set (i := 6) sc_law_good_deedC.nd rfl (by first | exact Or.inl rfl | exact Or.inr rfl) (q_op op_addA l_add (q_op op_addA l_add (qv 5) (q_int)) (q_calL 0 c_law_pick hr (by first | decide | exact Nat.le_refl _ | (simp only [Nat.add_eq]; omega)) (by rfl) (qa_cons (q_op op_sub l_sub (qv 2) (qv 5)) qa_nil))))
    (s_one (s_ret (q_tup (qa_cons (q_str) (qa_cons (qv 3) (qa_cons (qv 4) (qa_cons (qv 5) (qa_cons (qv 6) qa_nil))))))))))))), pure_ren rfl pure_law_good_deedC⟩
theorem cal_law_good_deedC (bt : Bt mg) (c_law_pick : Cal P w K mg base 1 "_law_pick" true ["_law_flow_here", "_law_many"] [] sp_law_pick) (hm : mg "_law_good_deed" = some (.ref f)) (F : FunD K "_law_good_deed" "_law_good_deed" (defArgs s_law_good_deedC) (defBody s_law_good_deedC) (defScope s_law_good_deedC) [] [] f fd) : Cal P w K mg base 2 "_law_good_deed" true ["_law_flow_here", "_law_word", "_law_many"] [] sp_law_good_deedC := ⟨f, fd, [], [], ok_law_good_deedC bt c_law_pick F, hm, F.kp, F.bindsN (ps := ["_law_flow_here", "_law_word", "_law_many"]) fun _ _ _ _ _ _ us hl => match us, hl with | [_, _, _], _ => rfl, .nil, consts_nil⟩
abbrev M_law_alike : List Str := ["_law_found", "_law_due", "_law_k"]
theorem sc_law_alike : FnScope M_law_alike ["_law_found", "_law_due"] (defScope s_law_alike) := ⟨rfl, rfl, rfl, by decide +kernel, rfl, by decide +kernel, by decide +kernel⟩
theorem okr_law_alike (bt : Bt mg) (hm : mg "_law_alike" = some (.ref f)) (F : FunD K "_law_alike" "_law_alike" (defArgs s_law_alike) (defBody s_law_alike) (defScope s_law_alike) [] [] f fd) : ∀ n : Nat, Cal P w K mg base (1 + n) "_law_alike" false ["_law_found", "_law_due"] [] (spA n)
  | 0 => ⟨f, fd, [], [], ⟨fun vs H Q E h => by obtain ⟨_, _, _, _, _, _, _, _, _, hp, _⟩ := h; exact hp.elim, fun A outer s H args us vs Q E hr he hb hv h => by obtain ⟨_, _, _, _, _, _, _, _, _, hp, _⟩ := h; exact hp.elim⟩, hm, F.kp, F.bindsN (ps := ["_law_found", "_law_due"]) fun _ _ _ _ _ _ us hl => match us, hl with | [_, _], _ => rfl, .nil, consts_nil⟩
  | n + 1 => by
    have c_law_alike := okr_law_alike bt hm F n
    exact ⟨f, fd, [], [], defD_ok false F sc_law_alike (fun fl ds Q h => by obtain ⟨rfl, d, rfl, _⟩ := h; rfl) (by decide) fun cdv A outer s H E hr => ⟨T_law_alike (spA n), (s_cons (s_if (t_cmp op_isN l_isN (qv 1) (q_non) (nomark _)) (s_one (s_ret (q_cmp op_isN l_isN (qv 0) (q_non) (nomark _)))) s_nil)
    (s_cons (s_if (EW.et (w_or (t_val (q_isi .bool (qv 1) (by rfl) (bt "isinstance" (by decide)) (by rfl) (bt "bool" (by decide)) (by decide +kernel))) (w_or1 (t_val (q_isi .bool (qv 0) (by rfl) (bt "isinstance" (by decide)) (by rfl) (bt "bool" (by decide)) (by decide +kernel)))))) (s_one (s_ret (q_and (q_isi .bool (qv 1) (by rfl) (bt "isinstance" (by decide)) (by rfl) (bt "bool" (by decide)) (by decide +kernel)) (q_and (q_isi .bool (qv 0) (by rfl) (bt "isinstance" (by decide)) (by rfl) (bt "bool" (by decide)) (by decide +kernel)) (q_one (q_cmp (op_eqP hr.units) l_eq (qv 0) (qv 1) (nomark _))))))) s_nil)
    (s_cons (s_if (t_val (q_isi .int (qv 1) (by rfl) (bt "isinstance" (by decide)) (by rfl) (bt "int" (by decide)) (by decide +kernel))) (s_one (s_ret (q_and (q_isi .int (qv 0) (by rfl) (bt "isinstance" (by decide)) (by rfl) (bt "int" (by decide)) (by decide +kernel)) (q_one (q_cmp (op_eqP hr.units) l_eq (qv 0) (qv 1) (nomark _)))))) s_nil)
    (s_cons (s_if (t_val (q_isi .str (qv 1) (by rfl) (bt "isinstance" (by decide)) (by rfl) (bt "str" (by decide)) (by decide +kernel))) (s_one (s_ret (q_and (q_isi .str (qv 0) (by rfl) (bt "isinstance" (by decide)) (by rfl) (bt "str" (by decide)) (by decide +kernel)) (q_one (q_cmp (op_eqP hr.units) l_eq (qv 0) (qv 1) (nomark _)))))) s_nil)
    (s_cons (s_if (EW.et (w_or (t_cmp (op_neP hr.units) l_eq (q_isi .tuple (qv 1) (by rfl) (bt "isinstance" (by decide)) (by rfl) (bt "tuple" (by decide)) (by decide +kernel)) (q_isi .tuple (qv 0) (by rfl) (bt "isinstance" (by decide)) (by rfl) (bt "tuple" (by decide)) (by decide +kernel)) (nomark _)) (w_or1 (t_cmp (op_neP hr.units) l_eq (q_isi .list (qv 1) (by rfl) (bt "isinstance" (by decide)) (by rfl) (bt "list" (by decide)) (by decide +kernel)) (q_isi .list (qv 0) (by rfl) (bt "isinstance" (by decide)) (by rfl) (bt "list" (by decide)) (by decide +kernel)) (nomark _))))) (s_one (s_ret (q_bl))) s_nil)
    (s_one (s_ret (q_and (q_cmp (op_eqP hr.units) l_eq (q_callB l_len call_len (by rfl) (bt "len" (by decide)) (by decide +kernel) (qa_cons (qv 0) qa_nil)) (q_callB l_len call_len (by rfl) (bt "len" (by decide)) (by decide +kernel) (qa_cons (qv 1) qa_nil)) (nomark _)) (q_one (q_callB l_all (cr_all rfl) (by rfl) (bt "all" (by decide)) (by decide +kernel) (qa_cons (EF.ev (f_lc (own := [("_law_k", 2)]) (S := [2]) rfl sc_law_alike.nd (blkOk_by (N := M_law_alike) (sc := defScope s_law_alike) (by decide +kernel)) (i_rg1 (q_callB l_len call_len (by rfl) (bt "len" (by decide)) (by decide +kernel) (qa_cons (qv 1) qa_nil)) (by rfl) (bt "range" (by decide))) (fun _ _ _ _ _ => g_name sc_law_alike.nd rfl (by first | exact Or.inl rfl | exact Or.inr rfl)) (fun _ _ _ _ _ => ts_nil) (fun _ _ _ _ _ => q_cal c_law_alike hr (by first | decide | exact Nat.le_refl _ | (simp only [Nat.add_eq]; omega)) (by rfl) (qa_cons (q_ix (qv 0) (qv 2)) (qa_cons (q_ix (qv 1) (qv 2)) qa_nil))))) qa_nil))))))))))), pure_ren rfl (pure_law_alike n)⟩, hm, F.kp, F.bindsN (ps := ["_law_found", "_law_due"]) fun _ _ _ _ _ _ us hl => match us, hl with | [_, _], _ => rfl, .nil, consts_nil⟩
theorem cal_law_alike (bt : Bt mg) (hm : mg "_law_alike" = some (.ref f)) (F : FunD K "_law_alike" "_law_alike" (defArgs s_law_alike) (defBody s_law_alike) (defScope s_law_alike) [] [] f fd) : Cal P w K mg base 13 "_law_alike" false ["_law_found", "_law_due"] [] sp_law_alike := (okr_law_alike bt hm F 12).mono (by decide)
abbrev M_law_first_changes : List Str := ["_law_ours", "_law_theirs", "_law_due", "_law_deed"]
theorem sc_law_first_changes : FnScope M_law_first_changes ["_law_ours", "_law_theirs"] (defScope s_law_first_changes) := ⟨rfl, rfl, rfl, by decide +kernel, rfl, by decide +kernel, by decide +kernel⟩
theorem len_law_first_changes : ∀ fl ds Q, sp_law_first_changes fl ds Q → ds.length + (if false = true then 1 else 0) = 2 := by
  intro fl ds Q h
  unfold sp_law_first_changes at h
  grind
theorem ok_law_first_changes (bt : Bt mg) (c_law_half : Cal P w K mg base 1 "_law_half" false ["_law_ours", "_law_theirs"] [] sp_law_half) (c_law_changes : Cal P w K mg base 1 "_law_changes" false ["_law_many"] [] sp_law_changes) (c_law_line_behind : Cal P w K mg base 3 "_law_line_behind" false ["_law_line_here", "_law_deed"] [] sp_law_line_behind) (F : FunD K "_law_first_changes" "_law_first_changes" (defArgs s_law_first_changes) (defBody s_law_first_changes) (defScope s_law_first_changes) [] [] f fd) : FnOk P w K mg base CX0 4 f fd ["_law_ours", "_law_theirs"] (spOf ⟨K, P, w⟩ false sp_law_first_changes) :=
  defD_ok false F sc_law_first_changes len_law_first_changes (by decide) fun cdv A outer s H E hr => ⟨T_law_first_changes, (s_cons (s_set (i := 2) sc_law_first_changes.nd rfl (by first | exact Or.inl rfl | exact Or.inr rfl) (q_op op_sub l_sub (q_cal c_law_half hr (by first | decide | exact Nat.le_refl _ | (simp only [Nat.add_eq]; omega)) (by rfl) (qa_cons (qv 0) (qa_cons (qv 1) qa_nil))) (q_int)))
    (s_one (s_retF (f_lc (own := [("_law_deed", 3)]) (S := [3]) rfl sc_law_first_changes.nd (blkOk_by (N := M_law_first_changes) (sc := defScope s_law_first_changes) (by decide +kernel)) (i_any (q_cal c_law_changes hr (by first | decide | exact Nat.le_refl _ | (simp only [Nat.add_eq]; omega)) (by rfl) (qa_cons (q_callB l_len call_len (by rfl) (bt "len" (by decide)) (by decide +kernel) (qa_cons (qv 0) qa_nil)) qa_nil))) (fun _ _ _ _ _ => g_name sc_law_first_changes.nd rfl (by first | exact Or.inl rfl | exact Or.inr rfl)) (fun _ _ _ _ _ => (ts_one (t_cmp (op_eqP hr.units) l_eq (q_cal c_law_half hr (by first | decide | exact Nat.le_refl _ | (simp only [Nat.add_eq]; omega)) (by rfl) (qa_cons (q_cal c_law_line_behind hr (by first | decide | exact Nat.le_refl _ | (simp only [Nat.add_eq]; omega)) (by rfl) (qa_cons (qv 0) (qa_cons (qv 3) qa_nil))) (qa_cons (qv 1) qa_nil))) (qv 2) (nomark _)))) (fun _ _ _ _ _ => qv 3))))), pure_ren rfl pure_law_first_changes⟩
theorem cal_law_first_changes (bt : Bt mg) (c_law_half : Cal P w K mg base 1 "_law_half" false ["_law_ours", "_law_theirs"] [] sp_law_half) (c_law_changes : Cal P w K mg base 1 "_law_changes" false ["_law_many"] [] sp_law_changes) (c_law_line_behind : Cal P w K mg base 3 "_law_line_behind" false ["_law_line_here", "_law_deed"] [] sp_law_line_behind) (hm : mg "_law_first_changes" = some (.ref f)) (F : FunD K "_law_first_changes" "_law_first_changes" (defArgs s_law_first_changes) (defBody s_law_first_changes) (defScope s_law_first_changes) [] [] f fd) : Cal P w K mg base 4 "_law_first_changes" false ["_law_ours", "_law_theirs"] [] sp_law_first_changes := ⟨f, fd, [], [], ok_law_first_changes bt c_law_half c_law_changes c_law_line_behind F, hm, F.kp, F.bindsN (ps := ["_law_ours", "_law_theirs"]) fun _ _ _ _ _ _ us hl => match us, hl with | [_, _], _ => rfl, .nil, consts_nil⟩
abbrev M_law_50 : List Str := ["_law_script", "_law_flow_here", "_law_many", "_law_ours", "_law_theirs", "_law_k", "_law_due", "_law_found", "_law_word", "_law_i", "_law_j", "_law_l", "_law_then", "_law_least"]
theorem sc_law_50 : FnScope M_law_50 ["_law_script"] (defScope s_law_50) := ⟨rfl, rfl, rfl, by decide +kernel, rfl, by decide +kernel, by decide +kernel⟩
theorem sc_law_flow : FnScope ["_law_script"] ["_law_script"] (defScope s_law_flow) := ⟨rfl, rfl, rfl, by decide +kernel, rfl, by decide +kernel, by decide +kernel⟩
theorem ok_law_flow (bt : Bt mg) (F : FunD K "_law_flow" "_law_flow" (defArgs s_law_flow) (defBody s_law_flow) (defScope s_law_flow) [] [] f fd) : FnOk P w K mg base CX0 1 f fd ["_law_script"] (spFlow ⟨K, P, w⟩) := F.ok sc_law_flow len_flow fun cdv A outer s H vs Q E hr h => ⟨t_flow ⟨K, P, w⟩, PSs.nox (pss_one (ps_ret (pe_lst (pa_cons (pe_callTy call_list_of (by rfl) (bt "list" (by decide)) (by decide +kernel) (pa_cons (pv 0) pa_nil)) (pa_cons pe_int (pa_cons pe_int (pa_cons pe_int (pa_cons pe_int pa_nil)))))))), pure_flow vs H Q E h⟩
theorem ok_law_50 {fF : Addr} {fdF : FuncData} (bt : Bt mg) (c_law_pick : Cal P w K mg base 1 "_law_pick" true ["_law_flow_here", "_law_many"] [] sp_law_pick) (c_law_line : Cal P w K mg base 3 "_law_line" true ["_law_flow_here", "_law_names_here"] [] sp_law_line) (c_law_names : Cal P w K mg base 4 "_law_names" true ["_law_flow_here", "_law_many"] [] sp_law_names) (c_law_shuffled : Cal P w K mg base 2 "_law_shuffled" true ["_law_flow_here", "_law_things"] [] sp_law_shuffled) (c_law_line_behind : Cal P w K mg base 3 "_law_line_behind" false ["_law_line_here", "_law_deed"] [] sp_law_line_behind) (c_law_good_deedC : Cal P w K mg base 2 "_law_good_deed" true ["_law_flow_here", "_law_word", "_law_many"] [] sp_law_good_deedC) (c_law_first_changes : Cal P w K mg base 4 "_law_first_changes" false ["_law_ours", "_law_theirs"] [] sp_law_first_changes) (c_firsts_changes : Cal P w K mg base 6 "firsts_changes" false ["ours", "theirs"] [] sp_firsts_changes) (c_law_alike : Cal P w K mg base 13 "_law_alike" false ["_law_found", "_law_due"] [] sp_law_alike) (c_change : Cal P w K mg base 1 "change" false ["line", "i", "j", "k", "l"] [] sp_change) (c_law_half : Cal P w K mg base 1 "_law_half" false ["_law_ours", "_law_theirs"] [] sp_law_half) (c_fewest_changes : Cal P w K mg base 6 "fewest_changes" false ["ours", "theirs"] [] sp_fewest_changes) (FF : FunD K "_law_flow" "_law_flow" (defArgs s_law_flow) (defBody s_law_flow) (defScope s_law_flow) [] [] fF fdF) (gF : mg "_law_flow" = some (.ref fF)) (F : FunD K "law" "law" (defArgs s_law_50) (defBody s_law_50) (defScope s_law_50) [] [] f fd) : FnOk P w K mg base CX0 14 f fd ["_law_script"] (spLaw ⟨K, P, w⟩) :=
  law_ok F sc_law_50 (by decide) (T := T_law_50) (fun cdv A outer s H E hr => ⟨ps_set (i := 1) sc_law_50.nd rfl (by first | exact Or.inl rfl | exact Or.inr rfl) (pe_call (ok_law_flow bt FF) (hr.mono (by decide)) (by rfl) gF FF.kp (FF.bindsN (ps := ["_law_script"]) fun _ _ _ _ _ _ us hl => match us, hl with | [_], _ => rfl) .nil pass0 (pa_cons (pv 0) pa_nil)), (s_cons (s_set (i := 2) sc_law_50.nd rfl (by first | exact Or.inl rfl | exact Or.inr rfl) (q_calL 1 c_law_pick hr (by first | decide | exact Nat.le_refl _ | (simp only [Nat.add_eq]; omega)) (by rfl) (qa_cons (q_int) qa_nil)))
    (s_cons (s_if (t_cmp (op_eqP hr.units) l_eq (q_calL 1 c_law_pick hr (by first | decide | exact Nat.le_refl _ | (simp only [Nat.add_eq]; omega)) (by rfl) (qa_cons (q_int) qa_nil)) (q_int) (nomark _)) (s_one (s_set (i := 2) sc_law_50.nd rfl (by first | exact Or.inl rfl | exact Or.inr rfl) (q_calL 1 c_law_pick hr (by first | decide | exact Nat.le_refl _ | (simp only [Nat.add_eq]; omega)) (by rfl) (qa_cons (q_int) qa_nil)))) s_nil)
    (s_cons (s_set (i := 3) sc_law_50.nd rfl (by first | exact Or.inl rfl | exact Or.inr rfl) (q_calL 1 c_law_line hr (by first | decide | exact Nat.le_refl _ | (simp only [Nat.add_eq]; omega)) (by rfl) (qa_cons (q_calL 1 c_law_names hr (by first | decide | exact Nat.le_refl _ | (simp only [Nat.add_eq]; omega)) (by rfl) (qa_cons (qv 2) qa_nil)) qa_nil)))
    (s_cons (s_set (i := 4) sc_law_50.nd rfl (by first | exact Or.inl rfl | exact Or.inr rfl) (qv 3))
    (s_cons (s_if (t_cmp (op_eqP hr.units) l_eq (q_calL 1 c_law_pick hr (by first | decide | exact Nat.le_refl _ | (simp only [Nat.add_eq]; omega)) (by rfl) (qa_cons (q_int) qa_nil)) (q_int) (nomark _)) (s_one (s_set (i := 4) sc_law_50.nd rfl (by first | exact Or.inl rfl | exact Or.inr rfl) (q_callTy l_tuple call_tuple_of (by rfl) (bt "tuple" (by decide)) (by decide +kernel) (qa_cons (q_calL 1 c_law_shuffled hr (by first | decide | exact Nat.le_refl _ | (simp only [Nat.add_eq]; omega)) (by rfl) (qa_cons (qv 3) qa_nil)) qa_nil)))) (s_one (s_if (t_cmp op_gt l_cmp (qv 2) (q_int) (nomark _)) (s_one (s_for PassesOwn.never rfl (i_rg1 (q_calL 1 c_law_pick hr (by first | decide | exact Nat.le_refl _ | (simp only [Nat.add_eq]; omega)) (by rfl) (qa_cons (q_int) qa_nil)) (by rfl) (bt "range" (by decide))) (g_name sc_law_50.nd rfl (by first | exact Or.inl rfl | exact Or.inr rfl)) (s_one (s_set (i := 4) sc_law_50.nd rfl (by first | exact Or.inl rfl | exact Or.inr rfl) (q_cal c_law_line_behind hr (by first | decide | exact Nat.le_refl _ | (simp only [Nat.add_eq]; omega)) (by rfl) (qa_cons (qv 4) (qa_cons (q_calL 1 c_law_good_deedC hr (by first | decide | exact Nat.le_refl _ | (simp only [Nat.add_eq]; omega)) (by rfl) (qa_cons (q_str) (qa_cons (qv 2) qa_nil))) qa_nil))))))) s_nil)))
    (s_cons (s_set (i := 6) sc_law_50.nd rfl (by first | exact Or.inl rfl | exact Or.inr rfl) (q_cal c_law_first_changes hr (by first | decide | exact Nat.le_refl _ | (simp only [Nat.add_eq]; omega)) (by rfl) (qa_cons (qv 3) (qa_cons (qv 4) qa_nil))))
    (s_cons (s_setF (i := 7) sc_law_50.nd rfl (by first | exact Or.inl rfl | exact Or.inr rfl) (f_cal c_firsts_changes hr (by first | decide | exact Nat.le_refl _ | (simp only [Nat.add_eq]; omega)) (by rfl) (qa_cons (qv 3) (qa_cons (qv 4) qa_nil))))
    (s_cons (s_if (t_not (t_val (q_calV c_law_alike hr (by first | decide | exact Nat.le_refl _ | (simp only [Nat.add_eq]; omega)) (by rfl) (qa_cons (qv 7) (qa_cons (qv 6) qa_nil))))) (s_one (s_ret (q_bl))) s_nil)
    (s_cons (s_expr (q_mo0 7 l_clear PySem.F.slot_list_clear PySem.F.type_list_clear mt_clear))
    (s_cons (s_if (t_not (t_val (q_cal c_law_alike hr (by first | decide | exact Nat.le_refl _ | (simp only [Nat.add_eq]; omega)) (by rfl) (qa_cons (q_cal c_firsts_changes hr (by first | decide | exact Nat.le_refl _ | (simp only [Nat.add_eq]; omega)) (by rfl) (qa_cons (qv 4) (qa_cons (qv 3) qa_nil))) (qa_cons (q_cal c_law_first_changes hr (by first | decide | exact Nat.le_refl _ | (simp only [Nat.add_eq]; omega)) (by rfl) (qa_cons (qv 4) (qa_cons (qv 3) qa_nil))) qa_nil))))) (s_one (s_ret (q_bl))) s_nil)
    (s_cons (s_if (EW.et (w_and (t_cmp op_ltA l_lt (qv 2) (q_int) (nomark _)) (w_and1 (t_cmp (op_neP hr.units) l_eq (q_cal c_firsts_changes hr (by first | decide | exact Nat.le_refl _ | (simp only [Nat.add_eq]; omega)) (by rfl) (qa_cons (qv 3) (qa_cons (qv 4) qa_nil))) (qv 6) (nomark _))))) (s_one (s_ret (q_bl))) s_nil)
    (s_cons (s_if (t_cmp op_ltA l_lt (qv 2) (q_int) (nomark _)) (s_one (s_ret (q_cmp (op_eqP hr.units) l_eq (qv 6) (EF.ev (f_lst (qa_nil))) (nomark _)))) s_nil)
    (s_cons (s_asg (q_calL 1 c_law_good_deedC hr (by first | decide | exact Nat.le_refl _ | (simp only [Nat.add_eq]; omega)) (by rfl) (qa_cons (q_str) (qa_cons (qv 2) qa_nil))) (g_tup rfl (gs_cons (g_name sc_law_50.nd rfl (by first | exact Or.inl rfl | exact Or.inr rfl)) (gs_cons (g_name sc_law_50.nd rfl (by first | exact Or.inl rfl | exact Or.inr rfl)) (gs_cons (g_name sc_law_50.nd rfl (by first | exact Or.inl rfl | exact Or.inr rfl)) (gs_cons (g_name sc_law_50.nd rfl (by first | exact Or.inl rfl | exact Or.inr rfl)) (gs_cons (g_name sc_law_50.nd rfl (by first | exact Or.inl rfl | exact Or.inr rfl)) gs_nil)))))))
    (s_cons (s_set (i := 12) sc_law_50.nd rfl (by first | exact Or.inl rfl | exact Or.inr rfl) (q_cal c_change hr (by first | decide | exact Nat.le_refl _ | (simp only [Nat.add_eq]; omega)) (by rfl) (qa_cons (qv 3) (qa_cons (qv 9) (qa_cons (qv 10) (qa_cons (qv 5) (qa_cons (qv 11) qa_nil)))))))
    (s_cons (s_set (i := 13) sc_law_50.nd rfl (by first | exact Or.inl rfl | exact Or.inr rfl) (q_cal c_law_half hr (by first | decide | exact Nat.le_refl _ | (simp only [Nat.add_eq]; omega)) (by rfl) (qa_cons (qv 12) (qa_cons (qv 4) qa_nil))))
    (s_one (s_ret (q_and (q_cal c_law_alike hr (by first | decide | exact Nat.le_refl _ | (simp only [Nat.add_eq]; omega)) (by rfl) (qa_cons (q_cal c_fewest_changes hr (by first | decide | exact Nat.le_refl _ | (simp only [Nat.add_eq]; omega)) (by rfl) (qa_cons (qv 12) (qa_cons (qv 4) qa_nil))) (qa_cons (qv 13) qa_nil))) (q_one (q_cmp op_ge l_cmp (qv 13) (q_op op_sub l_sub (q_cal c_law_half hr (by first | decide | exact Nat.le_refl _ | (simp only [Nat.add_eq]; omega)) (by rfl) (qa_cons (qv 3) (qa_cons (qv 4) qa_nil))) (q_int)) (nomark _)))))))))))))))))))))⟩) pure_law_50
end
theorem bt_of {h : Heap} {mg : Str → Option Value} {K : PySem.W.Frag} (X : K.In h) (G : h.Ns mainGlobals mg) (c : He.SaysD faL fnL K) : Bt mg := fun x hx => by
  have m : He.Fa.free x ∈ faL := by
    have e : faL = Bts.map He.Fa.free ++ faL.drop 21 := rfl
    rw [e]
    exact List.mem_append_left _ (List.mem_map_of_mem hx)
  obtain ⟨i, hi⟩ := List.getElem?_of_mem m
  exact He.free_ok X G (c.fact i hi)
theorem facts {P : Program} {w : World} {K : PySem.W.Frag} {h : Heap} {mg : Str → Option Value} {f : Addr} (X : K.In h) (G : h.Ns mainGlobals mg) (hfa : mg ("law" : Str) = some (.ref f)) (cF : SaysF faL fnL exB tsL w K) :
    ∃ fd : FuncData, (∀ (s : Shared) (v : Value), BindsTo s fd ⟨[v], []⟩ [("_law_script", v)]) ∧ ∀ base : Heap, K.In base → base.Ns mainGlobals mg → FnOk P w K mg base CX0 14 f fd ["_law_script"] (spLaw ⟨K, P, w⟩) := by
  have cE := cF.e
  have c := cE.d
  obtain ⟨fd0, F0⟩ := c.def_ 0 (d := d_name_of) rfl
  obtain ⟨fd1, F1⟩ := c.def_ 1 (d := d_mirrored) rfl
  obtain ⟨fd2, F2⟩ := c.def_ 2 (d := d_beads_in) rfl
  obtain ⟨fd3, F3⟩ := c.def_ 3 (d := d_names_in) rfl
  obtain ⟨fd4, F4⟩ := c.def_ 4 (d := d_look_alike) rfl
  obtain ⟨fd5, F5⟩ := c.def_ 5 (d := d_numbers_of) rfl
  obtain ⟨fd6, F6⟩ := c.def_ 6 (d := d_right_end_2) rfl
  obtain ⟨fd7, F7⟩ := c.def_ 7 (d := d_left_end_2) rfl
  obtain ⟨fd8, F8⟩ := c.def_ 8 (d := d_tied_points) rfl
  obtain ⟨fd9, F9⟩ := c.def_ 9 (d := d_ring_of) rfl
  obtain ⟨fd10, F10⟩ := c.def_ 10 (d := d_point_rings) rfl
  obtain ⟨fd11, F11⟩ := c.def_ 11 (d := d_change) rfl
  obtain ⟨fd12, F12⟩ := c.def_ 12 (d := d_changes_from) rfl
  obtain ⟨fd13, F13⟩ := c.def_ 13 (d := d_changed) rfl
  obtain ⟨fd14, F14⟩ := c.def_ 14 (d := d_numbers_for_changes) rfl
  obtain ⟨fd15, F15⟩ := c.def_ 15 (d := d_half_sum) rfl
  obtain ⟨fd16, F16⟩ := c.def_ 16 (d := d_fewest_changes) rfl
  obtain ⟨fd17, F17⟩ := c.def_ 17 (d := d_firsts_changes) rfl
  obtain ⟨fd18, F18⟩ := c.def_ 18 (d := d_law_half) rfl
  obtain ⟨fd19, F19⟩ := c.def_ 19 (d := d_law_changes) rfl
  obtain ⟨fd20, F20⟩ := c.def_ 20 (d := d_law_mirrored) rfl
  obtain ⟨fd21, F21⟩ := c.def_ 21 (d := d_law_turned_2) rfl
  obtain ⟨fd22, F22⟩ := c.def_ 22 (d := d_law_changed) rfl
  obtain ⟨fd23, F23⟩ := c.def_ 23 (d := d_law_line_behind) rfl
  obtain ⟨fd24, F24⟩ := c.def_ 24 (d := d_law_pick) rfl
  obtain ⟨fd25, F25⟩ := c.def_ 25 (d := d_law_shuffled) rfl
  obtain ⟨fd26, F26⟩ := c.def_ 26 (d := d_law_line) rfl
  obtain ⟨fd27, F27⟩ := c.def_ 27 (d := d_law_letters) rfl
  obtain ⟨fd28, F28⟩ := c.def_ 28 (d := d_law_name) rfl
  obtain ⟨fd29, F29⟩ := c.def_ 29 (d := d_law_names) rfl
  obtain ⟨fd30, F30⟩ := c.def_ 30 (d := d_law_good_deedC) rfl
  obtain ⟨fd31, F31⟩ := c.def_ 31 (d := d_law_alike) rfl
  obtain ⟨fd32, F32⟩ := c.def_ 32 (d := d_law_first_changes) rfl
  obtain ⟨fd33, F33⟩ := c.def_ 33 (d := d_law_flow) rfl
  obtain ⟨fd34, F34⟩ := c.def_ 34 (d := d_law_50) rfl
  have g0 := He.glo_ok X G (x := "name_of") (c.fact 21 rfl)
  have g1 := He.glo_ok X G (x := "mirrored") (c.fact 22 rfl)
  have g2 := He.glo_ok X G (x := "beads_in") (c.fact 23 rfl)
  have g3 := He.glo_ok X G (x := "names_in") (c.fact 24 rfl)
  have g4 := He.glo_ok X G (x := "look_alike") (c.fact 25 rfl)
  have g5 := He.glo_ok X G (x := "numbers_of") (c.fact 26 rfl)
  have g6 := He.glo_ok X G (x := "right_end") (c.fact 27 rfl)
  have g7 := He.glo_ok X G (x := "left_end") (c.fact 28 rfl)
  have g8 := He.glo_ok X G (x := "tied_points") (c.fact 29 rfl)
  have g9 := He.glo_ok X G (x := "ring_of") (c.fact 30 rfl)
  have g10 := He.glo_ok X G (x := "point_rings") (c.fact 31 rfl)
  have g11 := He.glo_ok X G (x := "change") (c.fact 32 rfl)
  have g12 := He.glo_ok X G (x := "changes_from") (c.fact 33 rfl)
  have g13 := He.glo_ok X G (x := "changed") (c.fact 34 rfl)
  have g14 := He.glo_ok X G (x := "numbers_for_changes") (c.fact 35 rfl)
  have g15 := He.glo_ok X G (x := "half_sum") (c.fact 36 rfl)
  have g16 := He.glo_ok X G (x := "fewest_changes") (c.fact 37 rfl)
  have g17 := He.glo_ok X G (x := "firsts_changes") (c.fact 38 rfl)
  have g18 := He.glo_ok X G (x := "_law_half") (c.fact 39 rfl)
  have g19 := He.glo_ok X G (x := "_law_changes") (c.fact 40 rfl)
  have g20 := He.glo_ok X G (x := "_law_mirrored") (c.fact 41 rfl)
  have g21 := He.glo_ok X G (x := "_law_turned") (c.fact 42 rfl)
  have g22 := He.glo_ok X G (x := "_law_changed") (c.fact 43 rfl)
  have g23 := He.glo_ok X G (x := "_law_line_behind") (c.fact 44 rfl)
  have g24 := He.glo_ok X G (x := "_law_pick") (c.fact 45 rfl)
  have g25 := He.glo_ok X G (x := "_law_shuffled") (c.fact 46 rfl)
  have g26 := He.glo_ok X G (x := "_law_line") (c.fact 47 rfl)
  have g27 := He.glo_ok X G (x := "_law_letters") (c.fact 48 rfl)
  have g28 := He.glo_ok X G (x := "_law_name") (c.fact 49 rfl)
  have g29 := He.glo_ok X G (x := "_law_names") (c.fact 50 rfl)
  have g30 := He.glo_ok X G (x := "_law_good_deed") (c.fact 51 rfl)
  have g31 := He.glo_ok X G (x := "_law_alike") (c.fact 52 rfl)
  have g32 := He.glo_ok X G (x := "_law_first_changes") (c.fact 53 rfl)
  have g33 := He.glo_ok X G (x := "_law_flow") (c.fact 54 rfl)
  have hdc : dcE K = true := cE.ex
  have e := hfa.symm.trans (He.glo_ok X G (x := "law") (c.fact 55 rfl))
  cases e
  have b := FunD.bindsA (ps := ["_law_script"]) F34 fun _ _ _ _ _ _ us hl => match us, hl with | [_], _ => rfl
  refine ⟨fd34, fun s v => b s [v] rfl, fun base _ _ => ?_⟩
  have bt := bt_of X G c
  have c_name_of := cal_name_of (P := P) (w := w) (base := base) bt g0 F0
  have c_mirrored := cal_mirrored (P := P) (w := w) (base := base) bt g1 F1
  have c_beads_in := cal_beads_in (P := P) (w := w) (base := base) bt g2 F2
  have c_names_in := cal_names_in (P := P) (w := w) (base := base) bt c_beads_in c_name_of g3 F3
  have c_look_alike := cal_look_alike (P := P) (w := w) (base := base) bt c_names_in g4 F4
  have c_numbers_of := cal_numbers_of (P := P) (w := w) (base := base) bt c_look_alike c_mirrored g5 F5
  have c_right_end_2 := cal_right_end_2 (P := P) (w := w) (base := base) bt g6 F6
  have c_left_end_2 := cal_left_end_2 (P := P) (w := w) (base := base) bt g7 F7
  have c_tied_points := cal_tied_points (P := P) (w := w) (base := base) bt c_right_end_2 c_left_end_2 g8 F8
  have c_ring_of := cal_ring_of (P := P) (w := w) (base := base) bt g9 F9
  have c_point_rings := cal_point_rings (P := P) (w := w) (base := base) bt c_tied_points c_ring_of g10 F10
  have c_change := cal_change (P := P) (w := w) (base := base) bt g11 F11
  have c_changes_from := cal_changes_from (P := P) (w := w) (base := base) bt g12 F12
  have c_changed := cal_changed (P := P) (w := w) (base := base) bt g13 F13
  have c_numbers_for_changes := cal_numbers_for_changes (P := P) (w := w) (base := base) bt c_numbers_of g14 F14
  have c_half_sum := cal_half_sum (P := P) (w := w) (base := base) bt c_point_rings g15 F15
  have c_fewest_changes := cal_fewest_changes (P := P) (w := w) (base := base) bt c_half_sum c_numbers_for_changes g16 F16
  have c_firsts_changes := cal_firsts_changes (P := P) (w := w) (base := base) bt c_numbers_for_changes c_half_sum c_changes_from c_changed g17 F17
  have c_law_half := cal_law_half (P := P) (w := w) (base := base) bt g18 F18
  have c_law_changes := cal_law_changes (P := P) (w := w) (base := base) bt g19 F19
  have c_law_mirrored := cal_law_mirrored (P := P) (w := w) (base := base) bt g20 F20
  have c_law_turned_2 := cal_law_turned_2 (P := P) (w := w) (base := base) bt c_law_mirrored g21 F21
  have c_law_changed := cal_law_changed (P := P) (w := w) (base := base) bt g22 F22
  have c_law_line_behind := cal_law_line_behind (P := P) (w := w) (base := base) bt c_law_turned_2 c_law_changed g23 F23
  have c_law_pick := cal_law_pick (P := P) (w := w) (base := base) bt g24 F24
  have c_law_shuffled := cal_law_shuffled (P := P) (w := w) (base := base) bt c_law_pick g25 F25
  have c_law_line := cal_law_line (P := P) (w := w) (base := base) bt c_law_shuffled c_law_pick g26 F26
  have c_law_letters := cal_law_letters (P := P) (w := w) (base := base) bt c_law_pick g27 F27
  have c_law_name := cal_law_name (P := P) (w := w) (base := base) bt c_law_letters c_law_pick g28 F28
  have c_law_names := cal_law_names (P := P) (w := w) (base := base) bt c_law_pick c_law_letters c_law_name g29 F29
  have c_law_good_deedC := cal_law_good_deedC (P := P) (w := w) (base := base) bt c_law_pick g30 F30
  have c_law_alike := cal_law_alike (P := P) (w := w) (base := base) bt g31 F31
  have c_law_first_changes := cal_law_first_changes (P := P) (w := w) (base := base) bt c_law_half c_law_changes c_law_line_behind g32 F32
  exact ok_law_50 bt c_law_pick c_law_line c_law_names c_law_shuffled c_law_line_behind c_law_good_deedC c_law_first_changes c_firsts_changes c_law_alike c_change c_law_half c_fewest_changes F33 g33 F34
end SwLaw
open PySem PySem.W PySem.Calls PyProof.Rows
theorem PySem.Challenge.cw_strandwright_k50_whole_first_changes_holds : PySem.Challenge.rw_strandwright_k50_whole_first_changes.Holds := by
  w_on; o_law
  refine HandSHeadRun.head_any (r := OpenLaw.row PySem.Challenge.rw_strandwright_k50_whole_first_changes) (q := view (OpenLaw.row PySem.Challenge.rw_strandwright_k50_whole_first_changes).prog [43]) (H := SwLaw.hk) (ob := SwLaw.ob) (M := 20000) (loose := SwLaw.looseN) (d := HandSHeadRun.topDef (OpenLaw.row PySem.Challenge.rw_strandwright_k50_whole_first_changes).prog 43) (kwd := []) SwLaw.ob_eq
    (by kernel_rfl) (fun s => by kernel_rfl) SwLaw.run (by kernel_rfl) (by kernel_rfl) (by kernel_rfl) (by rfl) (by first | assumption | decide +kernel) (by decide +kernel) SwLaw.bareR ?hw ?hc
  case hw => w_witness2
  case hc =>
    refine L2.walk_ofE (l := PySem.Challenge.rw_strandwright_k50_whole_first_changes) (n := 63) (k := 14) (x := "_law_script") (CX := L2.CX0) rfl (by decide) (by kernel_rfl) ⟨rfl, by decide, by decide⟩ ?F (fun _ _ _ _ z => z)
    intro w mg fa h Y G hmg0
    obtain ⟨K, KX, c⟩ := Y
    have hmg : mg ("law" : PySem.Str) = some (.ref fa) := by
      have e : (HandSHeadRun.topDef (OpenLaw.row PySem.Challenge.rw_strandwright_k50_whole_first_changes).prog 43).name = ("law" : PySem.Str) := by kernel_rfl
      rw [← e]
      exact hmg0
    obtain ⟨fd, hb, hF⟩ := SwLaw.facts (P := (PySem.Challenge.rw_strandwright_k50_whole_first_changes).prog) (w := w) KX G hmg c
    exact ⟨K, fd, Sw.spLaw ⟨K, (PySem.Challenge.rw_strandwright_k50_whole_first_changes).prog, w⟩, KX, hb, fun H a ns hl _ hS => ⟨a, ns, rfl, hl, hS, fun _ => rfl⟩, hF⟩
