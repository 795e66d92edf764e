import PyProof.Rows.All
import Wide.All
import OpenK.AllK
import Wide.FinOn
import HandS.ForMost
import HandS.Deep
import HandS.IsInst
import HandS.Exc
import HandS.ExcOwn
import HandS.TryOnly
import HandS.TryMany
import HandS.ExcCtx
import HandS.Conv
import KE.KDictKeyed
import KE.KeyNested
import HandS.TupAny
import HandS.Style
import KE.DataEq
import PyProof.StrBlock2
import HandS.Defaults
import HandS.HeadHook2
import HandS.HeadWalk
import HandS.Text
import KE.SortData
import KE.DataMinMax
import KE.DataCmp
import HandS.Iter
import HandS.SetFor
import HandS.SetKeys
import HandS.TupSets
import HandS.HeadHook1
import HandS.HeadHook3
import HandS.ExcInit
import HandS.ExcField
import HandS.ExcIs
import HandS.CallSlots
import HandS.Small
import KE.KExcIs
import HandS.JoinGen
import HandS.SetBool
import HandS.ReplaceLit
import HandS.ReplaceDef
import HandS.Head0
import HandS.Head1
import HandS.Head2
import HandS.HeadEnd
import HandS.Walk
import HandS.StrMore
import HandS.StrSplit
import HandS.MapJoin
import KE.SortKeyHeap
import HandS.FromBytesMap
import HandS.SortKw
import HandS.TupLe
import KE.KDictSum
import KE.KDictCopyH
import PyProof.TupleOfSeq
import HandS.RaiseMore
import PyProof.ListStr
import PyProof.TupleOfStr
import HandS.Strs
import KE.KDictDisplayH
import KE.KItemsList
import HandS.DictTup
import HandS.TupLen
import HandS.FStr
import KE.GoesComp
import HandS.RaiseFrom
import HandS.SuiteRaise
import HandS.ExcInitHot
import HandS.Rev
import HandS.List
import HandS.HotCalls
import PySem.Challenge.RW_strandwright_k59_all_sets_of_few
set_option Elab.async false
set_option linter.all false
set_option maxRecDepth 100000
namespace Sw
open PySem PySem.Spec L2

structure FgK where
  K : PySem.W.Frag
  P : Program
  w : World
instance : Coe FgK PySem.W.Frag := ⟨FgK.K⟩

abbrev D := PyData
def kD : Key → D
  | .inl i => .int i
  | .inr x => .str x
/-- a key as data -/
def nkD : NestedKey → D := NestedKey.data
/-- what stands at a: a dict whose keys are tuples, the tuples' places by it -/
def IsN (K : FgK) (a : Addr) (xs : List (NestedKey × Addr × V)) (o : HO) : Prop :=
  o = .ext fun h => xs.length ≤ sizeLine ∧ (a == sysModules) = false ∧ (∀ x ∈ xs, ∃ z, x.1 = .tup z ∧ x.1.depth ≤ 8) ∧ ∃ us : List (NestedKey × Addr × Value), Paired (fun (p : NestedKey × Addr × V) (q : NestedKey × Addr × Value) => p.1 = q.1 ∧ p.2.1 = q.2.1 ∧ RelV p.2.2 q.2.2) xs us ∧
    ∃ ob es ep, h.get? a = some ob ∧ ob.ExactDict ∧ ob.data = .dict es ep ∧ es.toList = us.map (entryOfKey (nestedKind K.P K.w)) ∧ (us.map (·.1)).Nodup
/-- a tuple that is tracked, or written -/
def TupAt (K : FgK) (H : Hp) (a : Addr) (xs : List V) : Prop := H a = some (.tup xs) ∨ SqT K (fun _ => none) a xs
theorem TupAt.sqT {K : FgK} {H : Hp} {a : Addr} {xs : List V} (h : TupAt K H a xs) : SqT K H a xs := by
  rcases h with h | (h | ⟨o, h⟩) | h
  · exact SqT.of h
  · cases h
  · cases h
  · exact .inr h
mutual
def At (K : FgK) (H : Hp) : D → V → Prop
  | .none, v => v = .non
  | .bool b, v => v = .bl b
  | .int i, v => v = .int i
  | .str x, v => v = .str x
  | .list ds, v => ∃ a xs, v = .ref a ∧ H a = some (.lst xs) ∧ AtAll K H ds xs
  | .tuple ds, v => ∃ a xs, v = .ref a ∧ TupAt K H a xs ∧ AtAll K H ds xs
  | .dict kds, v => ∃ a od o, v = .ref a ∧ H a = some (.frz od o) ∧ ((∃ kvs, o = .dK kvs ∧ AtK K H kds kvs) ∨ ∃ xs, IsN K a xs o ∧ AtN K H kds xs)
def AtAll (K : FgK) (H : Hp) : List D → List V → Prop
  | [], xs => xs = []
  | d :: ds, xs => ∃ x r, xs = x :: r ∧ At K H d x ∧ AtAll K H ds r
def AtK (K : FgK) (H : Hp) : List (D × D) → List (Key × V) → Prop
  | [], xs => xs = []
  | (k, d) :: ds, xs => ∃ kk x r, xs = (kk, x) :: r ∧ k = kD kk ∧ At K H d x ∧ AtK K H ds r
def AtN (K : FgK) (H : Hp) : List (D × D) → List (NestedKey × Addr × V) → Prop
  | [], xs => xs = []
  | (k, d) :: ds, xs => ∃ kk b x r, xs = (kk, b, x) :: r ∧ k = nkD kk ∧ At K H k (.ref b) ∧ At K H d x ∧ AtN K H ds r
end
abbrev Le (F F' : Hp) : Prop := ∀ b o, F b = some o → F' b = some o
theorem Le.rfl' {F : Hp} : Le F F := fun _ _ h => h
theorem Le.trans' {F F' F'' : Hp} (a : Le F F') (b : Le F' F'') : Le F F'' := fun c o h => b c o (a c o h)
theorem Le.tupAt {K : FgK} {F F' : Hp} (h : Le F F') {a : Addr} {xs : List V} (q : TupAt K F a xs) : TupAt K F' a xs := by
  rcases q with q | q
  · exact .inl (h _ _ q)
  · exact .inr q
section
variable {K : FgK} {F F' : Hp}
mutual
theorem At.mono (h : Le F F') : ∀ (d : D) (v : V), At K F d v → At K F' d v
  | .none, v, q => by simpa [At] using q
  | .bool b, v, q => by simpa [At] using q
  | .int i, v, q => by simpa [At] using q
  | .str x, v, q => by simpa [At] using q
  | .list ds, v, q => by
    simp only [At] at q ⊢
    obtain ⟨a, xs, e, q, r⟩ := q
    exact ⟨a, xs, e, h _ _ q, AtAll.mono h ds xs r⟩
  | .tuple ds, v, q => by
    simp only [At] at q ⊢
    obtain ⟨a, xs, e, q, r⟩ := q
    exact ⟨a, xs, e, Le.tupAt h q, AtAll.mono h ds xs r⟩
  | .dict kds, v, q => by
    simp only [At] at q ⊢
    obtain ⟨a, od, o, e, q0, q⟩ := q
    rcases q with ⟨kvs, q, r⟩ | ⟨xs, q, r⟩
    · exact ⟨a, od, o, e, h _ _ q0, .inl ⟨kvs, q, AtK.mono h kds kvs r⟩⟩
    · exact ⟨a, od, o, e, h _ _ q0, .inr ⟨xs, q, AtN.mono h kds xs r⟩⟩
theorem AtAll.mono (h : Le F F') : ∀ (ds : List D) (xs : List V), AtAll K F ds xs → AtAll K F' ds xs
  | [], xs, q => by simpa [AtAll] using q
  | d :: ds, xs, q => by
    simp only [AtAll] at q ⊢
    obtain ⟨x, r, e, q, s⟩ := q
    exact ⟨x, r, e, At.mono h d x q, AtAll.mono h ds r s⟩
theorem AtK.mono (h : Le F F') : ∀ (ds : List (D × D)) (xs : List (Key × V)), AtK K F ds xs → AtK K F' ds xs
  | [], xs, q => by simpa [AtK] using q
  | (k, d) :: ds, xs, q => by
    simp only [AtK] at q ⊢
    obtain ⟨kk, x, r, e, e2, q, s⟩ := q
    exact ⟨kk, x, r, e, e2, At.mono h d x q, AtK.mono h ds r s⟩
theorem AtN.mono (h : Le F F') : ∀ (ds : List (D × D)) (xs : List (NestedKey × Addr × V)), AtN K F ds xs → AtN K F' ds xs
  | [], xs, q => by simpa [AtN] using q
  | (k, d) :: ds, xs, q => by
    simp only [AtN] at q ⊢
    obtain ⟨kk, b, x, r, e, e2, q1, q, s⟩ := q
    exact ⟨kk, b, x, r, e, e2, At.mono h k (.ref b) q1, At.mono h d x q, AtN.mono h ds r s⟩
end
theorem AtAll.nil : AtAll K F [] [] := by simp [AtAll]
theorem AtAll.cons {d : D} {ds : List D} {x : V} {xs : List V} (h : At K F d x) (r : AtAll K F ds xs) : AtAll K F (d :: ds) (x :: xs) := by
  simp only [AtAll]
  exact ⟨x, xs, rfl, h, r⟩
theorem AtAll.len : ∀ {ds : List D} {xs : List V}, AtAll K F ds xs → xs.length = ds.length
  | [], xs, h => by simp only [AtAll] at h; subst h; rfl
  | d :: ds, xs, h => by
    simp only [AtAll] at h
    obtain ⟨x, r, rfl, _, q⟩ := h
    simp [AtAll.len q]
theorem AtAll.app : ∀ {ds es : List D} {xs ys : List V}, AtAll K F ds xs → AtAll K F es ys → AtAll K F (ds ++ es) (xs ++ ys)
  | [], es, xs, ys, h, g => by simp only [AtAll] at h; subst h; exact g
  | d :: ds, es, xs, ys, h, g => by
    simp only [AtAll] at h
    obtain ⟨x, r, rfl, a, q⟩ := h
    exact AtAll.cons a (AtAll.app q g)
theorem AtAll.get : ∀ {ds : List D} {xs : List V} {i : Nat} {d : D}, AtAll K F ds xs → ds[i]? = some d → ∃ x, xs[i]? = some x ∧ At K F d x
  | [], _, _, _, _, e => by simp at e
  | d :: ds, xs, i, d', h, e => by
    simp only [AtAll] at h
    obtain ⟨x, r, rfl, a, q⟩ := h
    cases i with
    | zero => simp at e; subst e; exact ⟨x, rfl, a⟩
    | succ i => exact AtAll.get (i := i) q (by simpa using e)
theorem AtAll.set : ∀ {ds : List D} {xs : List V} {i : Nat} {d : D} {x : V}, AtAll K F ds xs → At K F d x → AtAll K F (ds.set i d) (xs.set i x)
  | [], xs, i, d, x, h, g => by simp only [AtAll] at h; subst h; exact AtAll.nil
  | d0 :: ds, xs, i, d, x, h, g => by
    simp only [AtAll] at h
    obtain ⟨y, r, rfl, a, q⟩ := h
    cases i with
    | zero => exact AtAll.cons g q
    | succ i => exact AtAll.cons a (AtAll.set q g)
theorem AtAll.drop : ∀ {ds : List D} {xs : List V} (n : Nat), AtAll K F ds xs → AtAll K F (ds.drop n) (xs.drop n)
  | _, _, 0, h => h
  | [], xs, n + 1, h => by simp only [AtAll] at h; subst h; exact AtAll.nil
  | d :: ds, xs, n + 1, h => by
    simp only [AtAll] at h
    obtain ⟨y, r, rfl, a, q⟩ := h
    exact AtAll.drop n q
theorem AtAll.take : ∀ {ds : List D} {xs : List V} (n : Nat), AtAll K F ds xs → AtAll K F (ds.take n) (xs.take n)
  | _, _, 0, h => by simp; exact AtAll.nil
  | [], xs, n + 1, h => by simp only [AtAll] at h; subst h; exact AtAll.nil
  | d :: ds, xs, n + 1, h => by
    simp only [AtAll] at h
    obtain ⟨y, r, rfl, a, q⟩ := h
    exact AtAll.cons a (AtAll.take n q)
end

inductive Ct where
  | lst (ds : List D)
  /-- t: the keys are tuples -/
  | dic (t : Bool) (kds : List (D × D))
def Ct.toD : Ct → D
  | .lst ds => .list ds
  | .dic _ kds => .dict kds
inductive SV where
  | un
  /-- a slot that holds just this value (an exception in hand) -/
  | raw (v : V)
  | dat (d : D)
  /-- a list or a dict that only this slot holds; l: it was lent by the caller -/
  | obj (l : Bool) (c : Ct)
abbrev SV.own (l : Bool) (ds : List D) : SV := .obj l (.lst ds)
abbrev SV.dic (t : Bool) (kds : List (D × D)) : SV := .obj false (.dic t kds)
/-- what stands at p is this list, this dict -/
def CtOk (K : FgK) (F : Hp) (p : Addr) (o : HO) : Ct → Prop
  | .lst ds => ∃ xs, o = .lst xs ∧ AtAll K F ds xs
  | .dic false kds => ∃ kvs, o = .dK kvs ∧ AtK K F kds kvs
  | .dic true kds => ∃ xs, IsN K p xs o ∧ AtN K F kds xs
theorem CtOk.mono {K : FgK} {F F' : Hp} (h : Le F F') {p : Addr} {o : HO} {c : Ct} (a : CtOk K F p o c) : CtOk K F' p o c := by
  cases c with
  | lst ds =>
    obtain ⟨xs, e, a⟩ := a
    exact ⟨xs, e, AtAll.mono h _ _ a⟩
  | dic t kds =>
    cases t with
    | false =>
      obtain ⟨xs, e, a⟩ := a
      exact ⟨xs, e, AtK.mono h _ _ a⟩
    | true =>
      obtain ⟨xs, e, a⟩ := a
      exact ⟨xs, e, AtN.mono h _ _ a⟩
structure Ec where
  H0 : Hp
  F0 : Hp
  la : Option Addr
def Own (σ : L2.St) (env : List SV) (b : Addr) : Prop := ∃ (i : Nat) (l : Bool) (c : Ct), env[i]? = some (SV.obj l c) ∧ σ[i]? = some (some (.ref b))
def SlotOk (K : FgK) (C : Ec) (H F : Hp) (o : Option (Option V)) : SV → Prop
  | .un => True
  | .raw v => o = some (some v)
  | .dat d => ∃ v, o = some (some v) ∧ At K F d v
  | .obj l c => ∃ p u, o = some (some (.ref p)) ∧ H p = some u ∧ F p = none ∧ (if l = true then C.la = some p else C.H0 p = none) ∧ CtOk K F p u c
structure RelB (K : FgK) (C : Ec) (σ : L2.St) (H F : Hp) (env : List SV) : Prop where
  frz : Le F H
  mono : Le C.F0 F
  new : ∀ b o, F b = some o → C.F0 b = some o ∨ C.H0 b = none
  frame : ∀ b o, C.H0 b = some o → C.la ≠ some b → H b = some o
  la : ∀ a, C.la = some a → (∃ o : {o : HO // Mut (some o)}, H a = some o.1) ∧ F a = none ∧ ∃ o, C.H0 a = some o
  len : env.length = σ.length
  slot : ∀ (i : Nat) (sv : SV), env[i]? = some sv → SlotOk K C H F σ[i]? sv
  dist : ∀ (i j : Nat) (l : Bool) (ds : Ct) (m : Bool) (es : Ct), env[i]? = some (SV.obj l ds) → env[j]? = some (SV.obj m es) → σ[i]? = σ[j]? → i = j
/-- a refusal: its class, its field and what the field holds -/
structure XV where
  c : Str
  f : Option (Str × D)
/-- what is wished of a refusal, with the slots as they then are -/
abbrev XP := XV → List SV → Prop
/-- a datum that is no object, as a value -/
def atomV : D → Option V
  | .none => some .non
  | .bool b => some (.bl b)
  | .int i => some (.int i)
  | .str x => some (.str x)
  | _ => none
/-- the refusal in the heap: its class's object, its own dict -/
def XvOk (mg : Str → Option Value) (H : Hp) (xv : XV) (cls : Value) (d : Option Addr) : Prop :=
  mg xv.c = some cls ∧ match xv.f with
    | none => d = none
    | some (f, x) => ∃ dd v, d = some dd ∧ H dd = some (.xd [(f, v)]) ∧ atomV x = some v
structure FgX where
  b : FgK
  mg : Str → Option Value
  W : WX
  Ep : XP
  ck : Ec → Prop
instance : Coe FgX FgK := ⟨FgX.b⟩
def XOk (K : FgX) (C : Ec) : Prop := K.ck C ∧ ∀ (σ' : L2.St) (H' F' : Hp) (env' : List SV) (cls : Value) (d : Option Addr) (xv : XV), RelB K.b C σ' H' F' env' → (∀ dd, d = some dd → C.H0 dd = none ∧ F' dd = none ∧ ¬ Own σ' env' dd) → XvOk K.mg H' xv cls d → K.Ep xv env' → K.W cls d σ' H'
structure Rel (K : FgX) (C : Ec) (σ : L2.St) (H F : Hp) (env : List SV) : Prop extends RelB K.b C σ H F env where
  xok : XOk K C
/-- a context with what is wished of refusals -/
theorem sky_imp {B : Heap} {l : List Env} {a : Addr} {Z Z' : Obj → Prop} {L : Addr} {h : Heap} (z : ∀ o, Z o → Z' o) (x : Sky B l a Z L h) : Sky B l a Z' L h := by
  have tr : ∀ {fl : Value}, PySem.HandSPX.TracedZ h B a Z fl → PySem.HandSPX.TracedZ h B a Z' fl := fun x => by
    obtain ⟨oe, vs, T, oT, ts, he, hz, r⟩ := x
    exact ⟨oe, vs, T, oT, ts, he, z _ hz, r⟩
  rcases x with ⟨hB, hn, hl, oe, vs, he, hz, hd, h1⟩ | fl | hh
  · exact .inl ⟨hB, hn, hl, oe, vs, he, z _ hz, hd, h1⟩
  · exact .inr (.inl ⟨fl.1, fl.2.1, fl.2.2.1, tr fl.2.2.2⟩)
  · exact .inr (.inr ⟨hh.1, hh.2.1, hh.2.2.1, tr hh.2.2.2⟩)
/-- what is taken of exceptions: those whose context is None, all of them -/
structure TK (b : Bool) (X : L2.Cx) (W : WX) : Prop where
  n : L2N.Takes X W
  a : b = true → L2.Takes X W
theorem TK.of {b : Bool} {X : L2.Cx} {W : WX} (t : L2.Takes X W) : TK b X W := ⟨fun u s' ⟨a, B, sI, pins, σ, H, cls, d, e, I, nb, up, sky, na, os, ag, w⟩ => t u s' ⟨a, B, sI, pins, σ, H, cls, d, e, I, nb, up, sky_imp (fun _ z => z.zc) sky, na, os, ag, w⟩, fun _ => t⟩
structure Cz extends L2.Cx where
  W : WX
  Ep : XP
  al : Bool
  tk : TK al toCx W
  ck : Ec → Prop
instance : Coe Cz L2.Cx := ⟨Cz.toCx⟩
abbrev Cz.fr (X : Cz) : FgX := ⟨⟨X.K, X.prog, X.w⟩, X.mg, X.W, X.Ep, X.ck⟩
/-- no refusal -/
abbrev wNo : WX := fun _ _ _ _ => False
abbrev pNo : XP := fun _ _ => False
theorem xok_no {K : FgX} {C : Ec} (h : K.Ep = pNo) (c : K.ck C := by trivial) : XOk K C := ⟨c, fun _ _ _ _ _ _ _ _ _ _ e => by rw [h] at e; exact e.elim⟩
structure Stp (K : FgX) (C : Ec) (σ : L2.St) (H F : Hp) (env : List SV) (H' F' : Hp) (env' : List SV) : Prop where
  rel : Rel K C σ H' F' env'
  ff : Le F F'
  fr : ∀ b o, H b = some o → ¬ Own σ env b → H' b = some o
  fn : ∀ b o, F' b = some o → F b = some o ∨ H b = none ∨ Own σ env b
  ow : ∀ (i : Nat) (l : Bool) (ds : Ct), env'[i]? = some (SV.obj l ds) → ∃ ds', env[i]? = some (SV.obj l ds')
  dm : ∀ b, H' b = none → H b = none
section
variable {K : FgX} {C : Ec} {σ : L2.St} {H F H1 F1 H2 F2 : Hp} {env env1 env2 : List SV}
theorem Stp.refl (R : Rel K C σ H F env) : Stp K C σ H F env H F env := ⟨R, fun _ _ h => h, fun _ _ h _ => h, fun _ _ h => .inl h, fun i l ds h => ⟨ds, h⟩, fun _ h => h⟩
theorem Own.sub (w : ∀ (i : Nat) (l : Bool) (ds : Ct), env1[i]? = some (SV.obj l ds) → ∃ ds', env[i]? = some (SV.obj l ds')) {b : Addr} (h : Own σ env1 b) : Own σ env b := by
  obtain ⟨i, l, ds, e, s⟩ := h
  obtain ⟨ds', e'⟩ := w i l ds e
  exact ⟨i, l, ds', e', s⟩
theorem Stp.trans (a : Stp K C σ H F env H1 F1 env1) (b : Stp K C σ H1 F1 env1 H2 F2 env2) : Stp K C σ H F env H2 F2 env2 where
  rel := b.rel
  ff := fun c o h => b.ff c o (a.ff c o h)
  fr := fun c o h n => b.fr c o (a.fr c o h n) fun z => n (Own.sub a.ow z)
  fn := fun c o h => by
    rcases b.fn c o h with z | z | z
    · exact a.fn c o z
    · exact .inr (.inl (a.dm c z))
    · exact .inr (.inr (Own.sub a.ow z))
  ow := fun i l ds h => by
    obtain ⟨ds', e⟩ := b.ow i l ds h
    exact a.ow i l ds' e
  dm := fun c h => a.dm c (b.dm c h)
/-- a new object, known for good -/
theorem Rel.alloc (R : Rel K C σ H F env) {p : Addr} {o : HO} (hp : H p = none) : Stp K C σ H F env (upd H p o) (upd F p o) env := by
  have fp : F p = none := by
    cases q : F p with
    | none => rfl
    | some u => rw [R.frz p u q] at hp; cases hp
  have h0 : C.H0 p = none := by
    cases q : C.H0 p with
    | none => rfl
    | some u =>
      by_cases hl : C.la = some p
      · obtain ⟨⟨xs, e⟩, _⟩ := R.la p hl
        rw [e] at hp; cases hp
      · rw [R.frame p u q hl] at hp; cases hp
  have ff : Le F (upd F p o) := fun b u h => by
    rw [upd_ne (ne_of_none h fp)]; exact h
  refine ⟨⟨⟨fun b u h => ?_, fun b u h => ff b u (R.mono b u h), fun b u h => ?_, fun b u h n => ?_, fun a h => ?_, R.len, fun i sv e => ?_, R.dist⟩, R.xok⟩, ff, fun b u h _ => ?_, fun b u h => ?_, fun i l ds h => ⟨ds, h⟩, fun b h => ?_⟩
  · by_cases e : b = p
    · subst e; rw [upd_same] at h ⊢; exact h
    · rw [upd_ne e] at h ⊢; exact R.frz b u h
  · by_cases e : b = p
    · subst e; exact .inr h0
    · rw [upd_ne e] at h; exact R.new b u h
  · have q := R.frame b u h n
    rw [upd_ne (ne_of_none q hp)]; exact q
  · obtain ⟨⟨xs, e⟩, f, g⟩ := R.la a h
    have ne : a ≠ p := ne_of_none e hp
    exact ⟨⟨xs, by rw [upd_ne ne]; exact e⟩, by rw [upd_ne ne]; exact f, g⟩
  · have q := R.slot i sv e
    cases sv with
    | un => trivial
    | raw z => exact q
    | dat d =>
      obtain ⟨v, e1, a⟩ := q
      exact ⟨v, e1, At.mono ff d v a⟩
    | obj l ds =>
      obtain ⟨r, xs, e1, e2, e3, e4, e5⟩ := q
      have ne : r ≠ p := ne_of_none e2 hp
      exact ⟨r, xs, e1, by rw [upd_ne ne]; exact e2, by rw [upd_ne ne]; exact e3, e4, e5.mono ff⟩
  · rw [upd_ne (ne_of_none h hp)]; exact h
  · by_cases e : b = p
    · subst e; exact .inr (.inl hp)
    · rw [upd_ne e] at h; exact .inl h
  · by_cases e : b = p
    · subst e; exact hp
    · rw [upd_ne e] at h; exact h
/-- a list that stands, not known and in no slot, is known from here on -/
theorem Rel.freeze (R : Rel K C σ H F env) {p : Addr} {o : HO} (hp : H p = some o) (fp : F p = none) (h0 : C.H0 p = none) (no : ¬ Own σ env p) : Rel K C σ H (upd F p o) env := by
  have ff : Le F (upd F p o) := fun b u h => by
    rw [upd_ne (ne_of_none h fp)]; exact h
  refine ⟨⟨fun b u h => ?_, fun b u h => ff b u (R.mono b u h), fun b u h => ?_, R.frame, fun a h => ?_, R.len, fun i sv e => ?_, R.dist⟩, R.xok⟩
  · by_cases e : b = p
    · subst e; rw [upd_same] at h; cases h; exact hp
    · rw [upd_ne e] at h; exact R.frz b u h
  · by_cases e : b = p
    · subst e; exact .inr h0
    · rw [upd_ne e] at h; exact R.new b u h
  · obtain ⟨e, f, g⟩ := R.la a h
    refine ⟨e, ?_, g⟩
    have ne : a ≠ p := by
      rintro rfl
      obtain ⟨o', g⟩ := g
      rw [g] at h0; cases h0
    rw [upd_ne ne]; exact f
  · have q := R.slot i sv e
    cases sv with
    | un => trivial
    | raw z => exact q
    | dat d =>
      obtain ⟨v, e1, a⟩ := q
      exact ⟨v, e1, At.mono ff d v a⟩
    | obj l ds =>
      obtain ⟨r, xs, e1, e2, e3, e4, e5⟩ := q
      have ne : r ≠ p := by
        rintro rfl
        exact no ⟨i, l, ds, e, e1⟩
      exact ⟨r, xs, e1, e2, by rw [upd_ne ne]; exact e3, e4, e5.mono ff⟩
/-- the list of a slot is known from here on -/
theorem Rel.freezeSlot (R : Rel K C σ H F env) {i : Nat} {ds : List D} (he : env[i]? = some (.own false ds)) :
    ∃ F1 p, σ[i]? = some (some (.ref p)) ∧ Stp K C σ H F env H F1 (env.set i (.dat (.list ds))) ∧ At K F1 (.list ds) (.ref p) := by
  obtain ⟨p, u, e1, e2, e3, e4, xs, rfl, e5⟩ := R.slot i _ he
  rw [if_neg (by decide)] at e4
  have ff : Le F (upd F p (.lst xs)) := fun b u h => by
    rw [upd_ne (ne_of_none h e3)]; exact h
  have hi : i < env.length := (List.getElem?_eq_some_iff.mp he).1
  have at1 : At K (upd F p (.lst xs)) (.list ds) (.ref p) := by
    exact (by simp only [At]; exact ⟨p, xs, rfl, upd_same, AtAll.mono ff _ _ e5⟩)
  have oth : ∀ (j : Nat) (l : Bool) (es : Ct), (env.set i (.dat (.list ds)))[j]? = some (.obj l es) → j ≠ i ∧ env[j]? = some (.obj l es) := fun j l es h => by
    by_cases e : j = i
    · subst e; rw [List.getElem?_set_self hi] at h; cases h
    · rw [List.getElem?_set_ne (Ne.symm e)] at h; exact ⟨e, h⟩
  refine ⟨upd F p (.lst xs), p, e1, ⟨⟨⟨fun b u h => ?_, fun b u h => ff b u (R.mono b u h), fun b u h => ?_, R.frame, fun a h => ?_, by rw [List.length_set]; exact R.len, fun j sv e => ?_, fun j k l es m fs h1 h2 h3 => ?_⟩, R.xok⟩, ff, fun b u h _ => h, fun b u h => ?_, fun j l es h => ⟨es, (oth j l es h).2⟩, fun _ h => h⟩, at1⟩
  · by_cases e : b = p
    · subst e; rw [upd_same] at h; cases h; exact e2
    · rw [upd_ne e] at h; exact R.frz b u h
  · by_cases e : b = p
    · subst e; exact .inr e4
    · rw [upd_ne e] at h; exact R.new b u h
  · obtain ⟨e, f, g⟩ := R.la a h
    refine ⟨e, ?_, g⟩
    have ne : a ≠ p := by
      rintro rfl
      obtain ⟨o', g⟩ := g
      rw [g] at e4; cases e4
    rw [upd_ne ne]; exact f
  · by_cases e' : j = i
    · subst e'
      rw [List.getElem?_set_self hi] at e
      cases e
      exact ⟨_, e1, at1⟩
    · rw [List.getElem?_set_ne (Ne.symm e')] at e
      have q := R.slot j sv e
      cases sv with
      | un => trivial
      | raw z => exact q
      | dat d =>
        obtain ⟨v, f1, a⟩ := q
        exact ⟨v, f1, At.mono ff d v a⟩
      | obj l es =>
        obtain ⟨r, ys, f1, f2, f3, f4, f5⟩ := q
        have ne : r ≠ p := by
          rintro rfl
          exact e' (R.dist j i l es false (.lst ds) e he (f1.trans e1.symm))
        exact ⟨r, ys, f1, f2, by rw [upd_ne ne]; exact f3, f4, f5.mono ff⟩
  · obtain ⟨_, h1⟩ := oth j l es h1
    obtain ⟨_, h2⟩ := oth k m fs h2
    exact R.dist j k l es m fs h1 h2 h3
  · by_cases e : b = p
    · subst e; exact .inr (.inr ⟨i, false, .lst ds, he, e1⟩)
    · rw [upd_ne e] at h; exact .inl h
end
end Sw

set_option Elab.async false
set_option linter.all false
set_option maxRecDepth 100000
namespace Sw
open PySem PySem.Spec L2

inductive OV where
  | dv (x : D)
  | sl (i : Nat)
def OvOk (K : FgK) (σ : L2.St) (F : Hp) : OV → V → Prop
  | .dv x, v => At K F x v
  | .sl i, v => σ[i]? = some (some v)
def svD : SV → Option D
  | .dat d => some d
  | .obj _ c => some c.toD
  | .un => none
  | .raw _ => none
/-- the data of a value, as it is now -/
def OV.rd (env : List SV) : OV → Option D
  | .dv x => some x
  | .sl i => env[i]?.bind svD
/-- the data of a value, known from here on -/
def OV.fz (env : List SV) : OV → Option (D × List SV)
  | .dv x => some (x, env)
  | .sl i => match env[i]? with
    | some (.dat d) => some (d, env)
    | some (.obj false (.lst ds)) => some (.list ds, env.set i (.dat (.list ds)))
    | _ => none
def fzAll (env : List SV) : List OV → Option (List D × List SV)
  | [] => some ([], env)
  | o :: r => (o.fz env).bind fun p => (fzAll p.2 r).map fun q => (p.1 :: q.1, q.2)
/-- data that is read: the outermost list may be a slot's own -/
def Vw (K : FgK) (H F : Hp) : D → V → Prop
  | .list ds, v => ∃ p xs, v = .ref p ∧ H p = some (.lst xs) ∧ AtAll K F ds xs
  | .dict kds, v => ∃ p o, v = .ref p ∧ Rd H p o ∧ ∃ t, CtOk K F p o (.dic t kds)
  | d, v => At K F d v
section
variable {K : FgX} {C : Ec} {σ : L2.St} {H F H1 F1 H2 F2 : Hp} {env env1 env2 : List SV} {ov : OV} {v : V} {d : D}
theorem OvOk.of {d : D} (h : At K F d v) : OvOk K σ F (.dv d) v := h
theorem OvOk.mono (h : Le F F1) (a : OvOk K σ F ov v) : OvOk K σ F1 ov v := by
  cases ov with
  | dv x => exact At.mono h x v a
  | sl i => exact a
theorem Vw.of (R : Le F H) (a : At K F d v) : Vw K H F d v := by
  cases d with
  | list ds =>
    simp only [At] at a
    obtain ⟨p, xs, e, h, r⟩ := a
    exact ⟨p, xs, e, R _ _ h, r⟩
  | none => exact a
  | bool b => exact a
  | int i => exact a
  | str x => exact a
  | tuple ds => exact a
  | dict kds =>
    simp only [At] at a
    obtain ⟨p, od, o, e, h, r⟩ := a
    rcases r with r | r
    · exact ⟨p, o, e, .inr ⟨od, R _ _ h⟩, false, r⟩
    · exact ⟨p, o, e, .inr ⟨od, R _ _ h⟩, true, r⟩
theorem rd_vw (R : Rel K C σ H F env) (a : OvOk K σ F ov v) (e : ov.rd env = some d) : Vw K H F d v := by
  cases ov with
  | dv x =>
    simp only [OV.rd, Option.some.injEq] at e
    subst e
    exact Vw.of R.frz a
  | sl i =>
    simp only [OV.rd] at e
    cases q : env[i]? with
    | none => rw [q] at e; cases e
    | some sv =>
      rw [q] at e
      have w := R.slot i sv q
      have a : σ[i]? = some (some v) := a
      cases sv with
      | un => cases e
      | raw z => cases e
      | dat d' =>
        simp only [Option.bind_some, svD, Option.some.injEq] at e
        subst e
        obtain ⟨v', e1, a'⟩ := w
        rw [a] at e1
        cases e1
        exact Vw.of R.frz a'
      | obj l c =>
        simp only [Option.bind_some, svD, Option.some.injEq] at e
        subst e
        obtain ⟨p, u, e1, e2, e3, e4, e5⟩ := w
        rw [a] at e1
        cases e1
        cases c with
        | lst ds =>
          obtain ⟨xs, rfl, e5⟩ := e5
          exact ⟨p, xs, rfl, e2, e5⟩
        | dic t kds => exact ⟨p, u, rfl, .inl e2, t, e5⟩
theorem fz_ok (R : Rel K C σ H F env) (a : OvOk K σ F ov v) (e : ov.fz env = some (d, env1)) : ∃ F1, Stp K C σ H F env H F1 env1 ∧ At K F1 d v := by
  cases ov with
  | dv x =>
    simp only [OV.fz, Option.some.injEq, Prod.mk.injEq] at e
    obtain ⟨rfl, rfl⟩ := e
    exact ⟨F, Stp.refl R, a⟩
  | sl i =>
    have a : σ[i]? = some (some v) := a
    simp only [OV.fz] at e
    split at e
    · rename_i d' q
      simp only [Option.some.injEq, Prod.mk.injEq] at e
      obtain ⟨rfl, rfl⟩ := e
      obtain ⟨v', e1, a'⟩ := R.slot i _ q
      rw [a] at e1
      cases e1
      exact ⟨F, Stp.refl R, a'⟩
    · rename_i ds q
      simp only [Option.some.injEq, Prod.mk.injEq] at e
      obtain ⟨rfl, rfl⟩ := e
      obtain ⟨F1, p, e1, st, a'⟩ := R.freezeSlot q
      rw [a] at e1
      cases e1
      exact ⟨F1, st, a'⟩
    · cases e
def OvsOk (K : FgK) (σ : L2.St) (F : Hp) : List OV → List V → Prop
  | [], vs => vs = []
  | o :: os, vs => ∃ v r, vs = v :: r ∧ OvOk K σ F o v ∧ OvsOk K σ F os r
theorem OvsOk.mono (h : Le F F1) : ∀ {os : List OV} {vs : List V}, OvsOk K σ F os vs → OvsOk K σ F1 os vs
  | [], vs, a => a
  | o :: os, vs, a => by
    obtain ⟨v, r, e, b, c⟩ := a
    exact ⟨v, r, e, b.mono h, OvsOk.mono h c⟩
theorem fzAll_ok : ∀ {os : List OV} {vs : List V} {ds : List D} {F : Hp} {env env1 : List SV}, Rel K C σ H F env → OvsOk K σ F os vs → fzAll env os = some (ds, env1) → ∃ F1, Stp K C σ H F env H F1 env1 ∧ AtAll K F1 ds vs
  | [], vs, ds, F, env, env1, R, a, e => by
    simp only [fzAll, Option.some.injEq, Prod.mk.injEq] at e
    obtain ⟨rfl, rfl⟩ := e
    have a : vs = [] := a
    exact ⟨F, Stp.refl R, by simpa [AtAll] using a⟩
  | o :: os, vs, ds, F, env, env1, R, a, e => by
    obtain ⟨v, r, rfl, b, c⟩ := a
    simp only [fzAll] at e
    cases q : o.fz env with
    | none => rw [q] at e; cases e
    | some p =>
      obtain ⟨d, env2⟩ := p
      rw [q] at e
      simp only [Option.bind_some] at e
      cases q2 : fzAll env2 os with
      | none => rw [q2] at e; cases e
      | some p2 =>
        obtain ⟨ds2, env3⟩ := p2
        rw [q2] at e
        simp only [Option.map_some, Option.some.injEq, Prod.mk.injEq] at e
        obtain ⟨rfl, rfl⟩ := e
        obtain ⟨F1, s1, a1⟩ := fz_ok R b q
        obtain ⟨F2, s2, a2⟩ := fzAll_ok s1.rel (c.mono s1.ff) q2
        exact ⟨F2, s1.trans s2, AtAll.cons (At.mono s2.ff _ _ a1) a2⟩
end

abbrev PE' := List SV → (OV → List SV → Prop) → Prop
abbrev PF' := List SV → (List D → List SV → Prop) → Prop
abbrev PT' := List SV → (Bool → List SV → Prop) → Prop
abbrev PA' := List SV → (List OV → List SV → Prop) → Prop
def LE (K : FgX) (t : TE) (T : PE') : Prop := ∀ (C : Ec) (σ : L2.St) (H F : Hp) (env : List SV) (Q : VK) (Qp : OV → List SV → Prop), Rel K C σ H F env →
  (∀ v H' F' env' ov, Stp K C σ H F env H' F' env' → OvOk K σ F' ov v → Qp ov env' → Q v H') → T env Qp → t σ H Q
/-- a list that nobody else holds -/
def LF (K : FgX) (t : TE) (T : PF') : Prop := ∀ (C : Ec) (σ : L2.St) (H F : Hp) (env : List SV) (Q : VK) (Qp : List D → List SV → Prop), Rel K C σ H F env →
  (∀ p xs ds H' F' env', Stp K C σ H F env H' F' env' → H' p = some (.lst xs) → F' p = none → C.H0 p = none → ¬ Own σ env' p → H p = none → AtAll K F' ds xs → Qp ds env' → Q (.ref p) H') → T env Qp → t σ H Q
def LT (K : FgX) (t : TT) (T : PT') : Prop := ∀ (C : Ec) (σ : L2.St) (H F : Hp) (env : List SV) (Q : Bool → Hp → Prop) (Qp : Bool → List SV → Prop), Rel K C σ H F env →
  (∀ b H' F' env', Stp K C σ H F env H' F' env' → Qp b env' → Q b H') → T env Qp → t σ H Q
def LA (K : FgX) (t : TA) (T : PA') : Prop := ∀ (C : Ec) (σ : L2.St) (H F : Hp) (env : List SV) (Q : List V → Hp → Prop) (Qp : List OV → List SV → Prop), Rel K C σ H F env →
  (∀ vs H' F' env' ovs, Stp K C σ H F env H' F' env' → OvsOk K σ F' ovs vs → Qp ovs env' → Q vs H') → T env Qp → t σ H Q
inductive RV where
  | dt (x : D)
  | fr (ds : List D)
def RV.toD : RV → D
  | .dt x => x
  | .fr ds => .list ds
structure PEnds where
  nx : List SV → Prop
  rt : RV → List SV → Prop
  bk : List SV → Prop := fun _ => False
  ct : List SV → Prop := fun _ => False
def RvOk (K : FgK) (C : Ec) (H F : Hp) : RV → V → Prop
  | .dt x, v => At K F x v
  | .fr ds, v => ∃ p xs, v = .ref p ∧ H p = some (.lst xs) ∧ F p = none ∧ C.H0 p = none ∧ AtAll K F ds xs
structure EndsOk (K : FgX) (C : Ec) (F : Hp) (D : Ends) (Dp : PEnds) : Prop where
  nx : ∀ σ' H' F' env', Rel K C σ' H' F' env' → Le F F' → Dp.nx env' → D.nx σ' H'
  rt : ∀ σ' H' F' env' rv v, Rel K C σ' H' F' env' → Le F F' → RvOk K C H' F' rv v → Dp.rt rv env' → D.rt v H'
  bk : ∀ σ' H' F' env', Rel K C σ' H' F' env' → Le F F' → Dp.bk env' → D.bk σ' H'
  ct : ∀ σ' H' F' env', Rel K C σ' H' F' env' → Le F F' → Dp.ct env' → D.ct σ' H'
theorem EndsOk.mono {K : FgX} {C : Ec} {F F1 : Hp} {D : Ends} {Dp : PEnds} (e : EndsOk K C F D Dp) (h : Le F F1) : EndsOk K C F1 D Dp :=
  ⟨fun σ' H' F' env' R l => e.nx σ' H' F' env' R (h.trans' l), fun σ' H' F' env' rv v R l => e.rt σ' H' F' env' rv v R (h.trans' l), fun σ' H' F' env' R l => e.bk σ' H' F' env' R (h.trans' l), fun σ' H' F' env' R l => e.ct σ' H' F' env' R (h.trans' l)⟩
abbrev PS' := PEnds → List SV → Prop
def LS (K : FgX) (t : TS) (T : PS') : Prop := ∀ (C : Ec) (σ : L2.St) (H F : Hp) (env : List SV) (D : Ends) (Dp : PEnds), Rel K C σ H F env → EndsOk K C F D Dp → T Dp env → t D σ H
structure ES (X : Cz) (st : Stmt) (T : PS') : Prop where
  ex : ∃ t, PS X st t ∧ LS X.fr t T
structure EB (X : Cz) (sts : List Stmt) (T : PS') : Prop where
  ex : ∃ t, PSs X sts t ∧ LS X.fr t T

section
variable {X : Cz}
theorem At.list_of {K : FgK} {F : Hp} {p : Addr} {xs : List V} {ds : List D} (h : F p = some (.lst xs)) (a : AtAll K F ds xs) : At K F (.list ds) (.ref p) := by
  simp only [At]
  exact ⟨p, xs, rfl, h, a⟩
theorem At.tup_of {K : FgK} {F : Hp} {p : Addr} {xs : List V} {ds : List D} (h : F p = some (.tup xs)) (a : AtAll K F ds xs) : At K F (.tuple ds) (.ref p) := by
  simp only [At]
  exact ⟨p, xs, rfl, .inl h, a⟩
end
end Sw

set_option Elab.async false
set_option linter.all false
set_option maxRecDepth 100000
namespace Sw
open PySem PySem.Spec L2

def LO2 (K : FgX) (r : R2) (g : D → D → Option D) : Prop := ∀ (C : Ec) (σ : L2.St) (H F : Hp) (env : List SV) (x y : V) (dx dy d : D) (Q : VK), Rel K C σ H F env → Vw K H F dx x → Vw K H F dy y → g dx dy = some d →
  (∀ v H' F', Stp K C σ H F env H' F' env → At K F' d v → Q v H') → r x y H Q
theorem LO2.or {K : FgX} {r r' : R2} {g g' : D → D → Option D} (h : LO2 K r g) (h' : LO2 K r' g') : LO2 K (fun x y H Q => r x y H Q ∨ r' x y H Q) (fun a b => (g a b).or (g' a b)) := fun C σ H F env x y dx dy d Q R a b e k => by
  have e : (g dx dy).or (g' dx dy) = some d := e
  cases q : g dx dy with
  | none =>
    rw [q] at e
    exact .inr (h' C σ H F env x y dx dy d Q R a b e k)
  | some z =>
    rw [q] at e
    cases e
    exact .inl (h C σ H F env x y dx dy d Q R a b q k)
section
variable {X : Cz} {K : FgX}
def qOp (g : D → D → Option D) (A B : PE') : PE' := fun env Q => A env fun o1 env1 => B env1 fun o2 env2 => ∃ d1, o1.rd env2 = some d1 ∧ ∃ d2, o2.rd env2 = some d2 ∧ ∃ d, g d1 d2 = some d ∧ Q (.dv d) env2
theorem LE.op {r : R2} {g : D → D → Option D} {ta tb : TE} {A B : PE'} (hl : LO2 K r g) (la : LE K ta A) (lb : LE K tb B) : LE K (tOp r ta tb) (qOp g A B) := fun C σ H F env Q Qp R k q => by
  refine la C σ H F env _ _ R (fun v1 H1 F1 env1 o1 s1 a1 q1 => ?_) q
  refine lb C σ H1 F1 env1 _ _ s1.rel (fun v2 H2 F2 env2 o2 s2 a2 q2 => ?_) q1
  obtain ⟨d1, e1, d2, e2, d, e, q2⟩ := q2
  exact hl C σ H2 F2 env2 v1 v2 d1 d2 d Q s2.rel (rd_vw s2.rel (a1.mono s2.ff) e1) (rd_vw s2.rel a2 e2) e fun v H' F' s3 a3 => k v H' F' env2 (.dv d) ((s1.trans s2).trans s3) a3 q2
/-- a value that is a bool, as a test -/
def qTest (A : PE') : PT' := fun env Q => A env fun o env1 => ∃ b, o.rd env1 = some (.bool b) ∧ Q b env1
theorem LT.test {ta : TE} {A : PE'} (la : LE K ta A) : LT K (fun σ H Q => ta σ H fun x H' => ∃ k, x = .bl k ∧ Q k H') (qTest A) := fun C σ H F env Q Qp R k q => by
  refine la C σ H F env _ _ R (fun v1 H1 F1 env1 o1 s1 a1 q1 => ?_) q
  obtain ⟨b, e, q1⟩ := q1
  have w := rd_vw s1.rel a1 e
  have w : v1 = .bl b := by simpa [Vw, At] using w
  exact ⟨b, w, k b H1 F1 env1 s1 q1⟩
theorem Vw.int {H F : Hp} {i : Int} {x : V} (h : Vw K H F (.int i) x) : x = .int i := by simpa [Vw, At] using h
theorem Vw.str {H F : Hp} {i : Str} {x : V} (h : Vw K H F (.str i) x) : x = .str i := by simpa [Vw, At] using h
theorem Vw.bl {H F : Hp} {i : Bool} {x : V} (h : Vw K H F (.bool i) x) : x = .bl i := by simpa [Vw, At] using h
theorem Vw.non {H F : Hp} {x : V} (h : Vw K H F .none x) : x = .non := by simpa [Vw, At] using h
theorem Vw.tup0 {H F : Hp} {ds : List D} {x : V} (R : Le F H) (h : Vw K H F (.tuple ds) x) : ∃ a xs, x = .ref a ∧ TupAt K H a xs ∧ AtAll K F ds xs := by
  have h : At K F (.tuple ds) x := h
  simp only [At] at h
  obtain ⟨a, xs, e, q, r⟩ := h
  exact ⟨a, xs, e, Le.tupAt R q, r⟩
theorem Vw.tup {H F : Hp} {ds : List D} {x : V} (R : Le F H) (h : Vw K H F (.tuple ds) x) : ∃ a xs, x = .ref a ∧ SqT K H a xs ∧ AtAll K F ds xs := by
  obtain ⟨a, xs, e, q, r⟩ := h.tup0 R
  exact ⟨a, xs, e, q.sqT, r⟩
end
end Sw

set_option Elab.async false
set_option linter.all false
set_option maxRecDepth 100000
namespace Sw
open PySem PySem.Spec L2

section
variable {X : Cz} {K : FgX}
def ltS (a b : Str) : Bool := decide (a.cps.toList < b.cps.toList)
end
end Sw

set_option Elab.async false
set_option linter.all false
set_option maxRecDepth 100000
namespace Sw
open PySem PySem.Spec L2

section
variable {X : Cz} {K : FgX}
def VwAll (K : FgK) (H F : Hp) : List D → List V → Prop
  | [], xs => xs = []
  | d :: ds, xs => ∃ x r, xs = x :: r ∧ Vw K H F d x ∧ VwAll K H F ds r
theorem VwAll.one {H F : Hp} {d : D} {xs : List V} (h : VwAll K H F [d] xs) : ∃ x, xs = [x] ∧ Vw K H F d x := by
  obtain ⟨x, r, rfl, a, q⟩ := h
  have q : r = [] := q
  subst q
  exact ⟨x, rfl, a⟩
theorem VwAll.two {H F : Hp} {d e : D} {xs : List V} (h : VwAll K H F [d, e] xs) : ∃ x y, xs = [x, y] ∧ Vw K H F d x ∧ Vw K H F e y := by
  obtain ⟨x, r, rfl, a, q⟩ := h
  obtain ⟨y, rfl, b⟩ := VwAll.one q
  exact ⟨x, y, rfl, a, b⟩
/-- the classes asked for -/
inductive Ty where | str | int | bool | list | tuple | dict
def Ty.name : Ty → String
  | .str => "str" | .int => "int" | .bool => "bool" | .list => "list" | .tuple => "tuple" | .dict => "dict"
theorem IsN.obj {P : Program} {w : World} {K : FgK} {a : Addr} {zs : List (NestedKey × Addr × V)} {o : HO} {H : Hp} {h : Heap} (n : IsN K a zs o) (q : ObjOk P w H h a o) : zs.length ≤ sizeLine ∧ (a == sysModules) = false ∧ (∀ x ∈ zs, ∃ z, x.1 = .tup z ∧ x.1.depth ≤ 8) ∧ ∃ us : List (NestedKey × Addr × Value), Paired (fun (p : NestedKey × Addr × V) (q : NestedKey × Addr × Value) => p.1 = q.1 ∧ p.2.1 = q.2.1 ∧ RelV p.2.2 q.2.2) zs us ∧
    ∃ ob es ep, h.get? a = some ob ∧ ob.ExactDict ∧ ob.data = .dict es ep ∧ es.toList = us.map (entryOfKey (nestedKind K.P K.w)) ∧ (us.map (·.1)).Nodup := by
  have n : o = _ := n
  subst n
  exact q.1
end
end Sw

set_option Elab.async false
set_option linter.all false
set_option maxRecDepth 100000
namespace Sw
open PySem PySem.Spec L2

section
variable {X : Cz} {K : FgX}
abbrev TG' := D → List SV → (List SV → Prop) → Prop
/-- what a target leaves: only the slots S have changed, they hold data -/
structure Tgt (S : List Nat) (σ σ' : L2.St) (env env' : List SV) : Prop where
  oth : ∀ j, j ∉ S → σ'[j]? = σ[j]? ∧ env'[j]? = env[j]?
  mem : ∀ j l ds, j ∈ S → env'[j]? = some (SV.obj l ds) → env[j]? = some (SV.obj l ds) ∧ σ'[j]? = σ[j]?
  len : σ'.length = σ.length
def LG (K : FgX) (S : List Nat) (t : TG) (T : TG') : Prop := ∀ (C : Ec) (σ : L2.St) (H F : Hp) (env : List SV) (v : V) (d : D) (Q : L2.St → Hp → Prop) (Qp : List SV → Prop), Rel K C σ H F env → At K F d v →
  (∀ σ' env', Rel K C σ' H F env' → Tgt S σ σ' env env' → Qp env' → Q σ' H) → T d env Qp → t v σ H Q
theorem Tgt.trans {S S' : List Nat} {σ σ1 σ2 : L2.St} {env env1 env2 : List SV} (a : Tgt S σ σ1 env env1) (b : Tgt S' σ1 σ2 env1 env2) : Tgt (S ++ S') σ σ2 env env2 := by
  refine ⟨fun j hj => ?_, fun j l ds hj h => ?_, b.len.trans a.len⟩
  · rw [List.mem_append, not_or] at hj
    obtain ⟨e1, e2⟩ := a.oth j hj.1
    obtain ⟨e3, e4⟩ := b.oth j hj.2
    exact ⟨e3.trans e1, e4.trans e2⟩
  · by_cases hb : j ∈ S'
    · obtain ⟨e1, e2⟩ := b.mem j l ds hb h
      by_cases ha : j ∈ S
      · obtain ⟨e3, e4⟩ := a.mem j l ds ha e1
        exact ⟨e3, e2.trans e4⟩
      · obtain ⟨e3, e4⟩ := a.oth j ha
        exact ⟨e4.symm.trans e1, e2.trans e3⟩
    · obtain ⟨e1, e2⟩ := b.oth j hb
      rw [e2] at h
      by_cases ha : j ∈ S
      · obtain ⟨e3, e4⟩ := a.mem j l ds ha h
        exact ⟨e3, e1.trans e4⟩
      · obtain ⟨e3, e4⟩ := a.oth j ha
        exact ⟨e4.symm.trans h, e1.trans e3⟩
def YOk (K : FgK) (F : Hp) (o : Option D) (H : Hp) (x : V) (H' : Hp) : Prop :=
  (H' = H ∧ ∃ d, o = some d ∧ At K F d x) ∨ ∃ T xs es, H T = none ∧ H' = upd H T (.tup xs) ∧ x = .ref T ∧ o = some (.tuple es) ∧ AtAll K F es xs
/-- an item has come -/
theorem YOk.rel {C : Ec} {σ : L2.St} {H F : Hp} {env : List SV} {o : Option D} {x : V} {H' : Hp} (R : Rel K C σ H F env) (y : YOk K F o H x H') : ∃ F' d, o = some d ∧ Stp K C σ H F env H' F' env ∧ At K F' d x := by
  rcases y with ⟨rfl, d, e, a⟩ | ⟨T, xs, es, hT, rfl, rfl, e, a⟩
  · exact ⟨F, d, e, Stp.refl R, a⟩
  · have s := R.alloc (o := .tup xs) hT
    exact ⟨_, _, e, s, At.tup_of upd_same (AtAll.mono s.ff _ _ a)⟩
theorem YOk.mono {F F' : Hp} (h : Le F F') {o : Option D} {H H' : Hp} {x : V} (y : YOk K F o H x H') : YOk K F' o H x H' := by
  rcases y with ⟨e, d, e2, a⟩ | ⟨T, xs, es, hT, e1, e2, e, a⟩
  · exact .inl ⟨e, d, e2, At.mono h _ _ a⟩
  · exact .inr ⟨T, xs, es, hT, e1, e2, e, AtAll.mono h _ _ a⟩
end
end Sw

set_option Elab.async false
set_option linter.all false
set_option maxRecDepth 100000
namespace Sw
open PySem PySem.Spec L2

section
variable {X : Cz} {K : FgX}
theorem AtAll.one {F : Hp} {d : D} {xs : List V} (h : AtAll K F [d] xs) : ∃ x, xs = [x] ∧ At K F d x := by
  simp only [AtAll] at h
  obtain ⟨x, r, rfl, a, q⟩ := h
  subst q
  exact ⟨x, rfl, a⟩
end

section
variable {K : FgX} {C : Ec} {σ : L2.St} {H F : Hp} {env : List SV} {vs : List Nat}
/-- an object that nobody knows is changed -/
theorem Stp.other {H1 F1 H4 F4 : Hp} {env1 env4 : List SV} (acc : Stp K C σ H1 F1 env1 H4 F4 env4) {p : Addr} {o u : HO} (h1 : H1 p = none) (hp : H4 p = some u) (fp : F4 p = none) (h0 : C.H0 p = none) (no : ¬ Own σ env4 p) : Stp K C σ H1 F1 env1 (upd H4 p o) F4 env4 := by
  have R := acc.rel
  refine ⟨⟨⟨fun b v h => ?_, R.mono, R.new, fun b v h n => ?_, fun a h => ?_, R.len, fun i sv e => ?_, R.dist⟩, R.xok⟩, acc.ff, fun b v h n => ?_, acc.fn, acc.ow, fun b h => ?_⟩
  · rw [upd_ne (ne_of_none h fp)]; exact R.frz b v h
  · rw [upd_ne (ne_of_none h h0)]; exact R.frame b v h n
  · obtain ⟨e, f, o', g⟩ := R.la a h
    refine ⟨?_, f, o', g⟩
    obtain ⟨xs, e⟩ := e
    exact ⟨xs, by rw [upd_ne (ne_of_none g h0)]; exact e⟩
  · have q := R.slot i sv e
    cases sv with
    | un => trivial
    | raw z => exact q
    | dat d => exact q
    | obj l ds =>
      obtain ⟨r, xs, e1, e2, e3, e4, e5⟩ := q
      have ne : r ≠ p := by
        rintro rfl
        exact no ⟨i, l, ds, e, e1⟩
      exact ⟨r, xs, e1, by rw [upd_ne ne]; exact e2, e3, e4, e5⟩
  · rw [upd_ne (ne_of_none h h1)]; exact acc.fr b v h n
  · by_cases e : b = p
    · subst e; exact h1
    · rw [upd_ne e] at h; exact acc.dm b h
end
section
variable {X : Cz}
abbrev FgX.no (K : FgX) : FgX := ⟨K.b, K.mg, wNo, pNo, fun _ => True⟩
section
variable {K : FgX} {C : Ec} {σ : L2.St} {H F H' F' : Hp} {env env' : List SV}
theorem Rel.dn (R : Rel K C σ H F env) : Rel K.no C σ H F env := ⟨R.toRelB, xok_no rfl⟩
theorem Rel.up (R : Rel K.no C σ H F env) (x : XOk K C) : Rel K C σ H F env := ⟨R.toRelB, x⟩
theorem Stp.up (s : Stp K.no C σ H F env H' F' env') (x : XOk K C) : Stp K C σ H F env H' F' env' := ⟨s.rel.up x, s.ff, s.fr, s.fn, s.ow, s.dm⟩
theorem LE.up {t : TE} {T : PE'} (h : LE K.no t T) : LE K t T := fun C σ H F env Q Qp R k q => h C σ H F env Q Qp R.dn (fun v H' F' env' ov st => k v H' F' env' ov (st.up R.xok)) q
theorem LT.up {t : TT} {T : PT'} (h : LT K.no t T) : LT K t T := fun C σ H F env Q Qp R k q => h C σ H F env Q Qp R.dn (fun b H' F' env' st => k b H' F' env' (st.up R.xok)) q
theorem LG.up {S : List Nat} {t : TG} {T : TG'} (h : LG K.no S t T) : LG K S t T := fun C σ H F env v d Q Qp R a k q => h C σ H F env v d Q Qp R.dn a (fun σ' env' R' => k σ' env' (R'.up R.xok)) q
end
end
end Sw

set_option Elab.async false
set_option linter.all false
set_option maxRecDepth 100000
namespace Sw
open PySem PySem.Spec L2

abbrev PSp := Option (List D) → List D → (RV → Option (List D) → Prop) → Prop
/-- behind a call -/
structure Post (K : FgK) (la : Option Addr) (H F : Hp) (rv : RV) (fl : Option (List D)) (v : V) (H' F' : Hp) : Prop where
  frz : Le F' H'
  mono : Le F F'
  new : ∀ b o, F' b = some o → F b = some o ∨ H b = none
  frame : ∀ b o, H b = some o → la ≠ some b → H' b = some o
  lent : ∀ a, la = some a → ∃ xs ds, H' a = some (.lst xs) ∧ F' a = none ∧ fl = some ds ∧ AtAll K F' ds xs
  res : RvOk K ⟨H, F, la⟩ H' F' rv v
/-- the promise of a def by data -/
def spOf (K : FgK) (l : Bool) (ps : PSp) : Sp := fun vs H Q _ => ∃ (F : Hp) (la : Option Addr) (fl : Option (List D)) (ds : List D) (ws : List V), Le F H ∧ AtAll K F ds ws ∧
  (if l = true then ∃ a xs fd, vs = .ref a :: ws ∧ la = some a ∧ H a = some (.lst xs) ∧ F a = none ∧ fl = some fd ∧ AtAll K F fd xs else vs = ws ∧ la = none ∧ fl = none) ∧
  ∃ Qp, ps fl ds Qp ∧ ∀ v H' F' rv fl', Post K la H F rv fl' v H' F' → Qp rv fl' → Q v H'
section
variable {X : Cz}
/-- behind a call the slots stand -/
theorem Post.stp {K : FgX} {C : Ec} {σ : L2.St} {H F : Hp} {env : List SV} {rv : RV} {fl : Option (List D)} {v : V} {H' F' : Hp} (R : Rel K C σ H F env) (p : Post K none H F rv fl v H' F') : Stp K C σ H F env H' F' env := by
  have no : ∀ b o, H b = some o → F b = none → F' b = none := fun b o h f => by
    cases q : F' b with
    | none => rfl
    | some u =>
      rcases p.new b u q with z | z
      · rw [f] at z; cases z
      · rw [h] at z; cases z
  refine ⟨⟨⟨p.frz, R.mono.trans' p.mono, fun b o h => ?_, fun b o h n => p.frame b o (R.frame b o h n) (fun z => nomatch z), fun a h => ?_, R.len, fun i sv e => ?_, R.dist⟩, R.xok⟩, p.mono, fun b o h _ => p.frame b o h (fun z => nomatch z), fun b o h => ?_, fun i l ds h => ⟨ds, h⟩, fun b h => ?_⟩
  · rcases p.new b o h with z | z
    · exact R.new b o z
    · cases q : C.H0 b with
      | none => exact .inr rfl
      | some u =>
        by_cases hl : C.la = some b
        · obtain ⟨⟨xs, e⟩, _⟩ := R.la b hl
          rw [e] at z; cases z
        · rw [R.frame b u q hl] at z; cases z
  · obtain ⟨⟨xs, e⟩, f, g⟩ := R.la a h
    exact ⟨⟨xs, p.frame a _ e (fun z => nomatch z)⟩, no a _ e f, g⟩
  · have q := R.slot i sv e
    cases sv with
    | un => trivial
    | raw z => exact q
    | dat d =>
      obtain ⟨v, e1, a⟩ := q
      exact ⟨v, e1, At.mono p.mono _ _ a⟩
    | obj l ds =>
      obtain ⟨r, xs, e1, e2, e3, e4, e5⟩ := q
      exact ⟨r, xs, e1, p.frame r _ e2 (fun z => nomatch z), no r _ e2 e3, e4, e5.mono p.mono⟩
  · rcases p.new b o h with z | z
    · exact .inl z
    · exact .inr (.inl z)
  · cases q : H b with
    | none => rfl
    | some u =>
      rw [p.frame b u q (fun z => nomatch z)] at h; cases h
/-- a list that came back is nobody's -/
theorem fresh_of {K : FgX} {C : Ec} {σ : L2.St} {H F H' F' : Hp} {env env' : List SV} (R : Rel K C σ H F env) (s : Stp K C σ H F env H' F' env') {p : Addr} (h : H p = none) : C.H0 p = none ∧ ¬ Own σ env' p := by
  constructor
  · cases q : C.H0 p with
    | none => rfl
    | some u =>
      by_cases hl : C.la = some p
      · obtain ⟨⟨xs, e⟩, _⟩ := R.la p hl
        rw [e] at h; cases h
      · rw [R.frame p u q hl] at h; cases h
  · intro z
    obtain ⟨i, l, ds, e, e2⟩ := Own.sub s.ow z
    obtain ⟨r, xs, e1, e3, _⟩ := R.slot i _ e
    rw [e2] at e1
    cases e1
    rw [e3] at h; cases h
theorem Stp.freeze {K : FgX} {C : Ec} {σ : L2.St} {H F H' F' : Hp} {env env' : List SV} (s : Stp K C σ H F env H' F' env') {p : Addr} {o : HO} (hn : H p = none) (hp : H' p = some o) (fp : F' p = none) (h0 : C.H0 p = none) (no : ¬ Own σ env' p) : Stp K C σ H F env H' (upd F' p o) env' := by
  have ff : Le F' (upd F' p o) := fun b u h => by
    rw [upd_ne (ne_of_none h fp)]; exact h
  refine ⟨s.rel.freeze hp fp h0 no, s.ff.trans' ff, s.fr, fun b u h => ?_, s.ow, s.dm⟩
  by_cases e : b = p
  · subst e; exact .inr (.inl hn)
  · rw [upd_ne e] at h; exact s.fn b u h
theorem known_of {K : FgX} {C : Ec} {σ : L2.St} {H F H' F' : Hp} {env env' : List SV} {la : Option Addr} {rv : RV} {v : V} (R : Rel K C σ H F env) (s : Stp K C σ H F env H' F' env') (r : RvOk K ⟨H, F, la⟩ H' F' rv v) : ∃ F2, Stp K C σ H F env H' F2 env' ∧ At K F2 rv.toD v := by
  cases rv with
  | dt d => exact ⟨F', s, r⟩
  | fr ds =>
    obtain ⟨p, xs, rfl, h1, h2, h3, h4⟩ := r
    have h3 : H p = none := h3
    obtain ⟨h0, no⟩ := fresh_of R s h3
    have ff : Le F' (upd F' p (.lst xs)) := fun b u h => by
      rw [upd_ne (ne_of_none h h2)]; exact h
    exact ⟨_, s.freeze h3 h1 h2 h0 no, At.list_of upd_same (AtAll.mono ff _ _ h4)⟩
def qCall (sp : PSp) (T : PA') : PE' := fun env Q => T env fun os env1 => ∃ ds env2, fzAll env1 os = some (ds, env2) ∧ sp none ds fun rv _ => Q (.dv rv.toD) env2
def fCall (sp : PSp) (T : PA') : PF' := fun env Q => T env fun os env1 => ∃ ds env2, fzAll env1 os = some (ds, env2) ∧ sp none ds fun rv _ => ∃ es, rv = .fr es ∧ Q es env2
variable {k : Nat} {f : Addr} {fd : FuncData} {ps : List Str} {sp : PSp} {x : Str} {e : Expr} {es : List Expr} {T : PA'} {p pos : Pos}
/-- the defaults of a def: constants -/
def constsOk (dvs : List V) (dds : List D) : Prop := ∀ (K : FgK) (F : Hp), AtAll K F dds dvs
def qAddD (T : PA') (dds : List D) : PA' := fun env Q => T env fun os env1 => Q (os ++ dds.map OV.dv) env1
theorem OvsOk.app {K : FgK} {σ : L2.St} {F : Hp} {dds : List D} {dvs : List V} (h : AtAll K F dds dvs) : ∀ {os : List OV} {vs : List V}, OvsOk K σ F os vs → OvsOk K σ F (os ++ dds.map OV.dv) (vs ++ dvs)
  | [], vs, a => by
    have a : vs = [] := a
    subst a
    simp only [List.nil_append]
    have key : ∀ (dds : List D) (dvs : List V), AtAll K F dds dvs → OvsOk K σ F (dds.map OV.dv) dvs := fun dds => by
      induction dds with
      | nil => intro dvs h; exact (show dvs = [] by simpa [AtAll] using h)
      | cons d dds ih =>
        intro dvs h
        simp only [AtAll] at h
        obtain ⟨x, r, rfl, a, q⟩ := h
        exact ⟨x, r, rfl, a, ih r q⟩
    exact key dds dvs h
  | o :: os, vs, a => by
    obtain ⟨v, r, rfl, b, c⟩ := a
    exact ⟨v, r ++ dvs, rfl, b, OvsOk.app h c⟩
theorem LE.call {t : TA} {dvs : List V} {dds : List D} {E : XK} (hd : constsOk dvs dds) (l1 : LA X.fr t T) : LE X.fr (tCall (spOf X.fr false sp) dvs E t) (qCall sp (qAddD T dds)) := fun C σ H F env Q Qp R kk q => by
  refine l1 C σ H F env _ _ R (fun vs H1 F1 env1 os s1 a1 q1 => ?_) q
  obtain ⟨ds, env2, e1, q1⟩ := q1
  obtain ⟨F2, s2, a2⟩ := fzAll_ok s1.rel (a1.app (hd X.fr F1)) e1
  refine ⟨F2, none, none, ds, vs ++ dvs, s2.rel.frz, a2, by rw [if_neg (by decide)]; exact ⟨rfl, rfl, rfl⟩, _, q1, fun v H' F' rv fl' pp qq => ?_⟩
  have s3 := pp.stp s2.rel
  obtain ⟨F3, s4, a4⟩ := known_of s2.rel s3 pp.res
  exact kk v H' F3 env2 (.dv rv.toD) ((s1.trans s2).trans s4) a4 qq
theorem LF.call {t : TA} {dvs : List V} {dds : List D} {E : XK} (hd : constsOk dvs dds) (l1 : LA X.fr t T) : LF X.fr (tCall (spOf X.fr false sp) dvs E t) (fCall sp (qAddD T dds)) := fun C σ H F env Q Qp R kk q => by
  refine l1 C σ H F env _ _ R (fun vs H1 F1 env1 os s1 a1 q1 => ?_) q
  obtain ⟨ds, env2, e1, q1⟩ := q1
  obtain ⟨F2, s2, a2⟩ := fzAll_ok s1.rel (a1.app (hd X.fr F1)) e1
  refine ⟨F2, none, none, ds, vs ++ dvs, s2.rel.frz, a2, by rw [if_neg (by decide)]; exact ⟨rfl, rfl, rfl⟩, _, q1, fun v H' F' rv fl' pp qq => ?_⟩
  have s3 := pp.stp s2.rel
  obtain ⟨es', rfl, qq⟩ := qq
  obtain ⟨r, xs, rfl, h1, h2, h3, h4⟩ := pp.res
  have h3 : H1 r = none := h3
  obtain ⟨h0, no⟩ := fresh_of s2.rel s3 h3
  exact kk r xs es' H' F' env2 ((s1.trans s2).trans s3) h1 h2 h0 no (s1.dm r (s2.dm r h3)) h4 qq
end
end Sw

set_option Elab.async false
set_option linter.all false
set_option maxRecDepth 100000
namespace Sw
open PySem PySem.Spec L2

section
variable {P : Program} {w : World} {K : PySem.W.Frag} {mg : Str → Option Value} {base : Heap}
/-- a def that can be called: the name, whether its first argument is lent, its parameters, what defaults are put in, its worth -/
structure Cal (P : Program) (w : World) (K : PySem.W.Frag) (mg : Str → Option Value) (base : Heap) (k : Nat) (x : Str) (l : Bool) (ps : List Str) (dds : List D) (sp : PSp) : Prop where
  ex : ∃ (f : Addr) (fd : FuncData) (dvs : List V) (ds : List Value), FnOk P w K mg base CX0 k f fd ps (spOf ⟨K, P, w⟩ l sp) ∧ mg x = some (.ref f) ∧ PySem.W.keepIn K (.ref f) = true ∧ Binds K fd ps ds ∧ Vals dvs ds ∧ constsOk dvs dds
theorem Cal.mono {k k' : Nat} {x : Str} {l : Bool} {ps : List Str} {dds : List D} {sp : PSp} (c : Cal P w K mg base k x l ps dds sp) (h : k ≤ k') : Cal P w K mg base k' x l ps dds sp := by
  obtain ⟨f, fd, dvs, ds, h1, h2⟩ := c.ex
  exact ⟨f, fd, dvs, ds, h1.mono h, h2⟩
theorem Cal.imp {k : Nat} {x : Str} {l : Bool} {ps : List Str} {dds : List D} {sp sp' : PSp} (c : Cal P w K mg base k x l ps dds sp) (h : ∀ fl ds Q, sp' fl ds Q → sp fl ds Q) : Cal P w K mg base k x l ps dds sp' := by
  obtain ⟨f, fd, dvs, ds, h1, h2⟩ := c.ex
  refine ⟨f, fd, dvs, ds, h1.imp fun vs H Q E q => ?_, h2⟩
  obtain ⟨F, la, fl, ds, ws, hF, ha, hl, Qp, hp, k⟩ := q
  exact ⟨F, la, fl, ds, ws, hF, ha, hl, Qp, h _ _ _ hp, k⟩
end
end Sw

set_option Elab.async false
set_option linter.all false
set_option maxRecDepth 100000
namespace Sw
open PySem PySem.Spec L2
/-- all signs are small letters -/
def Low (z : Str) : Prop := ∀ c ∈ z.cps.toList, 97 ≤ c ∧ c ≤ 122
/-- a name -/
def Nm (z : Str) : Prop := Low z ∧ 1 ≤ z.length ∧ z.length ≤ 6
theorem len_tl (z : Str) : z.length = z.cps.toList.length := rfl
theorem tl_app (a b : Str) : (a ++ b).cps.toList = a.cps.toList ++ b.cps.toList := by
  show (a.cps ++ b.cps).toList = _
  simp
theorem Low.app {a b : Str} (h : Low a) (g : Low b) : Low (a ++ b) := fun c hc => by
  rw [tl_app] at hc
  rcases List.mem_append.mp hc with z | z
  · exact h c z
  · exact g c z
theorem ext_tl {a b : Str} (h : a.cps.toList = b.cps.toList) : a = b := by
  obtain ⟨a⟩ := a
  obtain ⟨b⟩ := b
  exact congrArg Str.mk (Array.toList_inj.mp h)
end Sw

set_option Elab.async false
set_option linter.all false
set_option maxRecDepth 100000
namespace PySem.AutoSeq1
theorem list_extend_list_tupleA (l : Addr) (items : Array Value) (n : Nat) (b : Addr) (items2 : Array Value) (n2 : Nat) (dd : Option Addr) (sl : Array (Option Value)) (hs0 : ¬(!items.isEmpty && Builtin.List.listTooLong (items.size + items2.size)) = true) (hs1 : items.size ≤ sizeLine) (hs2 : items.size + items2.size ≤ sizeLine + 1) :
    Meets (Builtin.«list.extend» ⟨[.ref l, .ref b], []⟩) (fun _ R s => s.heap.get? l = some { cls := .type "list", dict := none, data := .seq items n, slots := #[] } ∧ s.heap.get? b = some { cls := .type "tuple", dict := dd, data := .seq items2 n2, slots := sl } ∧ R (.ok (.ret Value.none)) { s with heap := s.heap.update l (Obj.mapSeq fun x => x ++ items2), toks := s.toks }) :=
  .of_wp fun prog w A R s h => by
    obtain ⟨hp, g, d, tk, os⟩ := s; obtain ⟨hl, hb, h⟩ := h; have f1 := idx_int; have f2 := sub_tuple_tuple; have f3 := sub_list_list; have f4 := sub_tuple_list; have f5 := sub_list_tuple;
    have hz' : (items ++ items2).size ≤ sizeLine + 1 := by rw [Array.size_append]; exact hs2
    wp_walk using (wpAny_updateSeq hl rfl (hz := hs1) (_hz' := hz')), wpAny_loadPart' hl, wpAny_loadPart' hb; exact ⟨_, rfl, h⟩
end PySem.AutoSeq1
namespace SwX
open PySem PySem.Spec PyProof.Rows HT L2 PySem.AutoSeq1
section
variable {prog : Program} {w : World} {A : Around} {E : Value → Shared → Prop} {s : Shared}
theorem filterMap_ext {α β : Type} {f g : α → Option β} : ∀ {l : List α}, (∀ x ∈ l, f x = g x) → l.filterMap f = l.filterMap g
  | [], _ => rfl
  | x :: r, h => by
    rw [List.filterMap_cons, List.filterMap_cons, h x List.mem_cons_self, filterMap_ext fun y hy => h y (List.mem_cons_of_mem _ hy)]
/-- t[::-1] of a tuple -/
theorem getItem_tuple_rev {t sl : Addr} {items : Array Value} {vl vu vs : Value} {Q : Value → Shared → Prop} (ht : IsTup s.heap t items) (hs : s.heap.IsSliceOf sl vl vu vs) (pl : IsPart vl none) (pu : IsPart vu none) (ps : IsPart vs (some (-1)))
    (h : Q (.ref s.heap.objs.size) { s with heap := s.heap.push { cls := .type "tuple", data := .seq items.toList.reverse.toArray } })
    (hsz : items.size ≤ sizeLine) : wpAny (model prog w) A (getItem (.ref t) (.ref sl)) Q E s := by
  have htake : sizeOk (.seq items.toList.reverse.toArray) := by
    show items.toList.reverse.toArray.size ≤ sizeLine
    rw [List.size_toArray, List.length_reverse, Array.length_toList]
    omega
  obtain ⟨os, hos, hcs, hds⟩ := id hs
  have hTs : s.TypeIs (.ref sl) "slice" := ⟨os, hos, hcs⟩
  have el : vl = .none := by cases pl; rfl
  have eu : vu = .none := by cases pu; rfl
  obtain ⟨tk, rfl⟩ : ∃ tk, vs = .int (-1) tk := by cases ps; exact ⟨_, rfl⟩
  subst el eu
  unfold getItem
  try with_reducible refine wpAny_holding ?_
  first | refine wpAny_bind (wpAny_pure ?_) | skip
  refine wpAny_bind (wpAny_sequenceKey ht.typeIs (by decide) ?_)
  refine wpAny_bind (wpAny_callSpecial?_slot (name := Str.ofString "__getitem__") ht.typeIs PyProof.Rows.slot_tuple_getitem
    (wpAny_call_entry PyProof.Rows.slot_tuple_getitem ht.typeIs entry_tuple_getitem ?_ (args_tuple_getitem _ _)))
  show wpAny _ _ (Builtin.Tuple.tupleItemsOf (.ref t) >>= _) _ _ s
  refine wpAny_bind (tupleItemsOf_ ht ?_)
  refine wpAny_bind (wpAny_typeOf hTs ?_)
  rw [if_pos (by decide)]
  have app : ∀ {A : Around} {Q : Int × Int × Nat → Shared → Prop} {E : Value → Shared → Prop}, Q ((items.size : Int) - 1, -1, items.size) s → wpAny (model prog w) A (Builtin.Slice.sliceApplied (.ref sl) (pure (items.size : Int))) Q E s := fun {A Q E} h => by
    unfold Builtin.Slice.sliceApplied Builtin.Slice.sliceFields
    refine wpAny_bind (wpAny_bind (wpAny_field hos hds (x := .none) rfl (wpAny_bind (wpAny_field hos hds (x := .none) rfl (wpAny_bind (wpAny_field hos hds (x := .int (-1) tk) rfl (wpAny_pure ?_)))))))
    refine wpAny_bind (slicePart_int ?_)
    show wpAny _ _ (if ((-1 : Int) == 0) = true then _ else _) _ _ s
    rw [if_neg (by decide)]
    refine wpAny_bind (slicePart_none (wpAny_bind (slicePart_none (wpAny_bind (wpAny_pure ?_)))))
    have e : Builtin.Slice.sliceAdjust none none (-1) (items.size : Int) = ((items.size : Int) - 1, -1) := by
      first | rfl | simp [Builtin.Slice.sliceAdjust]
    show wpAny _ _ (match Builtin.Slice.sliceAdjust none none (-1) (items.size : Int) with | (lo, hi) => pure (lo, (-1 : Int), Builtin.Slice.slicePlaces lo hi (-1))) _ _ s
    rw [e]
    have e2 : Builtin.Slice.slicePlaces ((items.size : Int) - 1) (-1) (-1) = items.size := by
      unfold Builtin.Slice.slicePlaces
      rw [if_neg (by decide)]
      by_cases h0 : (items.size : Int) - 1 > -1
      · rw [if_pos h0]
        have : (- -1 : Int) = 1 := by decide
        rw [this, Int.ediv_one]
        omega
      · rw [if_neg h0]
        omega
    show wpAny _ _ (pure ((items.size : Int) - 1, (-1 : Int), Builtin.Slice.slicePlaces ((items.size : Int) - 1) (-1) (-1))) _ _ s
    rw [e2]
    exact wpAny_pure h
  refine wpAny_bind (app ?_)
  have hno : ¬ ((((items.size : Int) - 1) == 0 && (-1 : Int) == 1 && items.size == items.size) = true) := by
    intro q
    rw [Bool.and_eq_true, Bool.and_eq_true] at q
    have q1 : (-1 : Int) = 1 := eq_of_beq q.1.2
    exact absurd q1 (by decide)
  show wpAny _ _ (if (((items.size : Int) - 1) == 0 && (-1 : Int) == 1 && items.size == items.size) = true then _ else _) _ _ s
  have pick : ((List.range items.size).filterMap fun (m : Nat) => items[(((items.size : Int) - 1) + (m : Int) * (-1)).toNat]?).toArray = items.toList.reverse.toArray := by
    rw [← PySem.W.krv_all items, ← List.filterMap_reverse, ← PySem.W.krv_range, List.filterMap_map]
    refine congrArg List.toArray (filterMap_ext fun m hm => ?_)
    have := List.mem_range.mp hm
    show items[_]? = items[_]?
    congr 1
    show _ = items.size - 1 - m
    omega
  rw [if_neg hno, pick]
  first
    | exact wpAny_bind (m := Builtin.Tuple.tupleExact _) (wpAny_newObj_type (wpAny_pure ⟨_, rfl, wpAny_pure h⟩) htake)
    | exact wpAny_bind (m := Builtin.Tuple.tupleExact _) (wpAny_newObj_type (wpAny_bind (wpAny_pure (wpAny_pure ⟨_, rfl, wpAny_pure h⟩))) htake)
    | exact wpAny_bind (wpAny_bind (m := Builtin.Tuple.tupleExact _) (wpAny_newObj_type (wpAny_pure (wpAny_pure ⟨_, rfl, wpAny_pure h⟩)) htake))
    | exact wpAny_bind (wpAny_bind (m := Builtin.Tuple.tupleExact _) (wpAny_newObj_type (wpAny_pure ⟨_, rfl, wpAny_pure h⟩) htake))
end
section
variable {X : Sw.Cz}
/-- e[::-1] of a list or a tuple -/
def tRevA (K : Sw.FgK) (te : TE) : TE := fun σ H Q => te σ H fun x H1 => (∃ a xs, x = .ref a ∧ SqL K H1 a xs ∧ ∀ p, H1 p = none → Q (.ref p) (upd H1 p (.lst xs.reverse))) ∨ ∃ a xs, x = .ref a ∧ SqT K H1 a xs ∧ ∀ p, H1 p = none → Q (.ref p) (upd H1 p (.tup xs.reverse))
theorem pe_revA {e : Expr} {te : TE} {k : Nat} {p1 p2 p3 pos : Pos} (he : PE X e te) : PE X (.Subscript e (.Slice none none (some (.UnaryOp .USub (.Constant (.int 1) k p1) p2)) p3) pos) (tRevA X.fr te) := by
  refine ⟨fun pins s σ H Q I h => ?_⟩
  refine Subscript_ (thn (he.run pins s σ H _ I h) fun v s1 ⟨x, H1, I1, r1, q1⟩ => ?_)
  have hst : PO X (some (.UnaryOp .USub (.Constant (.int 1) k p1) p2)) (tPart (tUn (rU fun i => .int (-i)) (tC (.int 1)))) := po_some (pe_un un_neg pe_int)
  refine wpAny_Slice (thn (po_none.run pins s1 σ H1 (fun o H2 => o = none ∧ H2 = H1) I1 ⟨rfl, rfl⟩) fun vl s2 ⟨l, H2, I2, pl, el, e2⟩ => ?_)
  subst el e2
  refine thn (po_none.run pins s2 σ H2 (fun o H3 => o = none ∧ H3 = H2) I2 ⟨rfl, rfl⟩) fun vu s3 ⟨u, H3, I3, pu, eu, e3⟩ => ?_
  subst eu e3
  refine thn (hst.run pins s3 σ H3 (fun o H4 => o = some (-1) ∧ H4 = H3) I3 ⟨1, rfl, -1, rfl, rfl, rfl⟩) fun vs s4 ⟨o, H4, I4, ps, eo, e4⟩ => ?_
  subst eo e4
  have I5 : Inv X pins σ H4 { s4 with heap := s4.heap.push { cls := .type "slice", data := .fields #[vl, vu, vs] } } := I4.kept (t' := s4.toks) fun b ob q => Heap.get?_push_of_some _ q
  rcases q1 with ⟨a, xs, ex, hx, q⟩ | ⟨a, xs, ex, hx, q⟩
  · subst ex
    cases r1
    obtain ⟨its, r, ht, hz⟩ := I5.list hx
    have hlen := r.length
    show wpAny (model X.prog X.w) X.A (subscriptTail e (.Slice none none (some (.UnaryOp .USub (.Constant (.int 1) k p1) p2)) p3) (.ref a) (.ref s4.heap.objs.size)) (EP X pins σ Q) X.xe { s4 with heap := s4.heap.push { cls := .type "slice", data := .fields #[vl, vu, vs] } }
    refine tail_any (ops := [.ref a, .ref s4.heap.objs.size]) ht.isList.typeIs (PySem.slot_list_getitem.lookup) ?_ (by with_unfolding_all rfl)
    refine wpAny_getItem_list_slice ht.isList (Heap.IsSliceOf.new _ vl vu vs) pl pu ps (by decide) ?_ (by rw [List.size_toArray]; omega)
    rw [PySem.W.krv_pick]
    refine ⟨.ref _, _, I5.laid (t' := s4.toks) (o := .lst xs.reverse) (fun b ob q => Heap.get?_push_of_some _ q) (Nat.le_refl _) ?_, rfl, q _ (I5.hok.fresh (Nat.le_refl _))⟩
    exact ⟨by rw [List.length_reverse]; exact hz, _, 0, r.reverse, Heap.get?_push_size _ rfl⟩
  · subst ex
    cases r1
    obtain ⟨its, r, ht, hz⟩ := I5.tuple hx
    have hlen := r.length
    show wpAny (model X.prog X.w) X.A (subscriptTail e (.Slice none none (some (.UnaryOp .USub (.Constant (.int 1) k p1) p2)) p3) (.ref a) (.ref s4.heap.objs.size)) (EP X pins σ Q) X.xe { s4 with heap := s4.heap.push { cls := .type "slice", data := .fields #[vl, vu, vs] } }
    refine tail_any (ops := [.ref a, .ref s4.heap.objs.size]) ht.typeIs (PyProof.Rows.slot_tuple_getitem.lookup) ?_ (by with_unfolding_all rfl)
    refine getItem_tuple_rev ht (Heap.IsSliceOf.new _ vl vu vs) pl pu ps ?_ (by rw [List.size_toArray]; omega)
    refine ⟨.ref _, _, I5.laid (t' := s4.toks) (o := .tup xs.reverse) (fun b ob q => Heap.get?_push_of_some _ q) (Nat.le_refl _) ?_, rfl, q _ (I5.hok.fresh (Nat.le_refl _))⟩
    exact ⟨by rw [List.length_reverse]; exact hz, _, r.reverse, IsTup.new _ _⟩
/-- xs.extend(ys), ys a list or a tuple -/
def rExtA (K : Sw.FgK) : V → List V → Hp → VK → Prop := fun x vs H Q => rExtend x vs H Q ∨ ∃ l b xs zs, x = .ref l ∧ vs = [.ref b] ∧ H l = some (.lst xs) ∧ SqT K H b zs ∧ xs.length + zs.length ≤ sizeLine ∧ Q .non (upd H l (.lst (xs ++ zs)))
theorem mt_extendA : MtM X "list.extend" (rExtA X.fr) := by
  intro pins s σ H x vs v us Q I rx rv h
  rcases h with h | ⟨l, b, xs, zs, rfl, rfl, hH, hB, hz, q⟩
  · exact mt_extend pins s σ H x vs v us Q I rx rv h
  · cases rx
    obtain ⟨u, rfl, ru⟩ := rv.one
    cases ru
    obtain ⟨z, its, n, r, hl, e⟩ := I.lstM hH
    obtain ⟨its2, r2, ht, hz2⟩ := I.tuple hB
    have hl2 := r2.length
    obtain ⟨⟨oc, od, odat, osl⟩, ho, hc, n2, hd⟩ := ht
    have hc : oc = .type "tuple" := hc
    have hd : odat = .seq its2.toArray n2 := hd
    subst hc hd
    have hsz : its.toArray.size + its2.toArray.size ≤ sizeLine := by rw [List.size_toArray, List.size_toArray]; omega
    have hlong : ¬ (!its.toArray.isEmpty && Builtin.List.listTooLong (its.toArray.size + its2.toArray.size)) = true := by
      rw [notLongL hsz, Bool.and_false]
      exact Bool.false_ne_true
    refine call_meets F.slot_list_extend ⟨_, e, rfl⟩ F.entry_list_extend (F.args_list_extend_2 _ _)
      (list_extend_list_tupleA l its.toArray n b its2.toArray n2 od osl hlong (by rw [List.size_toArray]; omega) (by omega)) ⟨e, ho, ?_⟩
    refine ⟨.non, _, I.lset (its' := its ++ its2) hH e (by simp) (r.append r2) ?_, rfl, q⟩
    rw [List.length_append]
    omega
end
end SwX

namespace Sw
open PySem PySem.Spec L2
section
variable {X : Sw.Cz} {K : FgX}
def insS (x : Str) : List Str → List Str
  | [] => [x]
  | y :: r => if ltS y x = true then y :: insS x r else x :: y :: r
def sortS : List Str → List Str
  | [] => []
  | x :: r => insS x (sortS r)
theorem insS_perm (x : Str) : ∀ ys : List Str, (insS x ys).Perm (x :: ys)
  | [] => List.Perm.refl _
  | y :: r => by
    unfold insS
    split
    · exact ((insS_perm x r).cons y).trans (List.Perm.swap x y r)
    · exact List.Perm.refl _
theorem sortS_perm : ∀ ys : List Str, (sortS ys).Perm ys
  | [] => List.Perm.refl _
  | x :: r => (insS_perm x (sortS r)).trans ((sortS_perm r).cons x)
end
end Sw

set_option Elab.async false
set_option linter.all false
set_option maxRecDepth 100000
namespace Sw
open PySem PySem.Spec L2
theorem ltS_iff {a b : Str} : ltS a b = true ↔ a.cps.toList < b.cps.toList := decide_eq_true_iff
theorem ltS_tri {a b : Str} (h : ltS a b = false) (g : ltS b a = false) : a = b := by
  rw [← Bool.not_eq_true, ltS_iff] at h g
  exact ext_tl (List.le_antisymm (as := a.cps.toList) (bs := b.cps.toList) g h)
/-- a ≤ b -/
def leS (a b : Str) : Prop := ltS b a = false
end Sw
namespace Sw
open PySem PySem.Spec L2
open PyProof.Rows (sortedS risingS ltCps_eq)
end Sw
namespace Sw
open PySem PySem.Spec L2
end Sw
namespace Sw
open PySem PySem.Spec L2
end Sw
namespace Sw
open PySem PySem.Spec L2
end Sw
namespace Sw
open PySem PySem.Spec L2
end Sw

set_option Elab.async false
set_option linter.all false
set_option maxRecDepth 100000
namespace Sw
open PySem PySem.Spec L2 PyProof.Rows
def leD (a b : D) : Bool := !W.dataLt b a
def srtD (ds : List D) : List D := ds.mergeSort leD
end Sw

set_option Elab.async false
set_option linter.all false
set_option maxRecDepth 100000
namespace Sw
open PySem PySem.Spec L2
theorem leD_total : W.TotalLe leD := W.sortLe_total (PyProof.Rows.listOrd PyProof.Rows.itemOrd) false W.keyToks
theorem srtD_perm (ds : List D) : (srtD ds).Perm ds := List.mergeSort_perm _ _
theorem srtD_len (ds : List D) : (srtD ds).length = ds.length := (srtD_perm ds).length_eq
theorem srtD_pw (ds : List D) : (srtD ds).Pairwise fun a b => leD a b = true := W.sort_pairwise leD_total ds
mutual
theorem eq_of_eqv : ∀ x y : D, W.alike x y = true → PyData.eqv x y = true → x = y
  | .none, y, h, e => by cases y <;> simp_all [W.alike]
  | .bool a, y, h, e => by cases y <;> simp_all [W.alike, PyData.eqv]
  | .int a, y, h, e => by cases y <;> simp_all [W.alike, PyData.eqv]
  | .str a, y, h, e => by cases y <;> simp_all [W.alike, PyData.eqv]
  | .list xs, y, h, e => by
    cases y with
    | list ys => rw [eq_of_eqvAll xs ys (by simpa [W.alike] using h) (by simpa [PyData.eqv] using e)]
    | _ => simp [W.alike] at h
  | .tuple xs, y, h, e => by
    cases y with
    | tuple ys => rw [eq_of_eqvAll xs ys (by simpa [W.alike] using h) (by simpa [PyData.eqv] using e)]
    | _ => simp [W.alike] at h
  | .dict xs, y, h, e => by cases y <;> simp_all [W.alike]
theorem eq_of_eqvAll : ∀ xs ys : List D, W.alikeAll xs ys = true → PyData.eqvAll xs ys = true → xs = ys
  | [], ys, h, e => by cases ys <;> simp_all [PyData.eqvAll]
  | x :: xs, ys, h, e => by
    cases ys with
    | nil => simp [PyData.eqvAll] at e
    | cons y ys =>
      simp only [W.alikeAll, Bool.and_eq_true] at h
      simp only [PyData.eqvAll, Bool.and_eq_true] at e
      rw [eq_of_eqv x y h.1 e.1, eq_of_eqvAll xs ys h.2 e.2]
end
theorem leD_anti {x y : D} (h : W.alike x y = true) (h1 : leD x y = true) (h2 : leD y x = true) : x = y := by
  have h1 : W.dataLt y x = false := by simpa [leD] using h1
  have h2 : W.dataLt x y = false := by simpa [leD] using h2
  have e : W.keyToks x = W.keyToks y := PyProof.Rows.lex_total _ _ h2 h1
  cases q : PyData.eqv x y with
  | true => exact eq_of_eqv x y h q
  | false =>
    exfalso
    have := (W.toks_eqv x y h).2 q [] [.inl 0]
    rw [e, W.lex_pre, PyProof.Rows.lex_irrefl] at this
    cases this
/-- two orders of the same alike data: sorted the same -/
theorem perm_eq_mem {α : Type} {r : α → α → Prop} : ∀ {l m : List α}, (∀ a ∈ l, ∀ b ∈ l, r a b → r b a → a = b) → l.Perm m → l.Pairwise r → m.Pairwise r → l = m
  | [], m, _, p, _, _ => (List.nil_perm.mp p).symm
  | a :: l, [], _, p, _, _ => absurd p.symm (by simp)
  | a :: l, b :: m, anti, p, h1, h2 => by
    have hb0 : b ∈ a :: l := p.mem_iff.mpr List.mem_cons_self
    have hab : a = b := by
      by_cases e : a = b
      · exact e
      · have ha : a ∈ m := by
          rcases List.mem_cons.mp (p.mem_iff.mp (List.mem_cons_self (a := a) (l := l))) with z | z
          · exact absurd z e
          · exact z
        have hb : b ∈ l := by
          rcases List.mem_cons.mp hb0 with z | z
          · exact absurd z.symm e
          · exact z
        exact anti a List.mem_cons_self b hb0 ((List.pairwise_cons.mp h1).1 b hb) ((List.pairwise_cons.mp h2).1 a ha)
    subst hab
    rw [perm_eq_mem (fun x hx y hy => anti x (List.mem_cons_of_mem _ hx) y (List.mem_cons_of_mem _ hy)) (List.Perm.cons_inv p) (List.pairwise_cons.mp h1).2 (List.pairwise_cons.mp h2).2]
theorem srtD_eq {xs ys : List D} (ho : W.AllAlike xs) (p : ys.Perm xs) (hs : ys.Pairwise fun a b => leD a b = true) : ys = srtD xs :=
  perm_eq_mem (r := fun a b => leD a b = true) (fun a ha b hb h1 h2 => leD_anti (ho a (p.mem_iff.mp ha) b (p.mem_iff.mp hb)) h1 h2) (p.trans (srtD_perm xs).symm) hs (srtD_pw xs)
theorem srtD_congr {xs ys : List D} (ho : W.AllAlike xs) (p : ys.Perm xs) : srtD ys = srtD xs := srtD_eq ho ((srtD_perm ys).trans p) (srtD_pw ys)
end Sw

set_option Elab.async false
set_option linter.all false
set_option maxRecDepth 100000
namespace Sw
open PySem PySem.Spec L2
/-- no list of its own stands in these slots -/
def nob : Option SV → Prop
  | some (.obj _ _) => False
  | _ => True
def NoOwn (env : List SV) : List Nat → Prop
  | [] => True
  | v :: vs => nob env[v]? ∧ NoOwn env vs
theorem NoOwn.get {env : List SV} : ∀ {vs : List Nat}, NoOwn env vs → ∀ j ∈ vs, ∀ l ds, env[j]? ≠ some (SV.obj l ds)
  | v :: vs, h, j, hj, l, ds => fun e => by
    rcases List.mem_cons.mp hj with rfl | hj
    · have h1 := h.1
      rw [e] at h1
      exact h1
    · exact h.2.get j hj l ds e
end Sw

set_option Elab.async false
set_option linter.all false
set_option maxRecDepth 100000
namespace Sw
open PySem PySem.Spec L2
mutual
theorem eqv_data : ∀ a b : NestedKey, PyData.eqv a.data b.data = NestedKey.beq a b
  | .none, b => by cases b <;> simp [NestedKey.data, PyData.eqv, NestedKey.beq]
  | .num i, b => by
    cases b with
    | num j =>
      simp only [NestedKey.data, PyData.eqv, NestedKey.beq]
      by_cases h : i = j <;> simp [h]
    | _ => simp [NestedKey.data, PyData.eqv, NestedKey.beq]
  | .text x, b => by
    cases b with
    | text y =>
      simp only [NestedKey.data, PyData.eqv, NestedKey.beq]
      by_cases h : x = y <;> simp [h]
    | _ => simp [NestedKey.data, PyData.eqv, NestedKey.beq]
  | .tup ks, b => by
    cases b with
    | tup ls =>
      simp only [NestedKey.data, PyData.eqv, NestedKey.beq]
      exact eqv_datas ks ls
    | _ => simp [NestedKey.data, PyData.eqv, NestedKey.beq]
theorem eqv_datas : ∀ ks ls : List NestedKey, PyData.eqvAll (NestedKey.datas ks) (NestedKey.datas ls) = NestedKey.beqAll ks ls
  | [], [] => rfl
  | [], _ :: _ => rfl
  | _ :: _, [] => rfl
  | k :: ks, l :: ls => by
    simp only [NestedKey.datas, PyData.eqvAll, NestedKey.beqAll]
    rw [eqv_data k l, eqv_datas ks ls]
end
theorem eqv_nk (a b : NestedKey) : PyData.eqv (nkD a) (nkD b) = decide (a = b) := by
  rw [NestedKey.decide_eq]
  exact eqv_data a b
/-- what a dict holds at a key -/
def lookD (kds : List (D × D)) (k : D) : Option D := (kds.find? fun p => PyData.eqv p.1 k).map Prod.snd
/-- a key of a dict; t: the keys are tuples -/
def KeyT : Bool → D → Prop
  | false, k => ∃ kk : Key, k = kD kk
  | true, k => ∃ nk : NestedKey, k = nkD nk ∧ (∃ z, nk = .tup z) ∧ nk.depth ≤ 8
theorem lookD_nil (k : D) : lookD [] k = none := rfl
theorem lookD_cons (p : D × D) (r : List (D × D)) (k : D) : lookD (p :: r) k = if PyData.eqv p.1 k = true then some p.2 else lookD r k := by
  unfold lookD
  rw [List.find?_cons]
  cases PyData.eqv p.1 k <;> rfl
section
variable {X : Cz} {pins : List (Addr × Obj)} {σ : L2.St} {H F : Hp} {s : Shared}
mutual
theorem nested_at (I : Inv X pins σ H s) (hF : Le F H) : ∀ (nk : NestedKey) (v : V) (u : Value), At X.fr F (nkD nk) v → RelV v u → NestedIs s.heap nk u
  | .none, v, u, a, r => by
    have a : v = .non := by simpa [nkD, NestedKey.data, At] using a
    subst a
    cases (show u = Value.none from r)
    exact .none
  | .num i, v, u, a, r => by
    have a : v = .int i := by simpa [nkD, NestedKey.data, At] using a
    subst a
    obtain ⟨t, q⟩ := (show ∃ t, u = Value.int i t from r)
    cases q
    exact .int i t
  | .text x, v, u, a, r => by
    have a : v = .str x := by simpa [nkD, NestedKey.data, At] using a
    subst a
    obtain ⟨t, q⟩ := (show ∃ t, u = Value.str x t from r)
    cases q
    exact .text x t
  | .tup ks, v, u, a, r => by
    have a : At X.fr F (.tuple (NestedKey.datas ks)) v := a
    simp only [At] at a
    obtain ⟨b, xs, rfl, ht, al⟩ := a
    cases (show u = Value.ref b from r)
    obtain ⟨its, rv, ⟨ob, h1, h2, n, h3⟩, _⟩ := I.tuple (Le.tupAt hF ht).sqT
    refine .tup h1 h2 h3 ?_
    simpa using nested_ats I hF ks xs its al rv
theorem nested_ats (I : Inv X pins σ H s) (hF : Le F H) : ∀ (ks : List NestedKey) (xs : List V) (us : List Value), AtAll X.fr F (NestedKey.datas ks) xs → Vals xs us → NestedAll s.heap ks us
  | [], xs, us, a, r => by
    have a : xs = [] := by simpa [NestedKey.datas, AtAll] using a
    subst a
    cases r
    exact .nil
  | k :: ks, xs, us, a, r => by
    simp only [NestedKey.datas, AtAll] at a
    obtain ⟨x, ys, rfl, a, al⟩ := a
    cases r with
    | cons r1 r2 => exact .cons (nested_at I hF k x _ a r1) (nested_ats I hF ks ys _ al r2)
end
abbrev PairZ : List (NestedKey × Addr × V) → List (NestedKey × Addr × Value) → Prop := Paired fun p q => p.1 = q.1 ∧ p.2.1 = q.2.1 ∧ RelV p.2.2 q.2.2
theorem AtN.len {K : FgK} : ∀ {kds : List (D × D)} {zs : List (NestedKey × Addr × V)}, AtN K F kds zs → zs.length = kds.length
  | [], zs, h => by simp only [AtN] at h; subst h; rfl
  | (k, d) :: r, zs, h => by
    simp only [AtN] at h
    obtain ⟨_, _, _, zr, rfl, _, _, _, q⟩ := h
    simp [AtN.len q]
theorem AtK.len {K : FgK} : ∀ {kds : List (D × D)} {zs : List (Key × V)}, AtK K F kds zs → zs.length = kds.length
  | [], zs, h => by simp only [AtK] at h; subst h; rfl
  | (k, d) :: r, zs, h => by
    simp only [AtK] at h
    obtain ⟨_, _, zr, rfl, _, _, q⟩ := h
    simp [AtK.len q]
theorem AtN.is (I : Inv X pins σ H s) (hF : Le F H) : ∀ {kds : List (D × D)} {zs : List (NestedKey × Addr × V)} {us : List (NestedKey × Addr × Value)}, AtN X.fr F kds zs → (∀ x ∈ zs, ∃ z, x.1 = .tup z ∧ x.1.depth ≤ 8) → PairZ zs us → ∀ x ∈ us, (nestedKind X.prog X.w).is s.heap x.1 x.2.1
  | [], zs, us, h, _, p, x, hx => by
    simp only [AtN] at h
    subst h
    cases p
    cases hx
  | (k, d) :: r, zs, us, h, hd, p, x, hx => by
    simp only [AtN] at h
    obtain ⟨kk, b, v, zr, rfl, rfl, a1, a2, q⟩ := h
    cases p with
    | cons p1 p2 =>
      rcases List.mem_cons.mp hx with rfl | hx
      · obtain ⟨e1, e2, _⟩ := p1
        simp only at e1 e2
        obtain ⟨z, _, hz⟩ := hd _ List.mem_cons_self
        have n := nested_at I hF kk (.ref b) (.ref b) a1 rfl
        exact ⟨by rw [← e1, ← e2]; exact n, by rw [← e1]; exact hz⟩
      · exact AtN.is I hF q (fun y hy => hd y (List.mem_cons_of_mem _ hy)) p2 x hx
end
end Sw

set_option Elab.async false
set_option linter.all false
set_option maxRecDepth 100000
namespace Sw
open PySem PySem.Spec L2
section
variable {X : Cz} {pins : List (Addr × Obj)} {σ : L2.St} {H F : Hp} {s : Shared} {a : Addr} {o : HO} {t : Bool} {kds : List (D × D)} {k : D} {y : V} {u : Value} {A : Around} {E : Value → Shared → Prop}
theorem IsN.intro {K : FgK} {P : Program} {w : World} {H' : Hp} {h' : Heap} {zs : List (NestedKey × Addr × V)} {us : List (NestedKey × Addr × Value)} (e1 : K.P = P) (e2 : K.w = w) (hz : zs.length ≤ sizeLine) (hd : (a == sysModules) = false) (hk : ∀ x ∈ zs, ∃ z, x.1 = .tup z ∧ x.1.depth ≤ 8) (p : PairZ zs us) (dd : h'.DictOfH (nestedKind P w) a us) : ∃ o, IsN K a zs o ∧ ObjOk P w H' h' a o := by
  obtain ⟨ob, es, ep, h5, h6, h7, h8, _, h9⟩ := dd
  subst e1 e2
  refine ⟨_, rfl, ⟨hz, hd, hk, us, p, ob, es, ep, h5, h6, h7, h8, h9⟩, ⟨ob, h5⟩, ?_⟩
  rintro h1 h2 ⟨_, _, _, us', p', ob', es', ep', g5, g6, g7, g8, g9⟩ st
  exact ⟨hz, hd, hk, us', p', ob', es', ep', st _ g5, g6, g7, g8, g9⟩
end
end Sw

set_option Elab.async false
set_option linter.all false
set_option maxRecDepth 100000
namespace Sw
open PySem PySem.Spec L2
section
variable {X : Cz}
def OV.dic (env : List SV) : OV → Option (Option Bool × List (D × D))
  | .sl i => match env[i]? with
    | some (.obj _ (.dic t kds)) => some (some t, kds)
    | some (.dat (.dict kds)) => some (none, kds)
    | _ => none
  | .dv (.dict kds) => some (none, kds)
  | _ => none
theorem AtK.keys {K : FgK} {F : Hp} : ∀ {kds : List (D × D)} {zs : List (Key × V)}, AtK K F kds zs → ∀ p ∈ kds, KeyT false p.1
  | [], zs, _, p, hp => nomatch hp
  | (k, d) :: r, zs, h, p, hp => by
    simp only [AtK] at h
    obtain ⟨kk, _, zr, rfl, rfl, _, q⟩ := h
    rcases List.mem_cons.mp hp with rfl | hp
    · exact ⟨kk, rfl⟩
    · exact AtK.keys q p hp
theorem AtN.keys {K : FgK} {F : Hp} : ∀ {kds : List (D × D)} {zs : List (NestedKey × Addr × V)}, AtN K F kds zs → (∀ x ∈ zs, ∃ z, x.1 = .tup z ∧ x.1.depth ≤ 8) → ∀ p ∈ kds, KeyT true p.1
  | [], zs, _, _, p, hp => nomatch hp
  | (k, d) :: r, zs, h, hk, p, hp => by
    simp only [AtN] at h
    obtain ⟨kk, b, x, zr, rfl, rfl, _, _, q⟩ := h
    rcases List.mem_cons.mp hp with rfl | hp
    · obtain ⟨z, e, hd⟩ := hk _ List.mem_cons_self
      exact ⟨kk, rfl, ⟨z, e⟩, hd⟩
    · exact AtN.keys q (fun y hy => hk y (List.mem_cons_of_mem _ hy)) p hp
end
end Sw

set_option Elab.async false
set_option linter.all false
set_option maxRecDepth 100000
set_option maxHeartbeats 4000000
namespace Sw
open PySem PySem.Spec L2 PyProof.Rows
noncomputable local instance memDec (k : Key) (l : List Key) : Decidable (k ∈ l) := Classical.propDecidable _
section
variable {P : Program} {w : World} {A : Around} {E : Value → Shared → Prop} {s : Shared}
abbrev newSet (w : World) : Obj := { cls := .type "set", dict := none, data := .set #[] 0 (.fresh 0 0 (!w.params.followText "set-order")) }
end
end Sw

set_option Elab.async false
set_option linter.all false
set_option maxRecDepth 100000
set_option maxHeartbeats 4000000
namespace Sw
open PySem PySem.Spec L2 PySem.Calls PyProof.Rows
abbrev KAt (h : Heap) (k : NestedKey) (b : Addr) : Prop := NestedIs h k (.ref b) ∧ k.depth ≤ 8
section
variable {P : Program} {w : World} {A : Around} {E : Value → Shared → Prop} {s : Shared}
def NoCls (P : Program) (w : World) (n : Nat) (s : Shared) (v : Value) : Prop := ∀ (A : Around) (E : Value → Shared → Prop) (Q : Bool → Shared → Prop), Q false s → wpAny (model P w) A (ofAClassStatement n v) Q E s
def ByV (P : Program) (w : World) (n : Nat) (s : Shared) (v : Value) : Prop := ∀ (A : Around) (E : Value → Shared → Prop) (Q : Bool → Shared → Prop), (∀ b, Q b s) → wpAny (model P w) A (hashByValue n v) Q E s
theorem NoCls.tup {n m : Nat} {a : Addr} {o : Obj} {vs : Array Value} (ho : s.heap.get? a = some o) (hc : o.cls = .type "tuple") (hd : o.data = .seq vs m) (hq : ∀ v ∈ vs.toList, NoCls P w n s v) : NoCls P w (n + 1) s (.ref a) := fun A E Q h => by
  unfold ofAClassStatement
  refine wpAny_bind (wpAny_typeOf (T := "tuple") ⟨o, ho, hc⟩ ?_)
  dsimp only
  simp only [show (("tuple" : String) == "tuple") = true by decide, if_true, Bool.not_true, Bool.false_eq_true, if_false]
  try refine wpAny_bind (wpAny_pure ?_)
  try simp only [Bool.not_true, Bool.false_eq_true, if_false]
  show wpAny _ _ (seqItems? (.ref a) >>= _) _ _ s
  refine wpAny_bind (wpAny_seqItems ho hd (wpAny_bind ?_))
  show wpAny _ _ (forIn vs _ _) _ _ s
  rw [← Array.forIn_toList]
  refine wpAny_forIn_list _ (fun rest r z => r.1 = none ∧ z = s ∧ ∀ v ∈ rest, NoCls P w n s v) _ ?_ ?_ _ _ ⟨rfl, rfl, hq⟩
  · rintro v rest r z ⟨e, rfl, all⟩
    refine wpAny_bind (all v List.mem_cons_self _ _ _ ?_)
    simp only [Bool.false_eq_true, if_false]
    exact wpAny_pure ⟨rfl, rfl, fun u hu => all u (List.mem_cons_of_mem _ hu)⟩
  · rintro ⟨r1, r2⟩ z ⟨e, rfl, _⟩
    simp only at e
    subst e
    exact wpAny_pure h
theorem ByV.tup {n m : Nat} {a : Addr} {o : Obj} {vs : Array Value} (ho : s.heap.get? a = some o) (hc : o.cls = .type "tuple") (hd : o.data = .seq vs m) (hq : ∀ v ∈ vs.toList, ByV P w n s v) : ByV P w (n + 1) s (.ref a) := fun A E Q h => by
  unfold hashByValue
  refine wpAny_bind (wpAny_specialOf (T := "tuple") ⟨o, ho, hc⟩ F.slot_tuple_hash.lookup ?_)
  show wpAny _ _ (seqItems? (.ref a) >>= _) _ _ s
  refine wpAny_bind (wpAny_seqItems ho hd (wpAny_bind ?_))
  show wpAny _ _ (forIn vs _ _) _ _ s
  rw [← Array.forIn_toList]
  refine wpAny_forIn_list _ (fun rest r z => r.1 = none ∧ z = s ∧ ∀ v ∈ rest, ByV P w n s v) _ ?_ ?_ _ _ ⟨rfl, rfl, hq⟩
  · rintro v rest r z ⟨e, rfl, all⟩
    refine wpAny_bind (all v List.mem_cons_self _ _ _ fun b => ?_)
    cases b with
    | true =>
      simp only [Bool.not_true, Bool.false_eq_true, if_false]
      exact wpAny_pure ⟨rfl, rfl, fun u hu => all u (List.mem_cons_of_mem _ hu)⟩
    | false =>
      simp only [Bool.not_false, if_true]
      exact wpAny_pure (wpAny_pure (h false))
  · rintro ⟨r1, r2⟩ z ⟨e, rfl, _⟩
    simp only at e
    subst e
    exact wpAny_pure (h true)
/-- the set at a holds just the tuples L -/
structure Few (w : World) (h : Heap) (a : Addr) (L : List (Addr × NestedKey)) (es : Array (Int × Value)) (ep : Nat) (t : SetTable) : Prop where
  ob : ∃ o, h.get? a = some o ∧ o.ExactSet ∧ o.data = .set es ep t
  rows : es.toList = L.map fun p => (p.2.hash w, Value.ref p.1)
  tab : TabOk t (L.map fun p => p.2.hash w)
  nd : (L.map (·.2)).Nodup
  key : ∀ p ∈ L, KAt h p.2 p.1
  mask : t.mask = 7
  few : L.length ≤ 4
variable {a : Addr} {L : List (Addr × NestedKey)} {es : Array (Int × Value)} {ep : Nat} {t : SetTable}
theorem Few.size (R : Few w s.heap a L es ep t) : es.size = L.length := by
  rw [← Array.length_toList, R.rows, List.length_map]
theorem Few.get (R : Few w s.heap a L es ep t) {i : Nat} {p : Addr × NestedKey} (h : L[i]? = some p) : es[i]? = some (p.2.hash w, Value.ref p.1) := by
  rw [← Array.getElem?_toList, R.rows, List.getElem?_map, h]
  rfl
end
end Sw

set_option Elab.async false
set_option linter.all false
set_option maxRecDepth 100000
set_option maxHeartbeats 4000000
namespace Sw
open PySem PySem.Spec L2 PySem.Calls PyProof.Rows
section
variable {P : Program} {w : World} {A : Around} {E : Value → Shared → Prop} {s : Shared}
theorem Few.keep {h h' : Heap} {a : Addr} {L : List (Addr × NestedKey)} {es : Array (Int × Value)} {ep : Nat} {t : SetTable} (R : Few w h a L es ep t) (ha : ∀ o, h.get? a = some o → h'.get? a = some o) (hk : ∀ p ∈ L, KAt h' p.2 p.1) : Few w h' a L es ep t := by
  obtain ⟨o, ho, r⟩ := R.ob
  exact ⟨⟨o, ha o ho, r⟩, R.rows, R.tab, R.nd, hk, R.mask, R.few⟩
theorem Few.new {h : Heap} {a : Addr} (ho : h.get? a = some (newSet w)) : Few w h a [] #[] 0 (.fresh 0 0 (!w.params.followText "set-order")) :=
  ⟨⟨_, ho, ⟨rfl, rfl, rfl⟩, rfl⟩, rfl, ⟨List.Pairwise.nil, rfl, rfl, .inl rfl, fun x hx => (by cases hx), fun i h j hi => (by simp at hi)⟩, List.nodup_nil, fun p hp => (by cases hp), rfl, (by decide)⟩
end
end Sw

set_option Elab.async false
set_option linter.all false
set_option maxRecDepth 100000
set_option maxHeartbeats 4000000
namespace Sw
open PySem PySem.Spec L2
abbrev AlE : Type := He.AlD × Bool
def obsE (fa : List He.Fa) (fn : List He.DefD) (ex : PySem.W.Frag → Bool) (K : PySem.W.Frag) : AlE := (He.obsD fa fn K, ex K)
def valE (fn : List He.DefD) : AlE := (He.valD fn, true)
def SaysE (fa : List He.Fa) (fn : List He.DefD) (ex : PySem.W.Frag → Bool) (K : PySem.W.Frag) : Prop := obsE fa fn ex K = valE fn
theorem SaysE.d {fa : List He.Fa} {fn : List He.DefD} {ex : PySem.W.Frag → Bool} {K : PySem.W.Frag} (c : SaysE fa fn ex K) : He.SaysD fa fn K := congrArg (fun z : AlE => z.1) c
theorem SaysE.ex {fa : List He.Fa} {fn : List He.DefD} {ex : PySem.W.Frag → Bool} {K : PySem.W.Frag} (c : SaysE fa fn ex K) : ex K = true := congrArg (fun z : AlE => z.2) c
end Sw

set_option Elab.async false
set_option linter.all false
set_option maxRecDepth 100000
set_option maxHeartbeats 4000000
namespace Sw
open PySem PySem.Spec L2
def strB (z : Str) : Value → Bool
  | .str y _ => decide (y = z)
  | _ => false
def intB (i : Int) : Value → Bool
  | .int j _ => decide (j = i)
  | _ => false
def strsB : List D → List Value → Bool
  | [], [] => true
  | .str z :: r, u :: s => strB z u && strsB r s
  | .int i :: r, u :: s => intB i u && strsB r s
  | _, _ => false
def valB (K : PySem.W.Frag) : D → Value → Bool
  | .str z, u => strB z u
  | .tuple ds, .ref p => (match K.lookup p with
    | some ⟨.type c, _, .seq its _, _⟩ => decide (c = "tuple") && (decide (its.size ≤ 1000) && strsB ds its.toList)
    | _ => false)
  | _, _ => false
def dcB (K : PySem.W.Frag) (x : Str) (kvs : List (Str × D)) : Bool := kvs.all fun q => match PySem.W.nsIn K (He.ga K x) q.1 with
  | some (some u) => valB K q.2 u
  | _ => false
abbrev AlF : Type := (He.AlD × Bool) × List (Option (List (Option (Str × Int))))
def obsF (fa : List He.Fa) (fn : List He.DefD) (ex : PySem.W.Frag → Bool) (ts : List (Str × List (Str × D))) (K : PySem.W.Frag) : AlF := ((He.obsD fa fn K, ex K), ts.map fun t => He.dicW K (He.ga K t.1))
def valFH (fn : List He.DefD) (ts : List (Str × List (Str × D))) (w : World) : AlF := ((He.valD fn, true), ts.map fun t => some (He.keysIn w.params (t.2.map (·.1))))
def SaysF (fa : List He.Fa) (fn : List He.DefD) (ex : PySem.W.Frag → Bool) (ts : List (Str × List (Str × D))) (w : World) (K : PySem.W.Frag) : Prop := obsF fa fn ex ts K = valFH fn ts w
section
variable {fa : List He.Fa} {fn : List He.DefD} {ex : PySem.W.Frag → Bool} {ts : List (Str × List (Str × D))} {w : World} {K : PySem.W.Frag}
theorem SaysF.e (c : SaysF fa fn ex ts w K) : SaysE fa fn ex K := congrArg (fun z : AlF => z.1) c
theorem SaysF.tab (c : SaysF fa fn ex ts w K) (i : Nat) {x : Str} {kvs : List (Str × D)} (h : ts[i]? = some (x, kvs) := by rfl) : He.dicW K (He.ga K x) = some (He.keysIn w.params (kvs.map (·.1))) := by
  have e : ts.map (fun t => He.dicW K (He.ga K t.1)) = ts.map fun t => some (He.keysIn w.params (t.2.map (·.1))) := congrArg (fun z : AlF => z.2) c
  have e2 : (ts.map fun t => He.dicW K (He.ga K t.1))[i]? = (ts.map fun t => some (He.keysIn w.params (t.2.map (·.1))))[i]? := by rw [e]
  rw [List.getElem?_map, List.getElem?_map, h] at e2
  exact Option.some.inj e2
end
end Sw

set_option Elab.async false
set_option linter.all false
set_option maxRecDepth 100000
set_option maxHeartbeats 4000000
namespace Sw
open PySem PySem.Spec L2
def goX (g : Addr → Option Obj) : Nat → List Addr → List Addr
  | 0, fr => fr
  | n + 1, fr => fr ++ goX g n (fr.flatMap fun a => match g a with
    | some o => He.refsD o
    | none => [])
/-- what these names of the module reach in n steps -/
def asX (g : Addr → Option Obj) (ns : List Str) (n : Nat) : List Addr := mainGlobals :: goX g n (ns.map (He.ga (He.frG g [mainGlobals])))
def obsXG (n : Nat) (ns : List Str) (fa : List He.Fa) (fn : List He.DefD) (ex : PySem.W.Frag → Bool) (ts : List (Str × List (Str × D))) (g : Addr → Option Obj) : AlF := obsF fa fn ex ts (He.frG g (asX g ns n))
def hookX (n : Nat) (ns : List Str) (fa : List He.Fa) (fn : List He.DefD) (ex : PySem.W.Frag → Bool) (ts : List (Str × List (Str × D))) : PySem.W.Hook where
  α := AlF
  obs := fun s => obsXG n ns fa fn ex ts s.heap.get?
  val := fun w => valFH fn ts w
  says := fun w h => ∃ K : PySem.W.Frag, K.In h ∧ SaysF fa fn ex ts w K
  of := fun _ _ e => ⟨_, He.frG_in, e⟩
  keeps := fun _ _ _ ⟨K, hK, c⟩ k => ⟨K, PySem.W.Frag.In.keeps hK k, c⟩
theorem obsXG_eq {n : Nat} {ns : List Str} {fa : List He.Fa} {fn : List He.DefD} {ex : PySem.W.Frag → Bool} {ts : List (Str × List (Str × D))} {g : Addr → Option Obj} {s : Shared} (h : ∀ a, g a = s.heap.get? a) : obsXG n ns fa fn ex ts g = (hookX n ns fa fn ex ts).obs s := by
  have e : g = s.heap.get? := funext h
  rw [e] <;> rfl
end Sw

set_option Elab.async false
set_option linter.all false
set_option maxRecDepth 100000
set_option maxHeartbeats 4000000
namespace Sw
open PySem PySem.Spec L2 PySem.Calls PyProof.Rows
def MaskB (m : Nat) : Prop := MaskOk m ∨ m = 511
/-- the slots from x on, n of them -/
def cyc (m : Nat) : Nat → Nat → List Nat
  | 0, _ => []
  | n + 1, x => x :: cyc m n ((x * 5 + 1) % (m + 1))
theorem lcg_head (m i : Nat) : ∀ k, lcgI m ((i * 5 + 1) % (m + 1)) k = lcgI m i (k + 1)
  | 0 => rfl
  | k + 1 => congrArg (fun z => (z * 5 + 1) % (m + 1)) (lcg_head m i k)
theorem lcg_more (m i a : Nat) : ∀ k, lcgI m (lcgI m i a) k = lcgI m i (a + k)
  | 0 => rfl
  | k + 1 => congrArg (fun z => (z * 5 + 1) % (m + 1)) (lcg_more m i a k)
theorem cyc_in (m : Nat) : ∀ n x j, j ∈ cyc m n x → ∃ k, k < n ∧ lcgI m x k = j
  | 0, _, _, h => nomatch h
  | n + 1, x, j, h => by
    rcases List.mem_cons.mp h with rfl | h
    · exact ⟨0, Nat.succ_pos _, rfl⟩
    · obtain ⟨k, h1, h2⟩ := cyc_in m n _ j h
      exact ⟨k + 1, Nat.succ_lt_succ h1, (lcg_head m x k).symm.trans h2⟩
theorem cyc_511 : ((List.range 512).all fun j => (cyc 511 512 0).contains j) = true := by decide +kernel
theorem cyc_back : lcgI 511 0 512 = 0 := by decide +kernel
theorem from_0 {j : Nat} (hj : j ≤ 511) : ∃ k, k < 512 ∧ lcgI 511 0 k = j :=
  cyc_in 511 512 0 j (List.contains_iff_mem.mp (List.all_eq_true.mp cyc_511 j (List.mem_range.mpr (by omega))))
/-- from any slot to any slot -/
theorem from_any {i j : Nat} (hi : i ≤ 511) (hj : j ≤ 511) : ∃ k, k ≤ 511 ∧ lcgI 511 i k = j := by
  obtain ⟨a, ha, rfl⟩ := from_0 hi
  obtain ⟨b, hb, rfl⟩ := from_0 hj
  by_cases h : a ≤ b
  · exact ⟨b - a, by omega, by rw [lcg_more]; congr 1; omega⟩
  · refine ⟨512 + b - a, by omega, ?_⟩
    rw [lcg_more, show a + (512 + b - a) = 512 + b by omega, ← lcg_more, cyc_back]
theorem begins {m : Nat} (hm : MaskB m) (h : Int) {j : Nat} (hj : j ≤ m) : ∃ n, n ≤ m + 12 ∧ runI m (SetTable.bits h) n = j := by
  rcases hm with hm | rfl
  · exact run_meets hm h hj
  · obtain ⟨k, hk, e⟩ := from_any (runI_le 511 (SetTable.bits h) 12) hj
    exact ⟨12 + k, by omega, (runI_tail (bits_lt h) k).trans e⟩
theorem comes {m : Nat} (hm : MaskB m) (h : Int) {j : Nat} (hj : j ≤ m) : ∃ k, k < 10 * SetTable.turns m ∧ way m h k = j := by
  obtain ⟨n, hn, e⟩ := begins hm h hj
  obtain ⟨k, hk, e2⟩ := run_nth m (SetTable.bits h) n
  refine ⟨k, ?_, (congrArg SetTable.Probe.j e2).trans e⟩
  show k < 10 * (m + 15)
  omega
theorem way_in (m : Nat) (h : Int) (k : Nat) : way m h k ≤ m := by
  have hi : SetTable.bits h % (m + 1) ≤ m := by
    have := Nat.mod_lt (SetTable.bits h) (show m + 1 > 0 by omega)
    omega
  have b := runEnd_bd hi
  have q := nth_in (m := m) k (runAt m (SetTable.bits h % (m + 1)) (SetTable.bits h)) (show SetTable.bits h % (m + 1) + (SetTable.runEnd m (SetTable.bits h % (m + 1)) - SetTable.bits h % (m + 1)) ≤ m by
    have := b.1
    have := b.2.1
    omega)
  exact Nat.le_trans (Nat.le_add_right _ _) q
/-- a table in which each entry is found by its hash -/
structure TabB (t : SetTable) (hs : List Int) : Prop where
  ris : Ris t.place.toList
  dm : t.dummies = #[]
  sz : t.place.size = hs.length
  mok : MaskB t.mask
  bd : ∀ x ∈ t.place.toList, x ≤ t.mask
  met : ∀ q ∈ hs.zip t.place.toList, ∃ k, way t.mask q.1 k = q.2 ∧ ∀ c, c < k → way t.mask q.1 c ∈ t.place.toList
theorem TabB.first {t : SetTable} {hs : List Int} (T : TabB t hs) (hl : hs.length ≤ t.mask) (h : Int) : ∃ K, K < 10 * SetTable.turns t.mask ∧ way t.mask h K ∉ t.place.toList ∧ ∀ k, k < K → way t.mask h k ∈ t.place.toList := by
  obtain ⟨j, hj, hn⟩ := st_missing t.place.toList (t.mask + 1) (by rw [Array.length_toList, T.sz]; omega)
  obtain ⟨k, hk, e⟩ := comes T.mok h (Nat.le_of_lt_succ hj)
  obtain ⟨K, a, b, c⟩ := st_least (p := fun k => way t.mask h k ∉ t.place.toList) k (fun z => hn (e ▸ z))
  exact ⟨K, by omega, b, fun c' hc' => Classical.byContradiction (c c' hc')⟩
theorem zip_put {α β : Type} {as : List α} {bs : List β} {n : Nat} {a : α} {b : β} (he : as.length = bs.length) {q : α × β} (h : q ∈ (as.take n ++ a :: as.drop n).zip (bs.take n ++ b :: bs.drop n)) : q = (a, b) ∨ q ∈ as.zip bs := by
  rw [List.zip_append (by rw [List.length_take, List.length_take, he]), List.zip_cons_cons] at h
  rcases List.mem_append.mp h with h | h
  · refine .inr (List.mem_of_mem_take (i := n) ?_)
    rw [List.zip_eq_zipWith, List.take_zipWith]
    exact h
  · rcases List.mem_cons.mp h with h | h
    · exact .inl h
    · refine .inr (List.mem_of_mem_drop (i := n) ?_)
      rw [List.zip_eq_zipWith, List.drop_zipWith]
      exact h
theorem TabB.put {t : SetTable} {hs : List Int} (T : TabB t hs) {h : Int} {K : Nat} (hK : way t.mask h K ∉ t.place.toList) (hb : ∀ k, k < K → way t.mask h k ∈ t.place.toList) :
    (t.put (way t.mask h K)).2 = SetTable.below t.place (way t.mask h K) ∧ SetTable.below t.place (way t.mask h K) ≤ hs.length ∧
    TabB (t.put (way t.mask h K)).1 (hs.take (SetTable.below t.place (way t.mask h K)) ++ h :: hs.drop (SetTable.below t.place (way t.mask h K))) ∧
    (t.put (way t.mask h K)).1.mask = t.mask ∧ (t.put (way t.mask h K)).1.led = t.led ∧ (t.put (way t.mask h K)).1.fill = hs.length + 1 := by
  have hj := way_in t.mask h K
  have self : ∃ k, way t.mask h k = way t.mask h K ∧ ∀ c, c < k → way t.mask h c ∈ t.place.toList := ⟨K, rfl, hb⟩
  generalize way t.mask h K = j at *
  have hp := put_place t j
  have np : t.place[SetTable.below t.place j]? ≠ some j := fun e => hK (List.mem_of_getElem? ((Array.getElem?_toList ..).trans e))
  have hle : SetTable.below t.place j ≤ t.place.size := (below_cut T.ris j).1
  have hl2 : t.place.toList.length = hs.length := by rw [Array.length_toList]; exact T.sz
  have hsz : (t.put j).1.place.size = hs.length + 1 := by
    rw [← Array.length_toList, hp, len_ins _ (by rw [Array.length_toList]; exact hle), hl2]
  have hph : SetTable.below t.place j ≤ hs.length := by have := T.sz; omega
  have mono : ∀ x, x ∈ t.place.toList → x ∈ (t.put j).1.place.toList := fun x hx => by
    rw [hp]
    exact mem_ins.mpr (.inr hx)
  refine ⟨rfl, hph, ⟨ris_insert T.ris np, put_dm T.dm j, by rw [len_ins _ hph]; exact hsz, T.mok, fun x hx => ?_, fun q hq => ?_⟩, rfl, rfl, ?_⟩
  · rw [hp] at hx
    rcases mem_ins.mp hx with rfl | hx
    · exact hj
    · exact T.bd x hx
  · rw [hp] at hq
    show ∃ k, way t.mask q.1 k = q.2 ∧ ∀ c, c < k → way t.mask q.1 c ∈ (t.put j).1.place.toList
    rcases zip_put hl2.symm hq with rfl | hq
    · obtain ⟨k, a, b⟩ := self
      exact ⟨k, a, fun c hc => mono _ (b c hc)⟩
    · obtain ⟨k, a, b⟩ := T.met q hq
      exact ⟨k, a, fun c hc => mono _ (b c hc)⟩
  · show (t.put j).1.place.size + (t.put j).1.dummies.size = hs.length + 1
    rw [hsz, put_dm T.dm j]
    rfl
end Sw

set_option Elab.async false
set_option linter.all false
set_option maxRecDepth 100000
set_option maxHeartbeats 4000000
namespace Sw
open PySem PySem.Spec L2 PySem.Calls PyProof.Rows
section
variable {P : Program} {w : World} {A : Around} {E : Value → Shared → Prop} {s : Shared}
/-- the set at a holds just the tuples L -/
structure Many (w : World) (h : Heap) (a : Addr) (L : List (Addr × NestedKey)) (es : Array (Int × Value)) (ep : Nat) (t : SetTable) : Prop where
  ob : ∃ o, h.get? a = some o ∧ o.ExactSet ∧ o.data = .set es ep t
  rows : es.toList = L.map fun p => (p.2.hash w, Value.ref p.1)
  tab : TabB t (L.map fun p => p.2.hash w)
  nd : (L.map (·.2)).Nodup
  key : ∀ p ∈ L, KAt h p.2 p.1
  room : L.length * 5 < t.mask * 3
  few : L.length ≤ 80
  led : w.params.followText "set-order" = true ∨ t.led = true
variable {a : Addr} {L : List (Addr × NestedKey)} {es : Array (Int × Value)} {ep : Nat} {t : SetTable}
theorem Many.size (R : Many w s.heap a L es ep t) : es.size = L.length := by
  rw [← Array.length_toList, R.rows, List.length_map]
theorem Many.get (R : Many w s.heap a L es ep t) {i : Nat} {p : Addr × NestedKey} (h : L[i]? = some p) : es[i]? = some (p.2.hash w, Value.ref p.1) := by
  rw [← Array.getElem?_toList, R.rows, List.getElem?_map, h]
  rfl
end
end Sw

set_option Elab.async false
set_option linter.all false
set_option maxRecDepth 100000
set_option maxHeartbeats 4000000
namespace Sw
open PySem PySem.Spec L2 PySem.Calls PyProof.Rows
section
variable {P : Program} {w : World} {A : Around} {E : Value → Shared → Prop} {s : Shared}
theorem Many.keep {h h' : Heap} {a : Addr} {L : List (Addr × NestedKey)} {es : Array (Int × Value)} {ep : Nat} {t : SetTable} (R : Many w h a L es ep t) (ha : ∀ o, h.get? a = some o → h'.get? a = some o) (hk : ∀ p ∈ L, KAt h' p.2 p.1) : Many w h' a L es ep t := by
  obtain ⟨o, ho, r⟩ := R.ob
  exact ⟨⟨o, ha o ho, r⟩, R.rows, R.tab, R.nd, hk, R.room, R.few, R.led⟩
theorem Many.new {h : Heap} {a : Addr} (ho : h.get? a = some (newSet w)) : Many w h a [] #[] 0 (.fresh 0 0 (!w.params.followText "set-order")) :=
  ⟨⟨_, ho, ⟨rfl, rfl, rfl⟩, rfl⟩, rfl, ⟨List.Pairwise.nil, rfl, rfl, .inl (.inl rfl), fun x hx => (by cases hx), fun q hq => (by simp at hq)⟩, List.nodup_nil, fun p hp => (by cases hp), (show 0 * 5 < 7 * 3 by decide), Nat.zero_le _, (by
    cases w.params.followText "set-order" with
    | true => exact .inl rfl
    | false => exact .inr rfl)⟩
end
end Sw

set_option Elab.async false
set_option linter.all false
set_option maxRecDepth 100000
namespace L2N
open PySem PySem.Spec PyProof.Rows L2
theorem mk_end {X : Cx} {pins : List (Addr × Obj)} {σ : L2.St} {H1 H2 : Hp} {Q : XK} {hp hp2 h2 : Heap} {g1 g2 : Array GenState} {d1 d2 : Drawn} {t1 t2 : Nat} {os1 os2 : OsState} {a C d : Addr} {fs : List (Str × V)} (T : Raises X (.ref C)) (I1 : Inv X pins σ H1 ⟨hp, g1, d1, t1, os1⟩)
    (ha : hp.objs.size ≤ a) (k : ∀ b o, hp.get? b = some o → hp2.get? b = some o) (un : Un (frs X.stack) [] (upd H1 a (exo a C none)) H2 hp2 h2) (hok : HOk X.prog X.w H2 h2) (ho : os2 = os1) (hb : AllBare g2)
    (ea : H2 a = some (exo a C (some d))) (ed : H2 d = some (exd d fs)) (hd1 : H1 d = none) (q : Q (.ref C) (some d) (upd (del H2 a) d (.xd fs))) : MkP X pins σ Q (.ref a) ⟨h2, g2, d2, t2, os2⟩ := by
  obtain ⟨t0, G, J, kG, ge, hoe, na⟩ := mk_end0 (d2 := d2) (t2 := t2) I1 ha k un hok ho hb ea ed hd1
  exact ⟨a, _, _, ⟨G, g2, d2, t2, os2⟩, _, .ref C, some d, rfl, J, kG, ge, hoe, ⟨rfl, rfl, fun vs e => by cases e; rfl⟩, rfl, rfl, na, rfl, hb, T, q⟩
theorem pmk_oex {X : Cx} {e : Expr} {es : List Expr} {ta : TA} {p pos : Pos} {CX : CXT} {x : Str} {C fI : Addr} {k : Nat} {fd : FuncData} {ps : List Str} {sp : Sp} {ds : List Value} {dvs : List V} (T : OexC X.K C) (iC : PySem.W.findIn X.K (.ref C) "__init__" = some (some (.ref fI))) (tI : PySem.W.typeIn X.K (.ref fI) = some (.type "function"))
    (F1 : FnOk X.prog X.w X.K X.mg X.base CX k fI fd ps sp) (hr : Room (k + 1) X.A) (hb : Binds X.K fd ps ds) (hd : Vals dvs ds) (hx : Passes CX X (fun _ _ _ => False)) (hg : Gl X x) (hm : X.mg x = some (.ref C)) (ha : PA X (e :: es) ta)
    (hdb : (x == ("__debug__" : Str)) = false := by decide) (he : starEach (e :: es) X.env = (false, eval e X.env) :: starEach es X.env := by rfl) (hpl : (backTo pos (starEach es X.env)).any (·.1) = false := by rfl) :
    PMk X (.Call (.Name x p) (e :: es) [] pos) (tMkO C sp dvs ta) := by
  intro pins s σ H Q I h
  obtain ⟨nm, q, N, bs, bm, sn, sub, ab, col, dd, k0, k1, k2, k3, k5, hC, hbm⟩ := T.cls
  refine wpAny_Call_Name_kw (ld_glob I hg hm ?_ hdb)
  refine PySem.W.callWith_K (h₀ := X.base) I.ok.mod.kin T.kC (thn (ha.run pos pins s σ H _ I h) fun us s1 ⟨vs, H1, I1, r1, hz, q1⟩ => ⟨I1.kIn, ?_⟩) he hpl
  show wpAny _ _ (call (.ref C) us) _ _ _
  obtain ⟨hp, g, dr, tk, os⟩ := s1
  have hsz : hp.objs.size ≤ hp.objs.size + 1 := Nat.le_succ _
  have hn : H1 (hp.objs.size + 1) = none := I1.hok.fresh hsz
  have hq := q1 (hp.objs.size + 1) hn
  have kk : ∀ b o, hp.get? b = some o → ((hp.push (PySem.W.kdv_tup us)).push (PySem.HandSPX.excO C hp.objs.size)).get? b = some o := fun b o e => Heap.get?_push_of_some _ (Heap.get?_push_of_some _ e)
  have hget : ((hp.push (PySem.W.kdv_tup us)).push (PySem.HandSPX.excO C hp.objs.size)).get? (hp.objs.size + 1) = some (PySem.HandSPX.excO C hp.objs.size) := by heap_get
  have I2 : Inv X pins σ (upd H1 (hp.objs.size + 1) (exo (hp.objs.size + 1) C none)) ⟨(hp.push (PySem.W.kdv_tup us)).push (PySem.HandSPX.excO C hp.objs.size), g, dr, tk, os⟩ :=
    I1.laid (t' := tk) (a := hp.objs.size + 1) (o := exo (hp.objs.size + 1) C none) (h' := (hp.push (PySem.W.kdv_tup us)).push (PySem.HandSPX.excO C hp.objs.size)) kk hsz (exo_ok hget)
  have r2 : Vals (V.ref (hp.objs.size + 1) :: (vs ++ dvs)) (Value.ref (hp.objs.size + 1) :: (us ++ ds)) := .cons rfl (r1.append hd)
  have hl : (Value.ref (hp.objs.size + 1) :: us ++ ds).length = ps.length := by
    have e := r2.length
    rw [F1.len _ _ _ _ hq] at e
    exact e.symm
  have hus : us.length ≤ sizeLine := by
    rw [← Paired.length r1, sizeLine_eq]
    omega
  refine wpAny_call (PySem.HandSPX.call_own F.excBase_ValueError (fun Y => PySem.HandSPX.refsVE_contains Y bm hbm) (I1.kIn _ _ hC) (PySem.W.looks_findIn I1.kIn iC) (fun self => PySem.W.bind_fn I1.kIn self tI) hus
    (codeAny_mono (F1.run _ X.stack _ _ ⟨Value.ref (hp.objs.size + 1) :: us, []⟩ (Value.ref (hp.objs.size + 1) :: (us ++ ds)) _ _ (fun _ _ _ => False) (hr.make C us []) (I2.env0.make C us []) (hb _ (Value.ref (hp.objs.size + 1) :: us) I2.kIn hl) r2 hq) fun r s' hq' => ?_))
  cases r with
  | error er => exact hx pins σ _ _ er s' I2 hq'
  | ok fl =>
    cases fl with
    | ret u =>
      obtain ⟨v, H2, os2, bare2, un2, hok2, rv, ev, d, fs, ea, ed, hd1, q2⟩ := hq'
      subst ev
      obtain ⟨h2, g2, d2, t2, os'⟩ := s'
      exact ⟨rv, mk_end (raises_own T.exC T.tyC) I1 hsz kk un2 hok2 os2 bare2 ea ed hd1 q2⟩
    | next => exact False.elim hq'
    | brk => exact False.elim hq'
    | cont => exact False.elim hq'
/-! ### X(), X an own exception class -/
theorem pmk_own0 {X : Cx} {C : Addr} {bmB : List Value} {B newId initId : String} {x : Str} {p pos : Pos} (F : ExcBaseFacts B newId initId bmB) (q : PySem.W.excIn X.K C bmB newId = true) (gC : X.mg x = some (.ref C))
    (kC : PySem.W.keepIn X.K (.ref C) = true) (r : Raises X (.ref C)) (hg : Gl X x) (hdb : (x == ("__debug__" : Str)) = false := by decide) :
    PMk X (.Call (.Name x p) [] [] pos) (fun σ H Q => Q (.ref C) none H) := by
  intro pins s σ H Q I h
  refine wpAny_Call_Name_kw (ld_glob I hg gC ?_ hdb)
  refine PySem.W.callWith_K0 I.kIn kC ?_
  show wpAny _ _ (call (.ref C) []) _ _ _
  obtain ⟨bm, N, nm, qn, bs, hdct, sn, sub, ab, col, dd, k0, k1, k2, k3, k5, mN, hC, hN, hni, T⟩ := exc_obj I.kIn q
  refine wpAny_call_exc_subT F T hC hN hni (fun h' e hm => ?_) (Nat.zero_le _)
  exact mk_of I hm r h (I.hok.gone hm.new)
theorem pmk_oex0 {X : Cx} {p pos : Pos} {CX : CXT} {x : Str} {C fI : Addr} {k : Nat} {fd : FuncData} {ps : List Str} {sp : Sp} {ds : List Value} {dvs : List V} (T : OexC X.K C) (iC : PySem.W.findIn X.K (.ref C) "__init__" = some (some (.ref fI))) (tI : PySem.W.typeIn X.K (.ref fI) = some (.type "function"))
    (F1 : FnOk X.prog X.w X.K X.mg X.base CX k fI fd ps sp) (hr : Room (k + 1) X.A) (hb : Binds X.K fd ps ds) (hd : Vals dvs ds) (hx : Passes CX X (fun _ _ _ => False)) (hg : Gl X x) (hm : X.mg x = some (.ref C))
    (hdb : (x == ("__debug__" : Str)) = false := by decide) :
    PMk X (.Call (.Name x p) [] [] pos) (tMkO C sp dvs tNil) := by
  intro pins s σ H Q I h
  obtain ⟨nm, q, N, bs, bm, sn, sub, ab, col, dd, k0, k1, k2, k3, k5, hC, hbm⟩ := T.cls
  refine wpAny_Call_Name_kw (ld_glob I hg hm ?_ hdb)
  refine PySem.W.callWith_K0 I.kIn T.kC ?_
  show wpAny _ _ (call (.ref C) []) _ _ _
  obtain ⟨hz, q1⟩ := h
  obtain ⟨hp, g, dr, tk, os⟩ := s
  have hsz : hp.objs.size ≤ hp.objs.size + 1 := Nat.le_succ _
  have hn : H (hp.objs.size + 1) = none := I.hok.fresh hsz
  have hq := q1 (hp.objs.size + 1) hn
  have kk : ∀ b o, hp.get? b = some o → ((hp.push (PySem.W.kdv_tup [])).push (PySem.HandSPX.excO C hp.objs.size)).get? b = some o := fun b o e => Heap.get?_push_of_some _ (Heap.get?_push_of_some _ e)
  have hget : ((hp.push (PySem.W.kdv_tup [])).push (PySem.HandSPX.excO C hp.objs.size)).get? (hp.objs.size + 1) = some (PySem.HandSPX.excO C hp.objs.size) := by heap_get
  have I2 : Inv X pins σ (upd H (hp.objs.size + 1) (exo (hp.objs.size + 1) C none)) ⟨(hp.push (PySem.W.kdv_tup [])).push (PySem.HandSPX.excO C hp.objs.size), g, dr, tk, os⟩ :=
    I.laid (t' := tk) (a := hp.objs.size + 1) (o := exo (hp.objs.size + 1) C none) (h' := (hp.push (PySem.W.kdv_tup [])).push (PySem.HandSPX.excO C hp.objs.size)) kk hsz (exo_ok hget)
  have r2 : Vals (V.ref (hp.objs.size + 1) :: ([] ++ dvs)) (Value.ref (hp.objs.size + 1) :: ds) := .cons rfl hd
  have hl : ([Value.ref (hp.objs.size + 1)] ++ ds).length = ps.length := by
    have e := r2.length
    rw [F1.len _ _ _ _ hq] at e
    exact e.symm
  have hus : ([] : List Value).length ≤ sizeLine := Nat.zero_le _
  refine wpAny_call (PySem.HandSPX.call_own F.excBase_ValueError (fun Y => PySem.HandSPX.refsVE_contains Y bm hbm) (I.kIn _ _ hC) (PySem.W.looks_findIn I.kIn iC) (fun self => PySem.W.bind_fn I.kIn self tI) hus
    (codeAny_mono (F1.run _ X.stack _ _ ⟨Value.ref (hp.objs.size + 1) :: [], []⟩ (Value.ref (hp.objs.size + 1) :: ds) _ _ (fun _ _ _ => False) (hr.make C [] []) (I2.env0.make C [] []) (hb _ (Value.ref (hp.objs.size + 1) :: []) I2.kIn hl) r2 hq) fun r s' hq' => ?_))
  cases r with
  | error er => exact hx pins σ _ _ er s' I2 hq'
  | ok fl =>
    cases fl with
    | ret u =>
      obtain ⟨v, H2, os2, bare2, un2, hok2, rv, ev, d, fs, ea, ed, hd1, q2⟩ := hq'
      subst ev
      obtain ⟨h2, g2, d2, t2, os'⟩ := s'
      exact ⟨rv, mk_end (raises_own T.exC T.tyC) I hsz kk un2 hok2 os2 bare2 ea ed hd1 q2⟩
    | next => exact False.elim hq'
    | brk => exact False.elim hq'
    | cont => exact False.elim hq'
end L2N
namespace Sw
open PySem PySem.Spec L2

/-- is an instance of n one of m -/
def subX (n m : Str) : Bool := n == m || (m == ("StrandError" : Str) || m == ("ValueError" : Str))
/-- what every class of refusals must say -/
structure ClsF (K : PySem.W.Frag) (C : Addr) : Prop where
  isE : ExcC K C
  oex : OexC K C
/-- the table of a law's classes: cl their names, fl the fields' names -/
structure XT (K : PySem.W.Frag) (mg : Str → Option Value) (cl fl : List Str) : Prop where
  gm : ∀ n ∈ cl, mg n = some (.ref (He.ga K n))
  cf : ∀ n ∈ cl, ClsF K (He.ga K n)
  kit : ∀ n ∈ cl, ∀ m ∈ cl, PySem.W.kitOne K (.ref (He.ga K n)) (.ref (He.ga K m)) = some (subX n m)
  exm : ∀ n ∈ cl, ∀ m ∈ cl, PySem.W.exmOne K (.ref (He.ga K n)) (.ref (He.ga K m)) = some (subX n m)
  ve : ∀ n ∈ cl, PySem.W.kitOne K (.ref (He.ga K n)) (.type "ValueError") = some true
  nof : ∀ n ∈ cl, ∀ f ∈ fl, PySem.W.findIn K (.ref (He.ga K n)) f = some none
end Sw

set_option Elab.async false
set_option linter.all false
set_option maxRecDepth 100000
namespace Sw
open PySem PySem.Spec L2

abbrev PSpX := List D → (RV → Prop) → (XV → Prop) → Prop
def spOfX (K : FgK) (mg : Str → Option Value) (ps : PSpX) : Sp := fun vs H Q E => ∃ (F : Hp) (ds : List D), Le F H ∧ AtAll K F ds vs ∧ ∃ (Qp : RV → Prop) (Ep : XV → Prop), ps ds Qp Ep ∧
  (∀ v H' F' rv, Post K none H F rv none v H' F' → Qp rv → Q v H') ∧ ∀ xv cls d H', (∀ b o, H b = some o → H' b = some o) → (∀ dd, d = some dd → H dd = none) → XvOk mg H' xv cls d → Ep xv → E cls d H'
section
variable {P : Program} {w : World} {K : PySem.W.Frag} {mg : Str → Option Value} {base : Heap}
/-- a def that may refuse, to be called -/
structure CalX (P : Program) (w : World) (K : PySem.W.Frag) (mg : Str → Option Value) (base : Heap) (k : Nat) (x : Str) (ps : List Str) (dds : List D) (sp : PSpX) : Prop where
  ex : ∃ (f : Addr) (fd : FuncData) (dvs : List V) (ds : List Value), FnOk P w K mg base (L2N.CX P w) k f fd ps (spOfX ⟨K, P, w⟩ mg sp) ∧ mg x = some (.ref f) ∧ PySem.W.keepIn K (.ref f) = true ∧ Binds K fd ps ds ∧ Vals dvs ds ∧ constsOk dvs dds
theorem CalX.mono {k k' : Nat} {x : Str} {ps : List Str} {dds : List D} {sp : PSpX} (c : CalX P w K mg base k x ps dds sp) (h : k ≤ k') : CalX P w K mg base k' x ps dds sp := by
  obtain ⟨f, fd, dvs, ds, h1, h2⟩ := c.ex
  exact ⟨f, fd, dvs, ds, h1.mono h, h2⟩
/-- a def that may refuse, to be called -/
structure CalXA (P : Program) (w : World) (K : PySem.W.Frag) (mg : Str → Option Value) (base : Heap) (k : Nat) (x : Str) (ps : List Str) (dds : List D) (sp : PSpX) : Prop where
  ex : ∃ (f : Addr) (fd : FuncData) (dvs : List V) (ds : List Value), FnOk P w K mg base (L2.CX P w) k f fd ps (spOfX ⟨K, P, w⟩ mg sp) ∧ mg x = some (.ref f) ∧ PySem.W.keepIn K (.ref f) = true ∧ Binds K fd ps ds ∧ Vals dvs ds ∧ constsOk dvs dds
theorem CalXA.mono {k k' : Nat} {x : Str} {ps : List Str} {dds : List D} {sp : PSpX} (c : CalXA P w K mg base k x ps dds sp) (h : k ≤ k') : CalXA P w K mg base k' x ps dds sp := by
  obtain ⟨f, fd, dvs, ds, h1, h2⟩ := c.ex
  exact ⟨f, fd, dvs, ds, h1.mono h, h2⟩
end
theorem RelB.keep {K : FgK} {C : Ec} {σ : L2.St} {H F H' : Hp} {env : List SV} (R : RelB K C σ H F env) (k : ∀ b o, H b = some o → H' b = some o) : RelB K C σ H' F env := by
  refine ⟨fun b o h => k b o (R.frz b o h), R.mono, R.new, fun b o h n => k b o (R.frame b o h n), fun a h => ?_, R.len, fun i sv e => ?_, R.dist⟩
  · obtain ⟨⟨xs, e⟩, f, g⟩ := R.la a h
    exact ⟨⟨xs, k _ _ e⟩, f, g⟩
  · have q := R.slot i sv e
    cases sv with
    | un => trivial
    | raw z => exact q
    | dat d => exact q
    | obj l ds =>
      obtain ⟨r, xs, e1, e2, e3⟩ := q
      exact ⟨r, xs, e1, k _ _ e2, e3⟩
end Sw
namespace L2
open PySem PySem.Spec PyProof.Rows
/-! ### try, several clauses, each with or without a name -/
/-- behind a suite the clause's name is gone -/
def gone (o : Option Nat) (σ : St) : St := match o with
  | none => σ
  | some i => σ.set i none
def bound (o : Option Nat) (a : Addr) (σ : St) : St := match o with
  | none => σ
  | some i => σ.set i (some (.ref a))
def goneE (o : Option Nat) (D : Ends) : Ends := { nx := fun σ' H' => D.nx (gone o σ') H', rt := D.rt, bk := fun σ' H' => D.bk (gone o σ') H', ct := fun σ' H' => D.ct (gone o σ') H' }
structure Hdl where
  c : Value
  o : Option Nat
  ts : Addr → Value → Option Addr → TS
def wAll (K : PySem.W.Frag) (Wout : WX) (D : Ends) : List Hdl → WX
  | [] => Wout
  | h :: r => fun cls d σ H => ∃ b, PySem.W.exmOne K cls h.c = some b ∧ (b = true → ∀ a, H a = none → h.ts a cls d (goneE h.o D) (bound h.o a σ) H) ∧ (b = false → wAll K Wout D r cls d σ H)
inductive HAll (X : Cx) : List ExceptHandler → List Hdl → Prop
  | nil : HAll X [] []
  | plain {x : Str} {h : Hdl} {b₀ : Stmt} {suite : List Stmt} {np pos' : Pos} {hds : List ExceptHandler} {l : List Hdl} (hc : Names X x h.c) (ho : h.o = none)
      (hsu : ∀ (a : Addr) (oe : Obj) (cls : Value) (d : Option Addr) (pn : List (Addr × Obj)), Zc cls d oe → (∃ vs, oe.data = .fields vs) → PSs (X.suite a ((a, oe) :: pn)) (b₀ :: suite) (h.ts a cls d)) (r : HAll X hds l) :
      HAll X (.ExceptHandler (some (.Name x np)) none (b₀ :: suite) pos' :: hds) (h :: l)
  | named {x n : Str} {i : Nat} {h : Hdl} {b₀ : Stmt} {suite : List Stmt} {np pos' : Pos} {hds : List ExceptHandler} {l : List Hdl} (hc : Names X x h.c) (ho : h.o = some i) (hi : X.N[i]? = some n) (hln : X.env.kindOf n = some .local)
      (hsu : ∀ (a : Addr) (oe : Obj) (cls : Value) (d : Option Addr) (pn : List (Addr × Obj)), Zc cls d oe → (∃ vs, oe.data = .fields vs) → PSs (X.suite a ((a, oe) :: pn)) (b₀ :: suite) (h.ts a cls d)) (r : HAll X hds l) :
      HAll X (.ExceptHandler (some (.Name x np)) (some n) (b₀ :: suite) pos' :: hds) (h :: l)
section
variable {X : Cx} {body : List Stmt} {h₀ : ExceptHandler} {hds : List ExceptHandler} {l : List Hdl} {pos : Pos} {tb : WX → TS} {Wout : WX}
theorem ps_try_all (hs : X.stack = X.env :: X.outer) (hf : X.env.frame = some X.env.locals) (hN : X.N.Nodup) (tk : Takes X Wout)
    (hb : ∀ (W : WX) (pn : List (Addr × Obj)) (xe : Value → Shared → Prop), Takes (X.tr pn xe) W → PassesOwn (model X.prog X.w) X.A X.env xe → PSs (X.tr pn xe) body (tb W))
    (hh : HAll X (h₀ :: hds) l) : PS X (.Try body (h₀ :: hds) [] [] pos) (fun D σ H => tb (wAll X.K Wout D l) D σ H) := by
  refine ⟨fun pins s σ H D I h => ?_⟩
  have ok := I.ok
  have hfr : X.A.frames = some (X.env :: X.outer) := by rw [ok.frames, hs]
  refine wpAny_Try_except ?_
  refine wpAny_mono ((hb (wAll X.K Wout D l) (X.pn ++ pins) (fun e s₁ => wpAny (model X.prog X.w) X.A (noteFrame e X.env) (fun _ s₂ => wpAny (model X.prog X.w) X.A (setFlight e none) (fun _ s₃ =>
    wpAny (model X.prog X.w) X.A (handleBy e X.env (h₀ :: hds)) (SP X pins D) X.xe s₃) X.xe s₂) X.xe s₁) (fun u s' xx => ?_) PassesOwn.looking).run [] s σ H D (I.toTry _) h) (fun f s1 hsp => ?_) (fun e s1 he => he)
  · obtain ⟨a, B, sI, pins', σ', H', cls, d, rfl, J', nb, up, sky, na, os, ag, w⟩ := xx
    have J : Inv X pins σ' H' sI := J'.ofTry ok
    have sky' : Sky B (X.env :: X.outer) a (Zc cls d) X.env.locals s'.heap := by rw [← hs]; exact sky
    show wpAny (model X.prog X.w) X.A (noteFrame (.ref a) X.env) _ _ _
    refine Sky.land Zc.steady hfr hf sky' fun h3 fl3 up3 => ?_
    have J3 : Inv X pins σ' H' { s' with heap := h3 } := J.landed nb fl3.1 (up.trans up3) os ag
    obtain ⟨oe3, vs3, he3, hz3, hd3⟩ := fl3.there
    have notFr : ∀ {h : Heap} {o : Obj} {vs : Array Value}, h.FunFrames B (X.env :: X.outer) → h.get? a = some o → o.data = .fields vs → a ∉ frs (X.env :: X.outer) := fun {h o vs} ff e dd hm => by
      obtain ⟨_, o', e', hnf⟩ := ff.mem hm
      rw [e] at e'; cases e'
      exact hnf _ dd
    have nfr := notFr fl3.2.2.1 he3 hd3
    have nL : a ≠ X.env.locals := fun z => nfr (List.mem_filterMap.mpr ⟨X.env, List.mem_cons_self, by rw [hf, z]⟩)
    have nF : a ∉ X.fs := fun hm => by
      obtain ⟨e, he, q⟩ := List.mem_filterMap.mp hm
      exact nfr (List.mem_filterMap.mpr ⟨e, List.mem_cons_of_mem _ he, q⟩)
    have S3 := J3.suite he3 hd3 na nL nF
    have LT : PySem.W.Looks (model X.prog X.w) h3 (typeOf (.ref a)) cls := fun A Q E s k q => wpAny_typeOf_ref (k _ _ he3) (by rw [hz3.1]; exact q)
    have test : ∀ {x : Str} {c : Value} {np : Pos} {Q : Value → Shared → Prop} {E : Value → Shared → Prop}, Names X x c → Q c { s' with heap := h3 } → wpAny (model X.prog X.w) (X.A.mark (some (.ref a))) (eval (.Name x np) X.env) Q E { s' with heap := h3 } := fun {x c np Q E} hc q => by
      obtain ⟨hg, hdbg, hm | ⟨hm, hv, hnn⟩⟩ := hc
      · exact ld_glob (X := X.suite a ((a, oe3) :: (X.pn ++ pins))) S3 hg hm q hdbg
      · exact ld_blt (X := X.suite a ((a, oe3) :: (X.pn ++ pins))) S3 hg hm hv q hnn hdbg
    have go : ∀ {hds' : List ExceptHandler} {l' : List Hdl}, HAll X hds' l' → wAll X.K Wout D l' cls d σ' H' →
        wpAny (model X.prog X.w) X.A (handleBy (.ref a) X.env hds') (SP X pins D) X.xe { s' with heap := h3 } := by
      intro hds' l' hk
      induction hk with
      | nil =>
        intro w
        refine wpAny_handleBy_nil ?_
        obtain ⟨k1, k2, k3, oe, vs, T, oT, ts', he, hz, hd, h1, hr⟩ := id fl3
        unfold PySem.passOn
        refine wpAny_bind (wpAny_field he hd h1 ?_)
        rw [if_neg (show ¬ ((Value.ref T == Value.none) = true) from by simp)]
        have fin : wpAny (model X.prog X.w) X.A (setFlight (.ref a) X.env.frame) (fun _ s4 => wpAny (model X.prog X.w) X.A (throw (.ref a) : Sem Flow) (SP X pins D) X.xe s4) X.xe { s' with heap := h3 } := by
          rw [hf]
          refine HandSPX.setFlight_upZ fl3 fun h4 hh4 up4 => wpAny_throw (tk _ _ ?_)
          exact ⟨a, B, sI, pins, σ', H', cls, d, rfl, J, nb, (up.trans up3).trans up4, .inr (.inr (by rw [hs]; exact hh4)), na, os, ag, w⟩
        first
          | exact wpAny_bind (wpAny_pure (wpAny_bind fin))
          | exact wpAny_bind fin
      | @plain x h b₀ suite np pos' hds2 l2 hc ho hsu r ih =>
        intro w
        obtain ⟨b, hb1, hyes, hno⟩ := w
        refine wpAny_handleBy_cons (codeAny_handlers_test ?_) (by intro q; cases q)
        have LM := PySem.W.exm_one (M := model X.prog X.w) (J3.kIn) LT hb1
        refine test hc (LM.here ?_)
        cases b with
        | true =>
          refine codeAny_handlers_suite ?_
          refine HandSPX.lands_againZ fl3 fun h4 fl4 up4 => ?_
          have J4 : Inv X pins σ' H' { s' with heap := h4 } := J.landed nb fl4.1 ((up.trans up3).trans up4) os ag
          obtain ⟨oe4, vs4, he4, hz4, hd4⟩ := fl4.there
          have S4 := J4.suite he4 hd4 na nL nF
          have hy := hyes rfl a na
          rw [ho] at hy
          refine wpAny_mono ((hsu a oe4 cls d (X.pn ++ pins) hz4 ⟨_, hd4⟩).run [] _ _ H' _ S4 hy) (fun f s6 hsp => ?_) (fun _ _ z => False.elim z)
          cases f with
          | next =>
            obtain ⟨σ6, H6, S6, q6⟩ := hsp
            exact ⟨_, _, S6.unsuite ok, q6⟩
          | brk =>
            obtain ⟨σ6, H6, S6, q6⟩ := hsp
            exact ⟨_, _, S6.unsuite ok, q6⟩
          | cont =>
            obtain ⟨σ6, H6, S6, q6⟩ := hsp
            exact ⟨_, _, S6.unsuite ok, q6⟩
          | ret u =>
            obtain ⟨v6, σ6, H6, S6, r6, q6⟩ := hsp
            exact ⟨_, _, _, S6.unsuite ok, r6, q6⟩
        | false =>
          show wpAny _ X.A (handleBy (.ref a) X.env hds2) _ _ _
          exact ih (hno rfl)
      | @named x n i h b₀ suite np pos' hds2 l2 hc ho hi hln hsu r ih =>
        intro w
        obtain ⟨b, hb1, hyes, hno⟩ := w
        refine wpAny_handleBy_cons (codeAny_handlers_test ?_) (by intro q; cases q)
        have hloc : Loc X.env.scope n := .inl hln
        have LM := PySem.W.exm_one (M := model X.prog X.w) (J3.kIn) LT hb1
        refine test hc (LM.here ?_)
        cases b with
        | true =>
          refine codeAny_handlers_suite_as ?_
          refine HandSPX.lands_againZ fl3 fun h4 fl4 up4 => ?_
          have J4 : Inv X pins σ' H' { s' with heap := h4 } := J.landed nb fl4.1 ((up.trans up3).trans up4) os ag
          obtain ⟨oe4, vs4, he4, hz4, hd4⟩ := fl4.there
          have S4 := J4.suite he4 hd4 na nL nF
          have hy := hyes rfl a na
          rw [ho] at hy
          refine store_ok (X := X.suite a ((a, oe4) :: (X.pn ++ pins))) (v := .ref a) S4 hN hi hloc rfl (fun s5 S5 => ?_) (.inr hln)
          refine wpAny_mono ((hsu a oe4 cls d (X.pn ++ pins) hz4 ⟨_, hd4⟩).run [] s5 _ H' _ S5 hy) (fun f s6 hsp => ?_) (fun _ _ z => False.elim z)
          have end_ : ∀ {σ6 : St} {H6 : Hp} {Q : Shared → Prop}, Inv (X.suite a ((a, oe4) :: (X.pn ++ pins))) [] σ6 H6 s6 → (∀ s7, Inv X pins (σ6.set i none) H6 s7 → Q s7) →
              wpAny (model X.prog X.w) X.A (do bindName X.env n .none; unbindBehindTheSuite X.env n pos') (fun _ s7 => Q s7) X.xe s6 := fun {σ6 H6 Q} S6 hq => gone_ok (S6.unsuite ok) hN hi hln hq
          cases f with
          | next =>
            obtain ⟨σ6, H6, S6, q6⟩ := hsp
            exact end_ S6 fun s7 J7 => ⟨_, _, J7, q6⟩
          | brk =>
            obtain ⟨σ6, H6, S6, q6⟩ := hsp
            exact end_ S6 fun s7 J7 => ⟨_, _, J7, q6⟩
          | cont =>
            obtain ⟨σ6, H6, S6, q6⟩ := hsp
            exact end_ S6 fun s7 J7 => ⟨_, _, J7, q6⟩
          | ret u =>
            obtain ⟨v6, σ6, H6, S6, r6, q6⟩ := hsp
            exact end_ S6 fun s7 J7 => ⟨_, _, _, J7, r6, q6⟩
        | false =>
          show wpAny _ X.A (handleBy (.ref a) X.env hds2) _ _ _
          exact ih (hno rfl)
    exact go hh w
  · cases f with
    | next =>
      obtain ⟨σ', H', J', q⟩ := hsp
      exact wpAny_execs_nil ⟨σ', H', J'.ofTry ok, q⟩
    | brk =>
      obtain ⟨σ', H', J', q⟩ := hsp
      exact ⟨σ', H', J'.ofTry ok, q⟩
    | cont =>
      obtain ⟨σ', H', J', q⟩ := hsp
      exact ⟨σ', H', J'.ofTry ok, q⟩
    | ret u =>
      obtain ⟨v, σ', H', J', r, q⟩ := hsp
      exact ⟨v, σ', H', J'.ofTry ok, r, q⟩
end
section
variable {X : Cx} {body : List Stmt} {h₀ : ExceptHandler} {hds : List ExceptHandler} {l : List Hdl} {pos : Pos} {tb : WX → TS} {Wout : WX}
theorem ps_try_allN (hs : X.stack = X.env :: X.outer) (hf : X.env.frame = some X.env.locals) (hN : X.N.Nodup) (tk : L2N.Takes X Wout)
    (hb : ∀ (W : WX) (pn : List (Addr × Obj)) (xe : Value → Shared → Prop), L2N.Takes (X.tr pn xe) W → PassesOwn (model X.prog X.w) X.A X.env xe → PSs (X.tr pn xe) body (tb W))
    (hh : HAll X (h₀ :: hds) l) : PS X (.Try body (h₀ :: hds) [] [] pos) (fun D σ H => tb (wAll X.K Wout D l) D σ H) := by
  refine ⟨fun pins s σ H D I h => ?_⟩
  have ok := I.ok
  have hfr : X.A.frames = some (X.env :: X.outer) := by rw [ok.frames, hs]
  refine wpAny_Try_except ?_
  refine wpAny_mono ((hb (wAll X.K Wout D l) (X.pn ++ pins) (fun e s₁ => wpAny (model X.prog X.w) X.A (noteFrame e X.env) (fun _ s₂ => wpAny (model X.prog X.w) X.A (setFlight e none) (fun _ s₃ =>
    wpAny (model X.prog X.w) X.A (handleBy e X.env (h₀ :: hds)) (SP X pins D) X.xe s₃) X.xe s₂) X.xe s₁) (fun u s' xx => ?_) PassesOwn.looking).run [] s σ H D (I.toTry _) h) (fun f s1 hsp => ?_) (fun e s1 he => he)
  · obtain ⟨a, B, sI, pins', σ', H', cls, d, rfl, J', nb, up, sky, na, os, ag, w⟩ := xx
    have J : Inv X pins σ' H' sI := J'.ofTry ok
    have sky' : Sky B (X.env :: X.outer) a (L2N.Zn cls d) X.env.locals s'.heap := by rw [← hs]; exact sky
    show wpAny (model X.prog X.w) X.A (noteFrame (.ref a) X.env) _ _ _
    refine L2N.Sky.land L2N.Zn.steady hfr hf sky' fun h3 fl3 up3 => ?_
    have J3 : Inv X pins σ' H' { s' with heap := h3 } := J.landed nb fl3.1 (up.trans up3) os ag
    obtain ⟨oe3, vs3, he3, hz3, hd3⟩ := fl3.there
    have notFr : ∀ {h : Heap} {o : Obj} {vs : Array Value}, h.FunFrames B (X.env :: X.outer) → h.get? a = some o → o.data = .fields vs → a ∉ frs (X.env :: X.outer) := fun {h o vs} ff e dd hm => by
      obtain ⟨_, o', e', hnf⟩ := ff.mem hm
      rw [e] at e'; cases e'
      exact hnf _ dd
    have nfr := notFr fl3.2.2.1 he3 hd3
    have nL : a ≠ X.env.locals := fun z => nfr (List.mem_filterMap.mpr ⟨X.env, List.mem_cons_self, by rw [hf, z]⟩)
    have nF : a ∉ X.fs := fun hm => by
      obtain ⟨e, he, q⟩ := List.mem_filterMap.mp hm
      exact nfr (List.mem_filterMap.mpr ⟨e, List.mem_cons_of_mem _ he, q⟩)
    have S3 := J3.suite he3 hd3 na nL nF
    have LT : PySem.W.Looks (model X.prog X.w) h3 (typeOf (.ref a)) cls := fun A Q E s k q => wpAny_typeOf_ref (k _ _ he3) (by rw [hz3.1]; exact q)
    have test : ∀ {x : Str} {c : Value} {np : Pos} {Q : Value → Shared → Prop} {E : Value → Shared → Prop}, Names X x c → Q c { s' with heap := h3 } → wpAny (model X.prog X.w) (X.A.mark (some (.ref a))) (eval (.Name x np) X.env) Q E { s' with heap := h3 } := fun {x c np Q E} hc q => by
      obtain ⟨hg, hdbg, hm | ⟨hm, hv, hnn⟩⟩ := hc
      · exact ld_glob (X := X.suite a ((a, oe3) :: (X.pn ++ pins))) S3 hg hm q hdbg
      · exact ld_blt (X := X.suite a ((a, oe3) :: (X.pn ++ pins))) S3 hg hm hv q hnn hdbg
    have go : ∀ {hds' : List ExceptHandler} {l' : List Hdl}, HAll X hds' l' → wAll X.K Wout D l' cls d σ' H' →
        wpAny (model X.prog X.w) X.A (handleBy (.ref a) X.env hds') (SP X pins D) X.xe { s' with heap := h3 } := by
      intro hds' l' hk
      induction hk with
      | nil =>
        intro w
        refine wpAny_handleBy_nil ?_
        obtain ⟨k1, k2, k3, oe, vs, T, oT, ts', he, hz, hd, h1, hr⟩ := id fl3
        unfold PySem.passOn
        refine wpAny_bind (wpAny_field he hd h1 ?_)
        rw [if_neg (show ¬ ((Value.ref T == Value.none) = true) from by simp)]
        have fin : wpAny (model X.prog X.w) X.A (setFlight (.ref a) X.env.frame) (fun _ s4 => wpAny (model X.prog X.w) X.A (throw (.ref a) : Sem Flow) (SP X pins D) X.xe s4) X.xe { s' with heap := h3 } := by
          rw [hf]
          refine HandSPX.setFlight_upZ fl3 fun h4 hh4 up4 => wpAny_throw (tk _ _ ?_)
          exact ⟨a, B, sI, pins, σ', H', cls, d, rfl, J, nb, (up.trans up3).trans up4, .inr (.inr (by rw [hs]; exact hh4)), na, os, ag, w⟩
        first
          | exact wpAny_bind (wpAny_pure (wpAny_bind fin))
          | exact wpAny_bind fin
      | @plain x h b₀ suite np pos' hds2 l2 hc ho hsu r ih =>
        intro w
        obtain ⟨b, hb1, hyes, hno⟩ := w
        refine wpAny_handleBy_cons (codeAny_handlers_test ?_) (by intro q; cases q)
        have LM := PySem.W.exm_one (M := model X.prog X.w) (J3.kIn) LT hb1
        refine test hc (LM.here ?_)
        cases b with
        | true =>
          refine codeAny_handlers_suite ?_
          refine HandSPX.lands_againZ fl3 fun h4 fl4 up4 => ?_
          have J4 : Inv X pins σ' H' { s' with heap := h4 } := J.landed nb fl4.1 ((up.trans up3).trans up4) os ag
          obtain ⟨oe4, vs4, he4, hz4, hd4⟩ := fl4.there
          have S4 := J4.suite he4 hd4 na nL nF
          have hy := hyes rfl a na
          rw [ho] at hy
          refine wpAny_mono ((hsu a oe4 cls d (X.pn ++ pins) hz4.zc ⟨_, hd4⟩).run [] _ _ H' _ S4 hy) (fun f s6 hsp => ?_) (fun _ _ z => False.elim z)
          cases f with
          | next =>
            obtain ⟨σ6, H6, S6, q6⟩ := hsp
            exact ⟨_, _, S6.unsuite ok, q6⟩
          | brk =>
            obtain ⟨σ6, H6, S6, q6⟩ := hsp
            exact ⟨_, _, S6.unsuite ok, q6⟩
          | cont =>
            obtain ⟨σ6, H6, S6, q6⟩ := hsp
            exact ⟨_, _, S6.unsuite ok, q6⟩
          | ret u =>
            obtain ⟨v6, σ6, H6, S6, r6, q6⟩ := hsp
            exact ⟨_, _, _, S6.unsuite ok, r6, q6⟩
        | false =>
          show wpAny _ X.A (handleBy (.ref a) X.env hds2) _ _ _
          exact ih (hno rfl)
      | @named x n i h b₀ suite np pos' hds2 l2 hc ho hi hln hsu r ih =>
        intro w
        obtain ⟨b, hb1, hyes, hno⟩ := w
        refine wpAny_handleBy_cons (codeAny_handlers_test ?_) (by intro q; cases q)
        have hloc : Loc X.env.scope n := .inl hln
        have LM := PySem.W.exm_one (M := model X.prog X.w) (J3.kIn) LT hb1
        refine test hc (LM.here ?_)
        cases b with
        | true =>
          refine codeAny_handlers_suite_as ?_
          refine HandSPX.lands_againZ fl3 fun h4 fl4 up4 => ?_
          have J4 : Inv X pins σ' H' { s' with heap := h4 } := J.landed nb fl4.1 ((up.trans up3).trans up4) os ag
          obtain ⟨oe4, vs4, he4, hz4, hd4⟩ := fl4.there
          have S4 := J4.suite he4 hd4 na nL nF
          have hy := hyes rfl a na
          rw [ho] at hy
          refine store_ok (X := X.suite a ((a, oe4) :: (X.pn ++ pins))) (v := .ref a) S4 hN hi hloc rfl (fun s5 S5 => ?_) (.inr hln)
          refine wpAny_mono ((hsu a oe4 cls d (X.pn ++ pins) hz4.zc ⟨_, hd4⟩).run [] s5 _ H' _ S5 hy) (fun f s6 hsp => ?_) (fun _ _ z => False.elim z)
          have end_ : ∀ {σ6 : St} {H6 : Hp} {Q : Shared → Prop}, Inv (X.suite a ((a, oe4) :: (X.pn ++ pins))) [] σ6 H6 s6 → (∀ s7, Inv X pins (σ6.set i none) H6 s7 → Q s7) →
              wpAny (model X.prog X.w) X.A (do bindName X.env n .none; unbindBehindTheSuite X.env n pos') (fun _ s7 => Q s7) X.xe s6 := fun {σ6 H6 Q} S6 hq => gone_ok (S6.unsuite ok) hN hi hln hq
          cases f with
          | next =>
            obtain ⟨σ6, H6, S6, q6⟩ := hsp
            exact end_ S6 fun s7 J7 => ⟨_, _, J7, q6⟩
          | brk =>
            obtain ⟨σ6, H6, S6, q6⟩ := hsp
            exact end_ S6 fun s7 J7 => ⟨_, _, J7, q6⟩
          | cont =>
            obtain ⟨σ6, H6, S6, q6⟩ := hsp
            exact end_ S6 fun s7 J7 => ⟨_, _, J7, q6⟩
          | ret u =>
            obtain ⟨v6, σ6, H6, S6, r6, q6⟩ := hsp
            exact end_ S6 fun s7 J7 => ⟨_, _, _, J7, r6, q6⟩
        | false =>
          show wpAny _ X.A (handleBy (.ref a) X.env hds2) _ _ _
          exact ih (hno rfl)
    exact go hh w
  · cases f with
    | next =>
      obtain ⟨σ', H', J', q⟩ := hsp
      exact wpAny_execs_nil ⟨σ', H', J'.ofTry ok, q⟩
    | brk =>
      obtain ⟨σ', H', J', q⟩ := hsp
      exact ⟨σ', H', J'.ofTry ok, q⟩
    | cont =>
      obtain ⟨σ', H', J', q⟩ := hsp
      exact ⟨σ', H', J'.ofTry ok, q⟩
    | ret u =>
      obtain ⟨v, σ', H', J', r, q⟩ := hsp
      exact ⟨v, σ', H', J'.ofTry ok, r, q⟩
end
end L2

set_option Elab.async false
set_option linter.all false
set_option maxRecDepth 100000
namespace Sw
open PySem PySem.Spec L2

structure Cls' where
  c : Str
  o : Option Nat
  s : Addr → XV → PS'
def goneS (o : Option Nat) (env : List SV) : List SV := match o with
  | none => env
  | some i => env.set i .un
def boundS (o : Option Nat) (a : Addr) (env : List SV) : List SV := match o with
  | none => env
  | some i => env.set i (.raw (.ref a))
def goneX (o : Option Nat) (Dp : PEnds) : PEnds := { nx := fun e => Dp.nx (goneS o e), rt := Dp.rt, bk := fun e => Dp.bk (goneS o e), ct := fun e => Dp.ct (goneS o e) }
def pHs (cl : List Str) (Ep : XP) (Dp : PEnds) : List Cls' → XP
  | [] => Ep
  | h :: r => fun xv env => xv.c ∈ cl ∧ if subX xv.c h.c = true then ∀ a : Addr, h.s a xv (goneX h.o Dp) (boundS h.o a env) else pHs cl Ep Dp r xv env
/-- the context of an except suite: the exception stands at a, its class's name and its field are xv's -/
abbrev Cz.suit (X : Cz) (a : Addr) (oe : Obj) (pn : List (Addr × Obj)) (d : Option Addr) (xv : XV) : Cz :=
  ⟨X.toCx.suite a ((a, oe) :: pn), wNo, pNo, true, .of takes_none5, fun C => match xv.f with
    | none => d = none
    | some (f, x) => ∃ dd v, d = some dd ∧ C.F0 dd = some (.xd [(f, v)]) ∧ atomV x = some v⟩
/-- what a suite may take for granted -/
structure InS (X : Cz) (cl : List Str) (cls : Value) (d : Option Addr) (oe : Obj) (xv : XV) : Prop where
  z : Zc cls d oe
  f : ∃ vs, oe.data = .fields vs
  i : xv.c ∈ cl
  e : cls = .ref (He.ga X.K xv.c)
inductive HOk (X : Cz) (cl : List Str) : List ExceptHandler → List Cls' → Prop
  | nil : HOk X cl [] []
  | plain {x : Str} {h : Cls'} {b₀ : Stmt} {suite : List Stmt} {np pos' : Pos} {hds : List ExceptHandler} {l : List Cls'} (hg : Gl X x) (hdb : (x == ("__debug__" : Str)) = false) (hx : x ∈ cl) (hc : h.c = x) (ho : h.o = none)
      (hsu : ∀ (a : Addr) (oe : Obj) (cls : Value) (d : Option Addr) (pn : List (Addr × Obj)) (xv : XV), InS X cl cls d oe xv → EB (X.suit a oe pn d xv) (b₀ :: suite) (h.s a xv)) (r : HOk X cl hds l) :
      HOk X cl (.ExceptHandler (some (.Name x np)) none (b₀ :: suite) pos' :: hds) (h :: l)
  | named {x n : Str} {i : Nat} {h : Cls'} {b₀ : Stmt} {suite : List Stmt} {np pos' : Pos} {hds : List ExceptHandler} {l : List Cls'} (hg : Gl X x) (hdb : (x == ("__debug__" : Str)) = false) (hx : x ∈ cl) (hc : h.c = x) (ho : h.o = some i) (hi : X.N[i]? = some n) (hln : X.env.kindOf n = some .local)
      (hsu : ∀ (a : Addr) (oe : Obj) (cls : Value) (d : Option Addr) (pn : List (Addr × Obj)) (xv : XV), InS X cl cls d oe xv → EB (X.suit a oe pn d xv) (b₀ :: suite) (h.s a xv)) (r : HOk X cl hds l) :
      HOk X cl (.ExceptHandler (some (.Name x np)) (some n) (b₀ :: suite) pos' :: hds) (h :: l)
theorem HOk.nm {X : Cz} {cl : List Str} {x n : Str} {i : Nat} {S' : Addr → XV → PS'} {b₀ : Stmt} {suite : List Stmt} {np pos' : Pos} {hds : List ExceptHandler} {l : List Cls'} (hg : Gl X x) (hdb : (x == ("__debug__" : Str)) = false) (hx : x ∈ cl) (hi : X.N[i]? = some n) (hln : X.env.kindOf n = some .local)
      (hsu : ∀ (a : Addr) (oe : Obj) (cls : Value) (d : Option Addr) (pn : List (Addr × Obj)) (xv : XV), InS X cl cls d oe xv → EB (X.suit a oe pn d xv) (b₀ :: suite) (S' a xv)) (r : HOk X cl hds l) :
      HOk X cl (.ExceptHandler (some (.Name x np)) (some n) (b₀ :: suite) pos' :: hds) (⟨x, some i, S'⟩ :: l) := .named hg hdb hx rfl rfl hi hln hsu r
section
variable {K : FgK} {C : Ec} {σ : L2.St} {H F : Hp} {env : List SV}
/-- another ground for what is known -/
theorem RelB.up (R : RelB K C σ H F env) {G : Hp} (h : Le G F) (n : ∀ b o, F b = some o → G b = some o ∨ C.H0 b = none) : RelB K { C with F0 := G } σ H F env :=
  ⟨R.frz, h, n, R.frame, R.la, R.len, R.slot, R.dist⟩
theorem RelB.down {G : Hp} (R : RelB K { C with F0 := G } σ H F env) (h : Le C.F0 G) (n : ∀ b o, G b = some o → C.F0 b = some o ∨ C.H0 b = none) : RelB K C σ H F env :=
  ⟨R.frz, h.trans' R.mono, fun b o q => by
    rcases R.new b o q with z | z
    · exact n b o z
    · exact .inr z, R.frame, R.la, R.len, R.slot, R.dist⟩
theorem RelB.raw (R : RelB K C σ H F env) (i : Nat) (v : V) : RelB K C (σ.set i (some v)) H F (env.set i (.raw v)) := by
  have oth : ∀ (j : Nat) (l : Bool) (es : Ct), (env.set i (.raw v))[j]? = some (SV.obj l es) → j ≠ i ∧ env[j]? = some (SV.obj l es) := fun j l es h => by
    by_cases e : j = i
    · subst e
      by_cases hi : j < env.length
      · rw [List.getElem?_set_self hi] at h; cases h
      · rw [List.getElem?_eq_none (by rw [List.length_set]; omega)] at h; cases h
    · rw [List.getElem?_set_ne (Ne.symm e)] at h; exact ⟨e, h⟩
  refine ⟨R.frz, R.mono, R.new, R.frame, R.la, by rw [List.length_set, List.length_set]; exact R.len, fun j sv e => ?_, fun j k l ds m es h1 h2 h3 => ?_⟩
  · by_cases e' : j = i
    · subst e'
      have hi : j < env.length := by
        have := (List.getElem?_eq_some_iff.mp e).1
        rw [List.length_set] at this
        exact this
      rw [List.getElem?_set_self hi] at e
      cases e
      show (σ.set j (some v))[j]? = some (some v)
      rw [List.getElem?_set_self (by rw [← R.len]; exact hi)]
    · rw [List.getElem?_set_ne (Ne.symm e')] at e ⊢
      exact R.slot j sv e
  · obtain ⟨n1, h1⟩ := oth j l ds h1
    obtain ⟨n2, h2⟩ := oth k m es h2
    rw [List.getElem?_set_ne (Ne.symm n1), List.getElem?_set_ne (Ne.symm n2)] at h3
    exact R.dist j k l ds m es h1 h2 h3
theorem RelB.unset (R : RelB K C σ H F env) (i : Nat) : RelB K C (σ.set i none) H F (env.set i .un) := by
  have oth : ∀ (j : Nat) (l : Bool) (es : Ct), (env.set i .un)[j]? = some (SV.obj l es) → j ≠ i ∧ env[j]? = some (SV.obj l es) := fun j l es h => by
    by_cases e : j = i
    · subst e
      by_cases hi : j < env.length
      · rw [List.getElem?_set_self hi] at h; cases h
      · rw [List.getElem?_eq_none (by rw [List.length_set]; omega)] at h; cases h
    · rw [List.getElem?_set_ne (Ne.symm e)] at h; exact ⟨e, h⟩
  refine ⟨R.frz, R.mono, R.new, R.frame, R.la, by rw [List.length_set, List.length_set]; exact R.len, fun j sv e => ?_, fun j k l ds m es h1 h2 h3 => ?_⟩
  · by_cases e' : j = i
    · subst e'
      have hi : j < env.length := by
        have := (List.getElem?_eq_some_iff.mp e).1
        rw [List.length_set] at this
        exact this
      rw [List.getElem?_set_self hi] at e
      cases e
      trivial
    · rw [List.getElem?_set_ne (Ne.symm e')] at e ⊢
      exact R.slot j sv e
  · obtain ⟨n1, h1⟩ := oth j l ds h1
    obtain ⟨n2, h2⟩ := oth k m es h2
    rw [List.getElem?_set_ne (Ne.symm n1), List.getElem?_set_ne (Ne.symm n2)] at h3
    exact R.dist j k l ds m es h1 h2 h3
theorem RelB.bound (R : RelB K C σ H F env) (o : Option Nat) (a : Addr) : RelB K C (L2.bound o a σ) H F (boundS o a env) := by
  cases o with
  | none => exact R
  | some i => exact R.raw i (.ref a)
theorem RelB.gone (R : RelB K C σ H F env) (o : Option Nat) : RelB K C (L2.gone o σ) H F (goneS o env) := by
  cases o with
  | none => exact R
  | some i => exact R.unset i
end
/-- what the ends want, seen from other grounds -/
theorem EndsOk.ground {K K' : FgX} {C : Ec} {F F1 G : Hp} {D : Ends} {Dp : PEnds} (e : EndsOk K C F D Dp) (hb : K.b = K'.b) (x : XOk K C) (h : Le C.F0 G) (n : ∀ b o, G b = some o → C.F0 b = some o ∨ C.H0 b = none) (l : Le F F1) (o : Option Nat) : EndsOk K' { C with F0 := G } F1 (goneE o D) (goneX o Dp) := by
  obtain ⟨b, mg, W, Ep, ck⟩ := K
  obtain ⟨b', mg', W', Ep', ck'⟩ := K'
  cases hb
  exact ⟨fun σ' H' F' env' R m q => e.nx _ H' F' _ ⟨(R.toRelB.down h n).gone o, x⟩ (l.trans' m) q, fun σ' H' F' env' rv v R m r q => e.rt σ' H' F' env' rv v ⟨R.toRelB.down h n, x⟩ (l.trans' m) (by cases rv <;> exact r) q,
    fun σ' H' F' env' R m q => e.bk _ H' F' _ ⟨(R.toRelB.down h n).gone o, x⟩ (l.trans' m) q, fun σ' H' F' env' R m q => e.ct _ H' F' _ ⟨(R.toRelB.down h n).gone o, x⟩ (l.trans' m) q⟩
section
variable {X : Cz} {cl fl : List Str}
/-- the suite of a clause, as a reading -/
def tSuite (X : Cz) (sts : List Stmt) : Addr → Value → Option Addr → TS := fun a cls d D σ H => ∀ (oe : Obj) (pn : List (Addr × Obj)), Zc cls d oe → (∃ vs, oe.data = .fields vs) → ∀ (pins : List (Addr × Obj)) (s : Shared), Inv (X.toCx.suite a ((a, oe) :: pn)) pins σ H s →
  wpAny (model X.prog X.w) (X.toCx.suite a ((a, oe) :: pn)).A (execs sts X.env) (SP (X.toCx.suite a ((a, oe) :: pn)) pins D) (fun _ _ => False) s
theorem suite_run (T : XT X.K X.mg cl fl) {h : Cls'} {sts : List Stmt} (hsu : ∀ (a : Addr) (oe : Obj) (cls : Value) (d : Option Addr) (pn : List (Addr × Obj)) (xv : XV), InS X cl cls d oe xv → EB (X.suit a oe pn d xv) sts (h.s a xv))
    {C : Ec} {F : Hp} {D : Ends} {Dp : PEnds} (x : XOk X.fr C) (k : EndsOk X.fr C F D Dp) {σ' : L2.St} {H' F' : Hp} {env' : List SV} {cls : Value} {d : Option Addr} {xv : XV} (R : RelB X.fr.b C σ' H' F' env') (l : Le F F') (nw : ∀ dd, d = some dd → C.H0 dd = none ∧ F' dd = none ∧ ¬ Own σ' env' dd)
    (xo : XvOk X.mg H' xv cls d) (hi : xv.c ∈ cl) {a : Addr} (q : h.s a xv (goneX h.o Dp) (boundS h.o a env')) : tSuite X sts a cls d (goneE h.o D) (bound h.o a σ') H' := by
  intro oe pn hz hf pins s I
  have he : cls = .ref (He.ga X.K xv.c) := by
    have e1 := xo.1
    rw [T.gm xv.c hi] at e1
    exact (Option.some.inj e1).symm
  obtain ⟨t, h1, l1⟩ := (hsu a oe cls d pn xv ⟨hz, hf, hi, he⟩).ex
  refine h1.run pins s _ H' _ I ?_
  have x2 := xo.2
  cases hxf : xv.f with
  | none =>
    rw [hxf] at x2
    refine l1 { C with F0 := F' } _ H' F' _ _ _ ⟨(R.up Le.rfl' fun b o z => .inl z).bound h.o a, ?_, fun _ _ _ _ _ _ _ _ _ _ z => z.elim⟩ (k.ground (K' := (X.suit a oe pn d xv).fr) rfl x R.mono R.new l h.o) q
    show match xv.f with
      | none => d = none
      | some (f, x) => _
    rw [hxf]
    exact x2
  | some p =>
    obtain ⟨f, y⟩ := p
    rw [hxf] at x2
    obtain ⟨dd, v, rfl, hdd, hv⟩ := x2
    obtain ⟨n0, n1, n2⟩ := nw dd rfl
    have Rx : Rel X.fr C σ' H' F' env' := ⟨R, x⟩
    have R2 := Rx.freeze hdd n1 n0 n2
    have ff : Le F' (upd F' dd (.xd [(f, v)])) := fun b u h => by
      rw [upd_ne (ne_of_none h n1)]; exact h
    refine l1 { C with F0 := upd F' dd (.xd [(f, v)]) } _ H' _ _ _ _ ⟨(R2.toRelB.up Le.rfl' fun b o z => .inl z).bound h.o a, ?_, fun _ _ _ _ _ _ _ _ _ _ z => z.elim⟩ (k.ground (K' := (X.suit a oe pn (some dd) xv).fr) rfl x R2.mono R2.new (l.trans' ff) h.o) q
    show match xv.f with
      | none => (some dd : Option Addr) = none
      | some (f, x) => _
    rw [hxf]
    exact ⟨dd, v, rfl, upd_same, hv⟩
theorem HOk.all (T : XT X.K X.mg cl fl) {hds : List ExceptHandler} {l : List Cls'} (h : HOk X cl hds l) : ∃ L, HAll X.toCx hds L ∧ ∀ (C : Ec) (F : Hp) (D : Ends) (Dp : PEnds), XOk X.fr C → EndsOk X.fr C F D Dp →
    ∀ (σ' : L2.St) (H' F' : Hp) (env' : List SV) (cls : Value) (d : Option Addr) (xv : XV), RelB X.fr.b C σ' H' F' env' → Le F F' → (∀ dd, d = some dd → C.H0 dd = none ∧ F' dd = none ∧ ¬ Own σ' env' dd) → XvOk X.mg H' xv cls d → pHs cl X.Ep Dp l xv env' → wAll X.K X.W D L cls d σ' H' := by
  induction h with
  | nil => exact ⟨[], .nil, fun C F D Dp x k σ' H' F' env' cls d xv R l nw xo q => x.2 σ' H' F' env' cls d xv R nw xo q⟩
  | @plain x h b₀ suite np pos' hds l hg hdb hx hc ho hsu r ih =>
    obtain ⟨L, hL, ih⟩ := ih
    refine ⟨⟨.ref (He.ga X.K x), h.o, tSuite X (b₀ :: suite)⟩ :: L, .plain ⟨hg, hdb, .inl (T.gm x hx)⟩ ho (fun a oe cls d pn hz hf => ⟨fun pins s σ H D I q => q oe pn hz hf pins s I⟩) hL, fun C F D Dp x' k σ' H' F' env' cls d xv R l nw xo q => ?_⟩
    obtain ⟨hi, q⟩ := q
    have he : cls = .ref (He.ga X.K xv.c) := by
      have e1 := xo.1
      rw [T.gm xv.c hi] at e1
      exact (Option.some.inj e1).symm
    refine ⟨subX xv.c x, by rw [he]; exact T.exm _ hi _ hx, fun hb a na => ?_, fun hb => ?_⟩
    · rw [hc, if_pos hb] at q
      exact suite_run T hsu x' k R l nw xo hi (q a)
    · rw [hc, if_neg (by rw [hb]; decide)] at q
      exact ih C F D Dp x' k σ' H' F' env' cls d xv R l nw xo q
  | @named x n i h b₀ suite np pos' hds l hg hdb hx hc ho hi' hln hsu r ih =>
    obtain ⟨L, hL, ih⟩ := ih
    refine ⟨⟨.ref (He.ga X.K x), h.o, tSuite X (b₀ :: suite)⟩ :: L, .named ⟨hg, hdb, .inl (T.gm x hx)⟩ ho hi' hln (fun a oe cls d pn hz hf => ⟨fun pins s σ H D I q => q oe pn hz hf pins s I⟩) hL, fun C F D Dp x' k σ' H' F' env' cls d xv R l nw xo q => ?_⟩
    obtain ⟨hi, q⟩ := q
    have he : cls = .ref (He.ga X.K xv.c) := by
      have e1 := xo.1
      rw [T.gm xv.c hi] at e1
      exact (Option.some.inj e1).symm
    refine ⟨subX xv.c x, by rw [he]; exact T.exm _ hi _ hx, fun hb a na => ?_, fun hb => ?_⟩
    · rw [hc, if_pos hb] at q
      exact suite_run T hsu x' k R l nw xo hi (q a)
    · rw [hc, if_neg (by rw [hb]; decide)] at q
      exact ih C F D Dp x' k σ' H' F' env' cls d xv R l nw xo q
end
end Sw

set_option Elab.async false
set_option linter.all false
set_option maxRecDepth 100000
namespace Sw
open PySem PySem.Spec L2
section
variable {P : Program} {w : World} {K : PySem.W.Frag} {mg : Str → Option Value} {base : Heap}
/-- a def that may refuse, where it does not -/
theorem FnOk.no {k : Nat} {f : Addr} {fd : FuncData} {ps : List Str} {sp : PSp} {spx : PSpX} (F : FnOk P w K mg base (L2N.CX P w) k f fd ps (spOfX ⟨K, P, w⟩ mg spx)) (h : ∀ fl ds Q, sp fl ds Q → fl = none ∧ spx ds (fun rv => Q rv none) (fun _ => False)) : FnOk P w K mg base CX0 k f fd ps (spOf ⟨K, P, w⟩ false sp) := by
  have key : ∀ vs H Q E, spOf ⟨K, P, w⟩ false sp vs H Q E → spOfX ⟨K, P, w⟩ mg spx vs H Q (fun _ _ _ => False) := fun vs H Q E q => by
    obtain ⟨F, la, fl, ds, ws, hF, ha, hl, Qp, hp, k⟩ := q
    rw [if_neg (by decide)] at hl
    obtain ⟨rfl, rfl, rfl⟩ := hl
    obtain ⟨_, hx⟩ := h _ _ _ hp
    exact ⟨F, ds, hF, ha, _, _, hx, fun v H' F' rv p q => k v H' F' rv none p q, fun _ _ _ _ _ _ _ z => z⟩
  refine ⟨fun vs H Q E q => F.len _ _ _ _ (key vs H Q E q), fun A outer s H args us vs Q E hr he hb hv q => codeAny_mono (F.run A outer s H args us vs Q _ hr he hb hv (key vs H Q E q)) fun r s' c => ?_⟩
  cases r with
  | ok fl => cases fl <;> exact c
  | error e =>
    obtain ⟨_, _, _, _, _, _, _, _, _, _, _, _, z⟩ := c
    exact z.elim
theorem CalX.no {k : Nat} {x : Str} {ps : List Str} {dds : List D} {sp : PSp} {spx : PSpX} (c : CalX P w K mg base k x ps dds spx) (h : ∀ fl ds Q, sp fl ds Q → fl = none ∧ spx ds (fun rv => Q rv none) (fun _ => False)) : Cal P w K mg base k x false ps dds sp := by
  obtain ⟨f, fd, dvs, ds, h1, h2⟩ := c.ex
  exact ⟨f, fd, dvs, ds, FnOk.no h1 h, h2⟩
/-- a def that may refuse, where it does not -/
theorem FnOk.noA {k : Nat} {f : Addr} {fd : FuncData} {ps : List Str} {sp : PSp} {spx : PSpX} (F : FnOk P w K mg base (L2.CX P w) k f fd ps (spOfX ⟨K, P, w⟩ mg spx)) (h : ∀ fl ds Q, sp fl ds Q → fl = none ∧ spx ds (fun rv => Q rv none) (fun _ => False)) : FnOk P w K mg base CX0 k f fd ps (spOf ⟨K, P, w⟩ false sp) := by
  have key : ∀ vs H Q E, spOf ⟨K, P, w⟩ false sp vs H Q E → spOfX ⟨K, P, w⟩ mg spx vs H Q (fun _ _ _ => False) := fun vs H Q E q => by
    obtain ⟨F, la, fl, ds, ws, hF, ha, hl, Qp, hp, k⟩ := q
    rw [if_neg (by decide)] at hl
    obtain ⟨rfl, rfl, rfl⟩ := hl
    obtain ⟨_, hx⟩ := h _ _ _ hp
    exact ⟨F, ds, hF, ha, _, _, hx, fun v H' F' rv p q => k v H' F' rv none p q, fun _ _ _ _ _ _ _ z => z⟩
  refine ⟨fun vs H Q E q => F.len _ _ _ _ (key vs H Q E q), fun A outer s H args us vs Q E hr he hb hv q => codeAny_mono (F.run A outer s H args us vs Q _ hr he hb hv (key vs H Q E q)) fun r s' c => ?_⟩
  cases r with
  | ok fl => cases fl <;> exact c
  | error e =>
    obtain ⟨_, _, _, _, _, _, _, _, _, _, _, _, z⟩ := c
    exact z.elim
theorem CalXA.no {k : Nat} {x : Str} {ps : List Str} {dds : List D} {sp : PSp} {spx : PSpX} (c : CalXA P w K mg base k x ps dds spx) (h : ∀ fl ds Q, sp fl ds Q → fl = none ∧ spx ds (fun rv => Q rv none) (fun _ => False)) : Cal P w K mg base k x false ps dds sp := by
  obtain ⟨f, fd, dvs, ds, h1, h2⟩ := c.ex
  exact ⟨f, fd, dvs, ds, FnOk.noA h1 h, h2⟩
end
end Sw
namespace Sw
open PySem PySem.Spec L2
end Sw

set_option Elab.async false
set_option linter.all false
set_option maxRecDepth 100000
namespace Sw
open PySem PySem.Spec L2

theorem AtAll.rep {K : FgK} {F : Hp} {ds : List D} {xs : List V} (h : AtAll K F ds xs) : ∀ n : Nat, AtAll K F (List.replicate n ds).flatten (List.replicate n xs).flatten
  | 0 => by simpa using AtAll.nil
  | n + 1 => by
    rw [List.replicate_succ, List.replicate_succ, List.flatten_cons, List.flatten_cons]
    exact AtAll.app h (AtAll.rep h n)
end Sw

set_option Elab.async false
set_option linter.all false
set_option maxRecDepth 100000
namespace L2
open PySem PySem.Spec PyProof.Rows
/-! ### a caught error, kept in a variable behind the suite -/
abbrev Cx.keepX (X : Cx) (pn : List (Addr × Obj)) : Cx := { X with pn := pn, xe := fun _ _ => False }
theorem Cx.Ok.keepX {X : Cx} (ok : X.Ok) (pn : List (Addr × Obj)) : (X.keepX pn).Ok :=
  ⟨ok.mod, ok.kind, ok.glob, ok.blt, ok.above, ok.inj, ok.has, ok.cab, ok.hd, ok.frames, ok.stk, ok.exf, ok.bs, ok.bsz, ok.noex, ok.exfs, ok.funs, ok.frf⟩
section
variable {X : Cx} {pins pins2 : List (Addr × Obj)} {σ : St} {H : Hp} {s : Shared} {a : Addr} {q : Addr × Obj}
theorem Inv.kept_on (I : Inv (X.suite a (q :: (X.pn ++ pins))) pins2 σ H s) (ok : X.Ok) : Inv (X.keepX (q :: (X.pn ++ pins))) [] σ H s :=
  ⟨ok.keepX _, I.os, I.bare, I.base, I.loc, I.cell, I.free, I.freeC, fun p hp => I.pin p (List.mem_append_left _ ((List.mem_append.mp hp).elim id fun z => nomatch z)), I.hok, I.len⟩
theorem Inv.kept_off (I : Inv (X.keepX (q :: (X.pn ++ pins))) pins2 σ H s) (ok : X.Ok) : Inv X pins σ H s :=
  ⟨ok, I.os, I.bare, I.base, I.loc, I.cell, I.free, I.freeC, fun p hp => I.pin p (List.mem_append_left _ (List.mem_cons_of_mem _ hp)), I.hok, I.len⟩
end
section
variable {X : Cx} {x n : Str} {c : Value} {i : Nat} {body suite rest : List Stmt} {b₀ : Stmt} {np pos pos' : Pos} {tb : WX → TS} {ts tr : Addr → Value → Option Addr → TS} {t0 : TS} {Wout : WX}
/-- what is wished of the body's exceptions -/
def wKeep (K : PySem.W.Frag) (c : Value) (i : Nat) (ts tr : Addr → Value → Option Addr → TS) (Wout : WX) (D : Ends) : WX := fun cls d σ H => ∃ b, PySem.W.exmOne K cls c = some b ∧
  (b = true → ∀ a, H a = none → ts a cls d { nx := fun σ' H' => tr a cls d D (σ'.set i none) H', rt := D.rt, bk := fun _ _ => False, ct := fun _ _ => False } (σ.set i (some (.ref a))) H) ∧ (b = false → Wout cls d σ H)
def behindS (X : Cx) (pins : List (Addr × Obj)) (rest : List Stmt) (D : Ends) (f : Flow) (s : Shared) : Prop := match f with
  | .next => wpAny (model X.prog X.w) X.A (execs rest X.env) (SP X pins D) X.xe s
  | f => SP X pins D f s
theorem pss_try_keep (hs : X.stack = X.env :: X.outer) (hf : X.env.frame = some X.env.locals) (hN : X.N.Nodup) (hi : X.N[i]? = some n) (hln : X.env.kindOf n = some .local) (hc : Names X x c) (tk : L2N.Takes X Wout)
    (hb : ∀ (W : WX) (pn : List (Addr × Obj)) (xe : Value → Shared → Prop), L2N.Takes (X.tr pn xe) W → PassesOwn (model X.prog X.w) X.A X.env xe → PSs (X.tr pn xe) body (tb W))
    (hsu : ∀ (a : Addr) (oe : Obj) (cls : Value) (d : Option Addr) (pn : List (Addr × Obj)), Zc cls d oe → (∃ vs, oe.data = .fields vs) → PSs (X.suite a ((a, oe) :: pn)) (b₀ :: suite) (ts a cls d))
    (hre : ∀ (a : Addr) (oe : Obj) (cls : Value) (d : Option Addr) (pn : List (Addr × Obj)), Zc cls d oe → (∃ vs, oe.data = .fields vs) → PSs (X.keepX ((a, oe) :: pn)) rest (tr a cls d))
    (h0 : PSs X rest t0) :
    PSs X (.Try body [.ExceptHandler (some (.Name x np)) (some n) (b₀ :: suite) pos'] [] [] pos :: rest) (fun D σ H => tb (wKeep X.K c i ts tr Wout D) { nx := t0 D, rt := D.rt, bk := D.bk, ct := D.ct } σ H) := by
  refine ⟨fun pins s σ H D I h => ?_⟩
  have ok := I.ok
  have hfr : X.A.frames = some (X.env :: X.outer) := by rw [ok.frames, hs]
  have hloc : Loc X.env.scope n := .inl hln
  have goal : wpAny (model X.prog X.w) X.A (exec (.Try body [.ExceptHandler (some (.Name x np)) (some n) (b₀ :: suite) pos'] [] [] pos) X.env) (behindS X pins rest D) X.xe s := by
    refine wpAny_Try_except ?_
    refine wpAny_mono ((hb (wKeep X.K c i ts tr Wout D) (X.pn ++ pins) (fun e s₁ => wpAny (model X.prog X.w) X.A (noteFrame e X.env) (fun _ s₂ => wpAny (model X.prog X.w) X.A (setFlight e none) (fun _ s₃ =>
      wpAny (model X.prog X.w) X.A (handleBy e X.env [.ExceptHandler (some (.Name x np)) (some n) (b₀ :: suite) pos']) (behindS X pins rest D) X.xe s₃) X.xe s₂) X.xe s₁) (fun u s' xx => ?_) PassesOwn.looking).run [] s σ H { nx := t0 D, rt := D.rt, bk := D.bk, ct := D.ct } (I.toTry _) h) (fun f s1 hsp => ?_) (fun e s1 he => he)
    · obtain ⟨a, B, sI, pins', σ', H', cls, d, rfl, J', nb, up, sky, na, os, ag, b, hb1, hyes, hno⟩ := xx
      have J : Inv X pins σ' H' sI := J'.ofTry ok
      have sky' : Sky B (X.env :: X.outer) a (L2N.Zn cls d) X.env.locals s'.heap := by rw [← hs]; exact sky
      show wpAny (model X.prog X.w) X.A (noteFrame (.ref a) X.env) _ _ _
      refine L2N.Sky.land L2N.Zn.steady hfr hf sky' fun h3 fl3 up3 => ?_
      have J3 : Inv X pins σ' H' { s' with heap := h3 } := J.landed nb fl3.1 (up.trans up3) os ag
      obtain ⟨oe3, vs3, he3, hz3, hd3⟩ := fl3.there
      have notFr : ∀ {h : Heap} {o : Obj} {vs : Array Value}, h.FunFrames B (X.env :: X.outer) → h.get? a = some o → o.data = .fields vs → a ∉ frs (X.env :: X.outer) := fun {h o vs} ff e dd hm => by
        obtain ⟨_, o2, e2, hnf⟩ := ff.mem hm
        rw [e] at e2
        cases e2
        exact hnf _ dd
      have nfr := notFr fl3.2.2.1 he3 hd3
      have nL : a ≠ X.env.locals := fun z => nfr (List.mem_filterMap.mpr ⟨X.env, List.mem_cons_self, by rw [hf, z]⟩)
      have nF : a ∉ X.fs := fun hm => by
        obtain ⟨e, he, q⟩ := List.mem_filterMap.mp hm
        exact nfr (List.mem_filterMap.mpr ⟨e, List.mem_cons_of_mem _ he, q⟩)
      have S3 := J3.suite he3 hd3 na nL nF
      have LT : PySem.W.Looks (model X.prog X.w) h3 (typeOf (.ref a)) cls := fun A Q E s k q => wpAny_typeOf_ref (k _ _ he3) (by rw [hz3.1]; exact q)
      refine wpAny_handleBy_cons (codeAny_handlers_test ?_) (by intro q; cases q)
      have LM := PySem.W.exm_one (M := model X.prog X.w) (J3.kIn) LT hb1
      have test : ∀ {Q : Value → Shared → Prop} {E : Value → Shared → Prop}, Q c { s' with heap := h3 } → wpAny (model X.prog X.w) (X.A.mark (some (.ref a))) (eval (.Name x np) X.env) Q E { s' with heap := h3 } := fun {Q E} q => by
        obtain ⟨hg, hdbg, hm | ⟨hm, hv, hnn⟩⟩ := hc
        · exact ld_glob (X := X.suite a ((a, oe3) :: (X.pn ++ pins))) S3 hg hm q hdbg
        · exact ld_blt (X := X.suite a ((a, oe3) :: (X.pn ++ pins))) S3 hg hm hv q hnn hdbg
      refine test (LM.here ?_)
      cases b with
      | true =>
        refine codeAny_handlers_suite_as ?_
        refine HandSPX.lands_againZ fl3 fun h4 fl4 up4 => ?_
        have J4 : Inv X pins σ' H' { s' with heap := h4 } := J.landed nb fl4.1 ((up.trans up3).trans up4) os ag
        obtain ⟨oe4, vs4, he4, hz4, hd4⟩ := fl4.there
        have S4 := J4.suite he4 hd4 na nL nF
        refine store_ok (X := X.suite a ((a, oe4) :: (X.pn ++ pins))) (v := .ref a) S4 hN hi hloc rfl (fun s5 S5 => ?_) (.inr hln)
        refine wpAny_mono ((hsu a oe4 cls d (X.pn ++ pins) hz4.zc ⟨_, hd4⟩).run [] s5 _ H' _ S5 (hyes rfl a na)) (fun f s6 hsp => ?_) (fun _ _ z => False.elim z)
        have end_ : ∀ {σ6 : St} {H6 : Hp} {Q : Shared → Prop}, Inv (X.suite a ((a, oe4) :: (X.pn ++ pins))) [] σ6 H6 s6 → (∀ s7, Inv (X.keepX ((a, oe4) :: (X.pn ++ pins))) [] (σ6.set i none) H6 s7 → Q s7) →
            wpAny (model X.prog X.w) X.A (do bindName X.env n .none; unbindBehindTheSuite X.env n pos') (fun _ s7 => Q s7) X.xe s6 := fun {σ6 H6 Q} S6 hq => gone_ok (X := X.keepX ((a, oe4) :: (X.pn ++ pins))) (S6.kept_on ok) hN hi hln hq
        cases f with
        | next =>
          obtain ⟨σ6, H6, S6, q6⟩ := hsp
          refine end_ S6 fun s7 J7 => ?_
          refine wpAny_mono ((hre a oe4 cls d (X.pn ++ pins) hz4.zc ⟨_, hd4⟩).run [] s7 _ H6 D J7 q6) (fun f s8 hsp8 => ?_) (fun _ _ z => False.elim z)
          cases f with
          | next =>
            obtain ⟨σ8, H8, S8, q8⟩ := hsp8
            exact ⟨σ8, H8, S8.kept_off ok, q8⟩
          | brk =>
            obtain ⟨σ8, H8, S8, q8⟩ := hsp8
            exact ⟨σ8, H8, S8.kept_off ok, q8⟩
          | cont =>
            obtain ⟨σ8, H8, S8, q8⟩ := hsp8
            exact ⟨σ8, H8, S8.kept_off ok, q8⟩
          | ret u =>
            obtain ⟨v8, σ8, H8, S8, r8, q8⟩ := hsp8
            exact ⟨v8, σ8, H8, S8.kept_off ok, r8, q8⟩
        | brk =>
          obtain ⟨σ6, H6, S6, q6⟩ := hsp
          exact False.elim q6
        | cont =>
          obtain ⟨σ6, H6, S6, q6⟩ := hsp
          exact False.elim q6
        | ret u =>
          obtain ⟨v6, σ6, H6, S6, r6, q6⟩ := hsp
          exact end_ S6 fun s7 J7 => ⟨_, _, _, J7.kept_off ok, r6, q6⟩
      | false =>
        show wpAny _ X.A (handleBy (.ref a) X.env []) _ _ _
        have w := hno rfl
        refine wpAny_handleBy_nil ?_
        obtain ⟨k1, k2, k3, oe, vs, T, oT, ts', he, hz, hd, h1, hr⟩ := id fl3
        unfold PySem.passOn
        refine wpAny_bind (wpAny_field he hd h1 ?_)
        rw [if_neg (show ¬ ((Value.ref T == Value.none) = true) from by simp)]
        have fin : wpAny (model X.prog X.w) X.A (setFlight (.ref a) X.env.frame) (fun _ s4 => wpAny (model X.prog X.w) X.A (throw (.ref a) : Sem Flow) (behindS X pins rest D) X.xe s4) X.xe { s' with heap := h3 } := by
          rw [hf]
          refine HandSPX.setFlight_upZ fl3 fun h4 hh4 up4 => wpAny_throw (tk _ _ ?_)
          exact ⟨a, B, sI, pins, σ', H', cls, d, rfl, J, nb, (up.trans up3).trans up4, .inr (.inr (by rw [hs]; exact hh4)), na, os, ag, w⟩
        first
          | exact wpAny_bind (wpAny_pure (wpAny_bind fin))
          | exact wpAny_bind fin
    · cases f with
      | next =>
        obtain ⟨σ', H', J', q⟩ := hsp
        exact wpAny_execs_nil (h0.run pins s1 σ' H' D (J'.ofTry ok) q)
      | brk =>
        obtain ⟨σ', H', J', q⟩ := hsp
        exact ⟨σ', H', J'.ofTry ok, q⟩
      | cont =>
        obtain ⟨σ', H', J', q⟩ := hsp
        exact ⟨σ', H', J'.ofTry ok, q⟩
      | ret u =>
        obtain ⟨v, σ', H', J', r, q⟩ := hsp
        exact ⟨v, σ', H', J'.ofTry ok, r, q⟩
  refine wpAny_execs_cons (wpAny_mono goal (fun f s1 q => ?_) fun _ _ z => z)
  cases f with
  | next => exact q
  | ret v => exact q
  | brk => exact q
  | cont => exact q
end
end L2
namespace Sw
open PySem PySem.Spec L2
/-- the field of the error in hand -/
def FldX (d : Option Addr) (xv : XV) (C : Ec) : Prop := match xv.f with
  | none => d = none
  | some (f, x) => ∃ dd v, d = some dd ∧ C.F0 dd = some (.xd [(f, v)]) ∧ atomV x = some v
/-- the context behind the suite: the error stands at a -/
abbrev Cz.keep (X : Cz) (a : Addr) (oe : Obj) (pn : List (Addr × Obj)) (d : Option Addr) (xv : XV) : Cz := ⟨X.toCx.keepX ((a, oe) :: pn), wNo, pNo, true, .of takes_none5, FldX d xv⟩
end Sw

set_option Elab.async false
set_option linter.all false
set_option maxRecDepth 100000
namespace L2
open PySem PySem.Spec PyProof.Rows
theorem pe_yf {X : Cx} {a C : Addr} {oe : Obj} {cls : Value} {d : Option Addr} {e : Expr} {te : TE} {pos : Pos} {n : Str} (hp : (a, oe) ∈ X.pn) (T : XfC X.K C) (hno : PySem.W.findIn X.K (.ref C) n = some none)
    (hz : Zc cls d oe) (hf : ∃ vs, oe.data = .fields vs) (he : PE X e te) (hb : attributeBase e n X.env (eval e X.env) = eval e X.env := by rfl) : PE X (.Attribute e n pos) (tXf a cls d C n te) := by
  refine ⟨fun pins s σ H Q I0 h => attr_of hb (thn (he.run pins s σ H _ I0 h) fun u s1 ⟨x, H1, I1, rx, ex, ec, dd, fs, v, ed, ea, l, q⟩ => ?_)⟩
  subst ex
  obtain rfl : u = Value.ref a := rx
  subst ec
  subst ed
  have ha := (I1.pin (a, oe) (List.mem_append_left _ hp)).1
  obtain ⟨vs, hd⟩ := hf
  have hx : ObjOk X.prog X.w H1 s1.heap dd (.xd fs) := I1.hok dd _ ea
  obtain ⟨mA, hns, hr⟩ := hx
  obtain ⟨od, ho, hl⟩ := lookIn_ns hns
  obtain ⟨u, hu, ru⟩ := RelO.some_of (v := v) (o := mA n) (by rw [← l]; exact hr n)
  have Jn : PySem.W.InstAt s1.heap a oe C (some od) := ⟨ha, hz.1, by unfold PySem.W.notCls; rw [hd] <;> rfl, by rw [hz.2]; exact ho⟩
  exact HandSPX.exc_get I1.kIn Jn T.ga T.gg T.exC (PySem.W.findObj_own T.hdC hno rfl (by rw [hl, hu])) (handed_of ru) ⟨v, H1, I1.tok _, ru, q⟩
end L2
namespace Sw
open PySem PySem.Spec L2
theorem InS.keep {X : Cz} {a : Addr} {oe : Obj} {d : Option Addr} {cl : List Str} {cls : Value} {pn : List (Addr × Obj)} {xv : XV} (S : InS X cl cls d oe xv) : InS (X.keep a oe pn d xv) cl cls d oe xv := ⟨S.z, S.f, S.i, S.e⟩
end Sw

set_option Elab.async false
set_option linter.all false
set_option maxRecDepth 100000
set_option maxHeartbeats 4000000
namespace Sw
open PySem PySem.Spec L2
theorem AtAll.two {K : FgK} {F : Hp} {d e : D} {xs : List V} (h : AtAll K F [d, e] xs) : ∃ x y, xs = [x, y] ∧ At K F d x ∧ At K F e y := by
  simp only [AtAll] at h
  obtain ⟨x, r, rfl, a, y, r', rfl, b, q⟩ := h
  subst q
  exact ⟨x, y, rfl, a, b⟩
end Sw

set_option Elab.async false
set_option linter.all false
set_option maxRecDepth 100000
namespace Sw
open PySem PySem.Spec L2
/-- the context in which the cells of M stand still -/
def frm (C : Ec) (M : Hp) : Ec := ⟨fun b => match M b with | some o => some o | none => C.H0 b, C.F0, C.la⟩
theorem frm_s {C : Ec} {M : Hp} {b : Addr} {o : HO} (h : M b = some o) : (frm C M).H0 b = some o := by unfold frm; simp only [h]
/-- the cells are the block's own -/
def MOk (C : Ec) (M : Hp) : Prop := ∀ b o, M b = some o → C.H0 b = none ∧ C.F0 b = none ∧ C.la ≠ some b
section
variable {K : FgX} {C : Ec} {M M' : Hp} {σ : L2.St} {H F H' F' : Hp} {env : List SV}
/-- the cells stand apart from the slots -/
theorem Rel.apart (R : Rel K (frm C M) σ H F env) (m0 : MOk C M) {b : Addr} {o : HO} (h : M b = some o) : H b = some o ∧ F b = none ∧ ¬ Own σ env b := by
  obtain ⟨h1, h2, nl⟩ := m0 b o h
  refine ⟨R.frame b o (frm_s h) nl, ?_, ?_⟩
  · cases q : F b with
    | none => rfl
    | some u =>
      rcases R.new b u q with z | z
      · rw [show C.F0 b = some u from z] at h2
        cases h2
      · rw [frm_s h] at z
        cases z
  · rintro ⟨i, l, c, e, s⟩
    obtain ⟨p, u, e1, _, _, e4, _⟩ := R.slot i _ e
    rw [s] at e1
    cases e1
    cases l with
    | true => exact nl (by rw [if_pos rfl] at e4; exact e4)
    | false =>
      rw [if_neg (by decide), frm_s h] at e4
      cases e4
theorem Rel.leM (R : Rel K (frm C M) σ H F env) (m0 : MOk C M) : Le M H := fun b o h => (R.apart m0 h).1
end
def RepL (K : FgK) (F M : Hp) : List (D × List D) → List (NestedKey × Addr × V) → List Addr → Prop
  | [], zs, as => zs = [] ∧ as = []
  | (k, ds) :: r, zs, as => ∃ nk b zr xs a ar, zs = (nk, b, .ref a) :: zr ∧ as = a :: ar ∧ k = nkD nk ∧ At K F k (.ref b) ∧ M a = some (.lst xs) ∧ AtAll K F ds xs ∧ RepL K F M r zr ar
/-- what is nested, by data: where it stands, what it holds -/
abbrev NG := Addr × List (D × List D)
structure RepD (K : FgK) (F M : Hp) (g : NG) : Prop where
  ex : ∃ o zs as, M g.1 = some o ∧ IsN K g.1 zs o ∧ RepL K F M g.2 zs as ∧ (g.1 :: as).Nodup ∧ ∀ b u, M b = some u → b = g.1 ∨ b ∈ as
def lookG (G : List (D × List D)) (k : D) : Option (List D) := match G with
  | [] => none
  | (k', ds) :: r => if PyData.eqv k' k = true then some ds else lookG r k
def setG (G : List (D × List D)) (k : D) (es : List D) : List (D × List D) := match G with
  | [] => []
  | (k', ds) :: r => if PyData.eqv k' k = true then (k', es) :: r else (k', ds) :: setG r k es
section
variable {K : FgK} {F F' M M' : Hp}
theorem RepL.mono (h : Le F F') : ∀ {G : List (D × List D)} {zs : List (NestedKey × Addr × V)} {as : List Addr}, RepL K F M G zs as → RepL K F' M G zs as
  | [], _, _, q => q
  | (k, ds) :: r, zs, as, q => by
    obtain ⟨nk, b, zr, xs, a, ar, e1, e2, e3, a1, m, a2, q⟩ := q
    exact ⟨nk, b, zr, xs, a, ar, e1, e2, e3, At.mono h _ _ a1, m, AtAll.mono h _ _ a2, RepL.mono h q⟩
theorem RepL.cells : ∀ {G : List (D × List D)} {zs : List (NestedKey × Addr × V)} {as : List Addr}, RepL K F M G zs as → (∀ a ∈ as, M' a = M a) → RepL K F M' G zs as
  | [], _, _, q, _ => q
  | (k, ds) :: r, zs, as, q, h => by
    obtain ⟨nk, b, zr, xs, a, ar, e1, rfl, e3, a1, m, a2, q⟩ := q
    exact ⟨nk, b, zr, xs, a, ar, e1, rfl, e3, a1, (h a List.mem_cons_self).trans m, a2, q.cells fun c hc => h c (List.mem_cons_of_mem _ hc)⟩
theorem RepL.len : ∀ {G : List (D × List D)} {zs : List (NestedKey × Addr × V)} {as : List Addr}, RepL K F M G zs as → zs.length = G.length
  | [], _, _, q => by
    obtain ⟨rfl, _⟩ := q
    rfl
  | (k, ds) :: r, zs, as, q => by
    obtain ⟨nk, b, zr, xs, a, ar, rfl, _, _, _, _, _, q⟩ := q
    simp [q.len]
/-- a look-up, and what another list there makes of it -/
theorem RepL.look (nk : NestedKey) : ∀ {G : List (D × List D)} {zs : List (NestedKey × Addr × V)} {as : List Addr} {us : List (NestedKey × Addr × Value)}, RepL K F M G zs as → PairZ zs us → as.Nodup →
    (lookG G (nkD nk) = none ∧ atKey us nk = none) ∨ ∃ ds a xs q, lookG G (nkD nk) = some ds ∧ atKey us nk = some q ∧ q.2 = .ref a ∧ a ∈ as ∧ M a = some (.lst xs) ∧ AtAll K F ds xs ∧
      ∀ F' ys es, Le F F' → AtAll K F' es ys → RepL K F' (upd M a (.lst ys)) (setG G (nkD nk) es) zs as
  | [], _, _, us, q, p, _ => by
    obtain ⟨rfl, rfl⟩ := q
    cases p
    exact .inl ⟨rfl, rfl⟩
  | (k, ds) :: r, zs, as, us, q, p, nd => by
    obtain ⟨nk', b, zr, xs, a, ar, rfl, rfl, rfl, a1, m, a2, q⟩ := q
    obtain ⟨na, nd⟩ := List.nodup_cons.mp nd
    cases p with
    | @cons z0 u0 _ ur p1 p2 =>
      obtain ⟨e1, e2, e3⟩ := p1
      simp only at e1 e2 e3
      have eu : atKey (u0 :: ur) nk = if u0.1 = nk then some u0.2 else atKey ur nk := by
        unfold atKey
        rw [List.find?_cons]
        by_cases h : u0.1 = nk <;> simp [h]
      have el : lookG ((nkD nk', ds) :: r) (nkD nk) = if nk' = nk then some ds else lookG r (nkD nk) := by
        show (if PyData.eqv (nkD nk') (nkD nk) = true then some ds else lookG r (nkD nk)) = _
        rw [eqv_nk]
        by_cases h : nk' = nk <;> simp [h]
      rw [eu, el]
      by_cases h : nk' = nk
      · rw [if_pos h, if_pos (by rw [← e1]; exact h)]
        refine .inr ⟨ds, a, xs, u0.2, rfl, rfl, e3, List.mem_cons_self, m, a2, fun F' ys es hF ay => ?_⟩
        have ea : setG ((nkD nk', ds) :: r) (nkD nk) es = (nkD nk', es) :: r := by
          show (if PyData.eqv (nkD nk') (nkD nk) = true then _ else _) = _
          rw [eqv_nk, if_pos (by simpa using h)]
        rw [ea]
        exact ⟨nk', b, zr, ys, a, ar, rfl, rfl, rfl, At.mono hF _ _ a1, upd_same, ay, (q.mono hF).cells fun c hc => upd_ne (fun e => na (e ▸ hc))⟩
      · rw [if_neg h, if_neg (by rw [← e1]; exact h)]
        rcases RepL.look nk q p2 nd with ⟨h1, h2⟩ | ⟨ds', a', xs', q', h1, h2, h3, h4, h5, h6, h7⟩
        · exact .inl ⟨h1, h2⟩
        · refine .inr ⟨ds', a', xs', q', h1, h2, h3, List.mem_cons_of_mem _ h4, h5, h6, fun F' ys es hF ay => ?_⟩
          have ea : setG ((nkD nk', ds) :: r) (nkD nk) es = (nkD nk', ds) :: setG r (nkD nk) es := by
            show (if PyData.eqv (nkD nk') (nkD nk) = true then _ else _) = _
            rw [eqv_nk, if_neg (by simpa using h)]
          rw [ea]
          have ne : a ≠ a' := fun e => na (e ▸ h4)
          exact ⟨nk', b, zr, xs, a, ar, rfl, rfl, rfl, At.mono hF _ _ a1, by rw [upd_ne ne]; exact m, AtAll.mono hF _ _ a2, h7 F' ys es hF ay⟩
end
structure MEnds where
  nx : NG → List SV → Prop
  rt : RV → List SV → Prop
  bk : NG → List SV → Prop := fun _ _ => False
  ct : NG → List SV → Prop := fun _ _ => False
structure RelM (K : FgX) (C : Ec) (M : Hp) (σ : L2.St) (H F : Hp) (env : List SV) (g : NG) : Prop where
  rel : Rel K (frm C M) σ H F env
  m0 : MOk C M
  rep : RepD K F M g
structure EndsM (K : FgX) (C : Ec) (F : Hp) (D : Ends) (Dp : MEnds) : Prop where
  nx : ∀ M' σ' H' F' env' g', RelM K C M' σ' H' F' env' g' → Le F F' → Dp.nx g' env' → D.nx σ' H'
  rt : ∀ σ' H' F' env' rv v, Rel K C σ' H' F' env' → Le F F' → RvOk K C H' F' rv v → Dp.rt rv env' → D.rt v H'
  bk : ∀ M' σ' H' F' env' g', RelM K C M' σ' H' F' env' g' → Le F F' → Dp.bk g' env' → D.bk σ' H'
  ct : ∀ M' σ' H' F' env' g', RelM K C M' σ' H' F' env' g' → Le F F' → Dp.ct g' env' → D.ct σ' H'
theorem EndsM.mono {K : FgX} {C : Ec} {F F1 : Hp} {D : Ends} {Dp : MEnds} (e : EndsM K C F D Dp) (h : Le F F1) : EndsM K C F1 D Dp :=
  ⟨fun M' σ' H' F' env' g' R l => e.nx M' σ' H' F' env' g' R (h.trans' l), fun σ' H' F' env' rv v R l => e.rt σ' H' F' env' rv v R (h.trans' l), fun M' σ' H' F' env' g' R l => e.bk M' σ' H' F' env' g' R (h.trans' l), fun M' σ' H' F' env' g' R l => e.ct M' σ' H' F' env' g' R (h.trans' l)⟩
theorem RepD.mono {K : FgK} {F F' M : Hp} {g : NG} (q : RepD K F M g) (h : Le F F') : RepD K F' M g := by
  obtain ⟨o, zs, as, h1, h2, h3, h4⟩ := q.ex
  exact ⟨o, zs, as, h1, h2, h3.mono h, h4⟩
end Sw

set_option Elab.async false
set_option linter.all false
set_option maxRecDepth 100000
set_option maxHeartbeats 4000000
namespace Sw
open PySem PySem.Spec L2 PySem.Calls PyProof.Rows
open PpSet (boolK boolK_is)
def frzE (env : List SV) : List SV := env.map fun
  | .obj _ (.lst ds) => .dat (.list ds)
  | .obj _ (.dic _ _) => .un
  | x => x
section
variable {K : FgX} {C : Ec} {σ : L2.St} {H F : Hp} {env : List SV}
theorem frzE_get {i : Nat} {sv : SV} (h : (frzE env)[i]? = some sv) : ∃ s0, env[i]? = some s0 ∧ sv = (match s0 with
  | .obj _ (.lst ds) => .dat (.list ds)
  | .obj _ (.dic _ _) => .un
  | x => x) := by
  unfold frzE at h
  rw [List.getElem?_map] at h
  obtain ⟨s0, e, h⟩ := Option.map_eq_some_iff.mp h
  exact ⟨s0, e, h.symm⟩
end
noncomputable local instance memDecTr (k : Bool) (l : List Bool) : Decidable (k ∈ l) := Classical.propDecidable _
end Sw

set_option Elab.async false
set_option linter.all false
set_option maxRecDepth 100000
namespace Sw
open PySem PySem.Spec L2
abbrev NGA := Addr × List (List D)
structure RepA (K : FgK) (F M : Hp) (g : NGA) : Prop where
  ex : ∃ as : List Addr, M g.1 = some (.lst (as.map V.ref)) ∧ as.length = g.2.length ∧ (∀ (i : Nat) (ds : List D), g.2[i]? = some ds → ∃ (a : Addr) (xs : List V), as[i]? = some a ∧ M a = some (.lst xs) ∧ AtAll K F ds xs) ∧ (g.1 :: as).Nodup ∧ ∀ b u, M b = some u → b = g.1 ∨ b ∈ as
structure MEndsA where
  nx : NGA → List SV → Prop
  rt : RV → List SV → Prop
  bk : NGA → List SV → Prop := fun _ _ => False
  ct : NGA → List SV → Prop := fun _ _ => False
  /-- what is nested is handed back as it is, still to be changed -/
  rn : NGA → List SV → Prop := fun _ _ => False
structure RelMA (K : FgX) (C : Ec) (M : Hp) (σ : L2.St) (H F : Hp) (env : List SV) (g : NGA) : Prop where
  rel : Rel K (frm C M) σ H F env
  m0 : MOk C M
  rep : RepA K F M g
structure EndsMA (K : FgX) (C : Ec) (F : Hp) (D : Ends) (Dp : MEndsA) : Prop where
  nx : ∀ M' σ' H' F' env' g', RelMA K C M' σ' H' F' env' g' → Le F F' → Dp.nx g' env' → D.nx σ' H'
  rt : ∀ σ' H' F' env' rv v, Rel K C σ' H' F' env' → Le F F' → RvOk K C H' F' rv v → Dp.rt rv env' → D.rt v H'
  bk : ∀ M' σ' H' F' env' g', RelMA K C M' σ' H' F' env' g' → Le F F' → Dp.bk g' env' → D.bk σ' H'
  ct : ∀ M' σ' H' F' env' g', RelMA K C M' σ' H' F' env' g' → Le F F' → Dp.ct g' env' → D.ct σ' H'
  rn : ∀ M' σ' H' F' env' g', RelMA K C M' σ' H' F' env' g' → Le F F' → Dp.rn g' env' → D.rt (.ref g'.1) H'
theorem EndsMA.mono {K : FgX} {C : Ec} {F F1 : Hp} {D : Ends} {Dp : MEndsA} (e : EndsMA K C F D Dp) (h : Le F F1) : EndsMA K C F1 D Dp :=
  ⟨fun M' σ' H' F' env' g' R l => e.nx M' σ' H' F' env' g' R (h.trans' l), fun σ' H' F' env' rv v R l => e.rt σ' H' F' env' rv v R (h.trans' l), fun M' σ' H' F' env' g' R l => e.bk M' σ' H' F' env' g' R (h.trans' l), fun M' σ' H' F' env' g' R l => e.ct M' σ' H' F' env' g' R (h.trans' l), fun M' σ' H' F' env' g' R l => e.rn M' σ' H' F' env' g' R (h.trans' l)⟩
theorem RepA.mono {K : FgK} {F F' M : Hp} {g : NGA} (q : RepA K F M g) (h : Le F F') : RepA K F' M g := by
  obtain ⟨as, h1, h2, h3, h4, h5⟩ := q.ex
  exact ⟨as, h1, h2, fun i ds e => by
    obtain ⟨a, xs, e1, e2, e3⟩ := h3 i ds e
    exact ⟨a, xs, e1, e2, AtAll.mono h _ _ e3⟩, h4, h5⟩
section
variable {X : Cz}
theorem atL_of {K : FgK} {F : Hp} : ∀ {dss : List (List D)} {as : List Addr}, as.length = dss.length → (∀ (i : Nat) (ds : List D), dss[i]? = some ds → ∃ (a : Addr) (xs : List V), as[i]? = some a ∧ F a = some (.lst xs) ∧ AtAll K F ds xs) → AtAll K F (dss.map .list) (as.map V.ref)
  | [], [], _, _ => AtAll.nil
  | [], a :: r, h, _ => by cases h
  | ds :: r, [], h, _ => by cases h
  | ds :: r, a :: ar, h, q => by
    obtain ⟨a', xs, e1, e2, e3⟩ := q 0 ds rfl
    cases e1
    exact AtAll.cons (by simp only [At]; exact ⟨a, xs, rfl, e2, e3⟩) (atL_of (by simpa using h) fun i ds' e => by
      obtain ⟨a', xs', f1, f2⟩ := q (i + 1) ds' e
      exact ⟨a', xs', f1, f2⟩)
end
end Sw

set_option Elab.async false
set_option linter.all false
set_option maxRecDepth 100000
namespace Sw
open PySem PySem.Spec L2
section
variable {X : Cz}
theorem Rel.drop {K : FgX} {C : Ec} {σ : L2.St} {H F : Hp} {env : List SV} (R : Rel K C σ H F env) (j : Nat) : Rel K C σ H F (env.set j .un) := by
  have oth : ∀ {i : Nat} {sv : SV}, (env.set j .un)[i]? = some sv → sv = .un ∨ env[i]? = some sv := fun {i sv} h => by
    by_cases e : i = j
    · subst e
      have hj := (List.getElem?_eq_some_iff.mp h).1
      rw [List.length_set] at hj
      rw [List.getElem?_set_self hj] at h
      exact .inl (Option.some.inj h).symm
    · rw [List.getElem?_set_ne (Ne.symm e)] at h
      exact .inr h
  refine ⟨⟨R.frz, R.mono, R.new, R.frame, R.la, by rw [List.length_set]; exact R.len, fun i sv e => ?_, fun i k l c m d h1 h2 h3 => ?_⟩, R.xok⟩
  · rcases oth e with rfl | e
    · trivial
    · exact R.slot i sv e
  · rcases oth h1 with h | h1
    · cases h
    · rcases oth h2 with h | h2
      · cases h
      · exact R.dist i k l c m d h1 h2 h3
end
abbrev PSpN := List D → (List (List D) → Prop) → Prop
/-- the promise of such a def -/
def spN (K : FgK) (ps : PSpN) : Sp := fun vs H Q _ => ∃ (F : Hp) (ds : List D), Le F H ∧ AtAll K F ds vs ∧ ∃ Qp : List (List D) → Prop, ps ds Qp ∧
  ∀ (p : Addr) (dss : List (List D)) (M H' F' : Hp), (∀ b o, H b = some o → H' b = some o) → Le F' H' → Le F F' → (∀ b o, F' b = some o → F b = some o ∨ H b = none) → (∀ b o, M b = some o → H' b = some o ∧ H b = none ∧ F' b = none) → RepA K F' M (p, dss) → Qp dss → Q (.ref p) H'
end Sw

set_option Elab.async false
set_option linter.all false
set_option maxRecDepth 100000
namespace Sw
open PySem PySem.Spec L2
section
variable {X : Cz} {K : FgX} {C : Ec} {M : Hp} {σ : L2.St} {H F : Hp} {env : List SV} {g : NGA}
theorem rel_view {envv : List SV} (hx : XOk K ⟨H, F, none⟩) (hl : envv.length = σ.length) (hF : Le F H) (hs : ∀ (i : Nat) (sv : SV), envv[i]? = some sv → SlotOk K ⟨H, F, none⟩ H F σ[i]? sv ∧ ∀ l c, sv ≠ .obj l c) : Rel K ⟨H, F, none⟩ σ H F envv :=
  ⟨⟨hF, fun _ _ h => h, fun _ _ h => .inl h, fun _ _ h _ => h, fun _ h => (nomatch h), hl, fun i sv e => (hs i sv e).1, fun i j l c m d h1 _ _ => absurd rfl ((hs i _ h1).2 l c)⟩, hx⟩
/-- how a test sees the slots: own lists and the list of lists are known -/
def viewA (env : List SV) (i : Nat) (dss : List (List D)) : List SV := (frzE env).set i (.dat (.list (dss.map .list)))
theorem RelMA.view (R : RelMA K C M σ H F env g) (hx : ∀ C, C.la = none → XOk K C) {i : Nat} (e0 : env[i]? = some (.raw (.ref g.1))) : Rel K ⟨H, H, none⟩ σ H H (viewA env i g.2) := by
  obtain ⟨as, m, al, rp, nd, only⟩ := R.rep.ex
  have leM := R.rel.leM R.m0
  have ff := R.rel.frz
  have hi : i < (frzE env).length := by
    unfold frzE
    rw [List.length_map]
    exact (List.getElem?_eq_some_iff.mp e0).1
  refine rel_view (hx _ rfl) (by unfold viewA frzE; rw [List.length_set, List.length_map]; exact R.rel.len) Le.rfl' fun j sv e => ?_
  unfold viewA at e
  by_cases c : j = i
  · subst c
    rw [List.getElem?_set_self hi] at e
    cases e
    refine ⟨⟨.ref g.1, R.rel.slot j _ e0, ?_⟩, fun l c h => by cases h⟩
    simp only [At]
    refine ⟨g.1, as.map V.ref, rfl, leM _ _ m, atL_of al fun i ds e => ?_⟩
    obtain ⟨a, xs, e1, e2, e3⟩ := rp i ds e
    exact ⟨a, xs, e1, leM _ _ e2, AtAll.mono ff _ _ e3⟩
  · rw [List.getElem?_set_ne (Ne.symm c)] at e
    obtain ⟨s0, es, rfl⟩ := frzE_get e
    have w := R.rel.slot j s0 es
    cases s0 with
    | un => exact ⟨trivial, fun l c h => by cases h⟩
    | raw z => exact ⟨w, fun l c h => by cases h⟩
    | dat d =>
      obtain ⟨v, e1, a⟩ := w
      exact ⟨⟨v, e1, At.mono ff d v a⟩, fun l c h => by cases h⟩
    | obj l c =>
      cases c with
      | dic t kds => exact ⟨trivial, fun l c h => by cases h⟩
      | lst ds =>
        obtain ⟨p, u, e1, e2, e3, e4, xs, rfl, e5⟩ := w
        exact ⟨⟨.ref p, e1, by simp only [At]; exact ⟨p, xs, rfl, e2, AtAll.mono ff _ _ e5⟩⟩, fun l c h => by cases h⟩
end
/-- such a def, to be called -/
structure CalN (P : Program) (w : World) (K : PySem.W.Frag) (mg : Str → Option Value) (base : Heap) (k : Nat) (x : Str) (ps : List Str) (sp : PSpN) : Prop where
  ex : ∃ (f : Addr) (fd : FuncData), FnOk P w K mg base CX0 k f fd ps (spN ⟨K, P, w⟩ sp) ∧ mg x = some (.ref f) ∧ PySem.W.keepIn K (.ref f) = true ∧ Binds K fd ps []
/-- what it hands back, as data -/
def spD (sp : PSpN) : PSp := fun fl ds Q => fl = none ∧ sp ds fun dss => Q (.fr (dss.map .list)) none
theorem CalN.data {P : Program} {w : World} {K : PySem.W.Frag} {mg : Str → Option Value} {base : Heap} {k : Nat} {x : Str} {ps : List Str} {sp : PSpN} (c : CalN P w K mg base k x ps sp) : Cal P w K mg base k x false ps [] (spD sp) := by
  obtain ⟨f, fd, h1, h2, h3, h4⟩ := c.ex
  refine ⟨f, fd, [], [], h1.imp fun vs H Q E q => ?_, h2, h3, h4, .nil, fun _ _ => AtAll.nil⟩
  obtain ⟨F, la, fl, ds, ws, hF, ha, hl, Qp, hp, k⟩ := q
  rw [if_neg (by decide)] at hl
  obtain ⟨rfl, rfl, rfl⟩ := hl
  obtain ⟨_, hp⟩ := hp
  refine ⟨F, ds, hF, ha, _, hp, fun p dss M H' F' keep frz mono new mm rep qq => ?_⟩
  obtain ⟨as, m, al, rp, nd, only⟩ := rep.ex
  obtain ⟨np, _⟩ := List.nodup_cons.mp nd
  have ff : Le F' (fun b => if b = p then F' b else match M b with | some u => some u | none => F' b) := fun b o e => by
    by_cases c : b = p
    · simp only [c, if_true]
      rw [← c]
      exact e
    · simp only [c, if_false]
      cases q : M b with
      | none => exact e
      | some u =>
        rw [(mm b u q).2.2] at e
        cases e
  refine k (.ref p) H' (fun b => if b = p then F' b else match M b with | some u => some u | none => F' b) (.fr (dss.map .list)) none ⟨fun b o e => ?_, mono.trans' ff, fun b o e => ?_, fun b o e _ => keep b o e, fun a e => (nomatch e), ?_⟩ qq
  · by_cases c : b = p
    · simp only [c, if_true] at e
      rw [c]
      exact frz _ _ e
    · simp only [c, if_false] at e
      cases q : M b with
      | none => rw [q] at e; exact frz b o e
      | some u =>
        rw [q] at e
        cases e
        exact (mm b o q).1
  · by_cases c : b = p
    · simp only [c, if_true] at e
      rw [c]
      exact new _ _ e
    · simp only [c, if_false] at e
      cases q : M b with
      | none => rw [q] at e; exact new b o e
      | some u => exact .inr (mm b u q).2.1
  · refine ⟨p, as.map V.ref, rfl, (mm _ _ m).1, ?_, (mm _ _ m).2.1, atL_of al fun i ds e => ?_⟩
    · simp only [if_true]
      exact (mm _ _ m).2.2
    · obtain ⟨a, xs, e1, e2, e3⟩ := rp i ds e
      have am := List.mem_of_getElem? e1
      refine ⟨a, xs, e1, ?_, AtAll.mono ff _ _ e3⟩
      have ne : ¬ a = p := fun z => np (by rw [z] at am; exact am)
      simp only [ne, if_false, e2]
end Sw

set_option Elab.async false
set_option linter.all false
set_option maxRecDepth 100000
namespace Sw
open PySem PySem.Spec L2
section
variable {K : FgX} {C : Ec} {M : Hp} {σ : L2.St} {H F : Hp} {env : List SV} {g : NGA}
theorem Rel.see (R : Rel K C σ H F env) {j : Nat} {v : V} {d : D} (hs : σ[j]? = some (some v)) (a : At K F d v) : Rel K C σ H F (env.set j (.dat d)) := by
  have oth : ∀ {i : Nat} {sv : SV}, (env.set j (.dat d))[i]? = some sv → (i = j ∧ sv = .dat d) ∨ env[i]? = some sv := fun {i sv} h => by
    by_cases e : i = j
    · subst e
      have hj := (List.getElem?_eq_some_iff.mp h).1
      rw [List.length_set] at hj
      rw [List.getElem?_set_self hj] at h
      exact .inl ⟨rfl, (Option.some.inj h).symm⟩
    · rw [List.getElem?_set_ne (Ne.symm e)] at h
      exact .inr h
  refine ⟨⟨R.frz, R.mono, R.new, R.frame, R.la, by rw [List.length_set]; exact R.len, fun i sv e => ?_, fun i k l c m d h1 h2 h3 => ?_⟩, R.xok⟩
  · rcases oth e with ⟨rfl, rfl⟩ | e
    · exact ⟨v, hs, a⟩
    · exact R.slot i sv e
  · rcases oth h1 with ⟨_, h⟩ | h1
    · cases h
    · rcases oth h2 with ⟨_, h⟩ | h2
      · cases h
      · exact R.dist i k l c m _ h1 h2 h3
end
end Sw

set_option Elab.async false
set_option linter.all false
set_option maxRecDepth 100000
set_option maxHeartbeats 2000000
/-! ### a token is out: text.replace of written texts -/
namespace L2
open PySem PySem.Spec PyProof.Rows
theorem thnT {α : Type} {t : Sem α} {Q Q' : α → Shared → Prop} {M : Model} {A : Around} {E : Value → Shared → Prop} {s : Shared} (h : wpAny M A t Q E s) (hQ : ∀ a s', s.toks ≤ s'.toks → Q a s' → Q' a s') : wpAny M A t Q' E s :=
  wpAny_mono (PySem.wpAny_toks h) (fun a s' q => hQ a s' q.1 q.2) fun _ _ q => q.2
theorem thnFT {α : Type} {t : Sem α} {Q Q' : α → Shared → Prop} {M : Model} {A : Around} {E : Value → Shared → Prop} {s : Shared} (h : wpAny M A t Q (fun _ _ => False) s) (hQ : ∀ a s', s.toks ≤ s'.toks → Q a s' → Q' a s') : wpAny M A t Q' E s :=
  wpAny_mono (PySem.wpAny_toks h) (fun a s' q => hQ a s' q.1 q.2) fun _ _ q => q.2.elim
section
variable {X : Cx} {pins : List (Addr × Obj)} {σ : St} {H : Hp} {s : Shared}
theorem PET.of' {e : Expr} {te : TE} (h : PE X e te) : PET X e te := fun pins s σ H Q _ I q => h.run pins s σ H Q I q
theorem PAT.of {es : List Expr} {ta : TA} (h : PA X es ta) : PAT X es ta := fun pos pins s σ H Q _ I q => h.run pos pins s σ H Q I q
theorem PSsT.nox {st : List Stmt} {t : TS} (h : PSsT X.nox st t) : PSsT X st t := fun pins s σ H D k I hw =>
  wpAny_mono (h pins s σ H D k (I.wish _) hw) (fun _ _ q => q.unwish) fun _ _ z => False.elim z
/-- the turns of a list's block; a token is out when it begins -/
theorem blk_turnsT {elt tg iter : Expr} {ifs : List Expr} {scope : Scope} {pos : Pos} {g : TG} {tt : TT} {te : TE} {ce : Env} {foot : List Addr} {Hs : Hp} {ss sg : Shared} {vs : List Nat} {itr D : Addr} {pl : Nat → Heap → Prop} {J : It} {W : Nat → Nat → Hp → Prop} {mz : Nat}
    {R : Result → Shared → Prop} {Done : Hp → Prop} (calm : X.calm = true) (T : Turn X.prog X.w X.K tg J foot itr pl)
    (pg : PG (X.blk ss Hs scope ce foot) tg g) (pt : PTs (X.blk ss Hs scope ce foot) ifs tt)
    (pe : PET (X.blk ss Hs scope ce foot) elt te) (tok : 1 ≤ sg.toks)
    (start : Inv (X.blk ss Hs scope ce foot) [] (wipe σ vs) Hs sg) (first : pl 0 sg.heap) (bare : ∀ b ∈ foot, Hs b = none) (wz : W 0 mz Hs)
    (turn : ∀ i m H, W i m H → (J.stop i H ∧ Done H) ∨ (J.go i H ∧ ∃ Nx : Hp → Prop, (∀ H', Nx H' → ∃ m', m' < m ∧ W (i + 1) m' H') ∧ ∀ x H', J.yld i H x H' → g x (wipe σ vs) H' fun σ2 H2 => wipe σ2 vs = wipe σ vs ∧ tt σ2 H2 fun ok H3 =>
      if ok = true then te σ2 H3 fun y H4 => ∃ acc, H4 D = some (.lst acc) ∧ acc.length < sizeLine ∧ Nx (upd H4 D (.lst (acc ++ [y]))) else Nx H3))
    (fin : ∀ s' H', Inv (X.blk ss Hs scope ce foot) [] (wipe σ vs) H' s' → Done H' → R (.ok .next) s') :
    codeAny (model X.prog X.w) X.A (.compLoop (.ListComp elt [⟨tg, iter, ifs, 0⟩] scope pos) 0 (.ref itr) (.ref D) ce) R sg := by
  have foots : ∀ {τ : St} {Hn : Hp} {sn : Shared}, Inv (X.blk ss Hs scope ce foot) [] τ Hn sn → (∀ b ∈ foot, Hn b = none) → ∀ b ∈ foot, FpOk (X.blk ss Hs scope ce foot) [] Hn b := by
    intro τ Hn sn Jn hz b hb
    have e1 := Jn.ok.exf b hb
    refine ⟨hz b hb, e1.1, Jn.ok.exfs b hb, .inl hb, ?_, ?_⟩
    · intro x c hx; exact e1.2 x c hx
    · intro p hp; exact absurd (show p ∈ ([] : List (Addr × Obj)) ++ [] from hp) (by simp)
  refine compLoop_any (fun n sn => 1 ≤ sn.toks ∧ ∃ i Hn, Inv (X.blk ss Hs scope ce foot) [] (wipe σ vs) Hn sn ∧ pl i sn.heap ∧ (∀ b ∈ foot, Hn b = none) ∧ W i n Hn) ?_ mz ⟨tok, 0, Hs, start, first, bare, wz⟩
  intro n sn hyp
  obtain ⟨tk, i, Hn, Jn, pln, zn, wn⟩ := hyp
  cases turn i n Hn wn with
  | inl h =>
    have last := T.done (X.blk ss Hs scope ce foot) rfl rfl rfl calm i [] sn _ Hn (fun _ _ => False) Jn (foots Jn zn) pln h.1
    exact thnF last fun r s6 hr => by
      obtain ⟨rfl, J6⟩ := hr
      exact fin s6 Hn J6 h.2
  | inr h =>
    obtain ⟨hgo, Nx, less, step⟩ := h
    have next := T.item (X.blk ss Hs scope ce foot) rfl rfl rfl calm i [] sn _ Hn (fun _ _ => False) Jn (foots Jn zn) pln hgo
    refine thnFT next fun r s6 k6 hr => ?_
    obtain ⟨u, rfl, h6⟩ := hr
    refine thnFT h6 fun _ s7 k7 h7 => ?_
    obtain ⟨x, Hm, Jm, ru, hy, plm, zm⟩ := h7
    -- the iterator's objects are pinned while the turn runs
    have Jp := Jm.pinned (foots Jm zm) (T.obj _ _ plm)
    refine thnFT (pg.run _ s7 _ Hm x u _ Jp ru (step x Hm hy)) fun _ s8 k8 h8 => ?_
    obtain ⟨τ, Hg, Jg, same, hq⟩ := h8
    have close : ∀ {sz : Shared} {Hz : Hp}, 1 ≤ sz.toks → Inv (X.blk ss Hs scope ce foot) ([] ++ pinsAt foot s7.heap) τ Hz sz → Nx Hz →
        ∃ k, k < n ∧ 1 ≤ sz.toks ∧ ∃ i' H', Inv (X.blk ss Hs scope ce foot) [] (wipe σ vs) H' sz ∧ pl i' sz.heap ∧ (∀ b ∈ foot, H' b = none) ∧ W i' k H' := by
      intro sz Hz tz Jz nx
      obtain ⟨k, hk, wk⟩ := less Hz nx
      have pinned : ∀ b ∈ foot, ∀ o, s7.heap.get? b = some o → sz.heap.get? b = some o ∧ Hz b = none := by
        intro b hb o ho
        have z := Jz.pin (b, o) (List.mem_append_right _ (List.mem_append_right _ (mem_pinsAt hb ho)))
        exact ⟨z.1, z.2.1⟩
      have len : (wipe σ vs).length = τ.length := by rw [← same, wipe_length]
      have weak := (Jz.unpinned (pins := [])).weak len (fun j v hj => by
        rw [← same] at hj
        exact (wipe_some hj).1)
      refine ⟨k, hk, tz, i + 1, Hz, weak, T.keep _ _ _ plm (fun b hb o ho => (pinned b hb o ho).1), ?_, wk⟩
      intro b hb
      obtain ⟨o, ho, _⟩ := T.obj _ _ plm b hb
      exact (pinned b hb o ho).2
    refine thnFT (pt.run _ s8 τ Hg _ Jg hq) fun ok s9 k9 h9 => ?_
    obtain ⟨Ht, Jt, qt⟩ := h9
    cases ok with
    | false =>
      rw [if_neg (by decide)] at qt ⊢
      exact close (by omega) Jt qt
    | true =>
      rw [if_pos rfl] at qt ⊢
      refine thnFT (pe _ s9 τ Ht _ (by omega) Jt qt) fun z s10 k10 hz => ?_
      obtain ⟨y, He, Je, ry, acc, hacc, small, nx⟩ := hz
      refine thnFT (Q := fun (_ : Value) sz => Inv (X.blk ss Hs scope ce foot) ([] ++ pinsAt foot s7.heap) τ (upd He D (.lst (acc ++ [y]))) sz) ?_ fun _ s11 (k11 : s10.toks ≤ s11.toks) J11 => close (Nat.le_trans (by omega) k11) J11 nx
      exact app_ok (X := X.blk ss Hs scope ce foot) Je hacc small ry fun s11 J11 => J11
theorem lc_coreT {s : Shared} {H : Hp} {Q : VK} {elt tg iter : Expr} {ifs : List Expr} {scope : Scope} {own : List (Str × Nat)} {pos pos' : Pos} {wi : TI} {g : TG} {tt : TT} {te : TE} {use : Option (Value → Sem Unit)} {Qf : Value → Shared → Prop}
    (calm : X.calm = true) (nd : X.N.Nodup) (I : Inv X pins σ H s) (hi : PI X tg iter wi) (ok : BlkOk X.N X.env.scope scope own)
    (hg : ∀ s H C cl fp, PG (X.blk s H scope (compEnvC scope cl C X.env) fp) tg g) (ht : ∀ s H C cl fp, PTs (X.blk s H scope (compEnvC scope cl C X.env) fp) ifs tt)
    (he : ∀ s H C cl fp, PET (X.blk s H scope (compEnvC scope cl C X.env) fp) elt te) (tok : 1 ≤ s.toks)
    (hs : ∀ x, foldedSetIterable iter X.env x = pure x) (h : tLc wi g tt te (own.map (·.2)) σ H Q)
    (out : ∀ D cl C sn m Hn, Inv X pins σ Hn sn → Q (.ref D) Hn → sn.heap.Ns C m → FpOk X pins Hn C → compEnds (model X.prog X.w) X.A X.xe use Qf (.ref D) (compEnvC scope cl C X.env) (.ok .next) sn) :
    wpAny (model X.prog X.w) X.A (comprehension (.ListComp elt [⟨tg, iter, ifs, 0⟩] scope pos) scope X.env pos' (newList []) false (eval iter X.env) use) Qf X.xe s := by
  have caught : ∀ y ∈ scope.names, y.2 = .free → ∃ c, X.env.cells.lookup y.1 = some c := by
    intro y hy e
    exact (ok.free y hy e).elim (fun k => I.ok.has _ (.inl k)) fun k => I.ok.has _ (.inr k)
  refine comprehension_at (use := use) rfl hs (closure_ok caught) ok.kind (fun y hy e => by rw [ok.uniq y hy, e]) ?_
  refine thnT (hi.run pins s σ H _ I h) fun xv s1 k1 hx => thnT hx fun itv s2 k2 h2 => ?_
  obtain ⟨itr, foot, pl, J, H2, rfl, I2, T, pl2, f2, q⟩ := h2
  refine wpAny_newObj_type (newEnv_comp ?_) (by show 0 ≤ sizeLine; decide)
  -- the new list's place
  generalize eD : s2.heap.objs.size = D
  obtain ⟨W, ⟨mz, wz⟩, turn⟩ := q D (I2.hok.fresh (Nat.le_of_eq eD))
  generalize es3 : ({ s2 with heap := s2.heap.push { cls := .type "list", data := .seq ([] : List Value).toArray } } : Shared) = s3
  have hp3 : s3.heap = s2.heap.push { cls := .type "list", data := .seq ([] : List Value).toArray } := by rw [← es3]
  have more : ∀ b o, s2.heap.get? b = some o → s3.heap.get? b = some o := fun b o e => by
    rw [hp3]; exact Heap.get?_push_of_some _ e
  have I3 : Inv X pins σ (upd H2 D (.lst [])) s3 := by
    subst es3
    refine I2.laid (t' := s2.toks) more (Nat.le_of_eq eD) ⟨Nat.zero_le _, [], 0, .nil, ?_⟩
    subst eD
    exact Heap.get?_push_size _ rfl
  have f3 : ∀ b ∈ foot, FpOk X pins (upd H2 D (.lst [])) b ∧ b < s3.heap.objs.size := by
    intro b hb
    obtain ⟨o, ho, _⟩ := T.obj _ _ pl2 b hb
    have lt2 : b < s2.heap.objs.size := Heap.lt_size ho
    have ne : b ≠ D := by rw [← eD]; exact Nat.ne_of_lt lt2
    exact ⟨⟨(upd_ne ne).trans (f2 b hb).1, (f2 b hb).2⟩, Heap.lt_size (more b o ho)⟩
  generalize eC : s3.heap.objs.size = C
  generalize eH : upd H2 D (.lst []) = Hs at I3 f3 wz
  generalize ecl : cellsFrom (C + 1) scope.names (cloFrom X.env.cells scope.names []) = cl
  have start := block_start I3 ok nd f3
  rw [eC, ecl] at start
  show codeAny (model X.prog X.w) X.A (.compStart (.ListComp elt [⟨tg, iter, ifs, 0⟩] scope pos) 0 (.ref itr) (.ref D) (compEnvC scope cl C X.env)) (compEnds (model X.prog X.w) X.A X.xe use Qf (.ref D) (compEnvC scope cl C X.env)) { s3 with heap := pushCells (s3.heap.push { cls := .type "dict", data := .dict #[] }) scope.names }
  have pl4 : pl 0 (pushCells (s3.heap.push { cls := .type "dict", data := .dict #[] }) scope.names) :=
    T.keep _ _ _ pl2 fun b _ o e => pushCells_keeps _ _ _ _ (Heap.get?_push_of_some _ (more b o e))
  have tok4 : 1 ≤ s3.toks := by
    rw [← es3]
    exact Nat.le_trans tok (Nat.le_trans k1 k2)
  have tok5 : 1 ≤ ({ s3 with heap := pushCells (s3.heap.push { cls := .type "dict", data := .dict #[] }) scope.names } : Shared).toks := tok4
  generalize es4 : ({ s3 with heap := pushCells (s3.heap.push { cls := .type "dict", data := .dict #[] }) scope.names } : Shared) = s4 at start tok5 ⊢
  have pl4 : pl 0 s4.heap := by rw [← es4]; exact pl4
  have loop := blk_turnsT (elt := elt) (iter := iter) (pos := pos) (D := D) (R := compEnds (model X.prog X.w) X.A X.xe use Qf (.ref D) (compEnvC scope cl C X.env)) (Done := Q (.ref D)) (mz := mz) (J := J) (W := W) calm T (hg s3 Hs C cl foot) (ht s3 Hs C cl foot) (he s3 Hs C cl foot) tok5 start pl4 (fun b hb => (f3 b hb).1.1) wz turn (fun s6 Hn J6 qq => by
    have back : Inv X pins σ Hn s6 := I3.call' (ch := foot) J6.os J6.base J6.hok J6.bare fun b hb => by
      obtain ⟨_, z1, z2, z3, z4, z5⟩ := (f3 b hb).1
      exact ⟨z3, z1, z4, z5⟩
    obtain ⟨m, hn, _⟩ := J6.loc
    exact out D cl C s6 m Hn back qq hn (I3.fpOk (Nat.le_of_eq eC) J6.free))
  exact codeAny_compStart_list loop (T.self X.A 0 _ _ _ pl4 loop)
theorem pet_lcT {elt tg iter : Expr} {ifs : List Expr} {scope : Scope} {own : List (Str × Nat)} {pos : Pos} {wi : TI} {g : TG} {tt : TT} {te : TE} (calm : X.calm = true) (nd : X.N.Nodup) (hi : PI X tg iter wi) (ok : BlkOk X.N X.env.scope scope own)
    (hg : ∀ s H C cl fp, PG (X.blk s H scope (compEnvC scope cl C X.env) fp) tg g) (ht : ∀ s H C cl fp, PTs (X.blk s H scope (compEnvC scope cl C X.env) fp) ifs tt)
    (he : ∀ s H C cl fp, PET (X.blk s H scope (compEnvC scope cl C X.env) fp) elt te) (hs : ∀ x, foldedSetIterable iter X.env x = pure x) :
    PET X (.ListComp elt [⟨tg, iter, ifs, 0⟩] scope pos) (tLc wi g tt te (own.map (·.2))) := by
  intro pins s σ H Q tok I h
  rw [eval_ListComp]
  refine lc_coreT calm nd I hi ok hg ht he tok hs h fun D _ C sn m Hn J q hn f => ?_
  obtain ⟨z0, z1, z2, z3, z4, z5⟩ := f
  exact ⟨m, hn, fun h2 sb => ⟨.ref D, Hn, J.turned (t' := sn.toks) (fun b o hb e => (sb.2 b hb).trans e) z0 z1 z3 z4 z5, rfl, q⟩⟩
theorem pst_setLcT {i : Nat} {y : Str} {py : Pos} {elt tg iter : Expr} {ifs : List Expr} {scope : Scope} {own : List (Str × Nat)} {pos spos : Pos} {wi : TI} {g : TG} {tt : TT} {te : TE} (calm : X.calm = true) (nd : X.N.Nodup) (hy : X.N[i]? = some y) (hyl : X.env.scope.names.lookup y = some .local)
    (hsw : swapsWith (.ListComp elt [⟨tg, iter, ifs, 0⟩] scope pos) (some (.Name y py)) spos.line X.env = pure true) (hi : PI X tg iter wi) (ok : BlkOk X.N X.env.scope scope own)
    (hg : ∀ s H C cl fp, PG (X.blk s H scope (compEnvC scope cl C X.env) fp) tg g) (ht : ∀ s H C cl fp, PTs (X.blk s H scope (compEnvC scope cl C X.env) fp) ifs tt)
    (he : ∀ s H C cl fp, PET (X.blk s H scope (compEnvC scope cl C X.env) fp) elt te) (hs : ∀ x, foldedSetIterable iter X.env x = pure x) :
    PST X (.Assign [.Name y py] (.ListComp elt [⟨tg, iter, ifs, 0⟩] scope pos) spos) (tAsg (tLc wi g tt te (own.map (·.2))) (gName i)) := by
  intro pins s σ H D tok I h
  rw [exec_Assign_Name_used _ _ _ _ hsw]
  refine wpAny_bind (wpAny_standAt (wpAny_bind ?_))
  have h0 : tLc wi g tt te (own.map (·.2)) σ H (fun x H1 => gName i x σ H1 D.nx) := h
  show wpAny _ X.A (do let _ ← comprehension (.ListComp elt [⟨tg, iter, ifs, 0⟩] scope pos) scope X.env (firstIterPos [⟨tg, iter, ifs, 0⟩] pos) (newList []) false (eval iter X.env) (some (assign (.Name y py) X.env)))
    _ _ s
  refine wpAny_bind (thn (lc_coreT (Qf := fun _ sn => SP X pins D .next sn) calm nd I hi ok hg ht he tok hs h0 fun L _ C sn m Hn J q hn f => ?_) fun _ _ hq => wpAny_pure (wpAny_pure hq))
  show wpAny _ _ (assign (.Name y py) X.env (.ref L)) _ _ _
  refine wpAny_assign_Name (store_ok2 (v := V.ref L) J nd hy (.inl hyl) rfl (fun s2 J2 ha => ?_) (.inr hyl))
  obtain ⟨a, sb, ha⟩ := ha
  obtain ⟨z0, z1, z2, z3, z4, z5⟩ := f
  have ne : C ≠ a := ha.elim (fun z => by rw [z]; exact z1) fun z e => z4 y a z e.symm
  exact ⟨m, hn.sameBut sb ne, fun h3 sb3 => ⟨_, Hn, J2.turned (t' := s2.toks) (fun b o hb e => (sb3.2 b hb).trans e) z0 z1 z3 z4 z5, q⟩⟩
/-- for, its body wants a token -/
theorem pst_forB {tg iter : Expr} {body : List Stmt} {wi : TI} {g : TG} {tb : TS} {pos : Pos} (hp : PassesOwn (model X.prog X.w) X.A X.env X.xe) (hc : X.calm = true) (hi : PI X tg iter wi) (hg : PG X tg g) (hb : PSsT X body tb)
    (hs : ∀ x, foldedSetIterable iter X.env x = pure x := by intro _; rfl) : PST X (.For tg iter body [] pos) (tFor wi g tb) := by
  intro pins s σ H D h0 I h
  refine wpAny_For (thnT (hi.run pins s σ H _ I h) fun v s1 k1 h1 => thnT h1 fun itv s2 k2 h2 => ?_) hs
  obtain ⟨it, fp, tn, J, H2, e, I2, T, st2, f2, W, ⟨m0, w0⟩, turn⟩ := h2
  subst e
  have stat : ∀ {H' : Hp}, (∀ b ∈ fp, H' b = none) → ∀ b ∈ fp, FpOk X pins H' b := fun hn b hb => ⟨hn b hb, (f2 b hb).2⟩
  refine codeAny_forLoop_any (fun n s' => 1 ≤ s'.toks ∧ ∃ i σ' H', Inv X pins σ' H' s' ∧ tn i s'.heap ∧ (∀ b ∈ fp, H' b = none) ∧ W i n σ' H') ?_ m0 ⟨by omega, 0, σ, H2, I2, st2, fun b hb => (f2 b hb).1, w0⟩
  rintro n s3 ⟨k3, i, σ3, H3, I3, st3, fr3, w3⟩
  rcases turn i n σ3 H3 w3 with ⟨stop, qn⟩ | ⟨go, N, hN, step⟩
  · refine wpAny_passesOwn hp (thn (T.done X rfl rfl rfl hc i pins s3 σ3 H3 X.xe I3 (stat fr3) st3 stop) fun r s4 ⟨hr, I4⟩ => ?_)
    subst hr
    exact wpAny_execs_nil ⟨σ3, H3, I4, qn⟩
  · refine wpAny_passesOwn hp (thnT (T.item X rfl rfl rfl hc i pins s3 σ3 H3 X.xe I3 (stat fr3) st3 go) fun r s4 k4 ⟨u, hr, h4⟩ => ?_)
    subst hr
    refine wpAny_passesOwn hp (thnT h4 fun _ s5 k5 ⟨x, H5, I5, r5, y5, st5, fr5⟩ => ?_)
    have I5' := I5.pinned (stat fr5) (T.obj _ _ st5)
    refine wpAny_passesOwn hp (thnT (hg.run _ s5 σ3 H5 x u _ I5' r5 (step x H5 y5)) fun _ s6 k6 ⟨σ6, H6, I6, q6⟩ => ?_)
    refine wpAny_passesOwn hp (thnT (hb _ s6 σ6 H6 _ (by omega) I6 q6) fun f s7 k7 q7 => ?_)
    have again : ∀ {σ7 : St} {H7 : Hp}, Inv X (pins ++ pinsAt fp s5.heap) σ7 H7 s7 → N σ7 H7 → ∃ m, m < n ∧ 1 ≤ s7.toks ∧ ∃ i σ' H', Inv X pins σ' H' s7 ∧ tn i s7.heap ∧ (∀ b ∈ fp, H' b = none) ∧ W i m σ' H' := fun {σ7 H7} I7 n7 => by
      obtain ⟨m', hm, w7⟩ := hN σ7 H7 n7
      refine ⟨m', hm, by omega, i + 1, σ7, H7, I7.unpinned, T.keep _ _ _ st5 fun b hb o e => (I7.pin (b, o) (List.mem_append_right _ (List.mem_append_right _ (mem_pinsAt hb e)))).1, fun b hb => ?_, w7⟩
      obtain ⟨o, e, d⟩ := T.obj _ _ st5 b hb
      exact (I7.pin (b, o) (List.mem_append_right _ (List.mem_append_right _ (mem_pinsAt hb e)))).2.1
    cases f with
    | next => obtain ⟨σ7, H7, I7, n7⟩ := q7; exact again I7 n7
    | cont => obtain ⟨σ7, H7, I7, n7⟩ := q7; exact again I7 n7
    | brk => obtain ⟨σ7, H7, I7, q7⟩ := q7; exact ⟨σ7, H7, I7.unpinned, q7⟩
    | ret v => obtain ⟨x7, σ7, H7, I7, r7, q7⟩ := q7; exact ⟨x7, σ7, H7, I7.unpinned, r7, q7⟩
theorem pst_expr {e : Expr} {te : TE} {pos : Pos} (he : PET X e te) (hs : swapsWith e none pos.line X.env = pure false := by rfl) : PST X (.Expr e pos) (tDrop te) := by
  intro pins s σ H D h0 I h
  exact wpAny_Expr_any (thn (he pins s σ H _ h0 I h) fun v s1 ⟨x, H1, I1, r1, q1⟩ => ⟨σ, H1, I1, q1⟩) I.quiet hs
theorem pet_bmT {T name id : String} {o e : Expr} {to : TE} {es : List Expr} {t : TA} {r : V → List V → Hp → VK → Prop} {apos cpos : Pos} (pa : PlainAttrs T) (slot : Slot T name id) (hty : typeOf (.builtin id) = pure (.type "method_descriptor")) (hm : MtR X id r) (ho : PE X o to) (ha : PAT X (e :: es) t)
    (hbase : attributeBase o name X.env (eval o X.env) = eval o X.env := by rfl)
    (hfew : ((backTo cpos (starEach (e :: es) X.env)).all (fun x => !x.1) && (backToKw cpos (keywordEach [] X.env)).all (fun x => x.1.isSome)
      && decide ((e :: es).length + ([] : List Keyword).length + (if ([] : List Keyword).isEmpty then 0 else 1) < 30)) = true := by rfl)
    (hline : (apos.endLine == cpos.line) = true := by rfl) (hs : starEach (e :: es) X.env = (false, eval e X.env) :: starEach es X.env := by rfl) (hplain : (backTo cpos (starEach es X.env)).any (·.1) = false := by rfl) :
    PET X (.Call (.Attribute o name apos) (e :: es) [] cpos) (tBM X.K T r to t) := by
  intro pins s σ H Q tok I h
  refine wpAny_Call_method_late hbase hfew hline rfl (thnT (ho.run pins s σ H _ I h) fun v s1 k1 ⟨x, H1, I1, r1, ty, q1⟩ => ?_)
  obtain ⟨h1, h2⟩ := tyV_is I1 r1 ty
  refine ⟨T, id, pa, slot, hty, h1, h2, ?_⟩
  have hA := ha cpos pins s1 σ H1 _ (Nat.le_trans tok k1) I1 q1
  rw [hs] at hA ⊢
  refine Calls.callWith_builtin (by show (false || (backTo cpos (starEach es X.env)).any (·.1)) = false; rw [hplain] <;> rfl) (Calls.evalArgs_plain ?_)
  exact thn hA fun us s2 ⟨vs, H2, I2, r2, q2⟩ => hm pins s2 σ H2 x vs v us Q I2 r1 r2 q2
end
end L2

namespace Sw
open PySem PySem.Spec L2 CwR
section
variable {X : Cz}
structure EST (X : Cz) (st : Stmt) (T : PS') : Prop where
  ex : ∃ t, PST X st t ∧ LS X.fr t T
structure EBT (X : Cz) (sts : List Stmt) (T : PS') : Prop where
  ex : ∃ t, PSsT X sts t ∧ LS X.fr t T
theorem EST.of {st : Stmt} {T : PS'} (h : ES X st T) : EST X st T := by
  obtain ⟨t, h1, l1⟩ := h.ex
  exact ⟨t, PST.of h1, l1⟩
theorem EBT.of {sts : List Stmt} {T : PS'} (h : EB X sts T) : EBT X sts T := by
  obtain ⟨t, h1, l1⟩ := h.ex
  exact ⟨t, PSsT.of h1, l1⟩
end
end Sw

set_option Elab.async false
set_option linter.all false
set_option maxRecDepth 100000
set_option maxHeartbeats 0
namespace SwLaw
open PySem PySem.Spec PyProof.Rows L2 Sw
def topS (i : Nat) : Stmt := PySem.Challenge.pw_strandwright_k59_all_sets_of_few.main.body.getD i (.Pass ⟨0, 0, 0, 0⟩)
abbrev s_name_of : Stmt := topS 1
abbrev s_mirrored : Stmt := topS 2
abbrev s_mirrored_row : Stmt := topS 3
abbrev s_open_canon : Stmt := topS 5
abbrev s_ring_canon : Stmt := topS 6
abbrev s_first_name : Stmt := topS 7
abbrev s_canon : Stmt := topS 8
abbrev s_partners : Stmt := topS 13
abbrev s_beads_from : Stmt := topS 14
abbrev s_set_of : Stmt := topS 15
abbrev s_joinings : Stmt := topS 17
abbrev s_all_joints : Stmt := topS 18
abbrev s_all_sets : Stmt := topS 19
abbrev s_law_pick : Stmt := topS 22
abbrev s_law_letters : Stmt := topS 23
abbrev s_law_name : Stmt := topS 24
abbrev s_law_names : Stmt := topS 25
abbrev s_law_alike : Stmt := topS 26
abbrev s_law_mirrored : Stmt := topS 27
abbrev s_law_first_name : Stmt := topS 28
abbrev s_law_canon_2 : Stmt := topS 29
abbrev s_law_bare_names : Stmt := topS 30
abbrev s_law_flow : Stmt := topS 21
abbrev s_law_59 : Stmt := topS 31
def d_name_of : He.DefD := ⟨("name_of", none), "name_of", "name_of", defArgs s_name_of, defBody s_name_of, defScope s_name_of, [], []⟩
def d_mirrored : He.DefD := ⟨("mirrored", none), "mirrored", "mirrored", defArgs s_mirrored, defBody s_mirrored, defScope s_mirrored, [], []⟩
def d_mirrored_row : He.DefD := ⟨("mirrored_row", none), "mirrored_row", "mirrored_row", defArgs s_mirrored_row, defBody s_mirrored_row, defScope s_mirrored_row, [], []⟩
def d_open_canon : He.DefD := ⟨("open_canon", none), "open_canon", "open_canon", defArgs s_open_canon, defBody s_open_canon, defScope s_open_canon, [], []⟩
def d_ring_canon : He.DefD := ⟨("ring_canon", none), "ring_canon", "ring_canon", defArgs s_ring_canon, defBody s_ring_canon, defScope s_ring_canon, [], []⟩
def d_first_name : He.DefD := ⟨("first_name", none), "first_name", "first_name", defArgs s_first_name, defBody s_first_name, defScope s_first_name, [], []⟩
def d_canon : He.DefD := ⟨("canon", none), "canon", "canon", defArgs s_canon, defBody s_canon, defScope s_canon, [], []⟩
def d_partners : He.DefD := ⟨("partners", none), "partners", "partners", defArgs s_partners, defBody s_partners, defScope s_partners, [], []⟩
def d_beads_from : He.DefD := ⟨("beads_from", none), "beads_from", "beads_from", defArgs s_beads_from, defBody s_beads_from, defScope s_beads_from, [], []⟩
def d_set_of : He.DefD := ⟨("set_of", none), "set_of", "set_of", defArgs s_set_of, defBody s_set_of, defScope s_set_of, [], []⟩
def d_joinings : He.DefD := ⟨("joinings", none), "joinings", "joinings", defArgs s_joinings, defBody s_joinings, defScope s_joinings, [], []⟩
def d_all_joints : He.DefD := ⟨("all_joints", none), "all_joints", "all_joints", defArgs s_all_joints, defBody s_all_joints, defScope s_all_joints, [], []⟩
def d_all_sets : He.DefD := ⟨("all_sets", none), "all_sets", "all_sets", defArgs s_all_sets, defBody s_all_sets, defScope s_all_sets, [], []⟩
def d_law_pick : He.DefD := ⟨("_law_pick", none), "_law_pick", "_law_pick", defArgs s_law_pick, defBody s_law_pick, defScope s_law_pick, [], []⟩
def d_law_letters : He.DefD := ⟨("_law_letters", none), "_law_letters", "_law_letters", defArgs s_law_letters, defBody s_law_letters, defScope s_law_letters, [], []⟩
def d_law_name : He.DefD := ⟨("_law_name", none), "_law_name", "_law_name", defArgs s_law_name, defBody s_law_name, defScope s_law_name, [], []⟩
def d_law_names : He.DefD := ⟨("_law_names", none), "_law_names", "_law_names", defArgs s_law_names, defBody s_law_names, defScope s_law_names, [], []⟩
def d_law_alike : He.DefD := ⟨("_law_alike", none), "_law_alike", "_law_alike", defArgs s_law_alike, defBody s_law_alike, defScope s_law_alike, [], []⟩
def d_law_mirrored : He.DefD := ⟨("_law_mirrored", none), "_law_mirrored", "_law_mirrored", defArgs s_law_mirrored, defBody s_law_mirrored, defScope s_law_mirrored, [], []⟩
def d_law_first_name : He.DefD := ⟨("_law_first_name", none), "_law_first_name", "_law_first_name", defArgs s_law_first_name, defBody s_law_first_name, defScope s_law_first_name, [], []⟩
def d_law_canon_2 : He.DefD := ⟨("_law_canon", none), "_law_canon", "_law_canon", defArgs s_law_canon_2, defBody s_law_canon_2, defScope s_law_canon_2, [], []⟩
def d_law_bare_names : He.DefD := ⟨("_law_bare_names", none), "_law_bare_names", "_law_bare_names", defArgs s_law_bare_names, defBody s_law_bare_names, defScope s_law_bare_names, [], []⟩
def d_law_flow : He.DefD := ⟨("_law_flow", none), "_law_flow", "_law_flow", defArgs s_law_flow, defBody s_law_flow, defScope s_law_flow, [], []⟩
def d_law_59 : He.DefD := ⟨("law", none), "law", "law", defArgs s_law_59, defBody s_law_59, defScope s_law_59, [], []⟩
def fnL : List He.DefD := [d_name_of, d_mirrored, d_mirrored_row, d_open_canon, d_ring_canon, d_first_name, d_canon, d_partners, d_beads_from, d_set_of, d_joinings, d_all_joints, d_all_sets, d_law_pick, d_law_letters, d_law_name, d_law_names, d_law_alike, d_law_mirrored, d_law_first_name, d_law_canon_2, d_law_bare_names, d_law_flow, d_law_59]
def faL : List He.Fa := [.free "len", .free "isinstance", .free "str", .free "int", .free "bool", .free "list", .free "tuple", .free "dict", .free "range", .free "all", .free "any", .free "sorted", .free "set", .free "min", .free "max", .free "ord", .free "enumerate", .free "sum", .free "abs", .free "reversed", .free "zip", .glo "name_of", .glo "mirrored", .glo "mirrored_row", .glo "open_canon", .glo "ring_canon", .glo "first_name", .glo "canon", .glo "partners", .glo "beads_from", .glo "set_of", .glo "joinings", .glo "all_joints", .glo "all_sets", .glo "_law_pick", .glo "_law_letters", .glo "_law_name", .glo "_law_names", .glo "_law_alike", .glo "_law_mirrored", .glo "_law_first_name", .glo "_law_canon", .glo "_law_bare_names", .glo "_law_flow", .glo "law"]
def tsL : List (Str × List (Str × D)) := []
def dcE (K : PySem.W.Frag) : Bool := (tsL.all fun t => dcB K t.1 t.2)
def exB (K : PySem.W.Frag) : Bool := dcE K
abbrev Rw : PySem.W.OpenRow := PySem.W.OpenLaw.row PySem.Challenge.rw_strandwright_k59_all_sets_of_few
def nsP0 : List Str := ["name_of", "mirrored", "mirrored_row", "open_canon", "ring_canon", "first_name", "canon", "partners", "beads_from", "set_of", "joinings", "all_joints", "all_sets", "_law_pick", "_law_letters", "_law_name", "_law_names", "_law_alike", "_law_mirrored", "_law_first_name", "_law_canon", "_law_bare_names", "_law_flow", "law"]
def nsL : List Str := nsP0
abbrev hk : PySem.W.Hook := hookX 3 nsL faL fnL exB tsL
def ob (s : PySem.W.SharedT) : AlF := obsXG 3 nsL faL fnL exB tsL (HandSHeadRun.getT s)
theorem ob_eq (s : PySem.W.SharedT) : ob s = hk.obs s.abs := obsXG_eq (HandSHeadRun.getT_eq s)
def looseN0 : List Str := ["name_of", "mirrored", "mirrored_row", "open_canon", "ring_canon", "first_name", "canon", "partners", "beads_from", "set_of", "joinings", "all_joints", "all_sets", "_law_flow", "_law_pick", "_law_letters", "_law_name", "_law_names", "_law_alike", "_law_mirrored", "_law_first_name", "_law_canon", "_law_bare_names", "StrandError"]
def looseN1 : List Str := ["TooMany"]
abbrev looseN : List Str := looseN0 ++ looseN1
theorem run (w : World) : HandSHeadRun.RunEq Rw (PySem.W.view Rw.prog [31]) hk ob 20000 looseN w := by
  intro os
  kernel_rfl
open PySem PySem.W PySem.Calls PyProof.Rows in
theorem bareR : Rw.prog.bare := ⟨rfl, rfl, rfl, rfl, rfl, by decide +kernel⟩
end SwLaw

set_option Elab.async false
set_option linter.all false
set_option maxRecDepth 100000
namespace Sw
open PySem PySem.Spec L2

section
variable {K : FgK} {F F' : Hp}
theorem AtAll.erase : ∀ {ds : List D} {xs : List V} (n : Nat), AtAll K F ds xs → AtAll K F (ds.eraseIdx n) (xs.eraseIdx n)
  | [], xs, n, h => by simp only [AtAll] at h; subst h; exact AtAll.nil
  | d :: ds, xs, 0, h => by
    simp only [AtAll] at h
    obtain ⟨y, r, rfl, a, q⟩ := h
    exact q
  | d :: ds, xs, n + 1, h => by
    simp only [AtAll] at h
    obtain ⟨y, r, rfl, a, q⟩ := h
    exact AtAll.cons a (AtAll.erase n q)
theorem AtAll.rev {ds : List D} {xs : List V} (h : AtAll K F ds xs) : AtAll K F ds.reverse xs.reverse := by
  induction ds generalizing xs with
  | nil => simp only [AtAll] at h; subst h; exact AtAll.nil
  | cons d ds ih =>
    simp only [AtAll] at h
    obtain ⟨y, r, rfl, a, q⟩ := h
    simp only [List.reverse_cons]
    exact AtAll.app (ih q) (AtAll.cons a AtAll.nil)
theorem AtAll.get' : ∀ {ds : List D} {xs : List V} {i : Nat} {x : V}, AtAll K F ds xs → xs[i]? = some x → ∃ d, ds[i]? = some d ∧ At K F d x := fun {ds xs i x} h e => by
  have hl := h.len
  have hi : i < ds.length := by
    have := (List.getElem?_eq_some_iff.mp e).1
    omega
  obtain ⟨y, e1, a⟩ := h.get (List.getElem?_eq_getElem hi)
  rw [e] at e1
  cases e1
  exact ⟨_, List.getElem?_eq_getElem hi, a⟩
end

abbrev of0 (X : L2.Cx) : Cz := ⟨X, wNo, pNo, true, .of takes_none5, fun _ => True⟩
section
variable {K : FgX} {C : Ec} {σ : L2.St} {H F H1 F1 H2 F2 : Hp} {env env1 env2 : List SV}
/-- a new object, not known -/
theorem Rel.alloc0 (R : Rel K C σ H F env) {p : Addr} {o : HO} (hp : H p = none) : Stp K C σ H F env (upd H p o) F env ∧ F p = none ∧ C.H0 p = none ∧ ¬ Own σ env p := by
  have fp : F p = none := by
    cases q : F p with
    | none => rfl
    | some u => rw [R.frz p u q] at hp; cases hp
  have h0 : C.H0 p = none := by
    cases q : C.H0 p with
    | none => rfl
    | some u =>
      by_cases hl : C.la = some p
      · obtain ⟨⟨xs, e⟩, _⟩ := R.la p hl
        rw [e] at hp; cases hp
      · rw [R.frame p u q hl] at hp; cases hp
  refine ⟨⟨⟨⟨fun b u h => ?_, R.mono, R.new, fun b u h n => ?_, fun a h => ?_, R.len, fun i sv e => ?_, R.dist⟩, R.xok⟩, Le.rfl', fun b u h _ => ?_, fun b u h => .inl h, fun i l ds h => ⟨ds, h⟩, fun b h => ?_⟩, fp, h0, fun z => ?_⟩
  · have q := R.frz b u h
    rw [upd_ne (ne_of_none q hp)]; exact q
  · have q := R.frame b u h n
    rw [upd_ne (ne_of_none q hp)]; exact q
  · obtain ⟨⟨xs, e⟩, f, g⟩ := R.la a h
    exact ⟨⟨xs, by rw [upd_ne (ne_of_none e hp)]; exact e⟩, f, g⟩
  · have q := R.slot i sv e
    cases sv with
    | un => trivial
    | raw z => exact q
    | dat d => exact q
    | obj l ds =>
      obtain ⟨r, xs, e1, e2, e3, e4, e5⟩ := q
      exact ⟨r, xs, e1, by rw [upd_ne (ne_of_none e2 hp)]; exact e2, e3, e4, e5⟩
  · rw [upd_ne (ne_of_none h hp)]; exact h
  · by_cases e : b = p
    · subst e; exact hp
    · rw [upd_ne e] at h; exact h
  · obtain ⟨i, l, ds, e, s⟩ := z
    obtain ⟨r, xs, e1, e2, _⟩ := R.slot i _ e
    rw [s] at e1
    cases e1
    rw [e2] at hp; cases hp
/-- the dict of a slot is known from here on, and locked -/
theorem Rel.freezeD (R : Rel K C σ H F env) {i : Nat} {t : Bool} {kds : List (D × D)} {p : Addr} {o : HO} (he : env[i]? = some (.dic t kds)) (hs : σ[i]? = some (some (.ref p))) (hp : H p = some o) (od : Obj) :
    Stp K C σ H F env (upd H p (.frz od o)) (upd F p (.frz od o)) (env.set i (.dat (.dict kds))) := by
  obtain ⟨p', u, e1, e2, e3, e4, e5⟩ := R.slot i _ he
  rw [hs] at e1
  cases e1
  rw [hp] at e2
  cases e2
  rw [if_neg (by decide)] at e4
  have ff : Le F (upd F p (.frz od o)) := fun b u h => by
    rw [upd_ne (ne_of_none h e3)]; exact h
  have hi : i < env.length := (List.getElem?_eq_some_iff.mp he).1
  have at1 : At K (upd F p (.frz od o)) (.dict kds) (.ref p) := by
    simp only [At]
    refine ⟨p, od, o, rfl, upd_same, ?_⟩
    have e5 := e5.mono ff
    cases t with
    | false => exact .inl e5
    | true => exact .inr e5
  have oth : ∀ (j : Nat) (l : Bool) (es : Ct), (env.set i (.dat (.dict kds)))[j]? = some (.obj l es) → j ≠ i ∧ env[j]? = some (.obj l es) := fun j l es h => by
    by_cases e : j = i
    · subst e; rw [List.getElem?_set_self hi] at h; cases h
    · rw [List.getElem?_set_ne (Ne.symm e)] at h; exact ⟨e, h⟩
  refine ⟨⟨⟨fun b u h => ?_, fun b u h => ff b u (R.mono b u h), fun b u h => ?_, fun b u h n => ?_, fun a h => ?_, by rw [List.length_set]; exact R.len, fun j sv e => ?_, fun j k l es m fs h1 h2 h3 => ?_⟩, R.xok⟩, ff, fun b u h n => ?_, fun b u h => ?_, fun j l es h => ⟨es, (oth j l es h).2⟩, fun b h => ?_⟩
  · by_cases e : b = p
    · subst e; rw [upd_same] at h ⊢; exact h
    · rw [upd_ne e] at h ⊢; exact R.frz b u h
  · by_cases e : b = p
    · subst e; exact .inr e4
    · rw [upd_ne e] at h; exact R.new b u h
  · have q := R.frame b u h n
    rw [upd_ne (fun z => by rw [z, e4] at h; cases h)]; exact q
  · obtain ⟨⟨xs, e⟩, f, g⟩ := R.la a h
    have ne : a ≠ p := by
      rintro rfl
      obtain ⟨o', g⟩ := g
      rw [g] at e4; cases e4
    exact ⟨⟨xs, by rw [upd_ne ne]; exact e⟩, by rw [upd_ne ne]; exact f, g⟩
  · by_cases e' : j = i
    · subst e'
      rw [List.getElem?_set_self hi] at e
      cases e
      exact ⟨_, hs, at1⟩
    · rw [List.getElem?_set_ne (Ne.symm e')] at e
      have q := R.slot j sv e
      cases sv with
      | un => trivial
      | raw z => exact q
      | dat d =>
        obtain ⟨v, f1, a⟩ := q
        exact ⟨v, f1, At.mono ff d v a⟩
      | obj l es =>
        obtain ⟨r, ys, f1, f2, f3, f4, f5⟩ := q
        have ne : r ≠ p := by
          rintro rfl
          exact e' (R.dist j i l es false _ e he (f1.trans hs.symm))
        exact ⟨r, ys, f1, by rw [upd_ne ne]; exact f2, by rw [upd_ne ne]; exact f3, f4, f5.mono ff⟩
  · obtain ⟨_, h1⟩ := oth j l es h1
    obtain ⟨_, h2⟩ := oth k m fs h2
    exact R.dist j k l es m fs h1 h2 h3
  · have ne : b ≠ p := by
      rintro rfl
      exact n ⟨i, false, _, he, hs⟩
    rw [upd_ne ne]; exact h
  · by_cases e : b = p
    · subst e; exact .inr (.inr ⟨i, false, _, he, hs⟩)
    · rw [upd_ne e] at h; exact .inl h
  · by_cases e : b = p
    · subst e; rw [upd_same] at h; cases h
    · rw [upd_ne e] at h; exact h
/-- the list of a slot is changed -/
theorem Rel.write (R : Rel K C σ H F env) {i : Nat} {l : Bool} {ds ds' : Ct} {p : Addr} {o' : HO} (he : env[i]? = some (.obj l ds)) (hs : σ[i]? = some (some (.ref p))) (h' : CtOk K F p o' ds') (hl' : l = true → Mut (some o')) :
    Stp K C σ H F env (upd H p o') F (env.set i (.obj l ds')) := by
  obtain ⟨p', xs, e1, e2, e3, e4, e5⟩ := R.slot i _ he
  rw [hs] at e1
  cases e1
  have hi : i < env.length := (List.getElem?_eq_some_iff.mp he).1
  have oth : ∀ (j : Nat) (m : Bool) (es : Ct), (env.set i (.obj l ds'))[j]? = some (.obj m es) → ∃ es', env[j]? = some (.obj m es') := fun j m es h => by
    by_cases e : j = i
    · subst e; rw [List.getElem?_set_self hi] at h; cases h; exact ⟨ds, he⟩
    · rw [List.getElem?_set_ne (Ne.symm e)] at h; exact ⟨es, h⟩
  refine ⟨⟨⟨fun b u h => ?_, R.mono, R.new, fun b u h n => ?_, fun a h => ?_, by rw [List.length_set]; exact R.len, fun j sv e => ?_, fun j k m es n fs h1 h2 h3 => ?_⟩, R.xok⟩, Le.rfl', fun b u h n => ?_, fun b u h => .inl h, oth, fun b h => ?_⟩
  · have ne : b ≠ p := by
      rintro rfl
      rw [e3] at h; cases h
    rw [upd_ne ne]; exact R.frz b u h
  · have ne : b ≠ p := by
      rintro rfl
      cases l with
      | true => exact n (by simpa using e4)
      | false => rw [if_neg (by decide)] at e4; rw [e4] at h; cases h
    rw [upd_ne ne]; exact R.frame b u h n
  · obtain ⟨⟨ys, e⟩, f, g⟩ := R.la a h
    refine ⟨?_, f, g⟩
    by_cases ne : a = p
    · subst ne
      cases l with
      | true =>
        exact ⟨⟨o', hl' rfl⟩, upd_same⟩
      | false =>
        obtain ⟨o, g⟩ := g
        rw [if_neg (by decide), g] at e4
        cases e4
    · exact ⟨ys, by rw [upd_ne ne]; exact e⟩
  · by_cases e' : j = i
    · subst e'
      rw [List.getElem?_set_self hi] at e
      cases e
      exact ⟨p, o', hs, upd_same, e3, e4, h'⟩
    · rw [List.getElem?_set_ne (Ne.symm e')] at e
      have q := R.slot j sv e
      cases sv with
      | un => trivial
      | raw z => exact q
      | dat d => exact q
      | obj m es =>
        obtain ⟨r, ys, f1, f2, f3, f4, f5⟩ := q
        have ne : r ≠ p := by
          rintro rfl
          exact e' (R.dist j i m es l ds e he (f1.trans hs.symm))
        exact ⟨r, ys, f1, by rw [upd_ne ne]; exact f2, f3, f4, f5⟩
  · obtain ⟨es', h1⟩ := oth j m es h1
    obtain ⟨fs', h2⟩ := oth k n fs h2
    exact R.dist j k m es' n fs' h1 h2 h3
  · have ne : b ≠ p := by
      rintro rfl
      exact n ⟨i, l, ds, he, hs⟩
    rw [upd_ne ne]; exact h
  · by_cases ne : b = p
    · subst ne; rw [upd_same] at h; cases h
    · rw [upd_ne ne] at h; exact h
theorem Rel.slotL (R : Rel K C σ H F env) {i : Nat} {l : Bool} {ds : List D} (he : env[i]? = some (.own l ds)) : ∃ p xs, σ[i]? = some (some (.ref p)) ∧ H p = some (.lst xs) ∧ F p = none ∧ (if l = true then C.la = some p else C.H0 p = none) ∧ AtAll K F ds xs := by
  obtain ⟨p, u, e1, e2, e3, e4, xs, rfl, e5⟩ := R.slot i _ he
  exact ⟨p, xs, e1, e2, e3, e4, e5⟩
theorem Rel.writeL (R : Rel K C σ H F env) {i : Nat} {l : Bool} {ds ds' : List D} {p : Addr} {xs' : List V} (he : env[i]? = some (.own l ds)) (hs : σ[i]? = some (some (.ref p))) (h' : AtAll K F ds' xs') :
    Stp K C σ H F env (upd H p (.lst xs')) F (env.set i (.own l ds')) := R.write he hs ⟨xs', rfl, h'⟩ fun _ => trivial
end
end Sw

set_option Elab.async false
set_option linter.all false
set_option maxRecDepth 100000
namespace Sw
open PySem PySem.Spec L2

def rdAll (env : List SV) (os : List OV) : Option (List D) := match os with
  | [] => some []
  | o :: r => (o.rd env).bind fun d => (rdAll env r).map fun q => d :: q
structure EV (X : Cz) (e : Expr) (T : PE') : Prop where
  ex : ∃ t, PE X e t ∧ LE X.fr t T
structure EF (X : Cz) (e : Expr) (T : PF') : Prop where
  ex : ∃ t, PE X e t ∧ LF X.fr t T
structure ET (X : Cz) (e : Expr) (T : PT') : Prop where
  ex : ∃ t, PT X e t ∧ LT X.fr t T
structure EW (X : Cz) (e : Expr) (T : PT') : Prop where
  ex : ∃ t, PW X e t ∧ LT X.fr t T
structure EA (X : Cz) (es : List Expr) (T : PA') : Prop where
  ex : ∃ t, PA X es t ∧ LA X.fr t T

section
variable {X : Cz}
def qVar (i : Nat) : PE' := fun env Q => (∃ d, env[i]?.bind svD = some d) ∧ Q (.sl i) env
theorem qv (i : Nat) {x : Str} {pos : Pos} (hN : X.N[i]? = some x := by rfl) (hv : Vis X.env.scope x := by first | exact Or.inl rfl | exact Or.inr (Or.inl rfl) | exact Or.inr (Or.inr rfl)) (hd : (x == ("__debug__" : Str)) = false := by decide)
    (hcd : (x == ("__classdict__" : Str)) = false := by decide) : EV X (.Name x pos) (qVar i) := by
  refine ⟨_, pe_var hN hv hd hcd, fun C σ H F env Q Qp R k h => ?_⟩
  obtain ⟨⟨d, e⟩, h⟩ := h
  cases q : env[i]? with
  | none => rw [q] at e; cases e
  | some sv =>
    rw [q] at e
    have w := R.slot i sv q
    cases sv with
    | un => cases e
    | raw z => cases e
    | dat d' =>
      obtain ⟨v, e1, a⟩ := w
      exact ⟨v, e1, k v H F env (.sl i) (Stp.refl R) e1 h⟩
    | obj l ds =>
      obtain ⟨p, xs, e1, _⟩ := w
      exact ⟨.ref p, e1, k (.ref p) H F env (.sl i) (Stp.refl R) e1 h⟩
def qC (x : D) : PE' := fun env Q => Q (.dv x) env
theorem LE.const {K : FgX} {v : V} {x : D} (h : ∀ F, At K F x v) : LE K (tC v) (qC x) := fun C σ H F env Q Qp R k q => k v H F env (.dv x) (Stp.refl R) (h F) q
theorem q_int {i j pos} : EV X (.Constant (.int i) j pos) (qC (.int i)) := ⟨_, pe_int, LE.const fun F => by simp [At]⟩
theorem q_bl {b j pos} : EV X (.Constant (.bool b) j pos) (qC (.bool b)) := ⟨_, pe_bl, LE.const fun F => by simp [At]⟩
theorem q_non {j pos} : EV X (.Constant .none j pos) (qC .none) := ⟨_, pe_non, LE.const fun F => by simp [At]⟩
theorem q_str {x j pos} : EV X (.Constant (.str x) j pos) (qC (.str x)) := ⟨_, pe_str, LE.const fun F => by simp [At]⟩
/-- a list that nobody holds, as any value -/
def qF (T : PF') : PE' := fun env Q => T env fun ds env' => Q (.dv (.list ds)) env'
theorem EF.ev {e : Expr} {T : PF'} (h : EF X e T) : EV X e (qF T) := by
  obtain ⟨t, hp, l⟩ := h.ex
  refine ⟨t, hp, fun C σ H F env Q Qp R k q => ?_⟩
  refine l C σ H F env Q _ R (fun p xs ds H' F' env' st hp fp h0 no hn a q => ?_) q
  have ff : Le F' (upd F' p (.lst xs)) := fun b u h => by
    rw [upd_ne (ne_of_none h fp)]; exact h
  refine k (.ref p) H' (upd F' p (.lst xs)) env' (.dv (.list ds)) ⟨st.rel.freeze hp fp h0 no, st.ff.trans' ff, st.fr, fun b o h => ?_, st.ow, st.dm⟩ ?_ q
  · by_cases e : b = p
    · subst e; exact .inr (.inl hn)
    · rw [upd_ne e] at h; exact st.fn b o h
  · show At X.fr _ _ _
    simp only [At]
    exact ⟨p, xs, rfl, upd_same, AtAll.mono ff _ _ a⟩
def qNil : PA' := fun env Q => Q [] env
def qCons (T : PE') (R : PA') : PA' := fun env Q => T env fun o env1 => R env1 fun os env2 => Q (o :: os) env2
theorem qa_nil : EA X [] qNil := ⟨_, pa_nil, fun C σ H F env Q Qp R k q => k [] H F env [] (Stp.refl R) rfl q⟩
theorem qa_cons {e : Expr} {es : List Expr} {T : PE'} {R : PA'} (ha : EV X e T) (hr : EA X es R) (hs : starEach (e :: es) X.env = (false, eval e X.env) :: starEach es X.env := by rfl) : EA X (e :: es) (qCons T R) := by
  obtain ⟨t, h1, l1⟩ := ha.ex
  obtain ⟨u, h2, l2⟩ := hr.ex
  refine ⟨_, pa_cons h1 h2 hs, fun C σ H F env Q Qp R k q => ?_⟩
  refine l1 C σ H F env _ _ R (fun v H1 F1 env1 ov s1 a1 q1 => ?_) q
  refine l2 C σ H1 F1 env1 _ _ s1.rel (fun vs H2 F2 env2 ovs s2 a2 q2 => ?_) q1
  exact k (v :: vs) H2 F2 env2 (ov :: ovs) (s1.trans s2) ⟨v, vs, rfl, a1.mono s2.ff, a2⟩ q2
def qTup (T : PA') : PE' := fun env Q => T env fun os env1 => ∃ ds env2, fzAll env1 os = some (ds, env2) ∧ ds.length ≤ sizeLine ∧ Q (.dv (.tuple ds)) env2
theorem q_tup {es : List Expr} {x1} {pos : Pos} {T : PA'} (h : EA X es T) : EV X (.Tuple es x1 pos) (qTup T) := by
  obtain ⟨t, h1, l1⟩ := h.ex
  refine ⟨_, pe_tup h1, fun C σ H F env Q Qp R k q => ?_⟩
  refine l1 C σ H F env _ _ R (fun vs H1 F1 env1 os s1 a1 q1 => ?_) q
  obtain ⟨ds, env2, e, hz, q2⟩ := q1
  obtain ⟨F2, s2, a2⟩ := fzAll_ok s1.rel a1 e
  refine ⟨by rw [a2.len]; exact hz, fun p hp => ?_⟩
  have s3 := s2.rel.alloc (o := .tup vs) hp
  exact k (.ref p) _ _ env2 (.dv (.tuple ds)) ((s1.trans s2).trans s3) (At.tup_of upd_same (AtAll.mono s3.ff _ _ a2)) q2
def fLst (T : PA') : PF' := fun env Q => T env fun os env1 => ∃ ds env2, fzAll env1 os = some (ds, env2) ∧ ds.length ≤ sizeLine ∧ Q ds env2
theorem f_lst {es : List Expr} {pos : Pos} {T : PA'} (h : EA X es T) : EF X (.List es pos) (fLst T) := by
  obtain ⟨t, h1, l1⟩ := h.ex
  refine ⟨_, pe_lst h1, fun C σ H F env Q Qp R k q => ?_⟩
  refine l1 C σ H F env _ _ R (fun vs H1 F1 env1 os s1 a1 q1 => ?_) q
  obtain ⟨ds, env2, e, hz, q2⟩ := q1
  obtain ⟨F2, s2, a2⟩ := fzAll_ok s1.rel a1 e
  refine ⟨by rw [a2.len]; exact hz, fun p hp => ?_⟩
  obtain ⟨s3, f3, h3, n3⟩ := s2.rel.alloc0 (o := .lst vs) hp
  exact k p vs ds _ F2 env2 ((s1.trans s2).trans s3) upd_same f3 h3 n3 (s1.dm p (s2.dm p hp)) a2 q2
end
end Sw

set_option Elab.async false
set_option linter.all false
set_option maxRecDepth 100000
namespace Sw
open PySem PySem.Spec L2

section
variable {X : Cz} {K : FgX}
theorem q_op {op : Operator} {r : R2} {g : D → D → Option D} {a b : Expr} {A B : PE'} {pos : Pos} (ho : OpR X (binaryOp op) r) (hl : LO2 X.fr r g) (ha : EV X a A) (hb : EV X b B) : EV X (.BinOp a op b pos) (qOp g A B) := by
  obtain ⟨ta, h1, l1⟩ := ha.ex
  obtain ⟨tb, h2, l2⟩ := hb.ex
  exact ⟨_, pe_op ho h1 h2, LE.op hl l1 l2⟩
theorem q_cmp {op : CmpOp} {r : R2} {g : D → D → Option D} {a b : Expr} {A B : PE'} {pos : Pos} (ho : OpR X (compareOp op) r) (hl : LO2 X.fr r g) (ha : EV X a A) (hb : EV X b B) (hm : behindInMarks op b = false) : EV X (.Compare a [op] [b] pos) (qOp g A B) := by
  obtain ⟨ta, h1, l1⟩ := ha.ex
  obtain ⟨tb, h2, l2⟩ := hb.ex
  exact ⟨_, pe_cmpR ho h1 h2 hm, LE.op hl l1 l2⟩
theorem t_cmp {op : CmpOp} {r : R2} {g : D → D → Option D} {a b : Expr} {A B : PE'} {pos : Pos} (ho : OpR X (compareOp op) r) (hl : LO2 X.fr r g) (ha : EV X a A) (hb : EV X b B) (hm : behindInMarks op b = false) : ET X (.Compare a [op] [b] pos) (qTest (qOp g A B)) := by
  obtain ⟨ta, h1, l1⟩ := ha.ex
  obtain ⟨tb, h2, l2⟩ := hb.ex
  exact ⟨_, pt_cmpR ho h1 h2 hm, LT.test (LE.op hl l1 l2)⟩
theorem t_val {e : Expr} {A : PE'} (h : EV X e A) (he : ∀ whole, isTrue e X.env whole = (do let v ← whole; standAt e.pos; holding [v] (truthy v)) := by intro _; rfl) : ET X e (qTest A) := by
  obtain ⟨t, h1, l1⟩ := h.ex
  exact ⟨_, pt_val h1 he, LT.test l1⟩
def tAnd' (A B : PT') : PT' := fun env Q => A env fun c env1 => if c = true then B env1 Q else Q false env1
def tOr' (A B : PT') : PT' := fun env Q => A env fun c env1 => if c = true then Q true env1 else B env1 Q
def tNot' (A : PT') : PT' := fun env Q => A env fun c env1 => Q (!c) env1
theorem EW.et {e : Expr} {T : PT'} (h : EW X e T) : ET X e T := by
  obtain ⟨t, h1, l1⟩ := h.ex
  exact ⟨t, h1.pt, l1⟩
theorem w_and1 {a : Expr} {pos : Pos} {A : PT'} (h : ET X a A) : EW X (.BoolOp .And [a] pos) A := by
  obtain ⟨t, h1, l1⟩ := h.ex
  exact ⟨t, pw_and1 h1, l1⟩
theorem w_or1 {a : Expr} {pos : Pos} {A : PT'} (h : ET X a A) : EW X (.BoolOp .Or [a] pos) A := by
  obtain ⟨t, h1, l1⟩ := h.ex
  exact ⟨t, pw_or1 h1, l1⟩
theorem w_and {a b : Expr} {rest : List Expr} {pos : Pos} {A B : PT'} (h : ET X a A) (g : EW X (.BoolOp .And (b :: rest) pos) B) : EW X (.BoolOp .And (a :: b :: rest) pos) (tAnd' A B) := by
  obtain ⟨t, h1, l1⟩ := h.ex
  obtain ⟨u, h2, l2⟩ := g.ex
  refine ⟨_, pw_and h1 h2, fun C σ H F env Q Qp R k q => ?_⟩
  refine l1 C σ H F env _ _ R (fun c H1 F1 env1 s1 q1 => ?_) q
  cases c with
  | true =>
    rw [if_pos rfl] at q1 ⊢
    exact l2 C σ H1 F1 env1 _ _ s1.rel (fun b H2 F2 env2 s2 q2 => k b H2 F2 env2 (s1.trans s2) q2) q1
  | false =>
    rw [if_neg (by decide)] at q1 ⊢
    exact k false H1 F1 env1 s1 q1
theorem w_or {a b : Expr} {rest : List Expr} {pos : Pos} {A B : PT'} (h : ET X a A) (g : EW X (.BoolOp .Or (b :: rest) pos) B) : EW X (.BoolOp .Or (a :: b :: rest) pos) (tOr' A B) := by
  obtain ⟨t, h1, l1⟩ := h.ex
  obtain ⟨u, h2, l2⟩ := g.ex
  refine ⟨_, pw_or h1 h2, fun C σ H F env Q Qp R k q => ?_⟩
  refine l1 C σ H F env _ _ R (fun c H1 F1 env1 s1 q1 => ?_) q
  cases c with
  | true =>
    rw [if_pos rfl] at q1 ⊢
    exact k true H1 F1 env1 s1 q1
  | false =>
    rw [if_neg (by decide)] at q1 ⊢
    exact l2 C σ H1 F1 env1 _ _ s1.rel (fun b H2 F2 env2 s2 q2 => k b H2 F2 env2 (s1.trans s2) q2) q1
theorem t_not {a : Expr} {pos : Pos} {A : PT'} (h : ET X a A) : ET X (.UnaryOp .Not a pos) (tNot' A) := by
  obtain ⟨t, h1, l1⟩ := h.ex
  exact ⟨_, pt_not h1, fun C σ H F env Q Qp R k q => l1 C σ H F env _ _ R (fun c H1 F1 env1 s1 q1 => k (!c) H1 F1 env1 s1 q1) q⟩
def qAnd (A B : PE') : PE' := fun env Q => qTest A env fun c env1 => if c = true then B env1 Q else Q (.dv (.bool false)) env1
def qOr (A B : PE') : PE' := fun env Q => qTest A env fun c env1 => if c = true then Q (.dv (.bool true)) env1 else B env1 Q
def qNot (A : PE') : PE' := fun env Q => qTest A env fun c env1 => Q (.dv (.bool (!c))) env1
theorem q_one {op} {a : Expr} {pos : Pos} {A : PE'} (h : EV X a A) : EV X (.BoolOp op [a] pos) A := by
  obtain ⟨t, h1, l1⟩ := h.ex
  exact ⟨t, pe_one h1, l1⟩
theorem q_and {a b : Expr} {rest : List Expr} {pos : Pos} {A B : PE'} (h : EV X a A) (g : EV X (.BoolOp .And (b :: rest) pos) B) : EV X (.BoolOp .And (a :: b :: rest) pos) (qAnd A B) := by
  obtain ⟨t, h1, l1⟩ := h.ex
  obtain ⟨u, h2, l2⟩ := g.ex
  refine ⟨_, pe_and h1 h2, fun C σ H F env Q Qp R k q => ?_⟩
  refine (LT.test l1) C σ H F env (fun c H1 => if c = true then u σ H1 Q else Q (.bl false) H1) _ R (fun c H1 F1 env1 s1 q1 => ?_) q
  cases c with
  | true =>
    rw [if_pos rfl] at q1 ⊢
    exact l2 C σ H1 F1 env1 _ _ s1.rel (fun v H2 F2 env2 o s2 a2 q2 => k v H2 F2 env2 o (s1.trans s2) a2 q2) q1
  | false =>
    rw [if_neg (by decide)] at q1 ⊢
    exact k (.bl false) H1 F1 env1 (.dv (.bool false)) s1 (by simp [OvOk, At]) q1
theorem q_or {a b : Expr} {rest : List Expr} {pos : Pos} {A B : PE'} (h : EV X a A) (g : EV X (.BoolOp .Or (b :: rest) pos) B) : EV X (.BoolOp .Or (a :: b :: rest) pos) (qOr A B) := by
  obtain ⟨t, h1, l1⟩ := h.ex
  obtain ⟨u, h2, l2⟩ := g.ex
  refine ⟨_, pe_or h1 h2, fun C σ H F env Q Qp R k q => ?_⟩
  refine (LT.test l1) C σ H F env (fun c H1 => if c = true then Q (.bl true) H1 else u σ H1 Q) _ R (fun c H1 F1 env1 s1 q1 => ?_) q
  cases c with
  | true =>
    rw [if_pos rfl] at q1 ⊢
    exact k (.bl true) H1 F1 env1 (.dv (.bool true)) s1 (by simp [OvOk, At]) q1
  | false =>
    rw [if_neg (by decide)] at q1 ⊢
    exact l2 C σ H1 F1 env1 _ _ s1.rel (fun v H2 F2 env2 o s2 a2 q2 => k v H2 F2 env2 o (s1.trans s2) a2 q2) q1
/-- of two ints -/
def gI (g : Int → Int → Option D) : D → D → Option D
  | .int i, .int j => g i j
  | _, _ => none
theorem LO2.ints {r : R2} {g : Int → Int → Option D} (h : ∀ (i j : Int) (d : D) (H : Hp) (Q : VK), g i j = some d → (∀ v, (∀ F, At K F d v) → Q v H) → r (.int i) (.int j) H Q) : LO2 K r (gI g) := fun C σ H F env x y dx dy d Q R a b e k => by
  cases dx with
  | int i =>
    cases dy with
    | int j =>
      rw [a.int, b.int]
      exact h i j d H Q e fun v hv => k v H F (Stp.refl R) (hv F)
    | _ => cases e
  | _ => cases e
def dSub : Int → Int → Option D := fun i j => some (.int (i - j))
theorem l_sub : LO2 K (rI0 fun i j => .int (i - j)) (gI dSub) := LO2.ints fun i j d H Q e k => by cases e; exact ⟨i, j, rfl, rfl, k _ fun F => by simp [At]⟩
def gDiv : Int → Int → Option D := fun i j => if 0 < j ∧ j < 1073741824 then some (.int (i / j)) else none
theorem l_div : LO2 K (rI CDiv fun i j => .int (i / j)) (gI gDiv) := LO2.ints fun i j d H Q e k => by
  unfold gDiv at e
  split at e
  · cases e; exact ⟨i, j, rfl, rfl, ‹_›, k _ fun F => by simp [At]⟩
  · cases e
def gMod : Int → Int → Option D := fun i j => if 0 < j then some (.int (i % j)) else none
theorem l_mod : LO2 K (rI (fun _ j => 0 < j) fun i j => .int (i % j)) (gI gMod) := LO2.ints fun i j d H Q e k => by
  unfold gMod at e
  split at e
  · cases e; exact ⟨i, j, rfl, rfl, ‹_›, k _ fun F => by simp [At]⟩
  · cases e
def gPow : Int → Int → Option D := fun i j => if 0 ≤ j ∧ j ≤ 1000000 ∧ i.natAbs < 2 ^ 64 then some (.int (i ^ j.toNat)) else none
theorem l_pow : LO2 K (rI CPow fun i j => .int (i ^ j.toNat)) (gI gPow) := LO2.ints fun i j d H Q e k => by
  unfold gPow at e
  split at e
  · cases e; exact ⟨i, j, rfl, rfl, ‹_›, k _ fun F => by simp [At]⟩
  · cases e
def gCmp (p : Int → Int → Bool) : Int → Int → Option D := fun i j => some (.bool (p i j))
theorem l_cmp {p : Int → Int → Bool} : LO2 K (rI0 fun i j => .bl (p i j)) (gI (gCmp p)) := LO2.ints fun i j d H Q e k => by cases e; exact ⟨i, j, rfl, rfl, k _ fun F => by simp [At]⟩
/-- a + b -/
def gAdd : D → D → Option D
  | .int a, .int b => some (.int (a + b))
  | .str a, .str b => if a.length + b.length ≤ sizeLine then some (.str (a ++ b)) else none
  | .list a, .list b => if a.length + b.length ≤ sizeLine then some (.list (a ++ b)) else none
  | .tuple a, .tuple b => if a.length + b.length ≤ sizeLine then some (.tuple (a ++ b)) else none
  | _, _ => none
abbrev rAddA (K : FgK) : R2 := fun x y H Q => rI0 (fun i j => .int (i + j)) x y H Q ∨ (fun x y H Q => (∃ i j, x = .str i ∧ y = .str j ∧ i.length + j.length ≤ sizeLine ∧ Q (.str (i ++ j)) H) ∨ (fun x y H Q => rCat x y H Q ∨ rCatA K x y H Q) x y H Q) x y H Q
theorem op_addA : OpR X (binaryOp .Add) (rAddA X.fr) := op_add.or (op_add_str.or (op_cat.or op_catA))
theorem l_add : LO2 K (rAddA K) gAdd := fun C σ H F env x y dx dy d Q R a b e k => by
  unfold gAdd at e
  split at e
  · cases e
    rw [a.int, b.int]
    exact .inl ⟨_, _, rfl, rfl, k _ H F (Stp.refl R) (by simp [At])⟩
  · split at e
    · cases e
      rw [a.str, b.str]
      exact .inr (.inl ⟨_, _, rfl, rfl, ‹_›, k _ H F (Stp.refl R) (by simp [At])⟩)
    · cases e
  · split at e
    · cases e
      obtain ⟨p, xs, rfl, e1, a1⟩ := a
      obtain ⟨q, ys, rfl, e2, a2⟩ := b
      refine .inr (.inr (.inl ⟨p, q, xs, ys, rfl, rfl, e1, e2, by rw [a1.len, a2.len]; assumption, fun r hr => ?_⟩))
      have s := R.alloc (o := .lst (xs ++ ys)) hr
      exact k _ _ _ s (At.list_of upd_same (AtAll.mono s.ff _ _ (AtAll.app a1 a2)))
    · cases e
  · split at e
    · cases e
      rename_i as bs hz
      obtain ⟨p, xs, rfl, e1, a1⟩ := a.tup R.frz
      obtain ⟨q, ys, rfl, e2, a2⟩ := b.tup R.frz
      refine .inr (.inr (.inr ⟨p, q, xs, ys, rfl, rfl, e1, e2, by rw [a1.len, a2.len]; assumption, fun h => ?_, fun h1 h2 => ?_, fun h1 h2 r hr => ?_⟩))
      · have : as = [] := List.eq_nil_of_length_eq_zero (by rw [← a1.len, h]; rfl)
        subst this
        refine k _ _ _ (Stp.refl R) ?_
        exact b
      · have : bs = [] := List.eq_nil_of_length_eq_zero (by rw [← a2.len, h2]; rfl)
        subst this
        rw [List.append_nil] at k
        refine k _ _ _ (Stp.refl R) ?_
        exact a
      · have s := R.alloc (o := .tup (xs ++ ys)) hr
        exact k _ _ _ s (At.tup_of upd_same (AtAll.mono s.ff _ _ (AtAll.app a1 a2)))
    · cases e
  · cases e
/-- a * b -/
def gMul : D → D → Option D
  | .int a, .int b => if (-(2 ^ 64) < a ∧ a < 2 ^ 64) ∨ (-(2 ^ 64) < b ∧ b < 2 ^ 64) then some (.int (a * b)) else none
  | .str a, .int n => if n ≤ 1000 ∧ -1000 ≤ n ∧ a.length ≤ 1000 then some (.str (Txt.mul a n)) else none
  | _, _ => none
theorem op_mul_str : OpR X (binaryOp .Mult) (fun x y H Q => ∃ a n, x = .str a ∧ y = .int n ∧ n ≤ 1000 ∧ -1000 ≤ n ∧ a.length ≤ 1000 ∧ Q (.str (Txt.mul a n)) H) := by
  intro pins s σ H x y v u Q I rx ry h
  obtain ⟨a, n, rfl, rfl, h1, h2, h3, q⟩ := h
  obtain ⟨t, rfl⟩ := rx
  obtain ⟨t', rfl⟩ := ry
  refine SB.mul ⟨?_, fun hn _ => ?_, fun hn _ => ?_⟩ fun t' k => ⟨.str _, H, I.tok _, ⟨_, rfl⟩, q⟩
  · rw [Bool.or_eq_false_iff]
    exact ⟨decide_eq_false (by omega), decide_eq_false (by omega)⟩
  · intro hh
    have hd : (1000 : Int) ≤ (2 ^ 63 - 1) / n := Int.le_ediv_of_mul_le (by omega) (by omega)
    omega
  · have hm : a.length * n.toNat ≤ 1000 * 1000 := Nat.mul_le_mul h3 (by omega)
    unfold Builtin.Str.tooLong
    simp only [decide_eq_false_iff_not]
    rw [sizeLine_eq]
    omega
end
end Sw

set_option Elab.async false
set_option linter.all false
set_option maxRecDepth 100000
namespace Sw
open PySem PySem.Spec L2

mutual
theorem At.dp {K : FgK} {H : Hp} : ∀ (d : D) (v : V), d.plain = true → At K H d v → Dp K H v d
  | .none, v, _, a => by simp only [At] at a; subst a; exact .non
  | .bool b, v, _, a => by simp only [At] at a; subst a; exact .bl b
  | .int i, v, _, a => by simp only [At] at a; subst a; exact .int i
  | .str x, v, _, a => by simp only [At] at a; subst a; exact .str x
  | .list ds, v, h, a => by
    simp only [At] at a
    obtain ⟨p, xs, rfl, e, r⟩ := a
    simp only [PyData.plain] at h
    exact .lst (SqL.of e) (AtAll.dp ds xs h r)
  | .tuple ds, v, h, a => by
    simp only [At] at a
    obtain ⟨p, xs, rfl, e, r⟩ := a
    simp only [PyData.plain] at h
    exact .tup e.sqT (AtAll.dp ds xs h r)
  | .dict _, _, h, _ => nomatch h
theorem AtAll.dp {K : FgK} {H : Hp} : ∀ (ds : List D) (xs : List V), PyData.plainAll ds = true → AtAll K H ds xs → DpAll K H xs ds
  | [], xs, _, a => by simp only [AtAll] at a; subst a; exact .nil
  | d :: ds, xs, h, a => by
    simp only [AtAll] at a
    obtain ⟨x, r, rfl, a, q⟩ := a
    have h' : d.plain = true ∧ PyData.plainAll ds = true := by simpa [PyData.plainAll] using h
    exact .cons (At.dp d x h'.1 a) (AtAll.dp ds r h'.2 q)
end
theorem Vw.dp {K : FgK} {H F : Hp} (R : Le F H) {d : D} {v : V} (h : d.plain = true) (a : Vw K H F d v) : Dp K H v d := by
  cases d with
  | list ds =>
    obtain ⟨p, xs, rfl, e, r⟩ := a
    simp only [PyData.plain] at h
    exact .lst (SqL.of e) (AtAll.dp ds xs h (AtAll.mono R _ _ r))
  | none => exact At.dp _ _ h (At.mono R _ _ a)
  | bool b => exact At.dp _ _ h (At.mono R _ _ a)
  | int i => exact At.dp _ _ h (At.mono R _ _ a)
  | str x => exact At.dp _ _ h (At.mono R _ _ a)
  | tuple ds => exact At.dp _ _ h (At.mono R _ _ a)
  | dict kds => exact nomatch h
/-- plain, and not too deep -/
def okD (d : D) : Bool := d.plain && decide (d.depth ≤ 40)
theorem okD_plain {d : D} (h : okD d = true) : d.plain = true := (Bool.and_eq_true_iff.mp h).1
theorem okD_depth {d : D} (h : okD d = true) : d.depth ≤ 40 := of_decide_eq_true (Bool.and_eq_true_iff.mp h).2
section
variable {X : Cz} {K : FgX}
def rEqP (K : FgK) (neg : Bool) : R2 := fun x y H Q => ∃ d e, Dp K H x d ∧ Dp K H y e ∧ okD d = true ∧ okD e = true ∧ Q (.bl (if neg then !PyData.eqv d e else PyData.eqv d e)) H
theorem op_eqP (hu : X.A.units + 64 < cLine) : OpR X (compareOp .Eq) (rEqP X.fr false) := by
  intro pins s σ H x y v u Q I rx ry h
  obtain ⟨d, e, hd, he, h1, h2, q⟩ := h
  obtain ⟨as, r1⟩ := Dp.reads I d x v hd rx
  obtain ⟨bs, r2⟩ := Dp.reads I e y u he ry
  have := okD_depth h1
  have := Nat.min_le_left d.depth e.depth
  exact SeqAt.eq_plain r1 r2 (okD_plain h1) (okD_plain h2) (by omega) ⟨.bl _, H, I, rfl, q⟩
theorem op_neP (hu : X.A.units + 64 < cLine) : OpR X (compareOp .NotEq) (rEqP X.fr true) := by
  intro pins s σ H x y v u Q I rx ry h
  obtain ⟨d, e, hd, he, h1, h2, q⟩ := h
  obtain ⟨as, r1⟩ := Dp.reads I d x v hd rx
  obtain ⟨bs, r2⟩ := Dp.reads I e y u he ry
  have := okD_depth h1
  have := Nat.min_le_left d.depth e.depth
  exact SeqAt.ne_plain r1 r2 (okD_plain h1) (okD_plain h2) (by omega) ⟨.bl _, H, I, rfl, q⟩
def gEq (neg : Bool) : D → D → Option D := fun a b => if okD a = true ∧ okD b = true then some (.bool (if neg then !PyData.eqv a b else PyData.eqv a b)) else none
theorem l_eq {neg : Bool} : LO2 K (rEqP K neg) (gEq neg) := fun C σ H F env x y dx dy d Q R a b e k => by
  unfold gEq at e
  split at e
  · rename_i h
    cases e
    exact ⟨dx, dy, a.dp R.frz (okD_plain h.1), b.dp R.frz (okD_plain h.2), h.1, h.2, k _ H F (Stp.refl R) (by simp [At])⟩
  · cases e
/-- x in xs (a list, a tuple) -/
def rInP (K : FgK) (neg : Bool) : R2 := fun x y H Q => ∃ d ds, Dp K H x d ∧ (Dp K H y (.list ds) ∨ Dp K H y (.tuple ds)) ∧ okD d = true ∧ okD (.list ds) = true ∧ Q (.bl (if neg then !(ds.any fun z => PyData.eqv z d) else ds.any fun z => PyData.eqv z d)) H
theorem op_inP (hu : X.A.units + 64 < cLine) : OpR X (compareOp .In) (rInP X.fr false) := by
  intro pins s σ H x y v u Q I rx ry h
  obtain ⟨d, ds, hd, he, h1, h2, q⟩ := h
  obtain ⟨as, r1⟩ := Dp.reads I d x v hd rx
  have := okD_depth h1
  have := Nat.min_le_right (PyData.depthAll ds) d.depth
  have hp : PyData.plainAll ds = true := okD_plain h2
  rcases he with he | he
  · obtain ⟨bs, r2⟩ := Dp.reads I _ y u he ry
    exact SeqAt.in_list_data r2 r1 hp (okD_plain h1) (by omega) ⟨.bl _, H, I, rfl, q⟩
  · obtain ⟨bs, r2⟩ := Dp.reads I _ y u he ry
    exact SeqAt.in_tuple_data r2 r1 hp (okD_plain h1) (by omega) ⟨.bl _, H, I, rfl, q⟩
def inB (neg : Bool) (x : D) (ds : List D) : D := .bool (if neg then !(ds.any fun z => PyData.eqv z x) else ds.any fun z => PyData.eqv z x)
def gIn (neg : Bool) : D → D → Option D
  | x, .list ds => if okD x = true ∧ okD (.list ds) = true then some (inB neg x ds) else none
  | x, .tuple ds => if okD x = true ∧ okD (.list ds) = true then some (inB neg x ds) else none
  | .str c, .str z => if c.length = 1 then some (.bool (if neg then !decide (c.cps.getD 0 0 ∈ z.cps.toList) else decide (c.cps.getD 0 0 ∈ z.cps.toList))) else none
  | _, _ => none
theorem one_sign {c : Str} (h : c.length = 1) : c = ⟨#[c.cps.getD 0 0]⟩ := by
  obtain ⟨a⟩ := c
  have h : a.size = 1 := h
  have : a = #[a.getD 0 0] := by
    apply Array.ext
    · simp [h]
    · intro i h1 h2
      have : i = 0 := by omega
      subst this
      simp [Array.getD, h]
  exact congrArg Str.mk this
abbrev rInA (K : FgK) : R2 := fun x y H Q => rInP K false x y H Q ∨ (fun x y H Q => ∃ (c : Nat) (z : Str), x = .str ⟨#[c]⟩ ∧ y = .str z ∧ Q (.bl (decide (c ∈ z.cps.toList))) H) x y H Q
theorem op_inA (hu : X.A.units + 64 < cLine) : OpR X (compareOp .In) (rInA X.fr) := (op_inP hu).or op_in_sign
theorem Vw.inD {H F : Hp} (R : Le F H) {ds : List D} {y : V} (h : okD (.list ds) = true) (b : Vw K H F (.list ds) y ∨ Vw K H F (.tuple ds) y) : Dp K H y (.list ds) ∨ Dp K H y (.tuple ds) := by
  rcases b with b | b
  · exact .inl (b.dp R (okD_plain h))
  · exact .inr (b.dp R (show (PyData.tuple ds).plain = true from okD_plain h))
theorem l_in : LO2 K (rInA K) (gIn false) := fun C σ H F env x y dx dy d Q R a b e k => by
  unfold gIn at e
  split at e
  · rename_i dx' ds
    split at e
    · rename_i h
      cases e
      exact .inl ⟨_, ds, a.dp R.frz (okD_plain h.1), Vw.inD R.frz h.2 (.inl b), h.1, h.2, k _ H F (Stp.refl R) (by simp [At, inB])⟩
    · cases e
  · rename_i dx' ds
    split at e
    · rename_i h
      cases e
      exact .inl ⟨_, ds, a.dp R.frz (okD_plain h.1), Vw.inD R.frz h.2 (.inr b), h.1, h.2, k _ H F (Stp.refl R) (by simp [At, inB])⟩
    · cases e
  · rename_i c z
    split at e
    · rename_i h
      cases e
      rw [a.str, b.str]
      exact .inr ⟨c.cps.getD 0 0, z, congrArg V.str (one_sign h), rfl, k _ H F (Stp.refl R) (by simp [At])⟩
    · cases e
  · cases e
def gIsN (neg : Bool) : D → D → Option D
  | .none, .none => some (.bool !neg)
  | _, .none => some (.bool neg)
  | _, _ => none
theorem Vw.isN {H F : Hp} {d : D} {x : V} (a : Vw K H F d x) (h : d ≠ .none) : decide (x = V.non) = false := by
  refine decide_eq_false fun e => ?_
  subst e
  cases d with
  | none => exact h rfl
  | bool b => simp [Vw, At] at a
  | int b => simp [Vw, At] at a
  | str b => simp [Vw, At] at a
  | list b => obtain ⟨_, _, e, _⟩ := a; cases e
  | tuple b => simp [Vw, At] at a
  | dict b => simp [Vw, At] at a
theorem l_isN : LO2 K (fun x y H Q => y = V.non ∧ Q (.bl (decide (x = .non))) H) (gIsN false) := fun C σ H F env x y dx dy d Q R a b e k => by
  unfold gIsN at e
  split at e
  · cases e
    rw [a.non]
    exact ⟨b.non, k _ H F (Stp.refl R) (by simp [At])⟩
  · rename_i hn
    cases e
    rw [a.isN (fun z => hn z)]
    exact ⟨b.non, k _ H F (Stp.refl R) (by simp [At])⟩
  · cases e
theorem l_notN : LO2 K (fun x y H Q => y = V.non ∧ Q (.bl (!decide (x = .non))) H) (gIsN true) := fun C σ H F env x y dx dy d Q R a b e k => by
  unfold gIsN at e
  split at e
  · cases e
    rw [a.non]
    exact ⟨b.non, k _ H F (Stp.refl R) (by simp [At])⟩
  · rename_i hn
    cases e
    rw [a.isN (fun z => hn z)]
    exact ⟨b.non, k _ H F (Stp.refl R) (by simp [At])⟩
  · cases e
def gLt : D → D → Option D
  | .int a, .int b => some (.bool (decide (a < b)))
  | .str a, .str b => some (.bool (ltS a b))
  | _, _ => none
abbrev rLtA : R2 := fun x y H Q => rI0 (fun i j => .bl (decide (i < j))) x y H Q ∨ (fun x y H Q => ∃ i j, x = .str i ∧ y = .str j ∧ Q (.bl (decide (i.cps.toList < j.cps.toList))) H) x y H Q
theorem op_ltA : OpR X (compareOp .Lt) rLtA := op_lt.or op_lt_str
theorem l_lt : LO2 K rLtA gLt := fun C σ H F env x y dx dy d Q R a b e k => by
  unfold gLt at e
  split at e
  · cases e
    rw [a.int, b.int]
    exact .inl ⟨_, _, rfl, rfl, k _ H F (Stp.refl R) (by simp [At])⟩
  · cases e
    rw [a.str, b.str]
    exact .inr ⟨_, _, rfl, rfl, k _ H F (Stp.refl R) (by simp [At, ltS])⟩
  · cases e
def gIx : D → D → Option D
  | .list ds, .int i => atI ds i
  | .tuple ds, .int i => atI ds i
  | .str z, .int i => if z.length ≤ sizeLine then (atI z.cps.toList i).map fun c => .str ⟨#[c]⟩ else none
  | _, _ => none
theorem atI_all {F : Hp} {ds : List D} {xs : List V} {i : Int} {d : D} (h : AtAll K F ds xs) (e : atI ds i = some d) : ∃ x, atI xs i = some x ∧ At K F d x := by
  unfold atI at e ⊢
  rw [h.len]
  cases q : ixN ds.length i with
  | none => rw [q] at e; cases e
  | some j =>
    rw [q] at e
    exact h.get e
theorem l_ix : LO2 K (rIx K) gIx := fun C σ H F env x y dx dy d Q R a b e k => by
  unfold gIx at e
  split at e
  · obtain ⟨p, xs, rfl, e1, a1⟩ := a
    obtain ⟨v, e2, a2⟩ := atI_all a1 e
    rw [b.int]
    exact .inl ⟨p, xs, _, v, rfl, rfl, SqL.of e1, e2, k _ H F (Stp.refl R) a2⟩
  · obtain ⟨p, xs, rfl, e1, a1⟩ := a.tup R.frz
    obtain ⟨v, e2, a2⟩ := atI_all a1 e
    rw [b.int]
    exact .inr (.inl ⟨p, xs, _, v, rfl, rfl, e1, e2, k _ H F (Stp.refl R) a2⟩)
  · split at e
    · rename_i z i hz
      cases q : atI z.cps.toList i with
      | none => rw [q] at e; cases e
      | some c =>
        rw [q] at e
        cases e
        rw [a.str, b.int]
        exact .inr (.inr ⟨z, i, c, rfl, rfl, hz, q, k _ H F (Stp.refl R) (by simp [At])⟩)
    · cases e
  · cases e
theorem q_ix {a b : Expr} {A B : PE'} {pos : Pos} (ha : EV X a A) (hb : EV X b B) (hs : PlainIx b := by intro _ _; rfl) : EV X (.Subscript a b pos) (qOp gIx A B) := by
  obtain ⟨ta, h1, l1⟩ := ha.ex
  obtain ⟨tb, h2, l2⟩ := hb.ex
  exact ⟨_, pe_ix ix_seq h1 h2 hs, LE.op l_ix l1 l2⟩
end
end Sw

set_option Elab.async false
set_option linter.all false
set_option maxRecDepth 100000
namespace Sw
open PySem PySem.Spec L2

def cutD {α : Type} (xs : List α) (lo hi : Option Int) : List α := (xs.drop (HT.sIx xs.length 0 lo)).take (HT.sIx xs.length xs.length hi - HT.sIx xs.length 0 lo)
abbrev PO' := List SV → (Option Int → List SV → Prop) → Prop
def LO (K : FgX) (t : TO) (T : PO') : Prop := ∀ (C : Ec) (σ : L2.St) (H F : Hp) (env : List SV) (Q : Option Int → Hp → Prop) (Qp : Option Int → List SV → Prop), Rel K C σ H F env →
  (∀ o H' F' env', Stp K C σ H F env H' F' env' → Qp o env' → Q o H') → T env Qp → t σ H Q
structure EO (X : Cz) (e : Option Expr) (T : PO') : Prop where
  ex : ∃ t, PO X e t ∧ LO X.fr t T
section
variable {X : Cz} {K : FgX}
def qPn : PO' := fun env Q => Q none env
def qPs (A : PE') : PO' := fun env Q => A env fun o env1 => ∃ i, o.rd env1 = some (.int i) ∧ Q (some i) env1
theorem o_none : EO X none qPn := ⟨_, po_none, fun C σ H F env Q Qp R k q => k none H F env (Stp.refl R) q⟩
theorem o_some {e : Expr} {A : PE'} (h : EV X e A) : EO X (some e) (qPs A) := by
  obtain ⟨t, h1, l1⟩ := h.ex
  refine ⟨_, po_some h1, fun C σ H F env Q Qp R k q => ?_⟩
  refine l1 C σ H F env _ _ R (fun v H1 F1 env1 o s1 a1 q1 => ?_) q
  obtain ⟨i, e, q1⟩ := q1
  exact ⟨i, (rd_vw s1.rel a1 e).int, k (some i) H1 F1 env1 s1 q1⟩
def gSl : D → Option Int → Option Int → Option D
  | .list ds, lo, hi => some (.list (cutD ds lo hi))
  | .tuple ds, lo, hi => some (.tuple (cutD ds lo hi))
  | .str z, lo, hi => if z.length ≤ sizeLine then some (.str (cutS z lo hi)) else none
  | _, _, _ => none
theorem AtAll.cut {F : Hp} {ds : List D} {xs : List V} {lo hi : Option Int} (h : AtAll K F ds xs) : AtAll K F (cutD ds lo hi) (cutV xs lo hi) := by
  unfold cutD cutV
  rw [h.len]
  exact (h.drop _).take _
theorem cut_whole {xs : List D} {lo hi : Option Int} (h : HT.sIx xs.length 0 lo = 0 ∧ HT.sIx xs.length xs.length hi = xs.length) : cutD xs lo hi = xs := by
  unfold cutD
  rw [h.1, h.2]
  simp
def qSl (A : PE') (L U : PO') : PE' := fun env Q => A env fun o env1 => L env1 fun l env2 => U env2 fun u env3 => ∃ d, o.rd env3 = some d ∧ ∃ d', gSl d l u = some d' ∧ Q (.dv d') env3
theorem q_sl {e : Expr} {lo hi : Option Expr} {A : PE'} {L U : PO'} {p2 pos : Pos} (he : EV X e A) (hl : EO X lo L) (hu : EO X hi U) : EV X (.Subscript e (.Slice lo hi none p2) pos) (qSl A L U) := by
  obtain ⟨t, h1, l1⟩ := he.ex
  obtain ⟨tl, h2, l2⟩ := hl.ex
  obtain ⟨tu, h3, l3⟩ := hu.ex
  refine ⟨_, pe_slice (sl_list.or (sl_tupA.or sl_str)) h1 h2 h3, fun C σ H F env Q Qp R k q => ?_⟩
  refine l1 C σ H F env _ _ R (fun v H1 F1 env1 o s1 a1 q1 => ?_) q
  refine l2 C σ H1 F1 env1 _ _ s1.rel (fun l H2 F2 env2 s2 q2 => ?_) q1
  refine l3 C σ H2 F2 env2 _ _ s2.rel (fun u H3 F3 env3 s3 q3 => ?_) q2
  obtain ⟨d, e, d', e', q3⟩ := q3
  have w := rd_vw s3.rel (a1.mono (s2.ff.trans' s3.ff)) e
  have s := (s1.trans s2).trans s3
  unfold gSl at e'
  split at e'
  · cases e'
    obtain ⟨p, xs, rfl, e1, a2⟩ := w
    refine .inl ⟨p, xs, rfl, SqL.of e1, fun r hr => ?_⟩
    have s4 := s3.rel.alloc (o := .lst (cutV xs l u)) hr
    exact k _ _ _ _ (.dv _) (s.trans s4) (OvOk.of (At.list_of upd_same (AtAll.mono s4.ff _ _ a2.cut))) q3
  · cases e'
    have w' := w
    obtain ⟨p, xs, rfl, e1, a2⟩ := w.tup s3.rel.frz
    refine .inr (.inl ⟨p, xs, rfl, e1, fun h => ?_, fun h r hr => ?_⟩)
    · rw [a2.len] at h
      rw [cut_whole h] at q3
      exact k _ _ _ _ (.dv _) s w' q3
    · have s4 := s3.rel.alloc (o := .tup (cutV xs l u)) hr
      exact k _ _ _ _ (.dv _) (s.trans s4) (OvOk.of (At.tup_of upd_same (AtAll.mono s4.ff _ _ a2.cut))) q3
  · split at e'
    · cases e'
      rw [w.str]
      exact .inr (.inr ⟨_, rfl, ‹_›, k _ _ _ _ (.dv _) s (by simp [OvOk, At]) q3⟩)
    · cases e'
  · cases e'
theorem rdAll_vw {C : Ec} {σ : L2.St} {H F : Hp} {env : List SV} (R : Rel K C σ H F env) : ∀ {os : List OV} {vs : List V} {ds : List D}, OvsOk K σ F os vs → rdAll env os = some ds → VwAll K H F ds vs
  | [], vs, ds, a, e => by
    have a : vs = [] := a
    simp only [rdAll, Option.some.injEq] at e
    subst e
    exact a
  | o :: os, vs, ds, a, e => by
    obtain ⟨v, r, rfl, b, c⟩ := a
    simp only [rdAll] at e
    cases q : o.rd env with
    | none => rw [q] at e; cases e
    | some d =>
      rw [q] at e
      cases q2 : rdAll env os with
      | none => rw [q2] at e; cases e
      | some ds2 =>
        rw [q2] at e
        cases e
        exact ⟨v, r, rfl, rd_vw R b q, rdAll_vw R c q2⟩
def LC (K : FgX) (r : List V → Hp → VK → Prop) (g : List D → Option D) : Prop := ∀ (C : Ec) (σ : L2.St) (H F : Hp) (env : List SV) (xs : List V) (ds : List D) (d : D) (Q : VK), Rel K C σ H F env → VwAll K H F ds xs → g ds = some d →
  (∀ v H' F', Stp K C σ H F env H' F' env → At K F' d v → Q v H') → r xs H Q
def LCF (K : FgX) (r : List V → Hp → VK → Prop) (g : List D → Option (List D)) : Prop := ∀ (C : Ec) (σ : L2.St) (H F : Hp) (env : List SV) (xs : List V) (ds es : List D) (Q : VK), Rel K C σ H F env → VwAll K H F ds xs → g ds = some es →
  (∀ p ys F', (Stp K C σ H F env (upd H p (.lst ys)) F' env) → F' p = none → C.H0 p = none → ¬ Own σ env p → H p = none → AtAll K F' es ys → Q (.ref p) (upd H p (.lst ys))) → r xs H Q
def qCB (g : List D → Option D) (T : PA') : PE' := fun env Q => T env fun os env1 => ∃ ds, rdAll env1 os = some ds ∧ ∃ d, g ds = some d ∧ Q (.dv d) env1
def fCB (g : List D → Option (List D)) (T : PA') : PF' := fun env Q => T env fun os env1 => ∃ ds, rdAll env1 os = some ds ∧ ∃ es, g ds = some es ∧ Q es env1
theorem LE.cb {r : List V → Hp → VK → Prop} {g : List D → Option D} {t : TA} {T : PA'} (hl : LC K r g) (l1 : LA K t T) : LE K (tCB r t) (qCB g T) := fun C σ H F env Q Qp R k q => by
  refine l1 C σ H F env _ _ R (fun vs H1 F1 env1 os s1 a1 q1 => ?_) q
  obtain ⟨ds, e, d, e', q1⟩ := q1
  exact hl C σ H1 F1 env1 vs ds d Q s1.rel (rdAll_vw s1.rel a1 e) e' fun v H' F' s2 a2 => k v H' F' env1 (.dv d) (s1.trans s2) a2 q1
theorem LF.cb {r : List V → Hp → VK → Prop} {g : List D → Option (List D)} {t : TA} {T : PA'} (hl : LCF K r g) (l1 : LA K t T) : LF K (tCB r t) (fCB g T) := fun C σ H F env Q Qp R k q => by
  refine l1 C σ H F env _ _ R (fun vs H1 F1 env1 os s1 a1 q1 => ?_) q
  obtain ⟨ds, e, es, e', q1⟩ := q1
  exact hl C σ H1 F1 env1 vs ds es Q s1.rel (rdAll_vw s1.rel a1 e) e' fun p ys F' s2 f2 h2 n2 z2 a2 => k p ys es _ F' env1 (s1.trans s2) upd_same f2 h2 n2 (s1.dm p z2) a2 q1
theorem q_callB {id : String} {r : List V → Hp → VK → Prop} {g : List D → Option D} {x : Str} {e : Expr} {es : List Expr} {T : PA'} {p pos : Pos} (hl : LC X.fr r g) (hc : CallR X (.builtin id) r) (hg : Gl X x) (hm : X.mg x = none) (hv : bootBuiltins x = some (.builtin id)) (ha : EA X (e :: es) T) (hn : x ≠ "__name__" := by decide) (hdb : (x == ("__debug__" : Str)) = false := by decide)
    (he : starEach (e :: es) X.env = (false, eval e X.env) :: starEach es X.env := by rfl) (hpl : (backTo pos (starEach es X.env)).any (·.1) = false := by rfl) : EV X (.Call (.Name x p) (e :: es) [] pos) (qCB g T) := by
  obtain ⟨t, h1, l1⟩ := ha.ex
  exact ⟨_, pe_callB hc hg hm hv h1 hn hdb he hpl, LE.cb hl l1⟩
theorem q_callTy {id : String} {r : List V → Hp → VK → Prop} {g : List D → Option D} {x : Str} {e : Expr} {es : List Expr} {T : PA'} {p pos : Pos} (hl : LC X.fr r g) (hc : CallR X (.type id) r) (hg : Gl X x) (hm : X.mg x = none) (hv : bootBuiltins x = some (.type id)) (ha : EA X (e :: es) T) (hn : x ≠ "__name__" := by decide) (hdb : (x == ("__debug__" : Str)) = false := by decide)
    (he : starEach (e :: es) X.env = (false, eval e X.env) :: starEach es X.env := by rfl) (hpl : (backTo pos (starEach es X.env)).any (·.1) = false := by rfl) : EV X (.Call (.Name x p) (e :: es) [] pos) (qCB g T) := by
  obtain ⟨t, h1, l1⟩ := ha.ex
  exact ⟨_, pe_callTy hc hg hm hv h1 hn hdb he hpl, LE.cb hl l1⟩
theorem f_callTy {id : String} {r : List V → Hp → VK → Prop} {g : List D → Option (List D)} {x : Str} {e : Expr} {es : List Expr} {T : PA'} {p pos : Pos} (hl : LCF X.fr r g) (hc : CallR X (.type id) r) (hg : Gl X x) (hm : X.mg x = none) (hv : bootBuiltins x = some (.type id)) (ha : EA X (e :: es) T) (hn : x ≠ "__name__" := by decide) (hdb : (x == ("__debug__" : Str)) = false := by decide)
    (he : starEach (e :: es) X.env = (false, eval e X.env) :: starEach es X.env := by rfl) (hpl : (backTo pos (starEach es X.env)).any (·.1) = false := by rfl) : EF X (.Call (.Name x p) (e :: es) [] pos) (fCB g T) := by
  obtain ⟨t, h1, l1⟩ := ha.ex
  exact ⟨_, pe_callTy hc hg hm hv h1 hn hdb he hpl, LF.cb hl l1⟩
theorem f_callB {id : String} {r : List V → Hp → VK → Prop} {g : List D → Option (List D)} {x : Str} {e : Expr} {es : List Expr} {T : PA'} {p pos : Pos} (hl : LCF X.fr r g) (hc : CallR X (.builtin id) r) (hg : Gl X x) (hm : X.mg x = none) (hv : bootBuiltins x = some (.builtin id)) (ha : EA X (e :: es) T) (hn : x ≠ "__name__" := by decide) (hdb : (x == ("__debug__" : Str)) = false := by decide)
    (he : starEach (e :: es) X.env = (false, eval e X.env) :: starEach es X.env := by rfl) (hpl : (backTo pos (starEach es X.env)).any (·.1) = false := by rfl) : EF X (.Call (.Name x p) (e :: es) [] pos) (fCB g T) := by
  obtain ⟨t, h1, l1⟩ := ha.ex
  exact ⟨_, pe_callB hc hg hm hv h1 hn hdb he hpl, LF.cb hl l1⟩
def gLen : List D → Option D
  | [.list ds] => some (.int ds.length)
  | [.tuple ds] => some (.int ds.length)
  | [.str z] => if z.length ≤ sizeLine then some (.int z.length) else none
  | _ => none
theorem l_len : LC K (fun xs H Q => ∃ x n, xs = [x] ∧ LenV K x H n ∧ Q (.int n) H) gLen := fun C σ H F env xs ds d Q R a e k => by
  unfold gLen at e
  split at e
  · cases e
    obtain ⟨x, rfl, w⟩ := a.one
    obtain ⟨p, ys, rfl, e1, a2⟩ := w
    exact ⟨_, _, rfl, .inl ⟨ys, SqL.of e1, rfl⟩, by rw [a2.len]; exact k _ H F (Stp.refl R) (by simp [At])⟩
  · cases e
    obtain ⟨x, rfl, w⟩ := a.one
    obtain ⟨p, ys, rfl, e1, a2⟩ := w.tup R.frz
    exact ⟨_, _, rfl, .inr ⟨ys, e1, rfl⟩, by rw [a2.len]; exact k _ H F (Stp.refl R) (by simp [At])⟩
  · split at e
    · cases e
      obtain ⟨x, rfl, w⟩ := a.one
      rw [w.str]
      exact ⟨_, _, rfl, ⟨‹_›, rfl⟩, k _ H F (Stp.refl R) (by simp [At])⟩
    · cases e
  · cases e
def gListF : List D → Option (List D)
  | [.list ds] => some ds
  | [.tuple ds] => some ds
  | _ => none
theorem l_listF : LCF K (fun xs H Q => ∃ p ys, xs = [V.ref p] ∧ (SqL K H p ys ∨ SqT K H p ys) ∧ ∀ l, H l = none → Q (.ref l) (upd H l (.lst ys))) gListF := fun C σ H F env xs ds es Q R a e k => by
  unfold gListF at e
  split at e
  · cases e
    obtain ⟨x, rfl, w⟩ := a.one
    obtain ⟨p, ys, rfl, e1, a2⟩ := w
    refine ⟨p, ys, rfl, .inl (SqL.of e1), fun l hl => ?_⟩
    obtain ⟨s, f, h, n⟩ := R.alloc0 (o := .lst ys) hl
    exact k l ys F s f h n hl a2
  · cases e
    obtain ⟨x, rfl, w⟩ := a.one
    obtain ⟨p, ys, rfl, e1, a2⟩ := w.tup R.frz
    refine ⟨p, ys, rfl, .inr e1, fun l hl => ?_⟩
    obtain ⟨s, f, h, n⟩ := R.alloc0 (o := .lst ys) hl
    exact k l ys F s f h n hl a2
  · cases e
def gTuple : List D → Option D
  | [.list ds] => some (.tuple ds)
  | [.tuple ds] => some (.tuple ds)
  | _ => none
theorem l_tuple : LC K (fun xs H Q => ∃ p ys, xs = [V.ref p] ∧ ((SqL K H p ys ∧ ∀ l, H l = none → Q (.ref l) (upd H l (.tup ys))) ∨ (SqT K H p ys ∧ Q (.ref p) H))) gTuple := fun C σ H F env xs ds d Q R a e k => by
  unfold gTuple at e
  split at e
  · cases e
    obtain ⟨x, rfl, w⟩ := a.one
    obtain ⟨p, ys, rfl, e1, a2⟩ := w
    refine ⟨p, ys, rfl, .inl ⟨SqL.of e1, fun l hl => ?_⟩⟩
    have s := R.alloc (o := .tup ys) hl
    exact k _ _ _ s (At.tup_of upd_same (AtAll.mono s.ff _ _ a2))
  · cases e
    obtain ⟨x, rfl, w⟩ := a.one
    have w' := w
    obtain ⟨p, ys, rfl, e1, a2⟩ := w.tup R.frz
    exact ⟨p, ys, rfl, .inr ⟨e1, k _ H F (Stp.refl R) w'⟩⟩
  · cases e
def boolsOf : List D → Option (List Bool)
  | [] => some []
  | .bool b :: r => (boolsOf r).map (b :: ·)
  | _ => none
theorem boolsOf_map {bs : List Bool} : boolsOf (bs.map PyData.bool) = some bs := by
  induction bs with
  | nil => rfl
  | cons b bs ih => simp [boolsOf, ih]
theorem AtAll.bools {F : Hp} : ∀ {ds : List D} {bs : List Bool} {xs : List V}, boolsOf ds = some bs → AtAll K F ds xs → xs = bs.map V.bl
  | [], bs, xs, e, a => by
    simp only [boolsOf, Option.some.injEq] at e
    subst e
    simpa [AtAll] using a
  | d :: ds, bs, xs, e, a => by
    cases d with
    | bool b =>
      simp only [boolsOf] at e
      cases q : boolsOf ds with
      | none => rw [q] at e; cases e
      | some cs =>
        rw [q] at e
        cases e
        simp only [AtAll] at a
        obtain ⟨x, r, rfl, a, q2⟩ := a
        simp only [At] at a
        subst a
        rw [AtAll.bools q q2]
        rfl
    | _ => simp [boolsOf] at e
def gAll : List D → Option D
  | [.list ds] => (boolsOf ds).map fun bs => .bool (bs.all id)
  | _ => none
theorem l_all : LC K (rAll K) gAll := fun C σ H F env xs ds d Q R a e k => by
  unfold gAll at e
  split at e
  · rename_i ds'
    cases q : boolsOf ds' with
    | none => rw [q] at e; cases e
    | some bs =>
      rw [q] at e
      cases e
      obtain ⟨x, rfl, w⟩ := a.one
      obtain ⟨p, ys, rfl, e1, a2⟩ := w
      have := a2.bools q
      subst this
      exact ⟨p, bs, rfl, SqL.of e1, k _ H F (Stp.refl R) (by simp [At])⟩
  · cases e
def gAny : List D → Option D
  | [.list ds] => (boolsOf ds).map fun bs => .bool (bs.any id)
  | _ => none
def gInt1 : List D → Option D
  | [.int i] => some (.int i)
  | [.bool b] => some (.int (if b then 1 else 0))
  | _ => none
theorem l_int1 : LC K (fun xs H Q => (∃ i, xs = [V.int i] ∧ Q (.int i) H) ∨ ∃ k, xs = [V.bl k] ∧ Q (.int (if k then 1 else 0)) H) gInt1 := fun C σ H F env xs ds d Q R a e k => by
  unfold gInt1 at e
  split at e
  · cases e
    obtain ⟨x, rfl, w⟩ := a.one
    rw [w.int]
    exact .inl ⟨_, rfl, k _ H F (Stp.refl R) (by simp [At])⟩
  · cases e
    obtain ⟨x, rfl, w⟩ := a.one
    rw [w.bl]
    exact .inr ⟨_, rfl, k _ H F (Stp.refl R) (by simp [At])⟩
  · cases e
def tyN : D → String
  | .none => "NoneType" | .bool _ => "bool" | .int _ => "int" | .str _ => "str" | .list _ => "list" | .tuple _ => "tuple" | .dict _ => "dict"
def isi : Ty → D → Bool
  | .str, .str _ => true
  | .int, .int _ => true
  | .int, .bool _ => true
  | .bool, .bool _ => true
  | .list, .list _ => true
  | .tuple, .tuple _ => true
  | .dict, .dict _ => true
  | _, _ => false
theorem isi_kit (T : Ty) (d : D) : kitB (tyN d) T.name = some (isi T d) := by
  cases T <;> cases d <;> (simp only [tyN, Ty.name, isi]; decide +kernel)
/-- the type of a value; of a dict whose keys are tuples, too -/
def TyA (K : FgK) (H : Hp) (x : V) (t : Value) : Prop := TyX K H x t ∨ ∃ a o zs, x = .ref a ∧ Rd H a o ∧ IsN K a zs o ∧ t = .type "dict"
theorem Vw.ty {H F : Hp} (R : Le F H) {d : D} {x : V} (a : Vw K H F d x) : TyA K H x (.type (tyN d)) := by
  cases d with
  | none => rw [a.non]; exact .inl (.base .non)
  | bool b => rw [a.bl]; exact .inl (.base (.bl b))
  | int b => rw [a.int]; exact .inl (.base (.int b))
  | str b => rw [a.str]; exact .inl (.base (.str b))
  | list ds =>
    obtain ⟨p, xs, rfl, e, _⟩ := a
    exact .inl (.base (.lst e))
  | tuple ds =>
    obtain ⟨p, xs, rfl, e, _⟩ := a.tup0 R
    rcases e with e | (e | ⟨o, e⟩) | ⟨o, its, n, e, c, _⟩
    · exact .inl (.base (.tup e))
    · cases e
    · cases e
    · exact .inl (.kTuple e c)
  | dict kds =>
    obtain ⟨p, o, rfl, e, t, c⟩ := a
    cases t with
    | false =>
      obtain ⟨kvs, rfl, _⟩ := c
      rcases e with e | ⟨od, e⟩
      · exact .inl (.base (.dK e))
      · exact .inl (.fDict e)
    | true =>
      obtain ⟨zs, c, _⟩ := c
      exact .inr ⟨p, o, zs, rfl, e, c, rfl⟩
end
end Sw

set_option Elab.async false
set_option linter.all false
set_option maxRecDepth 100000
namespace Sw
open PySem PySem.Spec L2

section
variable {X : Cz} {K : FgX}
def rIsiA (K : FgK) : List V → Hp → VK → Prop := fun xs H Q => ∃ x c t u b, xs = [x, c] ∧ ClsV c u ∧ TyA K H x t ∧ PySem.W.kitOne K.K t u = some b ∧ Q (.bl b) H
theorem call_isiA : CallR X (.builtin "isinstance") (rIsiA X.fr) := by
  intro pins s σ H xs us Q I r h
  obtain ⟨x, c, t, u, b, rfl, k, ty, e, q⟩ := h
  rcases ty with ty | ⟨a, o, zs, rfl, ha, hn, rfl⟩
  · exact call_isi pins s σ H _ us Q I r ⟨x, c, t, u, b, rfl, k, ty, e, q⟩
  · obtain ⟨u1, u2, rfl, r1, r2⟩ := vals2 r
    have e2 := k.eq r2
    subst e2
    cases (show u1 = Value.ref a from r1)
    obtain ⟨_, _, _, us', _, ob, es, ep, h1, h2, _⟩ := hn.obj (ha.ok I.hok)
    exact PySem.W.kia_one PySem.W.kitx_dict I.kIn ⟨ob, h1, h2.1⟩ e (fun z => nomatch z) fun tk => ⟨.bl b, H, I.tok tk, rfl, q⟩
def qIsi (T : Ty) (A : PE') : PE' := fun env Q => A env fun o env1 => ∃ d, o.rd env1 = some d ∧ Q (.dv (.bool (isi T d))) env1
theorem q_isi (T : Ty) {e : Expr} {A : PE'} {y : Str} {p p2 pos : Pos} (h : EV X e A) (hg : Gl X "isinstance") (hm : X.mg "isinstance" = none) (hg2 : Gl X y) (hm2 : X.mg y = none) (hv : bootBuiltins y = some (.type T.name)) (hn : y ≠ "__name__" := by decide) (hdb : (y == ("__debug__" : Str)) = false := by decide)
    (hs : starEach [e, .Name y p2] X.env = (false, eval e X.env) :: starEach [.Name y p2] X.env := by rfl) (hs2 : starEach [.Name y p2] X.env = (false, eval (.Name y p2) X.env) :: starEach [] X.env := by rfl) (hpl : (backTo pos (starEach [.Name y p2] X.env)).any (·.1) = false := by rfl) :
    EV X (.Call (.Name "isinstance" p) [e, .Name y p2] [] pos) (qIsi T A) := by
  obtain ⟨t, h1, l1⟩ := h.ex
  refine ⟨_, pe_callB call_isiA hg hm (by decide +kernel) (pa_cons h1 (pa_cons (pe_bltn (v := .ty T.name) hg2 hm2 hv rfl hn hdb) pa_nil hs2) hs) (by decide) (by decide) hs hpl, fun C σ H F env Q Qp R k q => ?_⟩
  refine l1 C σ H F env _ _ R (fun v H1 F1 env1 o s1 a1 q1 => ?_) q
  obtain ⟨d, e, q1⟩ := q1
  have w := rd_vw s1.rel a1 e
  exact ⟨v, .ty T.name, .type (tyN d), .type T.name, isi T d, rfl, .ty _, w.ty s1.rel.frz, kit_ty (isi_kit T d), k (.bl (isi T d)) H1 F1 env1 (.dv (.bool (isi T d))) s1 (by simp [OvOk, At]) q1⟩
def strsOf : List D → Option (List Str)
  | [] => some []
  | .str b :: r => (strsOf r).map (b :: ·)
  | _ => none
theorem strsOf_map {bs : List Str} : strsOf (bs.map PyData.str) = some bs := by
  induction bs with
  | nil => rfl
  | cons b bs ih => simp [strsOf, ih]
theorem AtAll.strs {F : Hp} : ∀ {ds : List D} {bs : List Str} {xs : List V}, strsOf ds = some bs → AtAll K F ds xs → xs = bs.map V.str
  | [], bs, xs, e, a => by
    simp only [strsOf, Option.some.injEq] at e
    subst e
    simpa [AtAll] using a
  | d :: ds, bs, xs, e, a => by
    cases d with
    | str b =>
      simp only [strsOf] at e
      cases q : strsOf ds with
      | none => rw [q] at e; cases e
      | some cs =>
        rw [q] at e
        cases e
        simp only [AtAll] at a
        obtain ⟨x, r, rfl, a, q2⟩ := a
        simp only [At] at a
        subst a
        rw [AtAll.strs q q2]
        rfl
    | _ => simp [strsOf] at e
def gJoin (z : Str) (ds : List D) : Option D := (strsOf ds).bind fun ys => if (ys.map (·.length)).sum + ys.length * z.length ≤ 16777216 then some (.str (Txt.join z ys)) else none
def seqOf : D → Option (List D)
  | .list ds => some ds
  | .tuple ds => some ds
  | _ => none
def qJoin (A B : PE') : PE' := fun env Q => A env fun o env1 => ∃ z, o = .dv (.str z) ∧ B env1 fun o2 env2 => ∃ d, o2.rd env2 = some d ∧ ∃ ds, seqOf d = some ds ∧ ∃ d', gJoin z ds = some d' ∧ Q (.dv d') env2
theorem q_join {a e : Expr} {A B : PE'} {apos pos : Pos} (ha : EV X a A) (hb : EV X e B) (hs : starEach [e] X.env = [(false, eval e X.env)] := by rfl) (hbase : attributeBase a "join" X.env (eval a X.env) = eval a X.env := by rfl) (hline : (apos.endLine == pos.line) = true := by rfl) :
    EV X (.Call (.Attribute a "join" apos) [e] [] pos) (qJoin A B) := by
  obtain ⟨t, h1, l1⟩ := ha.ex
  obtain ⟨u, h2, l2⟩ := hb.ex
  refine ⟨_, pe_join h1 h2 hs hbase hline, fun C σ H F env Q Qp R k q => ?_⟩
  refine l1 C σ H F env _ _ R (fun v H1 F1 env1 o s1 a1 q1 => ?_) q
  obtain ⟨z, rfl, q1⟩ := q1
  have a1 : v = .str z := by simpa [OvOk, At] using a1
  subst a1
  refine ⟨⟨z, rfl⟩, ?_⟩
  refine l2 C σ H1 F1 env1 _ _ s1.rel (fun v2 H2 F2 env2 o2 s2 a2 q2 => ?_) q1
  obtain ⟨d, e, ds, e2, d', e3, q2⟩ := q2
  have w := rd_vw s2.rel a2 e
  unfold gJoin at e3
  cases q : strsOf ds with
  | none => rw [q] at e3; cases e3
  | some ys =>
    rw [q] at e3
    simp only [Option.bind_some] at e3
    split at e3
    · cases e3
      unfold seqOf at e2
      split at e2
      · cases e2
        obtain ⟨p, xs, rfl, f1, f2⟩ := w
        have := f2.strs q
        subst this
        exact ⟨z, p, ys, rfl, rfl, .inl (SqL.of f1), ‹_›, k _ H2 F2 env2 (.dv _) (s1.trans s2) (by simp [OvOk, At]) q2⟩
      · cases e2
        obtain ⟨p, xs, rfl, f1, f2⟩ := w.tup s2.rel.frz
        have := f2.strs q
        subst this
        exact ⟨z, p, ys, rfl, rfl, .inr f1, ‹_›, k _ H2 F2 env2 (.dv _) (s1.trans s2) (by simp [OvOk, At]) q2⟩
      · cases e2
    · cases e3

section
variable {C : Ec} {σ : L2.St} {H F : Hp} {env : List SV}
theorem set_oth {i j : Nat} {l : Bool} {es : Ct} {d : D} (h : (env.set i (.dat d))[j]? = some (SV.obj l es)) : j ≠ i ∧ env[j]? = some (SV.obj l es) := by
  by_cases e : j = i
  · subst e
    by_cases hi : j < env.length
    · rw [List.getElem?_set_self hi] at h; cases h
    · rw [List.getElem?_eq_none (by rw [List.length_set]; omega)] at h; cases h
  · rw [List.getElem?_set_ne (Ne.symm e)] at h; exact ⟨e, h⟩
theorem Rel.assign (R : Rel K C σ H F env) {i : Nat} {d : D} {v : V} (hi : i < σ.length) (a : At K F d v) : Rel K C (σ.set i (some v)) H F (env.set i (.dat d)) := by
  refine ⟨⟨R.frz, R.mono, R.new, R.frame, R.la, by rw [List.length_set, List.length_set]; exact R.len, fun j sv e => ?_, fun j k l ds m es h1 h2 h3 => ?_⟩, R.xok⟩
  · by_cases e' : j = i
    · subst e'
      rw [List.getElem?_set_self (by rw [R.len]; exact hi)] at e
      cases e
      exact ⟨v, List.getElem?_set_self hi, a⟩
    · rw [List.getElem?_set_ne (Ne.symm e')] at e ⊢
      exact R.slot j sv e
  · obtain ⟨n1, h1⟩ := set_oth h1
    obtain ⟨n2, h2⟩ := set_oth h2
    rw [List.getElem?_set_ne (Ne.symm n1), List.getElem?_set_ne (Ne.symm n2)] at h3
    exact R.dist j k l ds m es h1 h2 h3
theorem Rel.assignO (R : Rel K C σ H F env) {i : Nat} {ds : Ct} {p : Addr} {xs : HO} (hi : i < σ.length) (hp : H p = some xs) (fp : F p = none) (h0 : C.H0 p = none) (no : ¬ Own σ env p) (a : CtOk K F p xs ds) :
    Rel K C (σ.set i (some (.ref p))) H F (env.set i (.obj false ds)) := by
  have hi' : i < env.length := by rw [R.len]; exact hi
  refine ⟨⟨R.frz, R.mono, R.new, R.frame, R.la, by rw [List.length_set, List.length_set]; exact R.len, fun j sv e => ?_, fun j k l es m fs h1 h2 h3 => ?_⟩, R.xok⟩
  · by_cases e' : j = i
    · subst e'
      rw [List.getElem?_set_self hi'] at e
      cases e
      exact ⟨p, xs, List.getElem?_set_self hi, hp, fp, by rw [if_neg (by decide)]; exact h0, a⟩
    · rw [List.getElem?_set_ne (Ne.symm e')] at e ⊢
      exact R.slot j sv e
  · by_cases e1 : j = i
    · by_cases e2 : k = i
      · rw [e1, e2]
      · subst e1
        rw [List.getElem?_set_self hi, List.getElem?_set_ne (Ne.symm e2)] at h3
        rw [List.getElem?_set_ne (Ne.symm e2)] at h2
        exact absurd ⟨k, m, fs, h2, h3.symm⟩ no
    · by_cases e2 : k = i
      · subst e2
        rw [List.getElem?_set_self hi, List.getElem?_set_ne (Ne.symm e1)] at h3
        rw [List.getElem?_set_ne (Ne.symm e1)] at h1
        exact absurd ⟨j, l, es, h1, h3⟩ no
      · rw [List.getElem?_set_ne (Ne.symm e1), List.getElem?_set_ne (Ne.symm e2)] at h3
        rw [List.getElem?_set_ne (Ne.symm e1)] at h1
        rw [List.getElem?_set_ne (Ne.symm e2)] at h2
        exact R.dist j k l es m fs h1 h2 h3
theorem Rel.assignF (R : Rel K C σ H F env) {i : Nat} {ds : List D} {p : Addr} {xs : List V} (hi : i < σ.length) (hp : H p = some (.lst xs)) (fp : F p = none) (h0 : C.H0 p = none) (no : ¬ Own σ env p) (a : AtAll K F ds xs) :
    Rel K C (σ.set i (some (.ref p))) H F (env.set i (.own false ds)) := R.assignO hi hp fp h0 no ⟨xs, rfl, a⟩
end

def sNil : PS' := fun Dp env => Dp.nx env
def sSeq (A B : PS') : PS' := fun Dp env => A { Dp with nx := B Dp } env
theorem s_nil : EB X [] sNil := ⟨_, pss_nil, fun C σ H F env D Dp R k q => k.nx σ H F env R Le.rfl' q⟩
theorem s_cons {st : Stmt} {rest : List Stmt} {A B : PS'} (h : ES X st A) (g : EB X rest B) : EB X (st :: rest) (sSeq A B) := by
  obtain ⟨t, h1, l1⟩ := h.ex
  obtain ⟨u, h2, l2⟩ := g.ex
  refine ⟨_, pss_cons h1 h2, fun C σ H F env D Dp R k q => ?_⟩
  exact l1 C σ H F env { D with nx := u D } { Dp with nx := B Dp } R ⟨fun σ' H' F' env' R' l q' => l2 C σ' H' F' env' D Dp R' (k.mono l) q', k.rt, k.bk, k.ct⟩ q
theorem s_one {st : Stmt} {A : PS'} (h : ES X st A) : EB X [st] A := by
  obtain ⟨t, h1, l1⟩ := h.ex
  exact ⟨_, pss_one h1, l1⟩
def sPass : PS' := fun Dp env => Dp.nx env
def sBreak : PS' := fun Dp env => Dp.bk env
def sCont : PS' := fun Dp env => Dp.ct env
def sIf (c : PT') (A B : PS') : PS' := fun Dp env => c env fun b env1 => if b = true then A Dp env1 else B Dp env1
theorem s_if {c : Expr} {a b : List Stmt} {pos : Pos} {T : PT'} {A B : PS'} (hc : ET X c T) (ha : EB X a A) (hb : EB X b B) : ES X (.If c a b pos) (sIf T A B) := by
  obtain ⟨t, h1, l1⟩ := hc.ex
  obtain ⟨u, h2, l2⟩ := ha.ex
  obtain ⟨w, h3, l3⟩ := hb.ex
  refine ⟨_, ps_if h1 h2 h3, fun C σ H F env D Dp R k q => ?_⟩
  refine l1 C σ H F env _ _ R (fun b H1 F1 env1 s1 q1 => ?_) q
  cases b with
  | true => exact l2 C σ H1 F1 env1 D Dp s1.rel (k.mono s1.ff) q1
  | false => exact l3 C σ H1 F1 env1 D Dp s1.rel (k.mono s1.ff) q1
def sRet (A : PE') : PS' := fun Dp env => A env fun o env1 => ∃ d env2, o.fz env1 = some (d, env2) ∧ Dp.rt (.dt d) env2
theorem s_ret {e : Expr} {A : PE'} {pos : Pos} (h : EV X e A) : ES X (.Return (some e) pos) (sRet A) := by
  obtain ⟨t, h1, l1⟩ := h.ex
  refine ⟨_, ps_ret h1, fun C σ H F env D Dp R k q => ?_⟩
  refine l1 C σ H F env _ _ R (fun v H1 F1 env1 o s1 a1 q1 => ?_) q
  obtain ⟨d, env2, e, q1⟩ := q1
  obtain ⟨F2, s2, a2⟩ := fz_ok s1.rel a1 e
  exact k.rt σ H1 F2 env2 (.dt d) v s2.rel (s1.ff.trans' s2.ff) a2 q1
/-- a list that nobody holds is handed back -/
def sRetF (T : PF') : PS' := fun Dp env => T env fun ds env1 => Dp.rt (.fr ds) env1
theorem s_retF {e : Expr} {T : PF'} {pos : Pos} (h : EF X e T) : ES X (.Return (some e) pos) (sRetF T) := by
  obtain ⟨t, h1, l1⟩ := h.ex
  refine ⟨_, ps_ret h1, fun C σ H F env D Dp R k q => ?_⟩
  refine l1 C σ H F env _ _ R (fun p xs ds H1 F1 env1 s1 hp fp h0 no hn a q1 => ?_) q
  exact k.rt σ H1 F1 env1 (.fr ds) (.ref p) s1.rel s1.ff ⟨p, xs, rfl, hp, fp, h0, a⟩ q1
def sRetS (i : Nat) : PS' := fun Dp env => ∃ ds, env[i]? = some (.own false ds) ∧ Dp.rt (.fr ds) env
theorem s_retS (i : Nat) {x : Str} {p pos : Pos} (hN : X.N[i]? = some x := by rfl) (hv : Vis X.env.scope x := by first | exact Or.inl rfl | exact Or.inr (Or.inl rfl) | exact Or.inr (Or.inr rfl)) (hd : (x == ("__debug__" : Str)) = false := by decide)
    (hcd : (x == ("__classdict__" : Str)) = false := by decide) : ES X (.Return (some (.Name x p)) pos) (sRetS i) := by
  refine ⟨_, ps_ret (pe_var hN hv hd hcd), fun C σ H F env D Dp R k q => ?_⟩
  obtain ⟨ds, e, q⟩ := q
  obtain ⟨p, u, e1, e2, e3, e4, xs, rfl, e5⟩ := R.slot i _ e
  exact ⟨.ref p, e1, k.rt σ H F env (.fr ds) (.ref p) R Le.rfl' ⟨p, xs, rfl, e2, e3, by simpa using e4, e5⟩ q⟩
def sDrop (A : PE') : PS' := fun Dp env => A env fun _ env1 => Dp.nx env1
theorem s_expr {e : Expr} {A : PE'} {pos : Pos} (h : EV X e A) (hs : swapsWith e none pos.line X.env = pure false := by rfl) : ES X (.Expr e pos) (sDrop A) := by
  obtain ⟨t, h1, l1⟩ := h.ex
  refine ⟨_, ps_expr h1 hs, fun C σ H F env D Dp R k q => ?_⟩
  refine l1 C σ H F env _ _ R (fun v H1 F1 env1 o s1 a1 q1 => ?_) q
  exact k.nx σ H1 F1 env1 s1.rel s1.ff q1
def sAsg (i : Nat) (A : PE') : PS' := fun Dp env => A env fun o env1 => ∃ d env2, o.fz env1 = some (d, env2) ∧ i < env2.length ∧ Dp.nx (env2.set i (.dat d))
theorem s_set {i : Nat} {x : Str} {e : Expr} {A : PE'} {pos pos' : Pos} (hN : X.N.Nodup) (hi : X.N[i]? = some x) (hx : Loc X.env.scope x) (h : EV X e A) (hs : swapsWith e (some (.Name x pos')) pos.line X.env = pure false := by rfl) (hf : X.fn x = true ∨ X.env.scope.names.lookup x = some .local := by first | exact .inl rfl | exact .inr rfl | assumption) :
    ES X (.Assign [.Name x pos'] e pos) (sAsg i A) := by
  obtain ⟨t, h1, l1⟩ := h.ex
  refine ⟨_, ps_set hN hi hx h1 hs hf, fun C σ H F env D Dp R k q => ?_⟩
  refine l1 C σ H F env _ _ R (fun v H1 F1 env1 o s1 a1 q1 => ?_) q
  obtain ⟨d, env2, e, hl, q1⟩ := q1
  obtain ⟨F2, s2, a2⟩ := fz_ok s1.rel a1 e
  exact k.nx _ H1 F2 _ (s2.rel.assign (by rw [← s2.rel.len]; exact hl) a2) (s1.ff.trans' s2.ff) q1
def sAsgF (i : Nat) (T : PF') : PS' := fun Dp env => T env fun ds env1 => i < env1.length ∧ Dp.nx (env1.set i (.own false ds))
theorem s_setF {i : Nat} {x : Str} {e : Expr} {T : PF'} {pos pos' : Pos} (hN : X.N.Nodup) (hi : X.N[i]? = some x) (hx : Loc X.env.scope x) (h : EF X e T) (hs : swapsWith e (some (.Name x pos')) pos.line X.env = pure false := by rfl) (hf : X.fn x = true ∨ X.env.scope.names.lookup x = some .local := by first | exact .inl rfl | exact .inr rfl | assumption) :
    ES X (.Assign [.Name x pos'] e pos) (sAsgF i T) := by
  obtain ⟨t, h1, l1⟩ := h.ex
  refine ⟨_, ps_set hN hi hx h1 hs hf, fun C σ H F env D Dp R k q => ?_⟩
  refine l1 C σ H F env _ _ R (fun p xs ds H1 F1 env1 s1 hp fp h0 no hn a q1 => ?_) q
  exact k.nx _ H1 F1 _ (s1.rel.assignF (by rw [← s1.rel.len]; exact q1.1) hp fp h0 no a) s1.ff q1.2
/-- xs[k] = e, xs a slot's own list -/
def sSetIx (i : Nat) (A B : PE') : PS' := fun Dp env => A env fun o env1 => ∃ d env2, o.fz env1 = some (d, env2) ∧ (∃ l0 ds0, env2[i]? = some (.own l0 ds0)) ∧ B env2 fun ok env3 => ∃ n, ok.rd env3 = some (.int n) ∧ ∃ l ds, env3[i]? = some (.own l ds) ∧ ∃ j, ixN ds.length n = some j ∧ Dp.nx (env3.set i (.own l (ds.set j d)))
theorem s_setIx (i : Nat) {x : Str} {a b : Expr} {A B : PE'} {p p2 pos : Pos} (ha : EV X a A) (hb : EV X b B) (hN : X.N[i]? = some x := by rfl) (hv : Vis X.env.scope x := by first | exact Or.inl rfl | exact Or.inr (Or.inl rfl) | exact Or.inr (Or.inr rfl)) (hd : (x == ("__debug__" : Str)) = false := by decide)
    (hcd : (x == ("__classdict__" : Str)) = false := by decide) (hs : swapsWithSole [.Subscript (.Name x p) b p2] a pos.line X.env = pure false := by rfl) (hw : swappedStores [.Subscript (.Name x p) b p2] a X.env = pure none := by rfl)
    (h1 : (assignEach [.Subscript (.Name x p) b p2] X.env).map (·.2) = [assign (.Subscript (.Name x p) b p2) X.env] := by rfl)
    (has : ∀ v, assign (.Subscript (.Name x p) b p2) X.env v = (do
      let ov ← holding [v] (eval (.Name x p) X.env)
      let iv ← holding [v, ov] (eval b X.env)
      standAt p2
      holding [v, ov, iv] (setItem ov iv v)
      release [v, ov, iv] []) := by intro _; rfl) : ES X (.Assign [.Subscript (.Name x p) b p2] a pos) (sSetIx i A B) := by
  obtain ⟨t, g1, l1⟩ := ha.ex
  obtain ⟨u, g2, l2⟩ := hb.ex
  refine ⟨_, ps_asg g1 (pg_sub (pe_var hN hv hd hcd) g2 set_list has) hs hw h1, fun C σ H F env D Dp R k q => ?_⟩
  refine l1 C σ H F env _ _ R (fun v H1 F1 env1 o s1 a1 q1 => ?_) q
  obtain ⟨d, env2, e, ⟨l0, ds0, e0⟩, q1⟩ := q1
  obtain ⟨F2, s2, a2⟩ := fz_ok s1.rel a1 e
  -- the slot's address
  have key : ∀ (p' : Addr), σ[i]? = some (some (.ref p')) → u σ H1 fun iv H2 => rSetL (.ref p') iv v H2 fun H3 => D.nx σ H3 := fun p' hp' => by
    refine l2 C σ H1 F2 env2 _ _ s2.rel (fun iv H2 F3 env3 ok s3 a3 q3 => ?_) q1
    obtain ⟨n, e3, l, ds, e4, j, e5, q3⟩ := q3
    obtain ⟨p2, u2, f1, f2, f3, f4, xs, rfl, f5⟩ := s3.rel.slot i _ e4
    rw [hp'] at f1
    cases f1
    have w := (rd_vw s3.rel a3 e3).int
    subst w
    refine ⟨p', xs, n, j, rfl, rfl, f2, by rw [f5.len]; exact e5, ?_⟩
    have s4 := s3.rel.write (ds' := .lst (ds.set j d)) e4 hp' ⟨_, rfl, f5.set (i := j) (At.mono s3.ff _ _ a2)⟩ fun _ => trivial
    exact k.nx σ _ F3 _ s4.rel (((s1.ff.trans' s2.ff).trans' s3.ff).trans' s4.ff) q3
  obtain ⟨p', xs0, hp', _⟩ := s2.rel.slot i _ e0
  exact ⟨.ref p', hp', key p' hp'⟩
end
end Sw

set_option Elab.async false
set_option linter.all false
set_option maxRecDepth 100000
namespace Sw
open PySem PySem.Spec L2

section
variable {X : Cz} {K : FgX}
abbrev TGs' := List D → List SV → (List SV → Prop) → Prop
def LGs (K : FgX) (S : List Nat) (t : TGs) (T : TGs') : Prop := ∀ (C : Ec) (σ : L2.St) (H F : Hp) (env : List SV) (vs : List V) (ds : List D) (Q : L2.St → Hp → Prop) (Qp : List SV → Prop), Rel K C σ H F env → AtAll K F ds vs →
  (∀ σ' env', Rel K C σ' H F env' → Tgt S σ σ' env env' → Qp env' → Q σ' H) → T ds env Qp → t vs σ H Q
structure EG (X : Cz) (S : List Nat) (e : Expr) (T : TG') : Prop where
  ex : ∃ t, PG X e t ∧ LG X.fr S t T
structure EGs (X : Cz) (S : List Nat) (es : List Expr) (T : TGs') : Prop where
  ex : ∃ t, PGs X es t ∧ LGs X.fr S t T
def gN (i : Nat) : TG' := fun d env Q => i < env.length ∧ Q (env.set i (.dat d))
theorem g_name {i : Nat} {x : Str} {pos : Pos} (hN : X.N.Nodup) (hi : X.N[i]? = some x) (hx : Loc X.env.scope x) (hf : X.fn x = true ∨ X.env.scope.names.lookup x = some .local := by first | exact .inl rfl | exact .inr rfl | assumption) : EG X [i] (.Name x pos) (gN i) := by
  refine ⟨_, pg_name hN hi hx hf, fun C σ H F env v d Q Qp R a k q => ?_⟩
  refine k _ _ (R.assign (by rw [← R.len]; exact q.1) a) ⟨fun j hj => ?_, fun j l ds hj h => ?_, by rw [List.length_set]⟩ q.2
  · have ne : i ≠ j := fun e => hj (by simp [e])
    exact ⟨List.getElem?_set_ne ne, List.getElem?_set_ne ne⟩
  · have e : j = i := by simpa using hj
    subst e
    rw [List.getElem?_set_self q.1] at h
    cases h
def gsN : TGs' := fun ds env Q => ds = [] ∧ Q env
def gsC (T : TG') (U : TGs') : TGs' := fun ds env Q => ∃ d r, ds = d :: r ∧ T d env fun env1 => U r env1 Q
theorem gs_nil : EGs X [] [] gsN := by
  refine ⟨_, pgs_nil, fun C σ H F env vs ds Q Qp R a k q => ?_⟩
  obtain ⟨rfl, q⟩ := q
  have a : vs = [] := by simpa [AtAll] using a
  exact ⟨a, k σ env R ⟨fun _ _ => ⟨rfl, rfl⟩, fun _ _ _ h _ => by simp at h, rfl⟩ q⟩
theorem gs_cons {S S' : List Nat} {e : Expr} {es : List Expr} {T : TG'} {U : TGs'} (h : EG X S e T) (g : EGs X S' es U) (hs : (assignEach (e :: es) X.env).map (·.2) = assign e X.env :: (assignEach es X.env).map (·.2) := by rfl) : EGs X (S ++ S') (e :: es) (gsC T U) := by
  obtain ⟨t, h1, l1⟩ := h.ex
  obtain ⟨u, h2, l2⟩ := g.ex
  refine ⟨_, pgs_cons h1 h2 hs, fun C σ H F env vs ds Q Qp R a k q => ?_⟩
  obtain ⟨d, r, rfl, q⟩ := q
  simp only [AtAll] at a
  obtain ⟨v, vr, rfl, a1, a2⟩ := a
  refine ⟨v, vr, rfl, ?_⟩
  refine l1 C σ H F env v d _ _ R a1 (fun σ1 env1 R1 t1 q1 => ?_) q
  exact l2 C σ1 H F env1 vr r _ _ R1 a2 (fun σ2 env2 R2 t2 q2 => k σ2 env2 R2 (t1.trans t2) q2) q1
def gT (n : Nat) (T : TGs') : TG' := fun d env Q => ∃ ds, d = .tuple ds ∧ ds.length = n ∧ T ds env Q
theorem g_tup {S : List Nat} {es : List Expr} {k n : Nat} {T : TGs'} {pos : Pos} (hc : X.calm = true) (h : EGs X S es T) (hn : (assignEach es X.env).length = n := by rfl) (hst : (assignEach es X.env).findIdx? (·.1) = none := by rfl) : EG X S (.Tuple es k pos) (gT n T) := by
  obtain ⟨t, h1, l1⟩ := h.ex
  refine ⟨_, pg_tup hc h1 hn hst, fun C σ H F env v d Q Qp R a kk q => ?_⟩
  obtain ⟨ds, rfl, hl, q⟩ := q
  simp only [At] at a
  obtain ⟨p, xs, rfl, e, a⟩ := a
  exact ⟨p, xs, rfl, (Le.tupAt R.frz e).sqT, by rw [a.len]; exact hl, l1 C σ H F env xs ds Q Qp R a kk q⟩
/-- target = e -/
def sAsgG (A : PE') (G : TG') : PS' := fun Dp env => A env fun o env1 => ∃ d env2, o.fz env1 = some (d, env2) ∧ G d env2 Dp.nx
theorem s_asg {S : List Nat} {tg e : Expr} {A : PE'} {G : TG'} {pos : Pos} (he : EV X e A) (hg : EG X S tg G) (hs : swapsWithSole [tg] e pos.line X.env = pure false := by rfl) (hw : swappedStores [tg] e X.env = pure none := by rfl)
    (h1 : (assignEach [tg] X.env).map (·.2) = [assign tg X.env] := by rfl) : ES X (.Assign [tg] e pos) (sAsgG A G) := by
  obtain ⟨t, g1, l1⟩ := he.ex
  obtain ⟨u, g2, l2⟩ := hg.ex
  refine ⟨_, ps_asg g1 g2 hs hw h1, fun C σ H F env D Dp R k q => ?_⟩
  refine l1 C σ H F env _ _ R (fun v H1 F1 env1 o s1 a1 q1 => ?_) q
  obtain ⟨d, env2, e, q1⟩ := q1
  obtain ⟨F2, s2, a2⟩ := fz_ok s1.rel a1 e
  exact l2 C σ H1 F2 env2 v d _ _ s2.rel a2 (fun σ' env' R' _ q' => k.nx σ' H1 F2 env' R' (s1.ff.trans' s2.ff) q') q1

def ItOk (K : FgK) (J : It) (F : Hp) (ds : List D) : Prop := ∃ G Y, Walk J ds.length G Y ∧ (∀ H, Le F H → G H) ∧ ∀ i H x H', i < ds.length → Le F H → Y i H x H' → YOk K F ds[i]? H x H'
abbrev PI' := List SV → (List D → List SV → Prop) → Prop
def LI (K : FgX) (wi : TI) (T : PI') : Prop := ∀ (C : Ec) (σ : L2.St) (H F : Hp) (env : List SV) (R : It → Hp → Prop) (Qp : List D → List SV → Prop), Rel K C σ H F env →
  (∀ J ds H' F' env', Stp K C σ H F env H' F' env' → ItOk K J F' ds → Qp ds env' → R J H') → T env Qp → wi σ H R
structure EI (X : Cz) (tg e : Expr) (T : PI') : Prop where
  ex : ∃ wi, PI X tg e wi ∧ LI X.fr wi T
/-- a list, a tuple or a text is walked -/
def wAny (K : FgK) (t : TE) : TI := fun σ H R => t σ H fun x H1 => (∃ a, x = .ref a ∧ (∃ xs, SqL K H1 a xs) ∧ R (Itl K a) H1) ∨ (∃ a, x = .ref a ∧ (∃ xs, SqT K H1 a xs) ∧ R (Itt K a) H1) ∨ ∃ z, x = .str z ∧ R (Its z) H1
theorem pi_any {tg l : Expr} {t : TE} (hl : PE X l t) : PI X tg l (wAny X.fr t) := by
  refine ⟨fun pins s σ H R I h => ?_⟩
  refine thn (hl.run pins s σ H _ I h) fun v s1 ⟨x, H1, I1, r1, q1⟩ => ?_
  rcases q1 with ⟨a, e, ⟨xs, hq⟩, q⟩ | ⟨a, e, ⟨xs, hq⟩, q⟩ | ⟨z, e, q⟩
  · subst e
    cases r1
    obtain ⟨its, rv, p, hz⟩ := I1.list hq
    refine wpAny_pyIter_list p.isList ?_
    refine ⟨s1.heap.objs.size, [s1.heap.objs.size], _, _, H1, rfl, I1.kept (t' := s1.toks) fun b o e => Heap.get?_push_of_some _ e, turn_list a _, ⟨_, Heap.get?_push_size _ rfl, rfl, rfl⟩, fun b hb => ?_, q⟩
    have e : b = s1.heap.objs.size := by simpa using hb
    subst e
    exact I1.fpOk (Nat.le_refl _) (I1.hok.fresh (Nat.le_refl _))
  · subst e
    cases r1
    obtain ⟨its, rv, p, hz⟩ := I1.tuple hq
    refine wpAny_pyIter_tuple (show s1.heap.IsTuple a its.toArray from p) ?_
    refine ⟨s1.heap.objs.size, [s1.heap.objs.size], _, _, H1, rfl, I1.kept (t' := s1.toks) fun b o e => Heap.get?_push_of_some _ e, turn_tuple a _, ⟨_, Heap.get?_push_size _ rfl, rfl, rfl⟩, fun b hb => ?_, q⟩
    have e : b = s1.heap.objs.size := by simpa using hb
    subst e
    exact I1.fpOk (Nat.le_refl _) (I1.hok.fresh (Nat.le_refl _))
  · subst e
    obtain ⟨t, rfl⟩ := r1
    cases ha : z.cps.all (· < 128)
    · exact wpAny_pyIter_wide ha (pi_one (tk := s1.toks) I1 _ (turn_str _ z t "str_iterator" (.inr rfl)) ⟨_, Heap.get?_push_size _ rfl, rfl, rfl⟩ q)
    · exact wpAny_pyIter_ascii ha (pi_one (tk := s1.toks) I1 _ (turn_str _ z t "str_ascii_iterator" (.inl rfl)) ⟨_, Heap.get?_push_size _ rfl, rfl, rfl⟩ q)
def signD (c : Nat) : D := .str ⟨#[c]⟩
def itemsOf : D → Option (List D)
  | .list ds => some ds
  | .tuple ds => some ds
  | .str z => some (z.cps.toList.map signD)
  | _ => none
def iAny (A : PE') : PI' := fun env Q => A env fun o env1 => ∃ d env2, o.fz env1 = some (d, env2) ∧ ∃ ds, itemsOf d = some ds ∧ Q ds env2
theorem yAt_ok {F : Hp} {ds : List D} {xs : List V} (a : AtAll K F ds xs) {i : Nat} {H H' : Hp} {x : V} (y : YAt xs i H x H') : YOk K F ds[i]? H x H' := by
  obtain ⟨e, h⟩ := y
  obtain ⟨d, e2, a2⟩ := a.get' h
  exact .inl ⟨e, d, e2, a2⟩
theorem i_any {tg e : Expr} {A : PE'} (h : EV X e A) : EI X tg e (iAny A) := by
  obtain ⟨t, h1, l1⟩ := h.ex
  refine ⟨_, pi_any h1, fun C σ H F env R Qp Rl k q => ?_⟩
  refine l1 C σ H F env _ _ Rl (fun v H1 F1 env1 o s1 a1 q1 => ?_) q
  obtain ⟨d, env2, e, ds, e2, q1⟩ := q1
  obtain ⟨F2, s2, a2⟩ := fz_ok s1.rel a1 e
  unfold itemsOf at e2
  split at e2
  · cases e2
    simp only [At] at a2
    obtain ⟨p, xs, rfl, f1, f2⟩ := a2
    refine .inl ⟨p, rfl, ⟨xs, SqL.of (s2.rel.frz _ _ f1)⟩, k _ ds H1 F2 env2 (s1.trans s2) ⟨_, _, f2.len ▸ walk_list (xs := xs), fun H l => SqL.of (l _ _ f1), fun i H x H' hi l y => yAt_ok f2 y⟩ q1⟩
  · cases e2
    simp only [At] at a2
    obtain ⟨p, xs, rfl, f1, f2⟩ := a2
    refine .inr (.inl ⟨p, rfl, ⟨xs, (Le.tupAt s2.rel.frz f1).sqT⟩, k _ ds H1 F2 env2 (s1.trans s2) ⟨_, _, f2.len ▸ walk_tup (xs := xs), fun H l => (Le.tupAt l f1).sqT, fun i H x H' hi l y => yAt_ok f2 y⟩ q1⟩)
  · cases e2
    rename_i z
    have a2 : v = .str z := by simpa [At] using a2
    subst a2
    refine .inr (.inr ⟨z, rfl, k _ _ H1 F2 env2 (s1.trans s2) ⟨fun _ => True, fun i H v H' => H' = H ∧ ∃ c, z.cps[i]? = some c ∧ v = .str ⟨#[c]⟩, ?_, fun H l => trivial, fun i H x H' hi l y => ?_⟩ q1⟩)
    · rw [List.length_map, Array.length_toList]
      exact walk_str
    · obtain ⟨e, c, h1, rfl⟩ := y
      refine .inl ⟨e, signD c, ?_, by simp [At, signD]⟩
      rw [List.getElem?_map]
      have : z.cps.toList[i]? = some c := by rw [Array.getElem?_toList]; exact h1
      rw [this]
      rfl
  · cases e2
def rgD (lo : Int) (n : Nat) : List D := (List.range n).map fun (i : Nat) => PyData.int (lo + (i : Int))
theorem rg_ok {F : Hp} {lo : Int} {n : Nat} : ItOk K (Itr lo n) F (rgD lo n) := by
  refine ⟨fun _ => True, YFn fun i => .int (lo + i), ?_, fun H l => trivial, fun i H x H' hi l y => ?_⟩
  · unfold rgD
    rw [List.length_map, List.length_range]
    exact walk_range
  · obtain ⟨e, rfl⟩ := y
    refine .inl ⟨e, .int (lo + i), ?_, by simp [At]⟩
    unfold rgD at hi ⊢
    rw [List.length_map, List.length_range] at hi
    rw [List.getElem?_map, List.getElem?_range hi]
    rfl
def iRg1 (A : PE') : PI' := fun env Q => A env fun o env1 => ∃ j, o.rd env1 = some (.int j) ∧ (-(2 ^ 62) ≤ j ∧ j < 2 ^ 62) ∧ Q (rgD 0 j.toNat) env1
theorem i_rg1 {tg a : Expr} {A : PE'} {p pos : Pos} (h : EV X a A) (hg : Gl X "range") (hm : X.mg "range" = none) (hs : starEach [a] X.env = [(false, eval a X.env)] := by rfl) (hs' : starEach (a :: []) X.env = (false, eval a X.env) :: starEach [] X.env := by rfl) : EI X tg (.Call (.Name "range" p) [a] [] pos) (iRg1 A) := by
  obtain ⟨t, h1, l1⟩ := h.ex
  refine ⟨_, pi_range1 hg hm (pa_cons h1 pa_nil hs') hs, fun C σ H F env R Qp Rl k q => ?_⟩
  refine l1 C σ H F env _ _ Rl (fun v H1 F1 env1 o s1 a1 q1 => ?_) q
  obtain ⟨j, e, ⟨b1, b2⟩, q1⟩ := q1
  have w := (rd_vw s1.rel a1 e).int
  subst w
  exact ⟨j, rfl, b1, b2, k _ _ H1 F1 env1 s1 rg_ok q1⟩
def iRg2 (A B : PE') : PI' := fun env Q => A env fun o env1 => B env1 fun o2 env2 => ∃ i, o.rd env2 = some (.int i) ∧ ∃ j, o2.rd env2 = some (.int j) ∧ (-(2 ^ 62) ≤ i ∧ i < 2 ^ 62 ∧ -(2 ^ 62) ≤ j ∧ j < 2 ^ 62) ∧ Q (rgD i (j - i).toNat) env2
theorem i_rg2 {tg a b : Expr} {A B : PE'} {p pos : Pos} (h : EV X a A) (g : EV X b B) (hg : Gl X "range") (hm : X.mg "range" = none) (hs : starEach [a, b] X.env = [(false, eval a X.env), (false, eval b X.env)] := by rfl) (hs2 : starEach [b] X.env = [(false, eval b X.env)] := by rfl)
    (hs' : starEach [a, b] X.env = (false, eval a X.env) :: starEach [b] X.env := by rfl) (hs2' : starEach [b] X.env = (false, eval b X.env) :: starEach [] X.env := by rfl) : EI X tg (.Call (.Name "range" p) [a, b] [] pos) (iRg2 A B) := by
  obtain ⟨t, h1, l1⟩ := h.ex
  obtain ⟨u, h2, l2⟩ := g.ex
  refine ⟨_, pi_range2 hg hm (pa_cons h1 (pa_cons h2 pa_nil hs2') hs') hs hs2, fun C σ H F env R Qp Rl k q => ?_⟩
  refine l1 C σ H F env _ _ Rl (fun v H1 F1 env1 o s1 a1 q1 => ?_) q
  refine l2 C σ H1 F1 env1 _ _ s1.rel (fun v2 H2 F2 env2 o2 s2 a2 q2 => ?_) q1
  obtain ⟨i, e1, j, e2, b, q2⟩ := q2
  have w1 := (rd_vw s2.rel (a1.mono s2.ff) e1).int
  have w2 := (rd_vw s2.rel a2 e2).int
  subst w1 w2
  exact ⟨i, j, rfl, b, k _ _ H2 F2 env2 (s1.trans s2) rg_ok q2⟩
def enD : Nat → List D → List D
  | _, [] => []
  | i, d :: r => .tuple [.int (i : Nat), d] :: enD (i + 1) r
theorem enD_len : ∀ (i : Nat) (ds : List D), (enD i ds).length = ds.length
  | _, [] => rfl
  | i, d :: r => by simp [enD, enD_len (i + 1) r]
theorem enD_get : ∀ (j i : Nat) (ds : List D), (enD i ds)[j]? = ds[j]?.map fun d => .tuple [.int ((i + j : Nat) : Int), d]
  | _, _, [] => by simp [enD]
  | 0, i, d :: r => by simp [enD]
  | j + 1, i, d :: r => by
    simp only [enD, List.getElem?_cons_succ]
    rw [enD_get j (i + 1) r]
    congr 1
    funext d
    rw [show i + 1 + j = i + (j + 1) by omega]
/-- enumerate(a list) -/
def iEnu (A : PE') : PI' := fun env Q => A env fun o env1 => ∃ d env2, o.fz env1 = some (d, env2) ∧ ∃ ds, d = .list ds ∧ Q (enD 0 ds) env2
def pFor (G : TG') (B : PS') (Dp : PEnds) : List D → List SV → Prop
  | [], env => Dp.nx env
  | d :: r, env => G d env fun env1 => B { Dp with nx := pFor G B Dp r, ct := pFor G B Dp r, bk := Dp.nx } env1
def sFor (I : PI') (G : TG') (B : PS') : PS' := fun Dp env => I env fun ds env1 => pFor G B Dp ds env1
theorem s_for {S : List Nat} {tg iter : Expr} {body : List Stmt} {I : PI'} {G : TG'} {B : PS'} {pos : Pos} (hp : PassesOwn (model X.prog X.w) X.A X.env X.xe) (hc : X.calm = true) (hi : EI X tg iter I) (hg : EG X S tg G) (hb : EB X body B)
    (hs : ∀ x, foldedSetIterable iter X.env x = pure x := by intro _; rfl) : ES X (.For tg iter body [] pos) (sFor I G B) := by
  obtain ⟨wi, h1, l1⟩ := hi.ex
  obtain ⟨g, h2, l2⟩ := hg.ex
  obtain ⟨tb, h3, l3⟩ := hb.ex
  refine ⟨_, ps_for hp hc h1 h2 h3 hs, fun C σ H F env D Dp R k q => ?_⟩
  refine l1 C σ H F env _ _ R (fun J ds H1 F1 env1 s1 it q1 => ?_) q
  obtain ⟨Gd, Y, w, gd, yd⟩ := it
  have k1 := k.mono s1.ff
  refine for_it w (fun i σ H => ∃ F2 env2, Rel X.fr C σ H F2 env2 ∧ Le F1 F2 ∧ pFor G B Dp (ds.drop i) env2) ⟨F1, env1, s1.rel, Le.rfl', by simpa using q1⟩ (fun i σ H hi ⟨F2, env2, R2, l, _⟩ => gd H (l.trans' R2.frz)) (fun i x σ H H' hi ⟨F2, env2, R2, l, q2⟩ y => ?_) (fun σ H ⟨F2, env2, R2, l, q2⟩ => ?_)
  · obtain ⟨F3, d, e, s3, a3⟩ := (YOk.mono l (yd i H x H' hi (l.trans' R2.frz) y)).rel R2
    have e2 : ds.drop i = d :: ds.drop (i + 1) := by
      obtain ⟨hlt, e4⟩ := List.getElem?_eq_some_iff.mp e
      rw [List.drop_eq_getElem_cons hlt, e4]
    rw [e2] at q2
    have l3' := l.trans' s3.ff
    refine l2 C σ H' F3 env2 x d _ _ s3.rel a3 (fun σ' env' R' _ q' => ?_) q2
    refine l3 C σ' H' F3 env' _ { Dp with nx := pFor G B Dp (ds.drop (i + 1)), ct := pFor G B Dp (ds.drop (i + 1)), bk := Dp.nx } R' ⟨fun σ4 H4 F4 env4 R4 m q4 => ⟨F4, env4, R4, l3'.trans' m, q4⟩, fun σ4 H4 F4 env4 rv v R4 m r q4 => k1.rt σ4 H4 F4 env4 rv v R4 (l3'.trans' m) r q4, fun σ4 H4 F4 env4 R4 m q4 => k1.nx σ4 H4 F4 env4 R4 (l3'.trans' m) q4, fun σ4 H4 F4 env4 R4 m q4 => ⟨F4, env4, R4, l3'.trans' m, q4⟩⟩ q'
  · rw [List.drop_length] at q2
    exact k1.nx σ H F2 env2 R2 l q2
def pWh (c : PT') (B : PS') (Dp : PEnds) : Nat → List SV → Prop
  | 0, _ => False
  | n + 1, env => c env fun b env1 => if b = true then B { Dp with nx := pWh c B Dp n, ct := pWh c B Dp n, bk := Dp.nx } env1 else Dp.nx env1
def sWh (c : PT') (B : PS') : PS' := fun Dp env => ∃ n, pWh c B Dp n env
theorem s_while {c : Expr} {body : List Stmt} {T : PT'} {B : PS'} {pos : Pos} (hp : PassesOwn (model X.prog X.w) X.A X.env X.xe) (hc : ET X c T) (hb : EB X body B) : ES X (.While c body [] pos) (sWh T B) := by
  obtain ⟨t, h1, l1⟩ := hc.ex
  obtain ⟨tb, h3, l3⟩ := hb.ex
  refine ⟨_, ps_while hp h1 h3, fun C σ H F env D Dp R k q => ?_⟩
  obtain ⟨n, q⟩ := q
  refine ⟨fun m σ H => ∃ F2 env2, Rel X.fr C σ H F2 env2 ∧ Le F F2 ∧ pWh T B Dp m env2, ⟨n, F, env, R, Le.rfl', q⟩, ?_⟩
  rintro m σ2 H2 ⟨F2, env2, R2, l, q2⟩
  cases m with
  | zero => exact q2.elim
  | succ m =>
    refine l1 C σ2 H2 F2 env2 _ _ R2 (fun b H3 F3 env3 s3 q3 => ?_) q2
    have l' := l.trans' s3.ff
    cases b with
    | true =>
      rw [if_pos rfl] at q3 ⊢
      refine ⟨fun σ4 H4 => ∃ F4 env4, Rel X.fr C σ4 H4 F4 env4 ∧ Le F F4 ∧ pWh T B Dp m env4, fun σ4 H4 z => ⟨m, Nat.lt_succ_self _, z⟩, ?_⟩
      exact l3 C σ2 H3 F3 env3 _ { Dp with nx := pWh T B Dp m, ct := pWh T B Dp m, bk := Dp.nx } s3.rel ⟨fun σ4 H4 F4 env4 R4 m q4 => ⟨F4, env4, R4, l'.trans' m, q4⟩, fun σ4 H4 F4 env4 rv v R4 m r q4 => k.rt σ4 H4 F4 env4 rv v R4 (l'.trans' m) r q4, fun σ4 H4 F4 env4 R4 m q4 => k.nx σ4 H4 F4 env4 R4 (l'.trans' m) q4, fun σ4 H4 F4 env4 R4 m q4 => ⟨F4, env4, R4, l'.trans' m, q4⟩⟩ q3
    | false =>
      rw [if_neg (by decide)] at q3 ⊢
      exact k.nx σ2 H3 F3 env3 s3.rel l' q3
end
end Sw

set_option Elab.async false
set_option linter.all false
set_option maxRecDepth 100000
namespace Sw
open PySem PySem.Spec L2

section
variable {X : Cz} {K : FgX}
def LMO (K : FgK) (r : V → List V → Hp → VK → Prop) (g : List D → List D → Option (D × List D)) : Prop := ∀ (H F : Hp) (p : Addr) (xs ys : List V) (ds es ds' : List D) (d : D) (Q : VK), H p = some (.lst xs) → AtAll K F ds xs → AtAll K F es ys → g ds es = some (d, ds') →
  (∀ v xs', At K F d v → AtAll K F ds' xs' → Q v (upd H p (.lst xs'))) → r (.ref p) ys H Q
def qMO (i : Nat) (g : List D → List D → Option (D × List D)) (T : PA') : PE' := fun env Q => (∃ l ds, env[i]? = some (.own l ds)) ∧ T env fun os env1 => ∃ es env2, fzAll env1 os = some (es, env2) ∧ ∃ l ds, env2[i]? = some (.own l ds) ∧ ∃ d ds', g ds es = some (d, ds') ∧ Q (.dv d) (env2.set i (.own l ds'))
theorem q_mo (i : Nat) {id : String} {r : V → List V → Hp → VK → Prop} {g : List D → List D → Option (D × List D)} {name x : Str} {p apos cpos : Pos} {e : Expr} {es : List Expr} {T : PA'} (hl : LMO X.fr r g) (slot : Slot "list" name id) (hty : typeOf (.builtin id) = pure (.type "method_descriptor")) (hm : MtR X id r) (ha : EA X (e :: es) T)
    (hN : X.N[i]? = some x := by rfl) (hv : Vis X.env.scope x := by first | exact Or.inl rfl | exact Or.inr (Or.inl rfl) | exact Or.inr (Or.inr rfl)) (hd : (x == ("__debug__" : Str)) = false := by decide) (hcd : (x == ("__classdict__" : Str)) = false := by decide)
    (hbase : attributeBase (.Name x p) name X.env (eval (.Name x p) X.env) = eval (.Name x p) X.env := by rfl)
    (hfew : ((backTo cpos (starEach (e :: es) X.env)).all (fun x => !x.1) && (backToKw cpos (keywordEach [] X.env)).all (fun x => x.1.isSome)
      && decide ((e :: es).length + ([] : List Keyword).length + (if ([] : List Keyword).isEmpty then 0 else 1) < 30)) = true := by rfl)
    (hline : (apos.endLine == cpos.line) = true := by rfl) (hs : starEach (e :: es) X.env = (false, eval e X.env) :: starEach es X.env := by rfl) (hplain : (backTo cpos (starEach es X.env)).any (·.1) = false := by rfl) :
    EV X (.Call (.Attribute (.Name x p) name apos) (e :: es) [] cpos) (qMO i g T) := by
  obtain ⟨t, h1, l1⟩ := ha.ex
  refine ⟨_, pe_bm PySem.F.plainAttrs_list slot hty hm (pe_var hN hv hd hcd) h1 hbase hfew hline hs hplain, fun C σ H F env Q Qp R k q => ?_⟩
  obtain ⟨⟨l0, ds0, e0⟩, q⟩ := q
  obtain ⟨a, xs0, f1, f2, f3, f4, f5⟩ := R.slotL e0
  refine ⟨.ref a, f1, .inl ⟨rfl, xs0, SqL.of f2⟩, ?_⟩
  refine l1 C σ H F env _ _ R (fun vs H1 F1 env1 os s1 a1 q1 => ?_) q
  obtain ⟨es', env2, e1, l, ds, e2, d, ds', e3, q1⟩ := q1
  obtain ⟨F2, s2, a2⟩ := fzAll_ok s1.rel a1 e1
  obtain ⟨a', xs, g1, g2, g3, g4, g5⟩ := s2.rel.slotL e2
  rw [f1] at g1
  cases g1
  refine hl H1 F2 a xs vs ds es' ds' d _ g2 g5 a2 e3 fun v xs' av ax => ?_
  have s3 := s2.rel.writeL e2 f1 ax
  exact k v _ F2 _ (.dv d) ((s1.trans s2).trans s3) (OvOk.of av) q1
def qMO0 (i : Nat) (g : List D → List D → Option (D × List D)) : PE' := fun env Q => ∃ l ds, env[i]? = some (.own l ds) ∧ ∃ d ds', g ds [] = some (d, ds') ∧ Q (.dv d) (env.set i (.own l ds'))
theorem q_mo0 (i : Nat) {id : String} {r : V → List V → Hp → VK → Prop} {g : List D → List D → Option (D × List D)} {name x : Str} {p apos cpos : Pos} (hl : LMO X.fr r g) (slot : Slot "list" name id) (hty : typeOf (.builtin id) = pure (.type "method_descriptor")) (hm : MtR X id r)
    (hN : X.N[i]? = some x := by rfl) (hv : Vis X.env.scope x := by first | exact Or.inl rfl | exact Or.inr (Or.inl rfl) | exact Or.inr (Or.inr rfl)) (hd : (x == ("__debug__" : Str)) = false := by decide) (hcd : (x == ("__classdict__" : Str)) = false := by decide)
    (hbase : attributeBase (.Name x p) name X.env (eval (.Name x p) X.env) = eval (.Name x p) X.env := by rfl) (hline : (apos.endLine == cpos.line) = true := by rfl) :
    EV X (.Call (.Attribute (.Name x p) name apos) [] [] cpos) (qMO0 i g) := by
  refine ⟨_, pe_bm0 PySem.F.plainAttrs_list slot hty hm (pe_var hN hv hd hcd) hbase hline, fun C σ H F env Q Qp R k q => ?_⟩
  obtain ⟨l, ds, e2, d, ds', e3, q⟩ := q
  obtain ⟨a, xs, f1, f2, f3, f4, f5⟩ := R.slotL e2
  refine ⟨.ref a, f1, .inl ⟨rfl, xs, SqL.of f2⟩, ?_⟩
  refine hl H F a xs [] ds [] ds' d _ f2 f5 AtAll.nil e3 fun v xs' av ax => ?_
  have s3 := R.writeL e2 f1 ax
  exact k v _ F _ (.dv d) s3 (OvOk.of av) q
def gAppend : List D → List D → Option (D × List D)
  | ds, [y] => if ds.length < sizeLine then some (.none, ds ++ [y]) else none
  | _, _ => none
theorem l_append : LMO K rAppend gAppend := fun H F p xs ys ds es ds' d Q hp a b e k => by
  unfold gAppend at e
  split at e
  · split at e
    · cases e
      obtain ⟨y, rfl, ay⟩ := b.one
      exact ⟨p, xs, y, rfl, rfl, hp, by rw [a.len]; assumption, k _ _ (by simp [At]) (AtAll.app a (AtAll.cons ay AtAll.nil))⟩
    · cases e
  · cases e
def gPopAt : List D → List D → Option (D × List D)
  | ds, [.int i] => if -(2 ^ 63) ≤ i ∧ i < 2 ^ 63 then (seqIndex? i ds.length).bind fun j => ds[j]?.map fun d => (d, ds.eraseIdx j) else none
  | _, _ => none
end

def wipeE (env : List SV) : List Nat → List SV
  | [] => env
  | v :: vs => (wipeE env vs).set v .un
theorem wipeE_len (env : List SV) : ∀ vs : List Nat, (wipeE env vs).length = env.length
  | [] => rfl
  | v :: vs => by unfold wipeE; rw [List.length_set, wipeE_len env vs]
theorem wipeE_oth {env : List SV} {j : Nat} : ∀ {vs : List Nat}, j ∉ vs → (wipeE env vs)[j]? = env[j]?
  | [], _ => rfl
  | v :: vs, h => by
    simp only [List.mem_cons, not_or] at h
    unfold wipeE
    rw [List.getElem?_set_ne (Ne.symm h.1)]
    exact wipeE_oth h.2
theorem wipeE_mem {env : List SV} {j : Nat} {sv : SV} : ∀ {vs : List Nat}, j ∈ vs → (wipeE env vs)[j]? = some sv → sv = .un
  | v :: vs, h, e => by
    unfold wipeE at e
    by_cases q : v = j
    · subst q
      rw [List.getElem?_set] at e
      split at e
      · split at e
        · exact (Option.some.inj e).symm
        · cases e
      · exact absurd rfl ‹_›
    · rw [List.getElem?_set_ne q] at e
      rcases List.mem_cons.mp h with z | z
      · exact absurd z.symm q
      · exact wipeE_mem z e
theorem wipe_oth {σ : L2.St} {j : Nat} : ∀ {vs : List Nat}, j ∉ vs → (wipe σ vs)[j]? = σ[j]?
  | [], _ => rfl
  | v :: vs, h => by
    simp only [List.mem_cons, not_or] at h
    unfold wipe
    rw [List.getElem?_set_ne (Ne.symm h.1)]
    exact wipe_oth h.2
theorem wipe_ext : ∀ {vs : List Nat} {σ τ : L2.St}, σ.length = τ.length → (∀ j, j ∉ vs → σ[j]? = τ[j]?) → wipe σ vs = wipe τ vs := fun {vs σ τ} hl h => by
  have key : ∀ (ws : List Nat) (j : Nat), j ∈ ws → (wipe σ ws)[j]? = (wipe τ ws)[j]? := fun ws => by
    induction ws with
    | nil => intro j hj; cases hj
    | cons v ws ih =>
      intro j hj
      unfold wipe
      by_cases e : v = j
      · subst e
        rw [List.getElem?_set, List.getElem?_set]
        simp only [if_true]
        rw [wipe_length, wipe_length, hl]
      · rw [List.getElem?_set_ne e, List.getElem?_set_ne e]
        rcases List.mem_cons.mp hj with z | z
        · exact absurd z.symm e
        · exact ih j z
  apply List.ext_getElem?
  intro j
  by_cases hj : j ∈ vs
  · exact key vs j hj
  · rw [wipe_oth hj, wipe_oth hj]
    exact h j hj
theorem wipe_wipe (σ : L2.St) (vs : List Nat) : wipe (wipe σ vs) vs = wipe σ vs := wipe_ext (wipe_length σ vs) fun j hj => wipe_oth hj
section
variable {K : FgX} {C : Ec} {σ : L2.St} {H F : Hp} {env : List SV} {vs : List Nat}
theorem own_wipe {j : Nat} {l : Bool} {ds : Ct} (h : (wipeE env vs)[j]? = some (SV.obj l ds)) : j ∉ vs ∧ env[j]? = some (SV.obj l ds) := by
  by_cases hj : j ∈ vs
  · cases wipeE_mem hj h
  · rw [wipeE_oth hj] at h
    exact ⟨hj, h⟩
theorem Rel.wipe (R : Rel K C σ H F env) (vs : List Nat) : Rel K C (wipe σ vs) H F (wipeE env vs) := by
  refine ⟨⟨R.frz, R.mono, R.new, R.frame, R.la, by rw [wipeE_len, wipe_length]; exact R.len, fun j sv e => ?_, fun j k l ds m es h1 h2 h3 => ?_⟩, R.xok⟩
  · by_cases hj : j ∈ vs
    · rw [wipeE_mem hj e]
      trivial
    · rw [wipeE_oth hj] at e
      rw [wipe_oth hj]
      exact R.slot j sv e
  · obtain ⟨n1, h1⟩ := own_wipe h1
    obtain ⟨n2, h2⟩ := own_wipe h2
    rw [wipe_oth n1, wipe_oth n2] at h3
    exact R.dist j k l ds m es h1 h2 h3
theorem Rel.unwipe (R : Rel K C (L2.wipe σ vs) H F env) (he : wipeE env vs = env) : Rel K C σ H F env := by
  have ow : ∀ (j : Nat) (l : Bool) (ds : Ct), env[j]? = some (SV.obj l ds) → j ∉ vs := fun j l ds h => by
    rw [← he] at h
    exact (own_wipe h).1
  refine ⟨⟨R.frz, R.mono, R.new, R.frame, R.la, by rw [R.len, wipe_length], fun j sv e => ?_, fun j k l ds m es h1 h2 h3 => ?_⟩, R.xok⟩
  · by_cases hj : j ∈ vs
    · rw [← he] at e
      rw [wipeE_mem hj e]
      trivial
    · have q := R.slot j sv e
      rw [wipe_oth hj] at q
      exact q
  · refine R.dist j k l ds m es h1 h2 ?_
    rw [wipe_oth (ow j l ds h1), wipe_oth (ow k m es h2)]
    exact h3
theorem Own.unwipe (he : wipeE env vs = env) {b : Addr} : Own (L2.wipe σ vs) env b ↔ Own σ env b := by
  constructor
  · rintro ⟨j, l, ds, e, s⟩
    have e' := e
    rw [← he] at e'
    rw [wipe_oth (own_wipe e').1] at s
    exact ⟨j, l, ds, e, s⟩
  · rintro ⟨j, l, ds, e, s⟩
    have e' := e
    rw [← he] at e'
    refine ⟨j, l, ds, e, ?_⟩
    rw [wipe_oth (own_wipe e').1]
    exact s
/-- a turn's steps, seen from the comprehension's start -/
theorem Stp.under {τ σ2 : L2.St} {S : List Nat} {H1 F1 H2 F2 H4 F4 : Hp} {env1 env2 env3 env4 : List SV} (hτ : L2.wipe τ vs = τ) (hS : ∀ j ∈ S, j ∈ vs) (acc : Stp K C τ H1 F1 env1 H2 F2 env2) (tg : Tgt S τ σ2 env2 env3) (st : Stp K C σ2 H2 F2 env3 H4 F4 env4) :
    L2.wipe σ2 vs = τ ∧ Stp K C τ H1 F1 env1 H4 F4 (wipeE env4 vs) := by
  have e1 : L2.wipe σ2 vs = τ := by
    rw [← hτ]
    exact wipe_ext tg.len fun j hj => (tg.oth j fun z => hj (hS j z)).1
  have o1 : ∀ b, Own σ2 env3 b → Own τ env2 b := fun b ⟨j, l, ds, e, s⟩ => by
    by_cases hj : j ∈ S
    · obtain ⟨q1, q2⟩ := tg.mem j l ds hj e
      exact ⟨j, l, ds, q1, q2 ▸ s⟩
    · obtain ⟨q1, q2⟩ := tg.oth j hj
      exact ⟨j, l, ds, q2 ▸ e, q1 ▸ s⟩
  have R4 := st.rel.wipe vs
  rw [e1] at R4
  refine ⟨e1, R4, acc.ff.trans' st.ff, fun b o h n => ?_, fun b o h => ?_, fun j l ds h => ?_, fun b h => acc.dm b (st.dm b h)⟩
  · exact st.fr b o (acc.fr b o h n) fun z => n (Own.sub acc.ow (o1 b z))
  · rcases st.fn b o h with z | z | z
    · exact acc.fn b o z
    · exact .inr (.inl (acc.dm b z))
    · exact .inr (.inr (Own.sub acc.ow (o1 b z)))
  · obtain ⟨_, h⟩ := own_wipe h
    obtain ⟨ds3, h⟩ := st.ow j l ds h
    have h2 : env2[j]? = some (SV.obj l ds3) := by
      by_cases hj : j ∈ S
      · exact (tg.mem j l ds3 hj h).1
      · exact (tg.oth j hj).2 ▸ h
    exact acc.ow j l ds3 h2
end
section
variable {X : Cz}
structure ETs (X : Cz) (ifs : List Expr) (T : PT') : Prop where
  ex : ∃ t, PTs X ifs t ∧ LT X.fr t T
def tYes' : PT' := fun env Q => Q true env
theorem ts_nil : ETs X [] tYes' := ⟨_, pts_nil, fun C σ H F env Q Qp R k q => k true H F env (Stp.refl R) q⟩
theorem ts_one {c : Expr} {T : PT'} (h : ET X c T) : ETs X [c] T := by
  obtain ⟨t, h1, l1⟩ := h.ex
  exact ⟨_, pts_one h1, l1⟩
/-- the same in every block -/
abbrev Blk (X : Cz) (scope : Scope) (P : Cz → Prop) : Prop := ∀ (s : Shared) (H : Hp) (C : Addr) (cl : List (Str × Addr)) (fp : List Addr), P (of0 (X.toCx.blk s H scope (compEnvC scope cl C X.env) fp))
theorem blk_ev {scope : Scope} {e : Expr} {T : PE'} (h : Blk X scope fun Y => EV Y e T) : ∃ t, (Blk X scope fun Y => PE Y e t) ∧ LE X.fr t T := by
  refine ⟨fun σ H Q => ∀ s H0 C cl fp, (Classical.choose (h s H0 C cl fp).ex) σ H Q, fun s H0 C cl fp => ⟨fun pins s1 σ H Q I q => ?_⟩, fun C σ H F env Q Qp R k q s H0 C0 cl fp => ?_⟩
  · exact (Classical.choose_spec (h s H0 C cl fp).ex).1.run pins s1 σ H Q I (q s H0 C cl fp)
  · exact LE.up (K := X.fr) (Classical.choose_spec (h s H0 C0 cl fp).ex).2 C σ H F env Q Qp R k q
theorem blk_ts {scope : Scope} {ifs : List Expr} {T : PT'} (h : Blk X scope fun Y => ETs Y ifs T) : ∃ t, (Blk X scope fun Y => PTs Y ifs t) ∧ LT X.fr t T := by
  refine ⟨fun σ H Q => ∀ s H0 C cl fp, (Classical.choose (h s H0 C cl fp).ex) σ H Q, fun s H0 C cl fp => ⟨fun pins s1 σ H Q I q => ?_⟩, fun C σ H F env Q Qp R k q s H0 C0 cl fp => ?_⟩
  · exact (Classical.choose_spec (h s H0 C cl fp).ex).1.run pins s1 σ H Q I (q s H0 C cl fp)
  · exact LT.up (K := X.fr) (Classical.choose_spec (h s H0 C0 cl fp).ex).2 C σ H F env Q Qp R k q
theorem blk_g {scope : Scope} {S : List Nat} {e : Expr} {T : TG'} (h : Blk X scope fun Y => EG Y S e T) : ∃ t, (Blk X scope fun Y => PG Y e t) ∧ LG X.fr S t T := by
  refine ⟨fun v σ H Q => ∀ s H0 C cl fp, (Classical.choose (h s H0 C cl fp).ex) v σ H Q, fun s H0 C cl fp => ⟨fun pins s1 σ H v u Q I r q => ?_⟩, fun C σ H F env v d Q Qp R a k q s H0 C0 cl fp => ?_⟩
  · exact (Classical.choose_spec (h s H0 C cl fp).ex).1.run pins s1 σ H v u Q I r (q s H0 C cl fp)
  · exact LG.up (K := X.fr) (Classical.choose_spec (h s H0 C0 cl fp).ex).2 C σ H F env v d Q Qp R a k q
def pLc (G : TG') (TT : PT') (TE : PE') (vs : List Nat) (Q : List D → List SV → Prop) : List D → List D → List SV → Prop
  | [], acc, env => Q acc env
  | d :: r, acc, env => G d env fun env1 => TT env1 fun b env2 => if b = true then TE env2 fun o env3 => ∃ y env4, o.fz env3 = some (y, env4) ∧ pLc G TT TE vs Q r (acc ++ [y]) (wipeE env4 vs) else pLc G TT TE vs Q r acc (wipeE env2 vs)
def fLc (I : PI') (G : TG') (TT : PT') (TE : PE') (vs : List Nat) : PF' := fun env Q => I env fun ds env1 => wipeE env1 vs = env1 ∧ ds.length ≤ 16777215 ∧ pLc G TT TE vs Q ds [] env1
theorem lc_sound {wi : TI} {g : TG} {tt : TT} {te : TE} {K : FgX} {I : PI'} {S : List Nat} {G : TG'} {TT : PT'} {TE : PE'} {vs : List Nat} (l1 : LI K wi I) (l2 : LG K S g G) (l3 : LT K tt TT) (l4 : LE K te TE) (hS : ∀ j ∈ S, j ∈ vs) : LF K (tLc wi g tt te vs) (fLc I G TT TE vs) := fun C σ H F env Q Qp R k q => by
  refine l1 C σ H F env _ _ R (fun J ds H1 F1 env1 s1 it q1 => ?_) q
  obtain ⟨hw, hlen, q1⟩ := q1
  obtain ⟨Gd, Y, w, gd, yd⟩ := it
  intro Dp hD
  obtain ⟨sD, fD, h0D, noD⟩ := s1.rel.alloc0 (o := .lst []) hD
  have hτ : L2.wipe (L2.wipe σ vs) vs = L2.wipe σ vs := wipe_wipe σ vs
  have R1 : Rel K C (L2.wipe σ vs) H1 F1 env1 := by
    have := s1.rel.wipe vs
    rw [hw] at this
    exact this
  obtain ⟨sD', _, _, noD'⟩ := R1.alloc0 (o := .lst []) hD
  refine lc_it w (Pv := fun i H => ∃ F2 env2 acc accv, Stp K C (L2.wipe σ vs) H1 F1 env1 H F2 env2 ∧ H Dp = some (.lst accv) ∧ F2 Dp = none ∧ ¬ Own (L2.wipe σ vs) env2 Dp ∧ AtAll K F2 acc accv ∧ acc.length ≤ i ∧ wipeE env2 vs = env2 ∧ pLc G TT TE vs Qp (ds.drop i) acc env2)
    ⟨F1, env1, [], [], sD', upd_same, fD, noD', AtAll.nil, Nat.le_refl _, hw, by simpa using q1⟩ (fun i H hi ⟨F2, env2, acc, accv, s2, _⟩ => gd H (s2.ff.trans' s2.rel.frz)) (fun i x H H' hi ⟨F2, env2, acc, accv, s2, hDl, fD2, noD2, aa, hl, hw2, q2⟩ y => ?_) (fun H ⟨F2, env2, acc, accv, s2, hDl, fD2, noD2, aa, hl, hw2, q2⟩ => ?_)
  · obtain ⟨F3, d, e, s3, a3⟩ := (YOk.mono s2.ff (yd i H x H' hi (s2.ff.trans' s2.rel.frz) y)).rel s2.rel
    have e2 : ds.drop i = d :: ds.drop (i + 1) := by
      obtain ⟨hlt, e4⟩ := List.getElem?_eq_some_iff.mp e
      rw [List.drop_eq_getElem_cons hlt, e4]
    rw [e2] at q2
    have acc3 := s2.trans s3
    have hD3 : H' Dp = some (.lst accv) := s3.fr _ _ hDl noD2
    have fD3 : F3 Dp = none := by
      cases qq : F3 Dp with
      | none => rfl
      | some u =>
        rcases s3.fn _ _ qq with z | z | z
        · rw [fD2] at z; cases z
        · rw [hDl] at z; cases z
        · exact absurd z noD2
    refine l2 C _ H' F3 env2 x d _ _ s3.rel a3 (fun σ2 env3 R3 tg q3 => ?_) q2
    have r3 : L2.wipe σ2 vs = L2.wipe σ vs := (Stp.under hτ hS acc3 tg (Stp.refl R3)).1
    refine ⟨r3, ?_⟩
    have no3 : ¬ Own σ2 env3 Dp := fun ⟨j, l, es, e1, e2⟩ => by
      by_cases hj : j ∈ S
      · obtain ⟨f1, f2⟩ := tg.mem j l es hj e1
        exact noD2 ⟨j, l, es, f1, f2 ▸ e2⟩
      · obtain ⟨f1, f2⟩ := tg.oth j hj
        exact noD2 ⟨j, l, es, f2 ▸ e1, f1 ▸ e2⟩
    refine l3 C σ2 H' F3 env3 _ _ R3 (fun b H5 F5 env5 s5 q5 => ?_) q3
    have hD5 : H5 Dp = some (.lst accv) := s5.fr _ _ hD3 no3
    have fD5 : F5 Dp = none := by
      cases qq : F5 Dp with
      | none => rfl
      | some u =>
        rcases s5.fn _ _ qq with z | z | z
        · rw [fD3] at z; cases z
        · rw [hD3] at z; cases z
        · exact absurd z no3
    cases b with
    | true =>
      rw [if_pos rfl] at q5 ⊢
      refine l4 C σ2 H5 F5 env5 _ _ s5.rel (fun v H6 F6 env6 o s6 a6 q6 => ?_) q5
      obtain ⟨y', env7, e7, q7⟩ := q6
      obtain ⟨F7, s7, a7⟩ := fz_ok s6.rel a6 e7
      have st := (s5.trans s6).trans s7
      have no5 : ¬ Own σ2 env5 Dp := fun z => no3 (Own.sub s5.ow z)
      have hD6 : H6 Dp = some (.lst accv) := (s6.fr _ _ hD5 no5)
      have fD7 : F7 Dp = none := by
        cases qq : F7 Dp with
        | none => rfl
        | some u =>
          rcases st.fn _ _ qq with z | z | z
          · rw [fD3] at z; cases z
          · rw [hD3] at z; cases z
          · exact absurd z no3
      obtain ⟨_, u7⟩ := Stp.under hτ hS acc3 tg st
      have no7 : ¬ Own (L2.wipe σ vs) (wipeE env7 vs) Dp := fun z => noD2 (by
        have z1 := Own.sub u7.ow z
        exact absurd z1 noD')
      refine ⟨accv, hD6, ?_, F7, wipeE env7 vs, acc ++ [y'], accv ++ [v], ?_, upd_same, fD7, no7, AtAll.app (AtAll.mono ((s3.ff.trans' st.ff)) _ _ aa) (AtAll.cons a7 AtAll.nil), by rw [List.length_append]; simp only [List.length_cons, List.length_nil]; omega, ?_, q7⟩
      · rw [aa.len, sizeLine_eq]
        have := hi
        omega
      · exact u7.other hD hD6 fD7 h0D no7
      · -- wiped twice
        apply List.ext_getElem?
        intro j
        by_cases hj : j ∈ vs
        · cases z : (wipeE env7 vs)[j]? with
          | none =>
            rw [List.getElem?_eq_none_iff] at z ⊢
            rw [wipeE_len]; exact z
          | some sv =>
            have z1 := wipeE_mem hj z
            have hjl : j < (wipeE (wipeE env7 vs) vs).length := by
              rw [wipeE_len]
              exact (List.getElem?_eq_some_iff.mp z).1
            have z2 := wipeE_mem hj (List.getElem?_eq_getElem hjl)
            rw [List.getElem?_eq_getElem hjl, z2, z1]
        · rw [wipeE_oth hj]
    | false =>
      rw [if_neg (by decide)] at q5 ⊢
      obtain ⟨_, u7⟩ := Stp.under hτ hS acc3 tg s5
      have no7 : ¬ Own (L2.wipe σ vs) (wipeE env5 vs) Dp := fun z => noD' (Own.sub u7.ow z)
      refine ⟨F5, wipeE env5 vs, acc, accv, u7, hD5, fD5, no7, AtAll.mono (s3.ff.trans' s5.ff) _ _ aa, by omega, ?_, q5⟩
      apply List.ext_getElem?
      intro j
      by_cases hj : j ∈ vs
      · cases z : (wipeE env5 vs)[j]? with
        | none =>
          rw [List.getElem?_eq_none_iff] at z ⊢
          rw [wipeE_len]; exact z
        | some sv =>
          have z1 := wipeE_mem hj z
          have hjl : j < (wipeE (wipeE env5 vs) vs).length := by
            rw [wipeE_len]
            exact (List.getElem?_eq_some_iff.mp z).1
          have z2 := wipeE_mem hj (List.getElem?_eq_getElem hjl)
          rw [List.getElem?_eq_getElem hjl, z2, z1]
      · rw [wipeE_oth hj]
  · rw [List.drop_length] at q2
    have q2 : Qp acc env2 := q2
    have R2 := s2.rel.unwipe hw2
    have st : Stp K C σ H1 F1 env1 H F2 env2 := ⟨R2, s2.ff, fun b o h n => s2.fr b o h fun z => n ((Own.unwipe hw).mp z), fun b o h => by
      rcases s2.fn b o h with z | z | z
      · exact .inl z
      · exact .inr (.inl z)
      · exact .inr (.inr ((Own.unwipe hw).mp z)), s2.ow, s2.dm⟩
    exact k Dp accv acc H F2 env2 (s1.trans st) hDl fD2 h0D (fun z => noD2 ((Own.unwipe hw2).mpr z)) (s1.dm _ hD) aa q2
theorem f_lc {elt tg iter : Expr} {ifs : List Expr} {scope : Scope} {own : List (Str × Nat)} {pos : Pos} {I : PI'} {S : List Nat} {G : TG'} {TT : PT'} {TE : PE'} (hc : X.calm = true) (hN : X.N.Nodup) (ok : BlkOk X.N X.env.scope scope own) (hi : EI X tg iter I) (hg : Blk X scope fun Y => EG Y S tg G) (ht : Blk X scope fun Y => ETs Y ifs TT) (he : Blk X scope fun Y => EV Y elt TE)
    (hS : ∀ j ∈ S, j ∈ own.map (·.2) := by decide) (hs : ∀ x, foldedSetIterable iter X.env x = pure x := by intro _; rfl) : EF X (.ListComp elt [⟨tg, iter, ifs, 0⟩] scope pos) (fLc I G TT TE (own.map (·.2))) := by
  obtain ⟨wi, h1, l1⟩ := hi.ex
  obtain ⟨g, h2, l2⟩ := blk_g hg
  obtain ⟨tt, h3, l3⟩ := blk_ts ht
  obtain ⟨te, h4, l4⟩ := blk_ev he
  exact ⟨_, pe_lc hc hN h1 ok h2 h3 h4 hs, lc_sound l1 l2 l3 l4 hS⟩
/-- name = [..] on one line -/
theorem s_setLcF {i : Nat} {y : Str} {py : Pos} {elt tg iter : Expr} {ifs : List Expr} {scope : Scope} {own : List (Str × Nat)} {pos spos : Pos} {I : PI'} {S : List Nat} {G : TG'} {TT : PT'} {TE : PE'} (hc : X.calm = true) (hN : X.N.Nodup) (hy : X.N[i]? = some y) (hyl : X.env.scope.names.lookup y = some .local)
    (hsw : swapsWith (.ListComp elt [⟨tg, iter, ifs, 0⟩] scope pos) (some (.Name y py)) spos.line X.env = pure true) (ok : BlkOk X.N X.env.scope scope own) (hi : EI X tg iter I) (hg : Blk X scope fun Y => EG Y S tg G) (ht : Blk X scope fun Y => ETs Y ifs TT) (he : Blk X scope fun Y => EV Y elt TE)
    (hS : ∀ j ∈ S, j ∈ own.map (·.2) := by decide) (hs : ∀ x, foldedSetIterable iter X.env x = pure x := by intro _; rfl) : ES X (.Assign [.Name y py] (.ListComp elt [⟨tg, iter, ifs, 0⟩] scope pos) spos) (sAsgF i (fLc I G TT TE (own.map (·.2)))) := by
  obtain ⟨wi, h1, l1⟩ := hi.ex
  obtain ⟨g, h2, l2⟩ := blk_g hg
  obtain ⟨tt, h3, l3⟩ := blk_ts ht
  obtain ⟨te, h4, l4⟩ := blk_ev he
  refine ⟨_, ps_setLc hc hN hy hyl hsw h1 ok h2 h3 h4 hs, fun C σ H F env D Dp R k q => ?_⟩
  refine (lc_sound l1 l2 l3 l4 hS) C σ H F env _ _ R (fun p xs ds H1 F1 env1 s1 hp fp h0 no hn a q1 => ?_) q
  exact k.nx _ H1 F1 _ (s1.rel.assignF (by rw [← s1.rel.len]; exact q1.1) hp fp h0 no a) s1.ff q1.2
theorem s_setLc {i : Nat} {y : Str} {py : Pos} {elt tg iter : Expr} {ifs : List Expr} {scope : Scope} {own : List (Str × Nat)} {pos spos : Pos} {I : PI'} {S : List Nat} {G : TG'} {TT : PT'} {TE : PE'} (hc : X.calm = true) (hN : X.N.Nodup) (hy : X.N[i]? = some y) (hyl : X.env.scope.names.lookup y = some .local)
    (hsw : swapsWith (.ListComp elt [⟨tg, iter, ifs, 0⟩] scope pos) (some (.Name y py)) spos.line X.env = pure true) (ok : BlkOk X.N X.env.scope scope own) (hi : EI X tg iter I) (hg : Blk X scope fun Y => EG Y S tg G) (ht : Blk X scope fun Y => ETs Y ifs TT) (he : Blk X scope fun Y => EV Y elt TE)
    (hS : ∀ j ∈ S, j ∈ own.map (·.2) := by decide) (hs : ∀ x, foldedSetIterable iter X.env x = pure x := by intro _; rfl) : ES X (.Assign [.Name y py] (.ListComp elt [⟨tg, iter, ifs, 0⟩] scope pos) spos) (sAsg i (qF (fLc I G TT TE (own.map (·.2))))) := by
  obtain ⟨wi, h1, l1⟩ := hi.ex
  obtain ⟨g, h2, l2⟩ := blk_g hg
  obtain ⟨tt, h3, l3⟩ := blk_ts ht
  obtain ⟨te, h4, l4⟩ := blk_ev he
  refine ⟨_, ps_setLc hc hN hy hyl hsw h1 ok h2 h3 h4 hs, fun C σ H F env D Dp R k q => ?_⟩
  refine (lc_sound l1 l2 l3 l4 hS) C σ H F env _ _ R (fun p xs ds H1 F1 env1 s1 hp fp h0 no hn a q1 => ?_) q
  obtain ⟨d, env2, e, hl, q1⟩ := q1
  simp only [OV.fz, Option.some.injEq, Prod.mk.injEq] at e
  obtain ⟨rfl, rfl⟩ := e
  have ff : Le F1 (upd F1 p (.lst xs)) := fun b u h => by
    rw [upd_ne (ne_of_none h fp)]; exact h
  have R1 := s1.rel.freeze hp fp h0 no
  exact k.nx _ H1 _ _ (R1.assign (by rw [← R1.len]; exact hl) (At.list_of upd_same (AtAll.mono ff _ _ a))) (s1.ff.trans' ff) q1
end
end Sw

set_option Elab.async false
set_option linter.all false
set_option maxRecDepth 100000
namespace Sw
open PySem PySem.Spec L2

def LentE (l : Bool) (env : List SV) (fl : Option (List D)) : Prop := if l = true then ∃ ds, env[0]? = some (SV.own true ds) ∧ fl = some ds else fl = none
/-- the slots at a def's entry -/
def startE (l : Bool) (N : List Str) (fl : Option (List D)) (ds : List D) : List SV :=
  (match l, fl with | true, some fd => [SV.own true fd] | _, _ => []) ++ ds.map SV.dat ++ List.replicate (N.length - (ds.length + if l = true then 1 else 0)) SV.un
/-- what a def's body is to reach -/
def endsOf (l : Bool) (Q : RV → Option (List D) → Prop) : PEnds := { nx := fun env => ∃ fl, LentE l env fl ∧ Q (.dt .none) fl, rt := fun rv env => ∃ fl, LentE l env fl ∧ Q rv fl }
section
variable {P : Program} {w : World} {K : PySem.W.Frag} {mg : Str → Option Value} {base : Heap}
theorem start_rel {K : FgK} {H F : Hp} {N : List Str} {l : Bool} {vs ws : List V} {la : Option Addr} {fl : Option (List D)} {ds : List D} (hF : Le F H) (ha : AtAll K F ds ws)
    (hl : if l = true then ∃ a xs fd, vs = .ref a :: ws ∧ la = some a ∧ H a = some (.lst xs) ∧ F a = none ∧ fl = some fd ∧ AtAll K F fd xs else vs = ws ∧ la = none ∧ fl = none) (hn : vs.length ≤ N.length) : RelB K ⟨H, F, la⟩ (start N vs) H F (startE l N fl ds) := by
  cases l with
  | false =>
    obtain ⟨rfl, rfl, rfl⟩ := hl
    have e1 : start N vs = vs.map some ++ List.replicate (N.length - vs.length) none := rfl
    have e2 : startE false N none ds = ds.map SV.dat ++ List.replicate (N.length - ds.length) SV.un := by simp [startE]
    have noown : ∀ (i : Nat) (m : Bool) (es : Ct), (startE false N none ds)[i]? ≠ some (SV.obj m es) := fun i m es h => by
      rw [e2] at h
      have := List.mem_of_getElem? h
      rw [List.mem_append] at this
      rcases this with q | q
      · obtain ⟨d, _, e⟩ := List.mem_map.mp q
        cases e
      · have := List.eq_of_mem_replicate q
        cases this
    refine ⟨hF, Le.rfl', fun b o h => .inl h, fun b o h _ => h, fun a h => (by cases h), ?_, fun i sv e => ?_, fun i j m ds' n es h1 => absurd h1 (noown i m ds')⟩
    · rw [e1, e2]
      simp [ha.len]
    · rw [e2] at e
      by_cases hi : i < ds.length
      · rw [List.getElem?_append_left (by rw [List.length_map]; exact hi), List.getElem?_map] at e
        rw [List.getElem?_eq_getElem hi] at e
        cases e
        obtain ⟨v, e3, a3⟩ := ha.get (List.getElem?_eq_getElem hi)
        refine ⟨v, ?_, a3⟩
        rw [e1, List.getElem?_append_left (by rw [List.length_map, ha.len]; exact hi), List.getElem?_map, e3]
        rfl
      · rw [List.getElem?_append_right (by rw [List.length_map]; omega)] at e
        have := List.eq_of_mem_replicate (List.mem_of_getElem? e)
        subst this
        trivial
  | true =>
    obtain ⟨a, xs, fd, rfl, rfl, h1, h2, rfl, h3⟩ := hl
    have e1 : start N (.ref a :: ws) = some (.ref a) :: (ws.map some ++ List.replicate (N.length - (ws.length + 1)) none) := rfl
    have e2 : startE true N (some fd) ds = SV.own true fd :: (ds.map SV.dat ++ List.replicate (N.length - (ds.length + 1)) SV.un) := by simp [startE]
    have own0 : ∀ (i : Nat) (m : Bool) (es : Ct), (startE true N (some fd) ds)[i]? = some (SV.obj m es) → i = 0 := fun i m es h => by
      rw [e2] at h
      cases i with
      | zero => rfl
      | succ i =>
        rw [List.getElem?_cons_succ] at h
        have := List.mem_of_getElem? h
        rw [List.mem_append] at this
        rcases this with q | q
        · obtain ⟨d, _, e⟩ := List.mem_map.mp q
          cases e
        · have := List.eq_of_mem_replicate q
          cases this
    refine ⟨hF, Le.rfl', fun b o h => .inl h, fun b o h _ => h, fun b h => ?_, ?_, fun i sv e => ?_, fun i j m ds' n es g1 g2 _ => by rw [own0 i m ds' g1, own0 j n es g2]⟩
    · cases h
      exact ⟨⟨⟨.lst xs, trivial⟩, h1⟩, h2, _, h1⟩
    · rw [e1, e2]
      simp [ha.len]
    · rw [e2] at e
      rw [e1]
      cases i with
      | zero =>
        cases e
        exact ⟨a, _, rfl, h1, h2, rfl, xs, rfl, h3⟩
      | succ i =>
        rw [List.getElem?_cons_succ] at e ⊢
        by_cases hi : i < ds.length
        · rw [List.getElem?_append_left (by rw [List.length_map]; exact hi), List.getElem?_map] at e
          rw [List.getElem?_eq_getElem hi] at e
          cases e
          obtain ⟨v, e3, a3⟩ := ha.get (List.getElem?_eq_getElem hi)
          refine ⟨v, ?_, a3⟩
          rw [List.getElem?_append_left (by rw [List.length_map, ha.len]; exact hi), List.getElem?_map, e3]
          rfl
        · rw [List.getElem?_append_right (by rw [List.length_map]; omega)] at e
          have := List.eq_of_mem_replicate (List.mem_of_getElem? e)
          subst this
          trivial
theorem ends_ok {K : FgX} {H F : Hp} {la : Option Addr} {l : Bool} {Q : VK} {Qp : RV → Option (List D) → Prop} (hl : l = true ↔ la ≠ none) (k : ∀ v H' F' rv fl', Post K la H F rv fl' v H' F' → Qp rv fl' → Q v H') :
    EndsOk K ⟨H, F, la⟩ F { nx := fun _ H' => Q .non H', rt := Q } (endsOf l Qp) := by
  have main : ∀ σ' H' F' env' rv v, Rel K ⟨H, F, la⟩ σ' H' F' env' → RvOk K ⟨H, F, la⟩ H' F' rv v → (∃ fl, LentE l env' fl ∧ Qp rv fl) → Q v H' := fun σ' H' F' env' rv v R a ⟨fl, e, q⟩ => by
    refine k v H' F' rv fl ⟨R.frz, R.mono, R.new, R.frame, fun b hb => ?_, a⟩ q
    have hb : la = some b := hb
    have : l = true := hl.mpr (by rw [hb]; exact fun z => nomatch z)
    subst this
    obtain ⟨ds, e1, rfl⟩ := e
    obtain ⟨p, xs, f1, f2, f3, f4, f5⟩ := R.slotL e1
    rw [if_pos rfl] at f4
    have f4 : la = some p := f4
    rw [hb] at f4
    cases f4
    exact ⟨xs, ds, f2, f3, rfl, f5⟩
  exact ⟨fun σ' H' F' env' R _ q => main σ' H' F' env' (.dt .none) .non R (by simp [RvOk, At]) q, fun σ' H' F' env' rv v R _ a q => main σ' H' F' env' rv v R a q, fun _ _ _ _ _ _ h => h.elim, fun _ _ _ _ _ _ h => h.elim⟩
end
section
variable {X : Cz}
theorem Post.stpL {K : FgX} {C : Ec} {σ : L2.St} {H F : Hp} {env : List SV} {i : Nat} {l : Bool} {ds ds' : List D} {a : Addr} {rv : RV} {v : V} {H' F' : Hp} (R : Rel K C σ H F env) (he : env[i]? = some (.own l ds)) (hs : σ[i]? = some (some (.ref a))) (p : Post K (some a) H F rv (some ds') v H' F') :
    Stp K C σ H F env H' F' (env.set i (.own l ds')) := by
  obtain ⟨a', xs0, g1, g2, g3, g4, g5⟩ := R.slotL he
  rw [hs] at g1
  cases g1
  obtain ⟨xs', ds2, k1, k2, k3, k4⟩ := p.lent a rfl
  cases k3
  have hi : i < env.length := (List.getElem?_eq_some_iff.mp he).1
  have no : ∀ b o, H b = some o → F b = none → F' b = none := fun b o h f => by
    cases q : F' b with
    | none => rfl
    | some u =>
      rcases p.new b u q with z | z
      · rw [f] at z; cases z
      · rw [h] at z; cases z
  have oth : ∀ (j : Nat) (m : Bool) (es : Ct), (env.set i (.own l ds'))[j]? = some (SV.obj m es) → ∃ es', env[j]? = some (SV.obj m es') := fun j m es h => by
    by_cases e : j = i
    · subst e; rw [List.getElem?_set_self hi] at h; cases h; exact ⟨.lst ds, he⟩
    · rw [List.getElem?_set_ne (Ne.symm e)] at h; exact ⟨es, h⟩
  have la' : ∀ b, b ≠ a → (some a : Option Addr) ≠ some b := fun b h z => h (Option.some.inj z).symm
  refine ⟨⟨⟨p.frz, R.mono.trans' p.mono, fun b o h => ?_, fun b o h n => ?_, fun b h => ?_, by rw [List.length_set]; exact R.len, fun j sv e => ?_, fun j k m es n fs h1 h2 h3 => ?_⟩, R.xok⟩, p.mono, fun b o h n => ?_, fun b o h => ?_, oth, fun b h => ?_⟩
  · rcases p.new b o h with z | z
    · exact R.new b o z
    · cases q : C.H0 b with
      | none => exact .inr rfl
      | some u =>
        by_cases hl : C.la = some b
        · obtain ⟨⟨xs, e⟩, _⟩ := R.la b hl
          rw [e] at z; cases z
        · rw [R.frame b u q hl] at z; cases z
  · have q := R.frame b o h n
    refine p.frame b o q (la' b ?_)
    rintro rfl
    cases l with
    | true => exact n (by simpa using g4)
    | false => rw [if_neg (by decide)] at g4; rw [g4] at h; cases h
  · obtain ⟨⟨xs, e⟩, f, g⟩ := R.la b h
    by_cases hb : b = a
    · subst hb
      exact ⟨⟨⟨.lst xs', trivial⟩, k1⟩, k2, g⟩
    · exact ⟨⟨xs, p.frame b _ e (la' b hb)⟩, no b _ e f, g⟩
  · by_cases e' : j = i
    · subst e'
      rw [List.getElem?_set_self hi] at e
      cases e
      exact ⟨a, _, hs, k1, k2, g4, xs', rfl, k4⟩
    · rw [List.getElem?_set_ne (Ne.symm e')] at e
      have q := R.slot j sv e
      cases sv with
      | un => trivial
      | raw z => exact q
      | dat d =>
        obtain ⟨v, e1, a⟩ := q
        exact ⟨v, e1, At.mono p.mono _ _ a⟩
      | obj m es =>
        obtain ⟨r, xs, e1, e2, e3, e4, e5⟩ := q
        have ne : r ≠ a := by
          rintro rfl
          exact e' (R.dist j i m es l (.lst ds) e he (e1.trans hs.symm))
        exact ⟨r, xs, e1, p.frame r _ e2 (la' r ne), no r _ e2 e3, e4, e5.mono p.mono⟩
  · obtain ⟨es', h1⟩ := oth j m es h1
    obtain ⟨fs', h2⟩ := oth k n fs h2
    exact R.dist j k m es' n fs' h1 h2 h3
  · refine p.frame b o h (la' b ?_)
    rintro rfl
    exact n ⟨i, l, .lst ds, he, hs⟩
  · rcases p.new b o h with z | z
    · exact .inl z
    · exact .inr (.inl z)
  · by_cases hb : b = a
    · subst hb
      rw [k1] at h; cases h
    · cases q : H b with
      | none => rfl
      | some u =>
        rw [p.frame b u q (la' b hb)] at h; cases h
variable {k : Nat} {f : Addr} {fd : FuncData} {ps : List Str} {sp : PSp} {x : Str} {e : Expr} {es : List Expr} {T : PA'} {p pos : Pos}
theorem consts_nil : constsOk [] [] := fun _ _ => AtAll.nil
theorem q_call {dvs : List V} {dds : List D} {ds : List Value} (F : FnOk X.prog X.w X.fr X.mg X.base CX0 k f fd ps (spOf X.fr false sp)) (hr : Room k X.A) (hg : Gl X x) (hm : X.mg x = some (.ref f)) (hk : PySem.W.keepIn X.fr (.ref f) = true) (hb : Binds X.fr fd ps ds) (hd : Vals dvs ds) (hdd : constsOk dvs dds)
    (ha : EA X (e :: es) T) (hdb : (x == ("__debug__" : Str)) = false := by decide) (he : starEach (e :: es) X.env = (false, eval e X.env) :: starEach es X.env := by rfl) (hpl : (backTo pos (starEach es X.env)).any (·.1) = false := by rfl) :
    EV X (.Call (.Name x p) (e :: es) [] pos) (qCall sp (qAddD T dds)) := by
  obtain ⟨t, h1, l1⟩ := ha.ex
  exact ⟨_, pe_call F hr hg hm hk hb hd pass0 h1 hdb he hpl, LE.call hdd l1⟩
theorem f_call {dvs : List V} {dds : List D} {ds : List Value} (F : FnOk X.prog X.w X.fr X.mg X.base CX0 k f fd ps (spOf X.fr false sp)) (hr : Room k X.A) (hg : Gl X x) (hm : X.mg x = some (.ref f)) (hk : PySem.W.keepIn X.fr (.ref f) = true) (hb : Binds X.fr fd ps ds) (hd : Vals dvs ds) (hdd : constsOk dvs dds)
    (ha : EA X (e :: es) T) (hdb : (x == ("__debug__" : Str)) = false := by decide) (he : starEach (e :: es) X.env = (false, eval e X.env) :: starEach es X.env := by rfl) (hpl : (backTo pos (starEach es X.env)).any (·.1) = false := by rfl) :
    EF X (.Call (.Name x p) (e :: es) [] pos) (fCall sp (qAddD T dds)) := by
  obtain ⟨t, h1, l1⟩ := ha.ex
  exact ⟨_, pe_call F hr hg hm hk hb hd pass0 h1 hdb he hpl, LF.call hdd l1⟩
/-- f(a slot's list, lent; ..) -/
def qCallL (sp : PSp) (i : Nat) (T : PA') : PE' := fun env Q => (∃ l0 ds0, env[i]? = some (.own l0 ds0)) ∧ T env fun os env1 => ∃ ds env2, fzAll env1 os = some (ds, env2) ∧ ∃ l fd, env2[i]? = some (.own l fd) ∧ sp (some fd) ds fun rv fl => ∃ fd', fl = some fd' ∧ Q (.dv rv.toD) (env2.set i (.own l fd'))
def fCallL (sp : PSp) (i : Nat) (T : PA') : PF' := fun env Q => (∃ l0 ds0, env[i]? = some (.own l0 ds0)) ∧ T env fun os env1 => ∃ ds env2, fzAll env1 os = some (ds, env2) ∧ ∃ l fd, env2[i]? = some (.own l fd) ∧ sp (some fd) ds fun rv fl => ∃ fd' es, fl = some fd' ∧ rv = .fr es ∧ Q es (env2.set i (.own l fd'))
theorem LE.callL {t : TA} {dvs : List V} {dds : List D} {E : XK} (i : Nat) (hd : constsOk dvs dds) (l1 : LA X.fr t T) : LE X.fr (tCall (spOf X.fr true sp) dvs E (tCons (tVar i) t)) (qCallL sp i (qAddD T dds)) := fun C σ H F env Q Qp R kk q => by
  obtain ⟨⟨l0, ds0, e0⟩, q⟩ := q
  obtain ⟨a, xs0, f1, f2, f3, f4, f5⟩ := R.slotL e0
  refine ⟨.ref a, f1, ?_⟩
  refine l1 C σ H F env _ _ R (fun vs H1 F1 env1 os s1 a1 q1 => ?_) q
  obtain ⟨ds, env2, e1, l, fd, e2, q1⟩ := q1
  obtain ⟨F2, s2, a2⟩ := fzAll_ok s1.rel (a1.app (hd X.fr F1)) e1
  obtain ⟨a', xs, g1, g2, g3, g4, g5⟩ := s2.rel.slotL e2
  rw [f1] at g1
  cases g1
  refine ⟨F2, some a, some fd, ds, vs ++ dvs, s2.rel.frz, a2, by rw [if_pos rfl]; exact ⟨a, xs, fd, rfl, rfl, g2, g3, rfl, g5⟩, _, q1, fun v H' F' rv fl' pp qq => ?_⟩
  obtain ⟨fd', rfl, qq⟩ := qq
  have s3 := pp.stpL s2.rel e2 f1
  obtain ⟨F3, s4, a4⟩ := known_of s2.rel s3 pp.res
  exact kk v H' F3 _ (.dv rv.toD) ((s1.trans s2).trans s4) a4 qq
theorem LF.callL {t : TA} {dvs : List V} {dds : List D} {E : XK} (i : Nat) (hd : constsOk dvs dds) (l1 : LA X.fr t T) : LF X.fr (tCall (spOf X.fr true sp) dvs E (tCons (tVar i) t)) (fCallL sp i (qAddD T dds)) := fun C σ H F env Q Qp R kk q => by
  obtain ⟨⟨l0, ds0, e0⟩, q⟩ := q
  obtain ⟨a, xs0, f1, f2, f3, f4, f5⟩ := R.slotL e0
  refine ⟨.ref a, f1, ?_⟩
  refine l1 C σ H F env _ _ R (fun vs H1 F1 env1 os s1 a1 q1 => ?_) q
  obtain ⟨ds, env2, e1, l, fd, e2, q1⟩ := q1
  obtain ⟨F2, s2, a2⟩ := fzAll_ok s1.rel (a1.app (hd X.fr F1)) e1
  obtain ⟨a', xs, g1, g2, g3, g4, g5⟩ := s2.rel.slotL e2
  rw [f1] at g1
  cases g1
  refine ⟨F2, some a, some fd, ds, vs ++ dvs, s2.rel.frz, a2, by rw [if_pos rfl]; exact ⟨a, xs, fd, rfl, rfl, g2, g3, rfl, g5⟩, _, q1, fun v H' F' rv fl' pp qq => ?_⟩
  obtain ⟨fd', es', rfl, rfl, qq⟩ := qq
  have s3 := pp.stpL s2.rel e2 f1
  obtain ⟨r, ys, rfl, h1, h2, h3, h4⟩ := pp.res
  have h3 : H1 r = none := h3
  obtain ⟨h0, no⟩ := fresh_of s2.rel s3 h3
  exact kk r ys es' H' F' _ ((s1.trans s2).trans s3) h1 h2 h0 no (s1.dm r (s2.dm r h3)) h4 qq
theorem q_callL (i : Nat) {y : Str} {py : Pos} {dvs : List V} {dds : List D} {ds : List Value} (F : FnOk X.prog X.w X.fr X.mg X.base CX0 k f fd ps (spOf X.fr true sp)) (hr : Room k X.A) (hg : Gl X x) (hm : X.mg x = some (.ref f)) (hk : PySem.W.keepIn X.fr (.ref f) = true) (hb : Binds X.fr fd ps ds) (hd : Vals dvs ds) (hdd : constsOk dvs dds)
    (ha : EA X es T) (hN : X.N[i]? = some y := by rfl) (hv : Vis X.env.scope y := by first | exact Or.inl rfl | exact Or.inr (Or.inl rfl) | exact Or.inr (Or.inr rfl)) (hd1 : (y == ("__debug__" : Str)) = false := by decide) (hcd : (y == ("__classdict__" : Str)) = false := by decide)
    (hdb : (x == ("__debug__" : Str)) = false := by decide) (he : starEach (.Name y py :: es) X.env = (false, eval (.Name y py) X.env) :: starEach es X.env := by rfl) (hpl : (backTo pos (starEach es X.env)).any (·.1) = false := by rfl) :
    EV X (.Call (.Name x p) (.Name y py :: es) [] pos) (qCallL sp i (qAddD T dds)) := by
  obtain ⟨t, h1, l1⟩ := ha.ex
  exact ⟨_, pe_call F hr hg hm hk hb hd pass0 (pa_cons (pe_var hN hv hd1 hcd) h1 he) hdb he hpl, LE.callL i hdd l1⟩
end
end Sw

set_option Elab.async false
set_option linter.all false
set_option maxRecDepth 100000
namespace Sw
open PySem PySem.Spec L2

section
variable {P : Program} {w : World} {K : PySem.W.Frag} {mg : Str → Option Value} {base : Heap}
/-- THE RULE of a def -/
theorem defD_ok {x qual : Str} {params : Arguments} {body : List Stmt} {scope : Scope} {dvs : List V} {kws : List (Str × V)} {f : Addr} {fd : FuncData} {N ps : List Str} {k : Nat} {sp : PSp} (l : Bool) (F : FunD K x qual params body scope dvs kws f fd) (S : FnScope N ps scope) (len : ∀ fl ds Q, sp fl ds Q → ds.length + (if l = true then 1 else 0) = ps.length)
    (hn : ps.length ≤ N.length) (hbody : ∀ (cdv : Value) (A : Around) (outer : List Env) (s : Shared) (H : Hp) (E : XK), Room k (A.deeper (PyProof.Rows.envOfC qual scope s.heap.objs.size f cdv)) →
      ∃ T, EB (of0 (cxOf CX0 P w K mg base N qual scope f cdv A outer s H E).nox) body T ∧ ∀ fl ds Q, (l = true ↔ fl ≠ none) → sp fl ds Q → T (endsOf l Q) (startE l N fl ds)) : FnOk P w K mg base CX0 (k + 1) f fd ps (spOf ⟨K, P, w⟩ l sp) := by
  have lens : ∀ vs H Q E, spOf ⟨K, P, w⟩ l sp vs H Q E → vs.length = ps.length := fun vs H Q E h => by
    obtain ⟨F, la, fl, ds, ws, hF, ha, hl, Qp, hp, k⟩ := h
    have := len fl ds Qp hp
    cases l with
    | false =>
      obtain ⟨rfl, _, _⟩ := hl
      rw [ha.len]
      simpa using this
    | true =>
      obtain ⟨a, xs, fd, rfl, _⟩ := hl
      rw [List.length_cons, ha.len]
      simpa using this
  refine F.ok S lens (fun cdv A outer s H vs Q E hr h => ?_)
  have hlen := lens vs H Q E h
  obtain ⟨F0, la, fl, ds, ws, hF, ha, hl, Qp, hp, k⟩ := h
  obtain ⟨T, hb, ht⟩ := hbody cdv A outer s H E hr
  obtain ⟨t, h1, l1⟩ := hb.ex
  refine ⟨t, h1.nox, ?_⟩
  have hll : (l = true ↔ la ≠ none) ∧ (l = true ↔ fl ≠ none) := by
    cases l with
    | false =>
      obtain ⟨_, rfl, rfl⟩ := hl
      simp
    | true =>
      obtain ⟨a, xs, fd, _, rfl, _, _, rfl, _⟩ := hl
      simp
  exact l1 ⟨H, F0, la⟩ (start N vs) H F0 (startE l N fl ds) _ (endsOf l Qp) ⟨start_rel hF ha hl (by omega), xok_no rfl⟩ (ends_ok hll.1 k) (ht fl ds Qp hll.2 hp)
end
section
variable {X : Cz} {k j : Nat} {ps : List Str} {sp : PSp} {x : Str} {e : Expr} {es : List Expr} {T : PA'} {p pos : Pos} {dds : List D}
theorem q_cal (c : Cal X.prog X.w X.K X.mg X.base k x false ps dds sp) (hr : Room j X.A) (hkj : k ≤ j) (hg : Gl X x) (ha : EA X (e :: es) T) (hdb : (x == ("__debug__" : Str)) = false := by decide) (he : starEach (e :: es) X.env = (false, eval e X.env) :: starEach es X.env := by rfl) (hpl : (backTo pos (starEach es X.env)).any (·.1) = false := by rfl) :
    EV X (.Call (.Name x p) (e :: es) [] pos) (qCall sp (qAddD T dds)) := by
  obtain ⟨f, fd, dvs, ds, h1, h2, h3, h4, h5, h6⟩ := c.ex
  exact q_call h1 (hr.mono hkj) hg h2 h3 h4 h5 h6 ha hdb he hpl
theorem f_cal (c : Cal X.prog X.w X.K X.mg X.base k x false ps dds sp) (hr : Room j X.A) (hkj : k ≤ j) (hg : Gl X x) (ha : EA X (e :: es) T) (hdb : (x == ("__debug__" : Str)) = false := by decide) (he : starEach (e :: es) X.env = (false, eval e X.env) :: starEach es X.env := by rfl) (hpl : (backTo pos (starEach es X.env)).any (·.1) = false := by rfl) :
    EF X (.Call (.Name x p) (e :: es) [] pos) (fCall sp (qAddD T dds)) := by
  obtain ⟨f, fd, dvs, ds, h1, h2, h3, h4, h5, h6⟩ := c.ex
  exact f_call h1 (hr.mono hkj) hg h2 h3 h4 h5 h6 ha hdb he hpl
theorem q_calL (i : Nat) {y : Str} {py : Pos} (c : Cal X.prog X.w X.K X.mg X.base k x true ps dds sp) (hr : Room j X.A) (hkj : k ≤ j) (hg : Gl X x) (ha : EA X es T) (hN : X.N[i]? = some y := by rfl) (hv : Vis X.env.scope y := by first | exact Or.inl rfl | exact Or.inr (Or.inl rfl) | exact Or.inr (Or.inr rfl)) (hd1 : (y == ("__debug__" : Str)) = false := by decide) (hcd : (y == ("__classdict__" : Str)) = false := by decide)
    (hdb : (x == ("__debug__" : Str)) = false := by decide) (he : starEach (.Name y py :: es) X.env = (false, eval (.Name y py) X.env) :: starEach es X.env := by rfl) (hpl : (backTo pos (starEach es X.env)).any (·.1) = false := by rfl) :
    EV X (.Call (.Name x p) (.Name y py :: es) [] pos) (qCallL sp i (qAddD T dds)) := by
  obtain ⟨f, fd, dvs, ds, h1, h2, h3, h4, h5, h6⟩ := c.ex
  exact q_callL i h1 (hr.mono hkj) hg h2 h3 h4 h5 h6 ha hN hv hd1 hcd hdb he hpl
end
section
variable {X : Cz} {K : FgX}
abbrev rMulA : R2 := fun x y H Q => rI CMul (fun i j => .int (i * j)) x y H Q ∨ (fun x y H Q => ∃ a n, x = V.str a ∧ y = V.int n ∧ n ≤ 1000 ∧ -1000 ≤ n ∧ a.length ≤ 1000 ∧ Q (.str (Txt.mul a n)) H) x y H Q
theorem op_mulA : OpR X (binaryOp .Mult) rMulA := op_mul.or op_mul_str
theorem l_mul : LO2 K rMulA gMul := fun C σ H F env x y dx dy d Q R a b e k => by
  unfold gMul at e
  split at e
  · split at e
    · cases e
      rw [a.int, b.int]
      exact .inl ⟨_, _, rfl, rfl, ‹_›, k _ H F (Stp.refl R) (by simp [At])⟩
    · cases e
  · split at e
    · rename_i h
      cases e
      rw [a.str, b.int]
      exact .inr ⟨_, _, rfl, rfl, h.1, h.2.1, h.2.2, k _ H F (Stp.refl R) (by simp [At])⟩
    · cases e
  · cases e
def fOp (g : D → D → Option (List D)) (A B : PE') : PF' := fun env Q => A env fun o1 env1 => B env1 fun o2 env2 => ∃ d1, o1.rd env2 = some d1 ∧ ∃ d2, o2.rd env2 = some d2 ∧ ∃ ds, g d1 d2 = some ds ∧ Q ds env2
def gCatF : D → D → Option (List D)
  | .list a, .list b => if a.length + b.length ≤ sizeLine then some (a ++ b) else none
  | _, _ => none
end
abbrev Bts : List Str := ["len", "isinstance", "str", "int", "bool", "list", "tuple", "dict", "range", "all", "any", "sorted", "set", "min", "max", "ord", "enumerate", "sum", "abs", "reversed", "zip"]
abbrev Bt (mg : Str → Option Value) : Prop := ∀ x ∈ Bts, mg x = none
end Sw

set_option Elab.async false
set_option linter.all false
set_option maxRecDepth 100000
namespace Sw
open PySem PySem.Spec L2
theorem cut_seq {A B : PS'} {Dp : PEnds} {env : List SV} (I : List SV → Prop) (hB : ∀ env', I env' → B Dp env') (hA : ∀ nx : List SV → Prop, (∀ env', I env' → nx env') → A { Dp with nx := nx } env) : sSeq A B Dp env := hA _ hB
theorem ex_some {α : Type} {a : α} {P : α → Prop} : (∃ b, some a = some b ∧ P b) ↔ P a := ⟨fun ⟨b, e, h⟩ => by cases e; exact h, fun h => ⟨a, rfl, h⟩⟩
theorem ex_fz {a : D} {env : List SV} {P : D → List SV → Prop} : (∃ d env2, some (a, env) = some (d, env2) ∧ P d env2) ↔ P a env := ⟨fun ⟨d, e2, e, h⟩ => by cases e; exact h, fun h => ⟨a, env, rfl, h⟩⟩
theorem ex_fzs {a : List D} {env : List SV} {P : List D → List SV → Prop} : (∃ d env2, some (a, env) = some (d, env2) ∧ P d env2) ↔ P a env := ⟨fun ⟨d, e2, e, h⟩ => by cases e; exact h, fun h => ⟨a, env, rfl, h⟩⟩
theorem ex_own {l : Bool} {ds : List D} {P : Bool → List D → Prop} : (∃ l' ds', some (SV.own l ds) = some (SV.own l' ds') ∧ P l' ds') ↔ P l ds := ⟨fun ⟨d, e2, e, h⟩ => by cases e; exact h, fun h => ⟨_, _, rfl, h⟩⟩
theorem ex_own0 {l : Bool} {ds : List D} : (∃ l' ds', some (SV.own l ds) = some (SV.own l' ds')) ↔ True := ⟨fun _ => trivial, fun _ => ⟨_, _, rfl⟩⟩
theorem ex_ownF {ds : List D} {P : List D → Prop} : (∃ ds', some (SV.own false ds) = some (SV.own false ds') ∧ P ds') ↔ P ds := ⟨fun ⟨d, e, h⟩ => by cases e; exact h, fun h => ⟨_, rfl, h⟩⟩
theorem ex_bool {b : Bool} {P : Bool → Prop} : (∃ b', some (PyData.bool b) = some (.bool b') ∧ P b') ↔ P b := ⟨fun ⟨d, e, h⟩ => by cases e; exact h, fun h => ⟨_, rfl, h⟩⟩
theorem ex_int {b : Int} {P : Int → Prop} : (∃ b', some (PyData.int b) = some (.int b') ∧ P b') ↔ P b := ⟨fun ⟨d, e, h⟩ => by cases e; exact h, fun h => ⟨_, rfl, h⟩⟩
theorem ex_lst {b : List D} {P : List D → Prop} : (∃ b', some (PyData.list b) = some (.list b') ∧ P b') ↔ P b := ⟨fun ⟨d, e, h⟩ => by cases e; exact h, fun h => ⟨_, rfl, h⟩⟩
theorem ex_strv {b : Str} {P : Str → Prop} : (∃ b', OV.dv (PyData.str b) = OV.dv (.str b') ∧ P b') ↔ P b := ⟨fun ⟨d, e, h⟩ => by cases e; exact h, fun h => ⟨_, rfl, h⟩⟩
theorem ex_svd {d : D} : (∃ d', svD (SV.dat d) = some d') ↔ True := ⟨fun _ => trivial, fun _ => ⟨d, rfl⟩⟩
theorem ex_svo {l : Bool} {ds : List D} : (∃ d', svD (SV.own l ds) = some d') ↔ True := ⟨fun _ => trivial, fun _ => ⟨_, rfl⟩⟩
theorem bindS {α β : Type} {a : α} {f : α → Option β} : (some a).bind f = f a := rfl
theorem mapS {α β : Type} {a : α} {f : α → β} : (some a).map f = some (f a) := rfl
theorem atI_at {α : Type} {xs : List α} {i : Int} (h0 : 0 ≤ i) : atI xs i = xs[i.toNat]? := by
  unfold atI ixN
  rw [if_pos h0]
  by_cases h : i < xs.length
  · rw [if_pos h]
    rfl
  · rw [if_neg h, List.getElem?_eq_none (by omega)]
    rfl
theorem atI_neg1 {α : Type} {xs : List α} {v : α} (h : xs.getLast? = some v) : atI xs (-1) = some v := by
  obtain ⟨ys, rfl⟩ := List.getLast?_eq_some_iff.mp h
  exact atI_last ys v
end Sw
namespace Sw
open PySem PySem.Spec L2
theorem ex_if {α : Type} {c : Prop} [Decidable c] {x : α} {P : α → Prop} : (∃ d, (if c then some x else none) = some d ∧ P d) ↔ c ∧ P x := by
  constructor
  · rintro ⟨d, e, h⟩
    split at e
    · cases e; exact ⟨‹_›, h⟩
    · cases e
  · rintro ⟨h, p⟩
    exact ⟨x, by rw [if_pos h], p⟩
theorem ex_ifb {c : Prop} [Decidable c] {x : Bool} {P : Bool → Prop} : (∃ b, (if c then some (PyData.bool x) else none) = some (PyData.bool b) ∧ P b) ↔ c ∧ P x := by
  constructor
  · rintro ⟨d, e, h⟩
    split at e
    · cases e; exact ⟨‹_›, h⟩
    · cases e
  · rintro ⟨h, p⟩
    exact ⟨x, by rw [if_pos h], p⟩
theorem ex_som0 {α : Type} {a : α} : (∃ d, some a = some d) ↔ True := ⟨fun _ => trivial, fun _ => ⟨a, rfl⟩⟩
theorem ex_fl {x : List D} {P : Option (List D) → Prop} : (∃ fl, (∃ ds, some (SV.own true x) = some (SV.own true ds) ∧ fl = some ds) ∧ P fl) ↔ P (some x) := by
  constructor
  · rintro ⟨fl, ⟨ds, e, rfl⟩, h⟩
    cases e
    exact h
  · intro h
    exact ⟨_, ⟨x, rfl, rfl⟩, h⟩
theorem ex_flN {P : Option (List D) → Prop} : (∃ fl, fl = none ∧ P fl) ↔ P none := ⟨fun ⟨_, e, h⟩ => by cases e; exact h, fun h => ⟨none, rfl, h⟩⟩
theorem atI_lit {α : Type} {xs : List α} {n : Nat} : atI xs (no_index (@OfNat.ofNat Int n instOfNat)) = xs[n]? := atI_at (i := ((n : Nat) : Int)) (by omega)
theorem ixN_lit {n k : Nat} : ixN n (no_index (@OfNat.ofNat Int k instOfNat)) = if k < n then some k else none := by
  show ixN n ((k : Nat) : Int) = _
  unfold ixN
  rw [if_pos (by omega)]
  by_cases h : k < n
  · rw [if_pos (by omega), if_pos h]
    simp
  · rw [if_neg (by omega), if_neg h]
theorem gI_ii {g : Int → Int → Option D} {i j : Int} : gI g (.int i) (.int j) = g i j := rfl
theorem gAdd_ii {a b : Int} : gAdd (.int a) (.int b) = some (.int (a + b)) := rfl
theorem gAdd_ss {a b : Str} : gAdd (.str a) (.str b) = if a.length + b.length ≤ sizeLine then some (.str (a ++ b)) else none := rfl
theorem gAdd_ll {a b : List D} : gAdd (.list a) (.list b) = if a.length + b.length ≤ sizeLine then some (.list (a ++ b)) else none := rfl
theorem gAdd_tt {a b : List D} : gAdd (.tuple a) (.tuple b) = if a.length + b.length ≤ sizeLine then some (.tuple (a ++ b)) else none := rfl
theorem gMul_ii {a b : Int} : gMul (.int a) (.int b) = if (-(2 ^ 64) < a ∧ a < 2 ^ 64) ∨ (-(2 ^ 64) < b ∧ b < 2 ^ 64) then some (.int (a * b)) else none := rfl
theorem gMul_si {a : Str} {n : Int} : gMul (.str a) (.int n) = if n ≤ 1000 ∧ -1000 ≤ n ∧ a.length ≤ 1000 then some (.str (Txt.mul a n)) else none := rfl
theorem gLt_ii {a b : Int} : gLt (.int a) (.int b) = some (.bool (decide (a < b))) := rfl
theorem gLt_ss {a b : Str} : gLt (.str a) (.str b) = some (.bool (ltS a b)) := rfl
theorem gIx_li {ds : List D} {i : Int} : gIx (.list ds) (.int i) = atI ds i := rfl
theorem gIx_ti {ds : List D} {i : Int} : gIx (.tuple ds) (.int i) = atI ds i := rfl
theorem gIx_si {z : Str} {i : Int} : gIx (.str z) (.int i) = if z.length ≤ sizeLine then (atI z.cps.toList i).map fun c => .str ⟨#[c]⟩ else none := rfl
theorem gLen_l {ds : List D} : gLen [.list ds] = some (.int ds.length) := rfl
theorem gLen_t {ds : List D} : gLen [.tuple ds] = some (.int ds.length) := rfl
theorem gLen_s {z : Str} : gLen [.str z] = if z.length ≤ sizeLine then some (.int z.length) else none := rfl
theorem gListF_l {ds : List D} : gListF [.list ds] = some ds := rfl
theorem gListF_t {ds : List D} : gListF [.tuple ds] = some ds := rfl
theorem gTuple_l {ds : List D} : gTuple [.list ds] = some (.tuple ds) := rfl
theorem gTuple_t {ds : List D} : gTuple [.tuple ds] = some (.tuple ds) := rfl
theorem gCatF_ll {a b : List D} : gCatF (.list a) (.list b) = if a.length + b.length ≤ sizeLine then some (a ++ b) else none := rfl
theorem gEq_ii {a b : Int} : gEq false (.int a) (.int b) = some (.bool (a == b)) := rfl
theorem gNe_ii {a b : Int} : gEq true (.int a) (.int b) = some (.bool (!(a == b))) := rfl
theorem gEq_ss {a b : Str} : gEq false (.str a) (.str b) = some (.bool (a == b)) := rfl
theorem gNe_ss {a b : Str} : gEq true (.str a) (.str b) = some (.bool (!(a == b))) := rfl
theorem gEq_bb {a b : Bool} : gEq false (.bool a) (.bool b) = some (.bool (a == b)) := rfl
theorem gNe_bb {a b : Bool} : gEq true (.bool a) (.bool b) = some (.bool (!(a == b))) := rfl
theorem gSl_l {ds : List D} {lo hi : Option Int} : gSl (.list ds) lo hi = some (.list (cutD ds lo hi)) := rfl
theorem gSl_t {ds : List D} {lo hi : Option Int} : gSl (.tuple ds) lo hi = some (.tuple (cutD ds lo hi)) := rfl
theorem gSl_s {z : Str} {lo hi : Option Int} : gSl (.str z) lo hi = if z.length ≤ sizeLine then some (.str (cutS z lo hi)) else none := rfl
theorem gIsN_n : gIsN false .none .none = some (.bool true) := rfl
theorem gNotN_n : gIsN true .none .none = some (.bool false) := rfl
theorem gAppend_1 {ds : List D} {y : D} : gAppend ds [y] = if ds.length < sizeLine then some (.none, ds ++ [y]) else none := rfl
theorem ex_ifp {c : Prop} [Decidable c] {x : D} {y : List D} {P : D → List D → Prop} : (∃ d ds, (if c then some (x, y) else none) = some (d, ds) ∧ P d ds) ↔ c ∧ P x y := by
  constructor
  · rintro ⟨d, ds, e, h⟩
    split at e
    · cases e; exact ⟨‹_›, h⟩
    · cases e
  · rintro ⟨h, p⟩
    exact ⟨x, y, by rw [if_pos h], p⟩
end Sw

set_option Elab.async false
set_option linter.all false
set_option maxRecDepth 100000
namespace Sw
open PySem PySem.Spec L2
theorem pLc_inv {G : TG'} {TT : PT'} {TE : PE'} {vs : List Nat} {Q : List D → List SV → Prop} {ds : List D} {env : List SV} (I : Nat → List D → List SV → Prop) (h0 : I 0 [] env)
    (hs : ∀ i d, ds[i]? = some d → ∀ acc env, I i acc env → ∀ K : List D → List SV → Prop, (∀ acc' env', I (i + 1) acc' env' → K acc' env') →
      G d env fun env1 => TT env1 fun b env2 => if b = true then TE env2 fun o env3 => ∃ y env4, o.fz env3 = some (y, env4) ∧ K (acc ++ [y]) (wipeE env4 vs) else K acc (wipeE env2 vs))
    (hd : ∀ acc env, I ds.length acc env → Q acc env) : pLc G TT TE vs Q ds [] env := by
  have key : ∀ (n i : Nat) (acc : List D) (env : List SV), i + n = ds.length → I i acc env → pLc G TT TE vs Q (ds.drop i) acc env := by
    intro n
    induction n with
    | zero =>
      intro i acc env h hi
      have : ds.drop i = [] := by rw [List.drop_eq_nil_iff]; omega
      rw [this]
      have e : i = ds.length := by omega
      rw [e] at hi
      exact hd acc env hi
    | succ n ih =>
      intro i acc env h hi
      have hlt : i < ds.length := by omega
      rw [List.drop_eq_getElem_cons hlt]
      exact hs i ds[i] (List.getElem?_eq_getElem hlt) acc env hi (fun acc' env' => pLc G TT TE vs Q (ds.drop (i + 1)) acc' env') fun acc' env' h' => ih (i + 1) acc' env' (by omega) h'
  exact key ds.length 0 [] env (by omega) h0
theorem pFor_inv {G : TG'} {B : PS'} {Dp : PEnds} {ds : List D} {env : List SV} (I : Nat → List SV → Prop) (h0 : I 0 env)
    (hs : ∀ i d, ds[i]? = some d → ∀ env, I i env → ∀ K : List SV → Prop, (∀ env', I (i + 1) env' → K env') → G d env fun env1 => B { Dp with nx := K, ct := K, bk := Dp.nx } env1)
    (hd : ∀ env, I ds.length env → Dp.nx env) : pFor G B Dp ds env := by
  have key : ∀ (n i : Nat) (env : List SV), i + n = ds.length → I i env → pFor G B Dp (ds.drop i) env := by
    intro n
    induction n with
    | zero =>
      intro i env h hi
      have : ds.drop i = [] := by rw [List.drop_eq_nil_iff]; omega
      rw [this]
      have e : i = ds.length := by omega
      rw [e] at hi
      exact hd env hi
    | succ n ih =>
      intro i env h hi
      have hlt : i < ds.length := by omega
      rw [List.drop_eq_getElem_cons hlt]
      exact hs i ds[i] (List.getElem?_eq_getElem hlt) env hi (fun env' => pFor G B Dp (ds.drop (i + 1)) env') fun env' h' => ih (i + 1) env' (by omega) h'
  exact key ds.length 0 env (by omega) h0
theorem pWh_inv {c : PT'} {B : PS'} {Dp : PEnds} {env : List SV} (I : List SV → Prop) (μ : List SV → Nat) (h0 : I env)
    (hs : ∀ env, I env → ∀ K : List SV → Prop, (∀ env', I env' → μ env' < μ env → K env') → c env fun b env1 => if b = true then B { Dp with nx := K, ct := K, bk := Dp.nx } env1 else Dp.nx env1) : sWh c B Dp env := by
  have key : ∀ (n : Nat) (env : List SV), I env → μ env < n → pWh c B Dp n env := by
    intro n
    induction n with
    | zero => intro env _ h; omega
    | succ n ih =>
      intro env hi hm
      exact hs env hi (fun env' => pWh c B Dp n env') fun env' h' hm' => ih env' h' (by omega)
  exact ⟨μ env + 1, key (μ env + 1) env h0 (Nat.lt_succ_self _)⟩
theorem rgD_get {lo : Int} {n i : Nat} {d : D} (h : (rgD lo n)[i]? = some d) : i < n ∧ d = .int (lo + (i : Int)) := by
  unfold rgD at h
  rw [List.getElem?_map] at h
  by_cases hi : i < n
  · rw [List.getElem?_range hi] at h
    cases h
    exact ⟨hi, rfl⟩
  · rw [List.getElem?_eq_none (by rw [List.length_range]; omega)] at h
    cases h
theorem rgD_len {lo : Int} {n : Nat} : (rgD lo n).length = n := by simp [rgD]
theorem len_app (a b : Str) : (a ++ b).length = a.length + b.length := by
  rw [len_tl, len_tl, len_tl, tl_app, List.length_append]
theorem joinL_nil : ∀ xs : List (List Nat), TL.joinL [] xs = xs.flatten
  | [] => rfl
  | [x] => by simp [TL.joinL]
  | x :: y :: r => by
    rw [TL.joinL, joinL_nil (y :: r)]
    rfl
theorem joinE (ys : List Str) : (Txt.join (Str.ofString "") ys).cps.toList = (ys.map fun y => y.cps.toList).flatten := by
  rw [TL.join_eq]
  have h := TL.tl_join (Str.ofString "") ys
  rw [show TL.tl (Str.ofString "") = [] by decide +kernel, joinL_nil] at h
  exact h
end Sw

set_option Elab.async false
set_option linter.all false
set_option maxRecDepth 100000



namespace Sw
open PySem PySem.Spec L2
section
variable {X : Sw.Cz} {K : FgX}
def gRevD : D → Option D
  | .list ds => some (.list ds.reverse)
  | .tuple ds => some (.tuple ds.reverse)
  | _ => none
def qRevA (A : PE') : PE' := fun env Q => A env fun o env1 => ∃ d, o.rd env1 = some d ∧ ∃ d', gRevD d = some d' ∧ Q (.dv d') env1
theorem q_rev {e : Expr} {A : PE'} {k : Nat} {p1 p2 p3 pos : Pos} (he : EV X e A) : EV X (.Subscript e (.Slice none none (some (.UnaryOp .USub (.Constant (.int 1) k p1) p2)) p3) pos) (qRevA A) := by
  obtain ⟨t, h1, l1⟩ := he.ex
  refine ⟨_, SwX.pe_revA h1, fun C σ H F env Q Qp R k q => ?_⟩
  refine l1 C σ H F env _ _ R (fun v H1 F1 env1 o s1 a1 q1 => ?_) q
  obtain ⟨d, e, d', e', q1⟩ := q1
  have w := rd_vw s1.rel a1 e
  unfold gRevD at e'
  split at e'
  · cases e'
    obtain ⟨p, xs, rfl, e1, a2⟩ := w
    refine .inl ⟨p, xs, rfl, SqL.of e1, fun r hr => ?_⟩
    have s4 := s1.rel.alloc (o := .lst xs.reverse) hr
    exact k _ _ _ _ (.dv _) (s1.trans s4) (OvOk.of (At.list_of upd_same (AtAll.mono s4.ff _ _ a2.rev))) q1
  · cases e'
    obtain ⟨p, xs, rfl, e1, a2⟩ := w.tup s1.rel.frz
    refine .inr ⟨p, xs, rfl, e1, fun r hr => ?_⟩
    have s4 := s1.rel.alloc (o := .tup xs.reverse) hr
    exact k _ _ _ _ (.dv _) (s1.trans s4) (OvOk.of (At.tup_of upd_same (AtAll.mono s4.ff _ _ a2.rev))) q1
  · cases e'
theorem gRev_l {ds : List D} : gRevD (.list ds) = some (.list ds.reverse) := rfl
theorem gRev_t {ds : List D} : gRevD (.tuple ds) = some (.tuple ds.reverse) := rfl
def gExtend : List D → List D → Option (D × List D)
  | ds, [.list es] => if ds.length + es.length ≤ sizeLine then some (.none, ds ++ es) else none
  | ds, [.tuple es] => if ds.length + es.length ≤ sizeLine then some (.none, ds ++ es) else none
  | _, _ => none
theorem gExtend_l {ds es : List D} : gExtend ds [.list es] = if ds.length + es.length ≤ sizeLine then some (.none, ds ++ es) else none := rfl
theorem gExtend_t {ds es : List D} : gExtend ds [.tuple es] = if ds.length + es.length ≤ sizeLine then some (.none, ds ++ es) else none := rfl
/-- a method of a slot's own list that reads what it is handed: the heap's known part lies within -/
def LMO' (K : FgK) (r : V → List V → Hp → VK → Prop) (g : List D → List D → Option (D × List D)) : Prop := ∀ (H F : Hp) (p : Addr) (xs ys : List V) (ds es ds' : List D) (d : D) (Q : VK), Le F H → H p = some (.lst xs) → AtAll K F ds xs → AtAll K F es ys → g ds es = some (d, ds') →
  (∀ v xs', At K F d v → AtAll K F ds' xs' → Q v (upd H p (.lst xs'))) → r (.ref p) ys H Q
theorem l_extend : LMO' K (SwX.rExtA K) gExtend := fun H F p xs ys ds es ds' d Q hle hp a b e k => by
  unfold gExtend at e
  split at e
  · split at e
    · cases e
      obtain ⟨y, rfl, ay⟩ := b.one
      simp only [At] at ay
      obtain ⟨q, zs, rfl, e1, a1⟩ := ay
      exact .inl ⟨p, q, xs, zs, rfl, rfl, hp, hle _ _ e1, by rw [a.len, a1.len]; assumption, k _ _ (by simp [At]) (AtAll.app a a1)⟩
    · cases e
  · split at e
    · cases e
      obtain ⟨y, rfl, ay⟩ := b.one
      simp only [At] at ay
      obtain ⟨q, zs, rfl, e1, a1⟩ := ay
      exact .inr ⟨p, q, xs, zs, rfl, rfl, hp, (Le.tupAt hle e1).sqT, by rw [a.len, a1.len]; assumption, k _ _ (by simp [At]) (AtAll.app a a1)⟩
    · cases e
  · cases e
theorem q_moE (i : Nat) {name x : Str} {p apos cpos : Pos} {e : Expr} {es : List Expr} {T : PA'} (hname : name = "extend") (ha : EA X (e :: es) T)
    (hN : X.N[i]? = some x := by rfl) (hv : Vis X.env.scope x := by first | exact Or.inl rfl | exact Or.inr (Or.inl rfl) | exact Or.inr (Or.inr rfl)) (hd : (x == ("__debug__" : Str)) = false := by decide) (hcd : (x == ("__classdict__" : Str)) = false := by decide)
    (hbase : attributeBase (.Name x p) name X.env (eval (.Name x p) X.env) = eval (.Name x p) X.env := by rfl)
    (hfew : ((backTo cpos (starEach (e :: es) X.env)).all (fun x => !x.1) && (backToKw cpos (keywordEach [] X.env)).all (fun x => x.1.isSome)
      && decide ((e :: es).length + ([] : List Keyword).length + (if ([] : List Keyword).isEmpty then 0 else 1) < 30)) = true := by rfl)
    (hline : (apos.endLine == cpos.line) = true := by rfl) (hs : starEach (e :: es) X.env = (false, eval e X.env) :: starEach es X.env := by rfl) (hplain : (backTo cpos (starEach es X.env)).any (·.1) = false := by rfl) :
    EV X (.Call (.Attribute (.Name x p) name apos) (e :: es) [] cpos) (qMO i gExtend T) := by
  subst hname
  obtain ⟨t, h1, l1⟩ := ha.ex
  refine ⟨_, pe_bm PySem.F.plainAttrs_list PySem.F.slot_list_extend PySem.F.type_list_extend SwX.mt_extendA (pe_var hN hv hd hcd) h1 hbase hfew hline hs hplain, fun C σ H F env Q Qp R k q => ?_⟩
  obtain ⟨⟨l0, ds0, e0⟩, q⟩ := q
  obtain ⟨a, xs0, f1, f2, f3, f4, f5⟩ := R.slotL e0
  refine ⟨.ref a, f1, .inl ⟨rfl, xs0, SqL.of f2⟩, ?_⟩
  refine l1 C σ H F env _ _ R (fun vs H1 F1 env1 os s1 a1 q1 => ?_) q
  obtain ⟨es', env2, e1, l, ds, e2, d, ds', e3, q1⟩ := q1
  obtain ⟨F2, s2, a2⟩ := fzAll_ok s1.rel a1 e1
  obtain ⟨a', xs, g1, g2, g3, g4, g5⟩ := s2.rel.slotL e2
  rw [f1] at g1
  cases g1
  refine l_extend H1 F2 a xs vs ds es' ds' d _ s2.rel.frz g2 g5 a2 e3 fun v xs' av ax => ?_
  have s3 := s2.rel.writeL e2 f1 ax
  exact k v _ F2 _ (.dv d) ((s1.trans s2).trans s3) (OvOk.of av) q1
end
end Sw

set_option Elab.async false
set_option linter.all false
set_option maxRecDepth 100000
namespace Sw
open PySem PySem.Spec L2
theorem perm_eq_pw {α : Type} {r : α → α → Prop} (anti : ∀ a b, r a b → r b a → a = b) : ∀ {l m : List α}, l.Perm m → l.Pairwise r → m.Pairwise r → l = m
  | [], m, p, _, _ => (List.nil_perm.mp p).symm
  | a :: l, [], p, _, _ => absurd p.symm (by simp)
  | a :: l, b :: m, p, h1, h2 => by
    have hab : a = b := by
      by_cases e : a = b
      · exact e
      · have ha : a ∈ m := by
          have := p.mem_iff.mp (List.mem_cons_self (a := a) (l := l))
          rcases List.mem_cons.mp this with z | z
          · exact absurd z e
          · exact z
        have hb : b ∈ l := by
          have := p.mem_iff.mpr (List.mem_cons_self (a := b) (l := m))
          rcases List.mem_cons.mp this with z | z
          · exact absurd z.symm e
          · exact z
        exact anti a b ((List.pairwise_cons.mp h1).1 b hb) ((List.pairwise_cons.mp h2).1 a ha)
    subst hab
    rw [perm_eq_pw anti (List.Perm.cons_inv p) (List.pairwise_cons.mp h1).2 (List.pairwise_cons.mp h2).2]
theorem ltS_irr (a : Str) : ltS a a = false := by
  rw [← Bool.not_eq_true, ltS_iff]
  exact List.lt_irrefl _
theorem ltS_tr {a b c : Str} (h : ltS a b = true) (g : ltS b c = true) : ltS a c = true := by
  rw [ltS_iff] at *
  exact List.lt_trans h g
theorem ltS_as {a b : Str} (h : ltS a b = true) : ltS b a = false := by
  rw [← Bool.not_eq_true]
  intro g
  have := ltS_tr h g
  rw [ltS_irr] at this
  cases this
theorem leS_tr {a b c : Str} (h : leS a b) (g : leS b c) : leS a c := by
  unfold leS at *
  cases q : ltS c a with
  | false => rfl
  | true =>
    exfalso
    by_cases e : ltS b c = true
    · have := ltS_tr e q
      rw [this] at h; cases h
    · have e : ltS b c = false := by simpa using e
      have := ltS_tri e g
      subst this
      rw [q] at h; cases h
theorem insS_pw {x : Str} : ∀ {ys : List Str}, ys.Pairwise leS → (insS x ys).Pairwise leS
  | [], _ => by simp [insS]
  | y :: r, h => by
    have h' := List.pairwise_cons.mp h
    unfold insS
    split
    · rename_i hy
      refine List.pairwise_cons.mpr ⟨fun z hz => ?_, insS_pw h'.2⟩
      rcases List.mem_cons.mp ((insS_perm x r).mem_iff.mp hz) with e | e
      · subst e
        exact ltS_as hy
      · exact h'.1 z e
    · rename_i hy
      have hy : leS x y := by unfold leS; simpa using hy
      refine List.pairwise_cons.mpr ⟨fun z hz => ?_, h⟩
      rcases List.mem_cons.mp hz with e | e
      · subst e; exact hy
      · exact leS_tr hy (h'.1 z e)
theorem sortS_pw : ∀ ys : List Str, (sortS ys).Pairwise leS
  | [] => List.Pairwise.nil
  | x :: r => insS_pw (sortS_pw r)
theorem sortS_of {xs ys : List Str} (p : ys.Perm xs) (h : ys.Pairwise leS) : ys = sortS xs := perm_eq_pw (r := leS) (fun a b h g => ltS_tri g h) (p.trans (sortS_perm xs).symm) h (sortS_pw xs)
theorem sortS_congr {xs ys : List Str} (p : ys.Perm xs) : sortS ys = sortS xs := sortS_of ((sortS_perm ys).trans p) (sortS_pw ys)
end Sw
namespace Sw
open PySem PySem.Spec L2
open PyProof.Rows (sortedS risingS ltCps_eq)
end Sw
namespace Sw
open PySem PySem.Spec L2
theorem seqOf_l {ds : List D} : seqOf (.list ds) = some ds := rfl
theorem seqOf_t {ds : List D} : seqOf (.tuple ds) = some ds := rfl
theorem itemsOf_l {ds : List D} : itemsOf (.list ds) = some ds := rfl
theorem itemsOf_t {ds : List D} : itemsOf (.tuple ds) = some ds := rfl
theorem itemsOf_s {z : Str} : itemsOf (.str z) = some (z.cps.toList.map signD) := rfl
theorem gJoin_s {z : Str} {ys : List Str} : gJoin z (ys.map .str) = if (ys.map (·.length)).sum + ys.length * z.length ≤ 16777216 then some (.str (Txt.join z ys)) else none := by
  show ((strsOf (ys.map .str)).bind _) = _
  rw [strsOf_map]
  rfl
theorem gAll_b {bs : List Bool} : gAll [.list (bs.map .bool)] = some (.bool (bs.all id)) := by
  show (boolsOf (bs.map .bool)).map _ = _
  rw [boolsOf_map]
  rfl
theorem gAny_b {bs : List Bool} : gAny [.list (bs.map .bool)] = some (.bool (bs.any id)) := by
  show (boolsOf (bs.map .bool)).map _ = _
  rw [boolsOf_map]
  rfl
theorem gPopAt_1 {ds : List D} {i : Int} : gPopAt ds [.int i] = if -(2 ^ 63) ≤ i ∧ i < 2 ^ 63 then (seqIndex? i ds.length).bind fun j => ds[j]?.map fun d => (d, ds.eraseIdx j) else none := rfl
theorem isi_str {T : Ty} {z : Str} : isi T (.str z) = match T with | .str => true | _ => false := by cases T <;> rfl
theorem isi_int {T : Ty} {z : Int} : isi T (.int z) = match T with | .int => true | _ => false := by cases T <;> rfl
theorem isi_bool {T : Ty} {z : Bool} : isi T (.bool z) = match T with | .int => true | .bool => true | _ => false := by cases T <;> rfl
theorem isi_list {T : Ty} {z : List D} : isi T (.list z) = match T with | .list => true | _ => false := by cases T <;> rfl
theorem isi_tuple {T : Ty} {z : List D} : isi T (.tuple z) = match T with | .tuple => true | _ => false := by cases T <;> rfl
theorem isi_none {T : Ty} : isi T .none = false := by cases T <;> rfl
def okI (d : D) : Prop := d.plain = true ∧ d.depth ≤ 39
theorem okD_list {xs : List D} (h : ∀ x ∈ xs, okI x) : okD (.list xs) = true ∧ okD (.tuple xs) = true := by
  have hp : PyData.plainAll xs = true := by
    induction xs with
    | nil => rfl
    | cons x r ih =>
      rw [PyData.plainAll, (h x List.mem_cons_self).1, ih fun y hy => h y (List.mem_cons_of_mem _ hy)]
      rfl
  have hd : PyData.depthAll xs ≤ 39 := by
    clear hp
    induction xs with
    | nil => exact Nat.zero_le _
    | cons x r ih =>
      have h1 := (h x List.mem_cons_self).2
      have h2 := ih fun y hy => h y (List.mem_cons_of_mem _ hy)
      rw [PyData.depthAll]
      omega
  unfold okD
  constructor
  · rw [show (PyData.list xs).plain = true from hp, PyData.depth, Bool.true_and, decide_eq_true_eq]
    omega
  · rw [show (PyData.tuple xs).plain = true from hp, PyData.depth, Bool.true_and, decide_eq_true_eq]
    omega
theorem okI_str (z : Str) : okI (.str z) := ⟨rfl, by simp [PyData.depth]⟩
theorem okD_of {d : D} (h : okI d) : okD d = true := by
  have h2 := h.2
  unfold okD
  rw [h.1, Bool.true_and, decide_eq_true_eq]
  omega
theorem okD_strs (ys : List Str) : okD (.list (ys.map .str)) = true ∧ okD (.tuple (ys.map .str)) = true := okD_list fun x hx => by
  obtain ⟨y, _, rfl⟩ := List.mem_map.mp hx
  exact okI_str y
theorem gIn_strs {neg : Bool} {z : Str} {ys : List Str} : gIn neg (.str z) (.list (ys.map .str)) = some (.bool (if neg then !decide (z ∈ ys) else decide (z ∈ ys))) := by
  show (if okD (PyData.str z) = true ∧ okD (.list (ys.map PyData.str)) = true then some (inB neg (.str z) (ys.map PyData.str)) else none) = _
  unfold inB
  have e : ((ys.map PyData.str).any fun y => PyData.eqv y (.str z)) = decide (z ∈ ys) := by
    induction ys with
    | nil => rfl
    | cons y r ih =>
      rw [List.map_cons, List.any_cons, ih]
      show ((y == z) || decide (z ∈ r)) = decide (z ∈ y :: r)
      by_cases h1 : y = z
      · rw [h1, beq_self_eq_true, Bool.true_or]
        exact (decide_eq_true List.mem_cons_self).symm
      · rw [beq_eq_false_iff_ne.mpr h1, Bool.false_or]
        by_cases h2 : z ∈ r
        · rw [decide_eq_true h2]
          exact (decide_eq_true (List.mem_cons_of_mem _ h2)).symm
        · rw [decide_eq_false h2]
          refine (decide_eq_false fun h3 => ?_).symm
          rcases List.mem_cons.mp h3 with e | e
          · exact h1 e.symm
          · exact h2 e
  rw [if_pos ⟨okD_of (okI_str z), (okD_strs ys).1⟩, e]
end Sw
namespace Sw
open PySem PySem.Spec L2
theorem gIsN_b {neg : Bool} {b : Bool} : gIsN neg (.bool b) .none = some (.bool neg) := rfl
theorem gIsN_i {neg : Bool} {b : Int} : gIsN neg (.int b) .none = some (.bool neg) := rfl
theorem gIsN_s {neg : Bool} {b : Str} : gIsN neg (.str b) .none = some (.bool neg) := rfl
theorem gIsN_l {neg : Bool} {b : List D} : gIsN neg (.list b) .none = some (.bool neg) := rfl
theorem gIsN_t {neg : Bool} {b : List D} : gIsN neg (.tuple b) .none = some (.bool neg) := rfl
theorem gIsN_d {neg : Bool} {b : List (D × D)} : gIsN neg (.dict b) .none = some (.bool neg) := rfl
end Sw
namespace Sw
open PySem PySem.Spec L2
def atomD : D → Prop
  | .list _ => False
  | .tuple _ => False
  | .dict _ => False
  | _ => True
def qCallV (sp : PSp) (T : PA') : PE' := fun env Q => T env fun os env1 => ∃ ds env2, fzAll env1 os = some (ds, env2) ∧ sp none ds fun rv _ => ∃ d, rv = .dt d ∧ atomD d ∧ Q (.dv d) env1
theorem ex_dt {d : D} {P : D → Prop} : (∃ d', RV.dt d = RV.dt d' ∧ P d') ↔ P d := ⟨fun ⟨_, e, h⟩ => by cases e; exact h, fun h => ⟨d, rfl, h⟩⟩
theorem ex_fr {ds : List D} {P : List D → Prop} : (∃ es, RV.fr ds = RV.fr es ∧ P es) ↔ P ds := ⟨fun ⟨_, e, h⟩ => by cases e; exact h, fun h => ⟨ds, rfl, h⟩⟩
theorem ex_frL {fd ds : List D} {P : List D → List D → Prop} : (∃ fd' es, some fd = some fd' ∧ RV.fr ds = RV.fr es ∧ P fd' es) ↔ P fd ds := ⟨fun ⟨_, _, e, e2, h⟩ => by cases e; cases e2; exact h, fun h => ⟨fd, ds, rfl, rfl, h⟩⟩
theorem atom_b {b : Bool} : atomD (.bool b) ↔ True := Iff.rfl
theorem atom_i {b : Int} : atomD (.int b) ↔ True := Iff.rfl
theorem atom_s {b : Str} : atomD (.str b) ↔ True := Iff.rfl
theorem atom_n : atomD .none ↔ True := Iff.rfl
end Sw
namespace Sw
open PySem PySem.Spec L2
theorem ex_tupv {a : List D} {P : List D → Prop} : (∃ ds, PyData.tuple a = .tuple ds ∧ P ds) ↔ P a := ⟨fun ⟨_, e, h⟩ => by cases e; exact h, fun h => ⟨a, rfl, h⟩⟩
theorem ex_consv {a : D} {b : List D} {P : D → List D → Prop} : (∃ d r, a :: b = d :: r ∧ P d r) ↔ P a b := ⟨fun ⟨_, _, e, h⟩ => by cases e; exact h, fun h => ⟨a, b, rfl, h⟩⟩
end Sw

set_option Elab.async false
set_option linter.all false
set_option maxRecDepth 100000
namespace Sw
open PySem PySem.Spec L2
abbrev rLstF (K : FgK) : List V → Hp → VK → Prop := fun xs H Q => ∃ p ys, xs = [V.ref p] ∧ (SqL K H p ys ∨ SqT K H p ys) ∧ ∀ l, H l = none → Q (.ref l) (upd H l (.lst ys))
def t_flow (K : FgK) : TS := tRet (tLst (tCons (tCB (rLstF K) (tCons (tVar 0) tNil)) (tCons (tC (.int 0)) (tCons (tC (.int 0)) (tCons (tC (.int 1)) (tCons (tC (.int 0)) tNil))))))
def spFlow (K : FgK) : Sp := fun vs H Q _ => ∃ (a : Addr) (xs : List V), vs = [.ref a] ∧ SqL K H a xs ∧ ∀ c p, p ≠ c → Q (.ref p) (upd (upd H c (.lst xs)) p (.lst [.ref c, .int 0, .int 0, .int 1, .int 0]))
theorem pure_flow {K : FgK} (vs : List V) (H : Hp) (Q : VK) (E : XK) (h : spFlow K vs H Q E) : t_flow K { nx := fun _ H' => Q .non H', rt := Q } (start ["_law_script"] vs) H := by
  obtain ⟨a, xs, rfl, hs, k⟩ := h
  refine ⟨_, rfl, a, xs, rfl, .inl hs, fun c hc => ?_⟩
  refine ⟨by rw [sizeLine_eq]; simp, fun p hp => ?_⟩
  refine k c p ?_
  rintro rfl
  rw [upd_same] at hp
  cases hp
theorem len_flow {K : FgK} (vs : List V) (H : Hp) (Q : VK) (E : XK) (h : spFlow K vs H Q E) : vs.length = 1 := by
  obtain ⟨a, xs, rfl, _⟩ := h
  rfl
/-- what a law promises -/
def spLaw (K : FgK) : Sp := fun vs H Q _ => ∃ (a : Addr) (ns : List Int), vs = [.ref a] ∧ ns.length ≤ 63 ∧ SqL K H a (ns.map V.int) ∧ ∀ H', Q (.bl true) H'
abbrev flow0 (ns : List Int) : List D := [.list (ns.map .int), .int 0, .int 0, .int 1, .int 0]
theorem at_ints {K : FgK} {F : Hp} : ∀ ns : List Int, AtAll K F (ns.map PyData.int) (ns.map V.int)
  | [] => AtAll.nil
  | n :: r => AtAll.cons (by simp [At]) (at_ints r)
theorem law_start {K : FgK} {H : Hp} {ns : List Int} {c p a : Addr} (hpc : p ≠ c) (N : List Str) (hN : 2 ≤ N.length) :
    RelB K ⟨fun _ => none, fun _ => none, none⟩ ((start N [.ref a]).set 1 (some (.ref p))) (upd (upd H c (.lst (ns.map V.int))) p (.lst [.ref c, .int 0, .int 0, .int 1, .int 0])) (upd (fun _ => none) c (.lst (ns.map V.int)))
      (SV.un :: SV.own false (flow0 ns) :: List.replicate (N.length - 2) SV.un) := by
  obtain ⟨n, e⟩ : ∃ n, N.length = n + 2 := ⟨N.length - 2, by omega⟩
  have es : (start N [.ref a]).set 1 (some (.ref p)) = some (.ref a) :: some (.ref p) :: List.replicate n none := by
    unfold L2.start
    rw [e]
    show List.set (some (V.ref a) :: List.replicate (n + 1) none) 1 _ = _
    rw [List.replicate_succ]
    rfl
  rw [es, e, Nat.add_sub_cancel]
  have own : ∀ (i : Nat) (l : Bool) (ds : Ct), (SV.un :: SV.own false (flow0 ns) :: List.replicate n SV.un)[i]? = some (SV.obj l ds) → i = 1 ∧ l = false ∧ ds = .lst (flow0 ns) := fun i l ds h => by
    match i, h with
    | 0, h => cases h
    | 1, h => cases h; exact ⟨rfl, rfl, rfl⟩
    | i + 2, h =>
      have h : (List.replicate n SV.un)[i]? = some (SV.obj l ds) := h
      have := (List.mem_replicate.mp (List.mem_of_getElem? h)).2
      cases this
  refine ⟨fun b o h => ?_, fun b o h => (nomatch h), fun b o h => .inr rfl, fun b o h => (nomatch h), fun a h => (nomatch h), by simp, fun i sv h => ?_, fun i j l ds m es h1 h2 _ => ?_⟩
  · by_cases eb : b = c
    · subst eb
      rw [upd_same] at h
      cases h
      rw [upd_ne hpc.symm, upd_same]
    · rw [upd_ne eb] at h
      cases h
  · cases sv with
    | un => trivial
    | raw z =>
      match i, h with
      | 0, h => cases h
      | 1, h => cases h
      | i + 2, h =>
        have h : (List.replicate n SV.un)[i]? = some (SV.raw z) := h
        have := (List.mem_replicate.mp (List.mem_of_getElem? h)).2
        cases this
    | dat d =>
      match i, h with
      | 0, h => cases h
      | 1, h => cases h
      | i + 2, h =>
        have h : (List.replicate n SV.un)[i]? = some (SV.dat d) := h
        have := (List.mem_replicate.mp (List.mem_of_getElem? h)).2
        cases this
    | obj l ds =>
      obtain ⟨rfl, rfl, rfl⟩ := own i l ds h
      refine ⟨p, _, rfl, upd_same, ?_, rfl, ?_⟩
      · rw [upd_ne hpc]
      · refine ⟨_, rfl, ?_⟩
        refine AtAll.cons ?_ (AtAll.cons (by simp [At]) (AtAll.cons (by simp [At]) (AtAll.cons (by simp [At]) (AtAll.cons (by simp [At]) AtAll.nil))))
        simp only [At]
        exact ⟨c, _, rfl, upd_same, at_ints ns⟩
  · rw [(own i l ds h1).1, (own j m es h2).1]
theorem law_ends {K : FgX} {C : Ec} {F : Hp} {Q : VK} (k : ∀ H', Q (.bl true) H') : EndsOk K C F { nx := fun _ H' => Q .non H', rt := Q } (endsOf false fun rv _ => rv = .dt (.bool true)) := by
  refine ⟨fun σ' H' F' env' R l h => ?_, fun σ' H' F' env' rv v R l hv h => ?_, fun σ' H' F' env' R l h => h.elim, fun σ' H' F' env' R l h => h.elim⟩
  · obtain ⟨fl, _, h⟩ := h
    cases h
  · obtain ⟨fl, _, rfl⟩ := h
    have hv : At K F' (.bool true) v := hv
    simp only [At] at hv
    subst hv
    exact k H'
end Sw

set_option Elab.async false
set_option linter.all false
set_option maxRecDepth 100000
namespace Sw
open PySem PySem.Spec L2 PyProof.Rows
def noneD : D → Bool
  | .none => true
  | _ => false
def cmpOk (a b : D) : Bool := okD a && (okD b && (W.alike a b && !noneD a))
def tup1 : D → Bool
  | .tuple (_ :: _) => true
  | _ => false
def noTup : D → Bool
  | .tuple _ => false
  | d => !noneD d
def okSort (ds : List D) : Bool := ds.all okD && (ds.all (fun d => ds.all fun e => W.alike d e) && (ds.all tup1 || ds.all noTup))
theorem cmpOk_spec {a b : D} (h : cmpOk a b = true) : okD a = true ∧ okD b = true ∧ W.alike a b = true ∧ a ≠ .none := by
  unfold cmpOk at h
  obtain ⟨h1, h⟩ := Bool.and_eq_true_iff.mp h
  obtain ⟨h2, h⟩ := Bool.and_eq_true_iff.mp h
  obtain ⟨h3, h⟩ := Bool.and_eq_true_iff.mp h
  refine ⟨h1, h2, h3, ?_⟩
  rintro rfl
  cases h
theorem okSort_spec {ds : List D} (h : okSort ds = true) : (∀ d ∈ ds, okD d = true) ∧ W.AllAlike ds ∧ W.Sortable ds := by
  unfold okSort at h
  obtain ⟨h1, h⟩ := Bool.and_eq_true_iff.mp h
  obtain ⟨h2, h⟩ := Bool.and_eq_true_iff.mp h
  refine ⟨List.all_eq_true.mp h1, fun d hd e he => List.all_eq_true.mp (List.all_eq_true.mp h2 d hd) e he, ?_⟩
  rcases Bool.or_eq_true_iff.mp h with h | h
  · refine .inl fun d hd => ?_
    have := List.all_eq_true.mp h d hd
    unfold tup1 at this
    split at this
    · exact ⟨_, _, rfl⟩
    · cases this
  · refine .inr fun d hd => ?_
    have := List.all_eq_true.mp h d hd
    constructor
    · rintro rfl
      cases this
    · rintro xs rfl
      cases this
section
variable {X : Cz}
def rLtD (K : FgK) : R2 := fun x y H Q => ∃ d e, Dp K H x d ∧ Dp K H y e ∧ cmpOk d e = true ∧ Q (.bl (W.dataLt d e)) H
theorem op_ltD (hu : X.A.units + 64 < cLine) : OpR X (compareOp .Lt) (rLtD X.fr) := by
  intro pins s σ H x y v u Q I rx ry h
  obtain ⟨d, e, hd, he, hc, q⟩ := h
  obtain ⟨h1, h2, h3, h4⟩ := cmpOk_spec hc
  obtain ⟨as, r1⟩ := Dp.reads I d x v hd rx
  obtain ⟨bs, r2⟩ := Dp.reads I e y u he ry
  have z1 := okD_depth h1
  have z2 := Nat.min_le_left d.depth e.depth
  exact W.lt_data r1 r2 h3 h4 (by omega) ⟨.bl _, H, I, rfl, q⟩
abbrev zipSort (xs : List V) (ds : List D) : List (V × D) := (xs.zip ds).mergeSort fun p q => leD p.2 q.2
def rSortedD (K : FgK) : List V → Hp → VK → Prop := fun vs H Q => ∃ (a : Addr) (xs : List V) (ds : List D), vs = [V.ref a] ∧ SqL K H a xs ∧ DpAll K H xs ds ∧ okSort ds = true ∧
  ∀ p, H p = none → Q (.ref p) (upd H p (.lst ((zipSort xs ds).map Prod.fst)))
theorem zip_each {R : Value → D → Prop} : ∀ {xs : List V} {its : List Value} {ds : List D}, Vals xs its → W.EachIs R its ds → W.EachIs (fun v (b : V × D) => RelV b.1 v ∧ R v b.2) its (xs.zip ds)
  | _, _, _, .nil, .nil => .nil
  | _, _, _, .cons r q, .cons a b => .cons ⟨r, a⟩ (zip_each q b)
theorem dp_len {K : FgK} {H : Hp} : ∀ {xs : List V} {ds : List D}, DpAll K H xs ds → xs.length = ds.length
  | _, _, .nil => rfl
  | _, _, .cons _ r => by rw [List.length_cons, List.length_cons, dp_len r]
theorem each_vals : ∀ {out : List Value} {bs : List (V × D)}, W.EachIs (fun v (b : V × D) => RelV b.1 v) out bs → Vals (bs.map Prod.fst) out
  | _, _, .nil => .nil
  | _, _, .cons a r => .cons a (each_vals r)
theorem cr_sortedD (hu : X.A.units + 64 < cLine) : CallR X (.builtin "sorted") (rSortedD X.fr) := by
  intro pins s σ H vs us Q I r h
  obtain ⟨a, xs, ds, rfl, hs, hd, ho, q⟩ := h
  obtain ⟨o1, o2, o3⟩ := okSort_spec ho
  obtain ⟨its, rv, hl, hz⟩ := I.list hs
  obtain ⟨u, rfl, ru⟩ := vals1 r
  obtain rfl : u = Value.ref a := ru
  obtain ⟨as, rr⟩ := Dp.readsAll I ds xs its hd rv
  have len := dp_len hd
  have e0 : W.EachIs (fun v d => ∃ as, Reads s.heap v d as) its ds := W.readsAll_each (enc := fun d => d) (by rw [List.map_id']; exact rr)
  have e1 := zip_each rv e0
  have es : (xs.zip ds).map Prod.snd = ds := List.map_snd_zip (Nat.le_of_eq len.symm)
  refine W.sorted_data (enc := Prod.snd) (R := fun v (b : V × D) => RelV b.1 v) hl.isList (e1.mono fun _ _ h => h.1) (e1.mono fun _ _ h => h.2) (by rw [es]; exact o2) (by rw [es]; exact o3) ?_ (fun b hb => ?_) fun out hlen ho => ?_
  · rw [List.length_zip, ← len, Nat.min_self]
    exact hz
  · have : b.2 ∈ ds := (List.of_mem_zip hb).2
    have := okD_depth (o1 _ this)
    omega
  · obtain ⟨n, hn⟩ := sortedAll_at s.heap its (List.toArray out)
    have hd' : s.heap.objs.size ≤ s.heap.objs.size + 1 := Nat.le_succ _
    refine ⟨.ref (s.heap.objs.size + 1), upd H (s.heap.objs.size + 1) (.lst ((zipSort xs ds).map Prod.fst)), I.laid (t' := s.toks) (fun b o e => sortedAll_old e) hd' ⟨?_, out, n, each_vals ho, hn⟩, rfl, q _ (I.hok.fresh hd')⟩
    rw [List.length_map, List.length_mergeSort, List.length_zip, ← len, Nat.min_self]
    exact hz
end
section
variable {K : FgX}
def gSortD : List D → Option (List D)
  | [.list ds] => if okSort ds = true then some (srtD ds) else none
  | _ => none
theorem at_zip {F : Hp} : ∀ {ds : List D} {xs : List V}, AtAll K F ds xs → xs.length = ds.length ∧ ∀ p ∈ xs.zip ds, At K F p.2 p.1
  | [], xs, h => by
    simp only [AtAll] at h
    subst h
    exact ⟨rfl, fun p hp => nomatch hp⟩
  | d :: ds, xs, h => by
    simp only [AtAll] at h
    obtain ⟨x, r, rfl, a, q⟩ := h
    obtain ⟨h1, h2⟩ := at_zip q
    refine ⟨by rw [List.length_cons, List.length_cons, h1], fun p hp => ?_⟩
    rcases List.mem_cons.mp (show p ∈ (x, d) :: r.zip ds from hp) with rfl | hp
    · exact a
    · exact h2 p hp
theorem of_pairs {F : Hp} : ∀ {ps : List (V × D)}, (∀ p ∈ ps, At K F p.2 p.1) → AtAll K F (ps.map Prod.snd) (ps.map Prod.fst)
  | [], _ => AtAll.nil
  | p :: r, h => AtAll.cons (h p List.mem_cons_self) (of_pairs fun q hq => h q (List.mem_cons_of_mem _ hq))
theorem zipSort_snd {xs : List V} {ds : List D} (h : xs.length = ds.length) : (zipSort xs ds).map Prod.snd = srtD ds := by
  unfold zipSort srtD
  rw [W.sort_maps (r := fun p q : V × D => leD p.2 q.2) (s := leD) Prod.snd (fun _ _ _ _ => rfl), List.map_snd_zip (Nat.le_of_eq h.symm)]
theorem plain_of : ∀ {ds : List D}, (∀ d ∈ ds, okD d = true) → PyData.plainAll ds = true
  | [], _ => rfl
  | d :: r, h => by
    simp only [PyData.plainAll, okD_plain (h d List.mem_cons_self), Bool.true_and]
    exact plain_of fun x hx => h x (List.mem_cons_of_mem _ hx)
theorem okSort_plain {ds : List D} (h : okSort ds = true) : PyData.plainAll ds = true := plain_of (okSort_spec h).1
theorem l_sortD : LCF K (rSortedD K) gSortD := fun C σ H F env xs ds es Q R a e k => by
  unfold gSortD at e
  split at e
  · split at e
    · rename_i ho
      cases e
      obtain ⟨x, rfl, w⟩ := a.one
      obtain ⟨p, zs, rfl, e1, a2⟩ := w
      refine ⟨p, zs, _, rfl, SqL.of e1, AtAll.dp _ _ (okSort_plain ho) (AtAll.mono R.frz _ _ a2), ho, fun l hl => ?_⟩
      obtain ⟨s, f, h, n⟩ := R.alloc0 (o := .lst ((zipSort zs _).map Prod.fst)) hl
      refine k l _ F s f h n hl ?_
      obtain ⟨z1, z2⟩ := at_zip a2
      rw [← zipSort_snd z1]
      exact of_pairs fun q hq => z2 q ((List.mergeSort_perm _ _).mem_iff.mp hq)
    · cases e
  · cases e
end
theorem okSort_strs (ys : List Str) : okSort (ys.map .str) = true := by
  have h1 : (ys.map PyData.str).all okD = true := List.all_eq_true.mpr fun x hx => by
    obtain ⟨y, _, rfl⟩ := List.mem_map.mp hx
    exact okD_of (okI_str y)
  have h2 : (ys.map PyData.str).all noTup = true := List.all_eq_true.mpr fun x hx => by
    obtain ⟨y, _, rfl⟩ := List.mem_map.mp hx
    rfl
  have h3 : ((ys.map PyData.str).all fun d => (ys.map PyData.str).all fun e => W.alike d e) = true := List.all_eq_true.mpr fun x hx => List.all_eq_true.mpr fun z hz => by
    obtain ⟨y, _, rfl⟩ := List.mem_map.mp hx
    obtain ⟨y2, _, rfl⟩ := List.mem_map.mp hz
    rfl
  unfold okSort
  rw [h1, h2, h3, Bool.or_true]
  rfl
theorem leD_str (a b : Str) : leD (.str a) (.str b) = !ltS b a := by
  have h := congrFun (congrFun (W.dataLe_str (fun b : Str => b)) a) b
  have h : leD (.str a) (.str b) = decide (a.cps.toList ≤ b.cps.toList) := h
  rw [h]
  unfold ltS
  by_cases c : b.cps.toList < a.cps.toList
  · rw [decide_eq_true c, decide_eq_false fun z => z c]
    rfl
  · rw [decide_eq_false c]
    exact decide_eq_true (show a.cps.toList ≤ b.cps.toList from c)
theorem srtD_strs (ys : List Str) : srtD (ys.map .str) = (sortS ys).map .str := by
  unfold srtD
  rw [← W.sort_maps (r := fun a b : Str => !ltS b a) (s := leD) PyData.str fun a _ b _ => (leD_str a b).symm]
  congr 1
  refine sortS_of (List.mergeSort_perm _ _) ?_
  have tot : W.TotalLe fun a b : Str => !ltS b a := ⟨fun a b c h g => ?_, fun a b => ?_⟩
  · refine (W.sort_pairwise tot ys).imp fun {a b} h => ?_
    simpa [leS] using h
  · have h : leS a b := by simpa [leS] using h
    have g : leS b c := by simpa [leS] using g
    have := leS_tr h g
    simpa [leS] using this
  · cases q : ltS b a with
    | false => exact .inl rfl
    | true => exact .inr (by rw [ltS_as q]; rfl)
theorem gSortD_s {ys : List Str} : gSortD [.list (ys.map .str)] = some ((sortS ys).map .str) := by
  show (if okSort (ys.map PyData.str) = true then some (srtD (ys.map PyData.str)) else none) = _
  rw [if_pos (okSort_strs ys), srtD_strs]
end Sw

set_option Elab.async false
set_option linter.all false
set_option maxRecDepth 100000
namespace Sw
open PySem PySem.Spec L2
section
variable {X : Cz}
def qNeg (A : PE') : PE' := fun env Q => A env fun o env1 => ∃ i, o.rd env1 = some (.int i) ∧ Q (.dv (.int (-i))) env1
theorem q_neg {a : Expr} {A : PE'} {pos : Pos} (h : EV X a A) : EV X (.UnaryOp .USub a pos) (qNeg A) := by
  obtain ⟨t, h1, l1⟩ := h.ex
  refine ⟨_, pe_un un_neg h1, fun C σ H F env Q Qp R k q => ?_⟩
  refine l1 C σ H F env _ _ R (fun v H1 F1 env1 o s1 a1 q1 => ?_) q
  obtain ⟨i, e, q1⟩ := q1
  have w := rd_vw s1.rel a1 e
  exact ⟨i, w.int, k (.int (-i)) H1 F1 env1 (.dv (.int (-i))) s1 (by simp [OvOk, At]) q1⟩
end
/-- the slots' names do not matter -/
theorem pure_ren {M N : List Str} (h : M.length = N.length) {T : PS'} {l : Bool} {sp : PSp} (p : ∀ fl ds Q, (l = true ↔ fl ≠ none) → sp fl ds Q → T (endsOf l Q) (startE l N fl ds)) : ∀ fl ds Q, (l = true ↔ fl ≠ none) → sp fl ds Q → T (endsOf l Q) (startE l M fl ds) := fun fl ds Q a b => by
  have e : startE l M fl ds = startE l N fl ds := by
    unfold startE
    rw [h]
  rw [e]
  exact p fl ds Q a b
theorem srtD_two (x y : D) : srtD [x, y] = if W.dataLt y x = true then [y, x] else [x, y] := by
  have h : srtD [x, y] = if leD x y = true then [x, y] else [y, x] := by
    unfold srtD
    simp [List.mergeSort, List.merge, List.MergeSort.Internal.splitInTwo]
  rw [h]
  unfold leD
  cases W.dataLt y x <;> rfl
end Sw

set_option Elab.async false
set_option linter.all false
set_option maxRecDepth 100000
namespace Sw
open PySem PySem.Spec L2
section
variable {X : Cz} {K : FgX}
def tyD (T : String) : D → Prop
  | .str _ => T = "str"
  | .list _ => T = "list"
  | _ => False
def LMV (K : FgX) (r : V → List V → Hp → VK → Prop) (g : D → List D → Option D) : Prop := ∀ (C : Ec) (σ : L2.St) (H F : Hp) (env : List SV) (x : V) (xs : List V) (dx : D) (ds : List D) (d : D) (Q : VK), Rel K C σ H F env → Vw K H F dx x → VwAll K H F ds xs → g dx ds = some d →
  (∀ v H' F', Stp K C σ H F env H' F' env → At K F' d v → Q v H') → r x xs H Q
def qVM (T : String) (g : D → List D → Option D) (A : PE') (U : PA') : PE' := fun env Q => A env fun o env1 => (∃ d0, o.rd env1 = some d0 ∧ tyD T d0) ∧ U env1 fun os env2 => ∃ d, o.rd env2 = some d ∧ ∃ ds, rdAll env2 os = some ds ∧ ∃ r, g d ds = some r ∧ Q (.dv r) env2
def fVM (T : String) (g : D → List D → Option (List D)) (A : PE') (U : PA') : PF' := fun env Q => A env fun o env1 => (∃ d0, o.rd env1 = some d0 ∧ tyD T d0) ∧ U env1 fun os env2 => ∃ d, o.rd env2 = some d ∧ ∃ ds, rdAll env2 os = some ds ∧ ∃ r, g d ds = some r ∧ Q r env2
theorem ty_vw {T : String} {H F : Hp} {d : D} {v : V} (h : tyD T d) (a : Vw K H F d v) : tyV K T v H := by
  cases d with
  | str z =>
    have a : At K F (.str z) v := a
    simp only [At] at a
    subst a
    exact h
  | list ds =>
    obtain ⟨p, xs, rfl, e, _⟩ := a
    exact .inl ⟨h, xs, SqL.of e⟩
  | _ => exact h.elim
theorem q_vm {T id : String} {r : V → List V → Hp → VK → Prop} {g : D → List D → Option D} {name : Str} {a e : Expr} {es : List Expr} {A : PE'} {U : PA'} {apos cpos : Pos} (hl : LMV X.fr r g) (pa : PlainAttrs T) (slot : Slot T name id) (hty : typeOf (.builtin id) = pure (.type "method_descriptor")) (hm : MtR X id r)
    (ha : EV X a A) (hu : EA X (e :: es) U) (hbase : attributeBase a name X.env (eval a X.env) = eval a X.env := by rfl)
    (hfew : ((backTo cpos (starEach (e :: es) X.env)).all (fun x => !x.1) && (backToKw cpos (keywordEach [] X.env)).all (fun x => x.1.isSome)
      && decide ((e :: es).length + ([] : List Keyword).length + (if ([] : List Keyword).isEmpty then 0 else 1) < 30)) = true := by rfl)
    (hline : (apos.endLine == cpos.line) = true := by rfl) (hs : starEach (e :: es) X.env = (false, eval e X.env) :: starEach es X.env := by rfl) (hplain : (backTo cpos (starEach es X.env)).any (·.1) = false := by rfl) :
    EV X (.Call (.Attribute a name apos) (e :: es) [] cpos) (qVM T g A U) := by
  obtain ⟨t, h1, l1⟩ := ha.ex
  obtain ⟨u, h2, l2⟩ := hu.ex
  refine ⟨_, pe_bm pa slot hty hm h1 h2 hbase hfew hline hs hplain, fun C σ H F env Q Qp R k q => ?_⟩
  refine l1 C σ H F env _ _ R (fun v H1 F1 env1 o s1 a1 q1 => ?_) q
  obtain ⟨⟨d0, e0, ht⟩, q1⟩ := q1
  refine ⟨ty_vw ht (rd_vw s1.rel a1 e0), ?_⟩
  refine l2 C σ H1 F1 env1 _ _ s1.rel (fun vs H2 F2 env2 os s2 a2 q2 => ?_) q1
  obtain ⟨d, e1, ds, e2, r, e3, q2⟩ := q2
  exact hl C σ H2 F2 env2 v vs d ds r Q s2.rel (rd_vw s2.rel (a1.mono s2.ff) e1) (rdAll_vw s2.rel a2 e2) e3 fun v H' F' s3 a3 => k v H' F' env2 (.dv r) ((s1.trans s2).trans s3) a3 q2
def gIndex : D → List D → Option D
  | .list ds, [d] => if SeqAt.shaped (.list ds) = true ∧ SeqAt.shaped d = true then (ds.findIdx? fun z => PyData.eqv z d).map fun j => .int (j : Nat) else none
  | _, _ => none
theorem l_index : LMV K (rIndexD K) gIndex := fun C σ H F env x xs dx ds d Q R a b e k => by
  unfold gIndex at e
  split at e
  · rename_i es dd
    split at e
    · rename_i ho
      cases q : es.findIdx? (fun z => PyData.eqv z dd) with
      | none => rw [q] at e; cases e
      | some j =>
        rw [q] at e
        cases e
        obtain ⟨y, rfl, w⟩ := b.one
        obtain ⟨p, ys, rfl, e1, a2⟩ := a
        have hp1 : PyData.plainAll es = true := PyData.plainAll_of_canLay0 _ (SeqAt.canLay_of_shaped ho.1)
        have hp2 : dd.plain = true := PyData.plain_of_canLay0 _ (SeqAt.canLay_of_shaped ho.2)
        obtain ⟨hj, h1, h2⟩ := List.findIdx?_eq_some_iff_getElem.mp q
        refine ⟨p, y, dd, es, j, es[j], rfl, rfl, .lst (SqL.of e1) (AtAll.dp _ _ hp1 (AtAll.mono R.frz _ _ a2)), w.dp R.frz hp2, ho.1, ho.2, List.getElem?_eq_getElem hj, h1, fun m z hm hz => ?_, k _ H F (Stp.refl R) (by simp [At])⟩
        have hml : m < es.length := by omega
        rw [List.getElem?_eq_getElem hml] at hz
        cases hz
        simpa using h2 m hm
    · cases e
  · cases e
end
end Sw

set_option Elab.async false
set_option linter.all false
set_option maxRecDepth 100000
/-! sorted(xs, key=f), f a def of the program: the calls may make tracked things -/
namespace Sw
open PySem PySem.Spec PySem.Calls PyProof.Rows
section
variable {prog : Program} {w : World} {A : Around} {E : Value → Shared → Prop} {s : Shared} {a kS : Addr} {b : Bool} {vs : List Value} {keys : Array Value} {e e1 : Nat} {P : PySem.Fin → Shared → Prop}
/-- what stood at other places than these two stands; they are written one behind the other -/
abbrev But2 (a c : Addr) (h h' : Heap) : Prop := ∃ g : Heap, (∀ x o, x ≠ c → h.get? x = some o → g.get? x = some o) ∧ ∀ x o, x ≠ a → g.get? x = some o → h'.get? x = some o
theorem kTail {st : SortSt} {out : List Value} (nk : s.heap.get? kS = some (seqObj "list" keys e)) (na : s.heap.get? a = some (seqObj "list" #[] e1)) (hka : kS ≠ a) (hsz : keys.size ≤ sizeLine) (hz : out.length ≤ sizeLine) (hfl : failedOf st = none)
    (ho : (if b = true then ((arrOf st).map (·.2)).reverse else (arrOf st).map (·.2)) = out.toArray)
    (h : ∀ h' tk c, But2 a kS s.heap h' → h'.get? a = some (seqObj "list" out.toArray c) → P (.done (.ret .none)) { s with heap := h', toks := tk }) : wpAny (model prog w) A (ksk_tail a b e1 (.ref kS) st) P E s := by
  have s1 := Heap.SameBut.update s.heap kS (Obj.mapSeq fun _ => (#[] : Array Value))
  generalize hg : s.heap.update kS (Obj.mapSeq fun _ => (#[] : Array Value)) = g at s1
  have na1 : g.get? a = some (seqObj "list" #[] e1) := (s1.2 a hka.symm).trans na
  have s2 := Heap.SameBut.update g a (Obj.mapSeq fun _ => out.toArray)
  obtain ⟨c2, hc2⟩ : ∃ c2, (g.update a (Obj.mapSeq fun _ => out.toArray)).get? a = some (seqObj "list" out.toArray c2) := ⟨_, get?_update_seq na1 fun _ => out.toArray⟩
  have hz2 : out.toArray.size ≤ sizeLine + 1 := by rw [List.size_toArray]; omega
  unfold ksk_tail
  try dsimp only
  rw [ho]
  refine wpAny_bind (listUpdate_at nk rfl ?_ hsz (Nat.zero_le _))
  rw [hg]
  refine wpAny_bind (wpAny_letGo (wpAny_bind (seqEpoch_at na1 rfl ?_)))
  refine wpAny_bind (listUpdate_at na1 rfl ?_ (Nat.zero_le _) hz2)
  rw [hfl]
  simp only [bne_self_eq_false, Bool.false_eq_true, if_false]
  exact wpAny_pure (h _ _ c2 ⟨g, fun x o h2 q => (s1.2 x h2).trans q, fun x o h1 q => (s2.2 x h1).trans q⟩ hc2)
theorem kEnd {κ : PyProof.Rows.KeyKind} (nk : s.heap.get? kS = some (seqObj "list" keys e)) (na : s.heap.get? a = some (seqObj "list" #[] e1)) (hka : kS ≠ a) (S : W.SortsAt prog w A s κ keys.toList) (hsz : keys.size = vs.length) (hZ : vs.length ≤ sizeLine)
    (h : ∀ h' tk c, But2 a kS s.heap h' → h'.get? a = some (seqObj "list" (W.sortVals κ b keys.toList vs).toArray c) → P (.done (.ret .none)) { s with heap := h', toks := tk }) : wpAny (model prog w) A (ksk_end a b vs.toArray e1 (.ref kS) keys) P E s := by
  obtain ⟨kd, h1, h2⟩ := S.kind
  generalize hp0 : (if b = true then (keys.zip vs.toArray).reverse else keys.zip vs.toArray) = p0
  have hkl : keys.toList.length = vs.length := by rw [Array.length_toList, hsz]
  have hK : PyProof.Rows.KeysOf κ (keys.zip vs.toArray) := W.keysOf_zip S.keys
  have hol : (W.sortVals κ b keys.toList vs).length = vs.length := W.sortVals_length b hkl
  have hstart : p0.Perm (keys.zip vs.toArray) := by
    rw [← hp0]
    split
    · exact Array.perm_iff_toList_perm.mpr (by rw [Array.toList_reverse]; exact List.reverse_perm _)
    · exact Array.Perm.refl _
  have hss : p0.size = vs.length := by rw [hstart.size_eq, Array.size_zip, hsz, List.size_toArray, Nat.min_self]
  have fin : ∀ st' : SortSt, (arrOf st').Perm p0 → SortedToK κ (arrOf st') p0.size → Stable κ (arrOf st') p0 →
      (if b = true then ((arrOf st').map (·.2)).reverse else (arrOf st').map (·.2)) = (W.sortVals κ b keys.toList vs).toArray := fun st' hp hs ht => by
    subst hp0
    have q := congrArg List.toArray (W.sort_out (rev := b) (keys := keys) (items := vs.toArray) (xs := arrOf st') (κ := κ) hK hp hs ht)
    rwa [Array.toArray_toList] at q
  have step : ∀ t : Sem PySem.Fin, wpAny (model prog w) A t P E s → wpAny (model prog w) A (if b = true then (do let _ ← rule "list.sort.reverse"; t) else t) P E s := fun t ht => by
    split
    · exact wpAny_bind (wpAny_rule ht)
    · exact ht
  unfold ksk_end
  try dsimp only
  rw [hp0]
  refine step _ ?_
  by_cases hl2 : vs.toArray.size < 2
  · rw [if_pos hl2, if_pos hl2]
    refine wpAny_bind (wpAny_pure ?_)
    rw [StateT.run_pure]
    refine wpAny_bind (wpAny_pure ?_)
    try dsimp only
    refine kTail (st := SortSt.mk' general' p0 #[] 7 none) nk na hka (by rw [hsz]; exact hZ) (by rw [hol]; exact hZ) rfl (fin _ (Array.Perm.refl _) ?_ (Stable.refl _)) h
    intro i j hij hj
    rw [hss] at hj
    rw [List.size_toArray] at hl2
    obtain rfl : i = j := by omega
    exact KeyOrd.kle_refl _
  · rw [if_neg hl2, if_neg hl2]
    rw [List.size_toArray] at hl2
    refine wpAny_bind (h2 (by omega) _ ?_)
    refine wpAny_bind (wpAny_mono (H.wpS_sortRunsSt (κ := κ) (kd := kd) (a₀ := p0) (st := SortSt.mk' kd p0 #[] 7 none)
      (Q := fun _ st' => failedOf st' = none ∧ (if b = true then ((arrOf st').map (·.2)).reverse else (arrOf st').map (·.2)) = (W.sortVals κ b keys.toList vs).toArray)
      h1 (hK.perm hstart) ⟨Array.Perm.refl _, rfl, rfl⟩ rfl (Stable.refl _) (by rw [hss]; omega) fun st' a1 a2 a3 a4 => ⟨a2, fin st' a1 a3 a4⟩) ?_ fun _ _ e => e)
    rintro ⟨⟨⟩, st'⟩ s' ⟨rfl, hf, ho⟩
    try dsimp only at ho ⊢
    exact kTail nk na hka (by rw [hsz]; exact hZ) (by rw [hol]; exact hZ) hf ho h
end
end Sw
namespace Sw
open PySem PySem.Spec L2 FbM PyProof.Rows
section
variable {X : Cz} {pins : List (Addr × Obj)} {σ : L2.St}
/-- an untracked record of ours is tracked from here on -/
theorem adopt {H : Hp} {s : Shared} {a : Addr} {o : HO} (I : Inv X pins σ H s) (r : Rec X pins a) (n : H a = none) (new : ObjOk X.prog X.w (upd H a o) s.heap a o) : Inv X pins σ (upd H a o) s := by
  have ne : ∀ b u, H b = some u → b ≠ a := fun b u e z => by rw [z, n] at e; cases e
  refine I.call' (ch := [a]) rfl ⟨fun b o e _ _ _ => e, fun b o e _ _ _ => ⟨o.slots, e⟩, fun b o _ hb hx => ?_, fun b o e _ => ⟨o, e⟩, fun b xs e => ?_, fun b o u e => ?_, fun b ps e => ⟨#[], ?_⟩⟩ (fun b u e => ?_) I.bare fun b hb => ?_
  · rw [upd_ne (fun z => hx (by rw [z]; exact List.mem_cons_self))]
    exact hb
  · rw [upd_ne (ne _ _ e)]; exact e
  · rw [upd_ne (ne _ _ e)]; exact e
  · rw [upd_ne (ne _ _ e), e]; simp
  · by_cases hb : b = a
    · subst hb
      rw [upd_same] at e
      cases e
      exact new
    · rw [upd_ne hb] at e
      refine (I.hok b u e).stay (fun c v _ q => q) (fun c q => ?_) fun c xs q => ?_
      · rw [upd_ne (ne _ _ q)]; exact q
      · rw [upd_ne (ne _ _ q)]; exact q
  · rw [List.mem_singleton.mp hb]
    exact ⟨.inr r.ge, r.nl, r.ce, r.pn⟩
/-- the keys, one call behind the other -/
def tKeys (sp : Sp) : List V → List V → Hp → (List V → Hp → Prop) → Prop
  | [], acc, H, Q => Q acc H
  | x :: r, acc, H, Q => sp [x] H (fun v H' => tKeys sp r (acc ++ [v]) H' Q) E0
theorem each_of_vals : ∀ {ks : List V} {us : List Value} {ds : List D} {h : Heap}, Vals ks us → (∃ as, ReadsAll h us ds as) → W.EachIs (fun v d => ∃ as, Reads h v d as) us ds := fun _ ⟨as, r⟩ => W.readsAll_each (enc := fun d => d) (by rw [List.map_id']; exact r)
theorem vals_zip : ∀ {xs : List V} {us : List Value} {ds : List D}, Vals xs us → ds.length = xs.length → W.EachIs (fun v (b : V × D) => RelV b.1 v) us (xs.zip ds)
  | _, _, [], .nil, _ => .nil
  | _, _, d :: ds, .cons r q, h => .cons r (vals_zip q (by simpa using h))
theorem kRest {f : Addr} {fd : FuncData} {ps : List Str} {sp : Sp} {k : Nat} (F : FnOk X.prog X.w X.fr X.mg X.base CX0 k f fd ps sp) (hb : Binds X.fr fd ps []) (hr : Room k X.A.in1.in1) {a kS : Addr} {e1 : Nat} (ra : Rec X pins a) (rk : Rec X pins kS) (hka : kS ≠ a) {xs : List V} {vs : List Value} (rv : Vals xs vs) (hZ : vs.length ≤ sizeLine)
    {s : Shared} {H : Hp} (I : Inv X pins σ H s) (na : H a = none) (nk : H kS = none) (ga : s.heap.get? a = some (seqObj "list" #[] e1)) (gk : s.heap.get? kS = some (seqObj "list" #[] 0)) {QK : List V → List D → Hp → Prop}
    (hq : tKeys sp xs [] H fun ks H2 => ∃ ds, DpAll X.fr H2 ks ds ∧ okSort ds = true ∧ QK ks ds H2) {P : PySem.Fin → Shared → Prop} {E : Value → Shared → Prop}
    (fin : ∀ s' H' ks ds out c, Inv X pins σ H' s' → H' a = none → s'.heap.get? a = some (seqObj "list" (List.toArray out) c) → ks.length = xs.length → ds.length = xs.length → W.EachIs (fun v (b : V × D) => RelV b.1 v) out (zipSort xs ds) → QK ks ds H' → P (.done (.ret .none)) s') :
    wpAny (model X.prog X.w) X.A.in1.in1 (ksk_rest a (.ref f) false vs.toArray e1 (.ref kS)) P E s := by
  have hlx := rv.length
  unfold ksk_rest
  refine wpAny_bind (wpAny_rule ?_)
  first
    | rw [List.forIn_toArray]
    | (rw [← Array.forIn_toList]; simp only [List.toList_toArray])
    | rw [← Array.forIn_toList]
  refine wpAny_bind (ksk_fold (fun i s' => ∃ Hi kA e ac, Inv X pins σ Hi s' ∧ Hi a = none ∧ Hi kS = none ∧ s'.heap.get? kS = some (seqObj "list" kA e) ∧ s'.heap.get? a = some (seqObj "list" #[] e1) ∧ Vals ac kA.toList ∧ ac.length = i ∧
    tKeys sp (xs.drop i) ac Hi fun ks H2 => ∃ ds, DpAll X.fr H2 ks ds ∧ okSort ds = true ∧ QK ks ds H2) vs 0 s ⟨H, #[], 0, [], I, na, nk, gk, ga, .nil, rfl, hq⟩ ?step ?done)
  case step =>
    rintro j x s' hx ⟨Hi, kA, e, ac, I1, n1, n2, g1, g2, r1, l1, q1⟩
    simp only [Nat.zero_add] at l1 q1 ⊢
    have hj : j < vs.length := (List.getElem?_eq_some_iff.mp hx).1
    have hjx : j < xs.length := by omega
    obtain ⟨u, hu, rx⟩ := rv.get (List.getElem?_eq_getElem hjx)
    rw [hx] at hu
    cases hu
    rw [List.drop_eq_getElem_cons hjx] at q1
    have q1 : sp ([xs[j]] ++ []) Hi (fun v H' => tKeys sp (xs.drop (j + 1)) (ac ++ [v]) H' fun ks H2 => ∃ ds, DpAll X.fr H2 ks ds ∧ okSort ds = true ∧ QK ks ds H2) E0 := q1
    have rr : Vals ([xs[j]] ++ []) ([x] ++ []) := .cons rx .nil
    have hl : ([x] ++ ([] : List Value)).length = ps.length := by rw [← rr.length]; exact F.len _ _ _ _ q1
    have ks : kA.size = j := by
      have h1 : ac.length = kA.toList.length := r1.length
      have h2 : kA.toList.length = kA.size := Array.length_toList
      rw [← h2, ← h1]
      exact l1
    refine wpAny_bind (wpAny_attempt (wpAny_call (codeAny_mono (F.run X.A.in1.in1 X.stack s' Hi ⟨[x], []⟩ ([x] ++ []) ([xs[j]] ++ []) _ E0 hr I1.env0.in1.in1 (hb s' [x] I1.kIn hl) rr q1) fun r s2 hq => ?_)))
    cases r with
    | error e => exact hq.elim
    | ok fl =>
      cases fl with
      | next => exact hq.elim
      | brk => exact hq.elim
      | cont => exact hq.elim
      | ret u =>
        obtain ⟨v', H', os, bare, un, hok, rv', q2⟩ := (show CE X.stack X.prog X.w Hi s' _ u s2 from hq)
        have I2 : Inv X pins σ H' s2 := I1.call' os un hok bare fun b y => absurd y List.not_mem_nil
        have g3 : s2.heap.get? kS = some (seqObj "list" kA e) := un.keep _ _ g1 n2 rk.fr List.not_mem_nil
        have g4 : s2.heap.get? a = some (seqObj "list" #[] e1) := un.keep _ _ g2 n1 ra.fr List.not_mem_nil
        have m1 : H' a = none := un.free _ _ g2 n1 List.not_mem_nil
        have m2 : H' kS = none := un.free _ _ g1 n2 List.not_mem_nil
        have sb := Heap.SameBut.update s2.heap kS (Obj.mapSeq (·.push u))
        obtain ⟨c2, hc2⟩ : ∃ c2, (s2.heap.update kS (Obj.mapSeq (·.push u))).get? kS = some (seqObj "list" (kA.push u) c2) := ⟨_, get?_update_seq g3 (·.push u)⟩
        try dsimp only
        refine wpAny_bind (listUpdate_at g3 rfl ?_ (by omega) (by rw [Array.size_push]; omega))
        refine wpAny_pure ⟨rfl, H', kA.push u, c2, ac ++ [v'], rk.turn (t' := s2.toks) I2 m2 (fun c o h q => (sb.2 c h).trans q), m1, m2, hc2, (sb.2 a hka.symm).trans g4, ?_, ?_, q2⟩
        · rw [Array.toList_push]
          exact r1.append (.cons rv' .nil)
        · rw [List.length_append, l1]
          rfl
  case done =>
    rintro s' ⟨Hi, kA, e, ac, I1, n1, n2, g1, g2, r1, l1, q1⟩
    simp only [Nat.zero_add] at l1 q1
    rw [List.drop_eq_nil_of_le (by omega)] at q1
    obtain ⟨ds, hd, ho, qk⟩ := (show ∃ ds, DpAll X.fr Hi ac ds ∧ okSort ds = true ∧ QK ac ds Hi from q1)
    obtain ⟨o1, o2, o3⟩ := okSort_spec ho
    have hdl := dp_len hd
    have er := each_of_vals r1 (Dp.readsAll I1 ds ac kA.toList hd r1)
    have hks : kA.size = vs.length := by
      have h1 : ac.length = kA.toList.length := r1.length
      have h2 : kA.toList.length = kA.size := Array.length_toList
      omega
    try dsimp only
    refine wpAny_bind (listItems_at g1 rfl ?_)
    refine kEnd (κ := W.dataKind s'.heap ds) g1 g2 hka (W.SortsAt.data er o2 o3 fun d hd' => ?_) hks hZ fun h' tk c hB hg => ?_
    · have := okD_depth (o1 d hd')
      have := hr.un
      omega
    · obtain ⟨g, b1, b2⟩ := hB
      have J1 : Inv X pins σ Hi { s' with heap := g, toks := s'.toks } := rk.turn (t' := s'.toks) I1 n2 b1
      have J2 : Inv X pins σ Hi { s' with heap := h', toks := tk } := ra.turn (s := { s' with heap := g, toks := s'.toks }) (h' := h') (t' := tk) J1 n1 b2
      have hz : (xs.zip ds).map Prod.snd = ds := List.map_snd_zip (by omega)
      have hke : W.EachIs (fun v (b : V × D) => RelV b.1 v) vs (xs.zip ds) := vals_zip rv (by omega)
      refine fin _ Hi ac ds _ c J2 n1 hg (by omega) (by omega) ?_ qk
      have ko : W.KeyedOut false ((xs.zip ds).map Prod.snd) vs (W.sortVals (W.dataKind s'.heap ds) false kA.toList vs) := by
        rw [hz]
        exact ⟨s'.heap, kA.toList, o2, rfl, er⟩
      exact W.keyedOut_each Prod.snd ko hke
/-- sorted(xs, key=f) -/
def rSortK (K : FgK) (f : Addr) (sp : Sp) : List V → List V → Hp → VK → Prop := fun vs zs H Q => ∃ (l : Addr) (xs : List V), vs = [V.ref l] ∧ zs = [V.ref f] ∧ SqL K H l xs ∧
  tKeys sp xs [] H fun ks H2 => ∃ ds, DpAll K H2 ks ds ∧ okSort ds = true ∧ ∀ p, H2 p = none → Q (.ref p) (upd H2 p (.lst ((zipSort xs ds).map Prod.fst)))
theorem cr_sortedF {f : Addr} {fd : FuncData} {ps : List Str} {sp : Sp} {k : Nat} (F : FnOk X.prog X.w X.fr X.mg X.base CX0 k f fd ps sp) (hb : Binds X.fr fd ps []) (hr : Room k X.A.in1.in1) : CallRK X (.builtin "sorted") [Str.ofString "key"] (rSortK X.fr f sp) := by
  intro pins s σ H vs zs us ws Q I r rz h
  obtain ⟨l, xs, rfl, rfl, hs, hq⟩ := h
  obtain ⟨its, rv, hl, hz⟩ := I.list hs
  have hzi : its.length ≤ sizeLine := by rw [← rv.length]; exact hz
  obtain ⟨u, rfl, ru⟩ := vals1 r
  obtain rfl : u = Value.ref l := ru
  obtain ⟨g, rfl, rg⟩ := vals1 rz
  obtain rfl : g = Value.ref f := rg
  refine W.sorted_of_sort hl.isList hzi (ksk_s1 _ _) (fun _ => ksk_l1 _ _) fun E' => ?_
  have ho := W.copyHeap_at s.heap its
  obtain ⟨e1, ho1⟩ : ∃ e1, ((W.copyHeap s.heap its).update (s.heap.objs.size + 1) (Obj.mapSeq fun _ => (#[] : Array Value))).get? (s.heap.objs.size + 1) = some (seqObj "list" #[] e1) := ⟨_, get?_update_seq ho fun _ => #[]⟩
  have lt1 : s.heap.objs.size + 1 < (W.copyHeap s.heap its).objs.size := Heap.lt_size ho
  have hkS : (((W.copyHeap s.heap its).update (s.heap.objs.size + 1) (Obj.mapSeq fun _ => (#[] : Array Value))).push (seqObj "tuple" its.toArray 0)).objs.size = (W.copyHeap s.heap its).objs.size + 1 := by rw [size_push', Heap.size_update]
  show wpAny _ _ (Builtin.«list.sort» ⟨[.ref (s.heap.objs.size + 1)], [(Str.ofString "key", .ref f)]⟩) _ _ _
  rw [ksk_t1]
  have le1 : s.heap.objs.size ≤ (((W.copyHeap s.heap its).update (s.heap.objs.size + 1) (Obj.mapSeq fun _ => (#[] : Array Value))).push (seqObj "tuple" its.toArray 0)).objs.size := by rw [hkS]; omega
  have ne1 : (((W.copyHeap s.heap its).update (s.heap.objs.size + 1) (Obj.mapSeq fun _ => (#[] : Array Value))).push (seqObj "tuple" its.toArray 0)).objs.size ≠ s.heap.objs.size + 1 := by rw [hkS]; omega
  unfold ksk_tree
  refine wpAny_bind (listItems_at ho rfl ?_)
  refine wpAny_bind (listUpdate_at ho rfl ?_ (by rw [List.size_toArray]; exact hzi) (Nat.zero_le _))
  refine wpAny_bind (seqEpoch_at ho1 rfl ?_)
  refine wpAny_bind (wpAny_newTuple ?_ (by show its.length ≤ _; exact hzi))
  refine wpAny_bind (wpAny_newList ?_ (Nat.zero_le _))
  refine wpAny_holding ?_
  have I1 : Inv X pins σ H { s with heap := W.sortingHeap (W.copyHeap s.heap its) (s.heap.objs.size + 1) its } := I.kept fun b o e => W.sorting_copy_old e
  have ra : Rec X pins (s.heap.objs.size + 1) := rec_new I (Nat.le_succ _)
  refine kRest F hb hr (s := { s with heap := W.sortingHeap (W.copyHeap s.heap its) (s.heap.objs.size + 1) its }) (kS := (((W.copyHeap s.heap its).update (s.heap.objs.size + 1) (Obj.mapSeq fun _ => (#[] : Array Value))).push (seqObj "tuple" its.toArray 0)).objs.size)
    (e1 := e1) ra (rec_new I le1) ne1 rv hzi I1 (I.hok.fresh (Nat.le_succ _)) (I.hok.fresh le1) (Heap.get?_push_of_some _ (Heap.get?_push_of_some _ ho1)) (Heap.get?_push_size _ rfl) hq ?_
  intro s' H' ks ds out c J n1 hg k1 k2 he qk
  refine ⟨rfl, .ref (s.heap.objs.size + 1), _, adopt (o := .lst ((zipSort xs ds).map Prod.fst)) J ra n1 ⟨?_, out, c, each_vals he, hg⟩, rfl, qk _ n1⟩
  rw [List.length_map, List.length_mergeSort, List.length_zip, k2, Nat.min_self]
  exact hz
end
end Sw

set_option Elab.async false
set_option linter.all false
set_option maxRecDepth 100000
namespace Sw
open PySem PySem.Spec L2
section
variable {X : Cz}
def pKeys (sp : PSp) : List D → List D → (List D → Prop) → Prop
  | [], acc, Q => Q acc
  | x :: r, acc, Q => sp none [x] fun rv _ => ∃ kd, rv = .dt kd ∧ pKeys sp r (acc ++ [kd]) Q
/-- xs in the order of the keys ks -/
def byKeys (xs ks : List D) : List D := ((xs.zip ks).mergeSort fun p q => leD p.2 q.2).map Prod.fst
def fSortK (sp : PSp) (A : PE') : PF' := fun env Q => A env fun o env1 => ∃ xs, o.rd env1 = some (.list xs) ∧ pKeys sp xs [] fun ks => okSort ks = true ∧ Q (byKeys xs ks) env1
theorem pKeys_ok {K : FgX} {C : Ec} {σ : L2.St} {env : List SV} {sp : PSp} {QV : List V → Hp → Prop} {QD : List D → Prop} {H0 F0 : Hp} (R0 : Rel K C σ H0 F0 env) :
    ∀ {xs : List D} {ys : List V} {ks : List D} {vs : List V} {H F : Hp}, Stp K C σ H0 F0 env H F env → AtAll K F xs ys → AtAll K F ks vs →
      (∀ ls vs H F, Stp K C σ H0 F0 env H F env → AtAll K F ls vs → ls.length = ks.length + xs.length → QD ls → QV vs H) → pKeys sp xs ks QD → tKeys (spOf K false sp) ys vs H QV
  | [], ys, ks, vs, H, F, st, a, b, fin, q => by
    simp only [AtAll] at a
    subst a
    exact fin ks vs H F st b rfl q
  | x :: xs, ys, ks, vs, H, F, st, a, b, fin, q => by
    simp only [AtAll] at a
    obtain ⟨y, r, rfl, a1, a2⟩ := a
    refine ⟨F, none, none, [x], [y], st.rel.frz, AtAll.cons a1 AtAll.nil, by rw [if_neg (by decide)]; exact ⟨rfl, rfl, rfl⟩, _, q, fun v H' F' rv fl' pp qq => ?_⟩
    obtain ⟨kd, rfl, qq⟩ := qq
    have s2 := Post.stp st.rel pp
    have av : At K F' kd v := pp.res
    exact pKeys_ok R0 (st.trans s2) (AtAll.mono pp.mono _ _ a2) (AtAll.app (AtAll.mono pp.mono _ _ b) (AtAll.cons av AtAll.nil)) (fun ls vs H F s a e q => fin ls vs H F s a (by rw [e, List.length_append, List.length_cons, List.length_cons, List.length_nil]; omega) q) qq
theorem zip3 {α β γ : Type} : ∀ (ys : List α) (xs : List β) (ks : List γ), ks.length = xs.length → (ys.zip (xs.zip ks)).map (fun t => (t.1, t.2.1)) = ys.zip xs ∧ (ys.zip (xs.zip ks)).map (fun t => (t.1, t.2.2)) = ys.zip ks
  | [], _, _, _ => ⟨rfl, rfl⟩
  | _ :: _, [], [], _ => ⟨rfl, rfl⟩
  | y :: ys, x :: xs, k :: ks, h => by
    obtain ⟨h1, h2⟩ := zip3 ys xs ks (by simpa using h)
    constructor
    · show (y, x) :: (ys.zip (xs.zip ks)).map (fun t => (t.1, t.2.1)) = (y, x) :: ys.zip xs
      rw [h1]
    · show (y, k) :: (ys.zip (xs.zip ks)).map (fun t => (t.1, t.2.2)) = (y, k) :: ys.zip ks
      rw [h2]
theorem byKeys_at {K : FgX} {F : Hp} {xs ks : List D} {ys : List V} (a : AtAll K F xs ys) (h : ks.length = xs.length) : AtAll K F (byKeys xs ks) ((zipSort ys ks).map Prod.fst) := by
  obtain ⟨hl, hp⟩ := at_zip a
  let T : List (V × (D × D)) := ys.zip (xs.zip ks)
  have e1 : T.map (fun t => (t.1, t.2.2)) = ys.zip ks := (zip3 ys xs ks h).2
  have e2 : T.map (fun t => t.2) = xs.zip ks := List.map_snd_zip (by rw [List.length_zip]; omega)
  have s1 : (zipSort ys ks) = (T.mergeSort fun p q => leD p.2.2 q.2.2).map fun t => (t.1, t.2.2) := by
    unfold zipSort
    rw [← e1, W.sort_maps (r := fun p q : V × (D × D) => leD p.2.2 q.2.2) (s := fun p q : V × D => leD p.2 q.2) (fun t => (t.1, t.2.2)) fun _ _ _ _ => rfl]
  have s2 : ((xs.zip ks).mergeSort fun p q => leD p.2 q.2) = (T.mergeSort fun p q => leD p.2.2 q.2.2).map fun t => t.2 := by
    rw [← e2, W.sort_maps (r := fun p q : V × (D × D) => leD p.2.2 q.2.2) (s := fun p q : D × D => leD p.2 q.2) (fun t => t.2) fun _ _ _ _ => rfl]
  unfold byKeys
  rw [s1, s2, List.map_map, List.map_map]
  have key : ∀ L : List (V × (D × D)), (∀ t ∈ L, At K F t.2.1 t.1) → AtAll K F (L.map (Prod.fst ∘ fun t => t.2)) (L.map (Prod.fst ∘ fun t => (t.1, t.2.2))) := by
    intro L
    induction L with
    | nil => intro _; exact AtAll.nil
    | cons t r ih => exact fun h => AtAll.cons (h t List.mem_cons_self) (ih fun z hz => h z (List.mem_cons_of_mem _ hz))
  refine key _ fun t ht => ?_
  have ht : t ∈ T := (List.mergeSort_perm _ _).mem_iff.mp ht
  have h3 : (t.1, t.2.1) ∈ ys.zip xs := by
    rw [← (zip3 ys xs ks h).1]
    exact List.mem_map_of_mem ht
  exact hp _ h3
theorem f_sortK {k j : Nat} {ps : List Str} {sp : PSp} {x : Str} {a : Expr} {A : PE'} {p q pos kpos : Pos} (c : Cal X.prog X.w X.fr X.mg X.base k x false ps [] sp) (hr : Room j X.A) (hkj : k + 1 ≤ j) (hgx : Gl X x) (hg : Gl X "sorted") (hm : X.mg "sorted" = none) (ha : EV X a A) (hdx : (x == ("__debug__" : Str)) = false := by decide)
    (hs : starEach [a] X.env = (false, eval a X.env) :: starEach [] X.env := by rfl) (he : backTo pos (starEach [a] X.env) = (false, eval a X.env) :: backTo pos (starEach [] X.env) := by rfl) (hpl : (backTo pos (starEach [a] X.env)).any (·.1) = false := by rfl)
    (hall : (backToKw pos (keywordEach [⟨some "key", .Name x q, kpos⟩] X.env)).all (·.1.isSome) = true := by rfl) (hnone : (backToKw pos (keywordEach [⟨some "key", .Name x q, kpos⟩] X.env)).any (·.1.isNone) = false := by rfl) (hks : (backToKw pos (keywordEach [⟨some "key", .Name x q, kpos⟩] X.env)).filterMap (·.1) = [Str.ofString "key"] := by rfl) :
    EF X (.Call (.Name "sorted" p) [a] [⟨some "key", .Name x q, kpos⟩] pos) (fSortK sp A) := by
  obtain ⟨f, fd, dvs, ds, h1, h2, h3, h4, h5, h6⟩ := c.ex
  have h6 : dvs = [] := by simpa [AtAll] using h6 X.fr (fun _ => none)
  subst h6
  cases h5
  obtain ⟨t, g1, l1⟩ := ha.ex
  have hrm : Room k X.A.in1.in1 := ⟨hr.hd, by have := hr.dp; show X.A.depth + 3 * k + 5 < _; omega, by have := hr.un; show X.A.units + 1 + 1 + 16 * k + 200 < _; omega⟩
  refine ⟨_, pe_callBK (ks := [Str.ofString "key"]) (cr_sortedF h1 h4 hrm) hg hm (by decide +kernel) (pa_cons g1 pa_nil hs) (pk_cons (pe_glob hgx h2 (v := .ref f) rfl hdx) pk_nil) (by decide) (by decide) he hpl hall hnone hks, fun C σ H F env Q Qp R kk q => ?_⟩
  refine l1 C σ H F env _ _ R (fun v H1 F1 env1 o s1 a1 q1 => ?_) q
  obtain ⟨xs, e1, q1⟩ := q1
  obtain ⟨l, ys, rfl, e2, a2⟩ := rd_vw s1.rel a1 e1
  refine ⟨l, ys, rfl, rfl, SqL.of e2, ?_⟩
  refine pKeys_ok s1.rel (Stp.refl s1.rel) a2 AtAll.nil (fun ks vs H2 F2 s2 ak ek qd => ?_) q1
  obtain ⟨ho, qq⟩ := qd
  refine ⟨ks, AtAll.dp _ _ (okSort_plain ho) (AtAll.mono s2.rel.frz _ _ ak), ho, fun r hr => ?_⟩
  obtain ⟨s3, f3, h03, n3⟩ := s2.rel.alloc0 (o := .lst ((zipSort ys ks).map Prod.fst)) hr
  have hlen : ks.length = xs.length := by
    rw [ek, List.length_nil, Nat.zero_add]
  exact kk r _ (byKeys xs ks) _ F2 env1 ((s1.trans s2).trans s3) upd_same f3 h03 n3 (s1.dm r (s2.dm r hr)) (byKeys_at (AtAll.mono s2.ff _ _ a2) hlen) qq
end
end Sw

set_option Elab.async false
set_option linter.all false
set_option maxRecDepth 100000
namespace Sw
open PySem PySem.Spec PyProof.Rows
theorem roomU {k : Nat} {A : Around} (r : L2.Room k A) : A.units + 65 < cLine := by
  have := r.un
  omega
section
variable {prog : Program} {w : World} {A : Around} {E : Value → Shared → Prop} {s : Shared}
theorem minL_data {l : Addr} {vs : List Value} {x : D} {xs : List D} {as : List Addr} {Q : Value → Shared → Prop} (hh : A.handled = none) (hl : s.heap.IsList l vs.toArray) (hr : ReadsAll s.heap vs (x :: xs) as) (ha : W.AlikeAll (x :: xs)) (hu : A.units + 1 + PyData.depthAll (x :: xs) < cLine)
    (h : ∀ (i : Nat) v h' tk, vs[i]? = some v → (x :: xs)[i]? = some (W.minD x xs) → (∀ b o, s.heap.get? b = some o → h'.get? b = some o) → Q v { s with heap := h', toks := tk }) : wpAny (model prog w) A (call (.builtin "min") [.ref l]) Q E s := by
  have hr' : ReadsAll s.heap vs.toArray.toList (x :: xs) as := hr
  have hn : vs.toArray.size = xs.length + 1 := W.readsAll_len hr'
  refine call_min_walkH (W.iter_listW (A := A.in1) hh hl fun s₂ e Wk st hfp hw hk => ?_)
  refine ⟨_, _, _, _, _, _, _, s.heap, _, rfl, Wk, st, hfp, by omega, hw, hk, W.cmpIn_lt (A := A.in1) hr' ha (by show A.units + 1 + _ < _; exact hu), fun v s' hP m => ?_⟩
  obtain ⟨h', tk, rfl, hk'⟩ := W.moved_old e rfl m
  obtain ⟨f1, f2⟩ := W.argBest_fold W.dataLt PyData.none x xs xs.length (Nat.le_refl _)
  rw [List.take_length] at f2
  have e1 : vs.toArray.size - 1 = xs.length := by omega
  rw [e1] at hP
  generalize argBest (fun i j => W.dataLt ((x :: xs).getD i PyData.none) ((x :: xs).getD j PyData.none)) xs.length = n at f1 f2 hP
  refine h n v h' tk (by simpa using hP) ?_ hk'
  have hlt : n < (x :: xs).length := by rw [List.length_cons]; omega
  rw [List.getElem?_eq_getElem hlt]
  rw [List.getD_eq_getElem?_getD, List.getElem?_eq_getElem hlt] at f2
  exact congrArg some f2
end
end Sw
namespace Sw
open PySem PySem.Spec L2
def minOk (ds : List D) : Bool := ds.all okD && (ds.all (fun d => ds.all fun e => W.alike d e) && ds.all fun d => !noneD d)
theorem minOk_spec {ds : List D} (h : minOk ds = true) : (∀ d ∈ ds, okD d = true) ∧ W.AlikeAll ds := by
  unfold minOk at h
  obtain ⟨h1, h⟩ := Bool.and_eq_true_iff.mp h
  obtain ⟨h2, h3⟩ := Bool.and_eq_true_iff.mp h
  refine ⟨List.all_eq_true.mp h1, fun d hd e he => List.all_eq_true.mp (List.all_eq_true.mp h2 d hd) e he, fun d hd => ?_⟩
  rintro rfl
  have := List.all_eq_true.mp h3 _ hd
  cases this
theorem depthAll_le {ds : List D} (h : ∀ d ∈ ds, okD d = true) : PyData.depthAll ds ≤ 40 := by
  induction ds with
  | nil => exact Nat.zero_le _
  | cons d r ih =>
    have h1 := okD_depth (h d List.mem_cons_self)
    have h2 := ih fun x hx => h x (List.mem_cons_of_mem _ hx)
    simp only [PyData.depthAll]
    omega
section
variable {X : Cz}
def rBestL (K : FgK) (g : D → List D → D) : List V → Hp → VK → Prop := fun vs H Q => ∃ (a : Addr) (xs : List V) (d : D) (ds : List D), vs = [V.ref a] ∧ SqL K H a xs ∧ DpAll K H xs (d :: ds) ∧ minOk (d :: ds) = true ∧ ∀ (i : Nat) (v : V), xs[i]? = some v → (d :: ds)[i]? = some (g d ds) → Q v H
theorem call_minL (hc : X.calm = true) (hu : X.A.units + 64 < cLine) : CallR X (.builtin "min") (rBestL X.fr W.minD) := by
  intro pins s σ H vs us Q I r h
  obtain ⟨a, xs, d, ds, rfl, hs, hd, ho, q⟩ := h
  obtain ⟨o1, o2⟩ := minOk_spec ho
  obtain ⟨its, rv, hl, hz⟩ := I.list hs
  obtain ⟨u, rfl, ru⟩ := vals1 r
  obtain rfl : u = Value.ref a := ru
  obtain ⟨as, rr⟩ := Dp.readsAll I _ xs its hd rv
  have := depthAll_le o1
  refine minL_data (I.ok.hd hc) hl.isList rr o2 (by omega) fun i v h' tk hv hd' hk => ?_
  have hi : i < xs.length := by rw [rv.length]; exact (List.getElem?_eq_some_iff.mp hv).1
  obtain ⟨u', hu', rx⟩ := rv.get (List.getElem?_eq_getElem hi)
  rw [hv] at hu'
  cases hu'
  exact ⟨xs[i], H, I.kept hk, rx, q i _ (List.getElem?_eq_getElem hi) hd'⟩
end
section
variable {K : FgX}
def gBestL (g : D → List D → D) : List D → Option D
  | [.list (d :: ds)] => if minOk (d :: ds) = true then some (g d ds) else none
  | _ => none
theorem l_bestL {g : D → List D → D} : LC K (rBestL K g) (gBestL g) := fun C σ H F env xs ds d Q R a e k => by
  unfold gBestL at e
  split at e
  · split at e
    · rename_i d0 dr ho
      cases e
      obtain ⟨x, rfl, w⟩ := a.one
      obtain ⟨p, zs, rfl, e1, a2⟩ := w
      refine ⟨p, zs, d0, dr, rfl, SqL.of e1, AtAll.dp _ _ (plain_of (minOk_spec ho).1) (AtAll.mono R.frz _ _ a2), ho, fun i v hv hd => ?_⟩
      obtain ⟨y, hy, ay⟩ := a2.get hd
      rw [hv] at hy
      cases hy
      exact k _ H F (Stp.refl R) ay
    · cases e
  · cases e
end
end Sw

set_option Elab.async false
set_option linter.all false
set_option maxRecDepth 100000
namespace Sw
open PySem PySem.Spec L2
section
variable {K : FgX}
def gIsB (neg : Bool) : D → D → Option D
  | .bool a, .bool b => some (.bool (if neg = true then !decide (a = b) else decide (a = b)))
  | _, _ => none
theorem gIsB_bb {a b : Bool} : gIsB false (.bool a) (.bool b) = some (.bool (decide (a = b))) := rfl
theorem gNotB_bb {a b : Bool} : gIsB true (.bool a) (.bool b) = some (.bool (!decide (a = b))) := rfl
end
end Sw

set_option Elab.async false
set_option linter.all false
set_option maxRecDepth 100000
namespace Sw
open PySem PySem.Spec L2
def restE (env1 : List SV) (env2 : List SV) : List Nat → List SV
  | [] => env2
  | v :: vs => (restE env1 env2 vs).set v (env1.getD v .un)
theorem restE_len (env1 env2 : List SV) : ∀ vs : List Nat, (restE env1 env2 vs).length = env2.length
  | [] => rfl
  | v :: vs => by unfold restE; rw [List.length_set, restE_len env1 env2 vs]
theorem restE_oth {env1 env2 : List SV} {j : Nat} : ∀ {vs : List Nat}, j ∉ vs → (restE env1 env2 vs)[j]? = env2[j]?
  | [], _ => rfl
  | v :: vs, h => by
    simp only [List.mem_cons, not_or] at h
    unfold restE
    rw [List.getElem?_set_ne (Ne.symm h.1)]
    exact restE_oth h.2
theorem restE_mem {env1 env2 : List SV} (hl : env1.length = env2.length) {j : Nat} : ∀ {vs : List Nat}, j ∈ vs → (restE env1 env2 vs)[j]? = env1[j]?
  | v :: vs, h => by
    unfold restE
    by_cases q : v = j
    · subst q
      by_cases hv : v < env2.length
      · rw [List.getElem?_set_self (by rw [restE_len]; exact hv), List.getD_eq_getElem?_getD, List.getElem?_eq_getElem (by omega)]
        rfl
      · rw [List.getElem?_eq_none (by rw [List.length_set, restE_len]; omega), List.getElem?_eq_none (by omega)]
    · rw [List.getElem?_set_ne q]
      rcases List.mem_cons.mp h with z | z
      · exact absurd z.symm q
      · exact restE_mem hl z
theorem wipeE_wipeE (env : List SV) (vs : List Nat) : wipeE (wipeE env vs) vs = wipeE env vs := by
  apply List.ext_getElem?
  intro j
  by_cases hj : j ∈ vs
  · cases z : (wipeE env vs)[j]? with
    | none =>
      rw [List.getElem?_eq_none_iff] at z ⊢
      rw [wipeE_len]; exact z
    | some sv =>
      have z1 := wipeE_mem hj z
      have hjl : j < (wipeE (wipeE env vs) vs).length := by
        rw [wipeE_len]
        exact (List.getElem?_eq_some_iff.mp z).1
      have z2 := wipeE_mem hj (List.getElem?_eq_getElem hjl)
      rw [List.getElem?_eq_getElem hjl, z2, z1]
  · rw [wipeE_oth hj]
section
variable {K : FgX} {C : Ec} {σ : L2.St} {H F H1 F1 : Hp} {env1 env2 : List SV} {vs : List Nat}
theorem Own.restore (hno : NoOwn env1 vs) (hw : wipeE env2 vs = env2) (hl : env1.length = env2.length := by first | assumption | omega) {b : Addr} : Own σ (restE env1 env2 vs) b ↔ Own (L2.wipe σ vs) env2 b := by
  constructor
  · rintro ⟨j, l, ds, e, s⟩
    by_cases hj : j ∈ vs
    · rw [restE_mem hl hj] at e
      exact absurd e (hno.get j hj l ds)
    · rw [restE_oth hj] at e
      exact ⟨j, l, ds, e, by rw [wipe_oth hj]; exact s⟩
  · rintro ⟨j, l, ds, e, s⟩
    have e' := e
    rw [← hw] at e'
    have hj := (own_wipe e').1
    rw [wipe_oth hj] at s
    exact ⟨j, l, ds, by rw [restE_oth hj]; exact e, s⟩
theorem Stp.restore (s : Stp K C (L2.wipe σ vs) H1 F1 (wipeE env1 vs) H F env2) (R : Rel K C σ H1 F1 env1) (hno : NoOwn env1 vs) (hw : wipeE env2 vs = env2) : Stp K C σ H1 F1 env1 H F (restE env1 env2 vs) := by
  have R2 := s.rel
  have hl : env1.length = env2.length := by
    have a := R.len
    have b := R2.len
    rw [wipe_length] at b
    omega
  have hlE : env1.length = (wipeE env1 vs).length := (wipeE_len env1 vs).symm
  have ow : ∀ (j : Nat) (l : Bool) (ds : Ct), (restE env1 env2 vs)[j]? = some (SV.obj l ds) → j ∉ vs ∧ env2[j]? = some (SV.obj l ds) := fun j l ds h => by
    by_cases hj : j ∈ vs
    · rw [restE_mem hl hj] at h
      exact absurd h (hno.get j hj l ds)
    · rw [restE_oth hj] at h
      exact ⟨hj, h⟩
  have own1 : ∀ b, Own (L2.wipe σ vs) (wipeE env1 vs) b → Own σ env1 b := fun b ⟨j, l, ds, e, q⟩ => by
    obtain ⟨hj, e⟩ := own_wipe e
    rw [wipe_oth hj] at q
    exact ⟨j, l, ds, e, q⟩
  refine ⟨⟨⟨R2.frz, R2.mono, R2.new, R2.frame, R2.la, by rw [restE_len]; rw [← hl]; exact R.len, fun j sv e => ?_, fun j k l ds m es h1 h2 h3 => ?_⟩, R2.xok⟩, s.ff, fun b o h n => s.fr b o h fun z => n (own1 b z), fun b o h => ?_, fun j l ds h => ?_, s.dm⟩
  · by_cases hj : j ∈ vs
    · rw [restE_mem hl hj] at e
      have q := R.slot j sv e
      cases sv with
      | un => trivial
      | raw z => exact q
      | dat d =>
        obtain ⟨v, e1, a⟩ := q
        exact ⟨v, e1, At.mono s.ff d v a⟩
      | obj l ds => exact absurd e (hno.get j hj l ds)
    · rw [restE_oth hj] at e
      have q := R2.slot j sv e
      rw [wipe_oth hj] at q
      exact q
  · obtain ⟨n1, h1⟩ := ow j l ds h1
    obtain ⟨n2, h2⟩ := ow k m es h2
    refine R2.dist j k l ds m es h1 h2 ?_
    rw [wipe_oth n1, wipe_oth n2]
    exact h3
  · rcases s.fn b o h with z | z | z
    · exact .inl z
    · exact .inr (.inl z)
    · exact .inr (.inr (own1 b z))
  · obtain ⟨hj, h⟩ := ow j l ds h
    obtain ⟨ds', e⟩ := s.ow j l ds h
    exact ⟨ds', (own_wipe e).2⟩
end
def fLcR (I : PI') (G : TG') (TT : PT') (TE : PE') (vs : List Nat) : PF' := fun env Q => I env fun ds env1 => NoOwn env1 vs ∧ ds.length ≤ 16777215 ∧ pLc G TT TE vs (fun acc env2 => Q acc (restE env1 env2 vs)) ds [] (wipeE env1 vs)
section
variable {X : Cz}
theorem lcR_sound {wi : TI} {g : TG} {tt : TT} {te : TE} {K : FgX} {I : PI'} {S : List Nat} {G : TG'} {TT : PT'} {TE : PE'} {vs : List Nat} (l1 : LI K wi I) (l2 : LG K S g G) (l3 : LT K tt TT) (l4 : LE K te TE) (hS : ∀ j ∈ S, j ∈ vs) : LF K (tLc wi g tt te vs) (fLcR I G TT TE vs) := fun C σ H F env Q Qp R k q => by
  refine l1 C σ H F env _ _ R (fun J ds H1 F1 env1 s1 it q1 => ?_) q
  obtain ⟨hno, hlen, q1⟩ := q1
  obtain ⟨Gd, Y, w, gd, yd⟩ := it
  intro Dp hD
  obtain ⟨sD, fD, h0D, noD⟩ := s1.rel.alloc0 (o := .lst []) hD
  have hτ : L2.wipe (L2.wipe σ vs) vs = L2.wipe σ vs := wipe_wipe σ vs
  have R1 : Rel K C (L2.wipe σ vs) H1 F1 (wipeE env1 vs) := s1.rel.wipe vs
  generalize hE : wipeE env1 vs = envW at R1 q1
  have hw : wipeE envW vs = envW := by rw [← hE]; exact wipeE_wipeE env1 vs
  obtain ⟨sD', _, _, noD'⟩ := R1.alloc0 (o := .lst []) hD
  refine lc_it w (Pv := fun i H => ∃ F2 env2 acc accv, Stp K C (L2.wipe σ vs) H1 F1 envW H F2 env2 ∧ H Dp = some (.lst accv) ∧ F2 Dp = none ∧ ¬ Own (L2.wipe σ vs) env2 Dp ∧ AtAll K F2 acc accv ∧ acc.length ≤ i ∧ wipeE env2 vs = env2 ∧ pLc G TT TE vs (fun acc env2 => Qp acc (restE env1 env2 vs)) (ds.drop i) acc env2)
    ⟨F1, envW, [], [], sD', upd_same, fD, noD', AtAll.nil, Nat.le_refl _, hw, by simpa using q1⟩ (fun i H hi ⟨F2, env2, acc, accv, s2, _⟩ => gd H (s2.ff.trans' s2.rel.frz)) (fun i x H H' hi ⟨F2, env2, acc, accv, s2, hDl, fD2, noD2, aa, hl, hw2, q2⟩ y => ?_) (fun H ⟨F2, env2, acc, accv, s2, hDl, fD2, noD2, aa, hl, hw2, q2⟩ => ?_)
  · obtain ⟨F3, d, e, s3, a3⟩ := (YOk.mono s2.ff (yd i H x H' hi (s2.ff.trans' s2.rel.frz) y)).rel s2.rel
    have e2 : ds.drop i = d :: ds.drop (i + 1) := by
      obtain ⟨hlt, e4⟩ := List.getElem?_eq_some_iff.mp e
      rw [List.drop_eq_getElem_cons hlt, e4]
    rw [e2] at q2
    have acc3 := s2.trans s3
    have hD3 : H' Dp = some (.lst accv) := s3.fr _ _ hDl noD2
    have fD3 : F3 Dp = none := by
      cases qq : F3 Dp with
      | none => rfl
      | some u =>
        rcases s3.fn _ _ qq with z | z | z
        · rw [fD2] at z; cases z
        · rw [hDl] at z; cases z
        · exact absurd z noD2
    refine l2 C _ H' F3 env2 x d _ _ s3.rel a3 (fun σ2 env3 R3 tg q3 => ?_) q2
    have r3 : L2.wipe σ2 vs = L2.wipe σ vs := (Stp.under hτ hS acc3 tg (Stp.refl R3)).1
    refine ⟨r3, ?_⟩
    have no3 : ¬ Own σ2 env3 Dp := fun ⟨j, l, es, e1, e2⟩ => by
      by_cases hj : j ∈ S
      · obtain ⟨f1, f2⟩ := tg.mem j l es hj e1
        exact noD2 ⟨j, l, es, f1, f2 ▸ e2⟩
      · obtain ⟨f1, f2⟩ := tg.oth j hj
        exact noD2 ⟨j, l, es, f2 ▸ e1, f1 ▸ e2⟩
    refine l3 C σ2 H' F3 env3 _ _ R3 (fun b H5 F5 env5 s5 q5 => ?_) q3
    have hD5 : H5 Dp = some (.lst accv) := s5.fr _ _ hD3 no3
    have fD5 : F5 Dp = none := by
      cases qq : F5 Dp with
      | none => rfl
      | some u =>
        rcases s5.fn _ _ qq with z | z | z
        · rw [fD3] at z; cases z
        · rw [hD3] at z; cases z
        · exact absurd z no3
    cases b with
    | true =>
      rw [if_pos rfl] at q5 ⊢
      refine l4 C σ2 H5 F5 env5 _ _ s5.rel (fun v H6 F6 env6 o s6 a6 q6 => ?_) q5
      obtain ⟨y', env7, e7, q7⟩ := q6
      obtain ⟨F7, s7, a7⟩ := fz_ok s6.rel a6 e7
      have st := (s5.trans s6).trans s7
      have no5 : ¬ Own σ2 env5 Dp := fun z => no3 (Own.sub s5.ow z)
      have hD6 : H6 Dp = some (.lst accv) := (s6.fr _ _ hD5 no5)
      have fD7 : F7 Dp = none := by
        cases qq : F7 Dp with
        | none => rfl
        | some u =>
          rcases st.fn _ _ qq with z | z | z
          · rw [fD3] at z; cases z
          · rw [hD3] at z; cases z
          · exact absurd z no3
      obtain ⟨_, u7⟩ := Stp.under hτ hS acc3 tg st
      have no7 : ¬ Own (L2.wipe σ vs) (wipeE env7 vs) Dp := fun z => noD2 (by
        have z1 := Own.sub u7.ow z
        exact absurd z1 noD')
      refine ⟨accv, hD6, ?_, F7, wipeE env7 vs, acc ++ [y'], accv ++ [v], ?_, upd_same, fD7, no7, AtAll.app (AtAll.mono ((s3.ff.trans' st.ff)) _ _ aa) (AtAll.cons a7 AtAll.nil), by rw [List.length_append]; simp only [List.length_cons, List.length_nil]; omega, ?_, q7⟩
      · rw [aa.len, sizeLine_eq]
        have := hi
        omega
      · exact u7.other hD hD6 fD7 h0D no7
      · -- wiped twice
        apply List.ext_getElem?
        intro j
        by_cases hj : j ∈ vs
        · cases z : (wipeE env7 vs)[j]? with
          | none =>
            rw [List.getElem?_eq_none_iff] at z ⊢
            rw [wipeE_len]; exact z
          | some sv =>
            have z1 := wipeE_mem hj z
            have hjl : j < (wipeE (wipeE env7 vs) vs).length := by
              rw [wipeE_len]
              exact (List.getElem?_eq_some_iff.mp z).1
            have z2 := wipeE_mem hj (List.getElem?_eq_getElem hjl)
            rw [List.getElem?_eq_getElem hjl, z2, z1]
        · rw [wipeE_oth hj]
    | false =>
      rw [if_neg (by decide)] at q5 ⊢
      obtain ⟨_, u7⟩ := Stp.under hτ hS acc3 tg s5
      have no7 : ¬ Own (L2.wipe σ vs) (wipeE env5 vs) Dp := fun z => noD' (Own.sub u7.ow z)
      refine ⟨F5, wipeE env5 vs, acc, accv, u7, hD5, fD5, no7, AtAll.mono (s3.ff.trans' s5.ff) _ _ aa, by omega, ?_, q5⟩
      apply List.ext_getElem?
      intro j
      by_cases hj : j ∈ vs
      · cases z : (wipeE env5 vs)[j]? with
        | none =>
          rw [List.getElem?_eq_none_iff] at z ⊢
          rw [wipeE_len]; exact z
        | some sv =>
          have z1 := wipeE_mem hj z
          have hjl : j < (wipeE (wipeE env5 vs) vs).length := by
            rw [wipeE_len]
            exact (List.getElem?_eq_some_iff.mp z).1
          have z2 := wipeE_mem hj (List.getElem?_eq_getElem hjl)
          rw [List.getElem?_eq_getElem hjl, z2, z1]
      · rw [wipeE_oth hj]
  · rw [List.drop_length] at q2
    have q2 : Qp acc (restE env1 env2 vs) := q2
    subst hE
    have st : Stp K C σ H1 F1 env1 H F2 (restE env1 env2 vs) := s2.restore s1.rel hno hw2
    exact k Dp accv acc H F2 _ (s1.trans st) hDl fD2 h0D (fun z => noD2 ((Own.restore hno hw2 (by have a := s1.rel.len; have b := s2.rel.len; rw [wipe_length] at b; omega)).mp z)) (s1.dm _ hD) aa q2
theorem f_lcR {elt tg iter : Expr} {ifs : List Expr} {scope : Scope} {own : List (Str × Nat)} {pos : Pos} {I : PI'} {S : List Nat} {G : TG'} {TT : PT'} {TE : PE'} (hc : X.calm = true) (hN : X.N.Nodup) (ok : BlkOk X.N X.env.scope scope own) (hi : EI X tg iter I) (hg : Blk X scope fun Y => EG Y S tg G) (ht : Blk X scope fun Y => ETs Y ifs TT) (he : Blk X scope fun Y => EV Y elt TE)
    (hS : ∀ j ∈ S, j ∈ own.map (·.2) := by decide) (hs : ∀ x, foldedSetIterable iter X.env x = pure x := by intro _; rfl) : EF X (.ListComp elt [⟨tg, iter, ifs, 0⟩] scope pos) (fLcR I G TT TE (own.map (·.2))) := by
  obtain ⟨wi, h1, l1⟩ := hi.ex
  obtain ⟨g, h2, l2⟩ := blk_g hg
  obtain ⟨tt, h3, l3⟩ := blk_ts ht
  obtain ⟨te, h4, l4⟩ := blk_ev he
  exact ⟨_, pe_lc hc hN h1 ok h2 h3 h4 hs, lcR_sound l1 l2 l3 l4 hS⟩
theorem s_setLcR {i : Nat} {y : Str} {py : Pos} {elt tg iter : Expr} {ifs : List Expr} {scope : Scope} {own : List (Str × Nat)} {pos spos : Pos} {I : PI'} {S : List Nat} {G : TG'} {TT : PT'} {TE : PE'} (hc : X.calm = true) (hN : X.N.Nodup) (hy : X.N[i]? = some y) (hyl : X.env.scope.names.lookup y = some .local)
    (hsw : swapsWith (.ListComp elt [⟨tg, iter, ifs, 0⟩] scope pos) (some (.Name y py)) spos.line X.env = pure true) (ok : BlkOk X.N X.env.scope scope own) (hi : EI X tg iter I) (hg : Blk X scope fun Y => EG Y S tg G) (ht : Blk X scope fun Y => ETs Y ifs TT) (he : Blk X scope fun Y => EV Y elt TE)
    (hS : ∀ j ∈ S, j ∈ own.map (·.2) := by decide) (hs : ∀ x, foldedSetIterable iter X.env x = pure x := by intro _; rfl) : ES X (.Assign [.Name y py] (.ListComp elt [⟨tg, iter, ifs, 0⟩] scope pos) spos) (sAsg i (qF (fLcR I G TT TE (own.map (·.2))))) := by
  obtain ⟨wi, h1, l1⟩ := hi.ex
  obtain ⟨g, h2, l2⟩ := blk_g hg
  obtain ⟨tt, h3, l3⟩ := blk_ts ht
  obtain ⟨te, h4, l4⟩ := blk_ev he
  refine ⟨_, ps_setLc hc hN hy hyl hsw h1 ok h2 h3 h4 hs, fun C σ H F env D Dp R k q => ?_⟩
  refine (lcR_sound l1 l2 l3 l4 hS) C σ H F env _ _ R (fun p xs ds H1 F1 env1 s1 hp fp h0 no hn a q1 => ?_) q
  obtain ⟨d, env2, e, hl, q1⟩ := q1
  simp only [OV.fz, Option.some.injEq, Prod.mk.injEq] at e
  obtain ⟨rfl, rfl⟩ := e
  have ff : Le F1 (upd F1 p (.lst xs)) := fun b u h => by
    rw [upd_ne (ne_of_none h fp)]; exact h
  have R1 := s1.rel.freeze hp fp h0 no
  exact k.nx _ H1 _ _ (R1.assign (by rw [← R1.len]; exact hl) (At.list_of upd_same (AtAll.mono ff _ _ a))) (s1.ff.trans' ff) q1
end
theorem nob_d {d : D} : nob (some (.dat d)) ↔ True := Iff.rfl
theorem nob_u : nob (some .un) ↔ True := Iff.rfl
end Sw

set_option Elab.async false
set_option linter.all false
set_option maxRecDepth 100000
namespace Sw
open PySem PySem.Spec L2
theorem sSeq_abs {A B : PS'} {Dp : PEnds} {env : List SV} (h : ∀ B', B' = B → sSeq A B' Dp env) : sSeq A B Dp env := h B rfl
theorem sIf_abs {c : PT'} {A B : PS'} {Dp : PEnds} {env : List SV} (h : ∀ A' B', A' = A → B' = B → sIf c A' B' Dp env) : sIf c A B Dp env := h A B rfl rfl
end Sw

set_option Elab.async false
set_option linter.all false
set_option maxRecDepth 100000
namespace Sw
open PySem PySem.Spec L2
theorem eqv_k (a b : Key) : PyData.eqv (kD a) (kD b) = decide (a = b) := by
  cases a with
  | inl i =>
    cases b with
    | inl j =>
      simp only [kD, PyData.eqv]
      by_cases h : i = j <;> simp [h]
    | inr y => simp [kD, PyData.eqv]
  | inr x =>
    cases b with
    | inl j => simp [kD, PyData.eqv]
    | inr y =>
      simp only [kD, PyData.eqv]
      by_cases h : x = y <;> simp [h]
/-- the dict behind a store -/
def putD (kds : List (D × D)) (k v : D) : List (D × D) := if (lookD kds k).isSome = true then kds.map fun p => if PyData.eqv p.1 k = true then (p.1, v) else p else kds ++ [(k, v)]
theorem putD_len (kds : List (D × D)) (k v : D) : (putD kds k v).length ≤ kds.length + 1 := by
  unfold putD
  split
  · rw [List.length_map]; omega
  · simp
section
variable {X : Cz} {pins : List (Addr × Obj)} {σ : L2.St} {H F : Hp} {s : Shared}
theorem key_at {K : FgK} {kk : Key} {x : V} (h : At K F (kD kk) x) : x = kV kk := by
  cases kk with
  | inl i => simpa [kD, At, kV] using h
  | inr z => simpa [kD, At, kV] using h
theorem keyed_of (I : Inv X pins σ H s) (hF : Le F H) {a : Addr} {o : HO} {kds : List (D × D)} {zs : List (NestedKey × Addr × V)} (ha : Rd H a o) (hn : IsN X.fr a zs o) (hz : AtN X.fr F kds zs) :
    zs.length ≤ sizeLine ∧ (a == sysModules) = false ∧ (∀ x ∈ zs, ∃ z, x.1 = .tup z ∧ x.1.depth ≤ 8) ∧ ∃ us, PairZ zs us ∧ s.heap.DictOfH (nestedKind X.prog X.w) a us := by
  obtain ⟨h1, h2, h3, us, h4, ob, es, ep, h5, h6, h7, h8, h9⟩ := hn.obj (ha.ok I.hok)
  exact ⟨h1, h2, h3, us, h4, ob, es, ep, h5, h6, h7, h8, AtN.is I hF hz h3 h4, h9⟩
/-- a look-up by data -/
theorem look_N {K : FgK} (nk : NestedKey) : ∀ {kds : List (D × D)} {zs : List (NestedKey × Addr × V)} {us : List (NestedKey × Addr × Value)}, AtN K F kds zs → PairZ zs us →
    (lookD kds (nkD nk) = none ∧ atKey us nk = none) ∨ ∃ d v p, lookD kds (nkD nk) = some d ∧ atKey us nk = some p ∧ At K F d v ∧ RelV v p.2
  | [], zs, us, h, p => by
    simp only [AtN] at h
    subst h
    cases p
    exact .inl ⟨rfl, rfl⟩
  | (k, d) :: r, zs, us, h, p => by
    simp only [AtN] at h
    obtain ⟨kk, b, v, zr, rfl, rfl, a1, a2, q⟩ := h
    cases p with
    | @cons z0 u0 _ ur p1 p2 =>
      obtain ⟨e1, e2, e3⟩ := p1
      simp only at e1 e2 e3
      have eu : atKey (u0 :: ur) nk = if u0.1 = nk then some u0.2 else atKey ur nk := by
        unfold atKey
        rw [List.find?_cons]
        by_cases h : u0.1 = nk <;> simp [h]
      rw [lookD_cons, eu, eqv_nk]
      by_cases h : kk = nk
      · rw [if_pos (by simpa using h), if_pos (by rw [← e1]; exact h)]
        exact .inr ⟨d, v, u0.2, rfl, rfl, a2, e3⟩
      · rw [if_neg (by simpa using h), if_neg (by rw [← e1]; exact h)]
        exact look_N nk q p2
theorem look_K {K : FgK} (kk : Key) : ∀ {kds : List (D × D)} {kvs : List (Key × V)}, AtK K F kds kvs → (lookD kds (kD kk) = none ∧ valV kvs kk = none) ∨ ∃ d v, lookD kds (kD kk) = some d ∧ valV kvs kk = some v ∧ At K F d v
  | [], kvs, h => by
    simp only [AtK] at h
    subst h
    exact .inl ⟨rfl, rfl⟩
  | (k, d) :: r, kvs, h => by
    simp only [AtK] at h
    obtain ⟨k2, v, zr, rfl, rfl, a2, q⟩ := h
    rw [lookD_cons, eqv_k]
    by_cases h : k2 = kk
    · rw [if_pos (by simpa using h), valV_pos (p := (k2, v)) h]
      exact .inr ⟨d, v, rfl, rfl, a2⟩
    · rw [if_neg (by simpa using h), valV_neg (p := (k2, v)) h]
      exact look_K kk q
/-- a store by data -/
theorem AtK.map_put {K : FgK} (kk : Key) {v : D} {x : V} (hv : At K F v x) : ∀ {kds : List (D × D)} {kvs : List (Key × V)}, AtK K F kds kvs → AtK K F (kds.map fun p => if PyData.eqv p.1 (kD kk) = true then (p.1, v) else p) (kvs.map fun p => if p.1 = kk then (p.1, x) else p)
  | [], kvs, h => by
    simp only [AtK] at h
    subst h
    simp [AtK]
  | (k, d) :: r, kvs, h => by
    simp only [AtK] at h
    obtain ⟨k2, y, zr, rfl, rfl, a2, q⟩ := h
    rw [List.map_cons, List.map_cons]
    have ih := AtK.map_put kk hv q
    by_cases e : k2 = kk
    · rw [if_pos (by rw [eqv_k]; simpa using e), if_pos e]
      simp only [AtK]
      exact ⟨k2, x, _, rfl, rfl, hv, ih⟩
    · rw [if_neg (by rw [eqv_k]; simpa using e), if_neg e]
      simp only [AtK]
      exact ⟨k2, y, _, rfl, rfl, a2, ih⟩
theorem AtK.snoc {K : FgK} {kk : Key} {v : D} {x : V} (hv : At K F v x) : ∀ {kds : List (D × D)} {kvs : List (Key × V)}, AtK K F kds kvs → AtK K F (kds ++ [(kD kk, v)]) (kvs ++ [(kk, x)])
  | [], kvs, h => by
    simp only [AtK] at h
    subst h
    simp only [List.nil_append, AtK]
    exact ⟨kk, x, [], rfl, rfl, hv, rfl⟩
  | (k, d) :: r, kvs, h => by
    simp only [AtK] at h
    obtain ⟨k2, y, zr, rfl, rfl, a2, q⟩ := h
    simp only [List.cons_append, AtK]
    exact ⟨k2, y, _, rfl, rfl, a2, AtK.snoc hv q⟩
theorem AtN.map_put {K : FgK} (kk : NestedKey) {v : D} {x : V} (hv : At K F v x) : ∀ {kds : List (D × D)} {kvs : List (NestedKey × Addr × V)}, AtN K F kds kvs → AtN K F (kds.map fun p => if PyData.eqv p.1 (nkD kk) = true then (p.1, v) else p) (kvs.map fun p => if p.1 = kk then (p.1, p.2.1, x) else p)
  | [], kvs, h => by
    simp only [AtN] at h
    subst h
    simp [AtN]
  | (k, d) :: r, kvs, h => by
    simp only [AtN] at h
    obtain ⟨k2, b, y, zr, rfl, rfl, a1, a2, q⟩ := h
    rw [List.map_cons, List.map_cons]
    have ih := AtN.map_put kk hv q
    by_cases e : k2 = kk
    · rw [if_pos (by rw [eqv_nk]; simpa using e), if_pos e]
      simp only [AtN]
      exact ⟨k2, b, x, _, rfl, rfl, a1, hv, ih⟩
    · rw [if_neg (by rw [eqv_nk]; simpa using e), if_neg e]
      simp only [AtN]
      exact ⟨k2, b, y, _, rfl, rfl, a1, a2, ih⟩
theorem AtN.snoc {K : FgK} {kk : NestedKey} {v : D} {b : Addr} {x : V} (hk : At K F (nkD kk) (.ref b)) (hv : At K F v x) : ∀ {kds : List (D × D)} {kvs : List (NestedKey × Addr × V)}, AtN K F kds kvs → AtN K F (kds ++ [(nkD kk, v)]) (kvs ++ [(kk, b, x)])
  | [], kvs, h => by
    simp only [AtN] at h
    subst h
    simp only [List.nil_append, AtN]
    exact ⟨kk, b, x, [], rfl, rfl, hk, hv, rfl⟩
  | (k, d) :: r, kvs, h => by
    simp only [AtN] at h
    obtain ⟨k2, c, y, zr, rfl, rfl, a1, a2, q⟩ := h
    simp only [List.cons_append, AtN]
    exact ⟨k2, c, y, _, rfl, rfl, a1, a2, AtN.snoc hk hv q⟩
theorem PairZ.map_put {kk : NestedKey} {x : V} {w : Value} (r : RelV x w) : ∀ {zs : List (NestedKey × Addr × V)} {us : List (NestedKey × Addr × Value)}, PairZ zs us → PairZ (zs.map fun p => if p.1 = kk then (p.1, p.2.1, x) else p) (us.map (putAt kk w))
  | _, _, .nil => .nil
  | _, _, .cons (a := a) (b := b) p1 p2 => by
    rw [List.map_cons, List.map_cons]
    refine .cons ?_ (PairZ.map_put r p2)
    obtain ⟨e1, e2, e3⟩ := p1
    unfold putAt
    by_cases h : a.1 = kk
    · rw [if_pos h, if_pos (by rw [← e1]; exact h)]
      exact ⟨e1, e2, r⟩
    · rw [if_neg h, if_neg (by rw [← e1]; exact h)]
      exact ⟨e1, e2, e3⟩
end
end Sw

set_option Elab.async false
set_option linter.all false
set_option maxRecDepth 100000
namespace Sw
open PySem PySem.Spec L2
section
variable {X : Cz} {pins : List (Addr × Obj)} {σ : L2.St} {H F : Hp} {s : Shared} {a : Addr} {o : HO} {t : Bool} {kds : List (D × D)} {k : D} {y : V} {u : Value} {A : Around} {E : Value → Shared → Prop}
theorem dic_typeIs (I : Inv X pins σ H s) (hF : Le F H) (ha : Rd H a o) (c : CtOk X.fr F a o (.dic t kds)) : s.TypeIs (.ref a) "dict" := by
  cases t with
  | false =>
    obtain ⟨kvs, rfl, _⟩ := c
    obtain ⟨_, _, vs, _, dd⟩ := dk_rd I.hok ha
    exact dd.typeIs
  | true =>
    obtain ⟨zs, hn, hz⟩ := c
    obtain ⟨_, _, _, us, _, dd⟩ := keyed_of I hF ha hn hz
    exact dd.typeIs
theorem dic_in (neg : Bool) {Q : Value → Shared → Prop} (hu : X.A.units + 64 < cLine) (I : Inv X pins σ H s) (hF : Le F H) (ha : Rd H a o) (c : CtOk X.fr F a o (.dic t kds)) (hk : KeyT t k) (ak : At X.fr F k y) (ry : RelV y u)
    (h : ∀ s', Inv X pins σ H s' → Q (.bool (if neg then !(lookD kds k).isSome else (lookD kds k).isSome)) s') : wpAny (model X.prog X.w) X.A (compareOp (if neg then .NotIn else .In) u (.ref a)) Q E s := by
  cases t with
  | false =>
    obtain ⟨kvs, rfl, ck⟩ := c
    obtain ⟨kk, rfl⟩ := hk
    have ey := key_at ak
    subst ey
    have e : (lookD kds (kD kk)).isSome = (valV kvs kk).isSome := by
      rcases look_K kk ck with ⟨h1, h2⟩ | ⟨d, v, h1, h2, _⟩ <;> rw [h1, h2] <;> rfl
    cases neg with
    | false => exact d_in (by omega) I (.inl ⟨_, _, ha, rfl, rfl⟩) ry fun s' I' => by have := h s' I'; rw [e] at this; exact this
    | true => exact d_notIn (by omega) I (.inl ⟨_, _, ha, rfl, rfl⟩) ry fun s' I' => by have := h s' I'; rw [e] at this; exact this
  | true =>
    obtain ⟨zs, hn, hz⟩ := c
    obtain ⟨nk, rfl, ⟨z, rfl⟩, hd⟩ := hk
    obtain ⟨l, hs, hks, us, p, dd⟩ := keyed_of I hF ha hn hz
    obtain ⟨b, xs, rfl, _⟩ := (show ∃ b xs, y = V.ref b ∧ _ by have q := ak; simp only [nkD, NestedKey.data, At] at q; exact q)
    have n := nested_at I hF _ _ u ak ry
    cases (show u = Value.ref b from ry)
    have e : (lookD kds (nkD (.tup z))).isSome = (atKey us (.tup z)).isSome := by
      rcases look_N (.tup z) hz p with ⟨h1, h2⟩ | ⟨d, v, p, h1, h2, _⟩ <;> rw [h1, h2] <;> rfl
    have hr : (nestedKind X.prog X.w).room X.A.in1 := by show X.A.units + 1 + 8 < cLine; omega
    cases neg with
    | false => exact wpAny_in_heap hr ⟨n, hd⟩ hs dd (by have := h { s with toks := s.toks + (nestedKind X.prog X.w).draws (.tup z) } (I.tok _); rw [e] at this; exact this)
    | true => exact notIn_keyed hr ⟨n, hd⟩ hs ⟨us, dd, rfl⟩ (by have := h { s with toks := s.toks + (nestedKind X.prog X.w).draws (.tup z) } (I.tok _); rw [e] at this; rw [valueAt_pairsH, Option.isSome_map]; exact this)
theorem dic_get {d : D} {Q : Value → Shared → Prop} (hu : X.A.units + 64 < cLine) (I : Inv X pins σ H s) (hF : Le F H) (ha : Rd H a o) (c : CtOk X.fr F a o (.dic t kds)) (hk : KeyT t k) (ak : At X.fr F k y) (ry : RelV y u) (hl : lookD kds k = some d)
    (h : ∀ v w' s', Inv X pins σ H s' → At X.fr F d v → RelV v w' → Q w' s') : wpAny (model X.prog X.w) X.A (getItem (.ref a) u) Q E s := by
  cases t with
  | false =>
    obtain ⟨kvs, rfl, ck⟩ := c
    obtain ⟨kk, rfl⟩ := hk
    have ey := key_at ak
    subst ey
    rcases look_K kk ck with ⟨h1, h2⟩ | ⟨d', v, h1, h2, a2⟩
    · rw [h1] at hl; cases hl
    · rw [h1] at hl
      cases hl
      have g : DGet H a (kV kk) (some v) := by rw [← h2]; exact .inl ⟨_, _, ha, rfl, rfl⟩
      exact d_getItem (by omega) I g ry fun w' s' I' r => h v w' s' I' a2 r
  | true =>
    obtain ⟨zs, hn, hz⟩ := c
    obtain ⟨nk, rfl, ⟨z, rfl⟩, hd⟩ := hk
    obtain ⟨l, hs, hks, us, p, dd⟩ := keyed_of I hF ha hn hz
    obtain ⟨b, xs, rfl, _⟩ := (show ∃ b xs, y = V.ref b ∧ _ by have q := ak; simp only [nkD, NestedKey.data, At] at q; exact q)
    have n := nested_at I hF _ _ u ak ry
    cases (show u = Value.ref b from ry)
    have hr : (nestedKind X.prog X.w).room X.A.in1 := by show X.A.units + 1 + 8 < cLine; omega
    rcases look_N (.tup z) hz p with ⟨h1, h2⟩ | ⟨d', v, q, h1, h2, a2, r2⟩
    · rw [h1] at hl; cases hl
    · rw [h1] at hl
      cases hl
      exact wpAny_getItem_heap hr ⟨n, hd⟩ dd h2 (h v _ _ (I.tok _) a2 r2)
theorem dic_put {d : D} {v : V} {r : Value} {Q : Unit → Shared → Prop} (hu : X.A.units + 64 < cLine) (I : Inv X pins σ H s) (hF : Le F H) (ha : H a = some o) (fa : F a = none) (c : CtOk X.fr F a o (.dic t kds)) (hk : KeyT t k) (ak : At X.fr F k y) (ry : RelV y u) (av : At X.fr F d v) (rv : RelV v r) (hl : kds.length < sizeLine)
    (h : ∀ o' s', CtOk X.fr F a o' (.dic t (putD kds k d)) → Inv X pins σ (upd H a o') s' → Q () s') : wpAny (model X.prog X.w) X.A (setItem (.ref a) u r) Q E s := by
  cases t with
  | false =>
    obtain ⟨kvs, rfl, ck⟩ := c
    obtain ⟨kk, rfl⟩ := hk
    have ey := key_at ak
    subst ey
    refine d_setItem (by omega) I (DPut.k ha (by rw [ck.len]; exact hl)) ry rv fun s' I' => h _ s' ⟨_, rfl, ?_⟩ I'
    unfold putD
    rcases look_K kk ck with ⟨h1, h2⟩ | ⟨d', v', h1, h2, a2⟩
    · rw [h1, putK_new v h2, if_neg (by decide)]
      exact AtK.snoc av ck
    · rw [h1, if_pos (show (some d').isSome = true from rfl)]
      have e : putK kvs kk v = kvs.map fun p => if p.1 = kk then (p.1, v) else p := by
        unfold putK
        rw [valV_any, h2, if_pos (show (some v').isSome = true from rfl)]
      rw [e]
      exact AtK.map_put kk av ck
  | true =>
    obtain ⟨zs, hn, hz⟩ := c
    obtain ⟨nk, rfl, ⟨z, rfl⟩, hd⟩ := hk
    obtain ⟨l, hs, hks, us, p, dd⟩ := keyed_of I hF (.inl ha) hn hz
    obtain ⟨b, xs, rfl, _⟩ := (show ∃ b xs, y = V.ref b ∧ _ by have q := ak; simp only [nkD, NestedKey.data, At] at q; exact q)
    have n := nested_at I hF _ _ u ak ry
    cases (show u = Value.ref b from ry)
    have hr : (nestedKind X.prog X.w).room X.A.in1 := by show X.A.units + 1 + 8 < cLine; omega
    have hzl := hz.len
    refine wpAny_setItem_heap (hsz := by rw [← Paired.length p]; exact l) hr ⟨n, hd⟩ dd fun h' dd' hs' => ?_
    obtain ⟨zs', hz', hks', hzl', p'⟩ : ∃ zs', AtN X.fr F (putD kds (nkD (.tup z)) d) zs' ∧ (∀ x ∈ zs', ∃ z, x.1 = .tup z ∧ x.1.depth ≤ 8) ∧ zs'.length ≤ sizeLine ∧ PairZ zs' (storedH us (.tup z) b r) := by
      unfold putD
      rcases look_N (.tup z) hz p with ⟨h1, h2⟩ | ⟨d', v', q, h1, h2, a2, r2⟩
      · rw [h1, if_neg (by decide), storedH_new h2]
        refine ⟨zs ++ [(.tup z, b, v)], AtN.snoc ak av hz, fun x hx => ?_, by rw [List.length_append]; simp only [List.length_cons, List.length_nil]; omega, Paired.snoc p ⟨rfl, rfl, rv⟩⟩
        rcases List.mem_append.mp hx with e | e
        · exact hks x e
        · rw [List.mem_singleton.mp e]; exact ⟨z, rfl, hd⟩
      · rw [h1, if_pos (show (some d').isSome = true from rfl), storedH_old h2]
        refine ⟨_, AtN.map_put (.tup z) av hz, fun x hx => ?_, by rw [List.length_map]; exact l, PairZ.map_put rv p⟩
        obtain ⟨x0, hx0, rfl⟩ := List.mem_map.mp hx
        split
        · exact hks x0 hx0
        · exact hks x0 hx0
    have he : ∃ q, h'.get? a = some q := let ⟨q, _, _, hq, _⟩ := dd'; ⟨q, hq⟩
    have hm : Mut (H a) := by
      rw [ha]
      have e : o = _ := hn
      rw [e]
      exact True.intro
    -- the new object
    obtain ⟨ob, es, ep, h5, h6, h7, h8, _, h9⟩ := dd'
    have new : ∀ o', IsN X.fr a zs' o' → ObjOk X.prog X.w (upd H a o') h' a o' := fun o' e => by
      have e : o' = _ := e
      subst e
      refine ⟨⟨hzl', hs, hks', _, p', ob, es, ep, h5, h6, h7, h8, h9⟩, ⟨ob, h5⟩, ?_⟩
      rintro g1 g2 ⟨_, _, _, us', p2, ob', es', ep', q5, q6, q7, q8, q9⟩ st
      exact ⟨hzl', hs, hks', us', p2, ob', es', ep', st _ q5, q6, q7, q8, q9⟩
    exact h _ _ ⟨zs', rfl, hz'⟩ (d_write I hm hs' he (new _ rfl))
end
end Sw

set_option Elab.async false
set_option linter.all false
set_option maxRecDepth 100000
namespace Sw
open PySem PySem.Spec L2
section
variable {X : Cz}
def sRaise : PS' := fun _ _ => False
theorem s_raise {a b : Option Expr} {pos : Pos} : ES X (.Raise a b pos) sRaise := ⟨fun _ _ _ => False, ⟨fun pins s σ H D I h => h.elim⟩, fun C σ H F env D Dp R k q => q⟩
def sAsgD (i : Nat) (t : Bool) : PS' := fun Dp env => i < env.length ∧ Dp.nx (env.set i (.dic t []))
theorem pe_dnewN {pos : Pos} : PE X (.Dict [] [] pos) (fun _ H Q => ∀ p o, H p = none → IsN X.fr p [] o → Q (.ref p) (upd H p o)) := ⟨fun pins s σ H Q I h => by
  refine wpAny_Dict_empty ⟨.ref s.heap.objs.size, _, I.laid (a := s.heap.objs.size) (o := .ext _) (t' := s.toks) (fun _ _ q => Heap.get?_push_of_some _ q) (Nat.le_refl _) ?_, rfl, h _ _ (I.hok.fresh (Nat.le_refl _)) rfl⟩
  refine ⟨⟨Nat.zero_le _, beq_eq_false_iff_ne.mpr (Ne.symm (Nat.ne_of_lt I.big)), fun x hx => absurd hx (by simp), [], .nil, _, #[], 0, Heap.get?_push_size _ rfl, ⟨rfl, rfl, rfl⟩, rfl, rfl, List.nodup_nil⟩, ⟨_, Heap.get?_push_size _ rfl⟩, ?_⟩
  rintro h1 h2 ⟨l, hs, hk, us, p, ob, es, ep, g5, g6, g7, g8, g9⟩ st
  exact ⟨l, hs, hk, us, p, ob, es, ep, st _ g5, g6, g7, g8, g9⟩⟩
theorem s_setDK {i : Nat} {x : Str} {p2 pos pos' : Pos} (hN : X.N.Nodup) (hi : X.N[i]? = some x) (hx : Loc X.env.scope x) (hs : swapsWith (.Dict [] [] p2) (some (.Name x pos')) pos.line X.env = pure false := by rfl) (hf : X.fn x = true ∨ X.env.scope.names.lookup x = some .local := by first | exact .inl rfl | exact .inr rfl | assumption) :
    ES X (.Assign [.Name x pos'] (.Dict [] [] p2) pos) (sAsgD i false) := by
  refine ⟨_, ps_set hN hi hx pe_dnewK hs hf, fun C σ H F env D Dp R k q => fun p hp => ?_⟩
  obtain ⟨s, f, h, n⟩ := R.alloc0 (o := .dK []) hp
  exact k.nx _ _ F _ (s.rel.assignO (ds := .dic false []) (by rw [← R.len]; exact q.1) upd_same f h n ⟨[], rfl, by simp [AtK]⟩) Le.rfl' q.2
theorem s_setDN {i : Nat} {x : Str} {p2 pos pos' : Pos} (hN : X.N.Nodup) (hi : X.N[i]? = some x) (hx : Loc X.env.scope x) (hs : swapsWith (.Dict [] [] p2) (some (.Name x pos')) pos.line X.env = pure false := by rfl) (hf : X.fn x = true ∨ X.env.scope.names.lookup x = some .local := by first | exact .inl rfl | exact .inr rfl | assumption) :
    ES X (.Assign [.Name x pos'] (.Dict [] [] p2) pos) (sAsgD i true) := by
  refine ⟨_, ps_set hN hi hx pe_dnewN hs hf, fun C σ H F env D Dp R k q => fun p o hp hn => ?_⟩
  obtain ⟨s, f, h, n⟩ := R.alloc0 (o := o) hp
  exact k.nx _ _ F _ (s.rel.assignO (ds := .dic true []) (by rw [← R.len]; exact q.1) upd_same f h n ⟨[], hn, by simp [AtN]⟩) Le.rfl' q.2
def KeyO : Option Bool → List (D × D) → D → Prop
  | some t, _, k => KeyT t k
  | none, kds, k => ∃ t, (∃ p ∈ kds, KeyT t p.1) ∧ KeyT t k
theorem keyT_uniq {t t' : Bool} {k : D} (h : KeyT t k) (g : KeyT t' k) : t = t' := by
  cases t with
  | false =>
    cases t' with
    | false => rfl
    | true =>
      obtain ⟨kk, rfl⟩ := h
      obtain ⟨nk, e, ⟨z, rfl⟩, _⟩ := g
      cases kk <;> cases e
  | true =>
    cases t' with
    | true => rfl
    | false =>
      obtain ⟨kk, rfl⟩ := g
      obtain ⟨nk, e, ⟨z, rfl⟩, _⟩ := h
      cases kk <;> cases e
theorem dic_ov {C : Ec} {σ : L2.St} {H F : Hp} {env : List SV} {ov : OV} {v : V} {ot : Option Bool} {kds : List (D × D)} (R : Rel X.fr C σ H F env) (a : OvOk X.fr σ F ov v) (e : ov.dic env = some (ot, kds)) :
    ∃ p o t, v = .ref p ∧ Rd H p o ∧ CtOk X.fr F p o (.dic t kds) ∧ (∀ t0, ot = some t0 → t0 = t) := by
  have main : ∀ v, At X.fr F (.dict kds) v → ∃ p o t, v = .ref p ∧ Rd H p o ∧ CtOk X.fr F p o (.dic t kds) := fun v a => by
    simp only [At] at a
    obtain ⟨p, od, o, rfl, e, c⟩ := a
    rcases c with c | c
    · exact ⟨p, o, false, rfl, .inr ⟨od, R.frz _ _ e⟩, c⟩
    · exact ⟨p, o, true, rfl, .inr ⟨od, R.frz _ _ e⟩, c⟩
  cases ov with
  | dv x =>
    cases x with
    | dict ks =>
      simp only [OV.dic, Option.some.injEq, Prod.mk.injEq] at e
      obtain ⟨rfl, rfl⟩ := e
      obtain ⟨p, o, t, h1, h2, h3⟩ := main v a
      exact ⟨p, o, t, h1, h2, h3, fun t0 z => nomatch z⟩
    | _ => cases e
  | sl i =>
    have a : σ[i]? = some (some v) := a
    simp only [OV.dic] at e
    split at e
    · rename_i l t ks q
      simp only [Option.some.injEq, Prod.mk.injEq] at e
      obtain ⟨rfl, rfl⟩ := e
      obtain ⟨p, u, e1, e2, e3, e4, e5⟩ := R.slot i _ q
      rw [a] at e1
      cases e1
      exact ⟨p, u, t, rfl, .inl e2, e5, fun t0 z => (Option.some.inj z).symm⟩
    · rename_i ks q
      simp only [Option.some.injEq, Prod.mk.injEq] at e
      obtain ⟨rfl, rfl⟩ := e
      obtain ⟨v', e1, a'⟩ := R.slot i _ q
      rw [a] at e1
      cases e1
      obtain ⟨p, o, t, h1, h2, h3⟩ := main v a'
      exact ⟨p, o, t, h1, h2, h3, fun t0 z => nomatch z⟩
    · cases e
/-- the key is of the dict's kind -/
theorem keyO {pins : List (Addr × Obj)} {P : Program} {w : World} {K : FgK} {H F : Hp} {h : Heap} {p : Addr} {o : HO} {t : Bool} {ot : Option Bool} {kds : List (D × D)} {k : D} (c : CtOk K F p o (.dic t kds)) (q : ObjOk P w H h p o) (e : ∀ t0, ot = some t0 → t0 = t) (hk : KeyO ot kds k) : KeyT t k := by
  cases ot with
  | some t0 =>
    have := e t0 rfl
    subst this
    exact hk
  | none =>
    obtain ⟨t', ⟨x, hx, h1⟩, h2⟩ := hk
    have : KeyT t x.1 := by
      cases t with
      | false =>
        obtain ⟨kvs, rfl, c⟩ := c
        exact c.keys x hx
      | true =>
        obtain ⟨zs, hn, c⟩ := c
        obtain ⟨_, _, hks, _⟩ := hn.obj q
        exact c.keys hks x hx
    rw [← keyT_uniq h1 this]
    exact h2
theorem vw_key {K : FgK} {H F : Hp} {t : Bool} {k : D} {v : V} (h : KeyT t k) (a : Vw K H F k v) : At K F k v := by
  cases t with
  | false =>
    obtain ⟨kk, rfl⟩ := h
    cases kk <;> exact a
  | true =>
    obtain ⟨nk, rfl, ⟨z, rfl⟩, _⟩ := h
    exact a
def qDIn (neg : Bool) (A B : PE') : PE' := fun env Q => A env fun o1 env1 => B env1 fun o2 env2 => ∃ k, o1.rd env2 = some k ∧ ∃ ot kds, o2.dic env2 = some (ot, kds) ∧ KeyO ot kds k ∧ Q (.dv (.bool (if neg = true then !(lookD kds k).isSome else (lookD kds k).isSome))) env2
def rDIn (K : FgK) (neg : Bool) : R2 := fun x y H Q => ∃ F a o t ot kds k, y = .ref a ∧ Le F H ∧ Rd H a o ∧ CtOk K F a o (.dic t kds) ∧ (∀ t0, ot = some t0 → t0 = t) ∧ KeyO ot kds k ∧ Vw K H F k x ∧ Q (.bl (if neg = true then !(lookD kds k).isSome else (lookD kds k).isSome)) H
theorem op_din (neg : Bool) (hu : X.A.units + 64 < cLine) : OpR X (compareOp (if neg = true then .NotIn else .In)) (rDIn X.fr neg) := by
  intro pins s σ H x y v u Q I rx ry h
  obtain ⟨F, a, o, t, ot, kds, k, rfl, hF, ha, c, e, hk, w, q⟩ := h
  cases (show u = Value.ref a from ry)
  have hk := keyO (pins := pins) c (ha.ok I.hok) e hk
  exact dic_in neg hu I hF ha c hk (vw_key hk w) rx fun s' I' => ⟨.bl _, H, I', rfl, q⟩
theorem LE.din {neg : Bool} {ta tb : TE} {A B : PE'} (la : LE X.fr ta A) (lb : LE X.fr tb B) : LE X.fr (tOp (rDIn X.fr neg) ta tb) (qDIn neg A B) := fun C σ H F env Q Qp R k q => by
  refine la C σ H F env _ _ R (fun v1 H1 F1 env1 o1 s1 a1 q1 => ?_) q
  refine lb C σ H1 F1 env1 _ _ s1.rel (fun v2 H2 F2 env2 o2 s2 a2 q2 => ?_) q1
  obtain ⟨kk, e1, ot, kds, e2, hk, q2⟩ := q2
  obtain ⟨p, o, t, rfl, rd, c, e⟩ := dic_ov s2.rel a2 e2
  exact ⟨F2, p, o, t, ot, kds, kk, rfl, s2.rel.frz, rd, c, e, hk, rd_vw s2.rel (a1.mono s2.ff) e1, k (.bl _) H2 F2 env2 (.dv (.bool _)) (s1.trans s2) (by simp [OvOk, At]) q2⟩
theorem t_dnin {a b : Expr} {A B : PE'} {pos : Pos} (hu : X.A.units + 64 < cLine) (ha : EV X a A) (hb : EV X b B) (hm : behindInMarks .NotIn b = false := by rfl) : ET X (.Compare a [.NotIn] [b] pos) (qTest (qDIn true A B)) := by
  obtain ⟨ta, h1, l1⟩ := ha.ex
  obtain ⟨tb, h2, l2⟩ := hb.ex
  exact ⟨_, pt_cmpR (op_din true hu) h1 h2 hm, LT.test (LE.din l1 l2)⟩
def qDGet (A B : PE') : PE' := fun env Q => A env fun o1 env1 => B env1 fun o2 env2 => ∃ ot kds, o1.dic env2 = some (ot, kds) ∧ ∃ k, o2.rd env2 = some k ∧ KeyO ot kds k ∧ ∃ d, lookD kds k = some d ∧ Q (.dv d) env2
def rDGet (K : FgK) : R2 := fun x y H Q => ∃ F a o t ot kds k d, x = .ref a ∧ Le F H ∧ Rd H a o ∧ CtOk K F a o (.dic t kds) ∧ (∀ t0, ot = some t0 → t0 = t) ∧ KeyO ot kds k ∧ Vw K H F k y ∧ lookD kds k = some d ∧ ∀ v, At K F d v → Q v H
theorem pe_dgetA {o i : Expr} {td ty : TE} {pos : Pos} (hu : X.A.units + 64 < cLine) (ho : PE X o td) (hi : PE X i ty) (hs : NoSl i) : PE X (.Subscript o i pos) (tOp (rDGet X.fr) td ty) := by
  refine ⟨fun pins s σ H Q I h => ?_⟩
  refine subD_of PySem.F.slot_dict_getitem.lookup hs (thn (ho.run pins s σ H _ I h) fun u s1 ⟨x, H1, I1, rx, q1⟩ => thn (hi.run pins s1 σ H1 _ I1 q1) fun iv s2 ⟨y, H2, I2, ry, F, a, o, t, ot, kds, k, d, ex, hF, ha, c, e, hk, w, hl, q2⟩ => ?_)
  subst ex
  obtain rfl : u = Value.ref a := rx
  have hk := keyO (pins := pins) c (ha.ok I2.hok) e hk
  exact ⟨dic_typeIs I2 hF ha c, dic_get hu I2 hF ha c hk (vw_key hk w) ry hl fun v w' s3 I3 av rw' => ⟨v, H2, I3, rw', q2 v av⟩⟩
theorem q_dget {a b : Expr} {A B : PE'} {pos : Pos} (hu : X.A.units + 64 < cLine) (ha : EV X a A) (hb : EV X b B) (hs : NoSl b := by intro _ _; rfl) : EV X (.Subscript a b pos) (qDGet A B) := by
  obtain ⟨ta, h1, l1⟩ := ha.ex
  obtain ⟨tb, h2, l2⟩ := hb.ex
  refine ⟨_, pe_dgetA hu h1 h2 hs, fun C σ H F env Q Qp R k q => ?_⟩
  refine l1 C σ H F env _ _ R (fun v1 H1 F1 env1 o1 s1 a1 q1 => ?_) q
  refine l2 C σ H1 F1 env1 _ _ s1.rel (fun v2 H2 F2 env2 o2 s2 a2 q2 => ?_) q1
  obtain ⟨ot, kds, e2, kk, e1, hk, d, hl, q2⟩ := q2
  obtain ⟨p, o, t, rfl, rd, c, e⟩ := dic_ov s2.rel (a1.mono s2.ff) e2
  exact ⟨F2, p, o, t, ot, kds, kk, d, rfl, s2.rel.frz, rd, c, e, hk, rd_vw s2.rel a2 e1, hl, fun v av => k v H2 F2 env2 (.dv d) (s1.trans s2) av q2⟩
def rDPut (K : FgK) : V → V → V → Hp → (Hp → Prop) → Prop := fun x y v H Q => ∃ F a o t kds k d, x = .ref a ∧ Le F H ∧ H a = some o ∧ F a = none ∧ CtOk K F a o (.dic t kds) ∧ KeyT t k ∧ At K F k y ∧ At K F d v ∧ kds.length < sizeLine ∧ ∀ o', CtOk K F a o' (.dic t (putD kds k d)) → Q (upd H a o')
theorem set_D (hu : X.A.units + 64 < cLine) : PSet X (rDPut X.fr) := by
  intro pins s σ H o i v ov iv u Q I ro ri rv h
  obtain ⟨F, a, ob, t, kds, k, d, rfl, hF, ha, fa, c, hk, ak, av, hl, q⟩ := h
  cases (show ov = Value.ref a from ro)
  exact dic_put hu I hF ha fa c hk ak ri av rv hl fun o' s' c' I' => ⟨_, I', q o' c'⟩
def sPutD (i : Nat) (A B : PE') : PS' := fun Dp env => A env fun o env1 => ∃ d env2, o.fz env1 = some (d, env2) ∧ (∃ t0 ks0, env2[i]? = some (.dic t0 ks0)) ∧ B env2 fun ok env3 => ∃ k env4, ok.fz env3 = some (k, env4) ∧ ∃ t kds, env4[i]? = some (.dic t kds) ∧ KeyT t k ∧ kds.length < sizeLine ∧ Dp.nx (env4.set i (.dic t (putD kds k d)))
theorem s_putD (i : Nat) {x : Str} {a b : Expr} {A B : PE'} {p p2 pos : Pos} (hu : X.A.units + 64 < cLine) (ha : EV X a A) (hb : EV X b B) (hN : X.N[i]? = some x := by rfl) (hv : Vis X.env.scope x := by first | exact Or.inl rfl | exact Or.inr (Or.inl rfl) | exact Or.inr (Or.inr rfl)) (hd : (x == ("__debug__" : Str)) = false := by decide)
    (hcd : (x == ("__classdict__" : Str)) = false := by decide) (hs : swapsWithSole [.Subscript (.Name x p) b p2] a pos.line X.env = pure false := by rfl) (hw : swappedStores [.Subscript (.Name x p) b p2] a X.env = pure none := by rfl)
    (h1 : (assignEach [.Subscript (.Name x p) b p2] X.env).map (·.2) = [assign (.Subscript (.Name x p) b p2) X.env] := by rfl)
    (has : ∀ v, assign (.Subscript (.Name x p) b p2) X.env v = (do
      let ov ← holding [v] (eval (.Name x p) X.env)
      let iv ← holding [v, ov] (eval b X.env)
      standAt p2
      holding [v, ov, iv] (setItem ov iv v)
      release [v, ov, iv] []) := by intro _; rfl) : ES X (.Assign [.Subscript (.Name x p) b p2] a pos) (sPutD i A B) := by
  obtain ⟨t, g1, l1⟩ := ha.ex
  obtain ⟨u, g2, l2⟩ := hb.ex
  refine ⟨_, ps_asg g1 (pg_sub (pe_var hN hv hd hcd) g2 (set_D hu) has) hs hw h1, fun C σ H F env D Dp R k q => ?_⟩
  refine l1 C σ H F env _ _ R (fun v H1 F1 env1 o s1 a1 q1 => ?_) q
  obtain ⟨d, env2, e, ⟨t0, ks0, e0⟩, q1⟩ := q1
  obtain ⟨F2, s2, a2⟩ := fz_ok s1.rel a1 e
  obtain ⟨p', u0, hp', _⟩ := s2.rel.slot i _ e0
  refine ⟨.ref p', hp', ?_⟩
  refine l2 C σ H1 F2 env2 _ _ s2.rel (fun iv H2 F3 env3 ok s3 a3 q3 => ?_) q1
  obtain ⟨kk, env4, e3, t, kds, e4, hk, hl, q3⟩ := q3
  obtain ⟨F4, s4, a4⟩ := fz_ok s3.rel a3 e3
  obtain ⟨p2, u2, f1, f2, f3, f4, f5⟩ := s4.rel.slot i _ e4
  rw [hp'] at f1
  cases f1
  refine ⟨F4, p', u2, t, kds, kk, d, rfl, s4.rel.frz, f2, f3, f5, hk, a4, At.mono (s3.ff.trans' s4.ff) _ _ a2, hl, fun o' c' => ?_⟩
  have s5 := s4.rel.write e4 hp' c' (fun z => nomatch z)
  exact k.nx σ _ F4 _ s5.rel (((s1.ff.trans' s2.ff).trans' s3.ff).trans' s4.ff) q3
def sFrzD (i : Nat) (S : PS') : PS' := fun Dp env => ∃ t kds, env[i]? = some (.dic t kds) ∧ S Dp (env.set i (.dat (.dict kds)))
def tFrz (t : TS) : TS := fun D σ H => ∃ d u, H d = some u ∧ Mut (some u) ∧ ∀ od, t D σ (upd H d (.frz od u))
theorem ps_frz {st : Stmt} {t : TS} (h : PS X st t) : PS X st (tFrz t) := by
  refine ⟨fun pins s σ H D I hw => ?_⟩
  obtain ⟨d, u, hd, mu, hw⟩ := hw
  obtain ⟨od, I1⟩ := I.lock hd mu
  exact h.run pins s σ _ _ I1 (hw od)
theorem ct_mut {K : FgK} {F : Hp} {p : Addr} {o : HO} {t : Bool} {kds : List (D × D)} (c : CtOk K F p o (.dic t kds)) : Mut (some o) := by
  cases t with
  | false =>
    obtain ⟨kvs, rfl, _⟩ := c
    exact True.intro
  | true =>
    obtain ⟨zs, hn, _⟩ := c
    have e : o = _ := hn
    rw [e]
    exact True.intro
theorem s_frzD (i : Nat) {st : Stmt} {S : PS'} (h : ES X st S) : ES X st (sFrzD i S) := by
  obtain ⟨t, h1, l1⟩ := h.ex
  refine ⟨_, ps_frz h1, fun C σ H F env D Dp R k q => ?_⟩
  obtain ⟨t, kds, e, q⟩ := q
  obtain ⟨p, u, e1, e2, e3, e4, e5⟩ := R.slot i _ e
  refine ⟨p, u, e2, ct_mut e5, fun od => ?_⟩
  have s := R.freezeD e e1 e2 od
  exact l1 C σ _ _ _ D Dp s.rel (k.mono s.ff) q
end
end Sw

set_option Elab.async false
set_option linter.all false
set_option maxRecDepth 100000
namespace Sw
open PySem PySem.Spec L2 PySem.Calls PyProof.Rows
theorem vals_of {xs : List V} : ∀ {us : List Value}, xs.length = us.length → (∀ (i : Nat) (x : V) (u : Value), xs[i]? = some x → us[i]? = some u → RelV x u) → Vals xs us := by
  induction xs with
  | nil =>
    intro us hl _
    cases us with
    | nil => exact .nil
    | cons => cases hl
  | cons x xs ih =>
    intro us hl h
    cases us with
    | nil => cases hl
    | cons u us => exact .cons (h 0 x u rfl rfl) (ih (by simpa using hl) fun i y v e1 e2 => h (i + 1) y v (by simpa using e1) (by simpa using e2))
section
variable {X : Cz} {pins : List (Addr × Obj)} {σ : L2.St} {H F : Hp} {s : Shared} {a : Addr} {o : HO} {t : Bool} {kds : List (D × D)}
theorem AtK.keysAt {K : FgK} : ∀ {kds : List (D × D)} {zs : List (Key × V)}, AtK K F kds zs → AtAll K F (kds.map Prod.fst) (zs.map fun p => kV p.1)
  | [], zs, h => by simp only [AtK] at h; subst h; exact AtAll.nil
  | (k, d) :: r, zs, h => by
    simp only [AtK] at h
    obtain ⟨kk, x, zr, rfl, rfl, _, q⟩ := h
    refine AtAll.cons ?_ (AtK.keysAt q)
    cases kk <;> simp [kD, kV, At]
theorem AtN.keysAt {K : FgK} : ∀ {kds : List (D × D)} {zs : List (NestedKey × Addr × V)}, AtN K F kds zs → AtAll K F (kds.map Prod.fst) (zs.map fun p => V.ref p.2.1)
  | [], zs, h => by simp only [AtN] at h; subst h; exact AtAll.nil
  | (k, d) :: r, zs, h => by
    simp only [AtN] at h
    obtain ⟨kk, b, x, zr, rfl, rfl, a1, _, q⟩ := h
    exact AtAll.cons a1 (AtN.keysAt q)
theorem pairZ_get : ∀ {zs : List (NestedKey × Addr × V)} {us : List (NestedKey × Addr × Value)}, PairZ zs us → ∀ {i : Nat} {z : NestedKey × Addr × V} {u : NestedKey × Addr × Value}, zs[i]? = some z → us[i]? = some u → z.1 = u.1 ∧ z.2.1 = u.2.1 ∧ RelV z.2.2 u.2.2
  | _, _, .nil, i, z, u, e, _ => by simp at e
  | _, _, .cons p q, 0, z, u, e1, e2 => by simp at e1 e2; subst e1 e2; exact p
  | _, _, .cons p q, i + 1, z, u, e1, e2 => pairZ_get q (i := i) (by simpa using e1) (by simpa using e2)
theorem dic_raw (I : Inv X pins σ H s) (hF : Le F H) (ha : Rd H a o) (c : CtOk X.fr F a o (.dic t kds)) : (a == sysModules) = false ∧ kds.length ≤ sizeLine ∧ ∃ es ep xs, s.heap.DictRaw a es ep ∧ es.size = kds.length ∧ Vals xs (es.toList.map DictEntry.key) ∧ AtAll X.fr F (kds.map Prod.fst) xs := by
  cases t with
  | false =>
    obtain ⟨kvs, rfl, ck⟩ := c
    obtain ⟨hz, hs, vs, kv, dd⟩ := dk_rd I.hok ha
    obtain ⟨es, ep, hr, hsz, he⟩ := dd.raw
    have hl : kvs.length = vs.length := Paired.length kv
    have hk := ck.len
    refine ⟨hs, by omega, es, ep, _, hr, by omega, vals_of (by rw [List.length_map, List.length_map]; have e1 : es.toList.length = es.size := Array.length_toList; omega) fun i x u e1 e2 => ?_, ck.keysAt⟩
    rw [List.getElem?_map] at e1 e2
    cases q : kvs[i]? with
    | none => rw [q] at e1; cases e1
    | some p =>
      rw [q] at e1
      cases e1
      obtain ⟨k, v⟩ := p
      obtain ⟨u', hu, _⟩ := kv_get kv q
      have hi : i < es.size := by
        have := (List.getElem?_eq_some_iff.mp hu).1
        omega
      rw [Array.getElem?_toList, Array.getElem?_eq_getElem hi] at e2
      cases e2
      exact relV_key (he i hi k u' hu).1
  | true =>
    obtain ⟨zs, hn, hz⟩ := c
    obtain ⟨l, hs, hks, us, p, dd⟩ := keyed_of I hF ha hn hz
    obtain ⟨es, ep, hr, hsz, he⟩ := dd.raw
    have hl : zs.length = us.length := Paired.length p
    have hk := hz.len
    refine ⟨hs, by omega, es, ep, _, hr, by omega, vals_of (by rw [List.length_map, List.length_map]; have e1 : es.toList.length = es.size := Array.length_toList; omega) fun i x u e1 e2 => ?_, hz.keysAt⟩
    rw [List.getElem?_map] at e1 e2
    cases q : zs[i]? with
    | none => rw [q] at e1; cases e1
    | some z =>
      rw [q] at e1
      cases e1
      have hi : i < es.size := by
        have := (List.getElem?_eq_some_iff.mp q).1
        omega
      rw [Array.getElem?_toList, Array.getElem?_eq_getElem hi] at e2
      cases e2
      obtain ⟨y, hy, ek, _⟩ := he i hi
      rw [ek]
      have := (pairZ_get p q hy).2.1
      exact congrArg Value.ref this.symm
/-- what a list of the entries' keys is -/
theorem items_vals {xs : List V} {es : Array DictEntry} {acc : Array Value} (h : Vals xs (es.toList.map DictEntry.key)) (g : ItemsOf (fun i v => ∃ hi : i < es.size, v = es[i].key) acc es.size) : Vals xs acc.toList := by
  have e : acc.toList = es.toList.map DictEntry.key := by
    apply List.ext_getElem?
    intro i
    rw [Array.getElem?_toList, List.getElem?_map, Array.getElem?_toList]
    by_cases hi : i < es.size
    · have ha : i < acc.size := by rw [g.1]; exact hi
      rw [Array.getElem?_eq_getElem ha, Array.getElem?_eq_getElem hi]
      obtain ⟨_, e⟩ := g.2 i acc[i] (Array.getElem?_eq_getElem ha)
      rw [e]
      rfl
    · rw [Array.getElem?_eq_none (by rw [g.1]; omega), Array.getElem?_eq_none (by omega)]
      rfl
  rw [e]
  exact h
def rSortDic (K : FgK) : List V → Hp → VK → Prop := fun vs H Q => ∃ F a o t kds, vs = [V.ref a] ∧ Le F H ∧ Rd H a o ∧ CtOk K F a o (.dic t kds) ∧ okSort (kds.map Prod.fst) = true ∧ ∀ p ys, H p = none → AtAll K F (srtD (kds.map Prod.fst)) ys → Q (.ref p) (upd H p (.lst ys))
mutual
theorem reads_there {h : Heap} {a : Addr} : ∀ (d : PyData) (v : Value) (as : List Addr), d.plain = true → Reads h v d as → a ∈ as → ∃ o, h.get? a = some o
  | .none, _, _, _, r, m => by cases r; cases m
  | .bool _, _, _, _, r, m => by cases r; cases m
  | .int _, _, _, _, r, m => by cases r; cases m
  | .str _, _, _, _, r, m => by cases r; cases m
  | .list xs, _, _, p, r, m => by
    cases r with
    | list h1 h2 h3 h4 =>
      rcases List.mem_cons.mp m with rfl | m
      · exact ⟨_, h1⟩
      · exact reads_thereAll xs _ _ (by simpa [PyData.plain] using p) h4 m
  | .tuple xs, _, _, p, r, m => by
    cases r with
    | tuple h1 h2 h3 h4 => exact reads_thereAll xs _ _ (by simpa [PyData.plain] using p) h4 m
  | .dict _, _, _, p, _, _ => nomatch p
theorem reads_thereAll {h : Heap} {a : Addr} : ∀ (ds : List PyData) (vs : List Value) (as : List Addr), PyData.plainAll ds = true → ReadsAll h vs ds as → a ∈ as → ∃ o, h.get? a = some o
  | [], _, _, _, r, m => by cases r; cases m
  | d :: ds, _, _, p, r, m => by
    have p' : d.plain = true ∧ PyData.plainAll ds = true := by simpa [PyData.plainAll] using p
    cases r with
    | cons h1 h2 =>
      rcases List.mem_append.mp m with m | m
      · exact reads_there d _ _ p'.1 h1 m
      · exact reads_thereAll ds _ _ p'.2 h2 m
end
theorem cr_sortedDic (hc : X.calm = true) (hu : X.A.units + 64 < cLine) : CallR X (.builtin "sorted") (rSortDic X.fr) := by
  intro pins s σ H vs us Q I r h
  obtain ⟨F, a, o, t, kds, rfl, hF, ha, c, ho, q⟩ := h
  obtain ⟨u, rfl, ru⟩ := vals1 r
  obtain rfl : u = Value.ref a := ru
  obtain ⟨hs, hz, es, ep, xs, hr, hsz, hv, hx⟩ := dic_raw I hF ha c
  have hn := I.hok.fresh (Nat.le_refl s.heap.objs.size)
  generalize hds : kds.map Prod.fst = ds at ho q hx
  obtain ⟨o1, o2, o3⟩ := okSort_spec ho
  have hpl := okSort_plain ho
  have hl : xs.length = ds.length := hx.len
  have hxe : ds.length = es.size := by rw [← hds, List.length_map, hsz]
  refine call_function_entry kind_sorted plain_sorted entry_sorted (args_sorted1 _) ?_
  unfold Builtin.«sorted»
  refine wpAny_bind (m := checkCount "sorted" 1 1 _) (wpAny_pure ?_)
  refine wpAny_bind (W.kdu_collect (A := X.A.in1) (KdlSrc.rawDict hs) (I.ok.hd hc) hr (by omega) fun h' tk acc hk hacc => ?_)
  have iv := items_vals hv hacc
  have hal : acc.toList.length = ds.length := by rw [← iv.length, hl]
  refine wpAny_bind (wpAny_newList ?_ (by rw [hal]; omega))
  have I1 : Inv X pins σ H { s with heap := h', toks := tk } := I.kept hk
  have hn' := I1.hok.fresh (Nat.le_refl h'.objs.size)
  obtain ⟨as, rr⟩ := Dp.readsAll I1 ds xs acc.toList (AtAll.dp _ _ hpl (AtAll.mono hF _ _ hx)) iv
  have e0 : W.EachIs (fun v d => ∃ as, Reads h' v d as) acc.toList ds := W.readsAll_each (enc := fun d => d) (by rw [List.map_id']; exact rr)
  have e1 := zip_each iv e0
  have esn : (xs.zip ds).map Prod.snd = ds := List.map_snd_zip (Nat.le_of_eq hl.symm)
  have hzl : (xs.zip ds).length ≤ sizeLine := by
    rw [List.length_zip]
    have := Nat.min_le_right xs.length ds.length
    omega
  have new : (h'.push { cls := .type "list", data := .seq acc.toList.toArray }).get? h'.objs.size = some (seqObj "list" acc.toList.toArray 0) := Heap.get?_push_size _ rfl
  have old : ∀ b ob, h'.get? b = some ob → (h'.push { cls := .type "list", data := .seq acc.toList.toArray }).get? b = some ob := fun b ob e => Heap.get?_push_of_some _ e
  refine wpAny_bind (wpAny_holding ?_)
  refine W.list_sort_data (A := X.A.in1) (enc := Prod.snd) (R := fun v (b : V × D) => RelV b.1 v) new (e1.mono fun _ _ h => h.1) ((W.each_mem e1).mono fun v b h => ?_) (by rw [esn]; exact o2) (by rw [esn]; exact o3) ?_ (fun b hb => ?_) fun out hlen hout => ?_
  · obtain ⟨⟨h1, as, h2⟩, hb⟩ := h
    refine ⟨as, PyProof.Rows.Reads.keeps old h2, fun m => ?_⟩
    have hp : b.2.plain = true := okD_plain (o1 _ (List.of_mem_zip hb).2)
    obtain ⟨ob, e⟩ := reads_there _ _ _ hp h2 m
    exact absurd (Heap.lt_size e) (Nat.lt_irrefl _)
  · exact hzl
  · have hm : b.2 ∈ ds := (List.of_mem_zip hb).2
    have := okD_depth (o1 _ hm)
    show X.A.units + 1 + 1 + _ < _
    omega
  · refine wpAny_pure ?_
    obtain ⟨n, hn2⟩ := sortedHeap_at (vs := acc.toList) (out := List.toArray out) new
    have key : ∀ b ob, h'.get? b = some ob → (sortedHeap (h'.push { cls := .type "list", data := .seq acc.toList.toArray }) h'.objs.size acc.toList (List.toArray out)).get? b = some ob := fun b ob e => by
      have hb := Heap.lt_size e
      have hb2 : b < (h'.push { cls := .type "list", data := .seq acc.toList.toArray }).objs.size := Heap.lt_size (old b ob e)
      rw [sortedHeap_old (Nat.ne_of_lt hb) hb2]
      exact old b ob e
    obtain ⟨z1, z2⟩ := at_zip hx
    have az : AtAll X.fr F (srtD ds) ((zipSort xs ds).map Prod.fst) := by
      rw [← zipSort_snd z1]
      exact of_pairs fun p hp => z2 p ((List.mergeSort_perm _ _).mem_iff.mp hp)
    refine ⟨_, rfl, .ref h'.objs.size, _, I1.laid (o := .lst ((zipSort xs ds).map Prod.fst)) (t' := tk) key (Nat.le_refl _) ⟨?_, out, n, each_vals hout, hn2⟩, rfl, q _ _ hn' az⟩
    rw [List.length_map, List.length_mergeSort]
    exact hzl
end
end Sw

set_option Elab.async false
set_option linter.all false
set_option maxRecDepth 100000
namespace Sw
open PySem PySem.Spec L2
section
variable {X : Cz} {K : FgX}
def gSortDic : List D → Option (List D)
  | [.dict kds] => if okSort (kds.map Prod.fst) = true then some (srtD (kds.map Prod.fst)) else none
  | _ => none
theorem l_sortDic : LCF K (rSortDic K) gSortDic := fun C σ H F env xs ds es Q R a e k => by
  unfold gSortDic at e
  split at e
  · split at e
    · rename_i ho
      cases e
      obtain ⟨x, rfl, w⟩ := a.one
      obtain ⟨p, o, rfl, e1, t, c⟩ := w
      refine ⟨F, p, o, t, _, rfl, R.frz, e1, c, ho, fun l ys hl ay => ?_⟩
      obtain ⟨s, f, h, n⟩ := R.alloc0 (o := .lst ys) hl
      exact k l ys F s f h n hl ay
    · cases e
  · cases e
def gListDic : List D → Option (List D)
  | [.dict kds] => some (kds.map Prod.fst)
  | _ => none
theorem gSortDic_1 {kds : List (D × D)} (h : okSort (kds.map Prod.fst) = true) : gSortDic [.dict kds] = some (srtD (kds.map Prod.fst)) := if_pos h
theorem gListDic_1 {kds : List (D × D)} : gListDic [.dict kds] = some (kds.map Prod.fst) := rfl
def qDGetO (A B C : PE') : PE' := fun env Q => A env fun o1 env1 => (∃ p, o1.dic env1 = some p) ∧ B env1 fun o2 env2 => C env2 fun o3 env3 => ∃ d env4, o3.fz env3 = some (d, env4) ∧ ∃ ot kds, o1.dic env4 = some (ot, kds) ∧ ∃ k, o2.rd env4 = some k ∧ KeyO ot kds k ∧ Q (.dv ((lookD kds k).getD d)) env4
end
end Sw

set_option Elab.async false
set_option linter.all false
set_option maxRecDepth 100000
namespace Sw
open PySem PySem.Spec L2 PyProof.Rows
section
variable {X : Cz} {K : FgX}
def iKeysD (A : PE') : PI' := fun env Q => A env fun o env1 => ∃ kds, o.fz env1 = some (.dict kds, env1) ∧ Q (kds.map Prod.fst) env1
end
end Sw

set_option Elab.async false
set_option linter.all false
set_option maxRecDepth 100000
namespace Sw
open PySem PySem.Spec L2
theorem ex_pr {α β : Type} {a : α} {b : β} {P : α → β → Prop} : (∃ x y, some (a, b) = some (x, y) ∧ P x y) ↔ P a b := ⟨fun ⟨_, _, e, h⟩ => by cases e; exact h, fun h => ⟨a, b, rfl, h⟩⟩
theorem ex_pr0 {α : Type} {a : α} : (∃ p : α, some a = some p) ↔ True := ⟨fun _ => trivial, fun _ => ⟨a, rfl⟩⟩
theorem ex_dic {t : Bool} {kds : List (D × D)} {P : Bool → List (D × D) → Prop} : (∃ t' k', some (SV.dic t kds) = some (SV.dic t' k') ∧ P t' k') ↔ P t kds := ⟨fun ⟨_, _, e, h⟩ => by cases e; exact h, fun h => ⟨t, kds, rfl, h⟩⟩
theorem ex_dic0 {t : Bool} {kds : List (D × D)} : (∃ t' k', some (SV.dic t kds) = some (SV.dic t' k')) ↔ True := ⟨fun _ => trivial, fun _ => ⟨t, kds, rfl⟩⟩
theorem ex_kds {kds : List (D × D)} {e : List SV} {P : List (D × D) → Prop} : (∃ k', some (PyData.dict kds, e) = some (.dict k', e) ∧ P k') ↔ P kds := ⟨fun ⟨_, e, h⟩ => by cases e; exact h, fun h => ⟨kds, rfl, h⟩⟩
theorem keyO_some {t : Bool} {kds : List (D × D)} {k : D} : KeyO (some t) kds k ↔ KeyT t k := Iff.rfl
theorem keyT_str (z : Str) : KeyT false (.str z) := ⟨.inr z, rfl⟩
theorem keyO_of {kds : List (D × D)} {k : D} {t : Bool} (h : ∃ p ∈ kds, KeyT t p.1) (g : KeyT t k) : KeyO none kds k := ⟨t, h, g⟩
theorem lookD_none {kds : List (D × D)} {k : D} (h : ∀ p ∈ kds, PyData.eqv p.1 k = false) : lookD kds k = none := by
  unfold lookD
  rw [List.find?_eq_none.mpr fun p hp => by rw [h p hp]; decide]
  rfl
theorem lookD_mem {kds : List (D × D)} {k d : D} (h : lookD kds k = some d) : ∃ p ∈ kds, PyData.eqv p.1 k = true ∧ p.2 = d := by
  unfold lookD at h
  cases q : kds.find? fun p => PyData.eqv p.1 k with
  | none => rw [q] at h; cases h
  | some p =>
    rw [q] at h
    cases h
    exact ⟨p, List.mem_of_find?_eq_some q, (by have := List.find?_some q; exact this), rfl⟩
theorem lookD_app {a b : List (D × D)} {k : D} : lookD (a ++ b) k = (lookD a k).or (lookD b k) := by
  unfold lookD
  rw [List.find?_append]
  cases a.find? fun p => PyData.eqv p.1 k <;> rfl
end Sw

set_option Elab.async false
set_option linter.all false
set_option maxRecDepth 100000
namespace Sw
open PySem PySem.Spec L2 PySem.Calls PyProof.Rows

end Sw

set_option Elab.async false
set_option linter.all false
set_option maxRecDepth 100000
namespace Sw
open PySem PySem.Spec L2 PySem.Calls PyProof.Rows
section
variable {X : Cz}
def qRest : List ((Int → Int → Bool) × PE') → Int → PT'
  | [], _ => fun env Q => Q true env
  | [(p, B)], i => fun env Q => B env fun o env1 => ∃ j, o.rd env1 = some (.int j) ∧ Q (p i j) env1
  | (p, B) :: r, i => fun env Q => B env fun o env1 => ∃ j, o.rd env1 = some (.int j) ∧ if p i j = true then qRest r j env1 Q else Q false env1
def qChain (A : PE') (ls : List ((Int → Int → Bool) × PE')) : PT' := fun env Q => A env fun o env1 => ∃ i, o.rd env1 = some (.int i) ∧ qRest ls i env1 Q
end
section
variable {K : FgX}
def gClear : List D → List D → Option (D × List D)
  | _, [] => some (.none, [])
  | _, _ => none
theorem l_clear : LMO K rClear gClear := fun H F p xs ys ds es ds' d Q hp a b e k => by
  unfold gClear at e
  split at e
  · cases e
    have b : ys = [] := by simpa [AtAll] using b
    subst b
    exact ⟨p, xs, rfl, rfl, hp, k _ _ (by simp [At]) AtAll.nil⟩
  · cases e
theorem gClear_0 {ds : List D} : gClear ds [] = some (.none, []) := rfl
end
end Sw

set_option Elab.async false
set_option linter.all false
set_option maxRecDepth 100000
namespace Sw
open PySem PySem.Spec L2 PySem.Calls PyProof.Rows
section
variable {X : Cz}
def qDisp1 (A B : PE') : PE' := fun env Q => A env fun o env1 => B env1 fun o2 env2 => ∃ kd, o.rd env2 = some kd ∧ KeyT false kd ∧ ∃ vd env3, o2.fz env2 = some (vd, env3) ∧ Q (.dv (.dict [(kd, vd)])) env3
end
end Sw

set_option Elab.async false
set_option linter.all false
set_option maxRecDepth 100000
set_option maxHeartbeats 4000000
namespace Sw
open PySem PySem.Spec L2 PyProof.Rows
noncomputable local instance memDecB (k : Key) (l : List Key) : Decidable (k ∈ l) := Classical.propDecidable _
end Sw

set_option Elab.async false
set_option linter.all false
set_option maxRecDepth 100000
namespace Sw
open PySem PySem.Spec L2 PySem.Calls PyProof.Rows
end Sw

set_option Elab.async false
set_option linter.all false
set_option maxRecDepth 100000
set_option maxHeartbeats 4000000
namespace Sw
open PySem PySem.Spec L2 PySem.Calls PyProof.Rows
end Sw

set_option Elab.async false
set_option linter.all false
set_option maxRecDepth 100000
set_option maxHeartbeats 4000000
namespace Sw
open PySem PySem.Spec L2 PySem.Calls PyProof.Rows
end Sw

set_option Elab.async false
set_option linter.all false
set_option maxRecDepth 100000
set_option maxHeartbeats 4000000
/-! enumerate(a tuple) -/
namespace PySem
open Sem (wp)
open AutoSeq1 (wpAny_loadPart')
theorem meets_enumerate_newT (l : Addr) (items : Array Value) (n : Nat) (dct : Option Addr) (sl : Array (Option Value)) :
    Meets (Builtin.«enumerate.__new__» ⟨[.type "enumerate", .ref l], []⟩) (fun _ R s => s.heap.get? l = some { cls := .type "tuple", dict := dct, data := .seq items n, slots := sl } ∧
      R (.ok (.ret (.ref (s.heap.push { cls := .type "tuple_iterator", data := .fields #[.ref l, .int 0 0] }).objs.size)))
        { s with heap := (s.heap.push { cls := .type "tuple_iterator", data := .fields #[.ref l, .int 0 0] }).push { cls := .type "enumerate", data := .fields #[.none, .bool false, .ref s.heap.objs.size, rawInt 0, .none, .none] } }) :=
  .of_wp fun prog w A R s h => by
    obtain ⟨hp, g, d, tk, os⟩ := s; obtain ⟨hl, h⟩ := h
    have hsub := sub_enumerate
    have hL : Heap.IsTuple (Shared.heap ⟨hp, g, d, tk, os⟩) l items := ⟨_, hl, rfl, n, rfl⟩
    wp_walk using wpAny_loadPart' hl
    refine wpAny_stack_any fun st => wpAny_pure ?_
    split
    · rename_i c _ _ _ _ _
      cases (c == Value.type "enumerate")
      · wp_walk using wpAny_loadPart' hl, wpAny_pyIter_tuple hL
        exact ⟨_, rfl, h⟩
      · wp_walk using wpAny_loadPart' hl, wpAny_pyIter_tuple hL
        exact ⟨_, rfl, h⟩
    · wp_walk using wpAny_loadPart' hl, wpAny_pyIter_tuple hL
      exact ⟨_, rfl, h⟩
section
variable {prog : Program} {w : World} {A : Around} {E : Value → Shared → Prop} {s : Shared}
theorem call_enumerate_tuple {l : Addr} {items : Array Value} {Q : Value → Shared → Prop} (hL : s.heap.IsTuple l items)
    (h : ∀ h', IsEnum h' (s.heap.objs.size + 1) s.heap.objs.size 0 .none → h'.IsTupleIter s.heap.objs.size l 0 → h'.objs.size = s.heap.objs.size + 2 →
      (∀ b o, s.heap.get? b = some o → h'.get? b = some o) → Q (.ref (s.heap.objs.size + 1)) { s with heap := h' }) :
    wpAny (model prog w) A (call (.type "enumerate") [.ref l]) Q E s := by
  obtain ⟨⟨c, dct, dt, sl⟩, hl, hc, n, hd⟩ := hL
  replace hc : c = .type "tuple" := hc
  replace hd : dt = .seq items n := hd
  subst hc hd
  refine callType_new F.called_enumerate (by decide) (F.typeCall_enumerate_1 _) (F.newCall_enumerate_1 _) (fun obj => F.args_object_init_2 obj _) F.entry_enumerate_new
    (meets_enumerate_newT l items n dct sl) ⟨hl, ?_⟩
  have hz : (s.heap.push { cls := .type "tuple_iterator", data := .fields #[.ref l, .int 0 0] }).objs.size = s.heap.objs.size + 1 := Heap.size_push ..
  show _ ∧ _
  rw [hz]
  have he : IsEnum ((s.heap.push { cls := .type "tuple_iterator", data := .fields #[.ref l, .int 0 0] }).push
      { cls := .type "enumerate", data := .fields #[.none, .bool false, .ref s.heap.objs.size, rawInt 0, .none, .none] }) (s.heap.objs.size + 1) s.heap.objs.size 0 .none := by
    have := Heap.get?_push_size (s.heap.push { cls := .type "tuple_iterator", data := .fields #[.ref l, .int 0 0] })
      (o := { cls := .type "enumerate", data := .fields #[.none, .bool false, .ref s.heap.objs.size, rawInt 0, .none, .none] }) rfl
    rw [hz] at this; exact this
  refine ⟨⟨_, he, rfl⟩, h _ he ⟨_, Heap.get?_push_of_some _ (Heap.get?_push_size _ rfl), rfl, rfl⟩ (by rw [Heap.size_push, hz]) fun b o x => Heap.get?_push_of_some _ (Heap.get?_push_of_some _ x)⟩
theorem wpAny_nextOf_tup_item {it l : Addr} {i : Nat} {items} {x : Value} {Q : Value → Shared → Prop} (hit : s.heap.IsTupleIter it l i)
    (hl : s.heap.IsTuple l items) (hx : items[i]? = some x)
    (hQ : ∀ h', h'.IsTupleIter it l (i + 1) → Heap.SameBut it s.heap h' → Q x { s with heap := h' }) :
    wpAny (model prog w) A (Builtin.SmallTypes.nextOf (.ref it)) Q E s := by
  obtain ⟨o, ho, hc, hd⟩ := id hit
  obtain ⟨ol, hol, _, nl, hdl⟩ := hl
  unfold Builtin.SmallTypes.nextOf
  refine wpAny_bind (wpAny_callSpecial?_slot (name := Str.ofString "__next__") hit.typeIs F.slot_tuple_iterator_next
    (wpAny_call_entry F.slot_tuple_iterator_next hit.typeIs F.entry_tuple_iterator_next ?_ (F.args_tuple_iterator_next_1 _)))
  show wpAny _ _ (field (.ref it) 0 >>= _) _ _ s
  refine wpAny_bind (wpAny_field ho hd (x := .ref l) rfl ?_)
  show wpAny _ _ (if (Value.ref l == Value.none) = true then _ else _) _ _ s
  rw [if_neg (show ¬ ((Value.ref l == Value.none) = true) from Bool.false_ne_true)]
  show wpAny _ _ (field (.ref it) 1 >>= _) _ _ s
  refine wpAny_bind (wpAny_field ho hd (x := .int i 0) rfl ?_)
  show wpAny _ _ (seqItems? (.ref l) >>= _) _ _ s
  refine wpAny_bind (wpAny_seqItems hol hdl ?_)
  simp only [Int.toNat_natCast, hx]
  refine wpAny_bind (wpAny_setField ho hd (by simp) (wpAny_pure ⟨x, rfl, wpAny_pure (hQ _ ?_ (Heap.SameBut.update ..))⟩))
  exact ⟨_, Heap.get?_update_self _ ho (Obj.isFreed_of_fields (Obj.data_mapFields hd _)), (Obj.cls_mapFields ..).trans hc, by
    rw [Obj.data_mapFields hd]; simp [rawInt]⟩
theorem wpAny_nextOf_tup_end {it l : Addr} {i : Nat} {items} {Q : Value → Shared → Prop} (hh : A.handled = none)
    (hit : s.heap.IsTupleIter it l i) (hl : s.heap.IsTuple l items) (hx : items[i]? = none)
    (hE : ∀ h' e, Heap.ExtBut it s.heap h' → (∃ o, h'.get? e = some o ∧ o.cls = .type "StopIteration") → E (.ref e) { s with heap := h' }) :
    wpAny (model prog w) A (Builtin.SmallTypes.nextOf (.ref it)) Q E s := by
  obtain ⟨o, ho, hc, hd⟩ := id hit
  obtain ⟨ol, hol, _, nl, hdl⟩ := hl
  unfold Builtin.SmallTypes.nextOf
  refine wpAny_bind (wpAny_callSpecial?_slot (name := Str.ofString "__next__") hit.typeIs F.slot_tuple_iterator_next
    (wpAny_call_entry F.slot_tuple_iterator_next hit.typeIs F.entry_tuple_iterator_next ?_ (F.args_tuple_iterator_next_1 _)))
  show wpAny _ _ (field (.ref it) 0 >>= _) _ _ s
  refine wpAny_bind (wpAny_field ho hd (x := .ref l) rfl ?_)
  show wpAny _ _ (if (Value.ref l == Value.none) = true then _ else _) _ _ s
  rw [if_neg (show ¬ ((Value.ref l == Value.none) = true) from Bool.false_ne_true)]
  show wpAny _ _ (field (.ref it) 1 >>= _) _ _ s
  refine wpAny_bind (wpAny_field ho hd (x := .int i 0) rfl ?_)
  show wpAny _ _ (seqItems? (.ref l) >>= _) _ _ s
  refine wpAny_bind (wpAny_seqItems hol hdl ?_)
  simp only [Int.toNat_natCast, hx]
  refine wpAny_bind (wpAny_rule (wpAny_bind (wpAny_setField ho hd (by simp) ?_)))
  show wpAny _ _ (newExc (.type "StopIteration") [] >>= _) _ _ _
  refine wpAny_bind ?_
  simp only [newExc, newTuple]
  refine wpAny_bind (wpAny_newObj_type ?_ (by size_fits))
  refine wpAny_bind (m := firstArgMember _ _) (wpAny_of_eq (a := Value.none) (by first | rfl | (simp only [firstArgMember]; rfl)) ?_)
  refine wpAny_newObj_type ?_ (by size_fits)
  simp only [raiseNew]
  refine wpAny_bind (wpAny_handled ?_)
  first | rw [show A.in1.handled = none from hh] | rw [hh]
  refine wpAny_bind (wpAny_pure (wpAny_throw ?_))
  exact hE _ _ (((Heap.SameBut.update ..).extBut.push _).push _) ⟨_, Heap.get?_push_size _ rfl, rfl⟩
theorem enumerate_next_itemT {e it l : Addr} {i : Nat} {items : Array Value} {x old : Value} {Q : Value → Shared → Prop}
    (he : IsEnum s.heap e it i old) (hit : s.heap.IsTupleIter it l i) (hl : s.heap.IsTuple l items) (hx : items[i]? = some x) (hne : e ≠ it)
    (hQ : ∀ h', IsEnumOut h' e it ((i : Int) + 1) x s.heap.objs.size → h'.IsTupleIter it l (i + 1) →
      h'.get? s.heap.objs.size = some { cls := .type "tuple", data := .seq #[.int i s.toks, x] } → h'.objs.size = s.heap.objs.size + 1 →
      (∀ b o, b ≠ e → b ≠ it → s.heap.get? b = some o → h'.get? b = some o) → Q (.ref s.heap.objs.size) { s with heap := h', toks := s.toks + 1 }) :
    wpAny (model prog w) A (Builtin.«enumerate.__next__» ⟨[.ref e], []⟩) (fun fin s' => ∃ v, fin = .done (.ret v) ∧ Q v s') E s := by
  obtain ⟨hp, g, d, tk, os⟩ := s
  show wpAny _ _ (field (.ref e) 2 >>= _) _ _ _
  refine wpAny_bind (wpAny_field he rfl (x := .ref it) rfl ?_)
  refine wpAny_bind (wpAny_nextOf_tup_item hit hl hx fun h₁ hit₁ hs₁ => ?_)
  replace hs₁ : Heap.SameBut it hp h₁ := hs₁
  have he₁ : IsEnum h₁ e it i old := (hs₁.2 e hne).trans he
  show wpAny _ _ (field (.ref e) 3 >>= _) _ _ ⟨h₁, g, d, tk, os⟩
  refine wpAny_bind (wpAny_field he₁ rfl (x := rawInt i) rfl ?_)
  show wpAny _ _ (field (.ref e) 4 >>= _) _ _ ⟨h₁, g, d, tk, os⟩
  refine wpAny_bind (wpAny_field he₁ rfl (x := .none) rfl ?_)
  show wpAny _ _ (mkInt i >>= _) _ _ ⟨h₁, g, d, tk, os⟩
  refine wpAny_bind (wpAny_mkInt ?_)
  show wpAny _ _ (setField (.ref e) 3 (rawInt ((i : Int) + 1)) >>= _) _ _ ⟨h₁, g, d, tk + 1, os⟩
  refine wpAny_bind (wpAny_setField_rec he₁ (by simp) fun h₂ he₂ hs₂ => ?_)
  replace hs₂ : Heap.SameBut e h₁ h₂ := hs₂
  replace he₂ : IsEnum h₂ e it ((i : Int) + 1) old := he₂
  show wpAny _ _ (setField (.ref e) 4 .none >>= _) _ _ ⟨h₂, g, d, tk + 1, os⟩
  refine wpAny_bind (wpAny_setField_rec he₂ (by simp) fun h₃ he₃ hs₃ => ?_)
  replace hs₃ : Heap.SameBut e h₂ h₃ := hs₃
  replace he₃ : IsEnum h₃ e it ((i : Int) + 1) old := he₃
  show wpAny _ _ (newTuple [.int i tk, x] >>= _) _ _ ⟨h₃, g, d, tk + 1, os⟩
  refine wpAny_bind (wpAny_newTuple ?_)
  have he₄ : IsEnum (h₃.push { cls := .type "tuple", data := .seq #[.int i tk, x] }) e it ((i : Int) + 1) old := Heap.get?_push_of_some _ he₃
  generalize hh₄ : h₃.push { cls := .type "tuple", data := .seq #[.int i tk, x] } = h₄ at he₄
  have hsz : h₃.objs.size = hp.objs.size := by rw [hs₃.1, hs₂.1, hs₁.1]
  have hel : e < hp.objs.size := Heap.lt_size he
  have ht₄ : h₄.get? hp.objs.size = some { cls := .type "tuple", data := .seq #[.int i tk, x] } := by rw [← hh₄, ← hsz]; exact Heap.get?_push_size _ rfl
  have hz₄ : h₄.objs.size = hp.objs.size + 1 := by rw [← hh₄, Heap.size_push, hsz]
  have hk₄ : ∀ b o, b ≠ e → b ≠ it → hp.get? b = some o → h₄.get? b = some o := fun b o hbe hbi hb => by
    rw [← hh₄]; exact Heap.get?_push_of_some _ (hs₃.extBut b o hbe (hs₂.extBut b o hbe (hs₁.extBut b o hbi hb)))
  have hit₄ : h₄.IsTupleIter it l (i + 1) := by
    rw [← hh₄]; obtain ⟨o, ho, r⟩ := (hit₁.extBut hs₂.extBut (Ne.symm hne)).extBut hs₃.extBut (Ne.symm hne); exact ⟨o, Heap.get?_push_of_some _ ho, r⟩
  show wpAny _ _ (Builtin.SmallTypes.ownedTupleIsFree (.ref e) >>= _) _ _ ⟨h₄, g, d, tk + 1, os⟩
  rw [hsz]
  clear hh₄ he₃ hs₃ he₂ hs₂ he₁ hs₁ hit₁ hsz h₃ h₂ h₁
  refine wpAny_bind ?_
  · unfold Builtin.SmallTypes.ownedTupleIsFree
    refine wpAny_bind (wpAny_field he₄ rfl (x := .none) rfl (wpAny_pure ?_))
    simp only [if_true]
    refine wpAny_bind (wpAny_rule ?_)
    refine wpAny_bind (wpAny_field he₄ rfl (x := old) rfl ?_)
    refine wpAny_bind (wpAny_setField_rec he₄ (by simp) fun h₅ he₅ hs₅ => ?_)
    replace hs₅ : Heap.SameBut e h₄ h₅ := hs₅
    replace he₅ : IsEnum h₅ e it ((i : Int) + 1) x := he₅
    show wpAny _ _ (Builtin.SmallTypes.ownedTupleHandOut (.ref e) (.ref hp.objs.size) >>= _) _ _ ⟨h₅, g, d, tk + 1, os⟩
    refine wpAny_bind ?_
    · unfold Builtin.SmallTypes.ownedTupleHandOut
      refine wpAny_bind (wpAny_setField_rec he₅ (by simp) fun h₆ he₆ hs₆ => ?_)
      replace hs₆ : Heap.SameBut e h₅ h₆ := hs₆
      replace he₆ : IsEnumOut h₆ e it ((i : Int) + 1) x hp.objs.size := he₆
      refine wpAny_setField_rec he₆ (by simp) fun h₇ he₇ hs₇ => ?_
      replace hs₇ : Heap.SameBut e h₆ h₇ := hs₇
      replace he₇ : IsEnumOut h₇ e it ((i : Int) + 1) x hp.objs.size := he₇
      refine wpAny_bind (wpAny_letGo (wpAny_pure ⟨_, rfl, hQ h₇ he₇ ?_ ?_ ?_ ?_⟩))
      · exact ((hit₄.extBut hs₅.extBut (Ne.symm hne)).extBut hs₆.extBut (Ne.symm hne)).extBut hs₇.extBut (Ne.symm hne)
      · exact hs₇.extBut _ _ (Nat.ne_of_gt hel) (hs₆.extBut _ _ (Nat.ne_of_gt hel) (hs₅.extBut _ _ (Nat.ne_of_gt hel) ht₄))
      · rw [hs₇.1, hs₆.1, hs₅.1, hz₄]
      · exact fun b o hbe hbi hb => hs₇.extBut b o hbe (hs₆.extBut b o hbe (hs₅.extBut b o hbe (hk₄ b o hbe hbi hb)))

theorem wpAny_pyNext_enum_itemT {e it l : Addr} {i : Nat} {items : Array Value} {x old : Value} {Q : Option Value → Shared → Prop}
    (he : IsEnum s.heap e it i old) (hit : s.heap.IsTupleIter it l i) (hl : s.heap.IsTuple l items) (hx : items[i]? = some x) (hne : e ≠ it)
    (hQ : ∀ h', IsEnumOut h' e it ((i : Int) + 1) x s.heap.objs.size → h'.IsTupleIter it l (i + 1) →
      h'.get? s.heap.objs.size = some { cls := .type "tuple", data := .seq #[.int i s.toks, x] } → h'.objs.size = s.heap.objs.size + 1 →
      (∀ b o, b ≠ e → b ≠ it → s.heap.get? b = some o → h'.get? b = some o) → Q (some (.ref s.heap.objs.size)) { s with heap := h', toks := s.toks + 1 }) :
    wpAny (model prog w) A (pyNext (.ref e)) Q E s := by
  have hT : s.TypeIs (.ref e) "enumerate" := ⟨_, he, rfl⟩
  unfold pyNext
  exact wpAny_bind (wpAny_attempt (wpAny_callSpecial?_slot (name := Str.ofString "__next__") hT F.slot_enumerate_next
    (wpAny_call_entry F.slot_enumerate_next hT F.entry_enumerate_next
      (enumerate_next_itemT he hit hl hx hne fun h' a b c d k => wpAny_pure (hQ h' a b c d k)) (F.args_enumerate_next_1 _))))

theorem wpAny_pyNext_enum_endT {e it l : Addr} {i : Nat} {items : Array Value} {old : Value} {Q : Option Value → Shared → Prop} (hh : A.handled = none)
    (he : IsEnum s.heap e it i old) (hit : s.heap.IsTupleIter it l i) (hl : s.heap.IsTuple l items) (hx : items[i]? = none)
    (hQ : ∀ h', Heap.ExtBut it s.heap h' → Q none { s with heap := h' }) : wpAny (model prog w) A (pyNext (.ref e)) Q E s := by
  have hT : s.TypeIs (.ref e) "enumerate" := ⟨_, he, rfl⟩
  unfold pyNext
  refine wpAny_bind (wpAny_attempt (wpAny_callSpecial?_slot (name := Str.ofString "__next__") hT F.slot_enumerate_next
    (wpAny_call_entry F.slot_enumerate_next hT F.entry_enumerate_next ?_ (F.args_enumerate_next_1 _))))
  show wpAny _ _ (field (.ref e) 2 >>= _) _ _ _
  refine wpAny_bind (wpAny_field he rfl (x := .ref it) rfl ?_)
  refine wpAny_bind (wpAny_nextOf_tup_end hh hit hl hx fun h' x he' hx' => ?_)
  obtain ⟨o, ho, hc⟩ := hx'
  refine wpAny_bind (wpAny_isInstance (T := "StopIteration") (b := true) ⟨o, ho, hc⟩ isSubtype_stop ?_)
  exact wpAny_pure (hQ _ he')
end
end PySem
namespace L2
open PySem PySem.Spec PyProof.Rows
/-- the tuple at a at each turn, each item in a new pair -/
def IteT (K : PySem.W.Frag) (a : Addr) : It :=
  ⟨fun i H => ∃ (xs : List V) (x : V), SqT K H a xs ∧ xs[i]? = some x, fun i H v H' => ∃ T x, v = .ref T ∧ H T = none ∧ H' = upd H T (.tup [.int (i : Nat), x]) ∧ ∀ xs, SqT K H a xs → xs[i]? = some x, fun i H => ∃ xs : List V, SqT K H a xs ∧ xs.length ≤ i⟩
theorem turn_enumT {P : Program} {w : World} {K : PySem.W.Frag} {elts : List Expr} {kk : Nat} {tpos : Pos} (a e it : Addr) :
    Turn P w K (.Tuple elts kk tpos) (IteT K a) [e, it] e (fun i h => (∃ old, IsEnum h e it ((i : Nat) : Int) old) ∧ h.IsTupleIter it a i ∧ e ≠ it) where
  mem := by simp
  obj := fun i h st b hb => by
    obtain ⟨⟨old, he⟩, ⟨o, ho, hc, hd⟩, _⟩ := st
    have e' : b = e ∨ b = it := by simpa using hb
    rcases e' with z | z
    · rw [z]; exact ⟨_, he, fun v q => nomatch q⟩
    · rw [z]; exact ⟨o, ho, fun v q => by rw [hd] at q; cases q⟩
  keep := fun i h h' st k => let ⟨⟨old, he⟩, hi, hne⟩ := st; ⟨⟨old, k e (by simp) _ he⟩, hi.at fun o q => k it (by simp) o q, hne⟩
  item := by
    intro X hP hw hK hc i pins s σ H E I hf st hg
    subst hP hw hK
    obtain ⟨⟨old, he⟩, hit, hne⟩ := st
    obtain ⟨xs, x, hq, hx⟩ := hg
    obtain ⟨its, rv, p, hz⟩ := I.tuple hq
    obtain ⟨u, hu, ru⟩ := rv.get hx
    have hel : e < s.heap.objs.size := Heap.lt_size he
    have hil : it < s.heap.objs.size := by obtain ⟨_, q, _⟩ := hit; exact Heap.lt_size q
    refine wpAny_pyNext_enum_itemT he hit (show s.heap.IsTuple a its.toArray from p) (x := u) (by simpa using hu) hne fun h' ho hit' hT hsz hk => ?_
    refine ⟨_, rfl, wpAny_letOwnedTupleGo_enum (s := { s with heap := h', toks := s.toks + 1 }) ho fun h'' he' sb => ?_⟩
    have hT2 : h''.get? s.heap.objs.size = some { cls := .type "tuple", data := .seq #[.int i s.toks, u] } := (sb.2 _ (Nat.ne_of_gt hel)).trans hT
    have new : ObjOk X.prog X.w (upd H s.heap.objs.size (.tup [.int (i : Nat), x])) h'' s.heap.objs.size (.tup [.int (i : Nat), x]) :=
      ⟨by show 2 ≤ sizeLine; decide, [.int i s.toks, u], .cons ⟨_, rfl⟩ (.cons ru .nil), ⟨_, hT2, rfl, _, rfl⟩⟩
    have I1 : Inv X pins σ (upd H s.heap.objs.size (.tup [.int (i : Nat), x])) { s with heap := h'', toks := s.toks + 1 } :=
      I.turnedNew (ch := [e, it]) (fun b ob hb q => (sb.2 b (fun z => hb (by simp [z]))).trans (hk b ob (fun z => hb (by simp [z])) (fun z => hb (by simp [z])) q)) hf (Nat.le_refl _) new
    refine ⟨.ref s.heap.objs.size, _, I1, rfl, ⟨_, x, rfl, I.hok.fresh (Nat.le_refl _), rfl, fun ys hy => by rw [I.tuple_inj hy hq]; exact hx⟩, ⟨⟨u, ?_⟩, hit'.at fun o q => (sb.2 it (Ne.symm hne)).trans q, hne⟩, fun b hb => ?_⟩
    · have e1 : ((i + 1 : Nat) : Int) = (i : Int) + 1 := by omega
      rw [e1]; exact he'
    · have hb' : b < s.heap.objs.size := by
        have e' : b = e ∨ b = it := by simpa using hb
        rcases e' with z | z
        · rw [z]; exact hel
        · rw [z]; exact hil
      rw [upd_ne (Nat.ne_of_lt hb')]
      exact (hf b hb).1
  done := by
    intro X hP hw hK hc i pins s σ H E I hf st hg
    subst hP hw hK
    obtain ⟨⟨old, he⟩, hit, hne⟩ := st
    obtain ⟨xs, hq, hx⟩ := hg
    obtain ⟨its, rv, p, hz⟩ := I.tuple hq
    obtain ⟨f0, f1, f2, f3, f4, f5⟩ := hf it (by simp)
    have hl := rv.length
    exact wpAny_pyNext_enum_endT (I.ok.hd hc) he hit (show s.heap.IsTuple a its.toArray from p) (by simp; omega) fun h' eb => ⟨rfl, I.turned (t' := s.toks) (fun b o hb q => eb b o hb q) f0 f1 f3 f4 f5⟩
  self := fun A i s Q E st h => let ⟨⟨_, he⟩, _⟩ := st; wpAny_pyIter_enum he h
def iEnumT (K : PySem.W.Frag) (ta : TA) : TI := fun σ H R => ta σ H fun vs H1 => ∃ a xs, vs = [.ref a] ∧ SqT K H1 a xs ∧ R (IteT K a) H1
theorem pi_enumT {X : Cx} {e : Expr} {ta : TA} {p pos tpos : Pos} {elts : List Expr} {kk : Nat} (hg : Gl X "enumerate") (hm : X.mg "enumerate" = none) (ha : PA X [e] ta) (hs : starEach [e] X.env = [(false, eval e X.env)] := by rfl) :
    PI X (.Tuple elts kk tpos) (.Call (.Name "enumerate" p) [e] [] pos) (iEnumT X.K ta) := by
  refine ⟨fun pins s σ H R I h => ?_⟩
  refine Call_ (ld_blt I hg hm boot_enumerate (PyProof.Rows.callWith_type1 (thn (ha.run pos pins s σ H _ I h) fun us s1 ⟨vs, H1, I1, r1, q1⟩ => ?_) hs rfl))
  obtain ⟨a, xs, ex, hq, q⟩ := q1
  subst ex
  cases r1 with
  | cons r rr =>
    cases rr
    cases r
    obtain ⟨its, rv, p', hz⟩ := I1.tuple hq
    refine call_enumerate_tuple (show s1.heap.IsTuple a its.toArray from p') fun h' he hit hsz hk => wpAny_pyIter_enum he ?_
    have I2 : Inv X pins σ H1 { s1 with heap := h' } := I1.kept (t' := s1.toks) hk
    refine ⟨s1.heap.objs.size + 1, [s1.heap.objs.size + 1, s1.heap.objs.size], _, _, H1, rfl, I2, turn_enumT a (s1.heap.objs.size + 1) s1.heap.objs.size, ⟨⟨.none, he⟩, hit, Nat.succ_ne_self _⟩, fun b hb => ?_, q⟩
    have e' : b = s1.heap.objs.size + 1 ∨ b = s1.heap.objs.size := by simpa using hb
    have hle : s1.heap.objs.size ≤ b := by
      rcases e' with z | z
      · rw [z]; exact Nat.le_add_right _ _
      · rw [z]; exact Nat.le_refl _
    exact I1.fpOk hle (I1.hok.fresh hle)
theorem walk_enumT {K : PySem.W.Frag} {a : Addr} {xs : List V} : Walk (IteT K a) xs.length (fun H => SqT K H a xs) (YPair (fun i => some (.int (i : Nat))) (fun i => xs[i]?)) := by
  refine ⟨fun i _ hi q => ⟨xs, xs[i], q, by simp [hi]⟩, fun _ q => ⟨xs, q, Nat.le_refl _⟩, fun i H v H' _ q y => ?_⟩
  obtain ⟨T, x, h1, h2, h3, h4⟩ := y
  exact ⟨T, .int (i : Nat), x, h1, h2, h3, rfl, h4 xs q⟩
end L2
namespace Sw
open PySem PySem.Spec L2 PySem.Calls PyProof.Rows
end Sw

set_option Elab.async false
set_option linter.all false
set_option maxRecDepth 100000
set_option maxHeartbeats 4000000
namespace Sw
open PySem PySem.Spec L2
end Sw

set_option Elab.async false
set_option linter.all false
set_option maxRecDepth 100000
set_option maxHeartbeats 4000000
namespace Sw
open PySem PySem.Spec L2
mutual
def bareD : D → Bool
  | .list _ => false
  | .dict _ => false
  | .tuple ds => bareL ds
  | _ => true
def bareL : List D → Bool
  | [] => true
  | d :: r => bareD d && bareL r
end
end Sw
namespace Sw
open PySem PySem.Spec L2
end Sw

set_option Elab.async false
set_option linter.all false
set_option maxRecDepth 100000
set_option maxHeartbeats 4000000
namespace Sw
open PySem PySem.Spec L2 PySem.Calls
def intsOf : List D → Option (List Int)
  | [] => some []
  | .int i :: r => (intsOf r).map fun is => i :: is
  | _ :: _ => none
theorem AtAll.ints {K : FgK} {F : Hp} : ∀ {ds : List D} {is : List Int} {xs : List V}, intsOf ds = some is → AtAll K F ds xs → xs = is.map V.int
  | [], is, xs, e, a => by
    cases e
    simpa [AtAll] using a
  | d :: ds, is, xs, e, a => by
    cases d with
    | int i =>
      cases q : intsOf ds with
      | none => simp [intsOf, q] at e
      | some js =>
        simp [intsOf, q] at e
        subst e
        simp only [AtAll] at a
        obtain ⟨x, r, rfl, a, q2⟩ := a
        simp only [At] at a
        subst a
        rw [AtAll.ints q q2]
        rfl
    | _ => simp [intsOf] at e
end Sw

set_option Elab.async false
set_option linter.all false
set_option maxRecDepth 100000
set_option maxHeartbeats 4000000
namespace PySem
open Sem (wp)
section
variable {prog : Program} {w : World} {K : Type} [DecidableEq K] {knd : HeapKind prog w K} {A : Around} {E : Value → Shared → Prop} {s : Shared}
theorem wpAny_Dict_pairsH2 {env : Env} {keys : List (Option Expr)} {values : List Expr} {pos : Pos} {pairs : List (Sem Value × Sem Value)} {Q : Value → Shared → Prop} (hu : knd.room A)
    (hshape : (evalEachOpt keys env).zip ((evalEach values env).map fun v => do let x ← v; standAt pos; pure x) = pairs.map fun p => (some p.1, p.2)) (h0 : pairs ≠ []) (hlen : pairs.length ≤ 15)
    (h : wpAny (model prog w) A (evalPairs pairs) (fun vs s₁ => ∃ ps, CarriesH knd s₁.heap vs ps ∧ s₁.heap.DictOfH knd s.heap.objs.size [] ∧
      ∀ h' tk, h'.DictOfH knd s.heap.objs.size (storedAllH [] ps) → Heap.SameBut s.heap.objs.size s₁.heap h' → Q (.ref s.heap.objs.size) { s₁ with heap := h', toks := tk }) E
      { s with heap := s.heap.push { cls := .type "dict", data := .dict #[] } }) :
    wpAny (model prog w) A (eval (.Dict keys values pos) env) Q E s := by
  rw [arm_eval_Dict, hshape, dictDisplay_pairs pairs h0 (by omega)]
  exact wpAny_bind (wpAny_standAt (wpAny_bind (wpAny_subDictH (knd := knd) (Q := fun d s' => wpAny (model prog w) A (pure (Value.ref d)) Q E s') hu hlen
    (wpAny_mono h (fun vs s₁ h₁ => by obtain ⟨ps, hc, hm, hq⟩ := h₁; exact ⟨ps, hc, hm, fun h' tk a b => wpAny_pure (hq h' tk a b)⟩) fun _ _ e => e))))
end
end PySem
namespace Sw
open PySem PySem.Spec L2
end Sw
namespace Sw
open PySem PySem.Spec L2
end Sw

set_option Elab.async false
set_option linter.all false
set_option maxRecDepth 100000
set_option maxHeartbeats 4000000
namespace L2
open PySem PySem.Spec PyProof.Rows
/-! list(d.items()) of a dict with texts or numbers as keys -/
theorem pe_itemsV {X : Cx} {e : Expr} {td : TE} {apos cpos : Pos} (he : PE X e td) (hbase : attributeBase e "items" X.env (eval e X.env) = eval e X.env := by rfl) (hline : (apos.endLine == cpos.line) = true := by rfl) :
    PE X (.Call (.Attribute e "items" apos) [] [] cpos) (fun σ H Q => td σ H fun x H1 => ∃ d kvs, x = V.ref d ∧ Rd H1 d (.dK kvs) ∧ ∀ p, H1 p = none → Q (.ref p) (upd H1 p (DX.itemsO p d))) := by
  refine ⟨fun pins s σ H Q I h => ?_⟩
  refine wpAny_Call_method (T := "dict") (id := "dict.items") hbase rfl hline F.plainAttrs_dict F.slot_dict_items F.type_dict_items (thn (he.run pins s σ H _ I h) fun u s1 ⟨x, H1, I1, rx, d, kvs, ex, hd, q⟩ => ?_)
  subst ex
  obtain rfl : u = Value.ref d := rx
  obtain ⟨z, hs, vs, rk, hD⟩ := dk_rd I1.hok hd
  refine ⟨hD.typeIs, hD.mapOf.noDict, ?_⟩
  have hf := I1.hok.fresh (Nat.le_refl s1.heap.objs.size)
  have fin : EP X pins σ Q (.ref s1.heap.objs.size) { s1 with heap := s1.heap.push { cls := .type "dict_items", data := .fields #[.ref d] } } :=
    ⟨.ref s1.heap.objs.size, upd H1 s1.heap.objs.size (DX.itemsO s1.heap.objs.size d), I1.laid (t' := s1.toks) (fun b u e => Heap.get?_push_of_some _ e) (Nat.le_refl _) (DX.itemsO_ok (Heap.get?_push_size _ rfl)), rfl, q _ hf⟩
  show wpAny _ _ (callWith cpos (.builtin "dict.items") [.ref d] [] []) _ X.xe s1
  refine method_meetsIn (Q := EP X pins σ Q) F.slot_dict_items F.entry_dict_items rfl (PySem.evalArgs_none ?_)
  exact ⟨rfl, Heap.DictOf.typeIs hD, F.args_dict_items_1 _, _, meets_dict_items (mixKind X.prog X.w) d hs, ⟨vs, hD⟩, fin⟩
def rListI : List V → Hp → VK → Prop := fun xs H Q => ∃ p d kvs, xs = [V.ref p] ∧ H p = some (DX.itemsO p d) ∧ Rd H d (.dK kvs) ∧ ∀ (H' : Hp) (l : Addr) (ts : List Addr), (∀ b o, H b = some o → H' b = some o) → H' l = some (.lst (ts.map V.ref)) → H l = none → ts.length = kvs.length →
  (∀ (j : Nat) (t : Addr), ts[j]? = some t → H t = none ∧ t ≠ l ∧ ∃ k v, kvs[j]? = some (k, v) ∧ H' t = some (.tup [kV k, v])) → Q (.ref l) H'
theorem call_listItems {X : Cx} (hc : X.calm = true) : CallR X (.type "list") rListI := by
  intro pins s σ H xs us Q I r h
  obtain ⟨p, d, kvs, rfl, hp, hd, q⟩ := h
  obtain rfl := Vals.ref1 r
  have view : s.heap.IsItemsView p d := (show ObjOk X.prog X.w H s.heap p (DX.itemsO p d) from I.hok p _ hp).1
  obtain ⟨z, hs, vs, rk, hD⟩ := dk_rd I.hok hd
  obtain ⟨ep, hat⟩ := hD.dictAt
  have hl : kvs.length = vs.length := Paired.length rk
  refine PySem.W.kdx_call (knd := mixKind X.prog X.w) (I.ok.hd hc) view hat (by rw [← hl]; exact z) fun h' tk acc c as hk hlst hlen hG hacc => ?_
  have nd : as.Nodup := List.Pairwise.imp (fun h => Nat.ne_of_lt h) hG.rise
  have hz : (as.map V.ref).length ≤ sizeLine := by rw [List.length_map, hlen, ← hl]; exact z
  have rv : Vals (as.map V.ref) acc.toList := by
    rw [hacc]
    clear hlst hlen hG hacc nd hz
    induction as with
    | nil => exact .nil
    | cons a r ih => exact .cons rfl ih
  have I1 : Inv X pins σ (upd H s.heap.objs.size (.lst (as.map V.ref))) { s with heap := h', toks := tk } := I.laid hk (Nat.le_refl _) (show ObjOk X.prog X.w _ _ _ (.lst _) from ⟨hz, acc.toList, c, rv, by rw [Array.toArray_toList]; exact hlst⟩)
  have fr : ∀ a ∈ as, H a = none ∧ a ≠ s.heap.objs.size := fun a ha => by
    have h1 := hG.above a ha
    exact ⟨I.hok.fresh (Nat.le_of_lt h1), Nat.ne_of_gt h1⟩
  obtain ⟨H2, I2, g, tu⟩ := DX.takeT (P := fun a ws => ∀ j, as[j]? = some a → ∃ k v, kvs[j]? = some (k, v) ∧ ws = [kV k, v]) I as _ I1 nd fun a ha => by
    obtain ⟨j, hj⟩ := List.mem_iff_getElem?.mp ha
    obtain ⟨key, k, x, e1, e2, e3⟩ := hG.pairs j a hj
    obtain ⟨y, hy, r1⟩ := DX.pget rk e1
    obtain ⟨k', v⟩ := y
    obtain ⟨rfl, r2⟩ := r1
    refine ⟨Nat.le_of_lt (hG.above a ha), by rw [upd_ne (fr a ha).2]; exact (fr a ha).1, [kV k', v], fun i hi => ?_, fun H2 => ?_⟩
    · have e := (List.getElem?_inj (List.getElem?_eq_some_iff.mp hi).1 nd).mp (hi.trans hj.symm)
      subst e
      exact ⟨k', v, hy, rfl⟩
    · exact ⟨by show 2 ≤ sizeLine; rw [sizeLine_eq]; omega, [key, x], .cons (keyIs_rel e2) (.cons r2 .nil), ⟨_, e3, rfl, 0, rfl⟩⟩
  refine ⟨.ref s.heap.objs.size, H2, I2, rfl, q H2 _ as (fun b o e => g b o ?_) (g _ _ upd_same) (I.hok.fresh (Nat.le_refl _)) (by rw [hlen, hl]) fun j t hj => ?_⟩
  · rw [upd_ne (ne_of_none e (I.hok.fresh (Nat.le_refl _)))]; exact e
  · obtain ⟨f1, f2⟩ := fr t (List.mem_of_getElem? hj)
    obtain ⟨ws, h1, h2⟩ := tu t (List.mem_of_getElem? hj)
    obtain ⟨k, v, h3, rfl⟩ := h1 j hj
    exact ⟨f1, f2, k, v, h3, h2⟩
end L2
namespace Sw
open PySem PySem.Spec L2
end Sw

set_option Elab.async false
set_option linter.all false
set_option maxRecDepth 100000
set_option maxHeartbeats 4000000
namespace Sw
open PySem PySem.Spec L2
end Sw
namespace Sw
open PySem PySem.Spec L2
end Sw

set_option Elab.async false
set_option linter.all false
set_option maxRecDepth 100000
set_option maxHeartbeats 4000000
namespace Sw
open PySem PySem.Spec L2
end Sw

set_option Elab.async false
set_option linter.all false
set_option maxRecDepth 100000
set_option maxHeartbeats 4000000
namespace Sw
open PySem PySem.Spec L2
end Sw

set_option Elab.async false
set_option linter.all false
set_option maxRecDepth 100000
namespace Sw
open PySem PySem.Spec L2
end Sw

set_option Elab.async false
set_option linter.all false
set_option maxRecDepth 100000
namespace Sw
open PySem PySem.Spec L2
end Sw

set_option Elab.async false
set_option linter.all false
set_option maxRecDepth 100000
set_option maxHeartbeats 4000000
namespace Sw
open PySem PySem.Spec L2
end Sw

set_option Elab.async false
set_option linter.all false
set_option maxRecDepth 100000
set_option maxHeartbeats 4000000
namespace Sw
open PySem PySem.Spec L2 PySem.Calls PyProof.Rows
end Sw

set_option Elab.async false
set_option linter.all false
set_option maxRecDepth 100000
set_option maxHeartbeats 4000000
namespace Sw
open PySem PySem.Spec L2 PySem.Calls PyProof.Rows
end Sw

set_option Elab.async false
set_option linter.all false
set_option maxRecDepth 100000
set_option maxHeartbeats 4000000
namespace Sw
open PySem PySem.Spec L2 PySem.Calls PyProof.Rows
end Sw

set_option Elab.async false
set_option linter.all false
set_option maxRecDepth 100000
set_option maxHeartbeats 4000000
namespace Sw
open PySem PySem.Spec L2 PySem.Calls PyProof.Rows
end Sw

set_option Elab.async false
set_option linter.all false
set_option maxRecDepth 100000
set_option maxHeartbeats 4000000
namespace Sw
open PySem PySem.Spec L2
end Sw

set_option Elab.async false
set_option linter.all false
set_option maxRecDepth 100000
set_option maxHeartbeats 4000000
namespace Sw
open PySem PySem.Spec L2
section
variable {X : Cz} {K : FgX}
def rGtD (K : FgK) : R2 := fun x y H Q => ∃ d e, Dp K H x d ∧ Dp K H y e ∧ cmpOk d e = true ∧ Q (.bl (W.dataLt e d)) H
theorem op_gtD (hu : X.A.units + 64 < cLine) : OpR X (compareOp .Gt) (rGtD X.fr) := by
  intro pins s σ H x y v u Q I rx ry h
  obtain ⟨d, e, hd, he, hc, q⟩ := h
  obtain ⟨h1, h2, h3, h4⟩ := cmpOk_spec hc
  obtain ⟨as, r1⟩ := Dp.reads I d x v hd rx
  obtain ⟨bs, r2⟩ := Dp.reads I e y u he ry
  have := okD_depth h1
  have := Nat.min_le_left d.depth e.depth
  exact W.gt_data r1 r2 h3 h4 (by omega) ⟨.bl _, H, I, rfl, q⟩
def gGtD (a b : D) : Option D := if cmpOk a b = true then some (.bool (W.dataLt b a)) else none
theorem l_gtD : LO2 K (rGtD K) gGtD := fun C σ H F env x y dx dy d Q R a b e k => by
  unfold gGtD at e
  split at e
  · rename_i h
    obtain ⟨h1, h2, _⟩ := cmpOk_spec h
    cases e
    exact ⟨dx, dy, a.dp R.frz (okD_plain h1), b.dp R.frz (okD_plain h2), h, k _ H F (Stp.refl R) (by simp [At])⟩
  · cases e
def gLtD (a b : D) : Option D := if cmpOk a b = true then some (.bool (W.dataLt a b)) else none
theorem l_ltD : LO2 K (rLtD K) gLtD := fun C σ H F env x y dx dy d Q R a b e k => by
  unfold gLtD at e
  split at e
  · rename_i h
    obtain ⟨h1, h2, _⟩ := cmpOk_spec h
    cases e
    exact ⟨dx, dy, a.dp R.frz (okD_plain h1), b.dp R.frz (okD_plain h2), h, k _ H F (Stp.refl R) (by simp [At])⟩
  · cases e
end
end Sw

set_option Elab.async false
set_option linter.all false
set_option maxRecDepth 100000
set_option maxHeartbeats 2000000
/-! ### a refusal that leaves a comprehension -/
namespace PySem
namespace PXN
open HandSPX
section
variable {M : Model} {A : Around} {E : Value → Shared → Prop} {s : Shared} {Z : Obj → Prop} {base : Heap} {env : Env} {outer l : List Env} {L e : Addr}
/-- noted by the frame, whatever its flight says -/
theorem looks_anyZ {fl : Value} {Q : Unit → Shared → Prop} (hZ : Steady1 Z) (hfr : A.frames = some (env :: outer)) (hf : env.frame = some L) (stay : base.StaysIn s.heap) (out : base.get? e = none) (ff : s.heap.FunFrames base (env :: outer)) (ht : TracedZ s.heap base e Z fl)
    (hQ : ∀ h' fl', base.StaysIn h' → h'.FunFrames base (env :: outer) → TracedZ h' base e Z fl' → s.heap.UpToSlots h' → Q () { s with heap := h' }) : wpAny M A (noteFrame (.ref e) env) Q E s := by
  by_cases here : (fl == rawInt L) = true
  · have q : fl = rawInt L := by simpa using here
    subst q
    exact againZ hf ht (hQ s.heap _ stay ff ht (Heap.UpToSlots.refl _))
  obtain ⟨oe, vs, T, oT, ts, ge, ze, de, v1, outT, ne, gT, dT, t3⟩ := ht
  have size3 : 3 < ts.size := (Array.getElem?_eq_some_iff.mp t3).1
  have off : ∀ b, b ≠ T → (s.heap.update T (Obj.mapFields (·.setIfInBounds 3 Value.none))).get? b = s.heap.get? b := fun b nb => Heap.get?_update_other _ _ fun z => nb z.symm
  have plain : ∀ b o, s.heap.get? b = some o → (∀ vs, o.data ≠ .fields vs) → b ≠ T := by
    intro b o hb hnf z
    subst z
    rw [gT] at hb
    cases hb
    exact hnf ts dT
  have low : ∀ b o, base.get? b = some o → b ≠ T := fun b o hb z => by
    subst z
    rw [outT] at hb
    cases hb
  unfold noteFrame
  simp only [hf]
  refine wpAny_bind (wpAny_field ge de v1 ?_)
  have t : (Value.ref T != Value.none) = true := by simp
  rw [if_pos t]
  refine wpAny_bind (wpAny_field gT dT t3 ?_)
  rw [if_neg here]
  refine wpAny_bind (wpAny_setField gT dT size3 ?_)
  refine wpAny_entryZ hZ hfr (ff.of_keeps fun b o hb hnf => ⟨o, (off b (plain b o hb hnf)).trans hb, rfl⟩) hf ((off e ne.symm).trans ge) (fun b o hb => (off b (low b o hb)).trans (stay b o hb)) out de (Array.getElem?_eq_some_iff.mp v1).1 ze ?_
  rintro h' ⟨k1, k2, k3, k4⟩
  exact hQ h' _ k1 k2 k3 fun b o hb hnf => k4 b o ((off b (plain b o hb hnf)).trans hb) hnf
end
end PXN
end PySem

namespace L2
open PySem PySem.Spec PyProof.Rows
/-- the block's context, with what is wished of refusals -/
abbrev Cx.blkx (X : Cx) (s : Shared) (H : Hp) (scope : Scope) (cenv : Env) (fp : List Addr) (xe : Value → Shared → Prop) : Cx := { X.blk s H scope cenv fp with xe := xe }
section
variable {X : Cx} {pins : List (Addr × Obj)} {σ : St} {H : Hp} {s : Shared}
theorem Cx.Ok.blkx {s0 : Shared} {H0 : Hp} {scope : Scope} {ce : Env} {fp : List Addr} (ok : (X.blk s0 H0 scope ce fp).Ok) (xe : Value → Shared → Prop) : (X.blkx s0 H0 scope ce fp xe).Ok :=
  ⟨ok.mod, ok.kind, ok.glob, ok.blt, ok.above, ok.inj, ok.has, ok.cab, ok.hd, ok.frames, ok.stk, ok.exf, ok.bs, ok.bsz, ok.noex, ok.exfs, ok.funs, ok.frf⟩
theorem Cx.Ok.unblkx {s0 : Shared} {H0 : Hp} {scope : Scope} {ce : Env} {fp : List Addr} {xe : Value → Shared → Prop} (ok : (X.blkx s0 H0 scope ce fp xe).Ok) : (X.blk s0 H0 scope ce fp).Ok :=
  ⟨ok.mod, ok.kind, ok.glob, ok.blt, ok.above, ok.inj, ok.has, ok.cab, ok.hd, ok.frames, ok.stk, ok.exf, ok.bs, ok.bsz, ok.noex, ok.exfs, ok.funs, ok.frf⟩
theorem Inv.blkx {s0 : Shared} {H0 : Hp} {scope : Scope} {ce : Env} {fp : List Addr} (I : Inv (X.blk s0 H0 scope ce fp) pins σ H s) (xe : Value → Shared → Prop) : Inv (X.blkx s0 H0 scope ce fp xe) pins σ H s :=
  ⟨I.ok.blkx xe, I.os, I.bare, I.base, I.loc, I.cell, I.free, I.freeC, I.pin, I.hok, I.len⟩
theorem Inv.unblkx {s0 : Shared} {H0 : Hp} {scope : Scope} {ce : Env} {fp : List Addr} {xe : Value → Shared → Prop} (I : Inv (X.blkx s0 H0 scope ce fp xe) pins σ H s) : Inv (X.blk s0 H0 scope ce fp) pins σ H s :=
  ⟨I.ok.unblkx, I.os, I.bare, I.base, I.loc, I.cell, I.free, I.freeC, I.pin, I.hok, I.len⟩
/-- a refusal in the block is taken by whoever takes it in the def -/
theorem blk_takes {W : WX} {scope : Scope} {cl : List (Str × Addr)} {fp : List Addr} {H3 : Hp} {s3 : Shared} {use : Option (Value → Sem Unit)} {Qf : Value → Shared → Prop} {D : Value}
    (tk : L2N.Takes X W) (hW : ∀ cls d σ σ' H, W cls d σ H → W cls d σ' H) (hst : X.stack = X.env :: X.outer) (hfr : X.env.frame = some X.env.locals) (I3 : Inv X pins σ H3 s3)
    (f3 : ∀ b ∈ fp, FpOk X pins H3 b) :
    L2N.Takes (X.blkx s3 H3 scope (compEnvC scope cl s3.heap.objs.size X.env) fp (notedBy (model X.prog X.w) X.A (compEnvC scope cl s3.heap.objs.size X.env) fun e s' => compEnds (model X.prog X.w) X.A X.xe use Qf D (compEnvC scope cl s3.heap.objs.size X.env) (.error e) s')) W := by
  rintro u s' ⟨a, B, sI, pins', σ', H', cls, d, rfl, I6, nb, up, sky, na, os, ag, w⟩
  generalize hC : s3.heap.objs.size = C at I6 nb up sky ⊢
  have hA : X.A.frames = some (X.env :: X.outer) := by rw [I3.ok.frames, hst]
  have nC3 : s3.heap.get? C = none := by
    rw [← hC]
    exact Heap.get?_none_of_le (Nat.le_refl _)
  have nCf : C ∉ frs X.stack := fun hb => by
    have hb' : C ∈ X.env.locals :: X.fs := I3.stkSub C hb
    rcases List.mem_cons.mp hb' with z | z
    · have := I3.lt
      rw [← z, ← hC] at this
      exact absurd this (Nat.lt_irrefl _)
    · exact I3.nofs (Nat.le_of_eq hC) z
  obtain ⟨m, hn, _⟩ := I6.loc
  have hn : sI.heap.Ns C m := hn
  have hnB : B.Ns C m := by
    obtain ⟨o, es, ep, ho, r⟩ := hn
    exact ⟨o, es, ep, nb C o ho nCf, r⟩
  have hBC : B.get? C ≠ none := by
    obtain ⟨o, es, ep, ho, r⟩ := hnB
    rw [ho]; exact fun z => nomatch z
  -- what is noted
  have go : ∀ h1 fl', B.StaysIn h1 → B.get? a = none → h1.FunFrames B X.stack → HandSPX.TracedZ h1 B a (L2N.Zn cls d) fl' → s'.heap.UpToSlots h1 → compEnds (model X.prog X.w) X.A X.xe use Qf D (compEnvC scope cl C X.env) (.error (.ref a)) { s' with heap := h1 } := fun h1 fl' st nBa ff tr up1 => by
    have goal : CompFails (model X.prog X.w) X.A X.xe (compEnvC scope cl C X.env) (.ref a) { s' with heap := h1 } := by
      refine ⟨m, ?_, fun h2 _ _ sb => ?_⟩
      · obtain ⟨o, es, ep, ho, r⟩ := hnB
        exact ⟨o, es, ep, st C o ho, r⟩
      obtain ⟨B2, b1, b2⟩ := restrict B fun b => decide (b ≠ C)
      obtain ⟨G, g1, g2⟩ := restrict sI.heap fun b => decide (b ≠ C)
      have bO : ∀ b o, B2.get? b = some o → B.get? b = some o ∧ b ≠ C := fun b o e => by
        by_cases q : b = C
        · rw [b2 b (by simp [q])] at e; cases e
        · rw [b1 b (by simp [q])] at e; exact ⟨e, q⟩
      have bN : ∀ b, B.get? b = none → B2.get? b = none := fun b e => by
        cases q : B2.get? b with
        | none => rfl
        | some o =>
          have := (bO b o q).1
          rw [e] at this; cases this
      have gO : ∀ b o, G.get? b = some o → sI.heap.get? b = some o ∧ b ≠ C := fun b o e => by
        by_cases q : b = C
        · rw [g2 b (by simp [q])] at e; cases e
        · rw [g1 b (by simp [q])] at e; exact ⟨e, q⟩
      have aC : a ≠ C := fun z => hBC (z ▸ nBa)
      have st2 : B2.StaysIn h2 := fun b o e => by
        obtain ⟨e1, q⟩ := bO b o e
        exact (sb.2 b q).trans (st b o e1)
      have ff2 : h2.FunFrames B2 X.stack := by
        have key : ∀ {l : List Env}, (∀ b ∈ frs l, b ≠ C) → h1.FunFrames B l → h2.FunFrames B2 l := by
          intro l
          induction l with
          | nil => exact fun _ _ => trivial
          | cons e l ih =>
            rintro hne ⟨hk, ⟨L, o, hf, hb, ho, hd⟩, hr⟩
            have hL : L ≠ C := hne L (List.mem_filterMap.mpr ⟨e, List.mem_cons_self, hf⟩)
            refine ⟨hk, ⟨L, o, hf, bN L hb, (sb.2 L hL).trans ho, hd⟩, ih (fun b hb => hne b ?_) hr⟩
            obtain ⟨e', he, q⟩ := List.mem_filterMap.mp hb
            exact List.mem_filterMap.mpr ⟨e', List.mem_cons_of_mem _ he, q⟩
        exact key (fun b hb z => nCf (z ▸ hb)) ff
      have tr2 : HandSPX.TracedZ h2 B2 a (L2N.Zn cls d) fl' := by
        obtain ⟨oe, vs, T, oT, ts, he, hz, hd, q1, hnT, hTe, hT, hdT, q3⟩ := tr
        have TC : T ≠ C := fun z => hBC (z ▸ hnT)
        exact ⟨oe, vs, T, oT, ts, (sb.2 a aC).trans he, hz, hd, q1, bN T hnT, hTe, (sb.2 T TC).trans hT, hdT, q3⟩
      have tr3 := tr2
      obtain ⟨oe, vs, T, oT, ts, he, hz, hd, q1, hnT, hTe, hT, hdT, q3⟩ := tr2
      unfold PySem.passOn
      refine wpAny_bind (wpAny_field (s := { s' with heap := h2 }) he hd q1 ?_)
      have noNone : ¬ ((Value.ref T == Value.none) = true) := by simp
      rw [if_neg noNone]
      rw [show (compEnvC scope cl C X.env).frame = some X.env.locals from hfr]
      refine wpAny_bind (HandSPX.setFlight_anyZ (s := { s' with heap := h2 }) (l := X.stack) st2 ff2 tr3 fun h4 k1 k2 k3 k4 => ?_)
      refine wpAny_throw ?_
      -- back in the def's context
      have I7 : Inv X pins σ H' sI := I3.call' (ch := fp) I6.os I6.base I6.hok I6.bare fun b hb => ⟨(f3 b hb).2.2.2.1, (f3 b hb).2.1, (f3 b hb).2.2.2.2.1, (f3 b hb).2.2.2.2.2⟩
      have nC : H' C = none := I6.free
      obtain ⟨z0, z1, z2, z3, z4, z5⟩ := I3.fpOk (b := C) (Nat.le_of_eq hC) nC
      have I8 : Inv X pins σ H' { sI with heap := G } := I7.turned (t' := sI.toks) (fun b o hb e => (g1 b (by simp [hb])).trans e) z0 z1 z3 z4 z5
      refine tk _ _ ⟨a, B2, { sI with heap := G }, pins, σ, H', cls, d, rfl, I8, fun b o e hb => ?_, fun b o e hnf => ?_, .inr (.inr ⟨k1, bN a nBa, k2, k3⟩), na, os, ag, hW _ _ _ _ _ w⟩
      · obtain ⟨e1, q⟩ := gO b o e
        rw [b1 b (by simp [q])]
        exact nb b o e1 hb
      · obtain ⟨e1, q⟩ := gO b o e
        obtain ⟨sl, e2⟩ := up b o e1 hnf
        obtain ⟨sl2, e3⟩ := up1 b _ e2 hnf
        obtain ⟨sl3, e4⟩ := k4 b _ ((sb.2 b q).trans e3) hnf
        exact ⟨sl3, e4⟩
    cases use <;> exact goal
  have nBa : B.get? a = none := by
    rcases sky with x | x | x
    · exact x.2.1
    · exact x.2.1
    · exact x.2.1
  have sky' : Sky B (X.env :: X.outer) a (L2N.Zn cls d) C s'.heap := by
    rw [← hst]; exact sky
  show wpAny (model X.prog X.w) X.A (noteFrame (.ref a) X.env) (fun _ s'' => compEnds (model X.prog X.w) X.A X.xe use Qf D (compEnvC scope cl C X.env) (.error (.ref a)) s'') _ s'
  rcases sky' with ⟨hB, hn, hl, oe, vs, he, hz, hd, h1⟩ | fl | hh
  · exact PXN.look_newZ L2N.Zn.steady hA hl hfr he hB hn hd h1 hz fun h' hh up' => go h' _ hh.1 nBa (by rw [hst]; exact hh.2.2.1) hh.2.2.2 up'
  · exact PXN.looks_anyZ L2N.Zn.steady hA hfr fl.1 fl.2.1 fl.2.2.1 fl.2.2.2 fun h' fl' k1 k2 k3 k4 => go h' fl' k1 nBa (by rw [hst]; exact k2) k3 k4
  · exact PXN.looks_anyZ L2N.Zn.steady hA hfr hh.1 hh.2.1 hh.2.2.1 hh.2.2.2 fun h' fl' k1 k2 k3 k4 => go h' fl' k1 nBa (by rw [hst]; exact k2) k3 k4
/-- the turns of a list's block; its element alone may refuse -/
theorem blk_turns {elt tg iter : Expr} {ifs : List Expr} {scope : Scope} {pos : Pos} {g : TG} {tt : TT} {te : TE} {ce : Env} {foot : List Addr} {Hs : Hp} {ss sg : Shared} {vs : List Nat} {itr D : Addr} {pl : Nat → Heap → Prop} {J : It} {W : Nat → Nat → Hp → Prop} {mz : Nat}
    {R : Result → Shared → Prop} {Done : Hp → Prop} (calm : X.calm = true) (T : Turn X.prog X.w X.K tg J foot itr pl)
    (pg : PG (X.blk ss Hs scope ce foot) tg g) (pt : PTs (X.blk ss Hs scope ce foot) ifs tt)
    (pe : PE (X.blkx ss Hs scope ce foot (notedBy (model X.prog X.w) X.A ce fun e s' => R (.error e) s')) elt te)
    (start : Inv (X.blk ss Hs scope ce foot) [] (wipe σ vs) Hs sg) (first : pl 0 sg.heap) (bare : ∀ b ∈ foot, Hs b = none) (wz : W 0 mz Hs)
    (turn : ∀ i m H, W i m H → (J.stop i H ∧ Done H) ∨ (J.go i H ∧ ∃ Nx : Hp → Prop, (∀ H', Nx H' → ∃ m', m' < m ∧ W (i + 1) m' H') ∧ ∀ x H', J.yld i H x H' → g x (wipe σ vs) H' fun σ2 H2 => wipe σ2 vs = wipe σ vs ∧ tt σ2 H2 fun ok H3 =>
      if ok = true then te σ2 H3 fun y H4 => ∃ acc, H4 D = some (.lst acc) ∧ acc.length < sizeLine ∧ Nx (upd H4 D (.lst (acc ++ [y]))) else Nx H3))
    (fin : ∀ s' H', Inv (X.blk ss Hs scope ce foot) [] (wipe σ vs) H' s' → Done H' → R (.ok .next) s') :
    codeAny (model X.prog X.w) X.A (.compLoop (.ListComp elt [⟨tg, iter, ifs, 0⟩] scope pos) 0 (.ref itr) (.ref D) ce) R sg := by
  have foots : ∀ {τ : St} {Hn : Hp} {sn : Shared}, Inv (X.blk ss Hs scope ce foot) [] τ Hn sn → (∀ b ∈ foot, Hn b = none) → ∀ b ∈ foot, FpOk (X.blk ss Hs scope ce foot) [] Hn b := by
    intro τ Hn sn Jn hz b hb
    have e1 := Jn.ok.exf b hb
    refine ⟨hz b hb, e1.1, Jn.ok.exfs b hb, .inl hb, ?_, ?_⟩
    · intro x c hx; exact e1.2 x c hx
    · intro p hp; exact absurd (show p ∈ ([] : List (Addr × Obj)) ++ [] from hp) (by simp)
  refine compLoop_any (fun n sn => ∃ i Hn, Inv (X.blk ss Hs scope ce foot) [] (wipe σ vs) Hn sn ∧ pl i sn.heap ∧ (∀ b ∈ foot, Hn b = none) ∧ W i n Hn) ?_ mz ⟨0, Hs, start, first, bare, wz⟩
  intro n sn hyp
  obtain ⟨i, Hn, Jn, pln, zn, wn⟩ := hyp
  cases turn i n Hn wn with
  | inl h =>
    have last := T.done (X.blk ss Hs scope ce foot) rfl rfl rfl calm i [] sn _ Hn (fun _ _ => False) Jn (foots Jn zn) pln h.1
    exact thnF last fun r s6 hr => by
      obtain ⟨rfl, J6⟩ := hr
      exact fin s6 Hn J6 h.2
  | inr h =>
    obtain ⟨hgo, Nx, less, step⟩ := h
    have next := T.item (X.blk ss Hs scope ce foot) rfl rfl rfl calm i [] sn _ Hn (fun _ _ => False) Jn (foots Jn zn) pln hgo
    refine thnF next fun r s6 hr => ?_
    obtain ⟨u, rfl, h6⟩ := hr
    refine thnF h6 fun _ s7 h7 => ?_
    obtain ⟨x, Hm, Jm, ru, hy, plm, zm⟩ := h7
    -- the iterator's objects are pinned while the turn runs
    have Jp := Jm.pinned (foots Jm zm) (T.obj _ _ plm)
    refine thnF (pg.run _ s7 _ Hm x u _ Jp ru (step x Hm hy)) fun _ s8 h8 => ?_
    obtain ⟨τ, Hg, Jg, same, hq⟩ := h8
    have close : ∀ {sz : Shared} {Hz : Hp}, Inv (X.blk ss Hs scope ce foot) ([] ++ pinsAt foot s7.heap) τ Hz sz → Nx Hz →
        ∃ k, k < n ∧ ∃ i' H', Inv (X.blk ss Hs scope ce foot) [] (wipe σ vs) H' sz ∧ pl i' sz.heap ∧ (∀ b ∈ foot, H' b = none) ∧ W i' k H' := by
      intro sz Hz Jz nx
      obtain ⟨k, hk, wk⟩ := less Hz nx
      have pinned : ∀ b ∈ foot, ∀ o, s7.heap.get? b = some o → sz.heap.get? b = some o ∧ Hz b = none := by
        intro b hb o ho
        have z := Jz.pin (b, o) (List.mem_append_right _ (List.mem_append_right _ (mem_pinsAt hb ho)))
        exact ⟨z.1, z.2.1⟩
      have len : (wipe σ vs).length = τ.length := by rw [← same, wipe_length]
      have weak := (Jz.unpinned (pins := [])).weak len (fun j v hj => by
        rw [← same] at hj
        exact (wipe_some hj).1)
      refine ⟨k, hk, i + 1, Hz, weak, T.keep _ _ _ plm (fun b hb o ho => (pinned b hb o ho).1), ?_, wk⟩
      intro b hb
      obtain ⟨o, ho, _⟩ := T.obj _ _ plm b hb
      exact (pinned b hb o ho).2
    refine thnF (pt.run _ s8 τ Hg _ Jg hq) fun ok s9 h9 => ?_
    obtain ⟨Ht, Jt, qt⟩ := h9
    cases ok with
    | false =>
      rw [if_neg (by decide)] at qt ⊢
      exact close Jt qt
    | true =>
      rw [if_pos rfl] at qt ⊢
      refine wpAny_mono (pe.run _ s9 τ Ht _ (Jt.blkx _) qt) (fun z s10 hz => ?_) fun _ _ h' => h'
      obtain ⟨y, He, Je, ry, acc, hacc, small, nx⟩ := hz
      refine thnF (E := notedBy (model X.prog X.w) X.A ce fun e s' => R (.error e) s') ?_ fun _ _ h' => h'
      exact app_ok (X := X.blk ss Hs scope ce foot) Je.unblkx hacc small ry fun s11 J11 => close J11 nx
theorem lc_coreX {W0 : WX} {s : Shared} {H : Hp} {Q : VK} {elt tg iter : Expr} {ifs : List Expr} {scope : Scope} {own : List (Str × Nat)} {pos pos' : Pos} {wi : TI} {g : TG} {tt : TT} {te : TE} {use : Option (Value → Sem Unit)} {Qf : Value → Shared → Prop}
    (calm : X.calm = true) (nd : X.N.Nodup) (I : Inv X pins σ H s) (hi : PI X tg iter wi) (ok : BlkOk X.N X.env.scope scope own)
    (hg : ∀ s H C cl fp, PG (X.blk s H scope (compEnvC scope cl C X.env) fp) tg g) (ht : ∀ s H C cl fp, PTs (X.blk s H scope (compEnvC scope cl C X.env) fp) ifs tt)
    (he : ∀ s H C cl fp xe, L2N.Takes (X.blkx s H scope (compEnvC scope cl C X.env) fp xe) W0 → PE (X.blkx s H scope (compEnvC scope cl C X.env) fp xe) elt te)
    (tk : L2N.Takes X W0) (hW : ∀ cls d σ σ' H, W0 cls d σ H → W0 cls d σ' H) (hst : X.stack = X.env :: X.outer) (hfr : X.env.frame = some X.env.locals)
    (hs : ∀ x, foldedSetIterable iter X.env x = pure x) (h : tLc wi g tt te (own.map (·.2)) σ H Q)
    (out : ∀ D cl C sn m Hn, Inv X pins σ Hn sn → Q (.ref D) Hn → sn.heap.Ns C m → FpOk X pins Hn C → compEnds (model X.prog X.w) X.A X.xe use Qf (.ref D) (compEnvC scope cl C X.env) (.ok .next) sn) :
    wpAny (model X.prog X.w) X.A (comprehension (.ListComp elt [⟨tg, iter, ifs, 0⟩] scope pos) scope X.env pos' (newList []) false (eval iter X.env) use) Qf X.xe s := by
  have caught : ∀ y ∈ scope.names, y.2 = .free → ∃ c, X.env.cells.lookup y.1 = some c := by
    intro y hy e
    exact (ok.free y hy e).elim (fun k => I.ok.has _ (.inl k)) fun k => I.ok.has _ (.inr k)
  refine comprehension_at (use := use) rfl hs (closure_ok caught) ok.kind (fun y hy e => by rw [ok.uniq y hy, e]) ?_
  refine thn (hi.run pins s σ H _ I h) fun xv s1 hx => thn hx fun itv s2 h2 => ?_
  obtain ⟨itr, foot, pl, J, H2, rfl, I2, T, pl2, f2, q⟩ := h2
  refine wpAny_newObj_type (newEnv_comp ?_) (by show 0 ≤ sizeLine; decide)
  -- the new list's place
  generalize eD : s2.heap.objs.size = D
  obtain ⟨W, ⟨mz, wz⟩, turn⟩ := q D (I2.hok.fresh (Nat.le_of_eq eD))
  generalize es3 : ({ s2 with heap := s2.heap.push { cls := .type "list", data := .seq ([] : List Value).toArray } } : Shared) = s3
  have hp3 : s3.heap = s2.heap.push { cls := .type "list", data := .seq ([] : List Value).toArray } := by rw [← es3]
  have more : ∀ b o, s2.heap.get? b = some o → s3.heap.get? b = some o := fun b o e => by
    rw [hp3]; exact Heap.get?_push_of_some _ e
  have I3 : Inv X pins σ (upd H2 D (.lst [])) s3 := by
    subst es3
    refine I2.laid (t' := s2.toks) more (Nat.le_of_eq eD) ⟨Nat.zero_le _, [], 0, .nil, ?_⟩
    subst eD
    exact Heap.get?_push_size _ rfl
  have f3 : ∀ b ∈ foot, FpOk X pins (upd H2 D (.lst [])) b ∧ b < s3.heap.objs.size := by
    intro b hb
    obtain ⟨o, ho, _⟩ := T.obj _ _ pl2 b hb
    have lt2 : b < s2.heap.objs.size := Heap.lt_size ho
    have ne : b ≠ D := by rw [← eD]; exact Nat.ne_of_lt lt2
    exact ⟨⟨(upd_ne ne).trans (f2 b hb).1, (f2 b hb).2⟩, Heap.lt_size (more b o ho)⟩
  generalize eC : s3.heap.objs.size = C
  generalize eH : upd H2 D (.lst []) = Hs at I3 f3 wz
  generalize ecl : cellsFrom (C + 1) scope.names (cloFrom X.env.cells scope.names []) = cl
  have start := block_start I3 ok nd f3
  rw [eC, ecl] at start
  have pe := he s3 Hs C cl foot _ (by
    have z := blk_takes (use := use) (Qf := Qf) (D := .ref D) (scope := scope) (cl := cl) (fp := foot) tk hW hst hfr I3 fun b hb => (f3 b hb).1
    rw [eC] at z
    exact z)
  show codeAny (model X.prog X.w) X.A (.compStart (.ListComp elt [⟨tg, iter, ifs, 0⟩] scope pos) 0 (.ref itr) (.ref D) (compEnvC scope cl C X.env)) (compEnds (model X.prog X.w) X.A X.xe use Qf (.ref D) (compEnvC scope cl C X.env)) { s3 with heap := pushCells (s3.heap.push { cls := .type "dict", data := .dict #[] }) scope.names }
  have pl4 : pl 0 (pushCells (s3.heap.push { cls := .type "dict", data := .dict #[] }) scope.names) :=
    T.keep _ _ _ pl2 fun b _ o e => pushCells_keeps _ _ _ _ (Heap.get?_push_of_some _ (more b o e))
  generalize es4 : ({ s3 with heap := pushCells (s3.heap.push { cls := .type "dict", data := .dict #[] }) scope.names } : Shared) = s4 at start ⊢
  have pl4 : pl 0 s4.heap := by rw [← es4]; exact pl4
  have loop := blk_turns (elt := elt) (iter := iter) (pos := pos) (D := D) (R := compEnds (model X.prog X.w) X.A X.xe use Qf (.ref D) (compEnvC scope cl C X.env)) (Done := Q (.ref D)) (mz := mz) (J := J) (W := W) calm T (hg s3 Hs C cl foot) (ht s3 Hs C cl foot) pe start pl4 (fun b hb => (f3 b hb).1.1) wz turn (fun s6 Hn J6 qq => by
    have back : Inv X pins σ Hn s6 := I3.call' (ch := foot) J6.os J6.base J6.hok J6.bare fun b hb => by
      obtain ⟨_, z1, z2, z3, z4, z5⟩ := (f3 b hb).1
      exact ⟨z3, z1, z4, z5⟩
    obtain ⟨m, hn, _⟩ := J6.loc
    exact out D cl C s6 m Hn back qq hn (I3.fpOk (Nat.le_of_eq eC) J6.free))
  exact codeAny_compStart_list loop (T.self X.A 0 _ _ _ pl4 loop)
theorem pe_lcX {W0 : WX} {elt tg iter : Expr} {ifs : List Expr} {scope : Scope} {own : List (Str × Nat)} {pos : Pos} {wi : TI} {g : TG} {tt : TT} {te : TE} (calm : X.calm = true) (nd : X.N.Nodup) (hi : PI X tg iter wi) (ok : BlkOk X.N X.env.scope scope own)
    (hg : ∀ s H C cl fp, PG (X.blk s H scope (compEnvC scope cl C X.env) fp) tg g) (ht : ∀ s H C cl fp, PTs (X.blk s H scope (compEnvC scope cl C X.env) fp) ifs tt)
    (he : ∀ s H C cl fp xe, L2N.Takes (X.blkx s H scope (compEnvC scope cl C X.env) fp xe) W0 → PE (X.blkx s H scope (compEnvC scope cl C X.env) fp xe) elt te)
    (tk : L2N.Takes X W0) (hW : ∀ cls d σ σ' H, W0 cls d σ H → W0 cls d σ' H) (hst : X.stack = X.env :: X.outer) (hfr : X.env.frame = some X.env.locals) (hs : ∀ x, foldedSetIterable iter X.env x = pure x) :
    PE X (.ListComp elt [⟨tg, iter, ifs, 0⟩] scope pos) (tLc wi g tt te (own.map (·.2))) := by
  constructor
  intro pins s σ H Q I h
  rw [eval_ListComp]
  refine lc_coreX calm nd I hi ok hg ht he tk hW hst hfr hs h fun D _ C sn m Hn J q hn f => ?_
  obtain ⟨z0, z1, z2, z3, z4, z5⟩ := f
  exact ⟨m, hn, fun h2 sb => ⟨.ref D, Hn, J.turned (t' := sn.toks) (fun b o hb e => (sb.2 b hb).trans e) z0 z1 z3 z4 z5, rfl, q⟩⟩
theorem ps_setLcX {W0 : WX} {i : Nat} {y : Str} {py : Pos} {elt tg iter : Expr} {ifs : List Expr} {scope : Scope} {own : List (Str × Nat)} {pos spos : Pos} {wi : TI} {g : TG} {tt : TT} {te : TE} (calm : X.calm = true) (nd : X.N.Nodup) (hy : X.N[i]? = some y) (hyl : X.env.scope.names.lookup y = some .local)
    (hsw : swapsWith (.ListComp elt [⟨tg, iter, ifs, 0⟩] scope pos) (some (.Name y py)) spos.line X.env = pure true) (hi : PI X tg iter wi) (ok : BlkOk X.N X.env.scope scope own)
    (hg : ∀ s H C cl fp, PG (X.blk s H scope (compEnvC scope cl C X.env) fp) tg g) (ht : ∀ s H C cl fp, PTs (X.blk s H scope (compEnvC scope cl C X.env) fp) ifs tt)
    (he : ∀ s H C cl fp xe, L2N.Takes (X.blkx s H scope (compEnvC scope cl C X.env) fp xe) W0 → PE (X.blkx s H scope (compEnvC scope cl C X.env) fp xe) elt te)
    (tk : L2N.Takes X W0) (hW : ∀ cls d σ σ' H, W0 cls d σ H → W0 cls d σ' H) (hst : X.stack = X.env :: X.outer) (hfr : X.env.frame = some X.env.locals) (hs : ∀ x, foldedSetIterable iter X.env x = pure x) :
    PS X (.Assign [.Name y py] (.ListComp elt [⟨tg, iter, ifs, 0⟩] scope pos) spos) (tAsg (tLc wi g tt te (own.map (·.2))) (gName i)) := by
  constructor
  intro pins s σ H D I h
  rw [exec_Assign_Name_used _ _ _ _ hsw]
  refine wpAny_bind (wpAny_standAt (wpAny_bind ?_))
  have h0 : tLc wi g tt te (own.map (·.2)) σ H (fun x H1 => gName i x σ H1 D.nx) := h
  show wpAny _ X.A (do let _ ← comprehension (.ListComp elt [⟨tg, iter, ifs, 0⟩] scope pos) scope X.env (firstIterPos [⟨tg, iter, ifs, 0⟩] pos) (newList []) false (eval iter X.env) (some (assign (.Name y py) X.env)))
    _ _ s
  refine wpAny_bind (thn (lc_coreX (Qf := fun _ sn => SP X pins D .next sn) calm nd I hi ok hg ht he tk hW hst hfr hs h0 fun L _ C sn m Hn J q hn f => ?_) fun _ _ hq => wpAny_pure (wpAny_pure hq))
  show wpAny _ _ (assign (.Name y py) X.env (.ref L)) _ _ _
  refine wpAny_assign_Name (store_ok2 (v := V.ref L) J nd hy (.inl hyl) rfl (fun s2 J2 ha => ?_) (.inr hyl))
  obtain ⟨a, sb, ha⟩ := ha
  obtain ⟨z0, z1, z2, z3, z4, z5⟩ := f
  have ne : C ≠ a := ha.elim (fun z => by rw [z]; exact z1) fun z e => z4 y a z e.symm
  exact ⟨m, hn.sameBut sb ne, fun h3 sb3 => ⟨_, Hn, J2.turned (t' := s2.toks) (fun b o hb e => (sb3.2 b hb).trans e) z0 z1 z3 z4 z5, q⟩⟩
end
end L2

namespace Sw
open PySem PySem.Spec L2
end Sw

set_option Elab.async false
set_option linter.all false
set_option maxRecDepth 100000

namespace Sw
open PySem PySem.Spec L2

def sRaise1 (Ep : XP) (n f : Str) (A : PE') : PS' := fun _ env => A env fun o env1 => ∃ d, o.rd env1 = some d ∧ (atomV d).isSome = true ∧ Ep ⟨n, some (f, d)⟩ env1
def sRaiseD (Ep : XP) (n f : Str) : PS' := fun _ env => Ep ⟨n, some (f, .none)⟩ env
def sRaise0 (Ep : XP) (n : Str) : PS' := fun _ env => Ep ⟨n, none⟩ env
end Sw

set_option Elab.async false
set_option linter.all false
set_option maxRecDepth 100000
namespace Sw
open PySem PySem.Spec L2

def qCallX (Ep : XP) (sp : PSpX) (T : PA') : PE' := fun env Q => T env fun os env1 => ∃ ds env2, fzAll env1 os = some (ds, env2) ∧ sp ds (fun rv => Q (.dv rv.toD) env2) fun xv => Ep xv env2
def fCallX (Ep : XP) (sp : PSpX) (T : PA') : PF' := fun env Q => T env fun os env1 => ∃ ds env2, fzAll env1 os = some (ds, env2) ∧ sp ds (fun rv => ∃ es, rv = .fr es ∧ Q es env2) fun xv => Ep xv env2
end Sw


set_option Elab.async false
set_option linter.all false
set_option maxRecDepth 100000
namespace Sw
open PySem PySem.Spec L2

def sTry (cl : List Str) (Ep : XP) (B : XP → PS') (hs : List Cls') : PS' := fun Dp env => B (pHs cl Ep Dp hs) Dp env
theorem HOk.pl {X : Cz} {cl : List Str} {x : Str} {S' : Addr → XV → PS'} {b₀ : Stmt} {suite : List Stmt} {np pos' : Pos} {hds : List ExceptHandler} {l : List Cls'} (hg : Gl X x) (hdb : (x == ("__debug__" : Str)) = false) (hx : x ∈ cl)
      (hsu : ∀ (a : Addr) (oe : Obj) (cls : Value) (d : Option Addr) (pn : List (Addr × Obj)) (xv : XV), InS X cl cls d oe xv → EB (X.suit a oe pn d xv) (b₀ :: suite) (S' a xv)) (r : HOk X cl hds l) :
      HOk X cl (.ExceptHandler (some (.Name x np)) none (b₀ :: suite) pos' :: hds) (⟨x, none, S'⟩ :: l) := .plain hg hdb hx rfl rfl hsu r
section
variable {X : Cz} {cl fl : List Str} {a : Addr} {oe : Obj} {cls : Value} {d : Option Addr} {pn : List (Addr × Obj)} {xv : XV}
def qXf (a : Addr) (xv : XV) (i : Nat) (f : Str) : PE' := fun env Q => env[i]? = some (.raw (.ref a)) ∧ ∃ x, xv.f = some (f, x) ∧ Q (.dv x) env
def qXi (a : Addr) (xv : XV) (i : Nat) (m : Str) : PE' := fun env Q => env[i]? = some (.raw (.ref a)) ∧ Q (.dv (.bool (subX xv.c m))) env
def qXis (a : Addr) (xv : XV) (i : Nat) (ms : List Str) : PE' := fun env Q => env[i]? = some (.raw (.ref a)) ∧ Q (.dv (.bool (ms.any fun m => subX xv.c m))) env
end

end Sw

set_option Elab.async false
set_option linter.all false
set_option maxRecDepth 100000
namespace Sw
open PySem PySem.Spec L2
abbrev pE (Ep : XV → Prop) : XP := fun xv _ => Ep xv
end Sw
namespace Sw
open PySem PySem.Spec L2
theorem ex_fx {f : Str} {y : D} {P : D → Prop} : (∃ x, (some (f, y) : Option (Str × D)) = some (f, x) ∧ P x) ↔ P y := ⟨fun ⟨x, e, h⟩ => by cases e; exact h, fun h => ⟨y, rfl, h⟩⟩
theorem ex_rx {es : List D} {P : List D → Prop} : (∃ es', RV.fr es = RV.fr es' ∧ P es') ↔ P es := ⟨fun ⟨d, e, h⟩ => by cases e; exact h, fun h => ⟨es, rfl, h⟩⟩
end Sw

set_option Elab.async false
set_option linter.all false
set_option maxRecDepth 100000
namespace Sw
open PySem PySem.Spec L2

end Sw

set_option Elab.async false
set_option linter.all false
set_option maxRecDepth 100000
namespace Sw
open PySem PySem.Spec L2

end Sw

set_option Elab.async false
set_option linter.all false
set_option maxRecDepth 100000

namespace Sw
open PySem PySem.Spec L2
end Sw

set_option Elab.async false
set_option linter.all false
set_option maxRecDepth 100000

namespace Sw
open PySem PySem.Spec L2
end Sw

set_option Elab.async false
set_option linter.all false
set_option maxRecDepth 100000
set_option maxHeartbeats 4000000
namespace Sw
open PySem PySem.Spec L2
end Sw

set_option Elab.async false
set_option linter.all false
set_option maxRecDepth 100000
set_option maxHeartbeats 4000000
namespace Sw
open PySem PySem.Spec L2
end Sw

set_option Elab.async false
set_option linter.all false
set_option maxRecDepth 100000
set_option maxHeartbeats 4000000
namespace Sw
open PySem PySem.Spec L2
end Sw

set_option Elab.async false
set_option linter.all false
set_option maxRecDepth 100000
set_option maxHeartbeats 4000000
namespace Sw
open PySem PySem.Spec L2 PyProof.Rows
/-- the context of a def without a lent list -/
abbrev ofN (X : L2.Cx) : Cz := ⟨X, wNo, pNo, true, .of takes_none5, fun C => C.la = none⟩
def gO (i : Nat) (ds : List D) (G : TG') : TG' := fun d env Q => env[i]? = some (SV.own true ds) ∧ G d env Q
def endsO (i : Nat) (ds : List D) (Dp : PEnds) : PEnds :=
  { nx := fun env => env[i]? = some (SV.own true ds) ∧ Dp.nx (env.set i (SV.own false ds)),
    rt := fun rv env => env[i]? = some (SV.own true ds) ∧ Dp.rt rv (env.set i (SV.own false ds)),
    bk := fun env => env[i]? = some (SV.own true ds) ∧ Dp.bk (env.set i (SV.own false ds)),
    ct := fun env => env[i]? = some (SV.own true ds) ∧ Dp.ct (env.set i (SV.own false ds)) }
theorem forO_slot {i : Nat} {ds l : List D} {G : TG'} {B : PS'} {Dp : PEnds} {env : List SV} (h : pFor (gO i ds G) B (endsO i ds Dp) l env) : env[i]? = some (SV.own true ds) := by
  cases l with
  | nil => exact h.1
  | cons d r => exact h.1
section
variable {K : FgK} {C : Ec} {σ : L2.St} {H F : Hp} {env : List SV} {i : Nat} {ds : List D} {p : Addr} {xs : List V}
def toO (C : Ec) (p : Addr) (xs : List V) : Ec := ⟨upd C.H0 p (.lst xs), C.F0, some p⟩
theorem set_get {α : Type} {l : List α} {i j : Nat} {a b : α} (h : (l.set i a)[j]? = some b) : (i = j ∧ b = a) ∨ (i ≠ j ∧ l[j]? = some b) := by
  by_cases e : i = j
  · subst e
    have hl : i < l.length := by
      have := (List.getElem?_eq_some_iff.mp h).1
      rwa [List.length_set] at this
    rw [List.getElem?_set_self hl] at h
    exact .inl ⟨rfl, by injection h with h; exact h.symm⟩
  · rw [List.getElem?_set_ne e] at h
    exact .inr ⟨e, h⟩
theorem toO_rel (R : RelB K C σ H F env) (hla : C.la = none) (he : env[i]? = some (SV.own false ds)) (e1 : σ[i]? = some (some (.ref p))) (e2 : H p = some (.lst xs)) (e3 : F p = none) (e4 : C.H0 p = none) (ax : AtAll K F ds xs) : RelB K (toO C p xs) σ H F (env.set i (SV.own true ds)) where
  frz := R.frz
  mono := R.mono
  new := fun b o h => by
    rcases R.new b o h with z | z
    · exact .inl z
    · refine .inr ?_
      show upd C.H0 p (.lst xs) b = none
      rw [upd_ne (fun e => by rw [e, e3] at h; cases h)]
      exact z
  frame := fun b o h n => by
    have hb : b ≠ p := fun e => n (by rw [e]; rfl)
    have h : upd C.H0 p (.lst xs) b = some o := h
    rw [upd_ne hb] at h
    exact R.frame b o h (by rw [hla]; exact fun z => nomatch z)
  la := fun a h => by
    have h : some p = some a := h
    cases h
    exact ⟨⟨⟨.lst xs, trivial⟩, e2⟩, e3, _, upd_same⟩
  len := by rw [List.length_set]; exact R.len
  slot := fun j sv h => by
    rcases set_get h with ⟨rfl, rfl⟩ | ⟨hne, h⟩
    · exact ⟨p, _, e1, e2, e3, by rw [if_pos rfl]; rfl, xs, rfl, ax⟩
    · have s := R.slot j sv h
      cases sv with
      | obj l c =>
        obtain ⟨p', u, s1, s2, s3, s4, s5⟩ := s
        cases l with
        | true => rw [if_pos rfl, hla] at s4; cases s4
        | false =>
          rw [if_neg (by decide)] at s4
          refine ⟨p', u, s1, s2, s3, ?_, s5⟩
          rw [if_neg (by decide)]
          show upd C.H0 p (.lst xs) p' = none
          rw [upd_ne (fun e => hne (R.dist i j _ _ _ _ he h (by rw [e1, s1, e])))]
          exact s4
      | _ => exact s
  dist := fun j m l c l' c' hj hm e => by
    have fix : ∀ (j : Nat) (l : Bool) (c : Ct), (env.set i (SV.own true ds))[j]? = some (SV.obj l c) → ∃ l c, env[j]? = some (SV.obj l c) := fun j l c h => by
      rcases set_get h with ⟨rfl, _⟩ | ⟨_, h⟩
      · exact ⟨_, _, he⟩
      · exact ⟨_, _, h⟩
    obtain ⟨_, _, g1⟩ := fix j l c hj
    obtain ⟨_, _, g2⟩ := fix m l' c' hm
    exact R.dist j m _ _ _ _ g1 g2 e
theorem ofO_rel (R : RelB K (toO C p xs) σ H F env) (hla : C.la = none) (e4 : C.H0 p = none) (he : env[i]? = some (SV.own true ds)) : RelB K C σ H F (env.set i (SV.own false ds)) := by
  obtain ⟨p', u, e1, e2, e3, e5, c⟩ := R.slot i _ he
  rw [if_pos rfl] at e5
  have e5 : some p = some p' := e5
  cases e5
  have h0 : ∀ b, (toO C p xs).H0 b = none → C.H0 b = none := fun b h => by
    by_cases e : b = p
    · rw [e]; exact e4
    · have h : upd C.H0 p (.lst xs) b = none := h
      rwa [upd_ne e] at h
  refine ⟨R.frz, R.mono, fun b o h => (R.new b o h).imp id (h0 b), fun b o h _ => ?_, fun a h => ?_, by rw [List.length_set]; exact R.len, fun j sv h => ?_, fun j m l c l' c' hj hm e => ?_⟩
  · have hb : b ≠ p := fun e => by rw [e, e4] at h; cases h
    refine R.frame b o (show upd C.H0 p (.lst xs) b = some o by rw [upd_ne hb]; exact h) fun z => hb ?_
    have z : some p = some b := z
    cases z
    rfl
  · rw [hla] at h; cases h
  · rcases set_get h with ⟨rfl, rfl⟩ | ⟨hne, h⟩
    · exact ⟨p, u, e1, e2, e3, by rw [if_neg (by decide)]; exact e4, c⟩
    · have s := R.slot j sv h
      cases sv with
      | obj l c =>
        obtain ⟨p', u, s1, s2, s3, s4, s5⟩ := s
        cases l with
        | true =>
          rw [if_pos rfl] at s4
          have s4 : some p = some p' := s4
          cases s4
          exact absurd (R.dist i j _ _ _ _ he h (by rw [e1, s1])) hne
        | false =>
          rw [if_neg (by decide)] at s4
          exact ⟨p', u, s1, s2, s3, by rw [if_neg (by decide)]; exact h0 _ s4, s5⟩
      | _ => exact s
  · have fix : ∀ (j : Nat) (l : Bool) (c : Ct), (env.set i (SV.own false ds))[j]? = some (SV.obj l c) → ∃ l c, env[j]? = some (SV.obj l c) := fun j l c h => by
      rcases set_get h with ⟨rfl, _⟩ | ⟨_, h⟩
      · exact ⟨_, _, he⟩
      · exact ⟨_, _, h⟩
    obtain ⟨_, _, g1⟩ := fix j l c hj
    obtain ⟨_, _, g2⟩ := fix m l' c' hm
    exact R.dist j m _ _ _ _ g1 g2 e
end
def GO (K : PySem.W.Frag) (p : Addr) (n : Nat) (H : Hp) : Prop := ∃ ys, SqL K H p ys ∧ ys.length = n
end Sw

set_option Elab.async false
set_option linter.all false
set_option maxRecDepth 100000
set_option maxHeartbeats 4000000
namespace Sw
open PySem PySem.Spec L2 PyProof.Rows
section
variable {X : Cz}
def fListRg1 (A : PE') : PF' := fun env Q => A env fun o env1 => ∃ j, o.rd env1 = some (.int j) ∧ RgOk 0 j ∧ Q (rgD 0 j.toNat) env1
def fListRg2 (A B : PE') : PF' := fun env Q => A env fun o env1 => B env1 fun o2 env2 => ∃ i, o.rd env2 = some (.int i) ∧ ∃ j, o2.rd env2 = some (.int j) ∧ RgOk i j ∧ Q (rgD i (j - i).toNat) env2
def iRevL (A : PE') : PI' := fun env Q => A env fun o env1 => ∃ ds env2, o.fz env1 = some (.list ds, env2) ∧ Q ds.reverse env2
end
section
variable {K : FgX}
def gReverse : List D → List D → Option (D × List D)
  | ds, [] => some (.none, ds.reverse)
  | _, _ => none
theorem gReverse_0 {ds : List D} : gReverse ds [] = some (.none, ds.reverse) := rfl
end
section
variable {X : Cz}
def fCallR (sp : PSp) (T : PA') : PF' := fun env Q => T env fun os env1 => ∃ ds env2, fzAll env1 os = some (ds, env2) ∧ sp none ds fun rv _ => ∃ es, rv = .fr es ∧ bareL es = true ∧ Q es env1
end
end Sw

set_option Elab.async false
set_option linter.all false
set_option maxRecDepth 100000
set_option maxHeartbeats 4000000
namespace Sw
open PySem PySem.Spec L2 PyProof.Rows
section
variable {X : Cz}
def sSetAll (i : Nat) (T : PF') : PS' := fun Dp env => T env fun ds env1 => ∃ l es, env1[i]? = some (SV.own l es) ∧ es.length + ds.length ≤ sizeLine ∧ Dp.nx (env1.set i (SV.own l ds))
end
end Sw

set_option Elab.async false
set_option linter.all false
set_option maxRecDepth 100000
namespace Sw
open PySem PySem.Spec L2
section
variable {K : FgX}
def gAbs : List D → Option D
  | [.int i] => some (.int (i.natAbs : Int))
  | _ => none
theorem gAbs_1 {i : Int} : gAbs [.int i] = some (.int (i.natAbs : Int)) := rfl
end
end Sw

set_option Elab.async false
set_option linter.all false
set_option maxRecDepth 100000
set_option maxHeartbeats 4000000
namespace Sw
open PySem PySem.Spec L2
section
variable {X : L2.Cx} {a : Addr} {ns : List Int}
def qLenS (a : Addr) (ns : List Int) (i : Nat) : PE' := fun env Q => env[i]? = some (SV.raw (.ref a)) ∧ Q (.dv (.int (ns.length : Nat))) env
def qIxS (a : Addr) (ns : List Int) (i : Nat) (B : PE') : PE' := fun env Q => env[i]? = some (SV.raw (.ref a)) ∧ B env fun o env1 => ∃ j, o.rd env1 = some (.int j) ∧ 0 ≤ j ∧ j < (ns.length : Nat) ∧ Q (.dv (.int (ns.getD j.toNat 0))) env1
end
/-- what a def promises that is handed the script and data -/
abbrev PSpS := List Int → List D → (RV → Prop) → Prop
section
variable {X : L2.Cx} {a : Addr} {ns : List Int}
def fCallS (a : Addr) (ns : List Int) (sp : PSpS) (i : Nat) (T : PA') : PF' := fun env Q => env[i]? = some (SV.raw (.ref a)) ∧ T env fun os env1 => ∃ ds env2, fzAll env1 os = some (ds, env2) ∧ sp ns ds fun rv => ∃ es, rv = .fr es ∧ Q es env2
end
end Sw

set_option Elab.async false
set_option linter.all false
set_option maxRecDepth 100000
namespace L2
open PySem PySem.Spec PyProof.Rows
/-! ### a def that is handed the error in hand, called within the suite -/
structure FnE (P : Program) (w : World) (K : PySem.W.Frag) (mg : Str → Option Value) (base : Heap) (CX : CXT) (k : Nat) (f : Addr) (fd : FuncData) (ps : List Str) (sp : Addr → Obj → Sp) : Prop where
  len : ∀ a o vs H Q E, sp a o vs H Q E → vs.length = ps.length
  run : ∀ (A : Around) (outer : List Env) (s : Shared) (H : Hp) (args : Args) (us : List Value) (vs : List V) (Q : VK) (E : XK) (p : Addr × Obj), L2H.RoomH k A → L2H.PinOk outer H s p → Env0 P w K mg base A outer s H → BindsTo s fd args (ps.zip us) → Vals vs us → sp p.1 p.2 vs H Q E →
    codeAny (model P w) A (.call (.ref f) args) (CR CX outer P w H s Q E) s
section
variable {CX : CXT} {P : Program} {w : World} {K : PySem.W.Frag} {mg : Str → Option Value} {base : Heap} {k : Nat} {f : Addr} {fd : FuncData}
theorem fnE_of {x qual : Str} {params : Arguments} {body : List Stmt} {scope : Scope} {dvs : List V} {kws : List (Str × V)} {N ps : List Str} {sp : Addr → Obj → Sp} (F : FunD K x qual params body scope dvs kws f fd) (S : FnScope N ps scope) (len : ∀ a o vs H Q E, sp a o vs H Q E → vs.length = ps.length)
    (hbody : ∀ (cdv : Value) (A : Around) (outer : List Env) (s : Shared) (H : Hp) (vs : List V) (Q : VK) (E : XK) (p : Addr × Obj), L2H.RoomH k (A.deeper (envOfC qual scope s.heap.objs.size f cdv)) → sp p.1 p.2 vs H Q E →
      ∃ t, PSs (L2H.cxH CX P w K mg base N qual scope f cdv A outer s H E p) body t ∧ t { nx := fun _ H' => Q .non H', rt := Q } (L2.start N vs) H) : FnE P w K mg base CX (k + 1) f fd ps sp := by
  obtain ⟨oc, od, dV, kV, doc, pm, an, cdv, ct, osl, rfl, lk, hcd, _, _⟩ := F.ex
  refine ⟨len, fun A outer s H args us vs Q E p hr hpin e0 hb r hsp => ?_⟩
  have inK : K.In s.heap := e0.mod.kin.keeps fun b o e => (e0.bs b o e).1
  have limS : s.heap.NoLimit := e0.mod.nolimit.keeps fun b o e => (e0.bs b o e).1
  have kinds : ∀ y ∈ ps.zip us, scope.names.lookup y.1 = some .local ∨ (scope.names.lookup y.1 = some .cell ∧ ((cellsFrom (s.heap.objs.size + 1) scope.names []).lookup y.1).isSome = true) := fun ⟨n, v⟩ hy =>
    (S.par n (List.of_mem_zip hy).1).elim .inl fun q => .inr ⟨q, PySem.W.cellsFrom_some _ _ _ (.inl q)⟩
  refine codeAny_call_function hr.depth (inK _ _ lk) rfl S.co S.gen rfl (PySem.W.codeRec_of inK hcd) (hb _ _ _ _ (wpAny_newFunctionEnv_cells S.kind kinds fun env he s1 xx => ?_))
  subst he
  obtain ⟨t, ht, hq⟩ := hbody cdv A outer s H vs Q E p (hr.deeper _) hsp
  have J0 : Inv (L2H.cxH CX P w K mg base N qual scope f cdv A outer s H E p) [] (L2.start N vs) H s1 := L2H.inv_startH S hpin e0 (len _ _ _ _ _ _ hsp) r xx
  refine ⟨limS.keeps xx.toInCall.keep, codeAny_func (wpAny_mono (ht.run [] s1 (L2.start N vs) H _ J0 hq) (fun fl s' hs => ?_) fun e s' hs => hs)⟩
  have fin : ∀ {σ' : St} {H' : Hp} {v : V} {u : Value}, Inv (L2H.cxH CX P w K mg base N qual scope f cdv A outer s H E p) [] σ' H' s' → RelV v u → Q v H' → CE outer P w H s Q u s' :=
    fun {σ' H' v u} J rv q => ⟨v, H', J.os, J.bare, J.base, J.hok, rv, q⟩
  cases fl with
  | ret u => exact let ⟨v, σ', H', J, rv, q⟩ := hs; fin J rv q
  | next => exact let ⟨σ', H', J, q⟩ := hs; fin (v := V.non) (u := Value.none) J rfl q
  | brk => exact let ⟨_, _, _, q⟩ := hs; False.elim q
  | cont => exact let ⟨_, _, _, q⟩ := hs; False.elim q
end
section
variable {X : Cx} {CX : CXT} {k : Nat} {f : Addr} {fd : FuncData} {ps : List Str} {sp : Addr → Obj → Sp} {E : St → XK} {x : Str} {q pos : Pos} {e : Expr} {es : List Expr} {t : TA} {a : Addr} {oe : Obj}
def tCallE (sp : Sp) (E : St → XK) (t : TA) : TE := fun σ H Q => t σ H fun vs H1 => sp vs H1 Q (E σ)
theorem pe_callE (F : FnE X.prog X.w X.K X.mg X.base CX k f fd ps sp) (hr : L2H.RoomH k X.A) (hp : (a, oe) ∈ X.pn) (hg : Gl X x) (hm : X.mg x = some (.ref f)) (hk : PySem.W.keepIn X.K (.ref f) = true) (hb : Binds X.K fd ps []) (hx : ∀ σ, PassesAt CX X σ (E σ))
    (ha : PA X (e :: es) t) (hdb : (x == ("__debug__" : Str)) = false := by decide) (he : starEach (e :: es) X.env = (false, eval e X.env) :: starEach es X.env := by rfl) (hpl : (backTo pos (starEach es X.env)).any (·.1) = false := by rfl) :
    PE X (.Call (.Name x q) (e :: es) [] pos) (tCallE (sp a oe) E t) := by
  refine ⟨fun pins s σ H Q I h => wpAny_Call_Name_kw (ld_glob I hg hm ?_ hdb)⟩
  refine PySem.W.callWith_K (h₀ := X.base) I.ok.mod.kin hk (thn (ha.run pos pins s σ H _ I h) fun us s1 ⟨vs, H1, I1, r, q⟩ => ⟨I1.kIn, ?_⟩) he hpl
  have hl : us.length = ps.length := by rw [← r.length]; exact F.len _ _ _ _ _ _ q
  have b := hb s1 us I1.kIn (by rw [List.append_nil]; exact hl)
  rw [List.append_nil] at b
  have P1 := I1.pin (a, oe) (List.mem_append_left _ hp)
  have pinned : L2H.PinOk X.stack H1 s1 (a, oe) := ⟨P1.1, P1.2.1, fun hm => (List.mem_cons.mp (I1.stkSub a hm)).elim P1.2.2.1 P1.2.2.2.1, P1.2.2.2.2⟩
  refine wpAny_call (codeAny_mono (F.run X.A X.stack s1 H1 ⟨us, []⟩ us vs Q (E σ) (a, oe) hr pinned I1.env0 b r q) fun r s' hq => ?_)
  cases r with
  | error e => exact hx σ pins H1 s1 e s' I1 hq
  | ok fl =>
    cases fl with
    | ret u => exact I1.after hq
    | next => exact False.elim hq
    | brk => exact False.elim hq
    | cont => exact False.elim hq
end
end L2
namespace Sw
open PySem PySem.Spec L2
end Sw

set_option Elab.async false
set_option linter.all false
set_option maxRecDepth 100000
namespace Sw
open PySem PySem.Spec L2
theorem frm_n {C : Ec} {M : Hp} {b : Addr} (h : M b = none) : (frm C M).H0 b = C.H0 b := by unfold frm; simp only [h]
theorem frm_none {C : Ec} {M : Hp} {b : Addr} (h : (frm C M).H0 b = none) : M b = none ∧ C.H0 b = none := by
  cases q : M b with
  | none => rw [frm_n q] at h; exact ⟨rfl, h⟩
  | some o => rw [frm_s q] at h; cases h
section
variable {K : FgX} {C : Ec} {M M' : Hp} {σ : L2.St} {H F H' F' : Hp} {env : List SV}
/-- the cells go over into what is known -/
theorem Rel.leave (R : Rel K (frm C M) σ H F env) (m0 : MOk C M) (hH : ∀ b, M b = none → H' b = H b ∧ F' b = F b) (hS : ∀ b o u, M b = some o → F' b = some u → H' b = some u) (hx : XOk K C) : Le F F' ∧ Rel K C σ H' F' env := by
  have ff : Le F F' := fun b u h => by
    cases q : M b with
    | none => rw [(hH b q).2]; exact h
    | some o =>
      have := (R.apart m0 q).2.1
      rw [h] at this
      cases this
  refine ⟨ff, ⟨fun b u h => ?_, fun b u h => ff b u (R.mono b u h), fun b u h => ?_, fun b u h n => ?_, fun a h => ?_, R.len, fun i sv e => ?_, R.dist⟩, hx⟩
  · cases q : M b with
    | none =>
      obtain ⟨e1, e2⟩ := hH b q
      rw [e1]
      rw [e2] at h
      exact R.frz b u h
    | some o => exact hS b o u q h
  · cases q : M b with
    | none =>
      obtain ⟨e1, e2⟩ := hH b q
      rw [e2] at h
      rcases R.new b u h with z | z
      · exact .inl z
      · exact .inr (frm_none z).2
    | some o => exact .inr (m0 b o q).1
  · cases q : M b with
    | none =>
      rw [(hH b q).1]
      exact R.frame b u (by rw [frm_n q]; exact h) n
    | some o =>
      rw [(m0 b o q).1] at h
      cases h
  · obtain ⟨⟨xs, e⟩, f, o, g⟩ := R.la a h
    have q : M a = none := by
      cases q : M a with
      | none => rfl
      | some o => exact absurd h (m0 a o q).2.2
    obtain ⟨e1, e2⟩ := hH a q
    exact ⟨⟨xs, by rw [e1]; exact e⟩, by rw [e2]; exact f, o, by rw [frm_n q] at g; exact g⟩
  · have w := R.slot i sv e
    cases sv with
    | un => trivial
    | raw z => exact w
    | dat d =>
      obtain ⟨v, e1, a⟩ := w
      exact ⟨v, e1, At.mono ff d v a⟩
    | obj l c =>
      obtain ⟨p, u, e1, e2, e3, e4, e5⟩ := w
      have q : M p = none := by
        cases q : M p with
        | none => rfl
        | some o => exact absurd ⟨i, l, c, e, e1⟩ (R.apart m0 q).2.2
      obtain ⟨h1, h2⟩ := hH p q
      refine ⟨p, u, e1, by rw [h1]; exact e2, by rw [h2]; exact e3, ?_, e5.mono ff⟩
      cases l with
      | true => exact e4
      | false =>
        rw [if_neg (by decide)] at e4 ⊢
        exact (frm_none e4).2
end
section
variable {K : FgK} {F F' M M' : Hp}
theorem RepL.snoc {k : D} {nk : NestedKey} {b a : Addr} {ds : List D} {xs : List V} (e : k = nkD nk) (a1 : At K F k (.ref b)) (m : M a = some (.lst xs)) (a2 : AtAll K F ds xs) : ∀ {G : List (D × List D)} {zs : List (NestedKey × Addr × V)} {as : List Addr}, RepL K F M G zs as → RepL K F M (G ++ [(k, ds)]) (zs ++ [(nk, b, .ref a)]) (as ++ [a])
  | [], _, _, q => by
    obtain ⟨rfl, rfl⟩ := q
    exact ⟨nk, b, [], xs, a, [], rfl, rfl, e, a1, m, a2, rfl, rfl⟩
  | (k', ds') :: r, zs, as, q => by
    obtain ⟨nk', b', zr, xs', a', ar, rfl, rfl, e3, a1', m', a2', q⟩ := q
    exact ⟨nk', b', _, xs', a', _, rfl, rfl, e3, a1', m', a2', RepL.snoc e a1 m a2 q⟩
end
end Sw

set_option Elab.async false
set_option linter.all false
set_option maxRecDepth 100000
set_option maxHeartbeats 4000000
namespace Sw
open PySem PySem.Spec L2 PySem.Calls PyProof.Rows
open PpSet (boolK boolK_is)
noncomputable local instance memDecTrB (k : Bool) (l : List Bool) : Decidable (k ∈ l) := Classical.propDecidable _
end Sw

set_option Elab.async false
set_option linter.all false
set_option maxRecDepth 100000
namespace Sw
open PySem PySem.Spec L2
section
variable {X : Cz}
/-- the nested cells are known from here on -/
theorem RelMA.out {C : Ec} {M : Hp} {σ : L2.St} {H F : Hp} {env : List SV} (hx0 : ∀ C M, XOk X.fr C ↔ XOk X.fr (frm C M)) (R : Rel X.fr (frm C M) σ H F env) (m0 : MOk C M) : Le F (fun b => match M b with | some u => some u | none => F b) ∧ Rel X.fr C σ H (fun b => match M b with | some u => some u | none => F b) env :=
  R.leave (H' := H) m0 (fun b e => by
    refine ⟨rfl, ?_⟩
    simp only [e]) (fun b u w e hw => by
    simp only [e] at hw
    rw [← hw]
    exact (R.apart m0 e).1) ((hx0 C M).mpr R.xok)
end
end Sw

set_option Elab.async false
set_option linter.all false
set_option maxRecDepth 100000
namespace Sw
open PySem PySem.Spec L2
end Sw

set_option Elab.async false
set_option linter.all false
set_option maxRecDepth 100000
namespace Sw
open PySem PySem.Spec L2
end Sw

set_option Elab.async false
set_option linter.all false
set_option maxRecDepth 100000
namespace Sw
open PySem PySem.Spec L2
end Sw

set_option Elab.async false
set_option linter.all false
set_option maxRecDepth 100000
namespace Sw
open PySem PySem.Spec L2
end Sw

set_option Elab.async false
set_option linter.all false
set_option maxRecDepth 100000
set_option maxHeartbeats 2000000
/-! ### a token is out: text.replace of written texts -/


namespace Sw
open PySem PySem.Spec L2 CwR
section
variable {X : Cz}
structure EVT (X : Cz) (e : Expr) (T : PE') : Prop where
  ex : ∃ t, PET X e t ∧ LE X.fr t T
structure EFT (X : Cz) (e : Expr) (T : PF') : Prop where
  ex : ∃ t, PET X e t ∧ LF X.fr t T
theorem EFT.ev {e : Expr} {T : PF'} (h : EFT X e T) : EVT X e (qF T) := by
  obtain ⟨t, hp, l⟩ := h.ex
  refine ⟨t, hp, fun C σ H F env Q Qp R k q => ?_⟩
  refine l C σ H F env Q _ R (fun p xs ds H' F' env' st hp fp h0 no hn a q => ?_) q
  have ff : Le F' (upd F' p (.lst xs)) := fun b u h => by
    rw [upd_ne (ne_of_none h fp)]; exact h
  exact k (.ref p) H' _ env' (.dv (.list ds)) (st.freeze hn hp fp h0 no) (At.list_of upd_same (AtAll.mono ff _ _ a)) q
theorem t_cons {st : Stmt} {rest : List Stmt} {A B : PS'} (h : EST X st A) (g : EBT X rest B) : EBT X (st :: rest) (sSeq A B) := by
  obtain ⟨t, h1, l1⟩ := h.ex
  obtain ⟨u, h2, l2⟩ := g.ex
  refine ⟨_, psst_cons h1 h2, fun C σ H F env D Dp R k q => ?_⟩
  exact l1 C σ H F env { D with nx := u D } { Dp with nx := B Dp } R ⟨fun σ' H' F' env' R' l q' => l2 C σ' H' F' env' D Dp R' (k.mono l) q', k.rt, k.bk, k.ct⟩ q
theorem t_one {st : Stmt} {A : PS'} (h : EST X st A) : EBT X [st] A := by
  obtain ⟨t, h1, l1⟩ := h.ex
  refine ⟨_, psst_one h1, fun C σ H F env D Dp R k q => ?_⟩
  exact l1 C σ H F env D Dp R k q
/-- e.replace(y, z) -/
def qRepl (A : PE') (y z : Str) : PE' := fun env Q => A env fun o env1 => ∃ x, o.rd env1 = some (.str x) ∧ x.length + (x.length + 1) * z.length ≤ 16777216 ∧ Q (.dv (.str (Txt.replace x y z))) env1
theorem q_repl {o : Expr} {A : PE'} {y z : Str} {j k : Nat} {c0 c1 apos pos : Pos} (h : EV X o A) (hyz : (y == z) = false := by decide)
    (hst : starEach [.Constant (.str y) j c0, .Constant (.str z) k c1] X.env = [(false, eval (.Constant (.str y) j c0) X.env), (false, eval (.Constant (.str z) k c1) X.env)] := by rfl)
    (hbase : attributeBase o "replace" X.env (eval o X.env) = eval o X.env := by rfl) (hline : (apos.endLine == pos.line) = true := by rfl) :
    EVT X (.Call (.Attribute o "replace" apos) [.Constant (.str y) j c0, .Constant (.str z) k c1] [] pos) (qRepl A y z) := by
  obtain ⟨t, h1, l1⟩ := h.ex
  refine ⟨_, pet_replC h1 hyz hst hbase hline, fun C σ H F env Q Qp R k q => ?_⟩
  refine l1 C σ H F env _ _ R (fun v H1 F1 env1 o s1 a1 q1 => ?_) q
  obtain ⟨x, e, b, q1⟩ := q1
  have w := rd_vw s1.rel a1 e
  have w : v = .str x := by simpa [Vw, At] using w
  exact ⟨x, w, b, k _ H1 F1 env1 (.dv (.str (Txt.replace x y z))) s1 (by simp [OvOk, At]) q1⟩
theorem s_retT {e : Expr} {A : PE'} {pos : Pos} (h : EVT X e A) : EST X (.Return (some e) pos) (sRet A) := by
  obtain ⟨t, h1, l1⟩ := h.ex
  refine ⟨_, pst_ret h1, fun C σ H F env D Dp R k q => ?_⟩
  refine l1 C σ H F env _ _ R (fun v H1 F1 env1 o s1 a1 q1 => ?_) q
  obtain ⟨d, env2, e, q1⟩ := q1
  obtain ⟨F2, s2, a2⟩ := fz_ok s1.rel a1 e
  exact k.rt σ H1 F2 env2 (.dt d) v s2.rel (s1.ff.trans' s2.ff) a2 q1
theorem s_exprT {e : Expr} {A : PE'} {pos : Pos} (h : EVT X e A) (hs : swapsWith e none pos.line X.env = pure false := by rfl) : EST X (.Expr e pos) (sDrop A) := by
  obtain ⟨t, h1, l1⟩ := h.ex
  refine ⟨_, pst_expr h1 hs, fun C σ H F env D Dp R k q => ?_⟩
  refine l1 C σ H F env _ _ R (fun v H1 F1 env1 o s1 a1 q1 => ?_) q
  exact k.nx σ H1 F1 env1 s1.rel s1.ff q1
theorem s_forT {S : List Nat} {tg iter : Expr} {body : List Stmt} {I : PI'} {G : TG'} {B : PS'} {pos : Pos} (hp : PassesOwn (model X.prog X.w) X.A X.env X.xe) (hc : X.calm = true) (hi : EI X tg iter I) (hg : EG X S tg G) (hb : EBT X body B)
    (hs : ∀ x, foldedSetIterable iter X.env x = pure x := by intro _; rfl) : EST X (.For tg iter body [] pos) (sFor I G B) := by
  obtain ⟨wi, h1, l1⟩ := hi.ex
  obtain ⟨g, h2, l2⟩ := hg.ex
  obtain ⟨tb, h3, l3⟩ := hb.ex
  refine ⟨_, pst_forB hp hc h1 h2 h3 hs, fun C σ H F env D Dp R k q => ?_⟩
  refine l1 C σ H F env _ _ R (fun J ds H1 F1 env1 s1 it q1 => ?_) q
  obtain ⟨Gd, Y, w, gd, yd⟩ := it
  have k1 := k.mono s1.ff
  refine for_it w (fun i σ H => ∃ F2 env2, Rel X.fr C σ H F2 env2 ∧ Le F1 F2 ∧ pFor G B Dp (ds.drop i) env2) ⟨F1, env1, s1.rel, Le.rfl', by simpa using q1⟩ (fun i σ H hi ⟨F2, env2, R2, l, _⟩ => gd H (l.trans' R2.frz)) (fun i x σ H H' hi ⟨F2, env2, R2, l, q2⟩ y => ?_) (fun σ H ⟨F2, env2, R2, l, q2⟩ => ?_)
  · obtain ⟨F3, d, e, s3, a3⟩ := (YOk.mono l (yd i H x H' hi (l.trans' R2.frz) y)).rel R2
    have e2 : ds.drop i = d :: ds.drop (i + 1) := by
      obtain ⟨hlt, e4⟩ := List.getElem?_eq_some_iff.mp e
      rw [List.drop_eq_getElem_cons hlt, e4]
    rw [e2] at q2
    have l3' := l.trans' s3.ff
    refine l2 C σ H' F3 env2 x d _ _ s3.rel a3 (fun σ' env' R' _ q' => ?_) q2
    refine l3 C σ' H' F3 env' _ { Dp with nx := pFor G B Dp (ds.drop (i + 1)), ct := pFor G B Dp (ds.drop (i + 1)), bk := Dp.nx } R' ⟨fun σ4 H4 F4 env4 R4 m q4 => ⟨F4, env4, R4, l3'.trans' m, q4⟩, fun σ4 H4 F4 env4 rv v R4 m r q4 => k1.rt σ4 H4 F4 env4 rv v R4 (l3'.trans' m) r q4, fun σ4 H4 F4 env4 R4 m q4 => k1.nx σ4 H4 F4 env4 R4 (l3'.trans' m) q4, fun σ4 H4 F4 env4 R4 m q4 => ⟨F4, env4, R4, l3'.trans' m, q4⟩⟩ q'
  · rw [List.drop_length] at q2
    exact k1.nx σ H F2 env2 R2 l q2
theorem blk_evT {scope : Scope} {e : Expr} {T : PE'} (h : Blk X scope fun Y => EVT Y e T) : ∃ t, (Blk X scope fun Y => PET Y e t) ∧ LE X.fr t T := by
  refine ⟨fun σ H Q => ∀ s H0 C cl fp, (Classical.choose (h s H0 C cl fp).ex) σ H Q, fun s H0 C cl fp => fun pins s1 σ H Q tok I q => ?_, fun C σ H F env Q Qp R k q s H0 C0 cl fp => ?_⟩
  · exact (Classical.choose_spec (h s H0 C cl fp).ex).1 pins s1 σ H Q tok I (q s H0 C cl fp)
  · exact LE.up (K := X.fr) (Classical.choose_spec (h s H0 C0 cl fp).ex).2 C σ H F env Q Qp R k q
theorem f_lcT {elt tg iter : Expr} {ifs : List Expr} {scope : Scope} {own : List (Str × Nat)} {pos : Pos} {I : PI'} {S : List Nat} {G : TG'} {TT : PT'} {TE : PE'} (hc : X.calm = true) (hN : X.N.Nodup) (ok : BlkOk X.N X.env.scope scope own) (hi : EI X tg iter I) (hg : Blk X scope fun Y => EG Y S tg G) (ht : Blk X scope fun Y => ETs Y ifs TT) (he : Blk X scope fun Y => EVT Y elt TE)
    (hS : ∀ j ∈ S, j ∈ own.map (·.2) := by decide) (hs : ∀ x, foldedSetIterable iter X.env x = pure x := by intro _; rfl) : EFT X (.ListComp elt [⟨tg, iter, ifs, 0⟩] scope pos) (fLc I G TT TE (own.map (·.2))) := by
  obtain ⟨wi, h1, l1⟩ := hi.ex
  obtain ⟨g, h2, l2⟩ := blk_g hg
  obtain ⟨tt, h3, l3⟩ := blk_ts ht
  obtain ⟨te, h4, l4⟩ := blk_evT he
  exact ⟨_, pet_lcT hc hN h1 ok h2 h3 h4 hs, lc_sound l1 l2 l3 l4 hS⟩
theorem s_setLcT {i : Nat} {y : Str} {py : Pos} {elt tg iter : Expr} {ifs : List Expr} {scope : Scope} {own : List (Str × Nat)} {pos spos : Pos} {I : PI'} {S : List Nat} {G : TG'} {TT : PT'} {TE : PE'} (hc : X.calm = true) (hN : X.N.Nodup) (hy : X.N[i]? = some y) (hyl : X.env.scope.names.lookup y = some .local)
    (hsw : swapsWith (.ListComp elt [⟨tg, iter, ifs, 0⟩] scope pos) (some (.Name y py)) spos.line X.env = pure true) (ok : BlkOk X.N X.env.scope scope own) (hi : EI X tg iter I) (hg : Blk X scope fun Y => EG Y S tg G) (ht : Blk X scope fun Y => ETs Y ifs TT) (he : Blk X scope fun Y => EVT Y elt TE)
    (hS : ∀ j ∈ S, j ∈ own.map (·.2) := by decide) (hs : ∀ x, foldedSetIterable iter X.env x = pure x := by intro _; rfl) : EST X (.Assign [.Name y py] (.ListComp elt [⟨tg, iter, ifs, 0⟩] scope pos) spos) (sAsg i (qF (fLc I G TT TE (own.map (·.2))))) := by
  obtain ⟨wi, h1, l1⟩ := hi.ex
  obtain ⟨g, h2, l2⟩ := blk_g hg
  obtain ⟨tt, h3, l3⟩ := blk_ts ht
  obtain ⟨te, h4, l4⟩ := blk_evT he
  refine ⟨_, pst_setLcT hc hN hy hyl hsw h1 ok h2 h3 h4 hs, fun C σ H F env D Dp R k q => ?_⟩
  refine (lc_sound l1 l2 l3 l4 hS) C σ H F env _ _ R (fun p xs ds H1 F1 env1 s1 hp fp h0 no hn a q1 => ?_) q
  obtain ⟨d, env2, e, hl, q1⟩ := q1
  simp only [OV.fz, Option.some.injEq, Prod.mk.injEq] at e
  obtain ⟨rfl, rfl⟩ := e
  have ff : Le F1 (upd F1 p (.lst xs)) := fun b u h => by
    rw [upd_ne (ne_of_none h fp)]; exact h
  have R1 := s1.rel.freeze hp fp h0 no
  exact k.nx _ H1 _ _ (R1.assign (by rw [← R1.len]; exact hl) (At.list_of upd_same (AtAll.mono ff _ _ a))) (s1.ff.trans' ff) q1
structure EAT (X : Cz) (es : List Expr) (T : PA') : Prop where
  ex : ∃ t, PAT X es t ∧ LA X.fr t T
theorem at_one {e : Expr} {A : PE'} (h : EVT X e A) (hs : starEach [e] X.env = (false, eval e X.env) :: starEach [] X.env := by rfl) : EAT X [e] (qCons A qNil) := by
  obtain ⟨t, h1, l1⟩ := h.ex
  refine ⟨_, pat_cons h1 pat_nil hs, fun C σ H F env Q Qp R k q => ?_⟩
  refine l1 C σ H F env _ _ R (fun v H1 F1 env1 o s1 a1 q1 => ?_) q
  exact k [v] H1 F1 env1 [o] s1 ⟨v, [], rfl, a1, rfl⟩ q1
theorem q_moET (i : Nat) {name x : Str} {p apos cpos : Pos} {e : Expr} {es : List Expr} {T : PA'} (hname : name = "extend") (ha : EAT X (e :: es) T)
    (hN : X.N[i]? = some x := by rfl) (hv : Vis X.env.scope x := by first | exact Or.inl rfl | exact Or.inr (Or.inl rfl) | exact Or.inr (Or.inr rfl)) (hd : (x == ("__debug__" : Str)) = false := by decide) (hcd : (x == ("__classdict__" : Str)) = false := by decide)
    (hbase : attributeBase (.Name x p) name X.env (eval (.Name x p) X.env) = eval (.Name x p) X.env := by rfl)
    (hfew : ((backTo cpos (starEach (e :: es) X.env)).all (fun x => !x.1) && (backToKw cpos (keywordEach [] X.env)).all (fun x => x.1.isSome)
      && decide ((e :: es).length + ([] : List Keyword).length + (if ([] : List Keyword).isEmpty then 0 else 1) < 30)) = true := by rfl)
    (hline : (apos.endLine == cpos.line) = true := by rfl) (hs : starEach (e :: es) X.env = (false, eval e X.env) :: starEach es X.env := by rfl) (hplain : (backTo cpos (starEach es X.env)).any (·.1) = false := by rfl) :
    EVT X (.Call (.Attribute (.Name x p) name apos) (e :: es) [] cpos) (qMO i gExtend T) := by
  subst hname
  obtain ⟨t, h1, l1⟩ := ha.ex
  refine ⟨_, pet_bmT PySem.F.plainAttrs_list PySem.F.slot_list_extend PySem.F.type_list_extend SwX.mt_extendA (pe_var hN hv hd hcd) h1 hbase hfew hline hs hplain, fun C σ H F env Q Qp R k q => ?_⟩
  obtain ⟨⟨l0, ds0, e0⟩, q⟩ := q
  obtain ⟨a, xs0, f1, f2, f3, f4, f5⟩ := R.slotL e0
  refine ⟨.ref a, f1, .inl ⟨rfl, xs0, SqL.of f2⟩, ?_⟩
  refine l1 C σ H F env _ _ R (fun vs H1 F1 env1 os s1 a1 q1 => ?_) q
  obtain ⟨es', env2, e1, l, ds, e2, d, ds', e3, q1⟩ := q1
  obtain ⟨F2, s2, a2⟩ := fzAll_ok s1.rel a1 e1
  obtain ⟨a', xs, g1, g2, g3, g4, g5⟩ := s2.rel.slotL e2
  rw [f1] at g1
  cases g1
  refine l_extend H1 F2 a xs vs ds es' ds' d _ s2.rel.frz g2 g5 a2 e3 fun v xs' av ax => ?_
  have s3 := s2.rel.writeL e2 f1 ax
  exact k v _ F2 _ (.dv d) ((s1.trans s2).trans s3) (OvOk.of av) q1
end
section
variable {P : Program} {w : World} {K : PySem.W.Frag} {mg : Str → Option Value} {base : Heap}
/-- THE RULE of a def whose body wants a token -/
theorem defT_ok {x qual : Str} {params : Arguments} {body : List Stmt} {scope : Scope} {dvs : List V} {kws : List (Str × V)} {f : Addr} {fd : FuncData} {N ps : List Str} {k : Nat} {sp : PSp} (l : Bool) (F : FunD K x qual params body scope dvs kws f fd) (S : FnScope N ps scope) (len : ∀ fl ds Q, sp fl ds Q → ds.length + (if l = true then 1 else 0) = ps.length)
    (hn : ps.length ≤ N.length) (hnc : ∀ y ∈ scope.names, y.2 ≠ .cell) (hps : 1 ≤ ps.length) (hbody : ∀ (cdv : Value) (A : Around) (outer : List Env) (s : Shared) (H : Hp) (E : XK), Room k (A.deeper (PyProof.Rows.envOfC qual scope s.heap.objs.size f cdv)) →
      ∃ T, EBT (of0 (cxOf CX0 P w K mg base N qual scope f cdv A outer s H E).nox) body T ∧ ∀ fl ds Q, (l = true ↔ fl ≠ none) → sp fl ds Q → T (endsOf l Q) (startE l N fl ds)) : FnOk P w K mg base CX0 (k + 1) f fd ps (spOf ⟨K, P, w⟩ l sp) := by
  have lens : ∀ vs H Q E, spOf ⟨K, P, w⟩ l sp vs H Q E → vs.length = ps.length := fun vs H Q E h => by
    obtain ⟨F, la, fl, ds, ws, hF, ha, hl, Qp, hp, k⟩ := h
    have := len fl ds Qp hp
    cases l with
    | false =>
      obtain ⟨rfl, _, _⟩ := hl
      rw [ha.len]
      simpa using this
    | true =>
      obtain ⟨a, xs, fd, rfl, _⟩ := hl
      rw [List.length_cons, ha.len]
      simpa using this
  obtain ⟨oc, od, dV, kV, doc, pm, an, cdv, ct, osl, rfl, lk, hcd, _, _⟩ := F.ex
  refine fn_ofT lk hcd S hnc hps lens (fun A outer s H vs Q E hr h => ?_)
  have hlen := lens vs H Q E h
  obtain ⟨F0, la, fl, ds, ws, hF, ha, hl, Qp, hp, k⟩ := h
  obtain ⟨T, hb, ht⟩ := hbody cdv A outer s H E hr
  obtain ⟨t, h1, l1⟩ := hb.ex
  refine ⟨t, PSsT.nox h1, ?_⟩
  have hll : (l = true ↔ la ≠ none) ∧ (l = true ↔ fl ≠ none) := by
    cases l with
    | false =>
      obtain ⟨_, rfl, rfl⟩ := hl
      simp
    | true =>
      obtain ⟨a, xs, fd, _, rfl, _, _, rfl, _⟩ := hl
      simp
  exact l1 ⟨H, F0, la⟩ (start N vs) H F0 (startE l N fl ds) _ (endsOf l Qp) ⟨start_rel hF ha hl (by omega), xok_no rfl⟩ (ends_ok hll.1 k) (ht fl ds Qp hll.2 hp)
end
end Sw

set_option Elab.async false
set_option linter.all false
set_option maxRecDepth 100000
namespace Sw
open PySem PySem.Spec L2
end Sw

set_option Elab.async false
set_option linter.all false
set_option maxRecDepth 100000
set_option maxHeartbeats 4000000
namespace Sw
open PySem PySem.Spec L2 PyProof.Rows
section
variable {X : L2.Cx}
theorem forO_gen {S : List Nat} {g : TG} {tb : TS} {G : TG'} {B : PS'} {i : Nat} {C : Ec} {σ : L2.St} {H F : Hp} {env : List SV} {D : Ends} {Dp : PEnds} {ds its : List PyData} {p : Addr} {xs : List V} {J : It} {GG : Hp → Prop} {YY : Nat → Hp → V → Hp → Prop}
    (l2 : LG (of0 X).fr S g G) (l3 : LS (of0 X).fr tb B) (R : Rel (ofN X).fr C σ H F env) (k : EndsOk (ofN X).fr C F D Dp) (he : env[i]? = some (SV.own false ds)) (e1 : σ[i]? = some (some (.ref p))) (e2 : H p = some (.lst xs)) (e3 : F p = none) (e4 : C.H0 p = none) (ax : AtAll (ofN X).fr F ds xs)
    (w : Walk J its.length GG YY) (hg : ∀ H F2 ys, H p = some (.lst ys) → AtAll (of0 X).fr F2 ds ys → Le F F2 → Le F2 H → GG H)
    (hy : ∀ j x H H' F2 ys, j < its.length → H p = some (.lst ys) → AtAll (of0 X).fr F2 ds ys → Le F F2 → Le F2 H → YY j H x H' → YOk (of0 X).fr F2 its[j]? H x H')
    (q : pFor (gO i ds G) B (endsO i ds Dp) its (env.set i (SV.own true ds))) : ∃ W : Nat → Nat → L2.St → Hp → Prop, (∃ m, W 0 m σ H) ∧ ∀ j m σ H, W j m σ H → (J.stop j H ∧ D.nx σ H) ∨ (J.go j H ∧ ∃ N : L2.St → Hp → Prop, (∀ σ' H', N σ' H' → ∃ m', m' < m ∧ W (j + 1) m' σ' H') ∧ ∀ x H', J.yld j H x H' → g x σ H' fun σ2 H2 => tb { D with nx := N, ct := N, bk := D.nx } σ2 H2) := by
  have hla : C.la = none := R.xok.1
  have R1 := toO_rel R.toRelB hla he e1 e2 e3 e4 ax
  have h0 : ∀ b, (toO C p xs).H0 b = none → C.H0 b = none := fun b h => by
    by_cases e : b = p
    · rw [e]; exact e4
    · have h : upd C.H0 p (.lst xs) b = none := h
      rwa [upd_ne e] at h
  have back : ∀ {σ' H' F' env'}, Rel (of0 X).fr (toO C p xs) σ' H' F' env' → env'[i]? = some (SV.own true ds) → Rel (ofN X).fr C σ' H' F' (env'.set i (SV.own false ds)) := fun R' h => ⟨ofO_rel R'.toRelB hla e4 h, R.xok⟩
  have pt : ∀ {σ' H' F' env'}, Rel (of0 X).fr (toO C p xs) σ' H' F' env' → env'[i]? = some (SV.own true ds) → ∃ ys, H' p = some (.lst ys) ∧ AtAll (of0 X).fr F' ds ys := fun R' h => by
    obtain ⟨p', u', s1, s2, s3, s4, ys, rfl, s5⟩ := R'.slot i _ h
    rw [if_pos rfl] at s4
    have s4 : some p = some p' := s4
    cases s4
    exact ⟨ys, s2, s5⟩
  refine for_it w (fun j σ H => ∃ F2 env2, Rel (of0 X).fr (toO C p xs) σ H F2 env2 ∧ Le F F2 ∧ pFor (gO i ds G) B (endsO i ds Dp) (its.drop j) env2) ⟨F, _, ⟨R1, xok_no rfl trivial⟩, Le.rfl', by simpa using q⟩ (fun j σ H hj ⟨F2, env2, R2, l, q2⟩ => ?_) (fun j y σ H H' hj ⟨F2, env2, R2, l, q2⟩ yy => ?_) (fun σ H ⟨F2, env2, R2, l, q2⟩ => ?_)
  · obtain ⟨ys, g1, g2⟩ := pt R2 (forO_slot q2)
    exact hg H F2 ys g1 g2 l R2.frz
  · obtain ⟨ys, g1, g2⟩ := pt R2 (forO_slot q2)
    obtain ⟨F3, d, ed, s3, ad⟩ := (hy j y H H' F2 ys hj g1 g2 l R2.frz yy).rel R2
    have e2' : its.drop j = d :: its.drop (j + 1) := by
      obtain ⟨hlt, e4⟩ := List.getElem?_eq_some_iff.mp ed
      rw [List.drop_eq_getElem_cons hlt, e4]
    rw [e2'] at q2
    have l := l.trans' s3.ff
    refine l2 (toO C p xs) σ H' F3 env2 y d _ _ s3.rel ad (fun σ' env' R' _ q' => ?_) q2.2
    refine l3 (toO C p xs) σ' H' F3 env' _ { endsO i ds Dp with nx := pFor (gO i ds G) B (endsO i ds Dp) (its.drop (j + 1)), ct := pFor (gO i ds G) B (endsO i ds Dp) (its.drop (j + 1)), bk := (endsO i ds Dp).nx } R' ⟨fun σ4 H4 F4 env4 R4 m q4 => ⟨F4, env4, R4, l.trans' m, q4⟩, fun σ4 H4 F4 env4 rv v R4 m r q4 => k.rt σ4 H4 F4 _ rv v (back R4 q4.1) (l.trans' m) (by
      cases rv with
      | dt x => exact r
      | fr es =>
        obtain ⟨p', zs, r1, r2, r3, r4, r5⟩ := r
        exact ⟨p', zs, r1, r2, r3, h0 _ r4, r5⟩) q4.2, fun σ4 H4 F4 env4 R4 m q4 => k.nx σ4 H4 F4 _ (back R4 q4.1) (l.trans' m) q4.2, fun σ4 H4 F4 env4 R4 m q4 => ⟨F4, env4, R4, l.trans' m, q4⟩⟩ q'
  · rw [List.drop_length] at q2
    exact k.nx σ H F2 _ (back R2 q2.1) l q2.2
def YE (K : PySem.W.Frag) (p : Addr) (j : Nat) (H : Hp) (x : V) (H' : Hp) : Prop := ∃ T y, x = .ref T ∧ H T = none ∧ H' = upd H T (.tup [.int (j : Nat), y]) ∧ ∀ ys, SqL K H p ys → ys[j]? = some y
theorem walkE {K : PySem.W.Frag} {p : Addr} {n : Nat} : Walk (Ite K p) n (GO K p n) (YE K p) :=
  ⟨fun i H hi ⟨ys, h, e⟩ => ⟨ys, ys[i]'(by omega), h, List.getElem?_eq_getElem (by omega)⟩, fun H ⟨ys, h, e⟩ => ⟨ys, h, by omega⟩, fun i H x H' hi h y => y⟩
/-- for .. in enumerate(own) -/
def sForOE (i : Nat) (G : TG') (B : PS') : PS' := fun Dp env => ∃ ds, env[i]? = some (SV.own false ds) ∧ pFor (gO i ds G) B (endsO i ds Dp) (enD 0 ds) (env.set i (SV.own true ds))
theorem s_forOE {S : List Nat} {elts : List Expr} {kk : Nat} {x : Str} {body : List Stmt} {G : TG'} {B : PS'} {pos p' pe pc tpos : Pos} (i : Nat) (hp : PassesOwn (model X.prog X.w) X.A X.env X.xe) (hc : X.calm = true) (hg : EG (of0 X) S (.Tuple elts kk tpos) G) (hb : EB (of0 X) body B) (hgl : Gl X "enumerate") (hm : X.mg "enumerate" = none)
    (hN : X.N[i]? = some x := by rfl) (hv : Vis X.env.scope x := by first | exact Or.inl rfl | exact Or.inr (Or.inl rfl) | exact Or.inr (Or.inr rfl)) (hd : (x == ("__debug__" : Str)) = false := by decide) (hcd : (x == ("__classdict__" : Str)) = false := by decide)
    (hst : starEach [.Name x p'] X.env = [(false, eval (.Name x p') X.env)] := by rfl) (hst' : starEach (.Name x p' :: []) X.env = (false, eval (.Name x p') X.env) :: starEach [] X.env := by rfl)
    (hs : ∀ y, foldedSetIterable (.Call (.Name "enumerate" pe) [.Name x p'] [] pc) X.env y = pure y := by intro _; rfl) : ES (ofN X) (.For (.Tuple elts kk tpos) (.Call (.Name "enumerate" pe) [.Name x p'] [] pc) body [] pos) (sForOE i G B) := by
  obtain ⟨g, h2, l2⟩ := hg.ex
  obtain ⟨tb, h3, l3⟩ := hb.ex
  refine ⟨_, ps_for hp hc (pi_enum (X := ofN X) hgl hm (pa_cons (pe_var hN hv hd hcd) pa_nil hst') hst) h2 h3 hs, fun C σ H F env D Dp R k q => ?_⟩
  obtain ⟨ds, he, q⟩ := q
  obtain ⟨p, u, e1, e2, e3, e4, c⟩ := R.slot i _ he
  obtain ⟨xs, rfl, ax⟩ := c
  rw [if_neg (by decide)] at e4
  refine ⟨_, e1, p, xs, rfl, SqL.of e2, ?_⟩
  refine forO_gen (its := enD 0 ds) l2 l3 R k he e1 e2 e3 e4 ax (walkE (K := X.K) (p := p) (n := (enD 0 ds).length)) (fun H F2 ys g1 g2 _ _ => ⟨ys, SqL.of g1, by rw [enD_len]; exact g2.len⟩) (fun j x H H' F2 ys hj g1 g2 _ _ yy => ?_) q
  obtain ⟨T, y, rfl, hT, rfl, hy⟩ := yy
  obtain ⟨d, ed, ad⟩ := g2.get' (hy ys (SqL.of g1))
  refine .inr ⟨T, _, [.int (j : Nat), d], hT, rfl, rfl, ?_, AtAll.cons (by simp [At]) (AtAll.cons ad AtAll.nil)⟩
  rw [enD_get, ed]
  simp
end
section
variable {P : Program} {w : World} {K : PySem.W.Frag} {mg : Str → Option Value} {base : Heap}
/-- a law that loops over lists of its own -/
theorem law_okN {x qual y : Str} {params : Arguments} {st : Stmt} {rest : List Stmt} {scope : Scope} {f : Addr} {fd : FuncData} {N : List Str} {k : Nat} {T : PS'} (F : FunD K x qual params (st :: rest) scope [] [] f fd) (S : FnScope N [y] scope) (hN : 2 ≤ N.length)
    (hbody : ∀ (cdv : Value) (A : Around) (outer : List Env) (s : Shared) (H : Hp) (E : XK), Room k (A.deeper (PyProof.Rows.envOfC qual scope s.heap.objs.size f cdv)) →
      PS (cxOf CX0 P w K mg base N qual scope f cdv A outer s H E).nox st (tAsg (tCall (spFlow ⟨K, P, w⟩) [] E0 (tCons (tVar 0) tNil)) (gName 1)) ∧ EB (ofN (cxOf CX0 P w K mg base N qual scope f cdv A outer s H E).nox) rest T)
    (hT : ∀ ns : List Int, ns.length ≤ 63 → T (endsOf false fun rv _ => rv = .dt (.bool true)) (SV.un :: SV.own false (flow0 ns) :: List.replicate (N.length - 2) SV.un)) : FnOk P w K mg base CX0 (k + 1) f fd [y] (spLaw ⟨K, P, w⟩) := by
  refine F.ok S (fun vs H Q E h => ?_) (fun cdv A outer s H vs Q E hr h => ?_)
  · obtain ⟨a, ns, rfl, _⟩ := h
    rfl
  · obtain ⟨a, ns, rfl, hl, hs, hQ⟩ := h
    obtain ⟨h1, h2⟩ := hbody cdv A outer s H E hr
    obtain ⟨t, g1, l1⟩ := h2.ex
    refine ⟨_, PSs.nox (pss_cons h1 g1), ?_⟩
    refine ⟨V.ref a, ?_, a, ns.map V.int, rfl, hs, fun c p hpc => ?_⟩
    · unfold L2.start
      rfl
    · exact l1 _ _ _ _ _ _ _ ⟨law_start hpc N hN, xok_no rfl rfl⟩ (law_ends hQ) (hT ns hl)
end
end Sw

namespace PySem.W
open PySem PySem.Calls PyProof.Rows
theorem sortsAt_one {prog : Program} {w : World} {A : Around} {s : Shared} {v : Value} {ys : List PyData} (e : EachIs (fun v d => ∃ as, Reads s.heap v d as) [v] [PyData.tuple ys]) (hal : AllAlike [PyData.tuple ys]) (hu : A.units + (PyData.tuple ys).depth < cLine) : SortsAt prog w A s (dataKind s.heap [PyData.tuple ys]) [v] := by
  refine ⟨fun x hx => ?_, tuples' false, ?_, fun h2 => absurd h2 (by simp)⟩
  · obtain ⟨d, hd, as, r⟩ := e.left x hx
    exact ⟨_, dataKind_some hal hd r⟩
  · intro E x y a b Q ha hb hq
    obtain ⟨d, as, hd, ra, rfl⟩ := dataKind_inv ha
    obtain ⟨d', as', hd', rb, rfl⟩ := dataKind_inv hb
    have hdd := hal d hd d' hd'
    rw [List.mem_singleton] at hd hd'
    subst hd hd'
    have hroom : A.units + min (PyData.tuple ys).depth (PyData.tuple ys).depth < cLine := by rw [Nat.min_self]; exact hu
    have hq' : Q (dataLt (.tuple ys) (.tuple ys)) s := hq
    rw [dataLt_tuple] at hq'
    cases ra with
    | @tuple l o xs n _ _ h1 h2 h3 h4 =>
      cases rb with
      | @tuple l' o' xs' n' _ _ k1 k2 k3 k4 =>
        have n1 : xs.size = ys.length := by simpa using SeqAt.ReadsAll.length _ _ _ h4
        have n2 : xs'.size = ys.length := by simpa using SeqAt.ReadsAll.length _ _ _ k4
        exact kat_lt h1 h3 k1 k3 (katLex_alike ys ys 0 _ _ _ _ h4 k4 (by simpa [alike] using hdd) (by have q := SeqAt.room_in hroom; omega) (fun hb => nomatch hb) (by rw [n1, n2]) hq')
theorem sorted_one {prog : Program} {w : World} {A : Around} {s : Shared} {E : Value → Shared → Prop} {l : Addr} {v : Value} {ys : List PyData} {Q : Value → Shared → Prop} (hl : s.heap.IsList l #[v]) (e : EachIs (fun v d => ∃ as, Reads s.heap v d as) [v] [PyData.tuple ys]) (hal : AllAlike [PyData.tuple ys]) (hu : A.units + 2 + (PyData.tuple ys).depth < cLine)
    (h : Q (.ref (s.heap.objs.size + 1)) { s with heap := sortedAll s.heap [v] #[v] }) : wpAny (model prog w) A (call (.builtin "sorted") [.ref l]) Q E s := by
  have er' : EachIs (fun u d => ∃ as, Reads (sortingHeap (copyHeap s.heap [v]) (s.heap.objs.size + 1) [v]) u d as) [v] [PyData.tuple ys] := e.mono fun _ _ ⟨as, r⟩ => ⟨as, PyProof.Rows.Reads.keeps (fun _ _ => sorting_copy_old) r⟩
  refine sorted_vals (vs := [v]) hl (sortsAt_one (ys := ys) (s := { s with heap := sortingHeap (copyHeap s.heap [v]) (s.heap.objs.size + 1) [v] }) er' hal hu) (by rw [sizeLine_eq]; exact (by decide : 1 ≤ 16777216)) ?_
  have es : sortVals (dataKind (sortingHeap (copyHeap s.heap [v]) (s.heap.objs.size + 1) [v]) [PyData.tuple ys]) false [v] [v] = [v] := by
    simp [sortVals]
  first
    | (rw [es]; exact h)
    | exact h
end PySem.W
namespace Sw
open PySem PySem.Spec L2 PyProof.Rows
def oneTup : D → Bool
  | .tuple ys => okD (.tuple ys) && W.alike (.tuple ys) (.tuple ys)
  | _ => false
def gSortE : List D → Option (List D)
  | [.list [d]] => if oneTup d = true then some [d] else if okSort [d] = true then some (srtD [d]) else none
  | [.list ds] => if okSort ds = true then some (srtD ds) else none
  | _ => none
def rSortedE (K : FgK) : List V → Hp → VK → Prop := fun vs H Q => rSortedD K vs H Q ∨ ∃ (a : Addr) (x : V) (d : D), vs = [V.ref a] ∧ SqL K H a [x] ∧ DpAll K H [x] [d] ∧ oneTup d = true ∧ ∀ p, H p = none → Q (.ref p) (upd H p (.lst [x]))
section
variable {X : Cz} {K : FgX}
theorem cr_sortedE (hu : X.A.units + 64 < cLine) : CallR X (.builtin "sorted") (rSortedE X.fr) := by
  intro pins s σ H vs us Q I r h
  rcases h with h | ⟨a, x, d, rfl, hs, hd, ho, q⟩
  · exact cr_sortedD hu pins s σ H vs us Q I r h
  · obtain ⟨its, rv, hl, hz⟩ := I.list hs
    obtain ⟨u, rfl, ru⟩ := vals1 r
    obtain rfl : u = Value.ref a := ru
    obtain ⟨as, rr⟩ := Dp.readsAll I [d] [x] its hd rv
    unfold oneTup at ho
    split at ho
    · rename_i ys
      obtain ⟨o1, o2⟩ := Bool.and_eq_true_iff.mp ho
      have e0 : W.EachIs (fun v d => ∃ as, Reads s.heap v d as) its [PyData.tuple ys] := W.readsAll_each (enc := fun d => d) (by rw [List.map_id']; exact rr)
      have hal : W.AllAlike [PyData.tuple ys] := fun x hx y hy => by
        rw [List.mem_singleton] at hx hy
        subst hx hy
        exact o2
      have dep := okD_depth o1
      cases rv with
      | cons r1 r2 =>
        cases r2
        rename_i v
        have z : X.A.units + 2 + (PyData.tuple ys).depth < cLine := by omega
        refine W.sorted_one hl.isList e0 hal z ?_
        obtain ⟨n, hn⟩ := sortedAll_at s.heap [v] #[v]
        have hd' : s.heap.objs.size ≤ s.heap.objs.size + 1 := Nat.le_succ _
        exact ⟨.ref (s.heap.objs.size + 1), upd H (s.heap.objs.size + 1) (.lst [x]), I.laid (t' := s.toks) (fun b o e => sortedAll_old e) hd' ⟨by rw [sizeLine_eq]; exact (by decide : 1 ≤ 16777216), [v], n, .cons r1 .nil, hn⟩, rfl, q _ (I.hok.fresh hd')⟩
    · cases ho
theorem l_sortE : LCF K (rSortedE K) gSortE := fun C σ H F env xs ds es Q R a e k => by
  have usual : ∀ ds', ds = [.list ds'] → okSort ds' = true → es = srtD ds' → rSortedE K xs H Q := fun ds' e1 e2 e3 => by
    subst e1 e3
    exact .inl (l_sortD C σ H F env xs _ _ Q R a (by show (if okSort ds' = true then some (srtD ds') else none) = _; rw [if_pos e2]) k)
  unfold gSortE at e
  split at e
  · rename_i d
    split at e
    · rename_i ho
      cases e
      obtain ⟨x, rfl, w⟩ := a.one
      obtain ⟨p, zs, rfl, e1, a2⟩ := w
      obtain ⟨z, rfl, a3⟩ := AtAll.one a2
      have pl : PyData.plainAll [d] = true := plain_of fun y hy => by
        rw [List.mem_singleton] at hy
        subst hy
        unfold oneTup at ho
        split at ho
        · exact (Bool.and_eq_true_iff.mp ho).1
        · cases ho
      refine .inr ⟨p, z, d, rfl, SqL.of e1, AtAll.dp _ _ pl (AtAll.mono R.frz _ _ a2), ho, fun l hl => ?_⟩
      obtain ⟨s, f, h, n⟩ := R.alloc0 (o := .lst [z]) hl
      exact k l _ F s f h n hl a2
    · split at e
      · rename_i ho
        cases e
        exact usual _ rfl ho rfl
      · cases e
  · rename_i ds' _
    split at e
    · rename_i ho
      cases e
      exact usual _ rfl ho rfl
    · cases e
  · cases e
theorem gSortE_ok {ds : List D} (h : okSort ds = true) : gSortE [.list ds] = some (srtD ds) := by
  match ds, h with
  | [], h => rfl
  | [d], h =>
    show (if oneTup d = true then some [d] else if okSort [d] = true then some (srtD [d]) else none) = _
    have e : srtD [d] = [d] := by
      unfold srtD
      exact List.mergeSort_singleton d
    rw [if_pos h, e, ite_self]
  | a :: b :: r, h =>
    show (if okSort (a :: b :: r) = true then some (srtD (a :: b :: r)) else none) = _
    rw [if_pos h]
theorem gSortE_one {d : D} (h : oneTup d = true) : gSortE [.list [d]] = some [d] := by
  unfold gSortE
  simp only [h, if_true]
end
end Sw

set_option Elab.async false
set_option linter.all false
set_option maxRecDepth 100000
namespace Sw
open PySem PySem.Spec L2 PySem.Calls PyProof.Rows
section
variable {X : Cz}
def qChainV (A : PE') (ls : List ((Int → Int → Bool) × PE')) : PE' := fun env Q => qChain A ls env fun b env1 => Q (.dv (.bool b)) env1
end
end Sw

set_option Elab.async false
set_option linter.all false
set_option maxRecDepth 100000
namespace Sw
open PySem PySem.Spec L2
end Sw

set_option maxHeartbeats 2000000
set_option Elab.async false
set_option linter.all false
set_option maxRecDepth 100000
open PySem PySem.Spec L2 Sw
local macro_rules | `(tactic| walk_at "wp") => `(tactic| simp only [sSeq, sIf, sNil, sPass, sBreak, sCont, sRet, sRetF, sRetS, sDrop, sAsg, sAsgF, sSetIx, sAsgG, sFor, sRaise, sAsgD, sPutD, sFrzD, qDIn, qDGet, qDGetO, iKeysD, OV.dic, ex_pr, ex_pr0, ex_dic, ex_dic0, ex_kds, keyO_some, gListDic_1, gClear_0, qDisp1, qChain, qRest, tAnd', tOr', tNot', qTest, qAnd, qOr, qNot, qOp, qVar, qC, qF, qSl, qPn, qPs, qTup, fLst, qCB, fCB, qIsi, qJoin, fOp, qCons, qNil, qMO, qMO0, qAddD, qCall, qCallL, fCall, fCallL, qCallV, ex_dt, ex_fr, ex_frL, atom_b, atom_i, atom_s, atom_n, ex_tupv, ex_consv, eq_self, fLc, fLcR, restE, NoOwn, nob_d, nob_u, List.getD_cons_zero, List.getD_cons_succ, wipeE, iAny, iRg1, iRg2, iEnu, gN, gT, gsC, gsN, tYes', endsOf, LentE,
  svD, Ct.toD, OV.rd, OV.fz, rdAll, fzAll, bindS, mapS, ex_some, ex_fz, ex_fzs, ex_own, ex_own0, ex_ownF, ex_bool, ex_int, ex_lst, ex_strv, ex_svd, ex_svo, ex_if, ex_ifb, ex_som0, ex_fl, ex_flN, ex_ifp, true_and, and_true,
  List.getElem?_cons_zero, List.getElem?_cons_succ, List.set_cons_zero, List.set_cons_succ, List.length_cons, List.length_nil, List.append_nil, List.nil_append, List.cons_append, List.map_nil, List.map_cons, List.length_set,
  atI_lit, ixN_lit, gI_ii, gAdd_ii, gAdd_ss, gAdd_ll, gAdd_tt, gMul_ii, gMul_si, gLt_ii, gLt_ss, gIx_li, gIx_ti, gIx_si, gLen_l, gLen_t, gLen_s, gListF_l, gListF_t, gTuple_l, gTuple_t, gCatF_ll, gEq_ii, gNe_ii, gEq_ss, gNe_ss, gEq_bb, gNe_bb, gSl_l, gSl_t, gSl_s, gIsN_n, gNotN_n, gIsN_b, gIsN_i, gIsN_s, gIsN_l, gIsN_t, gIsN_d, ne_eq, not_true_eq_false, not_false_eq_true, gAppend_1, gExtend_l, gExtend_t, gRev_l, gRev_t, qRevA, RV.toD, seqOf_l, seqOf_t, itemsOf_l, itemsOf_t, itemsOf_s, gSortD_s, gIsB_bb, gNotB_bb, qNeg, qVM, fVM, fSortK, gJoin_s, gAll_b, gAny_b, gPopAt_1, isi_str, isi_int, isi_bool, isi_list, isi_tuple, isi_none, dSub, gDiv, gMod, gPow, gCmp,
  Bool.not_true, Bool.not_false, if_true, if_false, ite_true, ite_false, reduceIte, decide_eq_true_eq, beq_iff_eq, Bool.not_eq_true', beq_eq_false_iff_ne, Bool.false_eq_true, Nat.reduceLT, Nat.reduceAdd, Nat.reduceLeDiff, Nat.lt_add_one, Nat.zero_lt_succ, Nat.not_lt_zero])
namespace Sw
/-- a flow: the cells, the place, the digits left, the mix, the count -/
def FlOk (fd : List D) : Prop := ∃ (cs : List Int) (p b m n : Int), fd = [.list (cs.map .int), .int p, .int b, .int m, .int n] ∧ 0 ≤ p ∧ 0 ≤ b ∧ 0 ≤ m ∧ m < 2147483647 ∧ 0 ≤ n
def sp_law_pick : PSp := fun fl ds Q => ∃ fd many, fl = some fd ∧ FlOk fd ∧ ds = [.int many] ∧ 1 ≤ many ∧ many < 1073741824 ∧ ∀ d fd2, 0 ≤ d → d < many → FlOk fd2 → Q (.dt (.int d)) (some fd2)
abbrev N_law_pick : List Str := ["_law_flow_here", "_law_many", "_law_cell", "_law_digit"]
def T_law_pick : PS' := (sSeq (sIf (tAnd' (qTest (qOp (gEq false) (qOp gIx (qVar 0) (qC (.int 2))) (qC (.int 0)))) (qTest (qOp gLt (qOp gIx (qVar 0) (qC (.int 1))) (qCB gLen (qCons (qOp gIx (qVar 0) (qC (.int 0))) qNil))))) (sSeq (sAsg 2 (qOp gIx (qOp gIx (qVar 0) (qC (.int 0))) (qOp gIx (qVar 0) (qC (.int 1)))))
  (sSeq (sSetIx 0 (qOp gAdd (qOp gIx (qVar 0) (qC (.int 1))) (qC (.int 1))) (qC (.int 1)))
  (sIf (qTest (qOp (gI (gCmp fun i j => decide (j ≤ i))) (qVar 2) (qOp (gI gPow) (qC (.int 10)) (qC (.int 18))))) (sSetIx 0 (qVar 2) (qC (.int 2))) (sSetIx 0 (qOp (gI gMod) (qOp gAdd (qOp gAdd (qOp gMul (qOp gIx (qVar 0) (qC (.int 3))) (qC (.int 40013))) (qOp (gI gMod) (qVar 2) (qC (.int 1000003)))) (qC (.int 1))) (qC (.int 2147483647))) (qC (.int 3)))))) sNil)
  (sSeq (sIf (qTest (qOp (gI (gCmp fun i j => decide (j < i))) (qOp gIx (qVar 0) (qC (.int 2))) (qC (.int 0)))) (sSeq (sAsg 3 (qOp (gI gMod) (qOp gIx (qVar 0) (qC (.int 2))) (qVar 1)))
  (sSeq (sSetIx 0 (qOp (gI gDiv) (qOp gIx (qVar 0) (qC (.int 2))) (qVar 1)) (qC (.int 2)))
  (sRet (qVar 3)))) sNil)
  (sSeq (sSetIx 0 (qOp gAdd (qOp gIx (qVar 0) (qC (.int 4))) (qC (.int 1))) (qC (.int 4)))
  (sSeq (sSetIx 0 (qOp (gI gMod) (qOp gAdd (qOp gAdd (qOp gMul (qOp gIx (qVar 0) (qC (.int 3))) (qC (.int 48271))) (qC (.int 12820163))) (qOp gIx (qVar 0) (qC (.int 4)))) (qC (.int 2147483647))) (qC (.int 3)))
  (sRet (qOp (gI gMod) (qOp (gI gDiv) (qOp (gI gMod) (qOp gMul (qOp gAdd (qOp (gI gMod) (qOp gIx (qVar 0) (qC (.int 3))) (qC (.int 65521))) (qC (.int 1))) (qOp gAdd (qOp (gI gDiv) (qOp gIx (qVar 0) (qC (.int 3))) (qC (.int 65521))) (qC (.int 7919)))) (qC (.int 1000003))) (qC (.int 7))) (qVar 1)))))))
theorem pure_law_pick (fl : Option (List D)) (ds : List D) (Q : RV → Option (List D) → Prop) (_ : true = true ↔ fl ≠ none) (h : sp_law_pick fl ds Q) : T_law_pick (endsOf true Q) (startE true N_law_pick fl ds) := by
  obtain ⟨fd, many, rfl, ⟨cs, p, b, m, n, rfl, hp, hb, hm, hm2, hn⟩, rfl, h1, h2, k⟩ := h
  show T_law_pick _ [SV.own true _, SV.dat _, SV.un, SV.un]
  unfold T_law_pick
  refine cut_seq (fun env => ∃ p b m, 0 ≤ p ∧ 0 ≤ b ∧ 0 ≤ m ∧ m < 2147483647 ∧ ∃ y, env = [SV.own true [.list (cs.map .int), .int p, .int b, .int m, .int n], SV.dat (.int many), y, SV.un]) ?_ ?_
  · rintro env ⟨p, b, m, hp, hb, hm, hm2, y, rfl⟩
    walk_at "wp"
    split
    · exact ⟨by omega, ⟨by omega, h2⟩, k _ _ (Int.emod_nonneg _ (by omega)) (Int.emod_lt_of_pos _ (by omega)) ⟨cs, p, b / many, m, n, rfl, hp, Int.ediv_nonneg hb (by omega), hm, hm2, hn⟩⟩
    · have g1 : 0 ≤ (m * 48271 + 12820163 + (n + 1)) % 2147483647 := Int.emod_nonneg _ (by decide)
      have g2 : (m * 48271 + 12820163 + (n + 1)) % 2147483647 < 2147483647 := Int.emod_lt_of_pos _ (by decide)
      generalize (m * 48271 + 12820163 + (n + 1)) % 2147483647 = x at g1 g2 ⊢
      refine ⟨.inr ⟨by decide, by decide⟩, by decide, by decide, ⟨by decide, by decide⟩, .inl ⟨by omega, by omega⟩, by decide, ⟨by decide, by decide⟩, by omega, k _ _ (Int.emod_nonneg _ (by omega)) (Int.emod_lt_of_pos _ (by omega)) ⟨cs, p, b, x, n + 1, rfl, hp, hb, g1, g2, by omega⟩⟩
  · intro nx hnx
    walk_at "wp"
    split
    · split
      · rename_i hlt
        rw [List.length_map] at hlt
        rw [atI_at hp, List.getElem?_map, List.getElem?_eq_getElem (by omega : p.toNat < cs.length)]
        walk_at "wp"
        refine ⟨⟨by decide, by decide, by decide⟩, ?_⟩
        have e18 : (10 : Int) ^ Int.toNat 18 = 1000000000000000000 := by decide
        split
        · exact hnx _ ⟨p + 1, _, m, by omega, by omega, hm, hm2, _, rfl⟩
        · refine ⟨.inr ⟨by decide, by decide⟩, by decide, by decide, hnx _ ⟨p + 1, b, _, by omega, hb, Int.emod_nonneg _ (by decide), Int.emod_lt_of_pos _ (by decide), _, rfl⟩⟩
      · exact hnx _ ⟨p, b, m, hp, hb, hm, hm2, _, rfl⟩
    · exact hnx _ ⟨p, b, m, hp, hb, hm, hm2, _, rfl⟩

end Sw

open PySem PySem.Spec L2 Sw
namespace Sw
def abc : Str := Str.ofString "abcdefghijklmnopqrstuvwxyz"
theorem abc_tl : abc.cps.toList = List.range' 97 26 := by decide +kernel
theorem abc_ix {d : Int} (h0 : 0 ≤ d) (h1 : d < 26) : (if (Str.ofString "abcdefghijklmnopqrstuvwxyz").length ≤ sizeLine then Option.map (fun c => PyData.str ⟨#[c]⟩) (atI (Str.ofString "abcdefghijklmnopqrstuvwxyz").cps.toList d) else none) = some (.str ⟨#[97 + d.toNat]⟩) := by
  show (if abc.length ≤ sizeLine then (atI abc.cps.toList d).map fun c => PyData.str ⟨#[c]⟩ else none) = _
  rw [if_pos (by rw [len_tl, abc_tl, sizeLine_eq]; decide), abc_tl, atI_at h0, List.getElem?_range' (by omega)]
  simp
theorem sizeL {n : Nat} (h : n ≤ 16777216) : n ≤ sizeLine := by rw [sizeLine_eq]; exact h
theorem low1 {n : Nat} (h : n < 26) : Low ⟨#[97 + n]⟩ := fun c hc => by
  have : c = 97 + n := by simpa using hc
  omega
theorem sum_ones : ∀ {zs : List Str}, (∀ z ∈ zs, z.length = 1) → (zs.map (·.length)).sum = zs.length
  | [], _ => rfl
  | z :: r, h => by
    rw [List.map_cons, List.sum_cons, h z List.mem_cons_self, sum_ones fun y hy => h y (List.mem_cons_of_mem _ hy), List.length_cons]
    omega
theorem join_len (zs : List Str) : (Txt.join (Str.ofString "") zs).length = (zs.map (·.length)).sum := by
  rw [len_tl, joinE, List.length_flatten, List.map_map]
  rfl
theorem join_low {zs : List Str} (h : ∀ z ∈ zs, Low z) : Low (Txt.join (Str.ofString "") zs) := fun c hc => by
  rw [joinE] at hc
  obtain ⟨l, hl, hc⟩ := List.mem_flatten.mp hc
  obtain ⟨z, hz, rfl⟩ := List.mem_map.mp hl
  exact h z hz c hc
def sp_law_letters : PSp := fun fl ds Q => ∃ fd many, fl = some fd ∧ FlOk fd ∧ ds = [.int many] ∧ 0 ≤ many ∧ many ≤ 1000 ∧ ∀ z fd2, Low z → (z.length : Int) = many → FlOk fd2 → Q (.dt (.str z)) (some fd2)
abbrev N_law_letters : List Str := ["_law_flow_here", "_law_many", "_law_k"]
def T_law_letters : PS' := (sRet (qJoin (qC (.str "")) (qF (fLc (iRg1 (qVar 1)) (gN 2) tYes' (qOp gIx (qC (.str "abcdefghijklmnopqrstuvwxyz")) (qCallL sp_law_pick 0 (qAddD (qCons (qC (.int 26)) qNil) []))) [2]))))
theorem pure_law_letters (fl : Option (List D)) (ds : List D) (Q : RV → Option (List D) → Prop) (_ : true = true ↔ fl ≠ none) (h : sp_law_letters fl ds Q) : T_law_letters (endsOf true Q) (startE true N_law_letters fl ds) := by
  obtain ⟨fd, many, rfl, hf, rfl, h1, h2, k⟩ := h
  show T_law_letters _ [SV.own true _, SV.dat _, SV.un]
  unfold T_law_letters
  walk_at "wp"
  refine ⟨⟨by omega, by omega⟩, by rw [rgD_len]; omega, ?_⟩
  refine pLc_inv (fun i acc env => ∃ (zs : List Str) (fd : List D), acc = zs.map PyData.str ∧ zs.length = i ∧ (∀ z ∈ zs, Low z ∧ z.length = 1) ∧ FlOk fd ∧ env = [SV.own true fd, SV.dat (.int many), SV.un]) ⟨[], fd, rfl, rfl, by simp, hf, rfl⟩ ?_ ?_
  · rintro i d hd acc env ⟨zs, fd, rfl, rfl, hz, hf, rfl⟩ K hK
    obtain ⟨hi, rfl⟩ := rgD_get hd
    walk_at "wp"
    refine ⟨fd, 26, rfl, hf, rfl, by omega, by omega, fun d fd2 h0 h1 hf2 => ?_⟩
    walk_at "wp"
    rw [abc_ix h0 h1]
    walk_at "wp"
    refine hK _ _ ⟨zs ++ [⟨#[97 + d.toNat]⟩], fd2, by rw [List.map_append]; rfl, by simp, fun z hz' => ?_, hf2, rfl⟩
    rcases List.mem_append.mp hz' with e | e
    · exact hz z e
    · have e : z = ⟨#[97 + d.toNat]⟩ := by simpa using e
      subst e
      exact ⟨low1 (by omega), rfl⟩
  · rintro acc env ⟨zs, fd, rfl, hl, hz, hf, rfl⟩
    rw [rgD_len] at hl
    have hs := sum_ones fun z hz' => (hz z hz').2
    walk_at "wp"
    refine ⟨?_, k _ _ (join_low fun z hz' => (hz z hz').1) (by rw [join_len, hs, hl]; omega) hf⟩
    rw [hs, hl]
    have : (Str.ofString "").length = 0 := by decide +kernel
    rw [this]
    omega
def nmB (z : Str) : Bool := z.cps.toList.all (fun c => decide (97 ≤ c ∧ c ≤ 122)) && decide (1 ≤ z.length ∧ z.length ≤ 6)
theorem nmB_iff {z : Str} : nmB z = true ↔ Nm z := by
  unfold nmB Nm Low
  rw [Bool.and_eq_true, List.all_eq_true, decide_eq_true_eq]
  simp only [decide_eq_true_eq]
def lawWords : List Str := [Str.ofString "to", Str.ofString "turn", Str.ofString "turns", Str.ofString "ring", Str.ofString "rings", Str.ofString "odd", Str.ofString "ours", Str.ofString "row", Str.ofString "rows", Str.ofString "cuts", Str.ofString "knots", Str.ofString "cover", Str.ofString "change", Str.ofString "joins", Str.ofString "theirs", Str.ofString "one", Str.ofString "two", Str.ofString "home", Str.ofString "none", Str.ofString "open", Str.ofString "keep", Str.ofString "tox", Str.ofString "onex"]
theorem lawWords_ok : lawWords.all nmB = true := by decide +kernel
def sp_law_name : PSp := fun fl ds Q => ∃ fd stem, fl = some fd ∧ FlOk fd ∧ ds = [.str stem] ∧ Low stem ∧ stem.length ≤ 4 ∧ ∀ z fd2, Nm z → FlOk fd2 → Q (.dt (.str z)) (some fd2)
abbrev N_law_name : List Str := ["_law_flow_here", "_law_stem", "_law_words"]
def T_law_name : PS' := (sSeq (sIf (qTest (qOp (gEq true) (qVar 1) (qC (.str "")))) (sRet (qOp gAdd (qVar 1) (qCallL sp_law_letters 0 (qAddD (qCons (qOp gAdd (qC (.int 1)) (qCallL sp_law_pick 0 (qAddD (qCons (qC (.int 2)) qNil) []))) qNil) [])))) sNil)
  (sSeq (sIf (qTest (qOp (gEq false) (qCallL sp_law_pick 0 (qAddD (qCons (qC (.int 7)) qNil) [])) (qC (.int 0)))) (sSeq (sAsg 2 (qF (fLst (qCons (qC (.str "to")) (qCons (qC (.str "turn")) (qCons (qC (.str "turns")) (qCons (qC (.str "ring")) (qCons (qC (.str "rings")) (qCons (qC (.str "odd")) (qCons (qC (.str "ours")) (qCons (qC (.str "row")) (qCons (qC (.str "rows")) (qCons (qC (.str "cuts")) (qCons (qC (.str "knots")) (qCons (qC (.str "cover")) qNil)))))))))))))))
  (sSeq (sAsg 2 (qOp gAdd (qVar 2) (qF (fLst (qCons (qC (.str "change")) (qCons (qC (.str "joins")) (qCons (qC (.str "theirs")) (qCons (qC (.str "one")) (qCons (qC (.str "two")) (qCons (qC (.str "home")) (qCons (qC (.str "none")) (qCons (qC (.str "open")) (qCons (qC (.str "keep")) (qCons (qC (.str "tox")) (qCons (qC (.str "onex")) qNil)))))))))))))))
  (sRet (qOp gIx (qVar 2) (qCallL sp_law_pick 0 (qAddD (qCons (qC (.int 23)) qNil) [])))))) sNil)
  (sRet (qCallL sp_law_letters 0 (qAddD (qCons (qOp gAdd (qC (.int 1)) (qCallL sp_law_pick 0 (qAddD (qCons (qC (.int 6)) qNil) []))) qNil) [])))))
theorem pure_law_name (fl : Option (List D)) (ds : List D) (Q : RV → Option (List D) → Prop) (_ : true = true ↔ fl ≠ none) (h : sp_law_name fl ds Q) : T_law_name (endsOf true Q) (startE true N_law_name fl ds) := by
  obtain ⟨fd, stem, rfl, hf, rfl, h1, h2, k⟩ := h
  show T_law_name _ [SV.own true _, SV.dat _, SV.un]
  unfold T_law_name
  refine cut_seq (fun env => ∃ fd, FlOk fd ∧ env = [SV.own true fd, SV.dat (.str stem), SV.un]) ?_ fun nx hnx => ?_
  · rintro env ⟨fd, hf, rfl⟩
    walk_at "wp"
    refine ⟨fd, 7, rfl, hf, rfl, by omega, by omega, fun d fd2 h0 h7 hf2 => ?_⟩
    walk_at "wp"
    split
    · refine ⟨sizeL (by decide), sizeL (by decide), sizeL (by decide), fd2, 23, rfl, hf2, rfl, by omega, by omega, fun d fd3 g0 g1 hf3 => ?_⟩
      walk_at "wp"
      obtain ⟨w, e1, e2⟩ : ∃ w, lawWords[d.toNat]? = some w ∧ Nm w := by
        have hlt : d.toNat < lawWords.length := by
          show d.toNat < 23
          omega
        exact ⟨_, List.getElem?_eq_getElem hlt, nmB_iff.mp (List.all_eq_true.mp lawWords_ok _ (List.getElem_mem hlt))⟩
      have e3 : atI (lawWords.map PyData.str) d = some (.str w) := by
        rw [atI_at g0, List.getElem?_map, e1]
        rfl
      refine ⟨_, e3, k _ _ e2 hf3⟩
    · refine ⟨fd2, 6, rfl, hf2, rfl, by omega, by omega, fun d fd3 g0 g1 hf3 => ?_⟩
      walk_at "wp"
      refine ⟨fd3, 1 + d, rfl, hf3, rfl, by omega, by omega, fun z fd4 hz hl hf4 => ?_⟩
      walk_at "wp"
      exact k _ _ ⟨hz, by omega, by omega⟩ hf4
  · walk_at "wp"
    split
    · rename_i hne
      refine ⟨fd, 2, rfl, hf, rfl, by omega, by omega, fun d fd2 h0 h7 hf2 => ?_⟩
      walk_at "wp"
      refine ⟨fd2, 1 + d, rfl, hf2, rfl, by omega, by omega, fun z fd3 hz hl hf3 => ?_⟩
      walk_at "wp"
      have hs : 1 ≤ stem.length := by
        cases q : stem.length with
        | zero =>
          exfalso
          refine hne (ext_tl ?_)
          rw [List.eq_nil_of_length_eq_zero (show stem.cps.toList.length = 0 from q)]
          decide +kernel
        | succ n => omega
      exact ⟨sizeL (by omega), k _ _ ⟨h1.app hz, by rw [len_app]; omega, by rw [len_app]; omega⟩ hf3⟩
    · exact hnx _ ⟨fd, hf, rfl⟩

end Sw

open PySem PySem.Spec L2 Sw
namespace Sw
theorem mul_tl (z : Str) {n : Int} (h : 1 ≤ n) : (Txt.mul z n).cps.toList = (List.replicate n.toNat z.cps.toList).flatten := by
  unfold Txt.mul
  rw [if_neg (by omega)]
  split
  · rename_i h2
    rw [Bool.or_eq_true] at h2
    rcases h2 with h2 | h2
    · have : n = 1 := by simpa using h2
      subst this
      simp
    · have h3 : z.cps.toList.length = 0 := by
        have : z.length = 0 := by simpa using h2
        exact this
      have h4 : z.cps.toList = [] := List.eq_nil_of_length_eq_zero h3
      rw [h4]
      simp
  · have key : ∀ (k : Nat) (acc : Array Nat), ((List.replicate k z.cps).foldl (· ++ ·) acc).toList = acc.toList ++ (List.replicate k z.cps.toList).flatten := by
      intro k
      induction k with
      | zero => intro acc; simp
      | succ k ih =>
        intro acc
        rw [List.replicate_succ, List.foldl_cons, ih, List.replicate_succ, List.flatten_cons, Array.toList_append, List.append_assoc]
    show ((List.replicate n.toNat z.cps).foldl (· ++ ·) #[]).toList = _
    rw [key]
    simp
theorem nodup_len_le {α : Type} [DecidableEq α] : ∀ {l m : List α}, l.Nodup → (∀ x ∈ l, x ∈ m) → l.length ≤ m.length
  | [], _, _, _ => Nat.zero_le _
  | x :: r, m, h, hs => by
    have h' := List.nodup_cons.mp h
    have hx := hs x List.mem_cons_self
    have ih := nodup_len_le (l := r) (m := m.erase x) h'.2 fun y hy => by
      have hne : y ≠ x := by
        rintro rfl
        exact h'.1 hy
      exact (List.mem_erase_of_ne hne).mpr (hs y (List.mem_cons_of_mem _ hy))
    rw [List.length_erase_of_mem hx] at ih
    have : 0 < m.length := List.length_pos_of_mem hx
    rw [List.length_cons]
    omega
theorem tl_nil : (Str.ofString "").cps.toList = [] := by decide +kernel
theorem low_nil : Low (Str.ofString "") := fun c hc => by
  rw [tl_nil] at hc
  cases hc
/-- the spare names -/
def cand (s : Nat) : Str := Txt.mul ⟨#[97 + s % 26]⟩ (1 + (s / 26 : Nat))
theorem rep_one (k c : Nat) : (List.replicate k [c]).flatten = List.replicate k c := by
  induction k with
  | zero => rfl
  | succ k ih => rw [List.replicate_succ, List.flatten_cons, ih, List.replicate_succ]; rfl
theorem cand_tl (s : Nat) : (cand s).cps.toList = List.replicate (1 + s / 26) (97 + s % 26) := by
  unfold cand
  rw [mul_tl _ (by omega)]
  have : (1 + ((s / 26 : Nat) : Int)).toNat = 1 + s / 26 := by omega
  rw [this]
  exact rep_one _ _
theorem cand_inj {s t : Nat} (h : cand s = cand t) : s = t := by
  have e := congrArg (fun z : Str => z.cps.toList) h
  have e : (cand s).cps.toList = (cand t).cps.toList := e
  rw [cand_tl, cand_tl] at e
  have h1 : 1 + s / 26 = 1 + t / 26 := by
    have := congrArg List.length e
    simpa using this
  have h2 : 97 + s % 26 = 97 + t % 26 := by
    have := congrArg List.head? e
    rw [show 1 + s / 26 = (s / 26) + 1 by omega, show 1 + t / 26 = (t / 26) + 1 by omega, List.replicate_succ, List.replicate_succ] at this
    simpa using this
  omega
theorem cand_nm {s : Nat} (h : s < 156) : Nm (cand s) := by
  refine ⟨fun c hc => ?_, ?_, ?_⟩
  · rw [cand_tl] at hc
    have := List.eq_of_mem_replicate hc
    omega
  · rw [len_tl, cand_tl, List.length_replicate]
    omega
  · rw [len_tl, cand_tl, List.length_replicate]
    omega
theorem cand_few {ns : List Str} {s : Nat} (h : ∀ j, j < s → cand j ∈ ns) : s ≤ ns.length := by
  have nd : ((List.range s).map cand).Nodup := by
    rw [List.Nodup, List.pairwise_map]
    exact List.Pairwise.imp (fun hab e => hab (cand_inj e)) (List.nodup_range (n := s))
  have sub : ∀ x ∈ (List.range s).map cand, x ∈ ns := fun x hx => by
    obtain ⟨j, hj, rfl⟩ := List.mem_map.mp hx
    exact h j (List.mem_range.mp hj)
  have := nodup_len_le nd sub
  simpa using this
def sp_law_names : PSp := fun fl ds Q => ∃ fd many, fl = some fd ∧ FlOk fd ∧ ds = [.int many] ∧ 0 ≤ many ∧ many ≤ 80 ∧ ∀ (ns : List Str) fd2, ns.Nodup → (∀ z ∈ ns, Nm z) → (ns.length : Int) = many → FlOk fd2 → Q (.fr (ns.map PyData.str)) (some fd2)
abbrev N_law_names : List Str := ["_law_flow_here", "_law_many", "_law_stem", "_law_names_here", "_law_k", "_law_name_here", "_law_spare"]
def T_law_names : PS' := (sSeq (sAsg 2 (qC (.str "")))
  (sSeq (sIf (qTest (qOp (gEq false) (qCallL sp_law_pick 0 (qAddD (qCons (qC (.int 3)) qNil) [])) (qC (.int 0)))) (sAsg 2 (qCallL sp_law_letters 0 (qAddD (qCons (qOp gAdd (qC (.int 1)) (qCallL sp_law_pick 0 (qAddD (qCons (qC (.int 4)) qNil) []))) qNil) []))) sNil)
  (sSeq (sAsgF 3 (fLst (qNil)))
  (sSeq (sFor (iRg1 (qVar 1)) (gN 4) (sSeq (sAsg 5 (qCallL sp_law_name 0 (qAddD (qCons (qVar 2) qNil) [])))
  (sSeq (sAsg 6 (qC (.int 0)))
  (sSeq (sWh (qTest (qOp (gIn false) (qVar 5) (qVar 3))) (sSeq (sAsg 5 (qOp gMul (qOp gIx (qC (.str "abcdefghijklmnopqrstuvwxyz")) (qOp (gI gMod) (qVar 6) (qC (.int 26)))) (qOp gAdd (qC (.int 1)) (qOp (gI gDiv) (qVar 6) (qC (.int 26))))))
  (sAsg 6 (qOp gAdd (qVar 6) (qC (.int 1))))))
  (sDrop (qMO 3 gAppend (qCons (qVar 5) qNil)))))))
  (sRetS 3)))))
theorem pure_law_names (fl : Option (List D)) (ds : List D) (Q : RV → Option (List D) → Prop) (_ : true = true ↔ fl ≠ none) (h : sp_law_names fl ds Q) : T_law_names (endsOf true Q) (startE true N_law_names fl ds) := by
  obtain ⟨fd, many, rfl, hf, rfl, h1, h2, k⟩ := h
  show T_law_names _ [SV.own true _, SV.dat _, SV.un, SV.un, SV.un, SV.un, SV.un]
  unfold T_law_names
  refine cut_seq (fun env => FlOk fd ∧ env = [SV.own true fd, SV.dat (.int many), SV.dat (.str (Str.ofString "")), SV.un, SV.un, SV.un, SV.un]) ?_ fun nx hnx => ?_
  · rintro env ⟨hf, rfl⟩
    refine cut_seq (fun env => ∃ fd stem, FlOk fd ∧ Low stem ∧ stem.length ≤ 4 ∧ env = [SV.own true fd, SV.dat (.int many), SV.dat (.str stem), SV.un, SV.un, SV.un, SV.un]) ?_ fun nx hnx => ?_
    · rintro env ⟨fd, stem, hf, hs1, hs2, rfl⟩
      walk_at "wp"
      refine ⟨sizeL (by decide), ⟨by omega, by omega⟩, ?_⟩
      refine pFor_inv (fun i env => ∃ (ns : List Str) (fd : List D) (y1 y2 y3 : SV), ns.length = i ∧ ns.Nodup ∧ (∀ z ∈ ns, Nm z) ∧ FlOk fd ∧ env = [SV.own true fd, SV.dat (.int many), SV.dat (.str stem), SV.own false (ns.map PyData.str), y1, y2, y3]) ⟨[], fd, _, _, _, rfl, List.nodup_nil, by simp, hf, rfl⟩ ?_ ?_
      · rintro i d hd env ⟨ns, fd, y1, y2, y3, rfl, hn1, hn2, hf, rfl⟩ K hK
        obtain ⟨hi, rfl⟩ := rgD_get hd
        walk_at "wp"
        refine ⟨fd, stem, rfl, hf, rfl, hs1, hs2, fun z fd2 hz hf2 => ?_⟩
        walk_at "wp"
        refine pWh_inv (fun env => ∃ (s : Nat) (z : Str), Nm z ∧ s ≤ ns.length + 1 ∧ (∀ j, j + 1 < s → cand j ∈ ns) ∧ (0 < s → z = cand (s - 1)) ∧ env = [SV.own true fd2, SV.dat (.int many), SV.dat (.str stem), SV.own false (ns.map PyData.str), SV.dat (.int (0 + (ns.length : Int))), SV.dat (.str z), SV.dat (.int (s : Int))])
          (fun env : List SV => match env[6]? with | some (SV.dat (PyData.int s)) => (100 - s).toNat | _ => 0) ⟨0, z, hz, by omega, by omega, by omega, rfl⟩ ?_
        rintro env ⟨s, z, hz, hs, hc, hzc, rfl⟩ K2 hK2
        walk_at "wp"
        rw [gIn_strs]
        walk_at "wp"
        split
        · rename_i hin
          have hc2 : ∀ j, j < s → cand j ∈ ns := fun j hj => by
            by_cases e : j + 1 < s
            · exact hc j e
            · have e1 : j = s - 1 := by omega
              rw [e1, ← hzc (by omega)]
              exact hin
          have hfew := cand_few hc2
          have hmany : ns.length < 80 := by omega
          have e1 : ((s : Int) % 26) = ((s % 26 : Nat) : Int) := by omega
          have e2 : ((s : Int) / 26) = ((s / 26 : Nat) : Int) := by omega
          rw [abc_ix (by omega) (by omega)]
          walk_at "wp"
          refine ⟨by decide, ⟨by decide, by decide⟩, ⟨by omega, by omega, by show 1 ≤ 1000; decide⟩, ?_⟩
          have e3 : Txt.mul ⟨#[97 + ((s : Int) % 26).toNat]⟩ (1 + (s : Int) / 26) = cand s := by
            unfold cand
            rw [e1, e2]
            rfl
          rw [e3]
          refine hK2 _ ⟨s + 1, cand s, cand_nm (by omega), by omega, fun j hj => hc2 j (by omega), fun _ => rfl, rfl⟩ ?_
          show (100 - ((s : Int) + 1)).toNat < (100 - (s : Int)).toNat
          omega
        · rename_i hnin
          refine ⟨?_, hK _ ⟨ns ++ [z], fd2, _, _, _, by simp, ?_, fun y hy => ?_, hf2, by rw [List.map_append]; rfl⟩⟩
          · rw [List.length_map, sizeLine_eq]
            omega
          · rw [List.nodup_append]
            refine ⟨hn1, by simp, fun a ha b hb => ?_⟩
            have : b = z := by simpa using hb
            rintro rfl
            exact hnin (this ▸ ha)
          · rcases List.mem_append.mp hy with e | e
            · exact hn2 y e
            · have : y = z := by simpa using e
              exact this ▸ hz
      · rintro env ⟨ns, fd, y1, y2, y3, hl, hn1, hn2, hf, rfl⟩
        rw [rgD_len] at hl
        walk_at "wp"
        exact k ns fd hn1 hn2 (by omega) hf
    · walk_at "wp"
      refine ⟨fd, 3, rfl, hf, rfl, by omega, by omega, fun d fd2 g0 g1 hf2 => ?_⟩
      walk_at "wp"
      split
      · refine ⟨fd2, 4, rfl, hf2, rfl, by omega, by omega, fun d fd3 g0 g1 hf3 => ?_⟩
        walk_at "wp"
        refine ⟨fd3, 1 + d, rfl, hf3, rfl, by omega, by omega, fun z fd4 hz hl hf4 => ?_⟩
        walk_at "wp"
        exact hnx _ ⟨fd4, z, hf4, hz, by omega, rfl⟩
      · exact hnx _ ⟨fd2, _, hf2, low_nil, by decide +kernel, rfl⟩
  · walk_at "wp"
    exact hnx _ ⟨hf, rfl⟩

end Sw

open PySem PySem.Spec L2 Sw
namespace Sw
theorem erase_perm {α : Type} : ∀ {l : List α} {j : Nat} {x : α}, l[j]? = some x → (x :: l.eraseIdx j).Perm l
  | [], _, _, h => by simp at h
  | a :: r, 0, x, h => by
    simp at h
    subst h
    exact List.Perm.refl _
  | a :: r, j + 1, x, h => by
    have ih := erase_perm (l := r) (j := j) (x := x) (by simpa using h)
    exact (List.Perm.swap a x _).trans (ih.cons a)
abbrev Bead := Bool × Str
def bdS (b : Bead) : Str := if b.1 = true then Str.ofString "-" ++ b.2 else b.2
def bdD (b : Bead) : D := .str (bdS b)
def mirB (b : Bead) : Bead := (!b.1, b.2)
theorem dash_tl : (Str.ofString "-").cps.toList = [45] := by decide +kernel
theorem mul_dash {d : Int} (h0 : 0 ≤ d) (h1 : d < 2) (z : Str) : Txt.mul (Str.ofString "-") d ++ z = bdS (decide (d = 1), z) := by
  unfold bdS
  by_cases e : d = 1
  · subst e
    rw [if_pos (by simp)]
    congr 1
  · have : d = 0 := by omega
    subst this
    rw [if_neg (by simp)]
    refine ext_tl ?_
    rw [tl_app]
    have : (Txt.mul (Str.ofString "-") 0).cps.toList = [] := by decide +kernel
    rw [this, List.nil_append]
theorem bdS_len (b : Bead) : (bdS b).length ≤ b.2.length + 1 := by
  unfold bdS
  split
  · rw [len_app]
    have : (Str.ofString "-").length = 1 := by decide +kernel
    omega
  · omega
end Sw

open PySem PySem.Spec L2 Sw
namespace Sw
abbrev Strand := Bool × List Bead
def stD (s : Strand) : D := .tuple [.str (if s.1 = true then Str.ofString "ring" else Str.ofString "open"), .tuple (s.2.map bdD)]
def beadsOf (ss : List Strand) : List Bead := ss.flatMap Prod.snd
theorem beadsOf_app (a b : List Strand) : beadsOf (a ++ b) = beadsOf a ++ beadsOf b := List.flatMap_append
theorem beads_few (ss : List Strand) (h : ∀ s ∈ ss, s.2 ≠ []) : ss.length ≤ (beadsOf ss).length := by
  induction ss with
  | nil => exact Nat.le_refl _
  | cons s r ih =>
    have h1 := ih fun x hx => h x (List.mem_cons_of_mem _ hx)
    have h2 : 1 ≤ s.2.length := by
      have := h s List.mem_cons_self
      cases q : s.2 with
      | nil => exact absurd q this
      | cons a b => simp
    show r.length + 1 ≤ (s.2 ++ beadsOf r).length
    rw [List.length_append]
    omega
def okA : Nat → D → Prop
  | _, .none => True
  | _, .bool _ => True
  | _, .int _ => True
  | _, .str _ => True
  | n + 1, .list xs => xs.length ≤ 100000 ∧ ∀ x ∈ xs, okA n x
  | n + 1, .tuple xs => xs.length ≤ 100000 ∧ ∀ x ∈ xs, okA n x
  | _, _ => False
def spA : Nat → PSp
  | 0 => fun _ _ _ => False
  | n + 1 => fun fl ds Q => fl = none ∧ ∃ d, ds = [d, d] ∧ okA n d ∧ Q (.dt (.bool true)) none
def sp_law_alike : PSp := spA 12
abbrev N_law_alike : List Str := ["_law_found", "_law_due", "_law_k"]
def T_law_alike (sp_law_alike : PSp) : PS' := (sSeq (sIf (qTest (qOp (gIsN false) (qVar 1) (qC .none))) (sRet (qOp (gIsN false) (qVar 0) (qC .none))) sNil)
  (sSeq (sIf (tOr' (qTest (qIsi .bool (qVar 1))) (qTest (qIsi .bool (qVar 0)))) (sRet (qAnd (qIsi .bool (qVar 1)) (qAnd (qIsi .bool (qVar 0)) (qOp (gEq false) (qVar 0) (qVar 1))))) sNil)
  (sSeq (sIf (qTest (qIsi .int (qVar 1))) (sRet (qAnd (qIsi .int (qVar 0)) (qOp (gEq false) (qVar 0) (qVar 1)))) sNil)
  (sSeq (sIf (qTest (qIsi .str (qVar 1))) (sRet (qAnd (qIsi .str (qVar 0)) (qOp (gEq false) (qVar 0) (qVar 1)))) sNil)
  (sSeq (sIf (tOr' (qTest (qOp (gEq true) (qIsi .tuple (qVar 1)) (qIsi .tuple (qVar 0)))) (qTest (qOp (gEq true) (qIsi .list (qVar 1)) (qIsi .list (qVar 0))))) (sRet (qC (.bool false))) sNil)
  (sRet (qAnd (qOp (gEq false) (qCB gLen (qCons (qVar 0) qNil)) (qCB gLen (qCons (qVar 1) qNil))) (qCB gAll (qCons (qF (fLc (iRg1 (qCB gLen (qCons (qVar 1) qNil))) (gN 2) tYes' (qCall sp_law_alike (qAddD (qCons (qOp gIx (qVar 0) (qVar 2)) (qCons (qOp gIx (qVar 1) (qVar 2)) qNil)) [])) [2])) qNil)))))))))
theorem pure_law_alike (n : Nat) (fl : Option (List D)) (ds : List D) (Q : RV → Option (List D) → Prop) (_ : false = true ↔ fl ≠ none) (h : spA (n + 1) fl ds Q) : T_law_alike (spA n) (endsOf false Q) (startE false N_law_alike fl ds) := by
  obtain ⟨rfl, d, rfl, hd, k⟩ := h
  show T_law_alike _ _ [SV.dat d, SV.dat d, SV.un]
  unfold T_law_alike
  have seq : ∀ (c : D) (xs : List D), (∀ i : Int, gIx c (.int i) = atI xs i) → xs.length ≤ 100000 → (∀ x ∈ xs, ∃ m, n = m + 1 ∧ okA m x) →
      pLc (gN 2) tYes' (qCall (spA n) (qAddD (qCons (qOp gIx (qVar 0) (qVar 2)) (qCons (qOp gIx (qVar 1) (qVar 2)) qNil)) [])) [2] (fun ds env' => ∃ d, gAll [PyData.list ds] = some d ∧ Q (RV.dt d) none) (rgD 0 ((xs.length : Int)).toNat) [] [SV.dat c, SV.dat c, SV.un] := fun c xs hg hl hx => by
    refine pLc_inv (fun i acc env => ∃ bs : List Bool, acc = bs.map PyData.bool ∧ (∀ b ∈ bs, b = true) ∧ env = [SV.dat c, SV.dat c, SV.un]) ⟨[], rfl, by simp, rfl⟩ ?_ ?_
    · rintro i d hd acc env ⟨bs, rfl, hb, rfl⟩ K hK
      obtain ⟨hi, rfl⟩ := rgD_get hd
      have hlt : i < xs.length := by omega
      have e : atI xs (0 + (i : Int)) = some xs[i] := by
        rw [Int.zero_add]
        exact atI_nat (List.getElem?_eq_getElem hlt)
      obtain ⟨m, rfl, hm⟩ := hx xs[i] (List.getElem_mem hlt)
      walk_at "wp"
      rw [hg, e]
      walk_at "wp"
      refine ⟨rfl, xs[i], rfl, hm, ?_⟩
      walk_at "wp"
      refine hK _ _ ⟨bs ++ [true], by rw [List.map_append]; rfl, fun b hb' => ?_, rfl⟩
      rcases List.mem_append.mp hb' with e | e
      · exact hb b e
      · simpa using e
    · rintro acc env ⟨bs, rfl, hb, rfl⟩
      walk_at "wp"
      have : bs.all id = true := List.all_eq_true.mpr fun b h => hb b h
      rw [this]
      exact k
  cases d with
  | none => walk_at "wp"; exact k
  | bool b => walk_at "wp"; rw [beq_self_eq_true]; exact k
  | int i => walk_at "wp"; rw [beq_self_eq_true]; exact k
  | str z => walk_at "wp"; rw [beq_self_eq_true]; exact k
  | list xs =>
    have h' : xs.length ≤ 100000 ∧ ∀ x ∈ xs, ∃ m, n = m + 1 ∧ okA m x := by
      cases n with
      | zero => exact hd.elim
      | succ m => exact ⟨hd.1, fun x hx => ⟨m, rfl, hd.2 x hx⟩⟩
    walk_at "wp"
    exact ⟨⟨by omega, by omega⟩, by rw [rgD_len]; omega, seq _ xs (fun _ => rfl) h'.1 h'.2⟩
  | tuple xs =>
    have h' : xs.length ≤ 100000 ∧ ∀ x ∈ xs, ∃ m, n = m + 1 ∧ okA m x := by
      cases n with
      | zero => exact hd.elim
      | succ m => exact ⟨hd.1, fun x hx => ⟨m, rfl, hd.2 x hx⟩⟩
    walk_at "wp"
    exact ⟨⟨by omega, by omega⟩, by rw [rgD_len]; omega, seq _ xs (fun _ => rfl) h'.1 h'.2⟩
  | dict kds => cases n <;> exact hd.elim

end Sw

open PySem PySem.Spec L2 Sw
namespace Sw
theorem bd_get0 (b : Bead) (h : Nm b.2) : ∃ c, (bdS b).cps.toList[0]? = some c ∧ (c = 45 ↔ b.1 = true) := by
  obtain ⟨t, z⟩ := b
  cases t with
  | true =>
    refine ⟨45, ?_, by simp⟩
    unfold bdS
    rw [if_pos rfl, tl_app, dash_tl]
    rfl
  | false =>
    have hz : z.cps.toList ≠ [] := fun e => by
      have h1 := h.2.1
      rw [len_tl, e] at h1
      simp at h1
    obtain ⟨c, r, e⟩ := List.exists_cons_of_ne_nil hz
    refine ⟨c, ?_, ?_⟩
    · unfold bdS
      rw [if_neg (by simp), e]
      rfl
    · have := h.1 c (by rw [e]; exact List.mem_cons_self)
      constructor
      · intro e; omega
      · intro e; cases e
theorem one_eq (c : Nat) : ((⟨#[c]⟩ : Str) == Str.ofString "-") = decide (c = 45) := by
  by_cases h : c = 45
  · subst h; decide +kernel
  · rw [decide_eq_false h]
    refine beq_eq_false_iff_ne.mpr fun e => h ?_
    have := congrArg (fun z : Str => z.cps.toList) e
    have e : [c] = (Str.ofString "-").cps.toList := this
    rw [dash_tl] at e
    simpa using e
theorem bd_len {b : Bead} (h : Nm b.2) : (bdS b).length ≤ 7 := by
  have := bdS_len b
  have := h.2.2
  omega
theorem cut_dash (z : Str) : cutS (Str.ofString "-" ++ z) (some 1) none = z := by
  refine ext_tl ?_
  unfold cutS
  have e : (Str.ofString "-" ++ z).cps.toList = 45 :: z.cps.toList := by rw [tl_app, dash_tl]; rfl
  have hl : (Str.ofString "-" ++ z).length = z.cps.toList.length + 1 := by rw [len_tl, e, List.length_cons]
  show ((Str.ofString "-" ++ z).cps.toList.drop _).take _ = _
  rw [e, HT.sIx_none, show (some (1 : Int)) = some ((1 : Nat) : Int) from rfl, HT.sIx_nat, hl]
  rw [show min 1 (z.cps.toList.length + 1) = 1 by omega]
  show List.take (z.cps.toList.length + 1 - 1) z.cps.toList = z.cps.toList
  rw [Nat.add_sub_cancel, List.take_length]
/-- the text whose first sign is asked -/
theorem bd_first (b : Bead) (h : Nm b.2) {P : D → Prop} : (∃ d, (if (bdS b).length ≤ sizeLine then Option.map (fun c => PyData.str ⟨#[c]⟩) (bdS b).cps.toList[0]? else none) = some d ∧ ∃ d', gEq false d (.str (Str.ofString "-")) = some d' ∧ P d') ↔ P (.bool b.1) := by
  obtain ⟨c, e, hc⟩ := bd_get0 b h
  have hl : (bdS b).length ≤ sizeLine := sizeL (by have := bd_len h; omega)
  rw [if_pos hl, e]
  simp only [Option.map_some, Option.some.injEq, exists_eq_left']
  rw [gEq_ss, one_eq]
  simp only [Option.some.injEq, exists_eq_left']
  have : decide (c = 45) = b.1 := by
    cases q : b.1 with
    | true => exact decide_eq_true (hc.mpr q)
    | false => exact decide_eq_false fun z => by rw [hc.mp z] at q; cases q
  rw [this]
def sp_name_of : PSp := fun fl ds Q => fl = none ∧ ∃ b : Bead, ds = [bdD b] ∧ Nm b.2 ∧ Q (.dt (.str b.2)) none
def sp_mirrored : PSp := fun fl ds Q => fl = none ∧ ∃ b : Bead, ds = [bdD b] ∧ Nm b.2 ∧ Q (.dt (bdD (mirB b))) none
def sp_law_mirrored : PSp := fun fl ds Q => fl = none ∧ ∃ b : Bead, ds = [bdD b] ∧ Nm b.2 ∧ Q (.dt (bdD (mirB b))) none
abbrev N_name_of : List Str := ["bead"]
def T_name_of : PS' := (sSeq (sIf (qTest (qOp (gEq false) (qOp gIx (qVar 0) (qC (.int 0))) (qC (.str "-")))) (sRet (qSl (qVar 0) (qPs (qC (.int 1))) qPn)) sNil)
  (sRet (qVar 0)))
abbrev N_mirrored : List Str := ["bead"]
def T_mirrored : PS' := (sSeq (sIf (qTest (qOp (gEq false) (qOp gIx (qVar 0) (qC (.int 0))) (qC (.str "-")))) (sRet (qSl (qVar 0) (qPs (qC (.int 1))) qPn)) sNil)
  (sRet (qOp gAdd (qC (.str "-")) (qVar 0))))
abbrev N_law_mirrored : List Str := ["_law_bead"]
def T_law_mirrored : PS' := (sSeq (sIf (qTest (qOp (gEq false) (qOp gIx (qVar 0) (qC (.int 0))) (qC (.str "-")))) (sRet (qSl (qVar 0) (qPs (qC (.int 1))) qPn)) sNil)
  (sRet (qOp gAdd (qC (.str "-")) (qVar 0))))
theorem pure_name_of (fl : Option (List D)) (ds : List D) (Q : RV → Option (List D) → Prop) (_ : false = true ↔ fl ≠ none) (h : sp_name_of fl ds Q) : T_name_of (endsOf false Q) (startE false N_name_of fl ds) := by
  obtain ⟨rfl, b, rfl, hb, k⟩ := h
  show T_name_of _ [SV.dat (.str (bdS b))]
  unfold T_name_of
  walk_at "wp"
  rw [bd_first b hb]
  walk_at "wp"
  obtain ⟨t, z⟩ := b
  cases t with
  | true =>
    rw [if_pos rfl]
    refine ⟨sizeL (by have := bd_len hb; omega), ?_⟩
    unfold bdS
    rw [if_pos rfl, cut_dash]
    exact k
  | false =>
    rw [if_neg (by simp)]
    exact k
theorem pure_mirrored (fl : Option (List D)) (ds : List D) (Q : RV → Option (List D) → Prop) (_ : false = true ↔ fl ≠ none) (h : sp_mirrored fl ds Q) : T_mirrored (endsOf false Q) (startE false N_mirrored fl ds) := by
  obtain ⟨rfl, b, rfl, hb, k⟩ := h
  show T_mirrored _ [SV.dat (.str (bdS b))]
  unfold T_mirrored
  walk_at "wp"
  rw [bd_first b hb]
  walk_at "wp"
  obtain ⟨t, z⟩ := b
  cases t with
  | true =>
    rw [if_pos rfl]
    refine ⟨sizeL (by have := bd_len hb; omega), ?_⟩
    unfold bdS
    rw [if_pos rfl, cut_dash]
    exact k
  | false =>
    rw [if_neg (by simp)]
    refine ⟨sizeL (by have := bd_len hb; have : (Str.ofString "-").length = 1 := by decide +kernel
                      omega), k⟩
theorem pure_law_mirrored (fl : Option (List D)) (ds : List D) (Q : RV → Option (List D) → Prop) (hl : false = true ↔ fl ≠ none) (h : sp_law_mirrored fl ds Q) : T_law_mirrored (endsOf false Q) (startE false N_law_mirrored fl ds) := pure_mirrored fl ds Q hl h
def mirR (bs : List Bead) : List Bead := bs.reverse.map mirB
def sp_mirrored_row : PSp := fun fl ds Q => fl = none ∧ ∃ bs : List Bead, (ds = [.tuple (bs.map bdD)] ∨ ds = [.list (bs.map bdD)]) ∧ bs.length ≤ 1000 ∧ (∀ b ∈ bs, Nm b.2) ∧ Q (.dt (.tuple ((mirR bs).map bdD))) none
abbrev N_mirrored_row : List Str := ["beads", "bead"]
def T_mirrored_row : PS' := (sRet (qCB gTuple (qCons (qF (fLc (iAny (qRevA (qVar 0))) (gN 1) tYes' (qCall sp_mirrored (qAddD (qCons (qVar 1) qNil) [])) [1])) qNil)))
theorem mirR_mirR (bs : List Bead) : mirR (mirR bs) = bs := by
  unfold mirR
  rw [← List.map_reverse, List.reverse_reverse, List.map_map]
  have : mirB ∘ mirB = id := by
    funext ⟨t, z⟩
    simp [mirB]
  rw [this, List.map_id]
theorem mirR_len (bs : List Bead) : (mirR bs).length = bs.length := by simp [mirR]
theorem mirR_snd (bs : List Bead) : (mirR bs).map Prod.snd = (bs.map Prod.snd).reverse := by
  unfold mirR
  rw [List.map_map, List.map_reverse]
  rfl
/-- each item by a call that tells f of it -/
theorem map_comp {G : TG'} {TE : PE'} {vs : List Nat} {Q : List D → List SV → Prop} {α : Type} {xs : List α} {e : α → D} {f : α → D} {env : List SV}
    (hs : ∀ x ∈ xs, ∀ K : D → List SV → Prop, K (f x) env → G (e x) env fun env1 => TE env1 fun o env3 => ∃ y env4, o.fz env3 = some (y, env4) ∧ K y (wipeE env4 vs))
    (hd : Q (xs.map f) env) : pLc G tYes' TE vs Q (xs.map e) [] env := by
  refine pLc_inv (fun i acc env' => acc = (xs.take i).map f ∧ env' = env) ⟨rfl, rfl⟩ ?_ ?_
  · rintro i d hdd acc env' ⟨rfl, rfl⟩ K hK
    rw [List.getElem?_map] at hdd
    cases q : xs[i]? with
    | none => rw [q] at hdd; cases hdd
    | some x =>
      rw [q] at hdd
      cases hdd
      have := hs x (List.mem_of_getElem? q) (fun y env4 => K ((xs.take i).map f ++ [y]) env4) (hK _ _ ⟨by rw [List.take_add_one, q, List.map_append]; rfl, rfl⟩)
      simpa [tYes'] using this
  · rintro acc env' ⟨rfl, rfl⟩
    rw [List.length_map, List.take_length]
    exact hd
theorem pure_mirrored_row (fl : Option (List D)) (ds : List D) (Q : RV → Option (List D) → Prop) (_ : false = true ↔ fl ≠ none) (h : sp_mirrored_row fl ds Q) : T_mirrored_row (endsOf false Q) (startE false N_mirrored_row fl ds) := by
  obtain ⟨rfl, bs, hds, hl, hb, k⟩ := h
  have key : ∀ c : D, (∃ d', gRevD c = some d' ∧ itemsOf d' = some (bs.reverse.map bdD)) → T_mirrored_row (endsOf false Q) [SV.dat c, SV.un] := fun c ⟨d', e1, e2⟩ => by
    unfold T_mirrored_row
    walk_at "wp"
    rw [e1]
    walk_at "wp"
    rw [e2]
    walk_at "wp"
    refine ⟨by rw [List.length_map, List.length_reverse]; omega, ?_⟩
    refine map_comp (f := fun b => bdD (mirB b)) (fun b hb' K hK => ?_) ?_
    · walk_at "wp"
      refine ⟨rfl, b, rfl, hb b (List.mem_reverse.mp hb'), ?_⟩
      walk_at "wp"
      exact hK
    · unfold mirR at k
      rw [List.map_map] at k
      exact k
  rcases hds with rfl | rfl
  · exact key _ ⟨_, rfl, by rw [List.map_reverse]; rfl⟩
  · exact key _ ⟨_, rfl, by rw [List.map_reverse]; rfl⟩
end Sw

open PySem PySem.Spec L2 Sw
namespace Sw
theorem okA_str (n : Nat) (z : Str) : okA n (.str z) := by cases n <;> trivial
theorem okA_bds (n : Nat) {bs : List Bead} (h : bs.length ≤ 100000) : okA (n + 1) (.tuple (bs.map bdD)) :=
  ⟨by rw [List.length_map]; exact h, fun x hx => by
    obtain ⟨b, _, rfl⟩ := List.mem_map.mp hx
    exact okA_str _ _⟩
theorem okA_st (n : Nat) {s : Strand} (h : s.2.length ≤ 100000) : okA (n + 2) (stD s) :=
  ⟨by simp, fun x hx => by
    rcases List.mem_cons.mp hx with rfl | hx
    · exact okA_str _ _
    · rcases List.mem_cons.mp hx with rfl | hx
      · exact okA_bds n h
      · cases hx⟩
theorem sortS_len (ys : List Str) : (sortS ys).length = ys.length := (sortS_perm ys).length_eq
theorem bead_nm {bs : List Bead} {ns : List Str} (hp : (bs.map Prod.snd).Perm ns) (hn : ∀ z ∈ ns, Nm z) : ∀ b ∈ bs, Nm b.2 := fun b hb => hn _ (hp.mem_iff.mp (List.mem_map_of_mem hb))
theorem mem_beadsOf {ss : List Strand} {s : Strand} (h : s ∈ ss) {b : Bead} (hb : b ∈ s.2) : b ∈ beadsOf ss := List.mem_flatMap.mpr ⟨s, h, hb⟩
theorem len_beadsOf {ss : List Strand} {s : Strand} (h : s ∈ ss) : s.2.length ≤ (beadsOf ss).length := by
  obtain ⟨a, b, rfl⟩ := List.append_of_mem h
  rw [beadsOf_app, List.length_append]
  show _ ≤ _ + (s.2 ++ beadsOf b).length
  rw [List.length_append]
  omega
theorem flOk0 (ns : List Int) : FlOk (flow0 ns) := ⟨ns, 0, 0, 1, 0, rfl, by omega, by omega, by omega, by omega, by omega⟩

end Sw

open PySem PySem.Spec L2 Sw
namespace Sw
def endD (z : Str) (s : Int) : D := .tuple [.str z, .int s]
def lE (b : Bead) : D := endD b.2 (if b.1 = true then 1 else 0)
def rE (b : Bead) : D := endD b.2 (if b.1 = true then 0 else 1)
/-- what is an end -/
def IsE (d : D) : Prop := ∃ z s, d = endD z s
theorem isE_l (b : Bead) : IsE (lE b) := ⟨_, _, rfl⟩
theorem isE_r (b : Bead) : IsE (rE b) := ⟨_, _, rfl⟩
theorem alike_E {x y : D} (h : IsE x) (g : IsE y) : W.alike x y = true := by
  obtain ⟨z, s, rfl⟩ := h
  obtain ⟨w, t, rfl⟩ := g
  rfl
theorem okI_E {x : D} (h : IsE x) : okI x := by
  obtain ⟨z, s, rfl⟩ := h
  exact ⟨rfl, by simp [endD, PyData.depth, PyData.depthAll]⟩
theorem okD_E {x : D} (h : IsE x) : okD x = true := okD_of (okI_E h)
/-- the joint of two ends -/
def jt (x y : D) : D := .tuple (srtD [x, y])
theorem alikeE {xs : List D} (h : ∀ x ∈ xs, IsE x) : W.AllAlike xs := fun x hx y hy => alike_E (h x hx) (h y hy)
theorem jt_comm {x y : D} (h : IsE x) (g : IsE y) : jt x y = jt y x := by
  unfold jt
  rw [srtD_congr (xs := [y, x]) (ys := [x, y]) (alikeE fun z hz => ?_) (List.Perm.swap _ _ _)]
  rcases List.mem_cons.mp hz with rfl | hz
  · exact g
  · rw [List.mem_singleton.mp hz]; exact h
def b0 : Bead := (false, Str.ofString "")
def firstB (bs : List Bead) : Bead := bs.headD b0
def lastB (bs : List Bead) : Bead := bs.getLastD b0
def adjJ (bs : List Bead) : List D := List.zipWith (fun a b => jt (rE a) (lE b)) bs bs.tail
def closeJ (s : Strand) : List D := if s.1 = true then [jt (rE (lastB s.2)) (lE (firstB s.2))] else [.tuple [lE (firstB s.2)], .tuple [rE (lastB s.2)]]
def strJ (s : Strand) : List D := adjJ s.2 ++ closeJ s
def jts (ss : List Strand) : List D := ss.flatMap strJ
theorem ring_iff (b : Bool) : ((if b = true then Str.ofString "ring" else Str.ofString "open") = Str.ofString "ring") ↔ b = true := by
  cases b with
  | true => simp
  | false => simp; decide +kernel
theorem last_ix {bs : List Bead} (h : bs ≠ []) : atI (bs.map bdD) (-1) = some (bdD (lastB bs)) := by
  refine atI_neg1 ?_
  rw [List.getLast?_map]
  unfold lastB
  rw [List.getLast?_eq_some_getLast h, List.getLastD_eq_getLast?, List.getLast?_eq_some_getLast h]
  rfl
theorem first_ix {bs : List Bead} (h : bs ≠ []) : (bs.map bdD)[0]? = some (bdD (firstB bs)) := by
  cases bs with
  | nil => exact absurd rfl h
  | cons a r => rfl
theorem first_mem {bs : List Bead} (h : bs ≠ []) : firstB bs ∈ bs := by
  cases bs with
  | nil => exact absurd rfl h
  | cons a r => exact List.mem_cons_self
theorem last_mem {bs : List Bead} (h : bs ≠ []) : lastB bs ∈ bs := by
  unfold lastB
  rw [List.getLastD_eq_getLast?, List.getLast?_eq_some_getLast h]
  exact List.getLast_mem h
/-- what is a joint, as it stands in a set's joints -/
def IsJ (d : D) : Prop := ∃ es : List D, d = .tuple es ∧ (∀ e ∈ es, IsE e) ∧ es ≠ [] ∧ es.length ≤ 2
theorem isJ_one {x : D} (h : IsE x) : IsJ (.tuple [x]) := ⟨_, rfl, fun e he => by rw [List.mem_singleton.mp he]; exact h, by simp, by simp⟩
theorem alikeAll_E : ∀ {xs ys : List D}, (∀ x ∈ xs, IsE x) → (∀ y ∈ ys, IsE y) → W.alikeAll xs ys = true
  | [], _, _, _ => by simp [W.alikeAll]
  | _ :: _, [], _, _ => by simp [W.alikeAll]
  | x :: xs, y :: ys, h, g => by
    simp only [W.alikeAll, Bool.and_eq_true]
    exact ⟨alike_E (h x List.mem_cons_self) (g y List.mem_cons_self), alikeAll_E (fun z hz => h z (List.mem_cons_of_mem _ hz)) fun z hz => g z (List.mem_cons_of_mem _ hz)⟩
theorem alike_J {x y : D} (h : IsJ x) (g : IsJ y) : W.alike x y = true := by
  obtain ⟨a, rfl, ha, _⟩ := h
  obtain ⟨b, rfl, hb, _⟩ := g
  simp only [W.alike]
  exact alikeAll_E ha hb
theorem okD_J {x : D} (h : IsJ x) : okD x = true := by
  obtain ⟨a, rfl, ha, _⟩ := h
  exact (okD_list fun z hz => okI_E (ha z hz)).2
theorem allAlikeJ {xs : List D} (h : ∀ x ∈ xs, IsJ x) : W.AllAlike xs := fun x hx y hy => alike_J (h x hx) (h y hy)
theorem okSort_of {xs : List D} (h1 : ∀ x ∈ xs, okD x = true) (h2 : W.AllAlike xs) (h3 : ∀ x ∈ xs, tup1 x = true) : okSort xs = true := by
  unfold okSort
  rw [List.all_eq_true.mpr h1, List.all_eq_true.mpr h3, Bool.true_or, Bool.and_true, Bool.true_and]
  exact List.all_eq_true.mpr fun x hx => List.all_eq_true.mpr fun y hy => h2 x hx y hy
theorem okSort_J {xs : List D} (h : ∀ x ∈ xs, IsJ x) : okSort xs = true := okSort_of (fun x hx => okD_J (h x hx)) (allAlikeJ h) fun x hx => by
  obtain ⟨a, rfl, _, ha, _⟩ := h x hx
  cases a with
  | nil => exact absurd rfl ha
  | cons y r => rfl
theorem okSort_E {xs : List D} (h : ∀ x ∈ xs, IsE x) : okSort xs = true := okSort_of (fun x hx => okD_E (h x hx)) (alikeE h) fun x hx => by
  obtain ⟨z, s, rfl⟩ := h x hx
  rfl
theorem jts_snoc (ss : List Strand) (s : Strand) : jts (ss ++ [s]) = jts ss ++ strJ s := by
  unfold jts
  rw [List.flatMap_append]
  simp
theorem gSortD_ok {ds : List D} (h : okSort ds = true) : gSortD [.list ds] = some (srtD ds) := by
  show (if okSort ds = true then some (srtD ds) else none) = _
  rw [if_pos h]
def GoodS (ss : List Strand) : Prop := (∀ s ∈ ss, s.2 ≠ []) ∧ (beadsOf ss).length ≤ 1000 ∧ ∀ b ∈ beadsOf ss, Nm b.2
theorem GoodS.nm {ss : List Strand} (h : GoodS ss) {s : Strand} (hs : s ∈ ss) : ∀ b ∈ s.2, Nm b.2 := fun b hb => h.2.2 b (mem_beadsOf hs hb)
theorem GoodS.len {ss : List Strand} (h : GoodS ss) {s : Strand} (hs : s ∈ ss) : s.2.length ≤ 1000 := by
  have := len_beadsOf hs
  have := h.2.1
  omega
end Sw

open PySem PySem.Spec L2 Sw
namespace Sw
theorem cutD_drop {ds : List D} {n : Nat} (h : n ≤ ds.length) : cutD ds (some (n : Int)) none = ds.drop n := by
  unfold cutD
  rw [HT.sIx_none, HT.sIx_nat, Nat.min_eq_left h]
  refine List.take_of_length_le ?_
  rw [List.length_drop]
  exact Nat.le_refl _
theorem cutD_take {ds : List D} {n : Nat} (h : n ≤ ds.length) : cutD ds none (some (n : Int)) = ds.take n := by
  unfold cutD
  rw [HT.sIx_none, HT.sIx_nat, Nat.min_eq_left h]
  show (ds.drop 0).take (n - 0) = _
  rw [List.drop_zero, Nat.sub_zero]
end Sw

open PySem PySem.Spec L2 Sw
namespace Sw

end Sw

open PySem PySem.Spec L2 Sw
namespace Sw
inductive All2 {α β : Type} (R : α → β → Prop) : List α → List β → Prop
  | nil : All2 R [] []
  | cons {a : α} {b : β} {as : List α} {bs : List β} : R a b → All2 R as bs → All2 R (a :: as) (b :: bs)
structure Rst (s t : Strand) : Prop where
  kind : t.1 = s.1
  beads : ∃ r, (r = s.2 ∨ (s.1 = true ∧ ∃ n, n ≤ s.2.length ∧ r = s.2.drop n ++ s.2.take n)) ∧ (t.2 = r ∨ t.2 = mirR r)
theorem adjJ_cons (a b : Bead) (r : List Bead) : adjJ (a :: b :: r) = jt (rE a) (lE b) :: adjJ (b :: r) := rfl
theorem first_app {A B : List Bead} (h : A ≠ []) : firstB (A ++ B) = firstB A := by
  cases A with
  | nil => exact absurd rfl h
  | cons a r => rfl
theorem last_app {A B : List Bead} (h : B ≠ []) : lastB (A ++ B) = lastB B := by
  unfold lastB
  rw [List.getLastD_eq_getLast?, List.getLastD_eq_getLast?, List.getLast?_append, List.getLast?_eq_some_getLast h]
  rfl
theorem last_cons {a : Bead} {r : List Bead} (h : r ≠ []) : lastB (a :: r) = lastB r := last_app (A := [a]) h
theorem adjJ_app : ∀ {A B : List Bead}, A ≠ [] → B ≠ [] → adjJ (A ++ B) = adjJ A ++ jt (rE (lastB A)) (lE (firstB B)) :: adjJ B
  | [], _, h, _ => absurd rfl h
  | [a], [], _, h => absurd rfl h
  | [a], b :: r, _, _ => rfl
  | a :: b :: r, B, _, h => by
    have ih := adjJ_app (A := b :: r) (B := B) (by simp) h
    show jt (rE a) (lE b) :: adjJ ((b :: r) ++ B) = _
    rw [ih, last_cons (a := a) (r := b :: r) (by simp)]
    rfl
theorem mirR_ne {bs : List Bead} (h : bs ≠ []) : mirR bs ≠ [] := fun e => h (by have := congrArg List.length e; rw [mirR_len] at this; exact List.eq_nil_of_length_eq_zero this)
theorem mirR_cons (a : Bead) (r : List Bead) : mirR (a :: r) = mirR r ++ [mirB a] := by simp [mirR]
theorem last_mir {bs : List Bead} (h : bs ≠ []) : lastB (mirR bs) = mirB (firstB bs) := by
  cases bs with
  | nil => exact absurd rfl h
  | cons a r =>
    rw [mirR_cons, last_app (by simp)]
    rfl
theorem first_mir : ∀ {bs : List Bead}, bs ≠ [] → firstB (mirR bs) = mirB (lastB bs)
  | [], h => absurd rfl h
  | [a], _ => rfl
  | a :: b :: r, _ => by
    rw [mirR_cons, first_app (mirR_ne (by simp)), first_mir (bs := b :: r) (by simp), last_cons (a := a) (r := b :: r) (by simp)]
theorem lE_mir (b : Bead) : lE (mirB b) = rE b := by
  obtain ⟨t, z⟩ := b
  cases t <;> rfl
theorem rE_mir (b : Bead) : rE (mirB b) = lE b := by
  obtain ⟨t, z⟩ := b
  cases t <;> rfl
theorem adjJ_mir : ∀ bs : List Bead, adjJ (mirR bs) = (adjJ bs).reverse
  | [] => rfl
  | [a] => rfl
  | a :: b :: r => by
    have ih := adjJ_mir (b :: r)
    rw [mirR_cons, adjJ_app (mirR_ne (by simp)) (by simp), ih, last_mir (by simp), adjJ_cons, List.reverse_cons]
    show _ ++ jt (rE (mirB b)) (lE (mirB a)) :: [] = _
    rw [rE_mir, lE_mir, jt_comm (isE_l b) (isE_r a)]
theorem strJ_mir {s : Strand} (h : s.2 ≠ []) : (strJ (s.1, mirR s.2)).Perm (strJ s) := by
  unfold strJ
  rw [adjJ_mir]
  refine List.Perm.append (List.reverse_perm _) ?_
  unfold closeJ
  show List.Perm (if s.1 = true then [jt (rE (lastB (mirR s.2))) (lE (firstB (mirR s.2)))] else [.tuple [lE (firstB (mirR s.2))], .tuple [rE (lastB (mirR s.2))]]) _
  rw [last_mir h, first_mir h, rE_mir, lE_mir, jt_comm (isE_l _) (isE_r _)]
  split
  · exact List.Perm.refl _
  · exact List.Perm.swap _ _ _
theorem strJ_rot {A B : List Bead} : (strJ (true, B ++ A)).Perm (strJ (true, A ++ B)) := by
  by_cases ha : A = []
  · subst ha
    rw [List.append_nil, List.nil_append]
  by_cases hb : B = []
  · subst hb
    rw [List.append_nil, List.nil_append]
  show List.Perm (adjJ (B ++ A) ++ [jt (rE (lastB (B ++ A))) (lE (firstB (B ++ A)))]) (adjJ (A ++ B) ++ [jt (rE (lastB (A ++ B))) (lE (firstB (A ++ B)))])
  rw [adjJ_app hb ha, adjJ_app ha hb, last_app ha, last_app hb, first_app ha, first_app hb]
  have e1 : ∀ (x y : D) (P Q : List D), (P ++ x :: Q ++ [y]) = (P ++ [x]) ++ (Q ++ [y]) := fun x y P Q => by simp
  rw [e1, e1]
  exact List.perm_append_comm
theorem Rst.perm {s t : Strand} (h : Rst s t) (hs : s.2 ≠ []) : (strJ t).Perm (strJ s) ∧ (t.2.map Prod.snd).Perm (s.2.map Prod.snd) := by
  obtain ⟨hk, r, hr, ht⟩ := h
  obtain ⟨k, bs⟩ := s
  obtain ⟨k2, cs⟩ := t
  have hk : k2 = k := hk
  subst hk
  have h1 : (strJ (k2, r)).Perm (strJ (k2, bs)) ∧ (r.map Prod.snd).Perm (bs.map Prod.snd) ∧ r ≠ [] := by
    rcases hr with rfl | ⟨hk, n, hn, rfl⟩
    · exact ⟨List.Perm.refl _, List.Perm.refl _, hs⟩
    · have hk : k2 = true := hk
      subst hk
      refine ⟨?_, ?_, fun e => hs ?_⟩
      · have := strJ_rot (A := bs.take n) (B := bs.drop n)
        rw [List.take_append_drop] at this
        exact this
      · refine List.Perm.map _ ?_
        have := List.perm_append_comm (l₁ := bs.drop n) (l₂ := bs.take n)
        rw [List.take_append_drop] at this
        exact this
      · have e : bs.drop n ++ bs.take n = [] := e
        have hn : n ≤ bs.length := hn
        have := congrArg List.length e
        rw [List.length_append, List.length_drop, List.length_take, List.length_nil] at this
        exact List.eq_nil_of_length_eq_zero (show bs.length = 0 by omega)
  have ht : cs = r ∨ cs = mirR r := ht
  rcases ht with rfl | rfl
  · exact ⟨h1.1, h1.2.1⟩
  · refine ⟨(strJ_mir (s := (k2, r)) h1.2.2).trans h1.1, ?_⟩
    show (List.map Prod.snd (mirR r)).Perm _
    rw [mirR_snd]
    exact (List.reverse_perm _).trans h1.2.1
theorem All2.len {α β : Type} {R : α → β → Prop} : ∀ {as : List α} {bs : List β}, All2 R as bs → as.length = bs.length
  | _, _, .nil => rfl
  | _, _, .cons _ r => by rw [List.length_cons, List.length_cons, r.len]
theorem All2.snoc {α β : Type} {R : α → β → Prop} {a : α} {b : β} (h : R a b) : ∀ {as : List α} {bs : List β}, All2 R as bs → All2 R (as ++ [a]) (bs ++ [b])
  | _, _, .nil => .cons h .nil
  | _, _, .cons x r => .cons x (r.snoc h)
theorem names_nm {as bs : List Bead} (p : (as.map Prod.snd).Perm (bs.map Prod.snd)) (h : ∀ b ∈ bs, Nm b.2) : ∀ a ∈ as, Nm a.2 := fun a ha => by
  obtain ⟨b, hb, e⟩ := List.mem_map.mp (p.mem_iff.mp (List.mem_map_of_mem ha))
  rw [← e]
  exact h b hb
end Sw

open PySem PySem.Spec L2 Sw
namespace Sw
def Rot (c d : List Bead) : Prop := ∃ A B, c = A ++ B ∧ d = B ++ A
theorem Rot.refl (c : List Bead) : Rot c c := ⟨[], c, rfl, by simp⟩
theorem Rot.symm {c d : List Bead} (h : Rot c d) : Rot d c := by
  obtain ⟨A, B, rfl, rfl⟩ := h
  exact ⟨B, A, rfl, rfl⟩
theorem Rot.trans {c d e : List Bead} (h : Rot c d) (g : Rot d e) : Rot c e := by
  obtain ⟨A, B, rfl, rfl⟩ := h
  obtain ⟨C, D, h1, rfl⟩ := g
  rcases List.append_eq_append_iff.mp h1 with ⟨E, rfl, rfl⟩ | ⟨E, rfl, rfl⟩
  · exact ⟨E, D ++ B, by simp, by simp⟩
  · exact ⟨A ++ C, E, by simp, by simp⟩
theorem mirR_app (A B : List Bead) : mirR (A ++ B) = mirR B ++ mirR A := by simp [mirR]
theorem Rot.mir {c d : List Bead} (h : Rot c d) : Rot (mirR c) (mirR d) := by
  obtain ⟨A, B, rfl, rfl⟩ := h
  exact ⟨mirR B, mirR A, mirR_app A B, mirR_app B A⟩
theorem Rot.perm {c d : List Bead} (h : Rot c d) : d.Perm c := by
  obtain ⟨A, B, rfl, rfl⟩ := h
  exact List.perm_append_comm
theorem Rot.of_take (c : List Bead) (n : Nat) : Rot c (c.drop n ++ c.take n) := ⟨c.take n, c.drop n, (List.take_append_drop n c).symm, rfl⟩
/-- the same ring -/
def Cyc (c d : List Bead) : Prop := Rot c d ∨ Rot (mirR c) d
theorem Cyc.refl (c : List Bead) : Cyc c c := .inl (Rot.refl c)
theorem Cyc.symm {c d : List Bead} (h : Cyc c d) : Cyc d c := by
  rcases h with h | h
  · exact .inl h.symm
  · have := h.mir.symm
    rw [mirR_mirR] at this
    exact .inr this
theorem Cyc.trans {c d e : List Bead} (h : Cyc c d) (g : Cyc d e) : Cyc c e := by
  rcases h with h | h
  · rcases g with g | g
    · exact .inl (h.trans g)
    · exact .inr (h.mir.trans g)
  · rcases g with g | g
    · exact .inr (h.trans g)
    · have := h.mir.trans g
      rw [mirR_mirR] at this
      exact .inl this
theorem Cyc.names {c d : List Bead} (h : Cyc c d) : (d.map Prod.snd).Perm (c.map Prod.snd) := by
  rcases h with h | h
  · exact h.perm.map _
  · refine (h.perm.map _).trans ?_
    rw [mirR_snd]
    exact List.reverse_perm _
/-- a bead of its name, once -/
theorem uniq_bead {c : List Bead} (h : (c.map Prod.snd).Nodup) {a b : Bead} (ha : a ∈ c) (hb : b ∈ c) (e : a.2 = b.2) : a = b := by
  induction c with
  | nil => cases ha
  | cons x r ih =>
    rw [List.map_cons, List.nodup_cons] at h
    rcases List.mem_cons.mp ha with hy | ha2
    · subst hy
      rcases List.mem_cons.mp hb with hx | hb2
      · exact hx.symm
      · exact absurd (by rw [e]; exact List.mem_map_of_mem (f := Prod.snd) hb2) h.1
    · rcases List.mem_cons.mp hb with hx | hb2
      · subst hx
        exact absurd (by rw [← e]; exact List.mem_map_of_mem (f := Prod.snd) ha2) h.1
      · exact ih h.2 ha2 hb2
/-- two rows of one ring that begin with the same bead are one -/
theorem cyc_uniq {x : Bead} {c d : List Bead} (hn : ((x :: c).map Prod.snd).Nodup) (h : Cyc (x :: c) (x :: d)) : c = d := by
  rcases h with ⟨A, B, h1, h2⟩ | h
  · cases A with
    | nil =>
      rw [List.nil_append] at h1
      rw [List.append_nil, ← h1] at h2
      exact (List.cons.inj h2).2.symm
    | cons a A =>
      obtain ⟨rfl, rfl⟩ := List.cons.inj h1
      cases B with
      | nil =>
        rw [List.nil_append] at h2
        have e : A ++ [] = d := by rw [List.append_nil]; exact (List.cons.inj h2).2.symm
        exact e
      | cons b B =>
        obtain ⟨rfl, h2⟩ := List.cons.inj h2
        exfalso
        rw [List.map_cons, List.nodup_cons] at hn
        exact hn.1 (List.mem_map_of_mem (by simp))
  · exfalso
    have h1 : mirB x ∈ mirR (x :: c) := by simp [mirR]
    have h2 : x ∈ mirR (x :: c) := h.perm.mem_iff.mp List.mem_cons_self
    have hn2 : ((mirR (x :: c)).map Prod.snd).Nodup := by
      rw [mirR_snd]
      exact (List.reverse_perm _).nodup_iff.mpr hn
    have := uniq_bead hn2 h1 h2 rfl
    have := congrArg Prod.fst this
    simp [mirB] at this

end Sw

open PySem PySem.Spec L2 Sw
namespace Sw
def minS (x : Str) (xs : List Str) : Str := xs.foldl (fun a y => if ltS y a = true then y else a) x
theorem dataLt_str (a b : Str) : W.dataLt (.str a) (.str b) = ltS a b := by
  have h := leD_str b a
  unfold leD at h
  cases q : ltS a b <;> cases q2 : W.dataLt (.str a) (.str b) <;> rw [q, q2] at h <;> first | rfl | cases h
theorem minD_strs (x : Str) (xs : List Str) : W.minD (.str x) (xs.map .str) = .str (minS x xs) := by
  unfold W.minD minS
  induction xs generalizing x with
  | nil => rfl
  | cons y r ih =>
    rw [List.map_cons, List.foldl_cons, List.foldl_cons, dataLt_str]
    by_cases h : ltS y x = true
    · rw [if_pos h, if_pos h]; exact ih y
    · rw [if_neg h, if_neg h]; exact ih x
theorem minS_mem (x : Str) (xs : List Str) : minS x xs ∈ x :: xs := by
  unfold minS
  induction xs generalizing x with
  | nil => exact List.mem_cons_self
  | cons y r ih =>
    rw [List.foldl_cons]
    have := ih (if ltS y x = true then y else x)
    rcases List.mem_cons.mp this with h | h
    · rw [h]
      split
      · exact List.mem_cons_of_mem _ List.mem_cons_self
      · exact List.mem_cons_self
    · exact List.mem_cons_of_mem _ (List.mem_cons_of_mem _ h)
theorem minS_le (x : Str) (xs : List Str) : ∀ z ∈ x :: xs, leS (minS x xs) z := by
  unfold minS
  induction xs generalizing x with
  | nil =>
    intro z hz
    rw [List.mem_singleton.mp hz]
    exact ltS_irr x
  | cons y r ih =>
    intro z hz
    rw [List.foldl_cons]
    have h1 := ih (if ltS y x = true then y else x)
    have h2 := h1 _ List.mem_cons_self
    have hx : leS (if ltS y x = true then y else x) x := by
      split
      · rename_i h; exact ltS_as h
      · exact ltS_irr x
    have hy : leS (if ltS y x = true then y else x) y := by
      split
      · exact ltS_irr y
      · rename_i h; unfold leS; simpa using h
    rcases List.mem_cons.mp hz with rfl | hz
    · exact leS_tr h2 hx
    · rcases List.mem_cons.mp hz with rfl | hz
      · exact leS_tr h2 hy
      · exact h1 z (List.mem_cons_of_mem _ hz)
theorem minOk_strs (ys : List Str) : minOk (ys.map .str) = true := by
  have h1 : (ys.map PyData.str).all okD = true := List.all_eq_true.mpr fun x hx => by
    obtain ⟨y, _, rfl⟩ := List.mem_map.mp hx
    exact okD_of (okI_str y)
  have h2 : (ys.map PyData.str).all (fun d => !noneD d) = true := List.all_eq_true.mpr fun x hx => by
    obtain ⟨y, _, rfl⟩ := List.mem_map.mp hx
    rfl
  have h3 : ((ys.map PyData.str).all fun d => (ys.map PyData.str).all fun e => W.alike d e) = true := List.all_eq_true.mpr fun x hx => List.all_eq_true.mpr fun z hz => by
    obtain ⟨y, _, rfl⟩ := List.mem_map.mp hx
    obtain ⟨y2, _, rfl⟩ := List.mem_map.mp hz
    rfl
  unfold minOk
  rw [h1, h2, h3]
  rfl
theorem gMinL_strs (x : Str) (xs : List Str) : gBestL W.minD [.list ((x :: xs).map .str)] = some (.str (minS x xs)) := by
  have h : minOk (PyData.str x :: xs.map .str) = true := minOk_strs (x :: xs)
  show (if minOk (PyData.str x :: xs.map .str) = true then some (W.minD (PyData.str x) (xs.map .str)) else none) = _
  rw [if_pos h, minD_strs]
theorem shaped_str {z : Str} (h : Low z) : SeqAt.shaped (.str z) = true := by
  unfold SeqAt.shaped
  rw [Bool.and_eq_true]
  refine ⟨?_, by rw [decide_eq_true_eq]; simp [PyData.depth]⟩
  show (z.cps.all fun c => decide (c < 0x110000)) = true
  rw [← Array.all_toList, List.all_eq_true]
  intro c hc
  have := h c hc
  exact decide_eq_true (by omega)
theorem shaped_strs {ys : List Str} (h : ∀ y ∈ ys, Low y) : SeqAt.shaped (.list (ys.map .str)) = true := by
  unfold SeqAt.shaped
  rw [Bool.and_eq_true]
  constructor
  · show PyData.canLayAll0 (ys.map .str) = true
    induction ys with
    | nil => rfl
    | cons y r ih =>
      rw [List.map_cons, PyData.canLayAll0, Bool.and_eq_true]
      exact ⟨SeqAt.canLay_of_shaped (shaped_str (h y List.mem_cons_self)), ih fun z hz => h z (List.mem_cons_of_mem _ hz)⟩
  · rw [decide_eq_true_eq]
    have : ∀ ys : List Str, PyData.depthAll (ys.map .str) = 0 := by
      intro ys
      induction ys with
      | nil => rfl
      | cons y r ih => rw [List.map_cons, PyData.depthAll, ih]; rfl
    rw [PyData.depth, this]
    omega
theorem gIndex_strs {ys : List Str} {m : Str} (h : ∀ y ∈ ys, Low y) (hm : m ∈ ys) : ∃ i, ys[i]? = some m ∧ gIndex (.list (ys.map .str)) [.str m] = some (.int (i : Nat)) := by
  have e : (ys.map PyData.str).findIdx? (fun z => PyData.eqv z (.str m)) = ys.findIdx? fun z => z == m := by
    rw [List.findIdx?_map]
    rfl
  cases q : ys.findIdx? fun z => z == m with
  | none =>
    have := List.findIdx?_eq_none_iff.mp q m hm
    simp at this
  | some i =>
    obtain ⟨hi, h1, _⟩ := List.findIdx?_eq_some_iff_getElem.mp q
    refine ⟨i, by rw [List.getElem?_eq_getElem hi, eq_of_beq h1], ?_⟩
    show (if SeqAt.shaped (.list (ys.map PyData.str)) = true ∧ SeqAt.shaped (.str m) = true then ((ys.map PyData.str).findIdx? fun z => PyData.eqv z (.str m)).map fun j => PyData.int (j : Nat) else none) = _
    rw [if_pos ⟨shaped_strs h, shaped_str (h m hm)⟩, e, q]
    rfl

end Sw

open PySem PySem.Spec L2 Sw
namespace Sw
structure EqS (s t : Strand) : Prop where
  kind : t.1 = s.1
  op : s.1 = false → t.2 = s.2 ∨ t.2 = mirR s.2
  ri : s.1 = true → Cyc s.2 t.2
theorem EqS.refl (s : Strand) : EqS s s := ⟨rfl, fun _ => .inl rfl, fun _ => Cyc.refl _⟩
theorem EqS.symm {s t : Strand} (h : EqS s t) : EqS t s := by
  refine ⟨h.kind.symm, fun e => ?_, fun e => (h.ri (h.kind ▸ e)).symm⟩
  rcases h.op (h.kind ▸ e) with q | q
  · exact .inl q.symm
  · refine .inr ?_
    rw [q, mirR_mirR]
theorem EqS.trans {s t u : Strand} (h : EqS s t) (g : EqS t u) : EqS s u := by
  refine ⟨g.kind.trans h.kind, fun e => ?_, fun e => (h.ri e).trans (g.ri (h.kind.trans e))⟩
  rcases h.op e with q | q
  · rcases g.op (h.kind.trans e) with r | r
    · exact .inl (r.trans q)
    · exact .inr (by rw [r, q])
  · rcases g.op (h.kind.trans e) with r | r
    · exact .inr (r.trans q)
    · exact .inl (by rw [r, q, mirR_mirR])
def Equ (ss ts : List Strand) : Prop := ∃ us, us.Perm ss ∧ All2 EqS us ts
theorem All2.mono {α β : Type} {R S : α → β → Prop} (h : ∀ a b, R a b → S a b) : ∀ {as : List α} {bs : List β}, All2 R as bs → All2 S as bs
  | _, _, .nil => .nil
  | _, _, .cons a r => .cons (h _ _ a) (r.mono h)
theorem All2.flip {α β : Type} {R : α → β → Prop} : ∀ {as : List α} {bs : List β}, All2 R as bs → All2 (fun b a => R a b) bs as
  | _, _, .nil => .nil
  | _, _, .cons a r => .cons a r.flip
theorem All2.comp {α β γ : Type} {R : α → β → Prop} {S : β → γ → Prop} {T : α → γ → Prop} (h : ∀ a b c, R a b → S b c → T a c) : ∀ {as : List α} {bs : List β} {cs : List γ}, All2 R as bs → All2 S bs cs → All2 T as cs
  | _, _, _, .nil, .nil => .nil
  | _, _, _, .cons a r, .cons b q => .cons (h _ _ _ a b) (r.comp h q)
theorem All2.eq_of {α : Type} {R : α → α → Prop} : ∀ {as bs : List α}, All2 R as bs → (∀ a ∈ as, ∀ b ∈ bs, R a b → a = b) → as = bs
  | _, _, .nil, _ => rfl
  | _, _, .cons a r, h => by
    rw [h _ List.mem_cons_self _ List.mem_cons_self a, r.eq_of fun x hx y hy => h x (List.mem_cons_of_mem _ hx) y (List.mem_cons_of_mem _ hy)]
theorem All2.app {α β : Type} {R : α → β → Prop} : ∀ {as as' : List α} {bs bs' : List β}, All2 R as bs → All2 R as' bs' → All2 R (as ++ as') (bs ++ bs')
  | _, _, _, _, .nil, q => q
  | _, _, _, _, .cons a r, q => .cons a (r.app q)
/-- the second row may be put in any order -/
theorem All2.perm {α β : Type} {R : α → β → Prop} {bs cs : List β} (p : bs.Perm cs) : ∀ {as : List α}, All2 R as bs → ∃ ds, ds.Perm as ∧ All2 R ds cs := by
  induction p with
  | nil => intro as h; exact ⟨as, List.Perm.refl _, h⟩
  | cons x p ih =>
    intro as h
    cases h with
    | cons a r =>
      obtain ⟨ds, h1, h2⟩ := ih r
      exact ⟨_ :: ds, h1.cons _, .cons a h2⟩
  | swap x y l =>
    intro as h
    cases h with
    | cons a r =>
      cases r with
      | cons b r => exact ⟨_ :: _ :: _, List.Perm.swap _ _ _, .cons b (.cons a r)⟩
  | trans p q ih1 ih2 =>
    intro as h
    obtain ⟨ds, h1, h2⟩ := ih1 h
    obtain ⟨es, h3, h4⟩ := ih2 h2
    exact ⟨es, h3.trans h1, h4⟩
theorem Equ.refl (ss : List Strand) : Equ ss ss := by
  refine ⟨ss, List.Perm.refl _, ?_⟩
  induction ss with
  | nil => exact .nil
  | cons s r ih => exact .cons (EqS.refl s) ih
theorem Equ.symm {ss ts : List Strand} (h : Equ ss ts) : Equ ts ss := by
  obtain ⟨us, p, h⟩ := h
  exact (h.flip.mono fun _ _ q => EqS.symm q).perm p
theorem Equ.trans {ss ts vs : List Strand} (h : Equ ss ts) (g : Equ ts vs) : Equ ss vs := by
  obtain ⟨us, p, h⟩ := h
  obtain ⟨ws, q, g⟩ := g
  obtain ⟨xs, h1, h2⟩ := h.perm q.symm
  exact ⟨xs, h1.trans p, All2.comp (R := EqS) (S := EqS) (T := EqS) (fun _ _ _ a b => a.trans b) h2 g⟩
theorem rot_rst {b : Bool} {c d : List Bead} (h : Rot c d) : Rst (true, c) (true, d) := by
  obtain ⟨A, B, rfl, rfl⟩ := h
  refine ⟨rfl, B ++ A, .inr ⟨rfl, A.length, ?_, ?_⟩, .inl rfl⟩
  · show A.length ≤ (A ++ B).length
    rw [List.length_append]; omega
  · show B ++ A = (A ++ B).drop A.length ++ (A ++ B).take A.length
    rw [List.drop_left, List.take_left]
theorem EqS.perm {s t : Strand} (h : EqS s t) (hs : s.2 ≠ []) : (strJ t).Perm (strJ s) ∧ (t.2.map Prod.snd).Perm (s.2.map Prod.snd) := by
  obtain ⟨k, bs⟩ := s
  obtain ⟨k2, cs⟩ := t
  have hk : k2 = k := h.kind
  subst hk
  cases k2 with
  | false => exact Rst.perm ⟨rfl, bs, .inl rfl, h.op rfl⟩ hs
  | true =>
    rcases h.ri rfl with q | q
    · exact (rot_rst (b := true) q).perm hs
    · have h1 := (rot_rst (b := true) q).perm (mirR_ne hs)
      have h2 : (strJ (true, mirR bs)).Perm (strJ (true, bs)) := strJ_mir (s := (true, bs)) hs
      refine ⟨h1.1.trans h2, h1.2.trans ?_⟩
      show ((mirR bs).map Prod.snd).Perm (bs.map Prod.snd)
      rw [mirR_snd]
      exact List.reverse_perm _
theorem equ_all : ∀ {us ts : List Strand}, All2 EqS us ts → (∀ s ∈ us, s.2 ≠ []) → (jts ts).Perm (jts us) ∧ ((beadsOf ts).map Prod.snd).Perm ((beadsOf us).map Prod.snd) ∧ ∀ t ∈ ts, t.2 ≠ []
  | _, _, .nil, _ => ⟨List.Perm.refl _, List.Perm.refl _, fun _ h => nomatch h⟩
  | _, _, .cons (a := s) (b := t) (as := us) (bs := ts) h r, hn => by
    obtain ⟨a1, a2⟩ := h.perm (hn s List.mem_cons_self)
    obtain ⟨b1, b2, b3⟩ := equ_all r fun x hx => hn x (List.mem_cons_of_mem _ hx)
    refine ⟨a1.append b1, ?_, fun x hx => ?_⟩
    · show ((t.2 ++ beadsOf ts).map Prod.snd).Perm ((s.2 ++ beadsOf us).map Prod.snd)
      rw [List.map_append, List.map_append]
      exact a2.append b2
    · rcases List.mem_cons.mp hx with rfl | hx
      · intro e
        have := a2.length_eq
        rw [e, List.length_map, List.length_map] at this
        exact hn s List.mem_cons_self (List.eq_nil_of_length_eq_zero this.symm)
      · exact b3 x hx
theorem equ_facts {ss ts : List Strand} (h : Equ ss ts) (hn : ∀ s ∈ ss, s.2 ≠ []) : (jts ts).Perm (jts ss) ∧ ((beadsOf ts).map Prod.snd).Perm ((beadsOf ss).map Prod.snd) ∧ ∀ t ∈ ts, t.2 ≠ [] := by
  obtain ⟨us, p, h⟩ := h
  obtain ⟨a, b, c⟩ := equ_all h fun s hs => hn s (p.mem_iff.mp hs)
  exact ⟨a.trans (p.flatMap_right _), b.trans ((p.flatMap_right _).map _), c⟩
theorem equ_good {ss ts : List Strand} (h : Equ ss ts) (g : GoodS ss) : GoodS ts := by
  obtain ⟨a, b, c⟩ := equ_facts h g.1
  have hl := b.length_eq
  rw [List.length_map, List.length_map] at hl
  exact ⟨c, by rw [hl]; exact g.2.1, names_nm b g.2.2⟩

end Sw

open PySem PySem.Spec L2 Sw
namespace Sw
def FormO (bs : List Bead) : Prop := (bs.length = 1 → (firstB bs).1 = false) ∧ (1 < bs.length → ltS (lastB bs).2 (firstB bs).2 = false)
def FormR (bs : List Bead) : Prop := (firstB bs).1 = false ∧ ∀ b ∈ bs, leS (firstB bs).2 b.2
def FormS (s : Strand) : Prop := (s.1 = false → FormO s.2) ∧ (s.1 = true → FormR s.2)
theorem first_ne_last {bs : List Bead} (hn : (bs.map Prod.snd).Nodup) (h : 1 < bs.length) : (firstB bs).2 ≠ (lastB bs).2 := by
  match bs, h with
  | a :: b :: r, _ =>
    intro e
    rw [last_cons (a := a) (r := b :: r) (by simp)] at e
    rw [List.map_cons, List.nodup_cons] at hn
    have hm : lastB (b :: r) ∈ b :: r := last_mem (by simp)
    exact hn.1 (by show a.2 ∈ _; rw [show a.2 = (lastB (b :: r)).2 from e]; exact List.mem_map_of_mem hm)
theorem form_uniq {s t : Strand} (h : EqS s t) (fs : FormS s) (ft : FormS t) (hs : s.2 ≠ []) (ht : t.2 ≠ []) (hn : (s.2.map Prod.snd).Nodup) : s = t := by
  obtain ⟨k, bs⟩ := s
  obtain ⟨k2, cs⟩ := t
  have hk : k2 = k := h.kind
  subst hk
  have hs : bs ≠ [] := hs
  have ht : cs ≠ [] := ht
  cases k2 with
  | false =>
    have f1 : FormO bs := fs.1 rfl
    have f2 : FormO cs := ft.1 rfl
    rcases h.op rfl with e | e
    · have e : cs = bs := e
      rw [e]
    · exfalso
      have e : cs = mirR bs := e
      subst e
      have hl := mirR_len bs
      by_cases h1 : bs.length = 1
      · have a1 := f1.1 h1
        have a2 := f2.1 (by rw [hl]; exact h1)
        rw [first_mir hs] at a2
        obtain ⟨b, rfl⟩ := List.length_eq_one_iff.mp h1
        have a1 : b.1 = false := a1
        have a2 : (!b.1) = false := a2
        rw [a1] at a2
        cases a2
      · have h2 : 1 < bs.length := by
          cases bs with
          | nil => exact absurd rfl hs
          | cons a r => simp only [List.length_cons] at h1 ⊢; omega
        have a1 := f1.2 h2
        have a2 := f2.2 (by rw [hl]; exact h2)
        rw [first_mir hs, last_mir hs] at a2
        exact first_ne_last hn h2 (ltS_tri a2 a1)
  | true =>
    have f1 : FormR bs := fs.2 rfl
    have f2 : FormR cs := ft.2 rfl
    have hc : Cyc bs cs := h.ri rfl
    cases bs with
    | nil => exact absurd rfl hs
    | cons x c =>
      cases cs with
      | nil => exact absurd rfl ht
      | cons y d =>
        have p := hc.names
        have hy : y.2 ∈ (x :: c).map Prod.snd := p.mem_iff.mp List.mem_cons_self
        have hx : x.2 ∈ (y :: d).map Prod.snd := p.mem_iff.mpr List.mem_cons_self
        obtain ⟨b1, hb1, e1⟩ := List.mem_map.mp hy
        obtain ⟨b2, hb2, e2⟩ := List.mem_map.mp hx
        have l1 : leS x.2 y.2 := by rw [← e1]; exact f1.2 b1 hb1
        have l2 : leS y.2 x.2 := by rw [← e2]; exact f2.2 b2 hb2
        have exy : x = y := Prod.ext ((f1.1 : x.1 = false).trans (f2.1 : y.1 = false).symm) (ltS_tri l2 l1)
        subst exy
        rw [cyc_uniq hn hc]
theorem cutD_last {ds : List D} (h : 1 ≤ ds.length) : cutD ds (some (-1)) none = ds.drop (ds.length - 1) := by
  unfold cutD
  have e : HT.sIx ds.length 0 (some (-1)) = ds.length - 1 := by
    show (if (-1 : Int) < 0 then (-1 + (ds.length : Int)).toNat else min (-1 : Int).toNat ds.length) = _
    rw [if_pos (by decide)]
    omega
  rw [e, HT.sIx_none]
  refine List.take_of_length_le ?_
  rw [List.length_drop]
  exact Nat.le_refl _
theorem cutD_init {ds : List D} (h : 1 ≤ ds.length) : cutD ds none (some (-1)) = ds.take (ds.length - 1) := by
  unfold cutD
  have e : HT.sIx ds.length ds.length (some (-1)) = ds.length - 1 := by
    show (if (-1 : Int) < 0 then (-1 + (ds.length : Int)).toNat else min (-1 : Int).toNat ds.length) = _
    rw [if_pos (by decide)]
    omega
  rw [e, HT.sIx_none]
  show (ds.drop 0).take _ = _
  rw [List.drop_zero, Nat.sub_zero]
def sp_open_canon : PSp := fun fl ds Q => fl = none ∧ ∃ bs : List Bead, ds = [.tuple (bs.map bdD)] ∧ bs ≠ [] ∧ bs.length ≤ 1000 ∧ (∀ b ∈ bs, Nm b.2) ∧ ∀ c, (c = bs ∨ c = mirR bs) → FormO c → Q (.dt (.tuple (c.map bdD))) none
abbrev N_open_canon : List Str := ["beads"]
def T_open_canon : PS' := (sSeq (sIf (qTest (qOp (gEq false) (qCB gLen (qCons (qVar 0) qNil)) (qC (.int 1)))) (sRet (qTup (qCons (qCall sp_name_of (qAddD (qCons (qOp gIx (qVar 0) (qC (.int 0))) qNil) [])) qNil))) sNil)
  (sSeq (sIf (qTest (qOp gLt (qCall sp_name_of (qAddD (qCons (qOp gIx (qVar 0) (qNeg (qC (.int 1)))) qNil) [])) (qCall sp_name_of (qAddD (qCons (qOp gIx (qVar 0) (qC (.int 0))) qNil) [])))) (sRet (qCall sp_mirrored_row (qAddD (qCons (qVar 0) qNil) []))) sNil)
  (sRet (qCB gTuple (qCons (qVar 0) qNil)))))
theorem pure_open_canon (fl : Option (List D)) (ds : List D) (Q : RV → Option (List D) → Prop) (_ : false = true ↔ fl ≠ none) (h : sp_open_canon fl ds Q) : T_open_canon (endsOf false Q) (startE false N_open_canon fl ds) := by
  obtain ⟨rfl, bs, rfl, hne, hl, hn, k⟩ := h
  show T_open_canon _ [SV.dat (.tuple (bs.map bdD))]
  unfold T_open_canon
  walk_at "wp"
  have hf := hn _ (first_mem hne)
  have hla := hn _ (last_mem hne)
  rw [List.length_map]
  by_cases h1 : bs.length = 1
  · rw [if_pos (by omega)]
    obtain ⟨b, rfl⟩ := List.length_eq_one_iff.mp h1
    refine ⟨_, rfl, rfl, b, rfl, hf, ?_⟩
    walk_at "wp"
    refine ⟨sizeL (by decide), ?_⟩
    have := k [(false, b.2)] (by
      obtain ⟨t, z⟩ := b
      cases t with
      | false => exact .inl rfl
      | true => exact .inr rfl) ⟨fun _ => rfl, fun h => absurd h (by simp)⟩
    exact this
  · rw [if_neg (by omega)]
    have h2 : 1 < bs.length := by
      cases bs with
      | nil => exact absurd rfl hne
      | cons a r => simp only [List.length_cons] at h1 ⊢; omega
    refine ⟨_, last_ix hne, rfl, _, rfl, hla, ?_⟩
    walk_at "wp"
    refine ⟨_, first_ix hne, rfl, _, rfl, hf, ?_⟩
    walk_at "wp"
    split
    · rename_i hlt
      refine ⟨rfl, bs, .inl rfl, hl, hn, ?_⟩
      walk_at "wp"
      refine k _ (.inr rfl) ⟨fun h => absurd h (by rw [mirR_len]; exact h1), fun _ => ?_⟩
      rw [last_mir hne, first_mir hne]
      exact ltS_as hlt
    · rename_i hlt
      exact k _ (.inl rfl) ⟨fun h => absurd h h1, fun _ => by simpa using hlt⟩
theorem gIx_bd (b : Bead) : gIx (bdD b) (.int 0) = if (bdS b).length ≤ sizeLine then Option.map (fun c => PyData.str ⟨#[c]⟩) (bdS b).cps.toList[0]? else none := by
  show (if (bdS b).length ≤ sizeLine then (atI (bdS b).cps.toList 0).map fun c => PyData.str ⟨#[c]⟩ else none) = _
  rw [atI_lit]
theorem bd_firstN (b : Bead) (h : Nm b.2) {P : D → Prop} : (∃ d, (if (bdS b).length ≤ sizeLine then Option.map (fun c => PyData.str ⟨#[c]⟩) (bdS b).cps.toList[0]? else none) = some d ∧ ∃ d', gEq true d (.str (Str.ofString "-")) = some d' ∧ P d') ↔ P (.bool (!b.1)) := by
  obtain ⟨c, e, hc⟩ := bd_get0 b h
  have hl : (bdS b).length ≤ sizeLine := sizeL (by have := bd_len h; omega)
  rw [if_pos hl, e]
  simp only [Option.map_some, Option.some.injEq, exists_eq_left']
  rw [gNe_ss, one_eq]
  simp only [Option.some.injEq, exists_eq_left']
  have : decide (c = 45) = b.1 := by
    cases q : b.1 with
    | true => exact decide_eq_true (hc.mpr q)
    | false => exact decide_eq_false fun z => by rw [hc.mp z] at q; cases q
  rw [this]
def sp_ring_canon : PSp := fun fl ds Q => fl = none ∧ ∃ bs : List Bead, ds = [.tuple (bs.map bdD)] ∧ bs ≠ [] ∧ bs.length ≤ 1000 ∧ (∀ b ∈ bs, Nm b.2) ∧ ∀ c, Cyc bs c → FormR c → Q (.dt (.tuple (c.map bdD))) none
abbrev N_ring_canon : List Str := ["beads", "names", "at", "begun", "turned", "bead"]
def T_ring_canon : PS' := (sSeq (sAsg 1 (qF (fLc (iAny (qVar 0)) (gN 5) tYes' (qCall sp_name_of (qAddD (qCons (qVar 5) qNil) [])) [5])))
  (sSeq (sAsg 2 (qVM "list" gIndex (qVar 1) (qCons (qCB (gBestL W.minD) (qCons (qVar 1) qNil)) qNil)))
  (sSeq (sAsg 3 (qOp gAdd (qCB gTuple (qCons (qSl (qVar 0) (qPs (qVar 2)) qPn) qNil)) (qCB gTuple (qCons (qSl (qVar 0) qPn (qPs (qVar 2))) qNil))))
  (sSeq (sIf (qTest (qOp (gEq true) (qOp gIx (qOp gIx (qVar 3) (qC (.int 0))) (qC (.int 0))) (qC (.str "-")))) (sRet (qVar 3)) sNil)
  (sSeq (sAsg 4 (qCall sp_mirrored_row (qAddD (qCons (qVar 3) qNil) [])))
  (sRet (qOp gAdd (qSl (qVar 4) (qPs (qNeg (qC (.int 1)))) qPn) (qSl (qVar 4) qPn (qPs (qNeg (qC (.int 1))))))))))))
theorem pure_ring_canon (fl : Option (List D)) (ds : List D) (Q : RV → Option (List D) → Prop) (_ : false = true ↔ fl ≠ none) (h : sp_ring_canon fl ds Q) : T_ring_canon (endsOf false Q) (startE false N_ring_canon fl ds) := by
  obtain ⟨rfl, bs, rfl, hne, hl, hn, k⟩ := h
  show T_ring_canon _ [SV.dat (.tuple (bs.map bdD)), SV.un, SV.un, SV.un, SV.un, SV.un]
  unfold T_ring_canon
  walk_at "wp"
  refine ⟨by rw [List.length_map]; omega, ?_⟩
  refine map_comp (f := fun b => PyData.str b.2) (fun b hb K hK => ?_) ?_
  · walk_at "wp"
    refine ⟨rfl, b, rfl, hn b hb, ?_⟩
    walk_at "wp"
    exact hK
  have e0 : bs.map (fun b => PyData.str b.2) = (bs.map Prod.snd).map PyData.str := by rw [List.map_map]; rfl
  rw [e0]
  obtain ⟨a, r, ebs⟩ := List.exists_cons_of_ne_nil hne
  have hlow : ∀ y ∈ bs.map Prod.snd, Low y := fun y hy => by
    obtain ⟨b, hb, rfl⟩ := List.mem_map.mp hy
    exact (hn b hb).1
  have hmin : gBestL W.minD [.list ((bs.map Prod.snd).map PyData.str)] = some (.str (minS a.2 (r.map Prod.snd))) := by
    rw [ebs]
    exact gMinL_strs _ _
  have hmm : minS a.2 (r.map Prod.snd) ∈ bs.map Prod.snd := by
    rw [ebs]
    exact minS_mem _ _
  have hml : ∀ b ∈ bs, leS (minS a.2 (r.map Prod.snd)) b.2 := fun b hb => by
    refine minS_le _ _ _ ?_
    have := List.mem_map_of_mem (f := Prod.snd) hb
    rw [ebs] at this
    exact this
  generalize minS a.2 (r.map Prod.snd) = m at hmin hmm hml
  obtain ⟨i, hi, hix⟩ := gIndex_strs hlow hmm
  have hil : i < bs.length := by
    have := (List.getElem?_eq_some_iff.mp hi).1
    rw [List.length_map] at this
    exact this
  walk_at "wp"
  have hi' : i ≤ (bs.map bdD).length := by rw [List.length_map]; omega
  refine ⟨rfl, _, hmin, _, hix, ?_⟩
  walk_at "wp"
  rw [cutD_drop hi', cutD_take hi', ← List.map_drop, ← List.map_take, ← List.map_append]
  have hrot : Rot bs (bs.drop i ++ bs.take i) := Rot.of_take bs i
  have hbg : firstB (bs.drop i ++ bs.take i) = bs[i] := by
    rw [List.drop_eq_getElem_cons hil]
    rfl
  have hbi : bs[i].2 = m := by
    rw [List.getElem?_map, List.getElem?_eq_getElem hil] at hi
    exact Option.some.inj hi
  have hrl : (bs.drop i ++ bs.take i).length = bs.length := by rw [List.length_append, List.length_drop, List.length_take]; omega
  have hrn : ∀ b ∈ bs.drop i ++ bs.take i, b ∈ bs := fun b hb => hrot.perm.mem_iff.mp hb
  have hre : bs.drop i ++ bs.take i ≠ [] := fun e => hne (List.eq_nil_of_length_eq_zero (by rw [← hrl, e]; rfl))
  generalize bs.drop i ++ bs.take i = g at hrot hbg hrl hrn hre ⊢
  have hfm : (firstB g).2 = m := by rw [hbg, hbi]
  refine ⟨by rw [List.length_map, List.length_map, List.length_drop, List.length_take, sizeLine_eq]; omega, _, first_ix hre, ?_⟩
  rw [gIx_bd, bd_firstN _ (by rw [hfm]; obtain ⟨b, hb, e⟩ := List.mem_map.mp hmm; rw [← e]; exact hn b hb)]
  walk_at "wp"
  have hform : ∀ c : List Bead, firstB c = (false, m) → (∀ b ∈ c, b.2 ∈ bs.map Prod.snd) → FormR c := fun c h1 h2 => by
    refine ⟨by rw [h1], fun b hb => ?_⟩
    obtain ⟨b2, hb2, e⟩ := List.mem_map.mp (h2 b hb)
    rw [h1, ← e]
    exact hml b2 hb2
  cases ht : (firstB g).1 with
  | false =>
    rw [if_pos rfl]
    refine k g (.inl hrot) (hform g ?_ fun b hb => List.mem_map_of_mem (hrn b hb))
    rw [← hfm, ← ht]
  | true =>
    rw [if_neg (by decide)]
    refine ⟨rfl, g, .inl rfl, by omega, fun b hb => hn b (hrn b hb), ?_⟩
    have hml2 : (mirR g).length = bs.length := by rw [mirR_len, hrl]
    have hpos : 1 ≤ ((mirR g).map bdD).length := by
      rw [List.length_map, hml2, ebs, List.length_cons]
      omega
    walk_at "wp"
    have elm : ((mirR g).map bdD).length = (mirR g).length := List.length_map ..
    rw [cutD_last hpos, cutD_init hpos, ← List.map_drop, ← List.map_take, elm]
    refine ⟨by rw [List.length_map, List.length_map, List.length_drop, List.length_take, sizeLine_eq]; omega, ?_⟩
    rw [← List.map_append]
    have hr2 : Rot (mirR g) ((mirR g).drop ((mirR g).length - 1) ++ (mirR g).take ((mirR g).length - 1)) := Rot.of_take _ _
    have hcy : Cyc bs ((mirR g).drop ((mirR g).length - 1) ++ (mirR g).take ((mirR g).length - 1)) := Cyc.trans (.inl hrot) (.inr hr2)
    refine k _ hcy (hform _ ?_ fun b hb => hcy.names.mem_iff.mp (List.mem_map_of_mem hb))
    have hme : mirR g ≠ [] := mirR_ne hre
    have h1 : (mirR g).drop ((mirR g).length - 1) = [lastB (mirR g)] := by
      have h3 := List.dropLast_concat_getLast hme
      rw [← List.length_dropLast]
      conv => lhs; arg 2; rw [← h3]
      rw [List.drop_left]
      unfold lastB
      rw [List.getLastD_eq_getLast?, List.getLast?_eq_some_getLast hme]
      rfl
    rw [h1, last_mir hre]
    show mirB (firstB g) = (false, m)
    unfold mirB
    rw [ht, hfm]
    rfl

end Sw

open PySem PySem.Spec L2 Sw
namespace Sw
def sp_first_name : PSp := fun fl ds Q => fl = none ∧ ∃ bs : List Bead, ds = [.tuple (bs.map bdD)] ∧ bs ≠ [] ∧ (∀ b ∈ bs, Nm b.2) ∧ Q (.dt (.str (firstB bs).2)) none
abbrev N_first_name : List Str := ["beads"]
def T_first_name : PS' := (sRet (qCall sp_name_of (qAddD (qCons (qOp gIx (qVar 0) (qC (.int 0))) qNil) [])))
theorem pure_first_name (fl : Option (List D)) (ds : List D) (Q : RV → Option (List D) → Prop) (_ : false = true ↔ fl ≠ none) (h : sp_first_name fl ds Q) : T_first_name (endsOf false Q) (startE false N_first_name fl ds) := by
  obtain ⟨rfl, bs, rfl, hne, hn, k⟩ := h
  show T_first_name _ [SV.dat (.tuple (bs.map bdD))]
  unfold T_first_name
  walk_at "wp"
  refine ⟨_, first_ix hne, rfl, _, rfl, hn _ (first_mem hne), ?_⟩
  walk_at "wp"
  exact k
def fnm (bs : List Bead) : Str := (firstB bs).2
def leK (s t : Strand) : Prop := (s.1 = false ∧ t.1 = true) ∨ (s.1 = t.1 ∧ leS (fnm s.2) (fnm t.2))
def InForm (cs : List Strand) : Prop := (∀ s ∈ cs, FormS s) ∧ cs.Pairwise leK
def rowD (bs : List Bead) : D := .tuple (bs.map bdD)
theorem pKeys_map {α : Type} {sp : PSp} {f g : α → D} {QD : List D → Prop} : ∀ {xs : List α} {acc : List D}, (∀ x ∈ xs, ∀ Q : RV → Option (List D) → Prop, Q (.dt (g x)) none → sp none [f x] Q) → QD (acc ++ xs.map g) → pKeys sp (xs.map f) acc QD
  | [], acc, _, q => by
    rw [List.map_nil, List.append_nil] at q
    exact q
  | x :: r, acc, h, q => by
    refine h x List.mem_cons_self _ ⟨_, rfl, ?_⟩
    refine pKeys_map (fun y hy => h y (List.mem_cons_of_mem _ hy)) ?_
    rw [List.append_assoc]
    exact q
theorem byKeys_map {α : Type} (f g : α → D) (xs : List α) : byKeys (xs.map f) (xs.map g) = (xs.mergeSort fun a b => leD (g a) (g b)).map f := by
  have e : (xs.map f).zip (xs.map g) = xs.map fun x => (f x, g x) := by
    rw [List.zip_map']
  unfold byKeys
  rw [e, ← W.sort_maps (r := fun a b => leD (g a) (g b)) (s := fun p q : D × D => leD p.2 q.2) (fun x => (f x, g x)) fun _ _ _ _ => rfl, List.map_map]
  rfl
/-- rows in the order of their first names -/
def byName (os : List (List Bead)) : List (List Bead) := os.mergeSort fun a b => leD (.str (fnm a)) (.str (fnm b))
theorem byName_perm (os : List (List Bead)) : (byName os).Perm os := List.mergeSort_perm _ _
theorem byName_pw (os : List (List Bead)) : (byName os).Pairwise fun a b => leS (fnm a) (fnm b) := by
  have tot : W.TotalLe fun a b : List Bead => leD (.str (fnm a)) (.str (fnm b)) := ⟨fun a b c h g => leD_total.trans _ _ _ h g, fun a b => leD_total.total _ _⟩
  refine (W.sort_pairwise tot os).imp fun {a b} h => ?_
  rw [leD_str] at h
  simpa [leS] using h
def sp_canon : PSp := fun fl ds Q => fl = none ∧ ∃ ss, ds = [.tuple (ss.map stD)] ∧ GoodS ss ∧ ∀ cs, Equ ss cs → InForm cs → Q (.dt (.tuple (cs.map stD))) none
/-- the rows of one kind -/
def rowsK (k : Bool) (ss : List Strand) : List (List Bead) := (ss.filter fun s => s.1 == k).map Prod.snd
def KR (k : Bool) (b c : List Bead) : Prop := EqS (k, b) (k, c) ∧ FormS (k, c)
theorem canon_equ {ss : List Strand} {os rs : List (List Bead)} (h1 : All2 (KR false) (rowsK false ss) os) (h2 : All2 (KR true) (rowsK true ss) rs) :
    Equ ss ((byName os).map (fun c => (false, c)) ++ (byName rs).map fun c => (true, c)) ∧ InForm ((byName os).map (fun c => (false, c)) ++ (byName rs).map fun c => (true, c)) := by
  have kk : ∀ k : Bool, (ss.filter fun s => s.1 == k) = (rowsK k ss).map fun b => (k, b) := fun k => by
    unfold rowsK
    rw [List.map_map]
    symm
    refine (List.map_congr_left fun s hs => ?_).trans (List.map_id _)
    have := (List.mem_filter.mp hs).2
    have := eq_of_beq this
    show (k, s.2) = s
    rw [← this]
  have up : ∀ k : Bool, ∀ {as bs : List (List Bead)}, All2 (KR k) as bs → All2 EqS (as.map fun b => (k, b)) (bs.map fun b => (k, b)) := by
    intro k as bs h
    induction h with
    | nil => exact .nil
    | cons a r ih => exact .cons a.1 ih
  have fm : ∀ k : Bool, ∀ {as bs : List (List Bead)}, All2 (KR k) as bs → ∀ c ∈ bs, FormS (k, c) := by
    intro k as bs h
    induction h with
    | nil => intro c hc; cases hc
    | cons a r ih =>
      intro c hc
      rcases List.mem_cons.mp hc with rfl | hc
      · exact a.2
      · exact ih c hc
  constructor
  · have p : ((ss.filter fun s => s.1 == false) ++ ss.filter fun s => s.1 == true).Perm ss := by
      have e : (ss.filter fun s => s.1 == true) = ss.filter fun s => !(s.1 == false) := by
        congr 1
        funext s
        cases s.1 <;> rfl
      rw [e]
      exact List.filter_append_perm _ _
    have a := (up false h1).app (up true h2)
    rw [← kk false, ← kk true] at a
    obtain ⟨us, q1, q2⟩ := a.perm (((byName_perm os).symm.map fun c => (false, c)).append ((byName_perm rs).symm.map fun c => (true, c)))
    exact ⟨us, q1.trans p, q2⟩
  · refine ⟨fun s hs => ?_, ?_⟩
    · rcases List.mem_append.mp hs with hs | hs
      · obtain ⟨c, hc, rfl⟩ := List.mem_map.mp hs
        exact fm false h1 c ((byName_perm os).mem_iff.mp hc)
      · obtain ⟨c, hc, rfl⟩ := List.mem_map.mp hs
        exact fm true h2 c ((byName_perm rs).mem_iff.mp hc)
    · refine List.pairwise_append.mpr ⟨?_, ?_, fun s hs t ht => ?_⟩
      · exact List.pairwise_map.mpr ((byName_pw os).imp fun h => .inr ⟨rfl, h⟩)
      · exact List.pairwise_map.mpr ((byName_pw rs).imp fun h => .inr ⟨rfl, h⟩)
      · obtain ⟨c, _, rfl⟩ := List.mem_map.mp hs
        obtain ⟨d, _, rfl⟩ := List.mem_map.mp ht
        exact .inl ⟨rfl, rfl⟩
theorem rowsK_snoc (k : Bool) (ss : List Strand) (s : Strand) : rowsK k (ss ++ [s]) = rowsK k ss ++ (if s.1 = k then [s.2] else []) := by
  unfold rowsK
  rw [List.filter_append, List.map_append]
  congr 1
  by_cases h : s.1 = k
  · rw [if_pos h, List.filter_cons_of_pos (by rw [beq_iff_eq]; exact h)]
    rfl
  · rw [if_neg h, List.filter_cons_of_neg (by rw [beq_iff_eq]; exact h)]
    rfl
theorem open_iff (b : Bool) : ((if b = true then Str.ofString "ring" else Str.ofString "open") = Str.ofString "open") ↔ b = false := by
  cases b with
  | true => simp; decide +kernel
  | false => simp
theorem all2_mem {k : Bool} {as bs : List (List Bead)} (h : All2 (KR k) as bs) : ∀ c ∈ bs, ∃ b ∈ as, KR k b c := by
  induction h with
  | nil => intro c hc; cases hc
  | cons a r ih =>
    intro c hc
    rcases List.mem_cons.mp hc with rfl | hc
    · exact ⟨_, List.mem_cons_self, a⟩
    · obtain ⟨b, hb, q⟩ := ih c hc
      exact ⟨b, List.mem_cons_of_mem _ hb, q⟩
theorem rows_good {ss : List Strand} (hg : GoodS ss) {k : Bool} {os : List (List Bead)} (h : All2 (KR k) (rowsK k ss) os) : ∀ c ∈ os, c ≠ [] ∧ ∀ b ∈ c, Nm b.2 := fun c hc => by
  obtain ⟨b, hb, q, _⟩ := all2_mem h c hc
  obtain ⟨s, hs, rfl⟩ := List.mem_map.mp hb
  have hs := (List.mem_filter.mp hs).1
  have hp := q.perm (hg.1 s hs)
  refine ⟨fun e => ?_, names_nm (bs := s.2) hp.2 (hg.nm (s := s) hs)⟩
  have := hp.2.length_eq
  have e : c = [] := e
  rw [show ((k, c) : Strand).2 = c from rfl, e] at this
  exact hg.1 s hs (List.eq_nil_of_length_eq_zero (by simpa using this.symm))
theorem rowsK_len (k : Bool) (ss : List Strand) : (rowsK k ss).length ≤ ss.length := by
  unfold rowsK
  rw [List.length_map]
  exact List.length_filter_le _ _
abbrev N_canon : List Str := ["some", "opens", "rings", "told", "kind", "beads"]
def T_canon : PS' := (sSeq (sAsg 1 (qF (fLc (iAny (qVar 0)) (gT 2 (gsC (gN 4) (gsC (gN 5) gsN))) (qTest (qOp (gEq false) (qVar 4) (qC (.str "open")))) (qCall sp_open_canon (qAddD (qCons (qVar 5) qNil) [])) [4, 5])))
  (sSeq (sAsg 2 (qF (fLc (iAny (qVar 0)) (gT 2 (gsC (gN 4) (gsC (gN 5) gsN))) (qTest (qOp (gEq false) (qVar 4) (qC (.str "ring")))) (qCall sp_ring_canon (qAddD (qCons (qVar 5) qNil) [])) [4, 5])))
  (sSeq (sAsg 3 (qF (fLc (iAny (qF (fSortK sp_first_name (qVar 1)))) (gN 5) tYes' (qTup (qCons (qC (.str "open")) (qCons (qVar 5) qNil))) [5])))
  (sRet (qCB gTuple (qCons (qOp gAdd (qVar 3) (qF (fLc (iAny (qF (fSortK sp_first_name (qVar 2)))) (gN 5) tYes' (qTup (qCons (qC (.str "ring")) (qCons (qVar 5) qNil))) [5]))) qNil))))))
theorem pure_canon (fl : Option (List D)) (ds : List D) (Q : RV → Option (List D) → Prop) (_ : false = true ↔ fl ≠ none) (h : sp_canon fl ds Q) : T_canon (endsOf false Q) (startE false N_canon fl ds) := by
  obtain ⟨rfl, ss, rfl, hg, k⟩ := h
  show T_canon _ [SV.dat (.tuple (ss.map stD)), SV.un, SV.un, SV.un, SV.un, SV.un]
  unfold T_canon
  have hsl : ss.length ≤ 1000 := Nat.le_trans (beads_few ss hg.1) hg.2.1
  refine cut_seq (fun env => ∃ os, All2 (KR false) (rowsK false ss) os ∧ env = [SV.dat (.tuple (ss.map stD)), SV.dat (.list (os.map rowD)), SV.un, SV.un, SV.un, SV.un]) ?_ fun nx hnx => ?_
  rotate_left
  · walk_at "wp"
    refine ⟨by rw [List.length_map]; omega, ?_⟩
    refine pLc_inv (fun i acc env => ∃ os, All2 (KR false) (rowsK false (ss.take i)) os ∧ acc = os.map rowD ∧ env = [SV.dat (.tuple (ss.map stD)), SV.un, SV.un, SV.un, SV.un, SV.un]) ⟨[], .nil, rfl, rfl⟩ ?_ ?_
    · rintro i d hd acc env ⟨os, ho, rfl, rfl⟩ K hK
      rw [List.getElem?_map] at hd
      cases q : ss[i]? with
      | none => rw [q] at hd; cases hd
      | some s =>
        rw [q] at hd
        cases hd
        have hs := List.mem_of_getElem? q
        have ek : rowsK false (ss.take (i + 1)) = rowsK false (ss.take i) ++ (if s.1 = false then [s.2] else []) := by
          rw [List.take_add_one, q]
          exact rowsK_snoc _ _ _
        unfold stD
        walk_at "wp"
        simp only [open_iff]
        by_cases hk : s.1 = false
        · rw [if_pos hk]
          refine ⟨rfl, s.2, rfl, hg.1 s hs, hg.len hs, hg.nm hs, fun c hc hf => ?_⟩
          walk_at "wp"
          refine hK _ _ ⟨os ++ [c], ?_, by rw [List.map_append]; rfl, rfl⟩
          rw [ek, if_pos hk]
          exact ho.snoc ⟨⟨rfl, fun _ => hc, fun e => nomatch e⟩, ⟨fun _ => hf, fun e => nomatch e⟩⟩
        · rw [if_neg hk]
          refine hK _ _ ⟨os, ?_, rfl, rfl⟩
          rw [ek, if_neg hk, List.append_nil]
          exact ho
    · rintro acc env ⟨os, ho, rfl, rfl⟩
      rw [List.length_map, List.take_length] at ho
      exact ⟨by simp, hnx _ ⟨os, ho, rfl⟩⟩
  rintro env ⟨os, ho, rfl⟩
  refine cut_seq (fun env => ∃ rs, All2 (KR true) (rowsK true ss) rs ∧ env = [SV.dat (.tuple (ss.map stD)), SV.dat (.list (os.map rowD)), SV.dat (.list (rs.map rowD)), SV.un, SV.un, SV.un]) ?_ fun nx hnx => ?_
  rotate_left
  · walk_at "wp"
    refine ⟨by rw [List.length_map]; omega, ?_⟩
    refine pLc_inv (fun i acc env => ∃ rs, All2 (KR true) (rowsK true (ss.take i)) rs ∧ acc = rs.map rowD ∧ env = [SV.dat (.tuple (ss.map stD)), SV.dat (.list (os.map rowD)), SV.un, SV.un, SV.un, SV.un]) ⟨[], .nil, rfl, rfl⟩ ?_ ?_
    · rintro i d hd acc env ⟨rs, hr, rfl, rfl⟩ K hK
      rw [List.getElem?_map] at hd
      cases q : ss[i]? with
      | none => rw [q] at hd; cases hd
      | some s =>
        rw [q] at hd
        cases hd
        have hs := List.mem_of_getElem? q
        have ek : rowsK true (ss.take (i + 1)) = rowsK true (ss.take i) ++ (if s.1 = true then [s.2] else []) := by
          rw [List.take_add_one, q]
          exact rowsK_snoc _ _ _
        unfold stD
        walk_at "wp"
        simp only [ring_iff]
        by_cases hk : s.1 = true
        · rw [if_pos hk]
          refine ⟨rfl, s.2, rfl, hg.1 s hs, hg.len hs, hg.nm hs, fun c hc hf => ?_⟩
          walk_at "wp"
          refine hK _ _ ⟨rs ++ [c], ?_, by rw [List.map_append]; rfl, rfl⟩
          rw [ek, if_pos hk]
          exact hr.snoc ⟨⟨rfl, fun e => (nomatch e), fun _ => hc⟩, ⟨fun e => (nomatch e), fun _ => hf⟩⟩
        · rw [if_neg hk]
          refine hK _ _ ⟨rs, ?_, rfl, rfl⟩
          rw [ek, if_neg hk, List.append_nil]
          exact hr
    · rintro acc env ⟨rs, hr, rfl, rfl⟩
      rw [List.length_map, List.take_length] at hr
      exact ⟨by simp, hnx _ ⟨rs, hr, rfl⟩⟩
  rintro env ⟨rs, hr, rfl⟩
  obtain ⟨q1, q2⟩ := canon_equ ho hr
  have hob := rows_good hg ho
  have hrb := rows_good hg hr
  have hol : os.length ≤ 1000 := by have := ho.len; have := rowsK_len false ss; omega
  have hrl : rs.length ≤ 1000 := by have := hr.len; have := rowsK_len true ss; omega
  have keys : ∀ os : List (List Bead), os.map (fun c => PyData.str (fnm c)) = (os.map fnm).map PyData.str := fun os => by rw [List.map_map]; rfl
  walk_at "wp"
  refine pKeys_map (g := fun c => .str (fnm c)) (fun c hc Q hQ => ⟨rfl, c, rfl, (hob c hc).1, (hob c hc).2, hQ⟩) ?_
  rw [List.nil_append]
  refine ⟨by rw [keys]; exact okSort_strs _, ?_⟩
  rw [byKeys_map]
  have eb : ∀ os : List (List Bead), (os.mergeSort fun a b => leD (.str (fnm a)) (.str (fnm b))) = byName os := fun _ => rfl
  rw [eb]
  have bl1 := (byName_perm os).length_eq
  have bl2 := (byName_perm rs).length_eq
  refine ⟨by rw [List.length_map]; omega, ?_⟩
  refine map_comp (f := fun c => stD (false, c)) (fun c hc K hK => ?_) ?_
  · walk_at "wp"
    exact ⟨sizeL (by decide), hK⟩
  walk_at "wp"
  refine pKeys_map (g := fun c => .str (fnm c)) (fun c hc Q hQ => ⟨rfl, c, rfl, (hrb c hc).1, (hrb c hc).2, hQ⟩) ?_
  rw [List.nil_append]
  refine ⟨by rw [keys]; exact okSort_strs _, ?_⟩
  rw [byKeys_map, eb]
  refine ⟨by rw [List.length_map]; omega, ?_⟩
  refine map_comp (f := fun c => stD (true, c)) (fun c hc K hK => ?_) ?_
  · walk_at "wp"
    exact ⟨sizeL (by decide), hK⟩
  walk_at "wp"
  have e5 : (byName os).map (fun c => stD (false, c)) ++ (byName rs).map (fun c => stD (true, c)) = ((byName os).map (fun c => (false, c)) ++ (byName rs).map fun c => (true, c)).map stD := by
    rw [List.map_append, List.map_map, List.map_map]
    rfl
  rw [e5]
  exact ⟨by rw [List.length_map, List.length_map, sizeLine_eq]; omega, k _ q1 q2⟩

end Sw

open PySem PySem.Spec L2 Sw
namespace Sw

end Sw

open PySem PySem.Spec L2 Sw
namespace Sw
def kindD (b : Bool) : D := .str (if b = true then Str.ofString "ring" else Str.ofString "open")
end Sw

open PySem PySem.Spec L2 Sw
namespace Sw

end Sw

open PySem PySem.Spec L2 Sw
namespace Sw
theorem sub_nodup {ss : List Strand} (h : ((beadsOf ss).map Prod.snd).Nodup) {s : Strand} (hs : s ∈ ss) : (s.2.map Prod.snd).Nodup := by
  obtain ⟨a, b, rfl⟩ := List.append_of_mem hs
  rw [beadsOf_app, List.map_append] at h
  have h1 := (List.nodup_append.mp h).2.1
  have h1 : ((s.2 ++ beadsOf b).map Prod.snd).Nodup := h1
  rw [List.map_append] at h1
  exact (List.nodup_append.mp h1).1
theorem one_strand : ∀ {ss : List Strand}, ((beadsOf ss).map Prod.snd).Nodup → ∀ {s t : Strand}, s ∈ ss → t ∈ ss → ∀ {x y : Bead}, x ∈ s.2 → y ∈ t.2 → x.2 = y.2 → s = t
  | [], _, _, _, h, _, _, _, _, _, _ => nomatch h
  | u :: r, h, s, t, hs, ht, x, y, hx, hy, e => by
    have h : ((u.2 ++ beadsOf r).map Prod.snd).Nodup := h
    rw [List.map_append] at h
    obtain ⟨_, h2, h3⟩ := List.nodup_append.mp h
    rcases List.mem_cons.mp hs with e1 | hs2
    · rcases List.mem_cons.mp ht with e2 | ht2
      · rw [e1, e2]
      · exfalso
        rw [e1] at hx
        exact h3 x.2 (List.mem_map_of_mem hx) y.2 (List.mem_map_of_mem (mem_beadsOf ht2 hy)) e
    · rcases List.mem_cons.mp ht with e2 | ht2
      · exfalso
        rw [e2] at hy
        exact h3 y.2 (List.mem_map_of_mem hy) x.2 (List.mem_map_of_mem (mem_beadsOf hs2 hx)) e.symm
      · exact one_strand h2 hs2 ht2 hx hy e
theorem canon_uniq {cs ds : List Strand} (h : Equ cs ds) (hc : InForm cs) (hd : InForm ds) (gc : ∀ s ∈ cs, s.2 ≠ []) (hn : ((beadsOf cs).map Prod.snd).Nodup) : cs = ds := by
  obtain ⟨_, _, gd⟩ := equ_facts h gc
  obtain ⟨us, p, a⟩ := h
  have e : us = ds := a.eq_of fun u hu d hd' q => form_uniq q (hc.1 u (p.mem_iff.mp hu)) (hd.1 d hd') (gc u (p.mem_iff.mp hu)) (gd d hd') (sub_nodup hn (p.mem_iff.mp hu))
  rw [e] at p
  refine perm_eq_mem (r := leK) (fun s hs t ht h1 h2 => ?_) p.symm hc.2 hd.2
  have hk : s.1 = t.1 ∧ fnm s.2 = fnm t.2 := by
    rcases h1 with ⟨a1, a2⟩ | ⟨a1, a2⟩
    · rcases h2 with ⟨b1, b2⟩ | ⟨b1, b2⟩
      · rw [b1] at a2; cases a2
      · rw [a1, a2] at b1; cases b1
    · rcases h2 with ⟨b1, b2⟩ | ⟨b1, b2⟩
      · rw [b1, b2] at a1; cases a1
      · exact ⟨a1, ltS_tri b2 a2⟩
  exact one_strand hn hs ht (first_mem (gc s hs)) (first_mem (gc t ht)) hk.2
theorem okA_sts (n : Nat) {ss : List Strand} (h : GoodS ss) : okA (n + 3) (.tuple (ss.map stD)) := by
  have hsl : ss.length ≤ 1000 := Nat.le_trans (beads_few ss h.1) h.2.1
  refine ⟨by rw [List.length_map]; omega, fun x hx => ?_⟩
  obtain ⟨s, hs, rfl⟩ := List.mem_map.mp hx
  exact okA_st n (by have := h.len hs; omega)
end Sw

open PySem PySem.Spec L2 Sw
namespace Sw
def tupE : D → List D
  | .tuple es => es
  | _ => []
def lr (b : Bead) : List D := [lE b, rE b]
theorem adj_ends : ∀ {bs : List Bead}, bs ≠ [] → (lE (firstB bs) :: ((adjJ bs).flatMap tupE ++ [rE (lastB bs)])).Perm (bs.flatMap lr)
  | [], h => absurd rfl h
  | [a], _ => List.Perm.refl _
  | a :: b :: r, _ => by
    have ih := adj_ends (bs := b :: r) (by simp)
    rw [adjJ_cons, last_cons (a := a) (r := b :: r) (by simp)]
    show (lE a :: (tupE (jt (rE a) (lE b)) ++ (adjJ (b :: r)).flatMap tupE ++ [rE (lastB (b :: r))])).Perm (lE a :: rE a :: (b :: r).flatMap lr)
    refine List.Perm.cons _ ?_
    have h1 : (tupE (jt (rE a) (lE b))).Perm [rE a, lE b] := srtD_perm _
    rw [List.append_assoc]
    exact (h1.append_right _).trans (ih.cons _)
theorem str_ends {s : Strand} (h : s.2 ≠ []) : ((strJ s).flatMap tupE).Perm (s.2.flatMap lr) := by
  refine List.Perm.trans ?_ (adj_ends h)
  unfold strJ
  rw [List.flatMap_append]
  have hc : ((closeJ s).flatMap tupE).Perm ([rE (lastB s.2)] ++ [lE (firstB s.2)]) := by
    unfold closeJ
    split
    · have h1 : (tupE (jt (rE (lastB s.2)) (lE (firstB s.2)))).Perm [rE (lastB s.2), lE (firstB s.2)] := srtD_perm _
      simpa using h1
    · exact List.Perm.swap _ _ _
  refine (hc.append_left _).trans ?_
  rw [← List.append_assoc]
  exact List.perm_append_comm
theorem jts_ends : ∀ {ss : List Strand}, (∀ s ∈ ss, s.2 ≠ []) → ((jts ss).flatMap tupE).Perm ((beadsOf ss).flatMap lr)
  | [], _ => List.Perm.refl _
  | s :: r, h => by
    show ((strJ s ++ jts r).flatMap tupE).Perm ((s.2 ++ beadsOf r).flatMap lr)
    rw [List.flatMap_append, List.flatMap_append]
    exact (str_ends (h s List.mem_cons_self)).append (jts_ends fun x hx => h x (List.mem_cons_of_mem _ hx))
theorem two_maps {α : Type} {f g : α → D} : ∀ xs : List α, (xs.flatMap fun x => [f x, g x]).Perm (xs.map f ++ xs.map g)
  | [] => List.Perm.refl _
  | x :: r => by
    show (f x :: g x :: r.flatMap fun x => [f x, g x]).Perm (f x :: (r.map f ++ g x :: r.map g))
    refine List.Perm.cons _ ?_
    refine ((two_maps r).cons _).trans ?_
    exact List.perm_middle.symm
theorem lr_ends : ∀ bs : List Bead, (bs.flatMap lr).Perm ((bs.map Prod.snd).flatMap fun z => [endD z 0, endD z 1])
  | [] => List.Perm.refl _
  | (t, z) :: r => by
    have ih := lr_ends r
    show (lr (t, z) ++ r.flatMap lr).Perm ([endD z 0, endD z 1] ++ _)
    refine List.Perm.append ?_ ih
    cases t with
    | false => exact List.Perm.refl _
    | true => exact List.Perm.swap _ _ _
theorem uniq_flat {f : D → List D} : ∀ {js : List D}, (js.flatMap f).Nodup → ∀ {i j : D}, i ∈ js → j ∈ js → ∀ {e : D}, e ∈ f i → e ∈ f j → i = j
  | [], _, _, _, h, _, _, _, _ => nomatch h
  | x :: r, h, i, j, hi, hj, e, h1, h2 => by
    have h : (f x ++ r.flatMap f).Nodup := h
    obtain ⟨_, h3, h4⟩ := List.nodup_append.mp h
    rcases List.mem_cons.mp hi with a | a
    · rcases List.mem_cons.mp hj with b | b
      · rw [a, b]
      · exfalso
        rw [a] at h1
        exact h4 e h1 e (List.mem_flatMap.mpr ⟨j, b, h2⟩) rfl
    · rcases List.mem_cons.mp hj with b | b
      · exfalso
        rw [b] at h2
        exact h4 e h2 e (List.mem_flatMap.mpr ⟨i, a, h1⟩) rfl
      · exact uniq_flat h3 a b h1 h2
theorem nodup_map_inj {α β : Type} {f : α → β} (hf : ∀ a b, f a = f b → a = b) : ∀ {xs : List α}, xs.Nodup → (xs.map f).Nodup
  | [], _ => List.nodup_nil
  | x :: r, h => by
    obtain ⟨h1, h2⟩ := List.nodup_cons.mp h
    rw [List.map_cons, List.nodup_cons]
    refine ⟨fun hm => ?_, nodup_map_inj hf h2⟩
    obtain ⟨y, hy, e⟩ := List.mem_map.mp hm
    exact h1 (hf _ _ e ▸ hy)
theorem endD_inj {z w : Str} {s t : Int} (h : endD z s = endD w t) : z = w ∧ s = t := by
  unfold endD at h
  injection h with h
  injection h with h1 h
  injection h1 with h1
  injection h with h2 _
  injection h2 with h2
  exact ⟨h1, h2⟩
theorem ends_nodup {ns : List Str} (h : ns.Nodup) : (ns.map (fun z => endD z 0) ++ ns.map fun z => endD z 1).Nodup := by
  refine List.nodup_append.mpr ⟨nodup_map_inj (fun a b e => (endD_inj e).1) h, nodup_map_inj (fun a b e => (endD_inj e).1) h, fun a ha b hb e => ?_⟩
  obtain ⟨z, _, rfl⟩ := List.mem_map.mp ha
  obtain ⟨w, _, rfl⟩ := List.mem_map.mp hb
  have := (endD_inj e).2
  omega
theorem all_ends' {ss : List Strand} {ns : List Str} (h : ∀ s ∈ ss, s.2 ≠ []) (p : ((beadsOf ss).map Prod.snd).Perm ns) : ((jts ss).flatMap tupE).Perm (ns.map (fun z => endD z 0) ++ ns.map fun z => endD z 1) :=
  (jts_ends h).trans ((lr_ends _).trans ((p.flatMap_right _).trans (two_maps ns)))
theorem jts_nodup {ss : List Strand} (h : ∀ s ∈ ss, s.2 ≠ []) (hn : ((beadsOf ss).map Prod.snd).Nodup) : ((jts ss).flatMap tupE).Nodup := (all_ends' h (List.Perm.refl _)).nodup_iff.mpr (ends_nodup hn)
/-- two joints with one end are one -/
structure JN (J : D → Prop) : Prop where
  uniq : ∀ {i j e : D}, J i → J j → e ∈ tupE i → e ∈ tupE j → i = j
theorem jn_of {ss : List Strand} (h : ∀ s ∈ ss, s.2 ≠ []) (hn : ((beadsOf ss).map Prod.snd).Nodup) : JN fun j => j ∈ jts ss := ⟨fun hi hj h1 h2 => uniq_flat (jts_nodup h hn) hi hj h1 h2⟩
theorem mem_jt {x y : D} : x ∈ tupE (jt x y) ∧ y ∈ tupE (jt x y) := by
  have h : (tupE (jt x y)).Perm [x, y] := srtD_perm _
  exact ⟨h.mem_iff.mpr List.mem_cons_self, h.mem_iff.mpr (List.mem_cons_of_mem _ List.mem_cons_self)⟩
theorem jt_len (x y : D) : (tupE (jt x y)).length = 2 := srtD_len [x, y]
theorem jt_right {x y z : D} (h : jt x y = jt x z) : y = z := by
  have h : srtD [x, y] = srtD [x, z] := by
    unfold jt at h
    injection h
  have p : [x, y].Perm [x, z] := (srtD_perm _).symm.trans (h ▸ srtD_perm _)
  have := (List.perm_cons x).mp p
  simpa using this
theorem lE_inj {a b : Bead} (h : lE a = lE b) : a = b := by
  obtain ⟨t, z⟩ := a
  obtain ⟨u, w⟩ := b
  obtain ⟨h1, h2⟩ := endD_inj h
  have h1 : z = w := h1
  subst h1
  cases t <;> cases u <;> first | rfl | (simp at h2)
theorem one_ne_jt {x y z : D} : PyData.tuple [x] ≠ jt y z := fun e => by
  have := jt_len y z
  rw [← e] at this
  cases this
/-- rows that begin alike and end free are alike -/
theorem open_match {J : D → Prop} (U : JN J) : ∀ {A B : List Bead} {a : Bead}, (∀ j ∈ adjJ (a :: A), J j) → J (.tuple [rE (lastB (a :: A))]) → (∀ j ∈ adjJ (a :: B), J j) → J (.tuple [rE (lastB (a :: B))]) → A = B
  | [], [], _, _, _, _, _ => rfl
  | [], b :: B, a, _, h2, h3, _ => by
    have h := U.uniq h2 (h3 (jt (rE a) (lE b)) List.mem_cons_self) (e := rE a) (by show rE a ∈ [rE a]; exact List.mem_cons_self) mem_jt.1
    exact absurd h one_ne_jt
  | x :: A, [], a, h1, _, _, h4 => by
    have h := U.uniq h4 (h1 (jt (rE a) (lE x)) List.mem_cons_self) (e := rE a) (by show rE a ∈ [rE a]; exact List.mem_cons_self) mem_jt.1
    exact absurd h one_ne_jt
  | x :: A, y :: B, a, h1, h2, h3, h4 => by
    have h := U.uniq (h1 (jt (rE a) (lE x)) List.mem_cons_self) (h3 (jt (rE a) (lE y)) List.mem_cons_self) mem_jt.1 mem_jt.1
    have e : x = y := lE_inj (jt_right h)
    subst e
    rw [last_cons (by simp)] at h2 h4
    rw [open_match U (fun j hj => h1 j (List.mem_cons_of_mem _ hj)) h2 (fun j hj => h3 j (List.mem_cons_of_mem _ hj)) h4]
/-- rows that begin alike and close to one bead are alike -/
theorem ring_match {J : D → Prop} (U : JN J) {c : Bead} : ∀ {A B : List Bead} {a : Bead}, c ∉ A → c ∉ B → (∀ j ∈ adjJ (a :: A), J j) → J (jt (rE (lastB (a :: A))) (lE c)) → (∀ j ∈ adjJ (a :: B), J j) → J (jt (rE (lastB (a :: B))) (lE c)) → A = B
  | [], [], _, _, _, _, _, _, _ => rfl
  | [], b :: B, a, _, nb, _, h2, h3, _ => by
    have h := U.uniq h2 (h3 (jt (rE a) (lE b)) List.mem_cons_self) (e := rE a) mem_jt.1 mem_jt.1
    have e : c = b := lE_inj (jt_right h)
    exact absurd (e ▸ List.mem_cons_self) nb
  | x :: A, [], a, na, _, h1, _, _, h4 => by
    have h := U.uniq h4 (h1 (jt (rE a) (lE x)) List.mem_cons_self) (e := rE a) mem_jt.1 mem_jt.1
    have e : c = x := lE_inj (jt_right h)
    exact absurd (e ▸ List.mem_cons_self) na
  | x :: A, y :: B, a, na, nb, h1, h2, h3, h4 => by
    have h := U.uniq (h1 (jt (rE a) (lE x)) List.mem_cons_self) (h3 (jt (rE a) (lE y)) List.mem_cons_self) mem_jt.1 mem_jt.1
    have e : x = y := lE_inj (jt_right h)
    subst e
    rw [last_cons (by simp)] at h2 h4
    rw [ring_match U (fun z => na (List.mem_cons_of_mem _ z)) (fun z => nb (List.mem_cons_of_mem _ z)) (fun j hj => h1 j (List.mem_cons_of_mem _ hj)) h2 (fun j hj => h3 j (List.mem_cons_of_mem _ hj)) h4]
/-- a ring and a free row do not begin alike -/
theorem no_match {J : D → Prop} (U : JN J) {c : Bead} : ∀ {A B : List Bead} {a : Bead}, c ∉ B → (∀ j ∈ adjJ (a :: A), J j) → J (jt (rE (lastB (a :: A))) (lE c)) → (∀ j ∈ adjJ (a :: B), J j) → J (.tuple [rE (lastB (a :: B))]) → False
  | [], [], a, _, _, h2, _, h4 => one_ne_jt (U.uniq h4 h2 (e := rE a) (by show rE a ∈ [rE a]; exact List.mem_cons_self) mem_jt.1)
  | [], b :: B, a, nb, _, h2, h3, _ => by
    have h := U.uniq h2 (h3 (jt (rE a) (lE b)) List.mem_cons_self) (e := rE a) mem_jt.1 mem_jt.1
    have e : c = b := lE_inj (jt_right h)
    exact nb (e ▸ List.mem_cons_self)
  | x :: A, [], a, _, h1, _, _, h4 => one_ne_jt (U.uniq h4 (h1 (jt (rE a) (lE x)) List.mem_cons_self) (e := rE a) (by show rE a ∈ [rE a]; exact List.mem_cons_self) mem_jt.1)
  | x :: A, y :: B, a, nb, h1, h2, h3, h4 => by
    have h := U.uniq (h1 (jt (rE a) (lE x)) List.mem_cons_self) (h3 (jt (rE a) (lE y)) List.mem_cons_self) mem_jt.1 mem_jt.1
    have e : x = y := lE_inj (jt_right h)
    subst e
    rw [last_cons (by simp)] at h2 h4
    exact no_match U (fun z => nb (List.mem_cons_of_mem _ z)) (fun j hj => h1 j (List.mem_cons_of_mem _ hj)) h2 (fun j hj => h3 j (List.mem_cons_of_mem _ hj)) h4

end Sw

open PySem PySem.Spec L2 Sw
namespace Sw
theorem strJ_mem {ss : List Strand} {s : Strand} (hs : s ∈ ss) : ∀ j ∈ strJ s, j ∈ jts ss := fun j hj => List.mem_flatMap.mpr ⟨s, hs, hj⟩
theorem name_or {a b : Bead} (h : b.2 = a.2) : b = a ∨ mirB b = a := by
  obtain ⟨t, z⟩ := a
  obtain ⟨u, w⟩ := b
  have h : w = z := h
  subst h
  cases t <;> cases u
  · exact .inl rfl
  · exact .inr rfl
  · exact .inr rfl
  · exact .inl rfl
theorem adj_tail {C : List Bead} {a : Bead} {D' : List Bead} : ∀ j ∈ adjJ (a :: D'), j ∈ adjJ (C ++ a :: D') := fun j hj => by
  by_cases hc : C = []
  · subst hc; exact hj
  · rw [adjJ_app hc (by simp)]
    exact List.mem_append_right _ (List.mem_cons_of_mem _ hj)
theorem not_mem_of_nodup {a : Bead} {A : List Bead} (h : ((a :: A).map Prod.snd).Nodup) : a ∉ A := fun hm => by
  rw [List.map_cons, List.nodup_cons] at h
  exact h.1 (List.mem_map_of_mem hm)
/-- each strand of the one set is one of the other -/
theorem match_one {ss ts : List Strand} (hs : ∀ s ∈ ss, s.2 ≠ []) (ht : ∀ t ∈ ts, t.2 ≠ []) (hn : ((beadsOf ss).map Prod.snd).Nodup) (hp : ((beadsOf ts).map Prod.snd).Perm ((beadsOf ss).map Prod.snd)) (hj : ∀ j ∈ jts ts, j ∈ jts ss) {s : Strand} (h : s ∈ ss) : ∃ t ∈ ts, EqS s t := by
  have U := jn_of hs hn
  have hnt : ((beadsOf ts).map Prod.snd).Nodup := hp.nodup_iff.mpr hn
  obtain ⟨k, bs⟩ := s
  have hne : bs ≠ [] := hs _ h
  obtain ⟨a, A, rfl⟩ := List.exists_cons_of_ne_nil hne
  have hsJ := strJ_mem h
  have hsn : ((a :: A).map Prod.snd).Nodup := sub_nodup hn h
  have ha : a.2 ∈ (beadsOf ts).map Prod.snd := hp.mem_iff.mpr (List.mem_map_of_mem (mem_beadsOf h List.mem_cons_self))
  obtain ⟨b, hb, eb⟩ := List.mem_map.mp ha
  obtain ⟨t, htm, hbt⟩ := List.mem_flatMap.mp hb
  obtain ⟨l, cs⟩ := t
  have hce : cs ≠ [] := ht _ htm
  have hcn : (cs.map Prod.snd).Nodup := sub_nodup hnt htm
  have htJ : ∀ j ∈ strJ (l, cs), j ∈ jts ss := fun j q => hj j (strJ_mem htm j q)
  -- the row of t that holds a itself
  obtain ⟨cs', hcs', hac, hn', hJ'⟩ : ∃ cs', (cs = cs' ∨ cs = mirR cs') ∧ a ∈ cs' ∧ (cs'.map Prod.snd).Nodup ∧ ∀ j ∈ strJ (l, cs'), j ∈ jts ss := by
    rcases name_or eb with e | e
    · exact ⟨cs, .inl rfl, e ▸ hbt, hcn, htJ⟩
    · refine ⟨mirR cs, .inr (mirR_mirR cs).symm, ?_, ?_, fun j q => htJ j ((strJ_mir (s := (l, cs)) hce).mem_iff.mp q)⟩
      · rw [← e]
        unfold mirR
        exact List.mem_map_of_mem (List.mem_reverse.mpr hbt)
      · rw [mirR_snd]
        exact (List.reverse_perm _).nodup_iff.mpr hcn
  obtain ⟨C, E, rfl⟩ := List.append_of_mem hac
  have hrot : ((a :: (E ++ C)).map Prod.snd).Nodup := by
    have p : (a :: (E ++ C)).Perm (C ++ a :: E) := (List.perm_append_comm (l₁ := a :: E) (l₂ := C))
    exact (p.map _).nodup_iff.mpr hn'
  refine ⟨(l, cs), htm, ?_⟩
  have adjT : ∀ j ∈ adjJ (C ++ a :: E), j ∈ jts ss := fun j q => hJ' j (List.mem_append_left _ q)
  have adjS : ∀ j ∈ adjJ (a :: A), j ∈ jts ss := fun j q => hsJ j (List.mem_append_left _ q)
  have rotJ : l = true → (∀ j ∈ adjJ (a :: (E ++ C)), j ∈ jts ss) ∧ jt (rE (lastB (a :: (E ++ C)))) (lE a) ∈ jts ss := fun hl => by
    subst hl
    have p := strJ_rot (A := C) (B := a :: E)
    have q : ∀ j ∈ strJ (true, a :: (E ++ C)), j ∈ jts ss := fun j q => hJ' j (p.mem_iff.mp q)
    exact ⟨fun j z => q j (List.mem_append_left _ z), q _ (List.mem_append_right _ (by show _ ∈ [jt (rE (lastB (a :: (E ++ C)))) (lE a)]; exact List.mem_cons_self))⟩
  cases k with
  | false =>
    have f1 : PyData.tuple [lE a] ∈ jts ss := hsJ _ (List.mem_append_right _ List.mem_cons_self)
    have f2 : PyData.tuple [rE (lastB (a :: A))] ∈ jts ss := hsJ _ (List.mem_append_right _ (List.mem_cons_of_mem _ List.mem_cons_self))
    cases l with
    | true =>
      exfalso
      exact one_ne_jt (U.uniq f1 (rotJ rfl).2 (e := lE a) (by show lE a ∈ [lE a]; exact List.mem_cons_self) mem_jt.2)
    | false =>
      have hC : C = [] := by
        cases C with
        | nil => rfl
        | cons c C =>
          exfalso
          have h1 : jt (rE (lastB (c :: C))) (lE a) ∈ jts ss := adjT _ (by rw [adjJ_app (by simp) (by simp)]; exact List.mem_append_right _ List.mem_cons_self)
          exact one_ne_jt (U.uniq f1 h1 (e := lE a) (by show lE a ∈ [lE a]; exact List.mem_cons_self) mem_jt.2)
      subst hC
      have f3 : PyData.tuple [rE (lastB (a :: E))] ∈ jts ss := hJ' _ (List.mem_append_right _ (List.mem_cons_of_mem _ List.mem_cons_self))
      have e := open_match U adjS f2 adjT f3
      subst e
      refine ⟨rfl, fun _ => hcs', fun z => nomatch z⟩
  | true =>
    have f2 : jt (rE (lastB (a :: A))) (lE a) ∈ jts ss := hsJ _ (List.mem_append_right _ (by show _ ∈ [jt (rE (lastB (a :: A))) (lE a)]; exact List.mem_cons_self))
    cases l with
    | false =>
      exfalso
      have f3 : PyData.tuple [rE (lastB (C ++ a :: E))] ∈ jts ss := hJ' _ (List.mem_append_right _ (List.mem_cons_of_mem _ List.mem_cons_self))
      rw [last_app (by simp)] at f3
      have hE : a ∉ E := fun z => not_mem_of_nodup hrot (List.mem_append_left _ z)
      exact no_match U hE adjS f2 (fun j q => adjT j (adj_tail j q)) f3
    | true =>
      have e := ring_match U (c := a) (not_mem_of_nodup hsn) (not_mem_of_nodup hrot) adjS f2 (rotJ rfl).1 (rotJ rfl).2
      refine ⟨rfl, fun z => (nomatch z), fun _ => ?_⟩
      have hr : Rot (a :: A) (C ++ a :: E) := ⟨a :: E, C, by rw [e]; rfl, rfl⟩
      rcases hcs' with q | q
      · show Cyc (a :: A) cs
        rw [q]; exact .inl hr
      · show Cyc (a :: A) cs
        rw [q]; exact .inr hr.mir
theorem strands_nodup : ∀ {ss : List Strand}, (∀ s ∈ ss, s.2 ≠ []) → ((beadsOf ss).map Prod.snd).Nodup → ss.Nodup
  | [], _, _ => List.nodup_nil
  | s :: r, hs, h => by
    have h' : ((s.2 ++ beadsOf r).map Prod.snd).Nodup := h
    rw [List.map_append] at h'
    obtain ⟨_, h2, h3⟩ := List.nodup_append.mp h'
    rw [List.nodup_cons]
    refine ⟨fun hm => ?_, strands_nodup (fun x hx => hs x (List.mem_cons_of_mem _ hx)) h2⟩
    have hf := first_mem (hs s List.mem_cons_self)
    exact h3 _ (List.mem_map_of_mem hf) _ (List.mem_map_of_mem (mem_beadsOf hm hf)) rfl
/-- the joints and the names tell the set -/
theorem equ_of_joints {ss ts : List Strand} (hs : ∀ s ∈ ss, s.2 ≠ []) (ht : ∀ t ∈ ts, t.2 ≠ []) (hn : ((beadsOf ss).map Prod.snd).Nodup) (hp : ((beadsOf ts).map Prod.snd).Perm ((beadsOf ss).map Prod.snd)) (hj : ∀ j, j ∈ jts ts ↔ j ∈ jts ss) : Equ ss ts := by
  have hnt : ((beadsOf ts).map Prod.snd).Nodup := hp.nodup_iff.mpr hn
  have m : ∀ t ∈ ts, ∃ s ∈ ss, EqS s t := fun t q => by
    obtain ⟨s, h1, h2⟩ := match_one ht hs hnt hp.symm (fun j q => (hj j).mpr q) q
    exact ⟨s, h1, h2.symm⟩
  obtain ⟨us, hu, ha⟩ : ∃ us : List Strand, (∀ u ∈ us, u ∈ ss) ∧ All2 EqS us ts := by
    clear hp hj hnt ht
    induction ts with
    | nil => exact ⟨[], fun u h => (nomatch h), .nil⟩
    | cons t r ih =>
      obtain ⟨us, h1, h2⟩ := ih fun x hx => m x (List.mem_cons_of_mem _ hx)
      obtain ⟨s, h3, h4⟩ := m t List.mem_cons_self
      refine ⟨s :: us, fun u hu => ?_, .cons h4 h2⟩
      rcases List.mem_cons.mp hu with rfl | hu
      · exact h3
      · exact h1 u hu
  have hue : ∀ u ∈ us, u.2 ≠ [] := fun u q => hs u (hu u q)
  obtain ⟨_, np, _⟩ := equ_all ha hue
  have hnu : ((beadsOf us).map Prod.snd).Nodup := np.nodup_iff.mp hnt
  refine ⟨us, (List.perm_ext_iff_of_nodup (strands_nodup hue hnu) (strands_nodup hs hn)).mpr fun s => ⟨fun q => hu s q, fun q => ?_⟩, ha⟩
  have hf := first_mem (hs s q)
  have h1 : (firstB s.2).2 ∈ (beadsOf us).map Prod.snd := (np.symm.trans hp).mem_iff.mpr (List.mem_map_of_mem (mem_beadsOf q hf))
  obtain ⟨b, hb, e⟩ := List.mem_map.mp h1
  obtain ⟨u, q1, q2⟩ := List.mem_flatMap.mp hb
  have := one_strand hn (hu u q1) q q2 hf e
  rw [← this]
  exact q1

end Sw

open PySem PySem.Spec L2 Sw
namespace Sw
/-- texts, numbers, and tuples and lists of such, n deep -/
def Hn : Nat → D → Prop
  | _, .str _ => True
  | _, .int _ => True
  | n + 1, .tuple ds => ∀ d ∈ ds, Hn n d
  | n + 1, .list ds => ∀ d ∈ ds, Hn n d
  | _, _ => False
theorem eqvAll_of {n : Nat} (ih : ∀ a b, Hn n a → Hn n b → (PyData.eqv a b = true ↔ a = b)) : ∀ (xs ys : List D), (∀ d ∈ xs, Hn n d) → (∀ d ∈ ys, Hn n d) → (PyData.eqvAll xs ys = true ↔ xs = ys)
  | [], [], _, _ => by simp [PyData.eqvAll]
  | [], _ :: _, _, _ => by simp [PyData.eqvAll]
  | _ :: _, [], _, _ => by simp [PyData.eqvAll]
  | x :: xs, y :: ys, h, h' => by
    rw [PyData.eqvAll, Bool.and_eq_true, ih x y (h x List.mem_cons_self) (h' y List.mem_cons_self), eqvAll_of ih xs ys (fun d hd => h d (List.mem_cons_of_mem _ hd)) fun d hd => h' d (List.mem_cons_of_mem _ hd)]
    simp
theorem eqv_hn : ∀ (n : Nat) (a b : D), Hn n a → Hn n b → (PyData.eqv a b = true ↔ a = b) := fun n => by
  induction n with
  | zero =>
    intro a b ha hb
    cases a <;> first
      | exact ha.elim
      | (cases b <;> first
          | exact hb.elim
          | simp [PyData.eqv])
  | succ n ih =>
    intro a b ha hb
    cases a <;> first
      | exact ha.elim
      | (cases b <;> first
          | exact hb.elim
          | (rw [PyData.eqv, eqvAll_of ih _ _ ha hb]; simp; done)
          | simp [PyData.eqv])
theorem plain_all {n : Nat} : ∀ ys : List D, (∀ d ∈ ys, d.plain = true ∧ d.depth ≤ n) → PyData.plainAll ys = true ∧ PyData.depthAll ys ≤ n
  | [], _ => ⟨rfl, Nat.zero_le _⟩
  | y :: r, g => by
    obtain ⟨a, b⟩ := plain_all r fun d hd => g d (List.mem_cons_of_mem _ hd)
    obtain ⟨c, e⟩ := g y List.mem_cons_self
    refine ⟨by rw [PyData.plainAll, c, a]; rfl, ?_⟩
    rw [PyData.depthAll]
    omega
theorem Hn.plainD : ∀ (n : Nat) (d : D), Hn n d → d.plain = true ∧ d.depth ≤ n := fun n => by
  induction n with
  | zero => intro d h; cases d <;> first | exact h.elim | exact ⟨rfl, by simp [PyData.depth]⟩
  | succ n ih =>
    intro d h
    cases d <;> first
      | exact h.elim
      | exact ⟨rfl, by simp [PyData.depth]⟩
      | (obtain ⟨a, b⟩ := plain_all _ fun d hd => ih d (h d hd)
         refine ⟨a, ?_⟩
         rw [PyData.depth]
         omega)
theorem Hn.okD {n : Nat} {d : D} (h : Hn n d) (hn : n ≤ 39) : okD d = true := okD_of ⟨(Hn.plainD n d h).1, Nat.le_trans (Hn.plainD n d h).2 hn⟩
theorem gEq_hn {n : Nat} {a b : D} (neg : Bool) (ha : Hn n a) (hb : Hn n b) (hn : n ≤ 39) : gEq neg a b = some (.bool (if neg = true then !PyData.eqv a b else PyData.eqv a b)) := by
  unfold gEq
  rw [if_pos ⟨ha.okD hn, hb.okD hn⟩]
theorem eq_hn {n : Nat} {a b : D} {P : D → Prop} (ha : Hn n a) (hb : Hn n b) (hn : n ≤ 39) (h1 : a = b → P (.bool true)) (h2 : a ≠ b → P (.bool false)) : ∃ d, gEq false a b = some d ∧ P d := by
  refine ⟨_, gEq_hn false ha hb hn, ?_⟩
  rw [if_neg (by decide)]
  by_cases e : a = b
  · rw [(eqv_hn n a b ha hb).mpr e]; exact h1 e
  · have : PyData.eqv a b = false := by rw [← Bool.not_eq_true, eqv_hn n a b ha hb]; exact e
    rw [this]; exact h2 e
theorem ne_hn {n : Nat} {a b : D} {P : D → Prop} (ha : Hn n a) (hb : Hn n b) (hn : n ≤ 39) (h1 : a = b → P (.bool false)) (h2 : a ≠ b → P (.bool true)) : ∃ d, gEq true a b = some d ∧ P d := by
  refine ⟨_, gEq_hn true ha hb hn, ?_⟩
  rw [if_pos rfl]
  by_cases e : a = b
  · rw [(eqv_hn n a b ha hb).mpr e]; exact h1 e
  · have : PyData.eqv a b = false := by rw [← Bool.not_eq_true, eqv_hn n a b ha hb]; exact e
    rw [this]; exact h2 e
theorem hn_str (n : Nat) (z : Str) : Hn n (.str z) := by cases n <;> trivial
theorem hn_int (n : Nat) (z : Int) : Hn n (.int z) := by cases n <;> trivial
theorem hn_bd (n : Nat) (b : Bead) : Hn n (bdD b) := hn_str n _
theorem hn_bds (n : Nat) (bs : List Bead) : Hn (n + 1) (.tuple (bs.map bdD)) := fun d hd => by
  obtain ⟨b, _, rfl⟩ := List.mem_map.mp hd
  exact hn_bd n b
theorem hn_bdsL (n : Nat) (bs : List Bead) : Hn (n + 1) (.list (bs.map bdD)) := fun d hd => by
  obtain ⟨b, _, rfl⟩ := List.mem_map.mp hd
  exact hn_bd n b
theorem hn_st (n : Nat) (s : Strand) : Hn (n + 2) (stD s) := fun d hd => by
  rcases List.mem_cons.mp hd with rfl | hd
  · exact hn_str _ _
  · rw [List.mem_singleton.mp hd]
    exact hn_bds n _
theorem hn_sts (n : Nat) (ss : List Strand) : Hn (n + 3) (.tuple (ss.map stD)) := fun d hd => by
  obtain ⟨s, _, rfl⟩ := List.mem_map.mp hd
  exact hn_st n s
theorem hn_E {x : D} (h : IsE x) (n : Nat) : Hn (n + 1) x := by
  obtain ⟨z, s, rfl⟩ := h
  intro d hd
  rcases List.mem_cons.mp hd with rfl | hd
  · exact hn_str _ _
  · rw [List.mem_singleton.mp hd]
    exact hn_int _ _
theorem hn_J {x : D} (h : IsJ x) (n : Nat) : Hn (n + 2) x := by
  obtain ⟨es, rfl, h, _⟩ := h
  exact fun d hd => hn_E (h d hd) n
theorem srtD_mem {js : List D} {j : D} : j ∈ srtD js ↔ j ∈ js := (srtD_perm js).mem_iff
theorem dash_inj {x y : Str} (h : Str.ofString "-" ++ x = Str.ofString "-" ++ y) : x = y := by
  have := congrArg (fun z => z.cps.toList) h
  simp only [tl_app] at this
  exact ext_tl (List.append_cancel_left this)
theorem bdS_inj {a b : Bead} (ha : Nm a.2) (hb : Nm b.2) (h : bdS a = bdS b) : a = b := by
  obtain ⟨c, h1, h2⟩ := bd_get0 a ha
  obtain ⟨d, h3, h4⟩ := bd_get0 b hb
  rw [h, h3] at h1
  cases h1
  obtain ⟨s, x⟩ := a
  obtain ⟨t, y⟩ := b
  have e : (s = true) ↔ (t = true) := h2.symm.trans h4
  have e : s = t := by cases s <;> cases t <;> simp_all
  subst e
  cases s with
  | true => exact congrArg _ (dash_inj h)
  | false => exact congrArg _ h
theorem map_inj_on {α : Type} {f : α → D} : ∀ {xs ys : List α}, (∀ x ∈ xs, ∀ y ∈ ys, f x = f y → x = y) → xs.map f = ys.map f → xs = ys
  | [], [], _, _ => rfl
  | [], _ :: _, _, h => by cases h
  | _ :: _, [], _, h => by cases h
  | x :: xs, y :: ys, hi, h => by
    rw [List.map_cons, List.map_cons] at h
    injection h with h1 h2
    rw [hi x List.mem_cons_self y List.mem_cons_self h1, map_inj_on (fun a ha b hb => hi a (List.mem_cons_of_mem _ ha) b (List.mem_cons_of_mem _ hb)) h2]
theorem bdD_inj {a b : Bead} (ha : Nm a.2) (hb : Nm b.2) (h : bdD a = bdD b) : a = b := bdS_inj ha hb (by injection h)
theorem bds_inj {as bs : List Bead} (ha : ∀ a ∈ as, Nm a.2) (hb : ∀ b ∈ bs, Nm b.2) (h : as.map bdD = bs.map bdD) : as = bs := map_inj_on (fun a q b r e => bdD_inj (ha a q) (hb b r) e) h
theorem kind_inj {k l : Bool} (h : (if k = true then Str.ofString "ring" else Str.ofString "open") = if l = true then Str.ofString "ring" else Str.ofString "open") : k = l := by
  revert h
  cases k <;> cases l <;> first | (intro _; rfl) | (intro h; exact absurd h (by decide +kernel))
theorem stD_inj {s t : Strand} (hs : ∀ a ∈ s.2, Nm a.2) (ht : ∀ a ∈ t.2, Nm a.2) (h : stD s = stD t) : s = t := by
  obtain ⟨k, as⟩ := s
  obtain ⟨l, bs⟩ := t
  unfold stD at h
  injection h with h
  injection h with h1 h
  injection h with h2 _
  injection h2 with h2
  have e : as = bs := bds_inj hs ht h2
  subst e
  injection h1 with h1
  exact congrArg (fun x => (x, as)) (kind_inj h1)
theorem sts_inj {ss ts : List Strand} (hs : GoodS ss) (ht : GoodS ts) (h : ss.map stD = ts.map stD) : ss = ts := map_inj_on (fun s q t r e => stD_inj (hs.nm q) (ht.nm r) e) h
end Sw

open PySem PySem.Spec L2 Sw
namespace Sw
theorem beads_nil {ss : List Strand} (h : ∀ s ∈ ss, s.2 ≠ []) (h2 : ss ≠ []) : beadsOf ss ≠ [] := by
  cases ss with
  | nil => exact absurd rfl h2
  | cons s r =>
    intro e
    have e : s.2 ++ beadsOf r = [] := e
    exact h s List.mem_cons_self (List.append_eq_nil_iff.mp e).1
end Sw

open PySem PySem.Spec L2 Sw
namespace Sw
theorem cutD_mid {ds : List D} {n m : Nat} (h : n ≤ m) (h2 : m ≤ ds.length) : cutD ds (some (n : Int)) (some (m : Int)) = (ds.drop n).take (m - n) := by
  unfold cutD
  have e : ∀ (k dd : Nat), k ≤ ds.length → HT.sIx ds.length dd (some (k : Int)) = k := fun k dd hk => by
    simp only [HT.sIx]
    rw [if_neg (by omega)]
    omega
  rw [e n _ (by omega), e m _ h2]
/-- the strands in work: none without beads, the names those told -/
structure Near (rings : Bool) (ss us : List Strand) : Prop where
  ne : ∀ u ∈ us, u.2 ≠ []
  pm : ((beadsOf us).map Prod.snd).Perm ((beadsOf ss).map Prod.snd)
  op : rings = false → (∀ s ∈ ss, s.1 = false) → ∀ u ∈ us, u.1 = false
theorem bo_one (k : Bool) (bs : List Bead) : beadsOf [(k, bs)] = bs := by simp [beadsOf]
theorem near_perm {rings : Bool} {ss us vs : List Strand} (h : Near rings ss us) (p : vs.Perm us) : Near rings ss vs :=
  ⟨fun u hu => h.ne u (p.mem_iff.mp hu), ((p.flatMap_right _).map _).trans h.pm, fun a b u hu => h.op a b u (p.mem_iff.mp hu)⟩
theorem Near.len {rings : Bool} {ss us : List Strand} (h : Near rings ss us) (g : GoodS ss) : (beadsOf us).length ≤ 1000 ∧ us.length ≤ 1000 := by
  have hl := h.pm.length_eq
  rw [List.length_map, List.length_map] at hl
  have := beads_few us h.ne
  have := g.2.1
  omega
theorem Near.head {rings : Bool} {ss ws : List Strand} {k k' : Bool} {bs bs' : List Bead} (h : Near rings ss ((k, bs) :: ws)) (hne : bs' ≠ []) (hp : (bs'.map Prod.snd).Perm (bs.map Prod.snd)) (hk : rings = false → k = false → k' = false) : Near rings ss ((k', bs') :: ws) := by
  refine ⟨fun u hu => ?_, ?_, fun a b u hu => ?_⟩
  · rcases List.mem_cons.mp hu with rfl | hu
    · exact hne
    · exact h.ne u (List.mem_cons_of_mem _ hu)
  · have h1 : ((bs ++ beadsOf ws).map Prod.snd).Perm ((beadsOf ss).map Prod.snd) := h.pm
    show ((bs' ++ beadsOf ws).map Prod.snd).Perm _
    rw [List.map_append] at h1 ⊢
    exact (hp.append_right _).trans h1
  · rcases List.mem_cons.mp hu with rfl | hu
    · exact hk a (h.op a b _ List.mem_cons_self)
    · exact h.op a b u (List.mem_cons_of_mem _ hu)
theorem Near.cut {rings : Bool} {ss ws : List Strand} {k : Bool} {bs : List Bead} (h : Near rings ss ((k, bs) :: ws)) {m : Nat} (h0 : 0 < m) (h1 : m < bs.length) : Near rings ss ((false, bs.drop m) :: (ws ++ [(false, bs.take m)])) := by
  refine ⟨fun u hu => ?_, ?_, fun a b u hu => ?_⟩
  · rcases List.mem_cons.mp hu with rfl | hu
    · exact fun e => by
        have e : bs.drop m = [] := e
        have := congrArg List.length e
        rw [List.length_drop, List.length_nil] at this
        omega
    · rcases List.mem_append.mp hu with hu | hu
      · exact h.ne u (List.mem_cons_of_mem _ hu)
      · rw [List.mem_singleton.mp hu]
        exact fun e => by
          have e : bs.take m = [] := e
          have := congrArg List.length e
          rw [List.length_take, List.length_nil] at this
          omega
  · have h2 : ((bs ++ beadsOf ws).map Prod.snd).Perm ((beadsOf ss).map Prod.snd) := h.pm
    refine List.Perm.trans ?_ h2
    refine List.Perm.map _ ?_
    show (bs.drop m ++ beadsOf (ws ++ [(false, bs.take m)])).Perm _
    rw [beadsOf_app, bo_one]
    have e : bs.take m ++ bs.drop m = bs := List.take_append_drop m bs
    conv => rhs; rw [← e]
    have p1 : (bs.drop m ++ (beadsOf ws ++ bs.take m)).Perm ((beadsOf ws ++ bs.take m) ++ bs.drop m) := List.perm_append_comm
    refine p1.trans ?_
    rw [List.append_assoc, e]
    exact List.perm_append_comm
  · rcases List.mem_cons.mp hu with rfl | hu
    · rfl
    · rcases List.mem_append.mp hu with hu | hu
      · exact h.op a b u (List.mem_cons_of_mem _ hu)
      · rw [List.mem_singleton.mp hu]
theorem Near.join {rings : Bool} {ss ws vs : List Strand} {k : Bool} {bs : List Bead} {v : Strand} (h : Near rings ss ((k, bs) :: ws)) (p : (v :: vs).Perm ws) : Near rings ss ((k, bs ++ v.2) :: vs) := by
  have h' := near_perm h (p.cons (k, bs))
  refine ⟨fun u hu => ?_, ?_, fun a b u hu => ?_⟩
  · rcases List.mem_cons.mp hu with rfl | hu
    · exact fun e => h.ne _ List.mem_cons_self (List.append_eq_nil_iff.mp e).1
    · exact h'.ne u (List.mem_cons_of_mem _ (List.mem_cons_of_mem _ hu))
  · have h2 : ((bs ++ (v.2 ++ beadsOf vs)).map Prod.snd).Perm ((beadsOf ss).map Prod.snd) := h'.pm
    show (((bs ++ v.2) ++ beadsOf vs).map Prod.snd).Perm _
    rw [List.append_assoc]
    exact h2
  · rcases List.mem_cons.mp hu with rfl | hu
    · exact h'.op a b (k, bs) List.mem_cons_self
    · exact h'.op a b u (List.mem_cons_of_mem _ (List.mem_cons_of_mem _ hu))
end Sw

open PySem PySem.Spec L2 Sw
namespace Sw
theorem keyT_E {x : D} (h : IsE x) : KeyT true x := by
  obtain ⟨z, s, rfl⟩ := h
  exact ⟨.tup [.text z, .num s], rfl, ⟨_, rfl⟩, by simp [NestedKey.depth, NestedKey.depthAll]⟩
theorem eqv_E {x y : D} (hx : IsE x) (hy : IsE y) : PyData.eqv x y = true ↔ x = y := eqv_hn 1 x y (hn_E hx 0) (hn_E hy 0)
theorem lookD_newE {kds : List (D × D)} {x : D} (hk : ∀ p ∈ kds, IsE p.1) (hx : IsE x) (hn : x ∉ kds.map Prod.fst) : lookD kds x = none := lookD_none fun p hp => by
  rw [← Bool.not_eq_true, eqv_E (hk p hp) hx]
  rintro rfl
  exact hn (List.mem_map_of_mem hp)
theorem putD_newE {kds : List (D × D)} {x v : D} (hk : ∀ p ∈ kds, IsE p.1) (hx : IsE x) (hn : x ∉ kds.map Prod.fst) : putD kds x v = kds ++ [(x, v)] := by
  unfold putD
  rw [lookD_newE hk hx hn]
  rfl
theorem putD_lastE {kds : List (D × D)} {x u v : D} (hk : ∀ p ∈ kds, IsE p.1) (hx : IsE x) (hn : x ∉ kds.map Prod.fst) : putD (kds ++ [(x, u)]) x v = kds ++ [(x, v)] := by
  have e1 : lookD (kds ++ [(x, u)]) x = some u := by
    rw [lookD_app, lookD_newE hk hx hn, lookD_cons, if_pos ((eqv_E hx hx).mpr rfl)]
    rfl
  unfold putD
  rw [e1, if_pos (show (some u).isSome = true from rfl), List.map_append]
  have e2 : kds.map (fun p => if PyData.eqv p.1 x = true then (p.1, v) else p) = kds := by
    conv => rhs; rw [← List.map_id kds]
    refine List.map_congr_left fun p hp => ?_
    rw [if_neg]
    · rfl
    · rw [eqv_E (hk p hp) hx]
      rintro rfl
      exact hn (List.mem_map_of_mem hp)
  rw [e2, List.map_cons, if_pos ((eqv_E hx hx).mpr rfl)]
  rfl
/-- a joint of one end or of two -/
inductive Jt : D → Prop
  | one {x : D} (h : IsE x) : Jt (.tuple [x])
  | two {x y : D} (h : IsE x) (g : IsE y) : Jt (.tuple [x, y])
def jP : D → List (D × D)
  | .tuple [x] => [(x, .none)]
  | .tuple [x, y] => [(x, y), (y, x)]
  | _ => []
theorem jP_keys {j : D} (h : Jt j) : (jP j).map Prod.fst = tupE j := by cases h <;> rfl
theorem jP_isE {j : D} (h : Jt j) : ∀ p ∈ jP j, IsE p.1 := fun p hp => by
  cases h with
  | one h => rw [List.mem_singleton.mp hp]; exact h
  | two h g =>
    rcases List.mem_cons.mp hp with rfl | hp
    · exact h
    · rw [List.mem_singleton.mp hp]; exact g
theorem jPs_keys {js : List D} (h : ∀ j ∈ js, Jt j) : (js.flatMap jP).map Prod.fst = js.flatMap tupE := by
  induction js with
  | nil => rfl
  | cons j r ih =>
    show ((jP j ++ r.flatMap jP).map Prod.fst) = tupE j ++ r.flatMap tupE
    rw [List.map_append, jP_keys (h j List.mem_cons_self), ih fun x hx => h x (List.mem_cons_of_mem _ hx)]
theorem jPs_isE {js : List D} (h : ∀ j ∈ js, Jt j) : ∀ p ∈ js.flatMap jP, IsE p.1 := fun p hp => by
  obtain ⟨j, hj, hp⟩ := List.mem_flatMap.mp hp
  exact jP_isE (h j hj) p hp
theorem jPs_len {js : List D} (h : ∀ j ∈ js, Jt j) : (js.flatMap jP).length ≤ 2 * js.length := by
  induction js with
  | nil => simp
  | cons j r ih =>
    have h1 := ih fun x hx => h x (List.mem_cons_of_mem _ hx)
    have h2 : (jP j).length ≤ 2 := by cases h j List.mem_cons_self <;> simp [jP]
    show (jP j ++ r.flatMap jP).length ≤ _
    rw [List.length_append, List.length_cons]
    omega
def sp_partners : PSp := fun fl ds Q => fl = none ∧ ∃ js, ds = [.tuple js] ∧ (∀ j ∈ js, Jt j) ∧ (js.flatMap tupE).Nodup ∧ js.length ≤ 100000 ∧ Q (.dt (.dict (js.flatMap jP))) none
abbrev N_partners : List Str := ["joints", "found", "joint"]
def T_partners : PS' := (sSeq (sAsgD 1 true)
  (sSeq (sFor (iAny (qVar 0)) (gN 2) (sSeq (sPutD 1 (qC .none) (qOp gIx (qVar 2) (qC (.int 0))))
  (sIf (qTest (qOp (gEq false) (qCB gLen (qCons (qVar 2) qNil)) (qC (.int 2)))) (sSeq (sPutD 1 (qOp gIx (qVar 2) (qC (.int 1))) (qOp gIx (qVar 2) (qC (.int 0))))
  (sPutD 1 (qOp gIx (qVar 2) (qC (.int 0))) (qOp gIx (qVar 2) (qC (.int 1))))) sNil)))
  (sFrzD 1 (sRet (qVar 1)))))
theorem pure_partners (fl : Option (List D)) (ds : List D) (Q : RV → Option (List D) → Prop) (_ : false = true ↔ fl ≠ none) (h : sp_partners fl ds Q) : T_partners (endsOf false Q) (startE false N_partners fl ds) := by
  obtain ⟨rfl, js, rfl, hj, hn, hl, k⟩ := h
  show T_partners _ [SV.dat (.tuple js), SV.un, SV.un]
  unfold T_partners
  refine sSeq_abs fun R hR => ?_
  walk_at "wp"
  subst hR
  refine cut_seq (fun env => ∃ y, env = [SV.dat (.tuple js), SV.dic true (js.flatMap jP), y]) ?_ fun nx hnx => ?_
  · rintro env ⟨y, rfl⟩
    walk_at "wp"
    trace_state
    exact k
  walk_at "wp"
  refine pFor_inv (fun i env => ∃ y, env = [SV.dat (.tuple js), SV.dic true ((js.take i).flatMap jP), y]) ⟨_, rfl⟩ ?_ fun env h => hnx env (by rw [List.take_length] at h; exact h)
  rintro i j hd env ⟨y, rfl⟩ K hK
  have hm := List.mem_of_getElem? hd
  have hjt : ∀ x ∈ js.take i, Jt x := fun x hx => hj x (List.mem_of_mem_take hx)
  have hk := jPs_isE hjt
  have hlen := jPs_len hjt
  have hl2 : (js.take i).length ≤ js.length := by rw [List.length_take]; omega
  have hkeys := jPs_keys hjt
  have hn' : ((js.take i).flatMap tupE ++ tupE j).Nodup := by
    have : ((js.take (i + 1)).flatMap tupE).Nodup := by
      have e : js.flatMap tupE = (js.take (i + 1)).flatMap tupE ++ (js.drop (i + 1)).flatMap tupE := by rw [← List.flatMap_append, List.take_append_drop]
      rw [e] at hn
      exact (List.nodup_append.mp hn).1
    rw [List.take_add_one, hd, List.flatMap_append] at this
    simpa using this
  have hnx2 : ∀ kds, kds = (js.take i).flatMap jP ++ jP j → K [SV.dat (.tuple js), SV.dic true kds, SV.dat j] := fun kds e => hK _ ⟨SV.dat j, by
    have e2 : (js.take (i + 1)).flatMap jP = (js.take i).flatMap jP ++ jP j := by rw [List.take_add_one, hd, List.flatMap_append]; simp
    rw [e2, e]⟩
  generalize hkd : (js.take i).flatMap jP = kd at hk hlen hkeys hnx2
  rw [← hkeys] at hn'
  have sz : kd.length + 2 < sizeLine := by rw [sizeLine_eq]; omega
  cases hj j hm with
  | @one x hx =>
    have n1 : x ∉ kd.map Prod.fst := fun hm => (List.nodup_append.mp hn').2.2 x hm x (by simp [tupE]) rfl
    walk_at "wp"
    refine ⟨keyT_E hx, by omega, ?_⟩
    rw [if_neg (by decide), putD_newE hk hx n1]
    exact hnx2 _ rfl
  | @two x y hx hy =>
    have n1 : x ∉ kd.map Prod.fst := fun hm => (List.nodup_append.mp hn').2.2 x hm x (by simp [tupE]) rfl
    have n2 : y ∉ kd.map Prod.fst := fun hm => (List.nodup_append.mp hn').2.2 y hm y (by simp [tupE]) rfl
    have ne : x ≠ y := by
      have := (List.nodup_append.mp hn').2.1
      simp [tupE] at this
      exact this
    walk_at "wp"
    rw [putD_newE hk hx n1]
    refine ⟨keyT_E hx, by omega, ?_⟩
    rw [if_pos (by decide)]
    rw [putD_lastE hk hx n1]
    refine ⟨keyT_E hx, by simp only [List.length_append, List.length_cons, List.length_nil]; omega, keyT_E hy, by simp only [List.length_append, List.length_cons, List.length_nil]; omega, ?_⟩
    refine hnx2 _ ?_
    rw [putD_newE (fun p hp => ?_) hy (fun hm => ?_)]
    · simp [jP]
    · rcases List.mem_append.mp hp with hp | hp
      · exact hk p hp
      · rw [List.mem_singleton.mp hp]; exact hx
    · rw [List.map_append] at hm
      rcases List.mem_append.mp hm with hm | hm
      · exact n2 hm
      · have hm : y = x := by simpa using hm
        exact ne hm.symm

end Sw

open PySem PySem.Spec L2 Sw
namespace Sw
abbrev En := Str × Bool
def eD (e : En) : D := endD e.1 (if e.2 = true then 1 else 0)
def flE (e : En) : En := (e.1, !e.2)
def bdE (e : En) : Bead := (e.2, e.1)
theorem flfl (e : En) : flE (flE e) = e := by simp [flE]
theorem fl_ne (e : En) : flE e ≠ e := fun h => by
  have := congrArg Prod.snd h
  simp [flE] at this
theorem lE_bdE (e : En) : lE (bdE e) = eD e := rfl
theorem rE_bdE (e : En) : rE (bdE e) = eD (flE e) := by
  obtain ⟨z, b⟩ := e
  cases b <;> rfl
theorem isE_en (e : En) : IsE (eD e) := ⟨_, _, rfl⟩
theorem eD_inj {e f : En} (h : eD e = eD f) : e = f := by
  obtain ⟨z, b⟩ := e
  obtain ⟨w, c⟩ := f
  obtain ⟨h1, h2⟩ := endD_inj h
  have h1 : z = w := h1
  subst h1
  cases b <;> cases c <;> first | rfl | simp at h2
/-- which end is tied with which -/
structure Pg (ns : List Str) (p : En → Option En) : Prop where
  sym : ∀ {e f : En}, p e = some f → p f = some e
  irr : ∀ e : En, p e ≠ some e
  inn : ∀ {e f : En}, p e = some f → f.1 ∈ ns
def Ch (p : En → Option En) : List En → Prop
  | a :: b :: r => p (flE a) = some b ∧ Ch p (b :: r)
  | _ => True
theorem Ch.snoc {p : En → Option En} {l f : En} : ∀ {r : List En}, Ch p (r ++ [l]) → p (flE l) = some f → Ch p ((r ++ [l]) ++ [f])
  | [], _, h => ⟨h, trivial⟩
  | [a], h, g => ⟨h.1, g, trivial⟩
  | a :: b :: r, h, g => ⟨h.1, Ch.snoc (r := b :: r) h.2 g⟩
theorem Ch.mid {p : En → Option En} {h g : En} : ∀ {A C : List En}, Ch p (A ++ h :: g :: C) → p (flE h) = some g
  | [], C, q => q.1
  | [a], C, q => q.2.1
  | a :: b :: A, C, q => Ch.mid (A := b :: A) q.2
/-- what comes next is new -/
theorem next_new {ns : List Str} {p : En → Option En} (P : Pg ns p) {r : List En} {l f : En} (hc : Ch p (r ++ [l])) (hn : ((r ++ [l]).map Prod.fst).Nodup) (hf : p (flE l) = some f) (h0 : ∀ e, (r ++ [l]).head? = some e → f ≠ e) : f.1 ∉ (r ++ [l]).map Prod.fst := fun hm => by
  obtain ⟨g, hg, e⟩ := List.mem_map.mp hm
  obtain ⟨B, C, hs⟩ := List.append_of_mem hg
  have hpf : p f = some (flE l) := P.sym hf
  have two : f = g ∨ f = flE g := by
    obtain ⟨z, b⟩ := f
    obtain ⟨w, c⟩ := g
    have e : w = z := e
    subst e
    cases b <;> cases c <;> simp [flE]
  have lastC : C = [] → g = l := fun hC => by
    subst hC
    have := congrArg List.getLast? hs
    simpa using this.symm
  have lastM : C ≠ [] → l ∈ C := fun hC => by
    have := congrArg List.getLast? hs
    rw [List.getLast?_append, List.getLast?_singleton] at this
    rw [List.getLast?_append, List.getLast?_cons] at this
    cases q : C.getLast? with
    | none => exact absurd (List.getLast?_eq_none_iff.mp q) hC
    | some x =>
      rw [q] at this
      simp at this
      rw [this]
      exact List.mem_of_getLast? q
  rw [hs] at hc hn h0
  rw [List.map_append, List.map_cons] at hn
  obtain ⟨n1, n2, n3⟩ := List.nodup_append.mp hn
  obtain ⟨n4, n5⟩ := List.nodup_cons.mp n2
  rcases two with rfl | rfl
  · -- f stands there already
    rcases List.eq_nil_or_concat B with rfl | ⟨B', h, rfl⟩
    · exact h0 f rfl rfl
    · have hq : Ch p (B' ++ h :: f :: C) := by
        have e : B' ++ h :: f :: C = (B' ++ [h]) ++ f :: C := by simp
        rw [e]
        simpa using hc
      have := P.sym hq.mid
      rw [hpf] at this
      have e2 : l = h := by
        have := congrArg flE (Option.some.inj this)
        rw [flfl, flfl] at this
        exact this
      subst e2
      by_cases hC : C = []
      · have := lastC hC
        subst this
        exact n3 f.1 (by simp) f.1 (by simp) rfl
      · exact n3 l.1 (by simp) l.1 (by simp only [List.mem_cons]; exact .inr (List.mem_map_of_mem (lastM hC))) rfl
  · -- its other end stands there
    cases C with
    | nil =>
      have := lastC rfl
      subst this
      exact P.irr _ hf
    | cons h C =>
      have h1 : p (flE g) = some h := hc.mid
      rw [hpf] at h1
      have e2 : flE l = h := Option.some.inj h1
      have hl := lastM (by simp)
      have hname : h.1 = l.1 := by rw [← e2]; rfl
      rw [List.map_cons, List.nodup_cons] at n5
      rcases List.mem_cons.mp hl with rfl | hl
      · exact fl_ne _ e2
      · exact n5.1 (by rw [hname]; exact List.mem_map_of_mem hl)
/-- a row from an end on, as far as it goes -/
structure Row (ns : List Str) (p : En → Option En) (e : En) (r : List En) : Prop where
  hd : r.head? = some e
  ch : Ch p r
  nd : (r.map Prod.fst).Nodup
  inn : ∀ x ∈ r, x.1 ∈ ns
  fin : ∃ A l, r = A ++ [l] ∧ (p (flE l) = none ∨ p (flE l) = some e)
def pvD : Option En → D
  | none => .none
  | some f => eD f
theorem sWh_abs {c : PT'} {B : PS'} {Dp : PEnds} {env : List SV} (h : ∀ B', B' = B → sWh c B' Dp env) : sWh c B Dp env := h B rfl
theorem sFor_abs {I : PI'} {G : TG'} {B : PS'} {Dp : PEnds} {env : List SV} (h : ∀ B', B' = B → sFor I G B' Dp env) : sFor I G B Dp env := h B rfl
def sp_beads_from : PSp := fun fl ds Q => fl = none ∧ ∃ ns p kds e, ds = [eD e, .dict kds] ∧ Pg ns p ∧ (∀ x : En, x.1 ∈ ns → lookD kds (eD x) = some (pvD (p x))) ∧ (∀ q ∈ kds, IsE q.1) ∧ e.1 ∈ ns ∧ (∀ z ∈ ns, Nm z) ∧ ns.length ≤ 1000 ∧ ∀ r : List En, Row ns p e r → Q (.dt (.tuple ((r.map bdE).map bdD))) none
abbrev N_beads_from : List Str := ["end", "joined", "beads", "at", "name", "side"]
def T_beads_from : PS' := (sSeq (sAsgF 2 (fLst (qNil)))
  (sSeq (sAsg 3 (qVar 0))
  (sSeq (sWh (tAnd' (qTest (qOp (gIsN true) (qVar 3) (qC .none))) (tOr' (qTest (qOp (gEq false) (qVar 2) (qF (fLst (qNil))))) (qTest (qOp (gEq true) (qVar 3) (qVar 0))))) (sSeq (sAsgG (qVar 3) (gT 2 (gsC (gN 4) (gsC (gN 5) gsN))))
  (sSeq (sDrop (qMO 2 gAppend (qCons (qOp gAdd (qOp gMul (qC (.str "-")) (qVar 5)) (qVar 4)) qNil)))
  (sAsg 3 (qDGet (qVar 1) (qTup (qCons (qVar 4) (qCons (qOp (gI dSub) (qC (.int 1)) (qVar 5)) qNil))))))))
  (sRet (qCB gTuple (qCons (qVar 2) qNil))))))
theorem nodup_few {α : Type} [BEq α] [LawfulBEq α] : ∀ {xs ys : List α}, xs.Nodup → (∀ x ∈ xs, x ∈ ys) → xs.length ≤ ys.length
  | [], _, _, _ => Nat.zero_le _
  | x :: r, ys, h, hs => by
    obtain ⟨h1, h2⟩ := List.nodup_cons.mp h
    have hx := hs x List.mem_cons_self
    have ih := nodup_few (xs := r) (ys := ys.erase x) h2 fun y hy => (List.mem_erase_of_ne (fun e : y = x => h1 (e ▸ hy))).mpr (hs y (List.mem_cons_of_mem _ hy))
    rw [List.length_erase_of_mem hx] at ih
    have : 0 < ys.length := List.length_pos_of_mem hx
    rw [List.length_cons]
    omega
theorem gIsN_en (neg : Bool) (e : En) : gIsN neg (eD e) .none = some (.bool neg) := gIsN_t
theorem en_dash (e : En) : Txt.mul (Str.ofString "-") (if e.2 = true then 1 else 0) ++ e.1 = bdS (bdE e) := by
  obtain ⟨z, b⟩ := e
  have := mul_dash (d := if b = true then 1 else 0) (by split <;> omega) (by split <;> omega) z
  show Txt.mul (Str.ofString "-") (if b = true then 1 else 0) ++ z = bdS (b, z)
  rw [this]
  cases b <;> rfl
theorem pure_beads_from (fl : Option (List D)) (ds : List D) (Q : RV → Option (List D) → Prop) (_ : false = true ↔ fl ≠ none) (h : sp_beads_from fl ds Q) : T_beads_from (endsOf false Q) (startE false N_beads_from fl ds) := by
  obtain ⟨rfl, ns, p, kds, e, rfl, P, hl, hk, he, hnm, hlen, k⟩ := h
  show T_beads_from _ [SV.dat (eD e), SV.dat (.dict kds), SV.un, SV.un, SV.un, SV.un]
  unfold T_beads_from
  refine sSeq_abs fun R hR => ?_
  walk_at "wp"
  refine ⟨Nat.zero_le _, ?_⟩
  subst hR
  refine sSeq_abs fun R hR => ?_
  walk_at "wp"
  subst hR
  refine cut_seq (fun env => ∃ r y3 y4 y5, Row ns p e r ∧ env = [SV.dat (eD e), SV.dat (.dict kds), SV.own false ((r.map bdE).map bdD), y3, y4, y5]) ?_ fun nx hnx => ?_
  · rintro env ⟨r, y3, y4, y5, hr, rfl⟩
    walk_at "wp"
    exact k r hr
  refine sWh_abs fun B hB => ?_
  refine pWh_inv (fun env => ∃ r a y4 y5, ((r = [] ∧ a = some e) ∨ ∃ A l, r = A ++ [l] ∧ r.head? = some e ∧ a = p (flE l)) ∧ Ch p r ∧ (r.map Prod.fst).Nodup ∧ (∀ x ∈ r, x.1 ∈ ns) ∧ env = [SV.dat (eD e), SV.dat (.dict kds), SV.own false ((r.map bdE).map bdD), SV.dat (pvD a), y4, y5])
    (fun env : List SV => match env[2]? with | some (SV.obj _ (Ct.lst l)) => 1001 - l.length | _ => 0) ⟨[], some e, _, _, .inl ⟨rfl, rfl⟩, trivial, List.nodup_nil, fun x hx => absurd hx (by simp), rfl⟩ ?_
  rintro env ⟨r, a, y4, y5, ha, hc, hn, hi, rfl⟩ K hK
  have hrl : r.length ≤ 1000 := by
    have := nodup_few hn (ys := ns) fun x hx => by
      obtain ⟨y, hy, rfl⟩ := List.mem_map.mp hx
      exact hi y hy
    rw [List.length_map] at this
    omega
  -- one step on
  have step : ∀ (f : En) (rt : RV → List SV → Prop) (bk : List SV → Prop), a = some f → f.1 ∈ ns → (r = [] ∨ f ≠ e) → B ⟨K, rt, bk, K⟩ [SV.dat (eD e), SV.dat (.dict kds), SV.own false ((r.map bdE).map bdD), SV.dat (pvD a), y4, y5] := fun f rt bk e1 hfn hf => by
    subst e1 hB
    have hfnm := hnm _ hfn
    have new : f.1 ∉ r.map Prod.fst ∧ Ch p (r ++ [f]) ∧ (r ++ [f]).head? = some e := by
      rcases ha with ⟨rfl, h⟩ | ⟨A, l, rfl, hh, h⟩
      · cases h
        exact ⟨by simp, trivial, rfl⟩
      · refine ⟨next_new P hc hn h.symm fun e' he' => ?_, hc.snoc h.symm, by rw [List.head?_append, hh]; rfl⟩
        rw [hh] at he'
        cases he'
        rcases hf with hf | hf
        · simp at hf
        · exact hf
    obtain ⟨z, b⟩ := f
    show sSeq _ _ _ [_, _, _, SV.dat (.tuple [.str z, .int (if b = true then 1 else 0)]), _, _]
    walk_at "wp"
    have hd : Txt.mul (Str.ofString "-") (if b = true then 1 else 0) ++ z = bdS (b, z) := en_dash (z, b)
    have hl1 : lookD kds (.tuple [.str z, .int (1 - if b = true then 1 else 0)]) = some (pvD (p (flE (z, b)))) := by
      have := hl (flE (z, b)) hfn
      have e2 : eD (flE (z, b)) = .tuple [.str z, .int (1 - if b = true then 1 else 0)] := by cases b <;> rfl
      rw [e2] at this
      exact this
    have hkO : KeyO none kds (.tuple [.str z, .int (1 - if b = true then 1 else 0)]) := by
      obtain ⟨q, hq, _⟩ := lookD_mem hl1
      exact keyO_of ⟨q, hq, keyT_E (hk q hq)⟩ (keyT_E ⟨z, _, rfl⟩)
    have hdl : (Txt.mul (Str.ofString "-") (if b = true then 1 else 0)).length + z.length ≤ 7 := by
      rw [← len_app, hd]
      exact bd_len (b := (b, z)) hfnm
    refine ⟨⟨by split <;> omega, by split <;> omega, by decide +kernel⟩, sizeL (by omega), ?_, sizeL (by omega), hkO, _, hl1, ?_⟩
    · rw [List.length_map, List.length_map, sizeLine_eq]; omega
    · refine hK _ ⟨r ++ [(z, b)], p (flE (z, b)), SV.dat (.str z), SV.dat (.int (if b = true then 1 else 0)), .inr ⟨r, (z, b), rfl, new.2.2, rfl⟩, new.2.1, ?_, fun x hx => ?_, ?_⟩ ?_
      · rw [List.map_append]
        exact List.nodup_append.mpr ⟨hn, by simp, fun x hx y hy e => by
          have hy : y = z := by simpa using hy
          rw [hy] at e
          exact new.1 (e ▸ hx)⟩
      · rcases List.mem_append.mp hx with hx | hx
        · exact hi x hx
        · rw [List.mem_singleton.mp hx]; exact hfn
      · rw [hd, List.map_append, List.map_append]
        rfl
      · show 1001 - _ < 1001 - ((r.map bdE).map bdD).length
        simp only [List.length_append, List.length_map, List.length_cons, List.length_nil]
        omega
  have out : (a = none ∨ a = some e) → r ≠ [] → nx [SV.dat (eD e), SV.dat (.dict kds), SV.own false ((r.map bdE).map bdD), SV.dat (pvD a), y4, y5] := fun h1 h2 => hnx _ ⟨r, _, _, _, by
    rcases ha with ⟨h, _⟩ | ⟨A, l, h3, h4, h5⟩
    · exact absurd h h2
    · exact ⟨h4, hc, hn, hi, A, l, h3, by rw [← h5]; exact h1⟩, rfl⟩
  cases a with
  | none =>
    walk_at "wp"
    show ∃ d, gIsN true .none .none = some d ∧ _
    walk_at "wp"
    refine out (.inl rfl) fun e => ?_
    rcases ha with ⟨_, h⟩ | ⟨A, l, h3, _⟩
    · cases h
    · rw [e] at h3
      simp at h3
  | some f =>
    have hfn : f.1 ∈ ns := by
      rcases ha with ⟨_, h⟩ | ⟨A, l, _, _, h⟩
      · cases h; exact he
      · exact P.inn h.symm
    walk_at "wp"
    show ∃ d, gIsN true (eD f) .none = some d ∧ _
    rw [gIsN_en]
    walk_at "wp"
    refine ⟨Nat.zero_le _, ?_⟩
    refine eq_hn (hn_bdsL 0 (r.map bdE)) (show Hn 1 (.list []) from fun d hd => absurd hd (by simp)) (by omega) (fun h => ?_) (fun h => ?_)
    · have hr : r = [] := by
        injection h with h
        simpa using h
      walk_at "wp"
      exact step f _ _ rfl hfn (.inl hr)
    · walk_at "wp"
      have hr : r ≠ [] := fun h2 => h (by rw [h2]; rfl)
      show ∃ d, gEq true (eD f) (eD e) = some d ∧ _
      refine ne_hn (hn_E (isE_en f) 0) (hn_E (isE_en e) 0) (by omega) (fun h => ?_) (fun h => ?_)
      · have := eD_inj h
        subst this
        walk_at "wp"
        exact out (.inr rfl) hr
      · walk_at "wp"
        exact step f _ _ rfl hfn (.inr fun h2 => h (by rw [h2]))

end Sw

open PySem PySem.Spec L2 Sw
namespace Sw
/-- joints, each sorted, in which each end of some names stands once -/
structure JsOk (ns : List Str) (js : List D) : Prop where
  form : ∀ j ∈ js, Jt j
  srt : ∀ j ∈ js, j = .tuple (srtD (tupE j))
  all : (js.flatMap tupE).Perm (ns.map (fun z => endD z 0) ++ ns.map fun z => endD z 1)
theorem JsOk.perm {ns : List Str} {js ks : List D} (h : JsOk ns js) (p : ks.Perm js) : JsOk ns ks :=
  ⟨fun j hj => h.form j (p.mem_iff.mp hj), fun j hj => h.srt j (p.mem_iff.mp hj), (p.flatMap_right _).trans h.all⟩
theorem JsOk.nod {ns : List Str} {js : List D} (h : JsOk ns js) (hn : ns.Nodup) : (js.flatMap tupE).Nodup := h.all.nodup_iff.mpr (ends_nodup hn)
theorem JsOk.mem {ns : List Str} {js : List D} (h : JsOk ns js) {x : D} : x ∈ js.flatMap tupE ↔ ∃ e : En, e.1 ∈ ns ∧ x = eD e := by
  rw [h.all.mem_iff, List.mem_append]
  constructor
  · rintro (hx | hx)
    · obtain ⟨z, hz, rfl⟩ := List.mem_map.mp hx
      exact ⟨(z, false), hz, rfl⟩
    · obtain ⟨z, hz, rfl⟩ := List.mem_map.mp hx
      exact ⟨(z, true), hz, rfl⟩
  · rintro ⟨⟨z, b⟩, hz, rfl⟩
    cases b with
    | false => exact .inl (List.mem_map_of_mem (f := fun z => endD z 0) hz)
    | true => exact .inr (List.mem_map_of_mem (f := fun z => endD z 1) hz)
theorem jP_mem {j x v : D} (hj : Jt j) : (x, v) ∈ jP j ↔ (j = .tuple [x] ∧ v = .none) ∨ j = .tuple [x, v] ∧ IsE v ∨ j = .tuple [v, x] ∧ IsE v := by
  cases hj with
  | @one a ha =>
    simp only [jP, List.mem_singleton, Prod.mk.injEq, PyData.tuple.injEq, List.cons.injEq, and_true]
    constructor
    · rintro ⟨rfl, rfl⟩; exact .inl ⟨rfl, rfl⟩
    · rintro (⟨rfl, rfl⟩ | ⟨⟨_, h⟩, _⟩ | ⟨⟨_, h⟩, _⟩)
      · exact ⟨rfl, rfl⟩
      · cases h
      · cases h
  | @two a b ha hb =>
    simp only [jP, List.mem_cons, List.mem_singleton, Prod.mk.injEq, PyData.tuple.injEq, List.cons.injEq, and_true, List.not_mem_nil, or_false]
    constructor
    · rintro (⟨rfl, rfl⟩ | ⟨rfl, rfl⟩)
      · exact .inr (.inl ⟨⟨rfl, rfl⟩, hb⟩)
      · exact .inr (.inr ⟨⟨rfl, rfl⟩, ha⟩)
    · rintro (⟨⟨_, h⟩, _⟩ | ⟨⟨rfl, rfl⟩, _⟩ | ⟨⟨rfl, rfl⟩, _⟩)
      · cases h
      · exact .inl ⟨rfl, rfl⟩
      · exact .inr ⟨rfl, rfl⟩
theorem jP_sym {j x y : D} (hj : Jt j) (hy : IsE y) (h : (x, y) ∈ jP j) (hx : IsE x) : (y, x) ∈ jP j := by
  rw [jP_mem hj] at h ⊢
  rcases h with ⟨_, rfl⟩ | ⟨h, _⟩ | ⟨h, _⟩
  · obtain ⟨_, _, e⟩ := hy; cases e
  · exact .inr (.inr ⟨h, hx⟩)
  · exact .inr (.inl ⟨h, hx⟩)
/-- a look-up among unlike ends -/
theorem lookE_iff {x v : D} (hx : IsE x) : ∀ {kds : List (D × D)}, (∀ p ∈ kds, IsE p.1) → (kds.map Prod.fst).Nodup → (lookD kds x = some v ↔ (x, v) ∈ kds)
  | [], _, _ => by simp [lookD_nil]
  | p :: r, hk, hn => by
    rw [List.map_cons, List.nodup_cons] at hn
    have ih := lookE_iff (v := v) hx (kds := r) (fun q hq => hk q (List.mem_cons_of_mem _ hq)) hn.2
    rw [lookD_cons]
    by_cases e : p.1 = x
    · rw [if_pos ((eqv_E (hk p List.mem_cons_self) hx).mpr e)]
      constructor
      · intro h
        cases h
        rw [← e]
        exact List.mem_cons_self
      · intro h
        rcases List.mem_cons.mp h with h | h
        · rw [← h]
        · exact absurd (by rw [e]; exact List.mem_map_of_mem (f := Prod.fst) h) hn.1
    · rw [if_neg (fun h => e ((eqv_E (hk p List.mem_cons_self) hx).mp h)), ih]
      constructor
      · exact fun h => List.mem_cons_of_mem _ h
      · intro h
        rcases List.mem_cons.mp h with h | h
        · exact absurd (by rw [← h]) e
        · exact h
def enOf : D → Option En
  | .tuple [.str z, .int s] => some (z, decide (s = 1))
  | _ => none
theorem enOf_eD (e : En) : enOf (eD e) = some e := by
  obtain ⟨z, b⟩ := e
  cases b <;> rfl
def pJ (js : List D) (e : En) : Option En := (lookD (js.flatMap jP) (eD e)).bind enOf
section
variable {ns : List Str} {js : List D}
theorem JsOk.look (h : JsOk ns js) (hn : ns.Nodup) {x v : D} (hx : IsE x) : lookD (js.flatMap jP) x = some v ↔ (x, v) ∈ js.flatMap jP :=
  lookE_iff hx (jPs_isE h.form) (by rw [jPs_keys h.form]; exact h.nod hn)
theorem JsOk.val (h : JsOk ns js) {x v : D} (hm : (x, v) ∈ js.flatMap jP) : v = .none ∨ ∃ f : En, f.1 ∈ ns ∧ v = eD f := by
  obtain ⟨j, hj, hp⟩ := List.mem_flatMap.mp hm
  rcases (jP_mem (h.form j hj)).mp hp with ⟨_, rfl⟩ | ⟨e, _⟩ | ⟨e, _⟩
  · exact .inl rfl
  · exact .inr (h.mem.mp (List.mem_flatMap.mpr ⟨j, hj, by rw [e]; simp [tupE]⟩))
  · exact .inr (h.mem.mp (List.mem_flatMap.mpr ⟨j, hj, by rw [e]; simp [tupE]⟩))
theorem JsOk.tot (h : JsOk ns js) (hn : ns.Nodup) {e : En} (he : e.1 ∈ ns) : lookD (js.flatMap jP) (eD e) = some (pvD (pJ js e)) := by
  have hk : eD e ∈ (js.flatMap jP).map Prod.fst := by rw [jPs_keys h.form]; exact h.mem.mpr ⟨e, he, rfl⟩
  obtain ⟨⟨x, v⟩, hm, e1⟩ := List.mem_map.mp hk
  have e1 : x = eD e := e1
  subst e1
  have hl := (h.look hn (isE_en e)).mpr hm
  have hp : pJ js e = enOf v := by unfold pJ; rw [hl]; rfl
  rw [hl, hp]
  rcases h.val hm with rfl | ⟨f, _, rfl⟩
  · rfl
  · rw [enOf_eD]; rfl
theorem JsOk.pj (h : JsOk ns js) (hn : ns.Nodup) {e f : En} (g : pJ js e = some f) : (eD e, eD f) ∈ js.flatMap jP ∧ f.1 ∈ ns := by
  unfold pJ at g
  cases q : lookD (js.flatMap jP) (eD e) with
  | none => rw [q] at g; cases g
  | some v =>
    rw [q] at g
    have hm := (h.look hn (isE_en e)).mp q
    rcases h.val hm with rfl | ⟨f', hf, rfl⟩
    · cases g
    · have g : enOf (eD f') = some f := g
      rw [enOf_eD] at g
      cases g
      exact ⟨hm, hf⟩
theorem JsOk.pg (h : JsOk ns js) (hn : ns.Nodup) : Pg ns (pJ js) where
  sym := fun {e f} g => by
    obtain ⟨hm, _⟩ := h.pj hn g
    obtain ⟨j, hj, hp⟩ := List.mem_flatMap.mp hm
    have := (h.look hn (isE_en f)).mpr (List.mem_flatMap.mpr ⟨j, hj, jP_sym (h.form j hj) (isE_en f) hp (isE_en e)⟩)
    unfold pJ
    rw [this]
    exact enOf_eD e
  irr := fun e g => by
    obtain ⟨hm, _⟩ := h.pj hn g
    obtain ⟨j, hj, hp⟩ := List.mem_flatMap.mp hm
    have hd : (tupE j).Nodup := by
      obtain ⟨a, b, rfl⟩ := List.append_of_mem hj
      have := h.nod hn
      rw [List.flatMap_append] at this
      exact (List.nodup_append.mp (List.nodup_append.mp this).2.1).1
    rcases (jP_mem (h.form j hj)).mp hp with ⟨_, e1⟩ | ⟨rfl, _⟩ | ⟨rfl, _⟩
    · cases e1
    · simp [tupE] at hd
    · simp [tupE] at hd
  inn := fun g => (h.pj hn g).2
theorem JsOk.one (h : JsOk ns js) (hn : ns.Nodup) {e : En} (he : e.1 ∈ ns) (g : pJ js e = none) : .tuple [eD e] ∈ js := by
  have := h.tot hn he
  rw [g] at this
  obtain ⟨j, hj, hp⟩ := List.mem_flatMap.mp ((h.look hn (isE_en e)).mp this)
  rcases (jP_mem (h.form j hj)).mp hp with ⟨rfl, _⟩ | ⟨_, q⟩ | ⟨_, q⟩
  · exact hj
  · obtain ⟨_, _, q⟩ := q; cases q
  · obtain ⟨_, _, q⟩ := q; cases q
theorem JsOk.two (h : JsOk ns js) (hn : ns.Nodup) {e f : En} (g : pJ js e = some f) : jt (eD e) (eD f) ∈ js := by
  obtain ⟨hm, _⟩ := h.pj hn g
  obtain ⟨j, hj, hp⟩ := List.mem_flatMap.mp hm
  rcases (jP_mem (h.form j hj)).mp hp with ⟨_, e1⟩ | ⟨rfl, _⟩ | ⟨rfl, _⟩
  · cases e1
  · have := h.srt _ hj
    rw [this] at hj
    exact hj
  · have := h.srt _ hj
    rw [this] at hj
    rw [jt_comm (isE_en e) (isE_en f)]
    exact hj
theorem JsOk.uniq (h : JsOk ns js) (hn : ns.Nodup) : JN fun j => j ∈ js := ⟨fun hi hj h1 h2 => uniq_flat (h.nod hn) hi hj h1 h2⟩
/-- a set's own joints are such -/
theorem jsOk_jts {ss : List Strand} (h : ∀ s ∈ ss, s.2 ≠ []) (p : ((beadsOf ss).map Prod.snd).Perm ns) : JsOk ns (jts ss) := by
  have two : ∀ x y : D, IsE x → IsE y → Jt (jt x y) ∧ jt x y = .tuple (srtD (tupE (jt x y))) := fun x y hx hy => by
    have hp : (srtD [x, y]).Perm [x, y] := srtD_perm _
    have e : srtD (srtD [x, y]) = srtD [x, y] := srtD_congr (alikeE (xs := [x, y]) fun z hz => by
      rcases List.mem_cons.mp hz with rfl | hz
      · exact hx
      · rw [List.mem_singleton.mp hz]; exact hy) hp
    have hl : (srtD [x, y]).length = 2 := srtD_len _
    refine ⟨?_, congrArg PyData.tuple e.symm⟩
    unfold jt
    match q : srtD [x, y], hl with
    | [a, b], _ =>
      rw [q] at hp
      have m : ∀ z ∈ [a, b], IsE z := fun z hz => by
        rcases List.mem_cons.mp (hp.mem_iff.mp hz) with rfl | hz
        · exact hx
        · rw [List.mem_singleton.mp hz]; exact hy
      exact .two (m a (by simp)) (m b (by simp))
  have one : ∀ x : D, IsE x → Jt (.tuple [x]) ∧ PyData.tuple [x] = .tuple (srtD (tupE (.tuple [x]))) := fun x hx => ⟨.one hx, by
    show PyData.tuple [x] = .tuple (srtD [x])
    have := List.perm_singleton.mp (srtD_perm [x])
    rw [this]⟩
  have all : ∀ j ∈ jts ss, Jt j ∧ j = .tuple (srtD (tupE j)) := fun j hj => by
    obtain ⟨s, _, hj⟩ := List.mem_flatMap.mp hj
    rcases List.mem_append.mp hj with hj | hj
    · obtain ⟨i, hi⟩ := List.getElem?_of_mem hj
      unfold adjJ at hi
      rw [List.getElem?_zipWith] at hi
      cases q1 : s.2[i]? with
      | none => rw [q1] at hi; simp at hi
      | some a =>
        cases q2 : s.2.tail[i]? with
        | none => rw [q1, q2] at hi; simp at hi
        | some b =>
          rw [q1, q2] at hi
          cases hi
          exact two _ _ (isE_r a) (isE_l b)
    · unfold closeJ at hj
      split at hj
      · rw [List.mem_singleton.mp hj]
        exact two _ _ (isE_r _) (isE_l _)
      · rcases List.mem_cons.mp hj with rfl | hj
        · exact one _ (isE_l _)
        · rw [List.mem_singleton.mp hj]
          exact one _ (isE_r _)
  exact ⟨fun j hj => (all j hj).1, fun j hj => (all j hj).2, all_ends' h p⟩
end

end Sw

open PySem PySem.Spec L2 Sw
namespace Sw
def rowS (p : En → Option En) (e : En) (r : List En) : Strand := ((p e).isSome, r.map bdE)
theorem adj_row {ns : List Str} {js : List D} (J : JsOk ns js) (hn : ns.Nodup) : ∀ {r : List En}, Ch (pJ js) r → ∀ j ∈ adjJ (r.map bdE), j ∈ js
  | [], _, j, h => nomatch h
  | [a], _, j, h => nomatch h
  | a :: b :: r, hc, j, h => by
    have h : j ∈ jt (rE (bdE a)) (lE (bdE b)) :: adjJ ((b :: r).map bdE) := h
    rcases List.mem_cons.mp h with rfl | h
    · rw [rE_bdE, lE_bdE]
      exact J.two hn hc.1
    · exact adj_row J hn (r := b :: r) hc.2 j h
theorem last_row (A : List En) (l : En) : lastB ((A ++ [l]).map bdE) = bdE l := by
  rw [List.map_append]
  exact last_app (A := A.map bdE) (B := [bdE l]) (by simp)
theorem first_row {r : List En} {e : En} (h : r.head? = some e) : firstB (r.map bdE) = bdE e := by
  cases r with
  | nil => cases h
  | cons a r => cases h; rfl
/-- the joints of a row's strand are told -/
theorem row_js {ns : List Str} {js : List D} (J : JsOk ns js) (hn : ns.Nodup) {e : En} {r : List En} (h : Row ns (pJ js) e r) (hf : ∀ A l, r = A ++ [l] → (pJ js e).isSome = true → pJ js (flE l) = some e) : ∀ j ∈ strJ (rowS (pJ js) e r), j ∈ js := fun j hj => by
  obtain ⟨A, l, hr, hfin⟩ := h.fin
  have he : e.1 ∈ ns := by
    have := h.hd
    cases r with
    | nil => cases this
    | cons a r => cases this; exact h.inn _ List.mem_cons_self
  have hl : l.1 ∈ ns := h.inn l (by rw [hr]; simp)
  rcases List.mem_append.mp hj with hj | hj
  · exact adj_row J hn h.ch j hj
  · unfold closeJ at hj
    have e1 : lastB (rowS (pJ js) e r).2 = bdE l := by show lastB (r.map bdE) = _; rw [hr]; exact last_row A l
    have e2 : firstB (rowS (pJ js) e r).2 = bdE e := first_row h.hd
    rw [e1, e2, rE_bdE, lE_bdE] at hj
    cases q : pJ js e with
    | none =>
      rw [if_neg (by show ¬ (pJ js e).isSome = true; rw [q]; decide)] at hj
      rcases List.mem_cons.mp hj with rfl | hj
      · exact J.one hn he q
      · rw [List.mem_singleton.mp hj]
        refine J.one hn hl ?_
        rcases hfin with h1 | h1
        · exact h1
        · have := (J.pg hn).sym h1
          rw [q] at this
          cases this
    | some f =>
      rw [if_pos (by show (pJ js e).isSome = true; rw [q]; rfl)] at hj
      rw [List.mem_singleton.mp hj]
      exact J.two hn (hf A l hr (by rw [q]; rfl))
/-- strands made so far -/
structure Made (ns : List Str) (js : List D) (ss : List Strand) : Prop where
  ne : ∀ s ∈ ss, s.2 ≠ []
  nd : ((beadsOf ss).map Prod.snd).Nodup
  inn : ∀ z ∈ (beadsOf ss).map Prod.snd, z ∈ ns
  jts : ∀ j ∈ jts ss, j ∈ js
/-- names that were met are closed -/
theorem Made.closed {ns : List Str} {js : List D} {ss : List Strand} (J : JsOk ns js) (hn : ns.Nodup) (M : Made ns js ss) {e f : En} (h : pJ js e = some f) (he : e.1 ∈ (beadsOf ss).map Prod.snd) : f.1 ∈ (beadsOf ss).map Prod.snd := by
  have K := jsOk_jts (ns := (beadsOf ss).map Prod.snd) M.ne (List.Perm.refl _)
  obtain ⟨j, hj, hx⟩ := List.mem_flatMap.mp (K.mem.mpr ⟨e, he, rfl⟩)
  have e1 := (J.uniq hn).uniq (M.jts j hj) (J.two hn h) hx mem_jt.1
  rw [e1] at hj
  obtain ⟨g, hg, e2⟩ := K.mem.mp (List.mem_flatMap.mpr ⟨_, hj, mem_jt.2⟩)
  rw [eD_inj e2]
  exact hg
theorem Made.row_new {ns : List Str} {js : List D} {ss : List Strand} (J : JsOk ns js) (hn : ns.Nodup) (M : Made ns js ss) : ∀ {r : List En}, Ch (pJ js) r → (∀ e, r.head? = some e → e.1 ∉ (beadsOf ss).map Prod.snd) → ∀ x ∈ r, x.1 ∉ (beadsOf ss).map Prod.snd
  | [], _, _, x, hx => nomatch hx
  | [a], _, h, x, hx => by rw [List.mem_singleton.mp hx]; exact h a rfl
  | a :: b :: r, hc, h, x, hx => by
    rcases List.mem_cons.mp hx with rfl | hx
    · exact h _ rfl
    · refine M.row_new J hn (r := b :: r) hc.2 (fun e he => ?_) x hx
      cases he
      intro hb
      have := M.closed J hn ((J.pg hn).sym hc.1) hb
      exact h a rfl this
theorem Made.snoc {ns : List Str} {js : List D} {ss : List Strand} (J : JsOk ns js) (hn : ns.Nodup) (M : Made ns js ss) {e : En} {r : List En} (h : Row ns (pJ js) e r) (he : e.1 ∉ (beadsOf ss).map Prod.snd) (hf : ∀ A l, r = A ++ [l] → (pJ js e).isSome = true → pJ js (flE l) = some e) : Made ns js (ss ++ [rowS (pJ js) e r]) ∧ (beadsOf (ss ++ [rowS (pJ js) e r])).map Prod.snd = (beadsOf ss).map Prod.snd ++ r.map Prod.fst := by
  have hnew := M.row_new J hn h.ch fun x hx => by rw [h.hd] at hx; cases hx; exact he
  have e1 : (beadsOf (ss ++ [rowS (pJ js) e r])).map Prod.snd = (beadsOf ss).map Prod.snd ++ r.map Prod.fst := by
    rw [beadsOf_app, List.map_append, rowS, bo_one, List.map_map]
    rfl
  refine ⟨⟨fun s hs => ?_, ?_, fun z hz => ?_, fun j hj => ?_⟩, e1⟩
  · rcases List.mem_append.mp hs with hs | hs
    · exact M.ne s hs
    · rw [List.mem_singleton.mp hs]
      intro q
      have q : r.map bdE = [] := q
      have hh := h.hd
      rw [List.map_eq_nil_iff.mp q] at hh
      cases hh
  · rw [e1]
    refine List.nodup_append.mpr ⟨M.nd, h.nd, fun a ha b hb e => ?_⟩
    obtain ⟨x, hx, rfl⟩ := List.mem_map.mp hb
    exact hnew x hx (e ▸ ha)
  · rw [e1] at hz
    rcases List.mem_append.mp hz with hz | hz
    · exact M.inn z hz
    · obtain ⟨x, hx, rfl⟩ := List.mem_map.mp hz
      exact h.inn x hx
  · rw [jts_snoc] at hj
    rcases List.mem_append.mp hj with hj | hj
    · exact M.jts j hj
    · exact row_js J hn h hf j hj
/-- all names met: the joints are just those told -/
theorem Made.done {ns : List Str} {js : List D} {ss : List Strand} (J : JsOk ns js) (hn : ns.Nodup) (M : Made ns js ss) (ha : ∀ z ∈ ns, z ∈ (beadsOf ss).map Prod.snd) : ((beadsOf ss).map Prod.snd).Perm ns ∧ (Sw.jts ss).Perm js := by
  have hp : ((beadsOf ss).map Prod.snd).Perm ns := (List.perm_ext_iff_of_nodup M.nd hn).mpr fun z => ⟨M.inn z, ha z⟩
  have K := jsOk_jts (ns := ns) M.ne hp
  have nod : ∀ {ks : List D}, JsOk ns ks → ks.Nodup := fun {ks} h => by
    have hn' := h.nod hn
    have hf := h.form
    clear h
    induction ks with
    | nil => exact List.nodup_nil
    | cons k r ih =>
      have hn' : (tupE k ++ r.flatMap tupE).Nodup := hn'
      obtain ⟨h1, h2, h3⟩ := List.nodup_append.mp hn'
      refine List.nodup_cons.mpr ⟨fun hm => ?_, ih h2 fun j hj => hf j (List.mem_cons_of_mem _ hj)⟩
      obtain ⟨x, hx⟩ : ∃ x, x ∈ tupE k := by
        cases hf k List.mem_cons_self with
        | one => exact ⟨_, List.mem_cons_self⟩
        | two => exact ⟨_, List.mem_cons_self⟩
      exact h3 x hx x (List.mem_flatMap.mpr ⟨k, hm, hx⟩) rfl
  refine ⟨hp, (List.perm_ext_iff_of_nodup (nod K) (nod J)).mpr fun j => ⟨M.jts j, fun hj => ?_⟩⟩
  obtain ⟨x, hx⟩ : ∃ x, x ∈ tupE j := by
    cases J.form j hj with
    | one => exact ⟨_, List.mem_cons_self⟩
    | two => exact ⟨_, List.mem_cons_self⟩
  obtain ⟨e, he, rfl⟩ := J.mem.mp (List.mem_flatMap.mpr ⟨j, hj, hx⟩)
  obtain ⟨i, hi, hx'⟩ := List.mem_flatMap.mp (K.mem.mpr ⟨e, he, rfl⟩)
  rw [(J.uniq hn).uniq hj (M.jts i hi) hx hx']
  exact hi
def StrK (kds : List (D × D)) : Prop := ∀ p ∈ kds, ∃ z : Str, p.1 = .str z
theorem eqv_S (a b : Str) : PyData.eqv (.str a) (.str b) = decide (a = b) := by
  simp only [PyData.eqv]
  by_cases h : a = b <;> simp [h]
theorem lookD_mapS {z : Str} {v : D} (w : Str) : ∀ {kds : List (D × D)}, StrK kds → lookD (kds.map fun p => if PyData.eqv p.1 (.str z) = true then (p.1, v) else p) (.str w) = if w = z then (lookD kds (.str w)).map fun _ => v else lookD kds (.str w)
  | [], _ => by simp [lookD_nil]
  | p :: r, h => by
    obtain ⟨a, ha⟩ := h p List.mem_cons_self
    have ih := lookD_mapS (z := z) (v := v) w (kds := r) fun q hq => h q (List.mem_cons_of_mem _ hq)
    obtain ⟨k, d⟩ := p
    have ha : k = .str a := ha
    subst ha
    rw [List.map_cons]
    show lookD ((if PyData.eqv (.str a) (.str z) = true then (PyData.str a, v) else (.str a, d)) :: _) _ = _
    rw [lookD_cons (PyData.str a, d)]
    simp only [eqv_S, decide_eq_true_eq] at ih ⊢
    by_cases h1 : a = z
    · rw [if_pos h1, lookD_cons]
      simp only [eqv_S, decide_eq_true_eq]
      by_cases h2 : a = w
      · rw [if_pos h2, if_pos h2, if_pos (by rw [← h2]; exact h1)]
        rfl
      · rw [if_neg h2, if_neg h2]
        exact ih
    · rw [if_neg h1, lookD_cons]
      simp only [eqv_S, decide_eq_true_eq]
      by_cases h2 : a = w
      · rw [if_pos h2, if_pos h2, if_neg (by rw [← h2]; exact h1)]
      · rw [if_neg h2, if_neg h2]
        exact ih
theorem lookD_putS {kds : List (D × D)} {z : Str} {v : D} (h : StrK kds) (w : Str) : lookD (putD kds (.str z) v) (.str w) = if w = z then some v else lookD kds (.str w) := by
  unfold putD
  split
  · rename_i hs
    rw [lookD_mapS w h]
    by_cases e : w = z
    · rw [if_pos e, if_pos e, e]
      cases q : lookD kds (.str z) with
      | none => rw [q] at hs; cases hs
      | some x => rfl
    · rw [if_neg e, if_neg e]
  · rename_i hs
    rw [lookD_app, lookD_cons, eqv_S]
    by_cases e : w = z
    · have : lookD kds (.str w) = none := by
        rw [e]
        cases q : lookD kds (.str z) with
        | none => rfl
        | some x => rw [q] at hs; exact absurd rfl hs
      rw [this, if_pos (by simpa using e.symm), if_pos e]
      rfl
    · rw [if_neg (by simpa using fun h => e h.symm), if_neg e, lookD_nil]
      cases lookD kds (.str w) <;> rfl
theorem strK_put {kds : List (D × D)} {z : Str} {v : D} (h : StrK kds) : StrK (putD kds (.str z) v) := by
  unfold putD
  split
  · intro p hp
    obtain ⟨q, hq, rfl⟩ := List.mem_map.mp hp
    split
    · exact h q hq
    · exact h q hq
  · intro p hp
    rcases List.mem_append.mp hp with hp | hp
    · exact h p hp
    · rw [List.mem_singleton.mp hp]; exact ⟨z, rfl⟩

end Sw

open PySem PySem.Spec L2 Sw
namespace Sw
/-- a comprehension with a test -/
theorem filt_comp {G : TG'} {TT : PT'} {TE : PE'} {vs : List Nat} {Q : List D → List SV → Prop} {α : Type} {xs : List α} {e : α → D} {b : α → Bool} {f : α → D} {env : List SV}
    (hs : ∀ x ∈ xs, ∀ (K1 : D → List SV → Prop) (K0 : List SV → Prop), (b x = true → K1 (f x) env) → (b x = false → K0 env) → G (e x) env fun env1 => TT env1 fun c env2 => if c = true then TE env2 fun o env3 => ∃ y env4, o.fz env3 = some (y, env4) ∧ K1 y (wipeE env4 vs) else K0 (wipeE env2 vs))
    (hd : Q ((xs.filter b).map f) env) : pLc G TT TE vs Q (xs.map e) [] env := by
  refine pLc_inv (fun i acc env' => acc = ((xs.take i).filter b).map f ∧ env' = env) ⟨rfl, rfl⟩ ?_ ?_
  · rintro i d hdd acc env' ⟨rfl, rfl⟩ K hK
    rw [List.getElem?_map] at hdd
    cases q : xs[i]? with
    | none => rw [q] at hdd; cases hdd
    | some x =>
      rw [q] at hdd
      cases hdd
      have et : xs.take (i + 1) = xs.take i ++ [x] := by rw [List.take_add_one, q]; rfl
      refine hs x (List.mem_of_getElem? q) (fun y env4 => K (((xs.take i).filter b).map f ++ [y]) env4) (fun env2 => K (((xs.take i).filter b).map f) env2) (fun hb => hK _ _ ⟨?_, rfl⟩) (fun hb => hK _ _ ⟨?_, rfl⟩)
      · rw [et, List.filter_append, List.map_append, List.filter_cons_of_pos hb]
        rfl
      · rw [et, List.filter_append, List.filter_cons_of_neg (by rw [hb]; decide), List.filter_nil, List.append_nil]
  · rintro acc env' ⟨rfl, rfl⟩
    rw [List.length_map, List.take_length]
    exact hd
theorem row_of {α β : Type} {f : α → β} {P : α → Prop} : ∀ {L : List β}, (∀ x ∈ L, ∃ e, P e ∧ x = f e) → ∃ es : List α, L = es.map f ∧ ∀ e ∈ es, P e
  | [], _ => ⟨[], rfl, fun _ h => nomatch h⟩
  | x :: r, h => by
    obtain ⟨e, he, rfl⟩ := h x List.mem_cons_self
    obtain ⟨es, rfl, h2⟩ := row_of (L := r) fun y hy => h y (List.mem_cons_of_mem _ hy)
    exact ⟨e :: es, rfl, fun y hy => by
      rcases List.mem_cons.mp hy with rfl | hy
      · exact he
      · exact h2 y hy⟩
def sp_set_of : PSp := fun fl ds Q => fl = none ∧ ∃ ns js, ds = [.tuple js] ∧ JsOk ns js ∧ ns.Nodup ∧ (∀ z ∈ ns, Nm z) ∧ ns.length ≤ 1000 ∧ ∀ cs, InForm cs → GoodS cs → ((beadsOf cs).map Prod.snd).Perm ns → (jts cs).Perm js → Q (.dt (.tuple (cs.map stD))) none
abbrev N_set_of : List Str := ["joints", "joined", "strands", "seen", "free", "end", "beads", "bead", "kind"]
def T_set_of : PS' := (sSeq (sAsg 1 (qCall sp_partners (qAddD (qCons (qVar 0) qNil) [])))
  (sSeq (sAsgF 2 (fLst (qNil)))
  (sSeq (sAsgD 3 false)
  (sSeq (sAsg 4 (qF (fLcR (iAny (qF (fCB gSortDic (qCons (qVar 1) qNil)))) (gN 5) (qTest (qOp (gIsN false) (qDGet (qVar 1) (qVar 5)) (qC .none))) (qVar 5) [5])))
  (sSeq (sFor (iAny (qOp gAdd (qVar 4) (qF (fLcR (iAny (qF (fCB gSortDic (qCons (qVar 1) qNil)))) (gN 5) (qTest (qOp (gIsN true) (qDGet (qVar 1) (qVar 5)) (qC .none))) (qVar 5) [5])))) (gN 5) (sIf (tAnd' (qTest (qDIn true (qOp gIx (qVar 5) (qC (.int 0))) (qVar 3))) (tOr' (qTest (qOp (gIsN false) (qDGet (qVar 1) (qVar 5)) (qC .none))) (qTest (qOp (gEq false) (qOp gIx (qVar 5) (qC (.int 1))) (qC (.int 0)))))) (sSeq (sAsg 6 (qCall sp_beads_from (qAddD (qCons (qVar 5) (qCons (qVar 1) qNil)) [])))
  (sSeq (sFor (iAny (qVar 6)) (gN 7) (sPutD 3 (qC (.bool true)) (qCall sp_name_of (qAddD (qCons (qVar 7) qNil) []))))
  (sSeq (sAsg 8 (qC (.str "ring")))
  (sSeq (sIf (qTest (qOp (gIsN false) (qDGet (qVar 1) (qVar 5)) (qC .none))) (sAsg 8 (qC (.str "open"))) sNil)
  (sDrop (qMO 2 gAppend (qCons (qTup (qCons (qVar 8) (qCons (qVar 6) qNil))) qNil))))))) sNil))
  (sRet (qCall sp_canon (qAddD (qCons (qCB gTuple (qCons (qVar 2) qNil)) qNil) []))))))))
theorem isN_pv (neg : Bool) (a : Option En) : gIsN neg (pvD a) .none = some (.bool (if neg = true then a.isSome else a.isNone)) := by
  cases a with
  | none => cases neg <;> rfl
  | some f => cases neg <;> exact gIsN_t
theorem JsOk.few {ns : List Str} {js : List D} (J : JsOk ns js) : js.length ≤ 2 * ns.length := by
  have h1 : js.length ≤ (js.flatMap tupE).length := by
    have hf := J.form
    clear J
    induction js with
    | nil => exact Nat.zero_le _
    | cons j r ih =>
      have := ih fun x hx => hf x (List.mem_cons_of_mem _ hx)
      have h2 : 1 ≤ (tupE j).length := by cases hf j List.mem_cons_self <;> simp [tupE]
      show r.length + 1 ≤ (tupE j ++ r.flatMap tupE).length
      rw [List.length_append]
      omega
  have h2 := J.all.length_eq
  rw [List.length_append, List.length_map, List.length_map] at h2
  omega
/-- where the work stands -/
def SetI (ns : List Str) (js : List D) (L : List En) (i : Nat) (ss : List Strand) (sk : List (D × D)) : Prop :=
  Made ns js ss ∧ StrK sk ∧ (∀ z : Str, (lookD sk (.str z)).isSome = true ↔ z ∈ (beadsOf ss).map Prod.snd) ∧ sk.length ≤ (beadsOf ss).length ∧ ∀ k e, k < i → L[k]? = some e → (pJ js e = none ∨ e.2 = false) → e.1 ∈ (beadsOf ss).map Prod.snd
theorem pure_set_of (fl : Option (List D)) (ds : List D) (Q : RV → Option (List D) → Prop) (_ : false = true ↔ fl ≠ none) (h : sp_set_of fl ds Q) : T_set_of (endsOf false Q) (startE false N_set_of fl ds) := by
  obtain ⟨rfl, ns, js, rfl, J, hn, hnm, hlen, k⟩ := h
  show T_set_of _ [SV.dat (.tuple js), SV.un, SV.un, SV.un, SV.un, SV.un, SV.un, SV.un, SV.un]
  unfold T_set_of
  have P := J.pg hn
  have hjl := J.few
  have hkl : (js.flatMap jP).length ≤ 2 * js.length := jPs_len J.form
  have hks : okSort ((js.flatMap jP).map Prod.fst) = true := okSort_E fun x hx => by
    obtain ⟨p, hp, rfl⟩ := List.mem_map.mp hx
    exact jPs_isE J.form p hp
  have hkm : ∀ x ∈ srtD ((js.flatMap jP).map Prod.fst), ∃ e : En, e.1 ∈ ns ∧ x = eD e := fun x hx => by
    have := srtD_mem.mp hx
    rw [jPs_keys J.form] at this
    exact J.mem.mp this
  obtain ⟨es, hes, hesn⟩ := row_of hkm
  have hall : ∀ e : En, e.1 ∈ ns → e ∈ es := fun e he => by
    have : eD e ∈ srtD ((js.flatMap jP).map Prod.fst) := srtD_mem.mpr (by rw [jPs_keys J.form]; exact J.mem.mpr ⟨e, he, rfl⟩)
    rw [hes] at this
    obtain ⟨f, hf, e1⟩ := List.mem_map.mp this
    rw [← eD_inj e1]
    exact hf
  have hesl : es.length ≤ 4000 := by
    have := congrArg List.length hes
    rw [srtD_len, List.length_map, List.length_map] at this
    omega
  have hlook : ∀ e : En, e.1 ∈ ns → lookD (js.flatMap jP) (eD e) = some (pvD (pJ js e)) := fun e he => J.tot hn he
  have hko : ∀ e : En, e.1 ∈ ns → KeyO none (js.flatMap jP) (eD e) := fun e he => by
    obtain ⟨q, hq, _⟩ := lookD_mem (hlook e he)
    exact keyO_of ⟨q, hq, keyT_E (jPs_isE J.form q hq)⟩ (keyT_E (isE_en e))
  refine sSeq_abs fun R hR => ?_
  walk_at "wp"
  refine ⟨rfl, js, rfl, J.form, J.nod hn, by omega, ?_⟩
  walk_at "wp"
  subst hR
  have hke := jPs_isE J.form
  generalize js.flatMap jP = kd at hkl hks hkm hes hlook hko hke
  refine sSeq_abs fun R hR => ?_
  walk_at "wp"
  refine ⟨Nat.zero_le _, ?_⟩
  subst hR
  refine sSeq_abs fun R hR => ?_
  walk_at "wp"
  subst hR
  refine sSeq_abs fun R hR => ?_
  walk_at "wp"
  refine ⟨_, gSortDic_1 hks, ?_⟩
  rw [hes]
  refine ⟨by rw [List.length_map]; omega, ?_⟩
  refine filt_comp (b := fun e => (pJ js e).isNone) (f := eD) (fun e he K1 K0 h1 h0 => ?_) ?_
  · walk_at "wp"
    refine ⟨hko e (hesn e he), _, hlook e (hesn e he), ?_⟩
    rw [isN_pv]
    walk_at "wp"
    split
    · exact h1 ‹_›
    · rename_i h
      exact h0 (Bool.eq_false_iff.mpr h)
  walk_at "wp"
  subst hR
  have f1l : (es.filter fun e => (pJ js e).isNone).length ≤ es.length := List.length_filter_le _ _
  have f2l : (es.filter fun e => (pJ js e).isSome).length ≤ es.length := List.length_filter_le _ _
  generalize hF1 : (es.filter fun e => (pJ js e).isNone) = F1 at f1l
  have hF1m : ∀ e : En, e ∈ F1 ↔ e.1 ∈ ns ∧ pJ js e = none := fun e => by
    rw [← hF1, List.mem_filter, Option.isNone_iff_eq_none]
    exact ⟨fun h => ⟨hesn e h.1, h.2⟩, fun h => ⟨hall e h.1, h.2⟩⟩
  refine cut_seq (fun env => ∃ ss sk y5 y6 y7 y8, (Made ns js ss ∧ ∀ z ∈ ns, z ∈ (beadsOf ss).map Prod.snd) ∧ env = [SV.dat (.tuple js), SV.dat (.dict kd), SV.own false (ss.map stD), SV.dic false sk, SV.dat (.list (F1.map eD)), y5, y6, y7, y8]) ?_ fun nx hnx => ?_
  · rintro env ⟨ss, sk, y5, y6, y7, y8, ⟨M, ha⟩, rfl⟩
    obtain ⟨hp, hpj⟩ := M.done J hn ha
    have hl := hp.length_eq
    rw [List.length_map] at hl
    have g : GoodS ss := ⟨M.ne, by omega, bead_nm hp hnm⟩
    walk_at "wp"
    refine ⟨rfl, ss, rfl, g, fun cs h1 h2 => ?_⟩
    obtain ⟨j1, j2, j3⟩ := equ_facts h1 M.ne
    walk_at "wp"
    exact k cs h2 (equ_good h1 g) (j2.trans hp) (j1.trans hpj)
  refine sFor_abs fun B hB => ?_
  walk_at "wp"
  refine ⟨_, gSortDic_1 hks, ?_⟩
  rw [hes]
  refine ⟨by rw [List.length_map]; omega, ?_⟩
  refine filt_comp (b := fun e => (pJ js e).isSome) (f := eD) (fun e he K1 K0 h1 h0 => ?_) ?_
  · walk_at "wp"
    refine ⟨hko e (hesn e he), _, hlook e (hesn e he), ?_⟩
    rw [isN_pv]
    walk_at "wp"
    split
    · exact h1 ‹_›
    · rename_i h
      exact h0 (Bool.eq_false_iff.mpr h)
  generalize hF2 : (es.filter fun e => (pJ js e).isSome) = F2 at f2l
  have hF2m : ∀ e : En, e ∈ F2 ↔ e.1 ∈ ns ∧ (pJ js e).isSome = true := fun e => by
    rw [← hF2, List.mem_filter]
    exact ⟨fun h => ⟨hesn e h.1, h.2⟩, fun h => ⟨hall e h.1, h.2⟩⟩
  walk_at "wp"
  rw [← List.map_append]
  refine ⟨by rw [List.length_map, List.length_map, sizeLine_eq]; omega, ?_⟩
  refine pFor_inv (fun i env => ∃ ss sk y5 y6 y7 y8, SetI ns js (F1 ++ F2) i ss sk ∧ env = [SV.dat (.tuple js), SV.dat (.dict kd), SV.own false (ss.map stD), SV.dic false sk, SV.dat (.list (F1.map eD)), y5, y6, y7, y8]) ⟨[], [], _, _, _, _, ⟨⟨fun s h => absurd h (by simp), List.nodup_nil, fun z h => absurd h (by simp [beadsOf]), fun j h => absurd h (by simp [jts])⟩, fun p h => absurd h (by simp), fun z => by simp [lookD_nil, beadsOf], Nat.zero_le _, fun k e h => absurd h (by omega)⟩, rfl⟩ ?_ ?_
  rotate_left
  · rintro env ⟨ss, sk, y5, y6, y7, y8, ⟨M, _, _, _, hd⟩, rfl⟩
    refine hnx _ ⟨ss, sk, _, _, _, _, ⟨M, fun z hz => ?_⟩, rfl⟩
    have hm : (z, false) ∈ F1 ++ F2 := by
      rw [List.mem_append, hF1m, hF2m]
      cases q : pJ js (z, false) with
      | none => exact .inl ⟨hz, rfl⟩
      | some f => exact .inr ⟨hz, rfl⟩
    obtain ⟨i, hi⟩ := List.getElem?_of_mem hm
    refine hd i _ ?_ hi (.inr rfl)
    rw [List.length_map]
    exact (List.getElem?_eq_some_iff.mp hi).1
  rintro i d hd env ⟨ss, sk, y5, y6, y7, y8, ⟨M, hsk, hse, hsl, hdn⟩, rfl⟩ K hK
  rw [List.getElem?_map] at hd
  cases q : (F1 ++ F2)[i]? with
  | none => rw [q] at hd; cases hd
  | some e =>
  rw [q] at hd
  cases hd
  have hem := List.mem_of_getElem? q
  have hen : e.1 ∈ ns := by
    rcases List.mem_append.mp hem with h | h
    · exact ((hF1m e).mp h).1
    · exact ((hF2m e).mp h).1
  have hle := hlook e hen
  have hke2 := hko e hen
  have next : ∀ (ss : List Strand) (sk : List (D × D)) (y5 y6 y7 y8 : SV), Made ns js ss → StrK sk → (∀ z : Str, (lookD sk (.str z)).isSome = true ↔ z ∈ (beadsOf ss).map Prod.snd) → sk.length ≤ (beadsOf ss).length → (∀ k e, k < i → (F1 ++ F2)[k]? = some e → (pJ js e = none ∨ e.2 = false) → e.1 ∈ (beadsOf ss).map Prod.snd) → ((pJ js e = none ∨ e.2 = false) → e.1 ∈ (beadsOf ss).map Prod.snd) → K [SV.dat (.tuple js), SV.dat (.dict kd), SV.own false (ss.map stD), SV.dic false sk, SV.dat (.list (F1.map eD)), y5, y6, y7, y8] := fun ss sk y5 y6 y7 y8 a1 a2 a3 a4 a5 a6 => hK _ ⟨ss, sk, y5, y6, y7, y8, ⟨a1, a2, a3, a4, fun k e' hk hq => by
    by_cases h : k = i
    · subst h
      rw [q] at hq
      cases hq
      exact a6
    · exact a5 k e' (by omega) hq⟩, rfl⟩
  obtain ⟨z, b⟩ := e
  show gN 5 (.tuple [.str z, .int (if b = true then 1 else 0)]) _ _
  refine ⟨by simp, ?_⟩
  subst hB
  refine sIf_abs fun A B hA hB => ?_
  show sIf _ _ _ _ [_, _, _, _, _, _, _, _, _]
  have hbl : (beadsOf ss).length ≤ 1000 := by
    have := nodup_few M.nd M.inn
    rw [List.length_map] at this
    omega
  have work : (pJ js (z, b) = none ∨ b = false) → z ∉ (beadsOf ss).map Prod.snd → ∀ (rt : RV → List SV → Prop) (bk : List SV → Prop), A ⟨K, rt, bk, K⟩ [SV.dat (.tuple js), SV.dat (.dict kd), SV.own false (ss.map stD), SV.dic false sk, SV.dat (.list (F1.map eD)), SV.dat (.tuple [.str z, .int (if b = true then 1 else 0)]), y6, y7, y8] := fun hc hz rt bk => by
    subst hA
    refine sSeq_abs fun R hR => ?_
    walk_at "wp"
    refine ⟨rfl, ns, pJ js, kd, (z, b), rfl, P, hlook, hke, hen, hnm, hlen, fun r hr => ?_⟩
    walk_at "wp"
    subst hR
    have hrl : r.length ≤ 1000 := by
      have := nodup_few hr.nd (ys := ns) fun x hx => by
        obtain ⟨y, hy, rfl⟩ := List.mem_map.mp hx
        exact hr.inn y hy
      rw [List.length_map] at this
      omega
    have hnew := M.row_new J hn hr.ch fun x hx => by rw [hr.hd] at hx; cases hx; exact hz
    have hfin : ∀ A l, r = A ++ [l] → (pJ js (z, b)).isSome = true → pJ js (flE l) = some (z, b) := fun A l hA hs => by
      have hl : l ∈ r := by rw [hA]; simp
      obtain ⟨A', l', hA', hq⟩ := hr.fin
      have el : l' = l := by
        rw [hA] at hA'
        have := congrArg List.getLast? hA'
        simpa using this.symm
      subst el
      rcases hq with hq | hq
      · exfalso
        have hm : flE l' ∈ F1 := (hF1m _).mpr ⟨hr.inn l' hl, hq⟩
        obtain ⟨m, hm⟩ := List.getElem?_of_mem hm
        have hml := (List.getElem?_eq_some_iff.mp hm).1
        have hi : F1.length ≤ i := by
          rcases Nat.lt_or_ge i F1.length with h | h
          · exfalso
            rw [List.getElem?_append_left h] at q
            have := ((hF1m _).mp (List.mem_of_getElem? q)).2
            rw [this] at hs
            cases hs
          · exact h
        have := hdn m (flE l') (by omega) (by rw [List.getElem?_append_left hml]; exact hm) (.inl hq)
        exact hnew l' hl this
      · exact hq
    obtain ⟨M2, hnames⟩ := M.snoc J hn hr hz hfin
    have hbl2 : (beadsOf (ss ++ [rowS (pJ js) (z, b) r])).length = (beadsOf ss).length + r.length := by
      have := congrArg List.length hnames
      simpa using this
    refine cut_seq (fun env => ∃ sk y7, StrK sk ∧ (∀ w : Str, (lookD sk (.str w)).isSome = true ↔ w ∈ (beadsOf ss).map Prod.snd ∨ w ∈ r.map Prod.fst) ∧ sk.length ≤ (beadsOf ss).length + r.length ∧ env = [SV.dat (.tuple js), SV.dat (.dict kd), SV.own false (ss.map stD), SV.dic false sk, SV.dat (.list (F1.map eD)), SV.dat (.tuple [.str z, .int (if b = true then 1 else 0)]), SV.dat (.tuple ((r.map bdE).map bdD)), y7, y8]) ?_ fun nx hnx => ?_
    rotate_left
    · walk_at "wp"
      rw [List.map_map]
      refine pFor_inv (fun m env => ∃ sk y7, StrK sk ∧ (∀ w : Str, (lookD sk (.str w)).isSome = true ↔ w ∈ (beadsOf ss).map Prod.snd ∨ w ∈ (r.take m).map Prod.fst) ∧ sk.length ≤ (beadsOf ss).length + m ∧ env = [SV.dat (.tuple js), SV.dat (.dict kd), SV.own false (ss.map stD), SV.dic false sk, SV.dat (.list (F1.map eD)), SV.dat (.tuple [.str z, .int (if b = true then 1 else 0)]), SV.dat (.tuple ((r.map bdE).map bdD)), y7, y8]) ⟨sk, _, hsk, fun w => by rw [hse]; simp, hsl, by rw [List.map_map]⟩ ?_ ?_
      rotate_left
      · rintro env ⟨sk, y7, h1, h2, h3, rfl⟩
        rw [List.length_map] at h2 h3
        rw [List.take_length] at h2
        exact hnx _ ⟨sk, y7, h1, h2, h3, rfl⟩
      rintro m d hd env ⟨sk, y7, h1, h2, h3, rfl⟩ K2 hK2
      rw [List.getElem?_map] at hd
      cases qm : r[m]? with
      | none => rw [qm] at hd; cases hd
      | some x =>
      rw [qm] at hd
      cases hd
      have hx := List.mem_of_getElem? qm
      have hml := (List.getElem?_eq_some_iff.mp qm).1
      show gN 7 (bdD (bdE x)) _ _
      walk_at "wp"
      refine ⟨rfl, bdE x, rfl, hnm _ (hr.inn x hx), ?_⟩
      walk_at "wp"
      refine ⟨keyT_str _, by rw [sizeLine_eq]; omega, hK2 _ ⟨_, _, strK_put h1, fun w => ?_, ?_, rfl⟩⟩
      · rw [lookD_putS h1, List.take_add_one, qm, List.map_append, List.mem_append]
        show (if w = x.1 then some (PyData.bool true) else lookD sk (.str w)).isSome = true ↔ _ ∨ _ ∨ w ∈ [x.1]
        by_cases e : w = x.1
        · rw [if_pos e, e]; simp
        · rw [if_neg e, h2]; simp [e]
      · have := putD_len sk (.str (bdE x).2) (.bool true)
        omega
    rintro env ⟨sk, y7, h1, h2, h3, rfl⟩
    have fin : ∀ (k8 : SV) (kk : Bool), kk = (pJ js (z, b)).isSome → K [SV.dat (.tuple js), SV.dat (.dict kd), SV.own false (ss.map stD ++ [.tuple [.str (if kk = true then Str.ofString "ring" else Str.ofString "open"), .tuple ((r.map bdE).map bdD)]]), SV.dic false sk, SV.dat (.list (F1.map eD)), SV.dat (.tuple [.str z, .int (if b = true then 1 else 0)]), SV.dat (.tuple ((r.map bdE).map bdD)), y7, k8] := fun k8 kk hkk => by
      have e1 : ss.map stD ++ [.tuple [.str (if kk = true then Str.ofString "ring" else Str.ofString "open"), .tuple ((r.map bdE).map bdD)]] = (ss ++ [rowS (pJ js) (z, b) r]).map stD := by
        rw [List.map_append, hkk]
        rfl
      rw [e1]
      refine next _ sk _ _ _ _ M2 h1 (fun w => ?_) (by rw [hbl2]; exact h3) (fun k e hk hq hc => ?_) fun _ => ?_
      · rw [h2, hnames, List.mem_append]
      · rw [hnames]
        exact List.mem_append_left _ (hdn k e hk hq hc)
      · rw [hnames]
        have := hr.hd
        cases r with
        | nil => cases this
        | cons a r => cases this; simp
    have hsl3 : (ss.map stD).length < sizeLine := by
      rw [List.length_map, sizeLine_eq]
      have := beads_few ss M.ne
      omega
    refine sSeq_abs fun R hR => ?_
    walk_at "wp"
    subst hR
    walk_at "wp"
    refine ⟨hke2, _, hle, ?_⟩
    rw [isN_pv]
    walk_at "wp"
    split
    · rename_i hno
      exact ⟨sizeL (by decide), hsl3, fin _ false (by cases q : pJ js (z, b) with | none => rfl | some f => rw [q] at hno; cases hno)⟩
    · rename_i hno
      exact ⟨sizeL (by decide), hsl3, fin _ true (by cases q : pJ js (z, b) with | none => rw [q] at hno; exact absurd rfl hno | some f => rfl)⟩
  have skip : (¬ z ∉ (beadsOf ss).map Prod.snd ∨ ¬ (pJ js (z, b) = none ∨ b = false)) → ∀ (rt : RV → List SV → Prop) (bk : List SV → Prop), B ⟨K, rt, bk, K⟩ [SV.dat (.tuple js), SV.dat (.dict kd), SV.own false (ss.map stD), SV.dic false sk, SV.dat (.list (F1.map eD)), SV.dat (.tuple [.str z, .int (if b = true then 1 else 0)]), y6, y7, y8] := fun hc rt bk => by
    subst hB
    refine next ss sk _ _ _ _ M hsk hse hsl hdn fun h => ?_
    rcases hc with hc | hc
    · exact Decidable.not_not.mp hc
    · exact absurd h hc
  walk_at "wp"
  refine ⟨keyT_str z, ?_⟩
  split
  · rename_i hno
    have hz : z ∉ (beadsOf ss).map Prod.snd := fun h => by
      rw [(hse z).mpr h] at hno
      cases hno
    refine ⟨hke2, _, hle, ?_⟩
    rw [isN_pv]
    walk_at "wp"
    split
    · rename_i h
      exact work (.inl (Option.isNone_iff_eq_none.mp h)) hz _ _
    · rename_i h
      cases b with
      | false =>
        show if (0 : Int) = 0 then _ else _
        rw [if_pos rfl]
        exact work (.inr rfl) hz _ _
      | true =>
        show if (1 : Int) = 0 then _ else _
        rw [if_neg (by decide)]
        refine skip (.inr fun h3 => ?_) _ _
        rcases h3 with h3 | h3
        · exact h (Option.isNone_iff_eq_none.mpr h3)
        · cases h3
  · rename_i hno
    refine skip (.inl fun h => h ((hse z).mp (by cases q : (lookD sk (.str z)).isSome with | true => rfl | false => exact absurd q hno))) _ _

end Sw

open PySem PySem.Spec L2 Sw
namespace Sw

end Sw

open PySem PySem.Spec L2 Sw
namespace Sw
def bE (j : D) : List (D × D) := (tupE j).map fun e => (e, j)
theorem bEs_keys (js : List D) : (js.flatMap bE).map Prod.fst = js.flatMap tupE := by
  induction js with
  | nil => rfl
  | cons j r ih =>
    show ((bE j ++ r.flatMap bE).map Prod.fst) = tupE j ++ r.flatMap tupE
    rw [List.map_append, ih, bE, List.map_map]
    congr 1
    exact List.map_id _
theorem Jt.isE {j : D} (h : Jt j) : ∀ e ∈ tupE j, IsE e := fun e he => by
  cases h with
  | one h => rw [List.mem_singleton.mp he]; exact h
  | two h g =>
    rcases List.mem_cons.mp he with rfl | he
    · exact h
    · rw [List.mem_singleton.mp he]; exact g
theorem Jt.tup {j : D} (h : Jt j) : j = .tuple (tupE j) := by cases h <;> rfl
theorem Jt.len {j : D} (h : Jt j) : 1 ≤ (tupE j).length ∧ (tupE j).length ≤ 2 := by cases h <;> simp [tupE]
theorem Jt.isJ {j : D} (h : Jt j) : IsJ j := by
  cases h with
  | one h => exact isJ_one h
  | two h g => exact ⟨_, rfl, fun e he => by
      rcases List.mem_cons.mp he with rfl | he
      · exact h
      · rw [List.mem_singleton.mp he]; exact g, by simp, by simp⟩
theorem bEs_isE {js : List D} (h : ∀ j ∈ js, Jt j) : ∀ p ∈ js.flatMap bE, IsE p.1 := fun p hp => by
  obtain ⟨j, hj, hp⟩ := List.mem_flatMap.mp hp
  obtain ⟨e, he, rfl⟩ := List.mem_map.mp hp
  exact (h j hj).isE e he
theorem lookE_some {kds : List (D × D)} {x : D} (hk : ∀ p ∈ kds, IsE p.1) (hn : (kds.map Prod.fst).Nodup) (hx : x ∈ kds.map Prod.fst) : ∃ v, lookD kds x = some v ∧ (x, v) ∈ kds := by
  obtain ⟨⟨y, v⟩, hm, e⟩ := List.mem_map.mp hx
  have e : y = x := e
  subst e
  exact ⟨v, (lookE_iff (hk _ hm) hk hn).mpr hm, hm⟩
end Sw

open PySem PySem.Spec L2 Sw
namespace Sw
def notB (B : List D) (j : D) : Bool := !(B.any fun z => PyData.eqv z j)
def onlyIn (A B : List D) : List D := A.filter fun j => decide ((tupE j).length = 2) && notB B j
theorem notB_iff {B : List D} {j : D} (hB : ∀ x ∈ B, IsJ x) (hj : IsJ j) : notB B j = true ↔ j ∉ B := by
  unfold notB
  rw [Bool.not_eq_true', ← Bool.not_eq_true, List.any_eq_true]
  constructor
  · exact fun h m => h ⟨j, m, (eqv_hn 2 j j (hn_J hj 0) (hn_J hj 0)).mpr rfl⟩
  · rintro h ⟨x, hx, e⟩
    exact h ((eqv_hn 2 x j (hn_J (hB x hx) 0) (hn_J hj 0)).mp e ▸ hx)
theorem only_iff {A B : List D} (hA : ∀ x ∈ A, IsJ x) (hB : ∀ x ∈ B, IsJ x) {j : D} : j ∈ onlyIn A B ↔ j ∈ A ∧ (tupE j).length = 2 ∧ j ∉ B := by
  unfold onlyIn
  rw [List.mem_filter, Bool.and_eq_true, decide_eq_true_eq]
  constructor
  · rintro ⟨a, b, c⟩
    exact ⟨a, b, (notB_iff hB (hA j a)).mp c⟩
  · rintro ⟨a, b, c⟩
    exact ⟨a, b, (notB_iff hB (hA j a)).mpr c⟩
theorem JsOk.isJ {ns : List Str} {js : List D} (h : JsOk ns js) : ∀ j ∈ js, IsJ j := fun j hj => (h.form j hj).isJ
theorem JsOk.nodJ {ns : List Str} {js : List D} (h : JsOk ns js) (hn : ns.Nodup) : js.Nodup := by
  have h1 := h.nod hn
  have h2 := h.form
  clear h
  induction js with
  | nil => exact List.nodup_nil
  | cons j r ih =>
    have e : (j :: r).flatMap tupE = tupE j ++ r.flatMap tupE := rfl
    rw [e] at h1
    obtain ⟨_, a2, a3⟩ := List.nodup_append.mp h1
    refine List.nodup_cons.mpr ⟨fun hm => ?_, ih a2 fun x hx => h2 x (List.mem_cons_of_mem _ hx)⟩
    have hl := (h2 j List.mem_cons_self).len.1
    cases q : tupE j with
    | nil => rw [q] at hl; simp at hl
    | cons x s =>
      have hx : x ∈ tupE j := by rw [q]; exact List.mem_cons_self
      exact a3 x hx x (List.mem_flatMap.mpr ⟨j, hm, hx⟩) rfl
end Sw

open PySem PySem.Spec L2 Sw
namespace Sw
def Hl : Nat → D → Prop
  | _, .str z => Low z
  | _, .int _ => True
  | n + 1, .tuple ds => ∀ d ∈ ds, Hl n d
  | n + 1, .list ds => ∀ d ∈ ds, Hl n d
  | _, _ => False
theorem Hl.hn : ∀ {n : Nat} {d : D}, Hl n d → Hn n d := fun {n} => by
  induction n with
  | zero => intro d h; cases d <;> first | exact h.elim | trivial
  | succ n ih =>
    intro d h
    cases d <;> first
      | exact h.elim
      | trivial
      | exact fun x hx => ih (h x hx)
theorem canLay_all : ∀ ys : List D, (∀ y ∈ ys, PyData.canLay0 y = true) → PyData.canLayAll0 ys = true
  | [], _ => rfl
  | y :: r, h => by
    rw [PyData.canLayAll0, h y List.mem_cons_self, canLay_all r fun z hz => h z (List.mem_cons_of_mem _ hz)]
    rfl
theorem Hl.lay : ∀ {n : Nat} {d : D}, Hl n d → PyData.canLay0 d = true := fun {n} => by
  induction n with
  | zero =>
    intro d h
    cases d <;> first
      | exact h.elim
      | rfl
      | exact SeqAt.canLay_of_shaped (shaped_str h)
  | succ n ih =>
    intro d h
    cases d <;> first
      | exact h.elim
      | rfl
      | exact SeqAt.canLay_of_shaped (shaped_str h)
      | exact canLay_all _ fun x hx => ih (h x hx)
theorem Hl.shaped {n : Nat} {d : D} (h : Hl n d) (hn : n ≤ 39) : SeqAt.shaped d = true := by
  unfold SeqAt.shaped
  rw [h.lay, Bool.true_and, decide_eq_true_eq]
  have := (Hn.plainD n d h.hn).2
  omega
def cutJ : D → D
  | .tuple [x, y] => .tuple [.tuple [.tuple [x, y]], .tuple [.tuple [x], .tuple [y]]]
  | _ => .none
def joinJ : D → D
  | .tuple [x, y] => .tuple [.tuple [.tuple [x], .tuple [y]], .tuple [.tuple [x, y]]]
  | _ => .none
def rowOne (A B : List D) : List D := (onlyIn A B).map cutJ ++ (onlyIn B A).map joinJ
theorem Jt.one_of {j : D} (h : Jt j) (hl : (tupE j).length ≠ 2) : ∃ x, j = .tuple [x] ∧ IsE x := by
  cases h with
  | one h => exact ⟨_, rfl, h⟩
  | two h g => simp [tupE] at hl
/-- a list of joints with no joint twice, that holds just what P tells -/
structure Sg (S : List D) (P : D → Prop) : Prop where
  nod : S.Nodup
  iff : ∀ j, j ∈ S ↔ P j
def afterC (A C : List D) : D → Prop := fun j => (j ∈ A ∧ j ∉ C) ∨ ∃ c ∈ C, ∃ x ∈ tupE c, j = .tuple [x]
def afterJ (P : D → Prop) (E : List D) : D → Prop := fun j => (P j ∧ ¬∃ d ∈ E, ∃ x ∈ tupE d, j = .tuple [x]) ∨ j ∈ E
section
variable {ns : List Str} {A B : List D}
theorem JsOk.one_is (hA : JsOk ns A) (hn : ns.Nodup) {i j x : D} (hi : i ∈ A) (hj : j ∈ A) (h1 : x ∈ tupE i) (h2 : x ∈ tupE j) : i = j := uniq_flat (hA.nod hn) hi hj h1 h2
theorem JsOk.also (hA : JsOk ns A) (hB : JsOk ns B) {j x : D} (hj : j ∈ A) (hx : x ∈ tupE j) : ∃ i ∈ B, x ∈ tupE i := by
  have h1 := hA.mem.mp (List.mem_flatMap.mpr ⟨j, hj, hx⟩)
  exact List.mem_flatMap.mp (hB.mem.mpr h1)
theorem all_done {S : List D} (hA : JsOk ns A) (hB : JsOk ns B) (hn : ns.Nodup) (hS : Sg S (afterJ (afterC A (onlyIn A B)) (onlyIn B A))) : ∀ j, j ∈ S ↔ j ∈ B := fun j => by
  rw [hS.iff j]
  have oA := fun {j : D} => only_iff (j := j) hA.isJ hB.isJ
  have oB := fun {j : D} => only_iff (j := j) hB.isJ hA.isJ
  have single : ∀ x i, i ∈ A → x ∈ tupE i → (¬∃ d ∈ onlyIn B A, ∃ z ∈ tupE d, PyData.tuple [x] = .tuple [z]) → i ∉ B ∨ (tupE i).length ≠ 2 → .tuple [x] ∈ B := fun x i hi hx hno hor => by
    obtain ⟨b, hb, hxb⟩ := hA.also hB hi hx
    by_cases hl : (tupE b).length = 2
    · by_cases hbA : b ∈ A
      · have := hA.one_is hn hbA hi hxb hx
        subst this
        rcases hor with h | h
        · exact absurd hb h
        · exact absurd hl h
      · exact absurd ⟨b, oB.mpr ⟨hb, hl, hbA⟩, x, hxb, rfl⟩ hno
    · obtain ⟨x', rfl, _⟩ := (hB.form b hb).one_of hl
      rw [List.mem_singleton.mp hxb]
      exact hb
  constructor
  · rintro (⟨⟨h1, h2⟩ | ⟨c, hc, z, hz, rfl⟩, h3⟩ | h)
    · by_cases hl : (tupE j).length = 2
      · by_cases hb : j ∈ B
        · exact hb
        · exact absurd (oA.mpr ⟨h1, hl, hb⟩) h2
      · obtain ⟨x, rfl, _⟩ := (hA.form j h1).one_of hl
        exact single x _ h1 (by simp [tupE]) h3 (.inr hl)
    · have hc := oA.mp hc
      exact single z c hc.1 hz h3 (.inl hc.2.2)
    · exact (oB.mp h).1
  · intro hb
    by_cases hl : (tupE j).length = 2
    · by_cases ha : j ∈ A
      · refine .inl ⟨.inl ⟨ha, fun h => (oA.mp h).2.2 hb⟩, ?_⟩
        rintro ⟨d, _, z, _, rfl⟩
        simp [tupE] at hl
      · exact .inr (oB.mpr ⟨hb, hl, ha⟩)
    · obtain ⟨x, rfl, _⟩ := (hB.form j hb).one_of hl
      refine .inl ⟨?_, ?_⟩
      · obtain ⟨a, ha, hxa⟩ := hB.also hA hb (x := x) (by simp [tupE])
        by_cases hla : (tupE a).length = 2
        · refine .inr ⟨a, oA.mpr ⟨ha, hla, fun hab => ?_⟩, x, hxa, rfl⟩
          have := hB.one_is hn hab hb hxa (by simp [tupE])
          rw [this] at hla
          exact hl hla
        · obtain ⟨x', rfl, _⟩ := (hA.form a ha).one_of hla
          rw [List.mem_singleton.mp hxa]
          exact .inl ⟨ha, fun h => hla (oA.mp h).2.1⟩
      · rintro ⟨d, hd, z, hz, e⟩
        cases e
        have hd := oB.mp hd
        have := hB.one_is hn hd.1 hb hz (by simp [tupE])
        rw [this] at hd
        exact hl hd.2.1
end

end Sw

open PySem PySem.Spec L2 Sw
namespace Sw

end Sw

open PySem PySem.Spec L2 Sw
namespace Sw
/-- a joint of low names -/
structure Lj (j : D) : Prop where
  jt : Jt j
  lo : ∀ x ∈ tupE j, ∀ n, Hl (n + 1) x
theorem Lj.hl {j : D} (h : Lj j) (n : Nat) : Hl (n + 2) j := by
  rw [h.jt.tup]
  exact fun x hx => h.lo x hx n
theorem Lj.one {j : D} (h : Lj j) {x : D} (hx : x ∈ tupE j) : Lj (.tuple [x]) := ⟨.one (h.jt.isE x hx), fun y hy n => by
  rw [List.mem_singleton.mp hy]
  exact h.lo x hx n⟩
structure RI (A B : List D) (i : Nat) (S : List D) : Prop where
  srt : S = srtD S
  sg : Sg S (afterJ (afterC A ((onlyIn A B).take i)) ((onlyIn B A).take (i - (onlyIn A B).length)))
  len : S.length ≤ A.length + 2 * i
section
variable {ns : List Str} {A B : List D}
theorem RI.zero (hA : JsOk ns A) (hn : ns.Nodup) (hs : A = srtD A) : RI A B 0 A := ⟨hs, ⟨hA.nodJ hn, fun j => by simp [afterJ, afterC]⟩, by omega⟩
theorem RI.fin (hA : JsOk ns A) (hB : JsOk ns B) (hn : ns.Nodup) (hb : B = srtD B) {S : List D} (h : RI A B (rowOne A B).length S) : S = B := by
  have hl : (rowOne A B).length = (onlyIn A B).length + (onlyIn B A).length := by unfold rowOne; rw [List.length_append, List.length_map, List.length_map]
  have hS := h.sg
  rw [hl, List.take_of_length_le (by omega), List.take_of_length_le (by omega)] at hS
  have hp : S.Perm B := (List.perm_ext_iff_of_nodup hS.nod (hB.nodJ hn)).mpr (all_done hA hB hn hS)
  rw [h.srt, hb]
  exact srtD_congr (allAlikeJ hB.isJ) hp
end

end Sw

open PySem PySem.Spec L2 Sw
namespace Sw

end Sw

open PySem PySem.Spec L2 Sw
namespace Sw
/-- a deed: what goes, what comes -/
structure Dx (d : D) (gone come : List D) : Prop where
  eq : d = .tuple [.tuple gone, .tuple come]
  g : ∀ x ∈ gone, Jt x
  c : ∀ x ∈ come, Jt x
  g1 : gone ≠ []
  c1 : come ≠ []
  lg : gone.length ≤ 2
  lc : come.length ≤ 2
end Sw

open PySem PySem.Spec L2 Sw
namespace Sw

end Sw

open PySem PySem.Spec L2 Sw
namespace Sw

end Sw

open PySem PySem.Spec L2 Sw
namespace Sw

end Sw

open PySem PySem.Spec L2 Sw
namespace Sw

end Sw

open PySem PySem.Spec L2 Sw
namespace Sw

end Sw

open PySem PySem.Spec L2 Sw
namespace Sw

end Sw

open PySem PySem.Spec L2 Sw
namespace Sw

end Sw

open PySem PySem.Spec L2 Sw
namespace Sw
def turnD (i j : Nat) : D := .tuple [.str (Str.ofString "turn"), .int i, .int j]
def changeD (i j k l : Nat) : D := .tuple [.str (Str.ofString "change"), .int i, .int j, .int k, .int l]
end Sw

open PySem PySem.Spec L2 Sw
namespace Sw

end Sw

open PySem PySem.Spec L2 Sw
namespace Sw
def turnB (bs : List Bead) (i j : Nat) : List Bead := bs.take i ++ mirR ((bs.drop i).take (j - i)) ++ bs.drop j
def changeB (bs : List Bead) (i j k l : Nat) : List Bead := bs.take i ++ (bs.drop k).take (l - k) ++ (bs.drop j).take (k - j) ++ (bs.drop i).take (j - i) ++ bs.drop l
theorem changeB_len {bs : List Bead} {i j k l : Nat} (h1 : i < j) (h2 : j ≤ k) (h3 : k < l) (h4 : l ≤ bs.length) : (changeB bs i j k l).length = bs.length := by
  unfold changeB
  simp only [List.length_append, List.length_take, List.length_drop]
  omega
theorem turnB_len {bs : List Bead} {i j : Nat} (h1 : i < j) (h4 : j ≤ bs.length) : (turnB bs i j).length = bs.length := by
  unfold turnB
  simp only [List.length_append, mirR_len, List.length_take, List.length_drop]
  omega
/-- a deed of a line of n beads, and what it does -/
inductive LDx (n : Nat) : D → (List Bead → List Bead) → Prop
  | turn (i j : Nat) (h1 : i < j) (h2 : j ≤ n) : LDx n (turnD i j) (fun bs => turnB bs i j)
  | change (i j k l : Nat) (h1 : i < j) (h2 : j ≤ k) (h3 : k < l) (h4 : l ≤ n) : LDx n (changeD i j k l) (fun bs => changeB bs i j k l)
theorem LDx.len {n : Nat} {d : D} {f : List Bead → List Bead} (h : LDx n d f) {bs : List Bead} (hl : bs.length = n) : (f bs).length = n := by
  cases h with
  | turn i j h1 h2 => show (turnB bs i j).length = n; rw [turnB_len h1 (by omega)]; exact hl
  | change i j k l h1 h2 h3 h4 => show (changeB bs i j k l).length = n; rw [changeB_len h1 h2 h3 (by omega)]; exact hl
end Sw

open PySem PySem.Spec L2 Sw
namespace Sw
def isNmB : D → Bool
  | .str z => nmB z
  | _ => false
/-- whatever is asked: a text is short -/
def ok1 (d : D) : Prop := ∀ z, d = .str z → z.length ≤ 100000
end Sw

open PySem PySem.Spec L2 Sw
namespace Sw
def isEndB : D → Bool
  | .tuple [a, .int i] => isNmB a && (i == 0 || i == 1)
  | _ => false
/-- texts within are short, tuples not too long -/
def OkN : Nat → D → Prop
  | 0, d => ok1 d
  | n + 1, d => ok1 d ∧ ∀ ds, d = .tuple ds → ds.length ≤ 100000 ∧ ∀ x ∈ ds, OkN n x
theorem OkN.ok1 {n : Nat} {d : D} (h : OkN n d) : ok1 d := by
  cases n with
  | zero => exact h
  | succ n => exact h.1
theorem OkN.mem {n : Nat} {ds : List D} (h : OkN (n + 1) (.tuple ds)) {x : D} (hx : x ∈ ds) : OkN n x := (h.2 ds rfl).2 x hx
theorem OkN.len {n : Nat} {ds : List D} (h : OkN (n + 1) (.tuple ds)) : ds.length ≤ 100000 := (h.2 ds rfl).1
end Sw

open PySem PySem.Spec L2 Sw
namespace Sw
theorem endB_is {x : D} (h : isEndB x = true) : ∃ z i, x = endD z i ∧ Nm z ∧ (i = 0 ∨ i = 1) := by
  unfold isEndB at h
  split at h
  · rename_i a i
    rw [Bool.and_eq_true, Bool.or_eq_true, beq_iff_eq, beq_iff_eq] at h
    obtain ⟨h1, h2⟩ := h
    cases a with
    | str z => exact ⟨z, i, rfl, nmB_iff.mp h1, h2⟩
    | _ => cases h1
  · cases h
theorem endB_E {x : D} (h : isEndB x = true) : IsE x := by
  obtain ⟨z, i, e, _⟩ := endB_is h
  exact ⟨z, i, e⟩
def isJointB : D → Bool
  | .tuple es => (es.length == 1 || es.length == 2) && (es.all isEndB && PyData.eqv (.list es) (.list (srtD es)))
  | _ => false
theorem jointB_J {d : D} (h : isJointB d = true) : Jt d ∧ d = .tuple (srtD (tupE d)) ∧ ∀ x ∈ tupE d, isEndB x = true := by
  unfold isJointB at h
  split at h
  · rename_i es
    rw [Bool.and_eq_true, Bool.and_eq_true, Bool.or_eq_true, beq_iff_eq, beq_iff_eq, List.all_eq_true] at h
    obtain ⟨h1, h2, h3⟩ := h
    have hE : ∀ x ∈ es, IsE x := fun x hx => endB_E (h2 x hx)
    have e : es = srtD es := by
      have := (eqv_hn 2 (.list es) (.list (srtD es)) (fun x hx => hn_E (hE x hx) 0) fun x hx => hn_E (hE x (srtD_mem.mp hx)) 0).mp h3
      injection this
    refine ⟨?_, by show _ = PyData.tuple (srtD es); rw [← e], h2⟩
    rcases h1 with h1 | h1
    · match es, h1 with
      | [a], _ => exact .one (hE a (by simp))
    · match es, h1 with
      | [a, b], _ => exact .two (hE a (by simp)) (hE b (by simp))
  · cases h
end Sw

open PySem PySem.Spec L2 Sw
namespace Sw

end Sw

open PySem PySem.Spec L2 Sw
namespace Sw
/-- what stands in a deed -/
structure DF (g c : List D) : Prop where
  gl : g.length = 1 ∨ g.length = 2
  cl : c.length = 1 ∨ c.length = 2
  gj : ∀ j ∈ g, isJointB j = true
  cj : ∀ j ∈ c, isJointB j = true
  gs : g = srtD g
  cs : c = srtD c
  ne : g ≠ c
  pe : (g.flatMap tupE).Perm (c.flatMap tupE)
  nd : (g.flatMap tupE).Nodup
theorem DF.dx {g c : List D} (h : DF g c) : Dx (.tuple [.tuple g, .tuple c]) g c where
  eq := rfl
  g := fun j hj => (jointB_J (h.gj j hj)).1
  c := fun j hj => (jointB_J (h.cj j hj)).1
  g1 := fun e => by have := h.gl; rw [e] at this; simp at this
  c1 := fun e => by have := h.cl; rw [e] at this; simp at this
  lg := by rcases h.gl with e | e <;> omega
  lc := by rcases h.cl with e | e <;> omega
theorem DF.back {g c : List D} (h : DF g c) : DF c g := ⟨h.cl, h.gl, h.cj, h.gj, h.cs, h.gs, h.ne.symm, h.pe.symm, h.pe.nodup_iff.mp h.nd⟩
end Sw

open PySem PySem.Spec L2 Sw
namespace Sw

end Sw

open PySem PySem.Spec L2 Sw
namespace Sw

end Sw

open PySem PySem.Spec L2 Sw
namespace Sw
section
variable {ns : List Str} {js : List D}
theorem JsOk.stand (J : JsOk ns js) (hn : ns.Nodup) {e : En} (he : e.1 ∈ ns) : ∃ j ∈ js, lookD (js.flatMap bE) (eD e) = some j ∧ ((j = .tuple [eD e] ∧ pJ js e = none) ∨ ∃ f, pJ js e = some f ∧ f.1 ∈ ns ∧ (j = .tuple [eD e, eD f] ∨ j = .tuple [eD f, eD e])) := by
  have hk : eD e ∈ (js.flatMap bE).map Prod.fst := by rw [bEs_keys]; exact J.mem.mpr ⟨e, he, rfl⟩
  obtain ⟨j, hl, hm⟩ := lookE_some (bEs_isE J.form) (by rw [bEs_keys]; exact J.nod hn) hk
  obtain ⟨j', hj', hm⟩ := List.mem_flatMap.mp hm
  obtain ⟨x, hx, e1⟩ := List.mem_map.mp hm
  injection e1 with e1 e2
  subst e1 e2
  refine ⟨j', hj', hl, ?_⟩
  obtain ⟨i, hi, hp⟩ := List.mem_flatMap.mp ((J.look hn (isE_en e)).mp (J.tot hn he))
  have hin : eD e ∈ tupE i := by
    have := jP_keys (J.form i hi)
    rw [← this]
    exact List.mem_map_of_mem hp
  have ei : i = j' := J.one_is hn hi hj' hin hx
  subst ei
  cases q : pJ js e with
  | none =>
    rw [q] at hp
    rcases (jP_mem (J.form i hi)).mp hp with ⟨z, _⟩ | ⟨_, z⟩ | ⟨_, z⟩
    · exact .inl ⟨z, rfl⟩
    · obtain ⟨_, _, z⟩ := z; cases z
    · obtain ⟨_, _, z⟩ := z; cases z
  | some f =>
    rw [q] at hp
    refine .inr ⟨f, rfl, (J.pj hn q).2, ?_⟩
    rcases (jP_mem (J.form i hi)).mp hp with ⟨_, z⟩ | ⟨z, _⟩ | ⟨z, _⟩
    · cases z
    · exact .inl z
    · exact .inr z
end
end Sw

open PySem PySem.Spec L2 Sw
namespace Sw
/-- where the work stands -/
structure CanI (ns : List Str) (js : List D) (F1 L : List En) (i : Nat) (ss : List Strand) (sk : List (D × D)) : Prop where
  made : Made ns js ss
  sks : StrK sk
  see : ∀ z : Str, (lookD sk (.str z)).isSome = true ↔ z ∈ (beadsOf ss).map Prod.snd
  len : sk.length ≤ (beadsOf ss).length
  past : ∀ k e, k < i → L[k]? = some e → e.1 ∈ (beadsOf ss).map Prod.snd
  form : ∀ s ∈ ss, FormS s
  row : ss.Pairwise leK
  beg : ∀ s ∈ ss, ∃ m e, m < i ∧ L[m]? = some e ∧ firstB s.2 = bdE e ∧ (s.1 = true ↔ F1.length ≤ m)
section
variable {ns : List Str} {js : List D} {F1 F2 : List En} {i : Nat} {ss : List Strand} {sk : List (D × D)}
theorem CanI.on (C : CanI ns js F1 (F1 ++ F2) i ss sk) {e : En} (h : (F1 ++ F2)[i]? = some e) (hs : e.1 ∈ (beadsOf ss).map Prod.snd) : CanI ns js F1 (F1 ++ F2) (i + 1) ss sk where
  made := C.made
  sks := C.sks
  see := C.see
  len := C.len
  past := fun k f hk hf => by
    by_cases q : k = i
    · subst q
      rw [h] at hf
      cases hf
      exact hs
    · exact C.past k f (by omega) hf
  form := C.form
  row := C.row
  beg := fun s hs => by
    obtain ⟨m, e, h1, h2⟩ := C.beg s hs
    exact ⟨m, e, by omega, h2⟩
end

end Sw

open PySem PySem.Spec L2 Sw
namespace Sw

end Sw

open PySem PySem.Spec L2 Sw
namespace Sw

end Sw

open PySem PySem.Spec L2 Sw
namespace Sw

end Sw

open PySem PySem.Spec L2 Sw
namespace Sw
def joinF : Nat → List D → List (List D)
  | 0, _ => [[]]
  | _ + 1, [] => [[]]
  | n + 1, e :: r => (joinF n r).map (fun m => PyData.tuple [e] :: m) ++ (List.range r.length).flatMap fun k => (joinF n (r.eraseIdx k)).map fun m => PyData.tuple [e, r.getD k .none] :: m
/-- how many -/
def invN : Nat → Nat
  | 0 => 1
  | 1 => 1
  | n + 2 => invN (n + 1) + (n + 1) * invN n
theorem flat_lenC {α β : Type} {f : α → List β} {c : Nat} : ∀ {l : List α}, (∀ x ∈ l, (f x).length = c) → (l.flatMap f).length = l.length * c
  | [], _ => by simp
  | x :: r, h => by
    rw [List.flatMap_cons, List.length_append, h x List.mem_cons_self, flat_lenC fun y hy => h y (List.mem_cons_of_mem _ hy), List.length_cons, Nat.succ_mul]
    omega
theorem joinF_len : ∀ {n : Nat} {l : List D}, l.length ≤ n → (joinF n l).length = invN l.length
  | 0, l, h => by
    have : l = [] := List.eq_nil_of_length_eq_zero (by omega)
    subst this
    rfl
  | n + 1, [], _ => rfl
  | n + 1, [e], h => by
    show ((joinF n []).map _ ++ _).length = _
    rw [List.length_append, List.length_map, joinF_len (by simp)]
    rfl
  | n + 1, e :: f :: r, h => by
    have hl : (f :: r).length ≤ n := by
      rw [List.length_cons] at h
      omega
    show ((joinF n (f :: r)).map _ ++ (List.range (f :: r).length).flatMap _).length = _
    rw [List.length_append, List.length_map, joinF_len hl, flat_lenC (c := invN r.length) fun k hk => ?_, List.length_range]
    · show _ = invN (r.length + 2)
      rfl
    · have hk := List.mem_range.mp hk
      rw [List.length_map, joinF_len, List.length_eraseIdx, if_pos hk]
      · simp
      · rw [List.length_eraseIdx, if_pos hk]
        rw [List.length_cons] at hl ⊢
        omega
theorem get_erase {l : List D} {k : Nat} (h : k < l.length) : (l.getD k .none :: l.eraseIdx k).Perm l := by
  have e : l.getD k .none = l[k] := by
    rw [List.getD_eq_getElem?_getD, List.getElem?_eq_getElem h]
    rfl
  rw [e]
  exact erase_perm (List.getElem?_eq_getElem h)
theorem joinF_flat : ∀ {n : Nat} {l : List D}, l.length ≤ n → ∀ m ∈ joinF n l, (m.flatMap tupE).Perm l
  | 0, l, h, m, hm => by
    have : l = [] := List.eq_nil_of_length_eq_zero (by omega)
    subst this
    have : m = [] := by simpa [joinF] using hm
    subst this
    exact List.Perm.refl _
  | n + 1, [], _, m, hm => by
    have : m = [] := by simpa [joinF] using hm
    subst this
    exact List.Perm.refl _
  | n + 1, e :: r, h, m, hm => by
    have hl : r.length ≤ n := by
      rw [List.length_cons] at h
      omega
    rcases List.mem_append.mp hm with hm | hm
    · obtain ⟨m', hm', rfl⟩ := List.mem_map.mp hm
      exact (joinF_flat hl m' hm').cons e
    · obtain ⟨k, hk, hm⟩ := List.mem_flatMap.mp hm
      have hk := List.mem_range.mp hk
      obtain ⟨m', hm', rfl⟩ := List.mem_map.mp hm
      have ih := joinF_flat (n := n) (l := r.eraseIdx k) (by rw [List.length_eraseIdx, if_pos hk]; omega) m' hm'
      show (e :: r.getD k .none :: m'.flatMap tupE).Perm _
      exact ((ih.cons _).trans (get_erase hk)).cons e
/-- the joints, each in order -/
theorem joinF_form {P : D → Prop} : ∀ {n : Nat} {l : List D}, l.length ≤ n → l.Pairwise (fun a b => leD a b = true) → (∀ x ∈ l, P x) → ∀ m ∈ joinF n l, ∀ j ∈ m, (∃ a, j = .tuple [a] ∧ P a) ∨ ∃ a b, j = .tuple [a, b] ∧ P a ∧ P b ∧ leD a b = true
  | 0, l, h, _, _, m, hm, j, hj => by
    have : m = [] := by simpa [joinF] using hm
    subst this
    cases hj
  | n + 1, [], _, _, _, m, hm, j, hj => by
    have : m = [] := by simpa [joinF] using hm
    subst this
    cases hj
  | n + 1, e :: r, h, hp, hP, m, hm, j, hj => by
    have hl : r.length ≤ n := by
      rw [List.length_cons] at h
      omega
    obtain ⟨p1, p2⟩ := List.pairwise_cons.mp hp
    have hPr : ∀ x ∈ r, P x := fun x hx => hP x (List.mem_cons_of_mem _ hx)
    rcases List.mem_append.mp hm with hm | hm
    · obtain ⟨m', hm', rfl⟩ := List.mem_map.mp hm
      rcases List.mem_cons.mp hj with rfl | hj
      · exact .inl ⟨e, rfl, hP e List.mem_cons_self⟩
      · exact joinF_form hl p2 hPr m' hm' j hj
    · obtain ⟨k, hk, hm⟩ := List.mem_flatMap.mp hm
      have hk := List.mem_range.mp hk
      obtain ⟨m', hm', rfl⟩ := List.mem_map.mp hm
      rcases List.mem_cons.mp hj with rfl | hj
      · have hr : r.getD k .none ∈ r := (get_erase hk).mem_iff.mp List.mem_cons_self
        exact .inr ⟨e, _, rfl, hP e List.mem_cons_self, hPr _ hr, p1 _ hr⟩
      · exact joinF_form (n := n) (l := r.eraseIdx k) (by rw [List.length_eraseIdx, if_pos hk]; omega) (p2.sublist (List.eraseIdx_sublist _ _)) (fun x hx => hPr x ((List.eraseIdx_sublist _ _).subset hx)) m' hm' j hj
/-- no two are the same joints -/
theorem joinF_diff : ∀ {n : Nat} {l : List D}, l.length ≤ n → l.Nodup → (joinF n l).Pairwise fun a b => ¬ a.Perm b
  | 0, l, _, _ => List.pairwise_singleton _ _
  | n + 1, [], _, _ => List.pairwise_singleton _ _
  | n + 1, e :: r, h, hn => by
    have hl : r.length ≤ n := by
      rw [List.length_cons] at h
      omega
    obtain ⟨n1, n2⟩ := List.nodup_cons.mp hn
    have hle : ∀ k, k < r.length → (r.eraseIdx k).length ≤ n := fun k hk => by
      rw [List.length_eraseIdx, if_pos hk]
      omega
    have hr : ∀ k, k < r.length → r.getD k .none ∈ r := fun k hk => (get_erase hk).mem_iff.mp List.mem_cons_self
    -- an end stands in one joint alone
    have key : ∀ (x y : D) (a b : List D), e ∈ tupE x → (∀ j ∈ b, e ∉ tupE j) → (x :: a).Perm (y :: b) → x = y ∧ a.Perm b := fun x y a b hx hb p => by
      have : x ∈ y :: b := p.mem_iff.mp List.mem_cons_self
      rcases List.mem_cons.mp this with rfl | hm
      · exact ⟨rfl, p.cons_inv⟩
      · exact absurd hx (hb x hm)
    have out1 : ∀ m ∈ joinF n r, ∀ j ∈ m, e ∉ tupE j := fun m hm j hj he => n1 ((joinF_flat hl m hm).mem_iff.mp (List.mem_flatMap.mpr ⟨j, hj, he⟩))
    have out2 : ∀ k, k < r.length → ∀ m ∈ joinF n (r.eraseIdx k), ∀ j ∈ m, e ∉ tupE j := fun k hk m hm j hj he => n1 ((List.eraseIdx_sublist _ _).subset ((joinF_flat (hle k hk) m hm).mem_iff.mp (List.mem_flatMap.mpr ⟨j, hj, he⟩)))
    show ((joinF n r).map (fun m => PyData.tuple [e] :: m) ++ (List.range r.length).flatMap fun k => (joinF n (r.eraseIdx k)).map fun m => PyData.tuple [e, r.getD k .none] :: m).Pairwise _
    refine List.pairwise_append.mpr ⟨?_, ?_, fun a ha b hb p => ?_⟩
    · refine List.pairwise_map.mpr ((joinF_diff hl n2).imp_of_mem fun {a b} ha hb hab p => hab ?_)
      exact p.cons_inv
    · refine List.pairwise_flatMap.mpr ⟨fun k hk => ?_, ?_⟩
      · have hk := List.mem_range.mp hk
        exact List.pairwise_map.mpr ((joinF_diff (hle k hk) (n2.sublist (List.eraseIdx_sublist _ _))).imp fun {a b} hab p => hab p.cons_inv)
      · refine (List.pairwise_lt_range (n := r.length)).imp_of_mem fun {i k} hi hk hik a ha b hb p => ?_
        have hi := List.mem_range.mp hi
        have hk := List.mem_range.mp hk
        obtain ⟨a', ha', rfl⟩ := List.mem_map.mp ha
        obtain ⟨b', hb', rfl⟩ := List.mem_map.mp hb
        have := (key _ _ a' b' (show e ∈ tupE (.tuple [e, r.getD i .none]) from List.mem_cons_self) (out2 k hk b' hb') p).1
        injection this with this
        injection this with _ this
        injection this with this
        have e1 : r.getD i .none = r[i] := by rw [List.getD_eq_getElem?_getD, List.getElem?_eq_getElem hi]; rfl
        have e2 : r.getD k .none = r[k] := by rw [List.getD_eq_getElem?_getD, List.getElem?_eq_getElem hk]; rfl
        rw [e1, e2] at this
        have := (List.getElem_inj n2).mp this
        omega
    · obtain ⟨a', ha', rfl⟩ := List.mem_map.mp ha
      obtain ⟨k, hk, hb⟩ := List.mem_flatMap.mp hb
      have hk := List.mem_range.mp hk
      obtain ⟨b', hb', rfl⟩ := List.mem_map.mp hb
      have := (key _ _ a' b' (show e ∈ tupE (.tuple [e]) from List.mem_cons_self) (out2 k hk b' hb') p).1
      injection this with this
      injection this with _ this
      cases this

end Sw

open PySem PySem.Spec L2 Sw
namespace Sw
theorem joinF_fuel : ∀ {n m : Nat} {l : List D}, l.length ≤ n → l.length ≤ m → joinF n l = joinF m l
  | 0, 0, _, _, _ => rfl
  | 0, m + 1, l, h, _ => by
    have : l = [] := List.eq_nil_of_length_eq_zero (by omega)
    subst this
    rfl
  | n + 1, 0, l, _, h => by
    have : l = [] := List.eq_nil_of_length_eq_zero (by omega)
    subst this
    rfl
  | n + 1, m + 1, [], _, _ => rfl
  | n + 1, m + 1, e :: r, h, g => by
    rw [List.length_cons] at h g
    show (joinF n r).map _ ++ (List.range r.length).flatMap _ = (joinF m r).map _ ++ (List.range r.length).flatMap _
    rw [joinF_fuel (n := n) (m := m) (l := r) (by omega) (by omega)]
    congr 1
    have : ∀ (ks : List Nat), (∀ k ∈ ks, k < r.length) → (ks.flatMap fun k => (joinF n (r.eraseIdx k)).map fun m => PyData.tuple [e, r.getD k .none] :: m) = ks.flatMap fun k => (joinF m (r.eraseIdx k)).map fun m => PyData.tuple [e, r.getD k .none] :: m := fun ks => by
      induction ks with
      | nil => intro _; rfl
      | cons k ks ih =>
        intro hk
        rw [List.flatMap_cons, List.flatMap_cons, ih fun x hx => hk x (List.mem_cons_of_mem _ hx)]
        have hk := hk k List.mem_cons_self
        rw [joinF_fuel (n := n) (m := m) (l := r.eraseIdx k) (by rw [List.length_eraseIdx, if_pos hk]; omega) (by rw [List.length_eraseIdx, if_pos hk]; omega)]
    exact this _ fun k hk => List.mem_range.mp hk
theorem invN_le {n : Nat} (h : n ≤ 8) : invN n ≤ 764 := by
  have c : n = 0 ∨ n = 1 ∨ n = 2 ∨ n = 3 ∨ n = 4 ∨ n = 5 ∨ n = 6 ∨ n = 7 ∨ n = 8 := by omega
  rcases c with rfl | rfl | rfl | rfl | rfl | rfl | rfl | rfl | rfl <;> decide
theorem joinF_few : ∀ {n : Nat} {l : List D}, l.length ≤ n → ∀ m ∈ joinF n l, m.length ≤ l.length
  | 0, l, h, m, hm => by
    have : m = [] := by simpa [joinF] using hm
    subst this
    exact Nat.zero_le _
  | n + 1, [], _, m, hm => by
    have : m = [] := by simpa [joinF] using hm
    subst this
    exact Nat.zero_le _
  | n + 1, e :: r, h, m, hm => by
    have hl : r.length ≤ n := by
      rw [List.length_cons] at h
      omega
    rcases List.mem_append.mp hm with hm | hm
    · obtain ⟨m', hm', rfl⟩ := List.mem_map.mp hm
      have := joinF_few hl m' hm'
      rw [List.length_cons, List.length_cons]
      omega
    · obtain ⟨k, hk, hm⟩ := List.mem_flatMap.mp hm
      have hk := List.mem_range.mp hk
      obtain ⟨m', hm', rfl⟩ := List.mem_map.mp hm
      have h1 : (r.eraseIdx k).length = r.length - 1 := by rw [List.length_eraseIdx, if_pos hk]
      have := joinF_few (n := n) (l := r.eraseIdx k) (by omega) m' hm'
      rw [List.length_cons, List.length_cons]
      omega
abbrev lsD (ms : List (List D)) : List D := ms.map PyData.list
def spJ : Nat → PSp
  | 0 => fun _ _ _ => False
  | n + 1 => fun fl ds Q => fl = none ∧ ∃ l : List D, ds = [.list l] ∧ l.length ≤ n ∧ l.length ≤ 8 ∧ (∀ x ∈ l, Hn 3 x) ∧ Q (.fr (lsD (joinF l.length l))) none
def sp_joinings : PSp := spJ 12
abbrev N_joinings : List Str := ["ends", "found", "at", "rest", "more"]
def T_joinings (sp_joinings : PSp) : PS' := (sSeq (sIf (qTest (qOp (gEq false) (qVar 0) (qF (fLst (qNil))))) (sRetF (fLst (qCons (qF (fLst (qNil))) qNil))) sNil)
  (sSeq (sAsgF 1 (fLc (iAny (qCall sp_joinings (qAddD (qCons (qSl (qVar 0) (qPs (qC (.int 1))) qPn) qNil) []))) (gN 4) tYes' (qOp gAdd (qF (fLst (qCons (qTup (qCons (qOp gIx (qVar 0) (qC (.int 0))) qNil)) qNil))) (qVar 4)) [4]))
  (sSeq (sFor (iRg2 (qC (.int 1)) (qCB gLen (qCons (qVar 0) qNil))) (gN 2) (sSeq (sAsg 3 (qOp gAdd (qSl (qVar 0) (qPs (qC (.int 1))) (qPs (qVar 2))) (qSl (qVar 0) (qPs (qOp gAdd (qVar 2) (qC (.int 1)))) qPn)))
  (sDrop (qMO 1 gExtend (qCons (qF (fLc (iAny (qCall sp_joinings (qAddD (qCons (qVar 3) qNil) []))) (gN 4) tYes' (qOp gAdd (qF (fLst (qCons (qTup (qCons (qOp gIx (qVar 0) (qC (.int 0))) (qCons (qOp gIx (qVar 0) (qVar 2)) qNil))) qNil))) (qVar 4)) [4])) qNil)))))
  (sRetS 1))))
theorem eraseIdx_cut {r : List D} {k : Nat} : r.eraseIdx k = r.take k ++ r.drop (k + 1) := List.eraseIdx_eq_take_drop_succ r k
theorem pure_joinings (n : Nat) (fl : Option (List D)) (ds : List D) (Q : RV → Option (List D) → Prop) (_ : false = true ↔ fl ≠ none) (h : spJ (n + 1) fl ds Q) : T_joinings (spJ n) (endsOf false Q) (startE false N_joinings fl ds) := by
  obtain ⟨rfl, l, rfl, hl, h8, hh, k⟩ := h
  show T_joinings _ _ [SV.dat (.list l), SV.un, SV.un, SV.un, SV.un]
  unfold T_joinings
  have hL : Hn 4 (.list l) := hh
  refine sSeq_abs fun R hR => ?_
  walk_at "wp"
  refine ⟨Nat.zero_le _, ?_⟩
  refine eq_hn hL (by intro d hd; cases hd) (by omega) (fun e => ?_) (fun e => ?_)
  · cases e
    refine ⟨_, rfl, ?_⟩
    rw [if_pos rfl]
    exact ⟨Nat.zero_le _, sizeL (by decide), k⟩
  refine ⟨_, rfl, ?_⟩
  rw [if_neg (by decide)]
  cases l with
  | nil => exact absurd rfl e
  | cons e0 r =>
  have hr : r.length ≤ 7 := by simpa using h8
  cases n with
  | zero => simp at hl
  | succ n =>
  have hrn : r.length ≤ n := by simpa using hl
  have hc1 : cutD (e0 :: r) (some 1) none = r := cutD_drop (ds := e0 :: r) (n := 1) (by simp)
  have sub : ∀ k, k < r.length → (r.eraseIdx k).length = r.length - 1 := fun k hk => by rw [List.length_eraseIdx, if_pos hk]
  let part : Nat → List (List D) := fun k => (joinF r.length (r.eraseIdx k)).map fun m => PyData.tuple [e0, r.getD k .none] :: m
  let F : Nat → List (List D) := fun i => (joinF r.length r).map (fun m => PyData.tuple [e0] :: m) ++ (List.range i).flatMap part
  have hF : F r.length = joinF (e0 :: r).length (e0 :: r) := rfl
  have lpart : ∀ k, k < r.length → (part k).length ≤ 764 := fun k hk => by
    show (List.map _ _).length ≤ _
    rw [List.length_map, joinF_len (by rw [sub k hk]; omega)]
    exact invN_le (by rw [sub k hk]; omega)
  have lF : ∀ i, i ≤ r.length → (F i).length ≤ 764 * (i + 1) := fun i => by
    induction i with
    | zero =>
      intro _
      show ((joinF r.length r).map _ ++ []).length ≤ _
      rw [List.append_nil, List.length_map, joinF_len (Nat.le_refl _)]
      exact Nat.le_trans (invN_le (by omega)) (by omega)
    | succ i ih =>
      intro hi
      have h1 := ih (by omega)
      have h2 := lpart i (by omega)
      show ((joinF r.length r).map _ ++ (List.range (i + 1)).flatMap part).length ≤ _
      have e3 : (List.range (i + 1)).flatMap part = (List.range i).flatMap part ++ part i := by rw [List.range_succ, List.flatMap_append]; simp
      rw [e3, ← List.append_assoc, List.length_append]
      have h1 : ((joinF r.length r).map (fun m => PyData.tuple [e0] :: m) ++ (List.range i).flatMap part).length ≤ 764 * (i + 1) := h1
      omega
  subst hR
  refine cut_seq (fun env => env = [SV.dat (.list (e0 :: r)), SV.own false (lsD (F 0)), SV.un, SV.un, SV.un]) ?_ fun nx hnx => ?_
  rotate_left
  · walk_at "wp"
    rw [hc1]
    refine ⟨rfl, r, rfl, hrn, by omega, fun x hx => hh x (List.mem_cons_of_mem _ hx), ?_⟩
    walk_at "wp"
    refine ⟨by rw [List.length_map, joinF_len (Nat.le_refl _)]; exact Nat.le_trans (invN_le (by omega)) (by decide), ?_⟩
    refine map_comp (f := fun m => PyData.list (.tuple [e0] :: m)) (fun m hm K hK => ?_) ?_
    · walk_at "wp"
      have hml := joinF_few (Nat.le_refl _) m hm
      exact ⟨sizeL (by decide), sizeL (by decide), by rw [sizeLine_eq]; omega, hK⟩
    walk_at "wp"
    refine hnx _ ?_
    have e4 : F 0 = (joinF r.length r).map (fun m => PyData.tuple [e0] :: m) := List.append_nil _
    rw [e4]
    show _ = [SV.dat (.list (e0 :: r)), SV.own false (((joinF r.length r).map fun m => PyData.tuple [e0] :: m).map PyData.list), SV.un, SV.un, SV.un]
    rw [List.map_map]
    rfl
  rintro env rfl
  refine cut_seq (fun env => ∃ y2 y3, env = [SV.dat (.list (e0 :: r)), SV.own false (lsD (F r.length)), y2, y3, SV.un]) ?_ fun nx hnx => ?_
  rotate_left
  · refine sFor_abs fun BB hBB => ?_
    walk_at "wp"
    have e5 : (((r.length + 1 : Nat) : Int) - 1).toNat = r.length := by omega
    refine ⟨by omega, ?_⟩
    refine pFor_inv (fun i env => ∃ y2 y3, env = [SV.dat (.list (e0 :: r)), SV.own false (lsD (F i)), y2, y3, SV.un]) ⟨_, _, rfl⟩ ?_ ?_
    · rintro i d hd env ⟨y2, y3, rfl⟩ K hK
      obtain ⟨hi, rfl⟩ := rgD_get hd
      have hir : i < r.length := by omega
      subst hBB
      walk_at "wp"
      have e6 : (1 + (i : Int)) = ((i + 1 : Nat) : Int) := by omega
      have e7 : (((i + 1 : Nat) : Int) + 1) = ((i + 2 : Nat) : Int) := by omega
      rw [e6, e7]
      have c1 : cutD (e0 :: r) (some (1 : Int)) (some ((i + 1 : Nat) : Int)) = r.take i := by
        have := cutD_mid (ds := e0 :: r) (n := 1) (m := i + 1) (by omega) (by rw [List.length_cons]; omega)
        simpa using this
      have c2 : cutD (e0 :: r) (some ((i + 2 : Nat) : Int)) none = r.drop (i + 1) := by
        have := cutD_drop (ds := e0 :: r) (n := i + 2) (by rw [List.length_cons]; omega)
        simpa using this
      have ee : r.take i ++ r.drop (i + 1) = r.eraseIdx i := eraseIdx_cut.symm
      rw [c1, c2, ee]
      refine ⟨by rw [List.length_take, List.length_drop, sizeLine_eq]; omega, ?_⟩
      have hs := sub i hir
      refine ⟨rfl, r.eraseIdx i, rfl, by omega, by omega, fun x hx => hh x (List.mem_cons_of_mem _ ((List.eraseIdx_sublist _ _).subset hx)), ?_⟩
      have ef : joinF (r.eraseIdx i).length (r.eraseIdx i) = joinF r.length (r.eraseIdx i) := joinF_fuel (Nat.le_refl _) (by omega)
      rw [ef]
      walk_at "wp"
      refine ⟨by rw [List.length_map, joinF_len (by omega)]; exact Nat.le_trans (invN_le (by omega)) (by decide), ?_⟩
      have at1 : atI (e0 :: r) ((i + 1 : Nat) : Int) = some (r.getD i .none) := by
        refine atI_nat ?_
        rw [List.getElem?_cons_succ, List.getD_eq_getElem?_getD, List.getElem?_eq_getElem hir]
        rfl
      refine map_comp (f := fun m => PyData.list (.tuple [e0, r.getD i .none] :: m)) (fun m hm K hK => ?_) ?_
      · walk_at "wp"
        rw [at1]
        have hml := joinF_few (n := r.length) (l := r.eraseIdx i) (by omega) m hm
        exact ⟨_, rfl, sizeL (by decide), sizeL (by decide), by rw [sizeLine_eq]; omega, hK⟩
      have e8 : (joinF r.length (r.eraseIdx i)).map (fun m => PyData.list (.tuple [e0, r.getD i .none] :: m)) = lsD (part i) := by
        show _ = (List.map _ _).map _
        rw [List.map_map]
        rfl
      rw [e8]
      have e9 : F (i + 1) = F i ++ part i := by
        show _ ++ (List.range (i + 1)).flatMap part = (_ ++ _) ++ _
        have e3 : (List.range (i + 1)).flatMap part = (List.range i).flatMap part ++ part i := by rw [List.range_succ, List.flatMap_append]; simp
        rw [e3, List.append_assoc]
      have h1 := lF i (by omega)
      have h2 := lpart i hir
      refine ⟨false, _, rfl, ?_, hK _ ⟨SV.dat (.int ((i + 1 : Nat) : Int)), SV.dat (.list (r.eraseIdx i)), ?_⟩⟩
      · rw [List.length_map, List.length_map, sizeLine_eq]
        have : 764 * (i + 1) ≤ 764 * 8 := Nat.mul_le_mul_left _ (by omega)
        omega
      · rw [e9, ← List.map_append]
        rfl
    · rintro env ⟨y2, y3, rfl⟩
      refine hnx _ ⟨y2, y3, ?_⟩
      rw [rgD_len]
      try rw [e5]
  rintro env ⟨y2, y3, rfl⟩
  walk_at "wp"
  rw [hF]
  exact k
/-- the ends of some names, in order -/
abbrev endsL (ns : List Str) : List D := ns.flatMap fun z => [endD z 0, endD z 1]
def sp_all_joints : PSp := fun fl ds Q => fl = none ∧ ∃ ns : List Str, ds = [.list (ns.map PyData.str)] ∧ ns.length ≤ 4 ∧ ns.Nodup ∧ Q (.fr ((joinF 8 (endsL (sortS ns))).map fun js => PyData.tuple (srtD js))) none
abbrev N_all_joints : List Str := ["names", "ends", "name", "joints"]
def T_all_joints : PS' := (sSeq (sIf (qTest (qOp (gI (gCmp fun i j => decide (j < i))) (qCB gLen (qCons (qVar 0) qNil)) (qC (.int 4)))) (sRaise) sNil)
  (sSeq (sAsgF 1 (fLst (qNil)))
  (sSeq (sFor (iAny (qF (fCB gSortD (qCons (qVar 0) qNil)))) (gN 2) (sDrop (qMO 1 gExtend (qCons (qF (fLst (qCons (qTup (qCons (qVar 2) (qCons (qC (.int 0)) qNil))) (qCons (qTup (qCons (qVar 2) (qCons (qC (.int 1)) qNil))) qNil)))) qNil))))
  (sRetF (fLc (iAny (qCall sp_joinings (qAddD (qCons (qVar 1) qNil) []))) (gN 3) tYes' (qCB gTuple (qCons (qF (fCB gSortD (qCons (qVar 3) qNil))) qNil)) [3])))))
theorem leD_ends {z y : Str} {s t : Int} (h1 : leS z y) (h2 : z = y → s ≤ t) : leD (endD z s) (endD y t) = true := by
  unfold leD
  rw [Bool.not_eq_true']
  show W.dataLt (.tuple [.str y, .int t]) (.tuple [.str z, .int s]) = false
  rw [W.dataLt_pair rfl rfl, dataLt_str, eqv_S]
  by_cases q : y = z
  · rw [if_pos (by simpa using q)]
    have := h2 q.symm
    split
    · rfl
    · rw [W.dataLt_int]
      exact decide_eq_false (by omega)
  · rw [if_neg (by simpa using q)]
    exact h1
theorem endsL_pw : ∀ {ns : List Str}, ns.Pairwise leS → ns.Nodup → (endsL ns).Pairwise fun a b => leD a b = true
  | [], _, _ => List.Pairwise.nil
  | z :: r, h, hn => by
    obtain ⟨h1, h2⟩ := List.pairwise_cons.mp h
    obtain ⟨n1, n2⟩ := List.nodup_cons.mp hn
    have ih := endsL_pw h2 n2
    have low : ∀ s : Int, ∀ x ∈ endsL r, leD (endD z s) x = true := fun s x hx => by
      obtain ⟨y, hy, hx⟩ := List.mem_flatMap.mp hx
      have ne : z ≠ y := fun e => n1 (e ▸ hy)
      simp only [List.mem_cons, List.not_mem_nil, or_false] at hx
      rcases hx with rfl | rfl <;> exact leD_ends (h1 y hy) fun e => absurd e ne
    show (endD z 0 :: endD z 1 :: endsL r).Pairwise _
    refine List.pairwise_cons.mpr ⟨fun x hx => ?_, List.pairwise_cons.mpr ⟨fun x hx => low 1 x hx, ih⟩⟩
    rcases List.mem_cons.mp hx with rfl | hx
    · exact leD_ends (by unfold leS ltS; simp) fun _ => by omega
    · exact low 0 x hx
theorem endsL_len (ns : List Str) : (endsL ns).length = 2 * ns.length := by
  induction ns with
  | nil => rfl
  | cons z r ih =>
    show (endD z 0 :: endD z 1 :: endsL r).length = _
    rw [List.length_cons, List.length_cons, ih, List.length_cons]
    omega
theorem endsL_perm : ∀ (ns : List Str), (endsL ns).Perm (ns.map (fun z => endD z 0) ++ ns.map fun z => endD z 1)
  | [] => List.Perm.refl _
  | z :: r => by
    show (endD z 0 :: endD z 1 :: endsL r).Perm (endD z 0 :: (r.map (fun z => endD z 0) ++ endD z 1 :: r.map fun z => endD z 1))
    refine ((endsL_perm r).cons _).trans ?_ |>.cons _
    exact List.perm_middle.symm
theorem endsL_E {ns : List Str} : ∀ x ∈ endsL ns, IsE x := fun x hx => by
  obtain ⟨y, hy, hx⟩ := List.mem_flatMap.mp hx
  simp only [List.mem_cons, List.not_mem_nil, or_false] at hx
  rcases hx with rfl | rfl
  · exact ⟨y, 0, rfl⟩
  · exact ⟨y, 1, rfl⟩
/-- each row of joints of some names is a set's -/
theorem join_ok {ns : List Str} (hn : ns.Nodup) (hl : ns.length ≤ 4) : ∀ m ∈ joinF 8 (endsL (sortS ns)), JsOk ns m := fun m hm => by
  have hsn : (sortS ns).Nodup := (sortS_perm ns).nodup_iff.mpr hn
  have pw := endsL_pw (sortS_pw ns) hsn
  have l8 : (endsL (sortS ns)).length ≤ 8 := by
    rw [endsL_len, sortS_len]
    omega
  have fm := joinF_form l8 pw (P := IsE) endsL_E m hm
  refine ⟨fun j hj => ?_, fun j hj => ?_, ?_⟩
  · rcases fm j hj with ⟨a, rfl, ha⟩ | ⟨a, b, rfl, ha, hb, _⟩
    · exact .one ha
    · exact .two ha hb
  · rcases fm j hj with ⟨a, rfl, ha⟩ | ⟨a, b, rfl, ha, hb, hab⟩
    · show PyData.tuple [a] = .tuple (srtD [a])
      unfold srtD
      rw [List.mergeSort_singleton]
    · show PyData.tuple [a, b] = .tuple (srtD [a, b])
      rw [srtD_two]
      unfold leD at hab
      rw [Bool.not_eq_true'] at hab
      rw [hab, if_neg (by decide)]
  · refine (joinF_flat l8 m hm).trans ((endsL_perm _).trans ?_)
    exact ((sortS_perm ns).map _).append ((sortS_perm ns).map _)
theorem pure_all_joints (fl : Option (List D)) (ds : List D) (Q : RV → Option (List D) → Prop) (_ : false = true ↔ fl ≠ none) (h : sp_all_joints fl ds Q) : T_all_joints (endsOf false Q) (startE false N_all_joints fl ds) := by
  obtain ⟨rfl, ns, rfl, hl, hn, k⟩ := h
  show T_all_joints _ [SV.dat (.list (ns.map PyData.str)), SV.un, SV.un, SV.un]
  unfold T_all_joints
  have hsl : (sortS ns).length = ns.length := sortS_len ns
  have l8 : (endsL (sortS ns)).length ≤ 8 := by
    rw [endsL_len, hsl]
    omega
  refine sSeq_abs fun R hR => ?_
  walk_at "wp"
  rw [List.length_map, if_neg (by omega)]
  subst hR
  refine sSeq_abs fun R hR => ?_
  walk_at "wp"
  refine ⟨Nat.zero_le _, ?_⟩
  subst hR
  refine cut_seq (fun env => ∃ y2, env = [SV.dat (.list (ns.map PyData.str)), SV.own false (endsL (sortS ns)), y2, SV.un]) ?_ fun nx hnx => ?_
  rotate_left
  · refine sFor_abs fun BB hBB => ?_
    walk_at "wp"
    refine pFor_inv (fun i env => ∃ y2, env = [SV.dat (.list (ns.map PyData.str)), SV.own false (endsL ((sortS ns).take i)), y2, SV.un]) ⟨_, rfl⟩ ?_ ?_
    · rintro i d hd env ⟨y2, rfl⟩ K hK
      rw [List.getElem?_map] at hd
      cases q : (sortS ns)[i]? with
      | none => rw [q] at hd; cases hd
      | some z =>
        rw [q] at hd
        cases hd
        have hi : i < (sortS ns).length := (List.getElem?_eq_some_iff.mp q).1
        subst hBB
        walk_at "wp"
        have lt : (endsL ((sortS ns).take i)).length ≤ 8 := by
          rw [endsL_len, List.length_take]
          omega
        refine ⟨sizeL (by decide), sizeL (by decide), sizeL (by decide), by rw [sizeLine_eq]; omega, hK _ ⟨SV.dat (.str z), ?_⟩⟩
        rw [List.take_add_one, q]
        show _ = [SV.dat (.list (ns.map PyData.str)), SV.own false (endsL ((sortS ns).take i ++ [z])), _, SV.un]
        have e : endsL ((sortS ns).take i ++ [z]) = endsL ((sortS ns).take i) ++ [endD z 0, endD z 1] := by
          show List.flatMap _ (_ ++ [z]) = _
          rw [List.flatMap_append]
          rfl
        rw [e]
        rfl
    · rintro env ⟨y2, rfl⟩
      refine hnx _ ⟨y2, ?_⟩
      rw [List.length_map, List.take_length]
  rintro env ⟨y2, rfl⟩
  walk_at "wp"
  refine ⟨rfl, endsL (sortS ns), rfl, Nat.le_trans l8 (by decide), l8, fun x hx => hn_E (endsL_E x hx) 2, ?_⟩
  walk_at "wp"
  have ej : joinF (endsL (sortS ns)).length (endsL (sortS ns)) = joinF 8 (endsL (sortS ns)) := joinF_fuel (Nat.le_refl _) l8
  rw [ej]
  refine ⟨by rw [List.length_map, joinF_len l8]; exact Nat.le_trans (invN_le l8) (by decide), ?_⟩
  refine map_comp (f := fun js => PyData.tuple (srtD js)) (fun m hm K hK => ?_) ?_
  · walk_at "wp"
    have hJ := (join_ok hn hl m hm).isJ
    rw [gSortD_ok (okSort_J hJ)]
    have := (join_ok hn hl m hm).few
    exact ⟨_, rfl, hK⟩
  exact k

end Sw

open PySem PySem.Spec L2 Sw
namespace Sw

end Sw

open PySem PySem.Spec L2 Sw
namespace Sw

end Sw

open PySem PySem.Spec L2 Sw
namespace Sw

end Sw

open PySem PySem.Spec L2 Sw
namespace Sw
theorem canonS_same {ns : List Str} (hn : ns.Nodup) {cs ds : List Strand} (c1 : InForm cs) (d1 : InForm ds) (c2 : GoodS cs) (d2 : GoodS ds) (c3 : ((beadsOf cs).map Prod.snd).Perm ns) (d3 : ((beadsOf ds).map Prod.snd).Perm ns) (h : (jts cs).Perm (jts ds)) : cs = ds :=
  canon_uniq (equ_of_joints c2.1 d2.1 (c3.nodup_iff.mpr hn) (d3.trans c3.symm) fun j => h.symm.mem_iff) c1 d1 c2.1 (c3.nodup_iff.mpr hn)
end Sw

open PySem PySem.Spec L2 Sw
local macro_rules | `(tactic| walk_at "wx") => `(tactic| simp only [qCallX, qChainV, fCallX, sRaise1, sRaiseD, sRaise0, sTry, pE, qXf, qXi, qXis, goneS, boundS, goneX, ex_fx, ex_rx, atomV, Option.isSome_some, sSeq, sIf, sNil, sPass, sBreak, sCont, sRet, sRetF, sRetS, sDrop, sAsg, sAsgF, sSetIx, sAsgG, sFor, sRaise, sAsgD, sPutD, sFrzD, qDIn, qDGet, qDGetO, iKeysD, OV.dic, ex_pr, ex_pr0, ex_dic, ex_dic0, ex_kds, keyO_some, gListDic_1, gClear_0, qDisp1, qChain, qRest, tAnd', tOr', tNot', qTest, qAnd, qOr, qNot, qOp, qVar, qC, qF, qSl, qPn, qPs, qTup, fLst, qCB, fCB, qIsi, qJoin, fOp, qCons, qNil, qMO, qMO0, qAddD, qCall, qCallL, fCall, fCallL, qCallV, ex_dt, ex_fr, ex_frL, atom_b, atom_i, atom_s, atom_n, ex_tupv, ex_consv, eq_self, fLc, fLcR, restE, NoOwn, nob_d, nob_u, List.getD_cons_zero, List.getD_cons_succ, wipeE, iAny, iRg1, iRg2, iEnu, gN, gT, gsC, gsN, tYes', endsOf, LentE,
  svD, Ct.toD, OV.rd, OV.fz, rdAll, fzAll, bindS, mapS, ex_some, ex_fz, ex_fzs, ex_own, ex_own0, ex_ownF, ex_bool, ex_int, ex_lst, ex_strv, ex_svd, ex_svo, ex_if, ex_ifb, ex_som0, ex_fl, ex_flN, ex_ifp, true_and, and_true,
  List.getElem?_cons_zero, List.getElem?_cons_succ, List.set_cons_zero, List.set_cons_succ, List.length_cons, List.length_nil, List.append_nil, List.nil_append, List.cons_append, List.map_nil, List.map_cons, List.length_set,
  atI_lit, ixN_lit, gI_ii, gAdd_ii, gAdd_ss, gAdd_ll, gAdd_tt, gMul_ii, gMul_si, gLt_ii, gLt_ss, gIx_li, gIx_ti, gIx_si, gLen_l, gLen_t, gLen_s, gListF_l, gListF_t, gTuple_l, gTuple_t, gCatF_ll, gEq_ii, gNe_ii, gEq_ss, gNe_ss, gEq_bb, gNe_bb, gSl_l, gSl_t, gSl_s, gIsN_n, gNotN_n, gIsN_b, gIsN_i, gIsN_s, gIsN_l, gIsN_t, gIsN_d, ne_eq, not_true_eq_false, not_false_eq_true, gAppend_1, gExtend_l, gExtend_t, gRev_l, gRev_t, qRevA, RV.toD, seqOf_l, seqOf_t, itemsOf_l, itemsOf_t, itemsOf_s, gSortD_s, gIsB_bb, gNotB_bb, qNeg, qVM, fVM, fSortK, gJoin_s, gAll_b, gAny_b, gPopAt_1, isi_str, isi_int, isi_bool, isi_list, isi_tuple, isi_none, dSub, gDiv, gMod, gPow, gCmp,
  Bool.not_true, Bool.not_false, if_true, if_false, ite_true, ite_false, reduceIte, decide_eq_true_eq, beq_iff_eq, Bool.not_eq_true', beq_eq_false_iff_ne, Bool.false_eq_true, Nat.reduceLT, Nat.reduceAdd, Nat.reduceLeDiff, Nat.lt_add_one, Nat.zero_lt_succ, Nat.not_lt_zero])
namespace Sw

end Sw

open PySem PySem.Spec L2 Sw
namespace Sw

end Sw

open PySem PySem.Spec L2 Sw
namespace Sw

end Sw

open PySem PySem.Spec L2 Sw
namespace Sw
theorem filt_all {α : Type} {p : α → Bool} : ∀ {l : List α}, (∀ x ∈ l, p x = true) → l.filter p = l := fun h => List.filter_eq_self.mpr h
theorem rep_bd (b : Bead) (h : Nm b.2) : Txt.replace (bdS b) (Str.ofString "-") (Str.ofString "") = b.2 := by
  have e1 : Str.ofString "-" = ⟨#[45]⟩ := by decide +kernel
  have e2 : Str.ofString "" = ⟨#[]⟩ := by decide +kernel
  have hr := PyProof.Rows.replace_strikes (bdS b) 45
  rw [← e1, ← e2] at hr
  have hl : b.2.cps.toList.filter (· != 45) = b.2.cps.toList := filt_all fun c hc => by
    have := h.1 c hc
    simp
    omega
  have ht : (bdS b).cps.toList.filter (· != 45) = b.2.cps.toList := by
    unfold bdS
    split
    · rw [tl_app, dash_tl]
      simpa using hl
    · exact hl
  rw [ht] at hr
  generalize Txt.replace (bdS b) (Str.ofString "-") (Str.ofString "") = r at hr
  obtain ⟨⟨l⟩⟩ := r
  obtain ⟨b1, ⟨⟨m⟩⟩⟩ := b
  simp at hr
  subst hr
  rfl
theorem rep_ok (b : Bead) (h : Nm b.2) : (bdS b).length + ((bdS b).length + 1) * (Str.ofString "").length ≤ 16777216 := by
  have e : (Str.ofString "").length = 0 := by decide +kernel
  rw [e]
  have := bd_len h
  omega
def sp_law_first_name : PSp := fun fl ds Q => fl = none ∧ ∃ s : Strand, ds = [stD s] ∧ s.2 ≠ [] ∧ (∀ b ∈ s.2, Nm b.2) ∧ Q (.dt (.str (fnm s.2))) none
abbrev N_law_first_name : List Str := ["_law_strand"]
def T_law_first_name : PS' := (sRet (qRepl (qOp gIx (qOp gIx (qVar 0) (qC (.int 1))) (qC (.int 0))) "-" ""))
theorem pure_law_first_name (fl : Option (List D)) (ds : List D) (Q : RV → Option (List D) → Prop) (_ : false = true ↔ fl ≠ none) (h : sp_law_first_name fl ds Q) : T_law_first_name (endsOf false Q) (startE false N_law_first_name fl ds) := by
  obtain ⟨rfl, s, rfl, hne, hn, k⟩ := h
  show T_law_first_name _ [SV.dat (stD s)]
  unfold T_law_first_name stD
  simp only [sRet, qRepl]
  walk_at "wp"
  have hb := hn _ (first_mem hne)
  refine ⟨_, first_ix hne, _, rfl, rep_ok _ hb, ?_⟩
  rw [rep_bd _ hb]
  exact k
theorem strand_nod {cs : List Strand} (h : ((beadsOf cs).map Prod.snd).Nodup) {s : Strand} (hs : s ∈ cs) : (s.2.map Prod.snd).Nodup := by
  induction cs with
  | nil => cases hs
  | cons a r ih =>
    have e : beadsOf (a :: r) = a.2 ++ beadsOf r := rfl
    rw [e, List.map_append, List.nodup_append] at h
    rcases List.mem_cons.mp hs with rfl | hs
    · exact h.1
    · exact ih h.2.1 hs
/-- the strands of one kind -/
def kindS (k : Bool) (cs : List Strand) : List Strand := cs.filter fun s => s.1 == k
theorem kindS_snoc (k : Bool) (ss : List Strand) (s : Strand) : kindS k (ss ++ [s]) = kindS k ss ++ (if s.1 = k then [s] else []) := by
  unfold kindS
  rw [List.filter_append]
  congr 1
  by_cases h : s.1 = k
  · rw [if_pos h, List.filter_cons_of_pos (by rw [beq_iff_eq]; exact h)]
    rfl
  · rw [if_neg h, List.filter_cons_of_neg (by rw [beq_iff_eq]; exact h)]
    rfl
theorem kinds_form : ∀ {cs : List Strand}, cs.Pairwise leK → kindS false cs ++ kindS true cs = cs
  | [], _ => rfl
  | s :: r, h => by
    obtain ⟨h1, h2⟩ := List.pairwise_cons.mp h
    have ih := kinds_form h2
    cases hk : s.1 with
    | false =>
      have e1 : kindS false (s :: r) = s :: kindS false r := List.filter_cons_of_pos (by rw [beq_iff_eq]; exact hk)
      have e2 : kindS true (s :: r) = kindS true r := List.filter_cons_of_neg (by rw [beq_iff_eq, hk]; decide)
      rw [e1, e2, List.cons_append, ih]
    | true =>
      have no : ∀ t ∈ r, t.1 = true := fun t ht => by
        rcases h1 t ht with q | q
        · rw [hk] at q
          cases q.1
        · rw [← q.1, hk]
      have e1 : kindS false (s :: r) = [] := by
        unfold kindS
        rw [List.filter_eq_nil_iff]
        intro t ht
        rcases List.mem_cons.mp ht with rfl | ht
        · rw [hk]; decide
        · rw [no t ht]; decide
      have e2 : kindS true (s :: r) = s :: r := by
        unfold kindS
        refine filt_all fun t ht => ?_
        rcases List.mem_cons.mp ht with rfl | ht
        · rw [hk]; decide
        · rw [no t ht]; decide
      rw [e1, e2, List.nil_append]
theorem kind_keys {cs : List Strand} (h : cs.Pairwise leK) (k : Bool) : byKeys ((kindS k cs).map stD) ((kindS k cs).map fun s => .str (fnm s.2)) = (kindS k cs).map stD := by
  rw [byKeys_map]
  congr 1
  refine List.mergeSort_of_pairwise ?_
  unfold kindS
  have h2 : (cs.filter fun s => s.1 == k).Pairwise fun a b => a.1 = k ∧ b.1 = k ∧ leK a b := by
    rw [List.pairwise_filter]
    refine h.imp fun {a b} hab ha hb => ⟨by simpa using ha, by simpa using hb, hab⟩
  refine h2.imp fun {a b} ⟨e1, e2, hab⟩ => ?_
  rw [leD_str]
  rcases hab with q | q
  · rw [e1] at q
    rw [e2] at q
    rw [q.1] at q
    cases q.2
  · have q := q.2
    unfold leS at q
    rw [q]
    rfl
theorem gt_strs (a b : Str) : gGtD (.str a) (.str b) = some (.bool (ltS b a)) := by
  have h := leD_str a b
  unfold leD at h
  have h : W.dataLt (.str b) (.str a) = ltS b a := by
    rw [← Bool.not_not (W.dataLt (PyData.str b) (PyData.str a)), h, Bool.not_not]
  show (if cmpOk (.str a) (.str b) = true then some (PyData.bool (W.dataLt (.str b) (.str a))) else none) = _
  rw [h]
  rfl
theorem ltS_refl (a : Str) : ltS a a = false := by
  unfold ltS
  exact decide_eq_false (List.lt_irrefl _)
def sp_law_canon_2 : PSp := fun fl ds Q => fl = none ∧ ∃ cs, ds = [.tuple (cs.map stD)] ∧ GoodS cs ∧ InForm cs ∧ ((beadsOf cs).map Prod.snd).Nodup ∧ Q (.dt (.tuple (cs.map stD))) none
abbrev N_law_canon_2 : List Str := ["_law_some", "_law_opens", "_law_rings", "_law_kind", "_law_beads", "_law_bare", "_law_at", "_law_bead"]
def T_law_canon_2 : PS' := (sSeq (sAsgF 1 (fLst (qNil)))
  (sSeq (sAsgF 2 (fLst (qNil)))
  (sSeq (sFor (iAny (qVar 0)) (gT 2 (gsC (gN 3) (gsC (gN 4) gsN))) (sSeq (sAsg 5 (qF (fLc (iAny (qVar 4)) (gN 7) tYes' (qRepl (qVar 7) "-" "") [7])))
  (sIf (qTest (qOp (gEq false) (qVar 3) (qC (.str "open")))) (sSeq (sIf (tOr' (qTest (qOp gGtD (qOp gIx (qVar 5) (qC (.int 0))) (qOp gIx (qVar 5) (qNeg (qC (.int 1)))))) (tAnd' (qTest (qOp (gEq false) (qCB gLen (qCons (qVar 4) qNil)) (qC (.int 1)))) (qTest (qOp (gEq false) (qOp gIx (qOp gIx (qVar 4) (qC (.int 0))) (qC (.int 0))) (qC (.str "-")))))) (sAsg 4 (qCB gTuple (qCons (qF (fLc (iAny (qRevA (qVar 4))) (gN 7) tYes' (qCall sp_law_mirrored (qAddD (qCons (qVar 7) qNil) [])) [7])) qNil))) sNil)
  (sDrop (qMO 1 gAppend (qCons (qTup (qCons (qVar 3) (qCons (qVar 4) qNil))) qNil)))) (sSeq (sAsg 6 (qVM "list" gIndex (qVar 5) (qCons (qCB (gBestL W.minD) (qCons (qVar 5) qNil)) qNil)))
  (sSeq (sAsg 4 (qOp gAdd (qSl (qVar 4) (qPs (qVar 6)) qPn) (qSl (qVar 4) qPn (qPs (qVar 6)))))
  (sSeq (sIf (qTest (qOp (gEq false) (qOp gIx (qOp gIx (qVar 4) (qC (.int 0))) (qC (.int 0))) (qC (.str "-")))) (sSeq (sAsg 4 (qCB gTuple (qCons (qF (fLc (iAny (qRevA (qVar 4))) (gN 7) tYes' (qCall sp_law_mirrored (qAddD (qCons (qVar 7) qNil) [])) [7])) qNil)))
  (sAsg 4 (qOp gAdd (qSl (qVar 4) (qPs (qNeg (qC (.int 1)))) qPn) (qSl (qVar 4) qPn (qPs (qNeg (qC (.int 1)))))))) sNil)
  (sDrop (qMO 2 gAppend (qCons (qTup (qCons (qVar 3) (qCons (qVar 4) qNil))) qNil)))))))))
  (sRet (qCB gTuple (qCons (qOp gAdd (qF (fSortK sp_law_first_name (qVar 1))) (qF (fSortK sp_law_first_name (qVar 2)))) qNil))))))
theorem pure_law_canon_2 (fl : Option (List D)) (ds : List D) (Q : RV → Option (List D) → Prop) (_ : false = true ↔ fl ≠ none) (h : sp_law_canon_2 fl ds Q) : T_law_canon_2 (endsOf false Q) (startE false N_law_canon_2 fl ds) := by
  obtain ⟨rfl, cs, rfl, hg, hi, hnd, k⟩ := h
  show T_law_canon_2 _ [SV.dat (.tuple (cs.map stD)), SV.un, SV.un, SV.un, SV.un, SV.un, SV.un, SV.un]
  unfold T_law_canon_2
  have hsl : cs.length ≤ 1000 := Nat.le_trans (beads_few cs hg.1) hg.2.1
  refine sSeq_abs fun R hR => ?_
  walk_at "wp"
  refine ⟨Nat.zero_le _, ?_⟩
  subst hR
  refine sSeq_abs fun R hR => ?_
  walk_at "wp"
  refine ⟨Nat.zero_le _, ?_⟩
  subst hR
  refine cut_seq (fun env => ∃ y3 y4 y5 y6, env = [SV.dat (.tuple (cs.map stD)), SV.own false ((kindS false cs).map stD), SV.own false ((kindS true cs).map stD), y3, y4, y5, y6, SV.un]) ?_ fun nx hnx => ?_
  rotate_left
  · refine sFor_abs fun BB hBB => ?_
    walk_at "wp"
    refine pFor_inv (fun i env => ∃ y3 y4 y5 y6, env = [SV.dat (.tuple (cs.map stD)), SV.own false ((kindS false (cs.take i)).map stD), SV.own false ((kindS true (cs.take i)).map stD), y3, y4, y5, y6, SV.un]) ⟨_, _, _, _, rfl⟩ ?_ ?_
    · rintro i d hd env ⟨y3, y4, y5, y6, rfl⟩ K hK
      rw [List.getElem?_map] at hd
      cases q : cs[i]? with
      | none => rw [q] at hd; cases hd
      | some s =>
        rw [q] at hd
        cases hd
        have hs := List.mem_of_getElem? q
        have hne := hg.1 s hs
        have hl := hg.len hs
        have hnm := hg.nm hs
        have hpos : 1 ≤ s.2.length := by
          cases q : s.2 with
          | nil => exact absurd q hne
          | cons a b => simp
        have e : stD s = .tuple [kindD s.1, .tuple (s.2.map bdD)] := rfl
        have fs := hi.1 s hs
        have tk : ∀ k, kindS k (cs.take (i + 1)) = kindS k (cs.take i) ++ (if s.1 = k then [s] else []) := fun k => by
          rw [List.take_add_one, q]
          exact kindS_snoc _ _ _
        rw [e]
        subst hBB
        simp only [gT, gsC, gsN, gN, ex_tupv, ex_consv, itemsOf_t, seqOf_t, ex_some, List.set_cons_succ, List.set_cons_zero, List.length_cons, List.length_nil, true_and, eq_self, Nat.reduceAdd, bindS, mapS]
        refine ⟨by decide, by decide, ?_⟩
        have f0 : (s.2.map fun b => PyData.str b.2)[0]? = some (.str (fnm s.2)) := by
          cases q : s.2 with
          | nil => exact absurd q hne
          | cons a r => rfl
        have fl : atI (s.2.map fun b => PyData.str b.2) (-1) = some (.str (lastB s.2).2) := by
          refine atI_neg1 ?_
          rw [List.getLast?_map]
          unfold lastB
          rw [List.getLast?_eq_some_getLast hne, List.getLastD_eq_getLast?, List.getLast?_eq_some_getLast hne]
          rfl
        have b0 := first_ix hne
        have ko : gEq false (kindD s.1) (.str (Str.ofString "open")) = some (.bool (!s.1)) := by
          show gEq false (.str (if s.1 = true then Str.ofString "ring" else Str.ofString "open")) _ = _
          rw [gEq_ss]
          have h : ((if s.1 = true then Str.ofString "ring" else Str.ofString "open") == Str.ofString "open") = (!s.1) := by cases s.1 <;> decide +kernel
          rw [h]
        refine sSeq_abs fun R hR => ?_
        walk_at "wp"
        refine ⟨by rw [List.length_map]; omega, ?_⟩
        refine map_comp (f := fun b => PyData.str b.2) (fun b hb K hK => ?_) ?_
        · have hbn := hnm b hb
          walk_at "wp"
          simp only [qRepl]
          walk_at "wp"
          refine ⟨_, rfl, rep_ok b hbn, ?_⟩
          rw [rep_bd b hbn]
          exact hK
        walk_at "wp"
        subst hR
        walk_at "wp"
        refine ⟨_, ko, _, rfl, ?_⟩
        cases hk : s.1 with
        | false =>
          have fo := fs.1 hk
          rw [if_pos (by rfl)]
          have hgt : ltS (lastB s.2).2 (fnm s.2) = false := by
            by_cases h1 : 1 < s.2.length
            · exact fo.2 h1
            · obtain ⟨a, r, ea⟩ := List.exists_cons_of_ne_nil hne
              have : r = [] := by
                rw [ea, List.length_cons] at h1
                exact List.eq_nil_of_length_eq_zero (by omega)
              subst this
              unfold fnm
              rw [ea]
              exact ltS_refl _
          refine ⟨_, f0, _, fl, _, gt_strs _ _, _, rfl, ?_⟩
          rw [hgt, if_neg (by decide)]
          have e1 : (kindS false (cs.take i)).map stD ++ [.tuple [kindD s.1, .tuple (s.2.map bdD)]] = (kindS false (cs.take (i + 1))).map stD := by
            rw [tk, if_pos hk, List.map_append]
            rfl
          have e2 : (kindS true (cs.take i)).map stD = (kindS true (cs.take (i + 1))).map stD := by
            rw [tk, if_neg (by rw [hk]; decide), List.append_nil]
          have lk : (kindS false (cs.take i)).length ≤ 1000 := Nat.le_trans (List.length_filter_le _ _) (Nat.le_trans (by rw [List.length_take]; omega) hsl)
          rw [hk] at e1
          by_cases h1 : s.2.length = 1
          · rw [if_pos (by rw [List.length_map, h1]; rfl)]
            refine ⟨_, b0, ?_⟩
            rw [gIx_bd, bd_first _ (hnm _ (first_mem hne))]
            refine ⟨_, rfl, ?_⟩
            rw [fo.1 h1, if_neg (by decide)]
            refine ⟨sizeL (by decide), by rw [List.length_map, sizeLine_eq]; omega, ?_⟩
            exact hK _ ⟨_, _, _, _, by rw [e1, e2]⟩
          · rw [if_neg (by rw [List.length_map]; omega)]
            refine ⟨sizeL (by decide), by rw [List.length_map, sizeLine_eq]; omega, ?_⟩
            exact hK _ ⟨_, _, _, _, by rw [e1, e2]⟩
        | true =>
          rw [if_neg (by decide)]
          have hf := fs.2 hk
          have hmin : gBestL W.minD [.list (s.2.map fun b => PyData.str b.2)] = some (.str (fnm s.2)) := by
            obtain ⟨a, r, ea⟩ := List.exists_cons_of_ne_nil hne
            have e1 : s.2.map (fun b => PyData.str b.2) = ((a :: r).map Prod.snd).map PyData.str := by rw [ea, List.map_map]; rfl
            rw [e1]
            have e2 := gMinL_strs a.2 (r.map Prod.snd)
            have e3 : minS a.2 (r.map Prod.snd) = fnm s.2 := by
              have h1 := minS_le a.2 (r.map Prod.snd) a.2 List.mem_cons_self
              obtain ⟨b, hb, hb2⟩ := List.mem_map.mp (show minS a.2 (r.map Prod.snd) ∈ (a :: r).map Prod.snd from minS_mem _ _)
              have h2 := hf.2 b (by rw [ea]; exact hb)
              rw [hb2] at h2
              have h3 : fnm s.2 = a.2 := by rw [ea]; rfl
              show _ = fnm s.2
              have h2 : leS (fnm s.2) (minS a.2 (r.map Prod.snd)) := h2
              rw [h3] at h2 ⊢
              exact ltS_tri h2 h1
            rw [e3] at e2
            exact e2
          have hm0 : fnm s.2 ∈ s.2.map Prod.snd := List.mem_map_of_mem (first_mem hne)
          obtain ⟨ix, hix, hgi⟩ := gIndex_strs (ys := s.2.map Prod.snd) (fun y hy => by
            obtain ⟨b, hb, rfl⟩ := List.mem_map.mp hy
            exact (hnm b hb).1) hm0
          have ix0 : ix = 0 := by
            refine (List.getElem?_inj (List.getElem?_eq_some_iff.mp hix).1 (strand_nod hnd hs)).mp ?_
            rw [hix]
            cases q : s.2 with
            | nil => exact absurd q hne
            | cons a r => rfl
          subst ix0
          have e0 : (s.2.map Prod.snd).map PyData.str = s.2.map fun b => PyData.str b.2 := by rw [List.map_map]; rfl
          rw [e0] at hgi
          have lb : (s.2.map bdD).length = s.2.length := List.length_map ..
          have c1 : cutD (s.2.map bdD) (some ((0 : Nat) : Int)) none = s.2.map bdD := by rw [cutD_drop (Nat.zero_le _)]; rfl
          have c2 : cutD (s.2.map bdD) none (some ((0 : Nat) : Int)) = [] := by rw [cutD_take (Nat.zero_le _)]; rfl
          refine ⟨rfl, _, hmin, _, hgi, _, rfl, _, rfl, ?_⟩
          rw [c1, c2, List.append_nil]
          refine ⟨by rw [lb, sizeLine_eq]; show s.2.length + 0 ≤ _; omega, _, b0, ?_⟩
          rw [gIx_bd, bd_first _ (hnm _ (first_mem hne))]
          refine ⟨_, rfl, ?_⟩
          rw [hf.1, if_neg (by decide)]
          have e1 : (kindS true (cs.take i)).map stD ++ [.tuple [kindD s.1, .tuple (s.2.map bdD)]] = (kindS true (cs.take (i + 1))).map stD := by
            rw [tk, if_pos hk, List.map_append]
            rfl
          have e2 : (kindS false (cs.take i)).map stD = (kindS false (cs.take (i + 1))).map stD := by
            rw [tk, if_neg (by rw [hk]; decide), List.append_nil]
          have lk : (kindS true (cs.take i)).length ≤ 1000 := Nat.le_trans (List.length_filter_le _ _) (Nat.le_trans (by rw [List.length_take]; omega) hsl)
          rw [hk] at e1
          refine ⟨sizeL (by decide), by rw [List.length_map, sizeLine_eq]; omega, ?_⟩
          exact hK _ ⟨_, _, _, _, by rw [e1, e2]⟩
    · rintro env ⟨y3, y4, y5, y6, rfl⟩
      rw [List.length_map, List.take_length]
      exact hnx _ ⟨_, _, _, _, rfl⟩
  rintro env ⟨y3, y4, y5, y6, rfl⟩
  have mk : ∀ k, ∀ s ∈ kindS k cs, s ∈ cs := fun k s hs => (List.mem_filter.mp hs).1
  have lk : ∀ k, (kindS k cs).length ≤ 1000 := fun k => Nat.le_trans (List.length_filter_le _ _) hsl
  have keys : ∀ os : List Strand, os.map (fun c => PyData.str (fnm c.2)) = (os.map fun c => fnm c.2).map PyData.str := fun os => by rw [List.map_map]; rfl
  walk_at "wp"
  refine pKeys_map (g := fun c => .str (fnm c.2)) (fun c hc Q hQ => ⟨rfl, c, rfl, hg.1 c (mk _ c hc), hg.nm (mk _ c hc), hQ⟩) ?_
  rw [List.nil_append]
  refine ⟨by rw [keys]; exact okSort_strs _, ?_⟩
  rw [kind_keys hi.2]
  refine pKeys_map (g := fun c => .str (fnm c.2)) (fun c hc Q hQ => ⟨rfl, c, rfl, hg.1 c (mk _ c hc), hg.nm (mk _ c hc), hQ⟩) ?_
  rw [List.nil_append]
  refine ⟨by rw [keys]; exact okSort_strs _, ?_⟩
  rw [kind_keys hi.2]
  have l1 := lk false
  have l2 := lk true
  refine ⟨by rw [List.length_map, List.length_map, sizeLine_eq]; omega, ?_⟩
  rw [← List.map_append, kinds_form hi.2]
  exact k

end Sw

open PySem PySem.Spec L2 Sw
namespace Sw
abbrev setD (cs : List Strand) : D := .tuple (cs.map stD)
theorem alike_st (s t : Strand) : W.alike (stD s) (stD t) = true := by
  have key : ∀ as bs : List Bead, W.alikeAll (as.map bdD) (bs.map bdD) = true := fun as => by
    induction as with
    | nil => intro bs; cases bs <;> simp [W.alikeAll]
    | cons a as ih =>
      intro bs
      cases bs with
      | nil => simp [W.alikeAll]
      | cons b bs =>
        rw [List.map_cons, List.map_cons, W.alikeAll, ih bs]
        rfl
  have := key s.2 t.2
  simp only [stD, W.alike, W.alikeAll, this, Bool.and_true, Bool.true_and]
theorem alike_sets (cs ds : List Strand) : W.alike (setD cs) (setD ds) = true := by
  have key : ∀ as bs : List Strand, W.alikeAll (as.map stD) (bs.map stD) = true := fun as => by
    induction as with
    | nil => intro bs; cases bs <;> simp [W.alikeAll]
    | cons a as ih =>
      intro bs
      cases bs with
      | nil => simp [W.alikeAll]
      | cons b bs => rw [List.map_cons, List.map_cons, W.alikeAll, ih bs, alike_st]; rfl
  have := key cs ds
  simp only [setD, W.alike, this]
theorem all_sets_alike {css : List (List Strand)} : W.AllAlike (css.map setD) := fun x hx y hy => by
  obtain ⟨a, _, rfl⟩ := List.mem_map.mp hx
  obtain ⟨b, _, rfl⟩ := List.mem_map.mp hy
  exact alike_sets a b
/-- a set of the names whose joints these are -/
structure OfJ (ns : List Str) (cs : List Strand) (js : List D) : Prop where
  form : InForm cs
  good : GoodS cs
  nms : ((beadsOf cs).map Prod.snd).Perm ns
  jts : (jts cs).Perm js
theorem OfJ.same {ns : List Str} (hn : ns.Nodup) {cs ds : List Strand} {js : List D} (h : OfJ ns cs js) (g : OfJ ns ds js) : cs = ds := canonS_same hn h.form g.form h.good g.good h.nms g.nms (h.jts.trans g.jts.symm)
abbrev rowsJ (ns : List Str) : List (List D) := joinF 8 (endsL (sortS ns))
/-- all sets, in order -/
def IsAll (ns : List Str) (L : List D) : Prop := ∃ css : List (List Strand), All2 (OfJ ns) css (rowsJ ns) ∧ L = srtD (css.map setD)
theorem all2_same {ns : List Str} (hn : ns.Nodup) {css dss : List (List Strand)} {ms : List (List D)} (h : All2 (OfJ ns) css ms) : All2 (OfJ ns) dss ms → css = dss := by
  induction h generalizing dss with
  | nil => intro g; cases g; rfl
  | cons a r ih =>
    intro g
    cases g with
    | cons b q => rw [a.same hn b, ih q]
theorem IsAll.same {ns : List Str} (hn : ns.Nodup) {L M : List D} (h : IsAll ns L) (g : IsAll ns M) : L = M := by
  obtain ⟨css, h1, rfl⟩ := h
  obtain ⟨dss, h2, rfl⟩ := g
  rw [all2_same hn h1 h2]
theorem rows_len {ns : List Str} (hl : ns.length ≤ 4) : (rowsJ ns).length = invN (2 * ns.length) := by
  rw [joinF_len (by rw [endsL_len, sortS_len]; omega), endsL_len, sortS_len]
theorem all2_pair {α β : Type} {R : α → β → Prop} {P : β → β → Prop} {Q : α → α → Prop} (k : ∀ a b x y, R a x → R b y → P x y → Q a b) : ∀ {as : List α} {bs : List β}, All2 R as bs → bs.Pairwise P → as.Pairwise Q
  | _, _, .nil, _ => List.Pairwise.nil
  | _, _, .cons a r, h => by
    obtain ⟨h1, h2⟩ := List.pairwise_cons.mp h
    refine List.pairwise_cons.mpr ⟨fun b hb => ?_, all2_pair k r h2⟩
    have : ∀ {as bs}, All2 R as bs → b ∈ as → ∃ y ∈ bs, R b y := fun {as bs} q => by
      induction q with
      | nil => intro h; cases h
      | cons a r ih =>
        intro h
        rcases List.mem_cons.mp h with rfl | h
        · exact ⟨_, List.mem_cons_self, a⟩
        · obtain ⟨y, hy, q⟩ := ih h
          exact ⟨y, List.mem_cons_of_mem _ hy, q⟩
    obtain ⟨y, hy, q⟩ := this r hb
    exact k _ _ _ _ a q (h1 y hy)
theorem all2_left {α β : Type} {R : α → β → Prop} {as : List α} {bs : List β} (h : All2 R as bs) : ∀ a ∈ as, ∃ y ∈ bs, R a y := by
  induction h with
  | nil => intro a h; cases h
  | cons a r ih =>
    intro x hx
    rcases List.mem_cons.mp hx with rfl | hx
    · exact ⟨_, List.mem_cons_self, a⟩
    · obtain ⟨y, hy, q⟩ := ih x hx
      exact ⟨y, List.mem_cons_of_mem _ hy, q⟩
theorem IsAll.len {ns : List Str} (hl : ns.length ≤ 4) {L : List D} (h : IsAll ns L) : L.length = invN (2 * ns.length) := by
  obtain ⟨css, h1, rfl⟩ := h
  rw [(srtD_perm _).length_eq, List.length_map, h1.len, rows_len hl]
theorem IsAll.each {ns : List Str} {L : List D} (h : IsAll ns L) : ∀ d ∈ L, ∃ cs, d = setD cs ∧ InForm cs ∧ GoodS cs ∧ ((beadsOf cs).map Prod.snd).Perm ns := fun d hd => by
  obtain ⟨css, h1, rfl⟩ := h
  obtain ⟨cs, hc, rfl⟩ := List.mem_map.mp (srtD_mem.mp hd)
  obtain ⟨js, _, q⟩ := all2_left h1 cs hc
  exact ⟨cs, rfl, q.form, q.good, q.nms⟩
theorem IsAll.up {ns : List Str} (hn : ns.Nodup) (hl : ns.length ≤ 4) {L : List D} (h : IsAll ns L) : L.Pairwise fun a b => W.dataLt a b = true := by
  obtain ⟨css, h1, rfl⟩ := h
  have hd := joinF_diff (n := 8) (l := endsL (sortS ns)) (by rw [endsL_len, sortS_len]; omega) ((endsL_perm _).nodup_iff.mpr (ends_nodup ((sortS_perm ns).nodup_iff.mpr hn)))
  have nd : (css.map setD).Nodup := by
    refine List.pairwise_map.mpr (all2_pair (Q := fun a b => setD a ≠ setD b) (fun a b x y ra rb hxy e => hxy ?_) h1 hd)
    injection e with e
    have := sts_inj ra.good rb.good e
    subst this
    exact ra.jts.symm.trans rb.jts
  have nd2 : (srtD (css.map setD)).Nodup := (srtD_perm _).nodup_iff.mpr nd
  refine ((srtD_pw (css.map setD)).and nd2).imp_of_mem fun {a b} ha hb ⟨hab, hne⟩ => ?_
  cases q : W.dataLt a b with
  | true => rfl
  | false =>
    refine absurd (leD_anti (all_sets_alike a (srtD_mem.mp ha) b (srtD_mem.mp hb)) hab ?_) hne
    unfold leD
    rw [q]
    rfl

end Sw

open PySem PySem.Spec L2 Sw
namespace Sw
def sp_all_sets : PSp := fun fl ds Q => fl = none ∧ ∃ ns : List Str, ds = [.list (ns.map PyData.str)] ∧ ns.length ≤ 4 ∧ ns.Nodup ∧ (∀ z ∈ ns, Nm z) ∧ ∀ L, IsAll ns L → Q (.fr L) none
abbrev N_all_sets : List Str := ["names", "joints"]
def T_all_sets : PS' := (sRetF (fCB gSortE (qCons (qF (fLc (iAny (qCall sp_all_joints (qAddD (qCons (qVar 0) qNil) []))) (gN 1) tYes' (qCall sp_set_of (qAddD (qCons (qVar 1) qNil) [])) [1])) qNil)))
theorem pure_all_sets (fl : Option (List D)) (ds : List D) (Q : RV → Option (List D) → Prop) (_ : false = true ↔ fl ≠ none) (h : sp_all_sets fl ds Q) : T_all_sets (endsOf false Q) (startE false N_all_sets fl ds) := by
  obtain ⟨rfl, ns, rfl, hl, hn, hm, k⟩ := h
  show T_all_sets _ [SV.dat (.list (ns.map PyData.str)), SV.un]
  unfold T_all_sets
  walk_at "wp"
  refine ⟨rfl, ns, rfl, hl, hn, ?_⟩
  walk_at "wp"
  have hlen := rows_len hl
  have hi := invN_le (n := 2 * ns.length) (by omega)
  refine ⟨by rw [List.length_map]; show (rowsJ ns).length ≤ _; omega, ?_⟩
  refine pLc_inv (fun i acc env => ∃ css : List (List Strand), acc = css.map setD ∧ All2 (OfJ ns) css ((rowsJ ns).take i) ∧ env = [SV.dat (.list (ns.map PyData.str)), SV.un]) ⟨[], rfl, .nil, rfl⟩ ?_ ?_
  · rintro i d hd acc env ⟨css, rfl, hc, rfl⟩ K hK
    have hd : ((rowsJ ns).map fun js => PyData.tuple (srtD js))[i]? = some d := hd
    rw [List.getElem?_map] at hd
    cases q : (rowsJ ns)[i]? with
    | none => rw [q] at hd; cases hd
    | some m =>
      rw [q] at hd
      cases hd
      have J := join_ok hn hl m (List.mem_of_getElem? q)
      walk_at "wp"
      refine ⟨rfl, ns, srtD m, rfl, J.perm (srtD_perm _), hn, hm, by omega, fun cs c1 c2 c3 c4 => ?_⟩
      walk_at "wp"
      refine hK _ _ ⟨css ++ [cs], by rw [List.map_append]; rfl, ?_, rfl⟩
      rw [List.take_add_one, q]
      exact hc.snoc ⟨c1, c2, c3, c4.trans (srtD_perm _)⟩
  · rintro acc env ⟨css, rfl, hc, rfl⟩
    have hc : All2 (OfJ ns) css ((rowsJ ns).take ((rowsJ ns).map fun js => PyData.tuple (srtD js)).length) := hc
    rw [List.length_map, List.take_length] at hc
    have fin : Q (.fr (srtD (css.map setD))) none := k _ ⟨css, hc, rfl⟩
    cases ns with
    | nil =>
      have er : rowsJ [] = [[]] := rfl
      rw [er] at hc
      cases hc with
      | cons a r =>
        cases r
        rename_i cs
        have e1 : beadsOf cs = [] := by
          have := a.nms.length_eq
          rw [List.length_map] at this
          exact List.eq_nil_of_length_eq_zero this
        have e2 : cs = [] := Classical.byContradiction fun z => beads_nil a.good.1 z e1
        subst e2
        have e3 : srtD ([([] : List Strand)].map setD) = [setD []] := by
          unfold srtD
          exact List.mergeSort_singleton _
        rw [e3] at fin
        refine ⟨_, gSortE_one (by rfl), ?_⟩
        exact fin
    | cons z zs =>
      have ok : okSort (css.map setD) = true := by
        refine okSort_of (fun x hx => ?_) all_sets_alike fun x hx => ?_
        · obtain ⟨cs, _, rfl⟩ := List.mem_map.mp hx
          exact (hn_sts 0 cs).okD (by omega)
        · obtain ⟨cs, hcs, rfl⟩ := List.mem_map.mp hx
          obtain ⟨js, _, a⟩ := all2_left hc cs hcs
          cases cs with
          | nil =>
            have := a.nms.length_eq
            simp [beadsOf] at this
          | cons s r => rfl
      exact ⟨_, gSortE_ok ok, fin⟩
def sp_law_bare_names : PSp := fun fl ds Q => fl = none ∧ ∃ cs : List Strand, ds = [.tuple (cs.map stD)] ∧ GoodS cs ∧ Q (.fr ((sortS ((beadsOf cs).map Prod.snd)).map PyData.str)) none
abbrev N_law_bare_names : List Str := ["_law_some", "_law_found", "_law_kind", "_law_beads", "_law_bead"]
def T_law_bare_names : PS' := (sSeq (sAsgF 1 (fLst (qNil)))
  (sSeq (sFor (iAny (qVar 0)) (gT 2 (gsC (gN 2) (gsC (gN 3) gsN))) (sDrop (qMO 1 gExtend (qCons (qF (fLc (iAny (qVar 3)) (gN 4) tYes' (qRepl (qVar 4) "-" "") [4])) qNil))))
  (sRetF (fCB gSortD (qCons (qVar 1) qNil)))))
theorem pure_law_bare_names (fl : Option (List D)) (ds : List D) (Q : RV → Option (List D) → Prop) (_ : false = true ↔ fl ≠ none) (h : sp_law_bare_names fl ds Q) : T_law_bare_names (endsOf false Q) (startE false N_law_bare_names fl ds) := by
  obtain ⟨rfl, cs, rfl, hg, k⟩ := h
  show T_law_bare_names _ [SV.dat (.tuple (cs.map stD)), SV.un, SV.un, SV.un, SV.un]
  unfold T_law_bare_names
  refine sSeq_abs fun R hR => ?_
  walk_at "wp"
  refine ⟨Nat.zero_le _, ?_⟩
  subst hR
  refine cut_seq (fun env => ∃ y2 y3, env = [SV.dat (.tuple (cs.map stD)), SV.own false (((beadsOf cs).map Prod.snd).map PyData.str), y2, y3, SV.un]) ?_ fun nx hnx => ?_
  rotate_left
  · refine sFor_abs fun BB hBB => ?_
    walk_at "wp"
    refine pFor_inv (fun i env => ∃ y2 y3, env = [SV.dat (.tuple (cs.map stD)), SV.own false (((beadsOf (cs.take i)).map Prod.snd).map PyData.str), y2, y3, SV.un]) ⟨_, _, rfl⟩ ?_ ?_
    · rintro i d hd env ⟨y2, y3, rfl⟩ K hK
      rw [List.getElem?_map] at hd
      cases q : cs[i]? with
      | none => rw [q] at hd; cases hd
      | some s =>
        rw [q] at hd
        cases hd
        have hs := List.mem_of_getElem? q
        have hnm := hg.nm hs
        have e : stD s = .tuple [kindD s.1, .tuple (s.2.map bdD)] := rfl
        rw [e]
        subst hBB
        simp only [gT, gsC, gsN, gN, ex_tupv, ex_consv, itemsOf_t, seqOf_t, ex_some, List.set_cons_succ, List.set_cons_zero, List.length_cons, List.length_nil, true_and, eq_self, Nat.reduceAdd, bindS, mapS]
        refine ⟨by decide, by decide, ?_⟩
        walk_at "wp"
        refine ⟨by rw [List.length_map]; have := hg.len hs; omega, ?_⟩
        refine map_comp (f := fun b => PyData.str b.2) (fun b hb K hK => ?_) ?_
        · have hbn := hnm b hb
          walk_at "wp"
          simp only [qRepl]
          walk_at "wp"
          refine ⟨_, rfl, rep_ok b hbn, ?_⟩
          rw [rep_bd b hbn]
          exact hK
        walk_at "wp"
        have et : beadsOf (cs.take (i + 1)) = beadsOf (cs.take i) ++ s.2 := by
          rw [List.take_add_one, q, beadsOf_app]
          congr 1
          show s.2 ++ [] = s.2
          exact List.append_nil _
        have lb : (beadsOf (cs.take (i + 1))).length ≤ 1000 := by
          have : (beadsOf cs) = beadsOf (cs.take (i + 1)) ++ beadsOf (cs.drop (i + 1)) := by rw [← beadsOf_app, List.take_append_drop]
          have h2 := hg.2.1
          rw [this, List.length_append] at h2
          omega
        rw [et, List.length_append] at lb
        refine ⟨?_, hK _ ⟨SV.dat (kindD s.1), SV.dat (.tuple (s.2.map bdD)), ?_⟩⟩
        · rw [List.length_map, List.length_map, List.length_map, sizeLine_eq]
          omega
        · rw [et, List.map_append, List.map_append, List.map_map (f := Prod.snd) (g := PyData.str) (l := s.2)]
          rfl
    · rintro env ⟨y2, y3, rfl⟩
      rw [List.length_map, List.take_length]
      exact hnx _ ⟨y2, y3, rfl⟩
  rintro env ⟨y2, y3, rfl⟩
  walk_at "wp"
  exact k

end Sw

open PySem PySem.Spec L2 Sw
namespace Sw
/-! law_59 level 16 -/
abbrev N_law_59 : List Str := ["_law_script", "_law_flow_here", "_law_many", "_law_names_here", "_law_handed", "_law_found", "_law_due", "_law_k", "_law_some", "_law_kept"]
def T_law_59 : PS' := (sSeq (sAsg 2 (qCallL sp_law_pick 1 (qAddD (qCons (qC (.int 3)) qNil) [])))
  (sSeq (sIf (qTest (qOp (gEq false) (qCallL sp_law_pick 1 (qAddD (qCons (qC (.int 4)) qNil) [])) (qC (.int 0)))) (sAsg 2 (qOp gAdd (qC (.int 3)) (qCB gInt1 (qCons (qOp (gEq false) (qCallL sp_law_pick 1 (qAddD (qCons (qC (.int 4)) qNil) [])) (qC (.int 0))) qNil)))) sNil)
  (sSeq (sAsg 3 (qCallL sp_law_names 1 (qAddD (qCons (qVar 2) qNil) [])))
  (sSeq (sAsg 4 (qF (fCB gListF (qCons (qVar 3) qNil))))
  (sSeq (sAsgF 5 (fCall sp_all_sets (qAddD (qCons (qVar 4) qNil) [])))
  (sSeq (sIf (tOr' (qTest (qOp (gEq true) (qVar 4) (qVar 3))) (tOr' (tNot' (qTest (qIsi .list (qVar 5)))) (qTest (qOp (gEq true) (qCB gLen (qCons (qVar 5) qNil)) (qOp gIx (qF (fLst (qCons (qC (.int 1)) (qCons (qC (.int 2)) (qCons (qC (.int 10)) (qCons (qC (.int 76)) (qCons (qC (.int 764)) qNil))))))) (qVar 2)))))) (sRet (qC (.bool false))) sNil)
  (sSeq (sAsg 6 (qF (fCB gSortD (qCons (qVar 3) qNil))))
  (sSeq (sForOE 5 (gT 2 (gsC (gN 7) (gsC (gN 8) gsN))) (sSeq (sIf (tOr' (tNot' (qTest (qIsi .tuple (qVar 8)))) (tOr' (tNot' (qTest (qCall sp_law_alike (qAddD (qCons (qVar 8) (qCons (qCall sp_law_canon_2 (qAddD (qCons (qVar 8) qNil) [])) qNil)) [])))) (qTest (qOp (gEq true) (qCall sp_law_bare_names (qAddD (qCons (qVar 8) qNil) [])) (qVar 6))))) (sRet (qC (.bool false))) sNil)
  (sIf (tAnd' (qTest (qOp (gI (gCmp fun i j => decide (j < i))) (qVar 7) (qC (.int 0)))) (tNot' (qTest (qOp gLtD (qOp gIx (qVar 5) (qOp (gI dSub) (qVar 7) (qC (.int 1)))) (qVar 8))))) (sRet (qC (.bool false))) sNil)))
  (sSeq (sAsg 9 (qF (fCB gListF (qCons (qVar 5) qNil))))
  (sSeq (sDrop (qMO0 5 gClear))
  (sRet (qOr (qOp (gI (gCmp fun i j => decide (j < i))) (qVar 2) (qC (.int 3))) (qOp (gEq false) (qCall sp_all_sets (qAddD (qCons (qVar 3) qNil) [])) (qVar 9))))))))))))))
theorem pure_law_59 (ns : List Int) (_ : ns.length ≤ 63) : T_law_59 (endsOf false fun rv _ => rv = .dt (.bool true)) (SV.un :: SV.own false (flow0 ns) :: List.replicate (N_law_59.length - 2) SV.un) := by
  have hf := flOk0 ns
  generalize flow0 ns = fd at hf
  show T_law_59 _ [SV.un, SV.own false fd, SV.un, SV.un, SV.un, SV.un, SV.un, SV.un, SV.un, SV.un]
  unfold T_law_59
  refine sSeq_abs fun R hR => ?_
  walk_at "wp"
  refine ⟨fd, 3, rfl, hf, rfl, by omega, by omega, fun m fd2 m0 m1 hf2 => ?_⟩
  walk_at "wp"
  subst hR
  refine cut_seq (fun env => ∃ (n : Nat) (fd : List D), n ≤ 4 ∧ FlOk fd ∧ env = [SV.un, SV.own false fd, SV.dat (.int n), SV.un, SV.un, SV.un, SV.un, SV.un, SV.un, SV.un]) ?_ fun nx hnx => ?_
  rotate_left
  · walk_at "wp"
    refine ⟨fd2, 4, rfl, hf2, rfl, by omega, by omega, fun d fd3 d0 d1 hf3 => ?_⟩
    walk_at "wp"
    split
    · refine ⟨fd3, 4, rfl, hf3, rfl, by omega, by omega, fun n fd4 n0 n1 hf4 => ?_⟩
      walk_at "wp"
      by_cases hz : n = 0
      · subst hz
        exact ⟨_, rfl, _, rfl, hnx _ ⟨4, fd4, by omega, hf4, rfl⟩⟩
      · have e : (n == 0) = false := by simpa using hz
        rw [e]
        exact ⟨_, rfl, _, rfl, hnx _ ⟨3, fd4, by omega, hf4, rfl⟩⟩
    · exact hnx _ ⟨m.toNat, fd3, by omega, hf3, by rw [Int.toNat_of_nonneg m0]⟩
  rintro env ⟨n, fd3, hn4, hf3, rfl⟩
  refine sSeq_abs fun R hR => ?_
  walk_at "wp"
  refine ⟨fd3, n, rfl, hf3, rfl, by omega, by omega, fun zs fd4 znd znm zl hf4 => ?_⟩
  walk_at "wp"
  have zl : zs.length = n := by omega
  subst hR
  refine sSeq_abs fun R hR => ?_
  walk_at "wp"
  subst hR
  refine sSeq_abs fun R hR => ?_
  walk_at "wp"
  refine ⟨rfl, zs, rfl, by omega, znd, znm, fun L hL => ?_⟩
  walk_at "wp"
  have hLl := hL.len (by omega)
  subst hR
  refine sSeq_abs fun R hR => ?_
  walk_at "wp"
  have hh : Hn 1 (.list (zs.map PyData.str)) := fun d hd => by
    obtain ⟨z, _, rfl⟩ := List.mem_map.mp hd
    trivial
  refine ne_hn hh hh (by omega) (fun _ => ?_) (fun e => absurd rfl e)
  refine ⟨_, rfl, ?_⟩
  rw [if_neg (by decide), if_neg (by decide)]
  have ht : atI [PyData.int 1, PyData.int 2, PyData.int 10, PyData.int 76, PyData.int 764] (n : Int) = some (.int (L.length : Int)) := by
    rw [hLl, zl]
    have c : n = 0 ∨ n = 1 ∨ n = 2 ∨ n = 3 ∨ n = 4 := by omega
    rcases c with rfl | rfl | rfl | rfl | rfl <;> rfl
  refine ⟨sizeL (by decide), _, ht, _, gNe_ii, _, rfl, ?_⟩
  rw [if_neg (by simp)]
  subst hR
  refine sSeq_abs fun R hR => ?_
  walk_at "wp"
  subst hR
  refine cut_seq (fun env => ∃ y7 y8, env = [SV.un, SV.own false fd4, SV.dat (.int n), SV.dat (.list (zs.map PyData.str)), SV.dat (.list (zs.map PyData.str)), SV.own false L, SV.dat (.list ((sortS zs).map PyData.str)), y7, y8, SV.un]) ?_ fun nx hnx => ?_
  rotate_left
  · unfold sForOE
    refine ⟨L, rfl, ?_⟩
    refine pFor_inv (fun i env => ∃ y7 y8, env = [SV.un, SV.own false fd4, SV.dat (.int n), SV.dat (.list (zs.map PyData.str)), SV.dat (.list (zs.map PyData.str)), SV.own true L, SV.dat (.list ((sortS zs).map PyData.str)), y7, y8, SV.un]) ⟨_, _, rfl⟩ ?_ ?_
    · rintro i d hd env ⟨y7, y8, rfl⟩ K hK
      rw [enD_get] at hd
      cases q : L[i]? with
      | none => rw [q] at hd; cases hd
      | some x =>
        rw [q] at hd
        cases hd
        have hx := List.mem_of_getElem? q
        obtain ⟨cs, rfl, c1, c2, c3⟩ := hL.each x hx
        unfold gO endsO
        walk_at "wp"
        have hs : Hn 1 (.list ((sortS zs).map PyData.str)) := fun d hd => by
          obtain ⟨z, _, rfl⟩ := List.mem_map.mp hd
          trivial
        have fin : ∀ y7, K [SV.un, SV.own false fd4, SV.dat (.int n), SV.dat (.list (zs.map PyData.str)), SV.dat (.list (zs.map PyData.str)), SV.own true L, SV.dat (.list ((sortS zs).map PyData.str)), y7, SV.dat (setD cs), SV.un] := fun y7 => hK _ ⟨_, _, rfl⟩
        rw [if_neg (by decide)]
        refine ⟨rfl, cs, rfl, c2, c1, c3.nodup_iff.mpr znd, ?_⟩
        refine ⟨rfl, _, rfl, okA_sts 8 c2, ?_⟩
        refine ⟨_, rfl, ?_⟩
        rw [if_neg (by decide)]
        refine ⟨rfl, cs, rfl, c2, ?_⟩
        rw [sortS_congr c3]
        refine ne_hn hs hs (by omega) (fun _ => ?_) (fun e => absurd rfl e)
        refine ⟨_, rfl, ?_⟩
        rw [if_neg (by decide)]
        by_cases hi : 0 < i
        · rw [if_pos (by omega)]
          have hil : i < L.length := (List.getElem?_eq_some_iff.mp q).1
          obtain ⟨x', hx'⟩ : ∃ x', L[i - 1]? = some x' := ⟨_, List.getElem?_eq_getElem (by omega)⟩
          have e1 : (((0 + i : Nat) : Int) - 1) = ((i - 1 : Nat) : Int) := by omega
          rw [e1]
          refine ⟨x', atI_nat hx', ?_⟩
          obtain ⟨ds, rfl, _⟩ := hL.each x' (List.mem_of_getElem? hx')
          have lt : W.dataLt (setD ds) (setD cs) = true := by
            have h1 := List.pairwise_iff_getElem.mp (hL.up znd (by omega)) (i - 1) i (by omega) hil (by omega)
            rw [(List.getElem?_eq_some_iff.mp hx').2, (List.getElem?_eq_some_iff.mp q).2] at h1
            exact h1
          have ok : cmpOk (setD ds) (setD cs) = true := by
            unfold cmpOk
            rw [(hn_sts 0 ds).okD (by omega), (hn_sts 0 cs).okD (by omega), alike_sets]
            rfl
          refine ⟨.bool true, ?_, _, rfl, ?_⟩
          · show (if cmpOk (setD ds) (setD cs) = true then some (PyData.bool (W.dataLt (setD ds) (setD cs))) else none) = _
            rw [if_pos ok, lt]
          · rw [if_neg (by decide)]
            exact fin _
        · rw [if_neg (by omega)]
          exact fin _
    · rintro env ⟨y7, y8, rfl⟩
      unfold endsO
      walk_at "wp"
      exact hnx _ ⟨y7, y8, rfl⟩
  rintro env ⟨y7, y8, rfl⟩
  refine sSeq_abs fun R hR => ?_
  walk_at "wp"
  subst hR
  refine sSeq_abs fun R hR => ?_
  walk_at "wp"
  subst hR
  walk_at "wp"
  split
  · trivial
  refine ⟨rfl, zs, rfl, by omega, znd, znm, fun M hM => ?_⟩
  have e := hM.same znd hL
  subst e
  have hn : Hn 4 (.list M) := fun d hd => by
    obtain ⟨cs, rfl, _⟩ := hM.each d hd
    exact hn_sts 0 cs
  refine eq_hn hn hn (by omega) (fun _ => rfl) (fun e => absurd rfl e)

end Sw

set_option maxHeartbeats 0
namespace SwLaw
open PySem PySem.Spec PyProof.Rows L2 Sw
section
variable {P : Program} {w : World} {K : PySem.W.Frag} {mg : Str → Option Value} {base : Heap} {f : Addr} {fd : FuncData}
abbrev M_name_of : List Str := ["bead"]
theorem sc_name_of : FnScope M_name_of ["bead"] (defScope s_name_of) := ⟨rfl, rfl, rfl, by decide +kernel, rfl, by decide +kernel, by decide +kernel⟩
theorem len_name_of : ∀ fl ds Q, sp_name_of fl ds Q → ds.length + (if false = true then 1 else 0) = 1 := by
  intro fl ds Q h
  unfold sp_name_of at h
  grind
theorem ok_name_of (bt : Bt mg) (F : FunD K "name_of" "name_of" (defArgs s_name_of) (defBody s_name_of) (defScope s_name_of) [] [] f fd) : FnOk P w K mg base CX0 1 f fd ["bead"] (spOf ⟨K, P, w⟩ false sp_name_of) :=
  defD_ok false F sc_name_of len_name_of (by decide) fun cdv A outer s H E hr => ⟨T_name_of, (s_cons (s_if (t_cmp (op_eqP hr.units) l_eq (q_ix (qv 0) (q_int)) (q_str) (nomark _)) (s_one (s_ret (q_sl (qv 0) (o_some (q_int)) o_none))) s_nil)
    (s_one (s_ret (qv 0)))), pure_ren rfl pure_name_of⟩
theorem cal_name_of (bt : Bt mg) (hm : mg "name_of" = some (.ref f)) (F : FunD K "name_of" "name_of" (defArgs s_name_of) (defBody s_name_of) (defScope s_name_of) [] [] f fd) : Cal P w K mg base 1 "name_of" false ["bead"] [] sp_name_of := ⟨f, fd, [], [], ok_name_of bt F, hm, F.kp, F.bindsN (ps := ["bead"]) fun _ _ _ _ _ _ us hl => match us, hl with | [_], _ => rfl, .nil, consts_nil⟩
abbrev M_mirrored : List Str := ["bead"]
theorem sc_mirrored : FnScope M_mirrored ["bead"] (defScope s_mirrored) := ⟨rfl, rfl, rfl, by decide +kernel, rfl, by decide +kernel, by decide +kernel⟩
theorem len_mirrored : ∀ fl ds Q, sp_mirrored fl ds Q → ds.length + (if false = true then 1 else 0) = 1 := by
  intro fl ds Q h
  unfold sp_mirrored at h
  grind
theorem ok_mirrored (bt : Bt mg) (F : FunD K "mirrored" "mirrored" (defArgs s_mirrored) (defBody s_mirrored) (defScope s_mirrored) [] [] f fd) : FnOk P w K mg base CX0 1 f fd ["bead"] (spOf ⟨K, P, w⟩ false sp_mirrored) :=
  defD_ok false F sc_mirrored len_mirrored (by decide) fun cdv A outer s H E hr => ⟨T_mirrored, (s_cons (s_if (t_cmp (op_eqP hr.units) l_eq (q_ix (qv 0) (q_int)) (q_str) (nomark _)) (s_one (s_ret (q_sl (qv 0) (o_some (q_int)) o_none))) s_nil)
    (s_one (s_ret (q_op op_addA l_add (q_str) (qv 0))))), pure_ren rfl pure_mirrored⟩
theorem cal_mirrored (bt : Bt mg) (hm : mg "mirrored" = some (.ref f)) (F : FunD K "mirrored" "mirrored" (defArgs s_mirrored) (defBody s_mirrored) (defScope s_mirrored) [] [] f fd) : Cal P w K mg base 1 "mirrored" false ["bead"] [] sp_mirrored := ⟨f, fd, [], [], ok_mirrored bt F, hm, F.kp, F.bindsN (ps := ["bead"]) fun _ _ _ _ _ _ us hl => match us, hl with | [_], _ => rfl, .nil, consts_nil⟩
abbrev M_mirrored_row : List Str := ["beads", "bead"]
theorem sc_mirrored_row : FnScope M_mirrored_row ["beads"] (defScope s_mirrored_row) := ⟨rfl, rfl, rfl, by decide +kernel, rfl, by decide +kernel, by decide +kernel⟩
theorem len_mirrored_row : ∀ fl ds Q, sp_mirrored_row fl ds Q → ds.length + (if false = true then 1 else 0) = 1 := by
  intro fl ds Q h
  unfold sp_mirrored_row at h
  grind
theorem ok_mirrored_row (bt : Bt mg) (c_mirrored : Cal P w K mg base 1 "mirrored" false ["bead"] [] sp_mirrored) (F : FunD K "mirrored_row" "mirrored_row" (defArgs s_mirrored_row) (defBody s_mirrored_row) (defScope s_mirrored_row) [] [] f fd) : FnOk P w K mg base CX0 2 f fd ["beads"] (spOf ⟨K, P, w⟩ false sp_mirrored_row) :=
  defD_ok false F sc_mirrored_row len_mirrored_row (by decide) fun cdv A outer s H E hr => ⟨T_mirrored_row, (s_one (s_ret (q_callTy l_tuple call_tuple_of (by rfl) (bt "tuple" (by decide)) (by decide +kernel) (qa_cons (EF.ev (f_lc (own := [("bead", 1)]) (S := [1]) rfl sc_mirrored_row.nd (blkOk_by (N := M_mirrored_row) (sc := defScope s_mirrored_row) (by decide +kernel)) (i_any (q_rev (qv 0))) (fun _ _ _ _ _ => g_name sc_mirrored_row.nd rfl (by first | exact Or.inl rfl | exact Or.inr rfl)) (fun _ _ _ _ _ => ts_nil) (fun _ _ _ _ _ => q_cal c_mirrored hr (by first | decide | exact Nat.le_refl _ | (simp only [Nat.add_eq]; omega)) (by rfl) (qa_cons (qv 1) qa_nil)))) qa_nil)))), pure_ren rfl pure_mirrored_row⟩
theorem cal_mirrored_row (bt : Bt mg) (c_mirrored : Cal P w K mg base 1 "mirrored" false ["bead"] [] sp_mirrored) (hm : mg "mirrored_row" = some (.ref f)) (F : FunD K "mirrored_row" "mirrored_row" (defArgs s_mirrored_row) (defBody s_mirrored_row) (defScope s_mirrored_row) [] [] f fd) : Cal P w K mg base 2 "mirrored_row" false ["beads"] [] sp_mirrored_row := ⟨f, fd, [], [], ok_mirrored_row bt c_mirrored F, hm, F.kp, F.bindsN (ps := ["beads"]) fun _ _ _ _ _ _ us hl => match us, hl with | [_], _ => rfl, .nil, consts_nil⟩
abbrev M_open_canon : List Str := ["beads"]
theorem sc_open_canon : FnScope M_open_canon ["beads"] (defScope s_open_canon) := ⟨rfl, rfl, rfl, by decide +kernel, rfl, by decide +kernel, by decide +kernel⟩
theorem len_open_canon : ∀ fl ds Q, sp_open_canon fl ds Q → ds.length + (if false = true then 1 else 0) = 1 := by
  intro fl ds Q h
  unfold sp_open_canon at h
  grind
theorem ok_open_canon (bt : Bt mg) (c_name_of : Cal P w K mg base 1 "name_of" false ["bead"] [] sp_name_of) (c_mirrored_row : Cal P w K mg base 2 "mirrored_row" false ["beads"] [] sp_mirrored_row) (F : FunD K "open_canon" "open_canon" (defArgs s_open_canon) (defBody s_open_canon) (defScope s_open_canon) [] [] f fd) : FnOk P w K mg base CX0 3 f fd ["beads"] (spOf ⟨K, P, w⟩ false sp_open_canon) :=
  defD_ok false F sc_open_canon len_open_canon (by decide) fun cdv A outer s H E hr => ⟨T_open_canon, (s_cons (s_if (t_cmp (op_eqP hr.units) l_eq (q_callB l_len call_len (by rfl) (bt "len" (by decide)) (by decide +kernel) (qa_cons (qv 0) qa_nil)) (q_int) (nomark _)) (s_one (s_ret (q_tup (qa_cons (q_cal c_name_of hr (by first | decide | exact Nat.le_refl _ | (simp only [Nat.add_eq]; omega)) (by rfl) (qa_cons (q_ix (qv 0) (q_int)) qa_nil)) qa_nil)))) s_nil)
    (s_cons (s_if (t_cmp op_ltA l_lt (q_cal c_name_of hr (by first | decide | exact Nat.le_refl _ | (simp only [Nat.add_eq]; omega)) (by rfl) (qa_cons (q_ix (qv 0) (q_neg (q_int))) qa_nil)) (q_cal c_name_of hr (by first | decide | exact Nat.le_refl _ | (simp only [Nat.add_eq]; omega)) (by rfl) (qa_cons (q_ix (qv 0) (q_int)) qa_nil)) (nomark _)) (s_one (s_ret (q_cal c_mirrored_row hr (by first | decide | exact Nat.le_refl _ | (simp only [Nat.add_eq]; omega)) (by rfl) (qa_cons (qv 0) qa_nil)))) s_nil)
    (s_one (s_ret (q_callTy l_tuple call_tuple_of (by rfl) (bt "tuple" (by decide)) (by decide +kernel) (qa_cons (qv 0) qa_nil)))))), pure_ren rfl pure_open_canon⟩
theorem cal_open_canon (bt : Bt mg) (c_name_of : Cal P w K mg base 1 "name_of" false ["bead"] [] sp_name_of) (c_mirrored_row : Cal P w K mg base 2 "mirrored_row" false ["beads"] [] sp_mirrored_row) (hm : mg "open_canon" = some (.ref f)) (F : FunD K "open_canon" "open_canon" (defArgs s_open_canon) (defBody s_open_canon) (defScope s_open_canon) [] [] f fd) : Cal P w K mg base 3 "open_canon" false ["beads"] [] sp_open_canon := ⟨f, fd, [], [], ok_open_canon bt c_name_of c_mirrored_row F, hm, F.kp, F.bindsN (ps := ["beads"]) fun _ _ _ _ _ _ us hl => match us, hl with | [_], _ => rfl, .nil, consts_nil⟩
abbrev M_ring_canon : List Str := ["beads", "names", "at", "begun", "turned", "bead"]
theorem sc_ring_canon : FnScope M_ring_canon ["beads"] (defScope s_ring_canon) := ⟨rfl, rfl, rfl, by decide +kernel, rfl, by decide +kernel, by decide +kernel⟩
theorem len_ring_canon : ∀ fl ds Q, sp_ring_canon fl ds Q → ds.length + (if false = true then 1 else 0) = 1 := by
  intro fl ds Q h
  unfold sp_ring_canon at h
  grind
theorem ok_ring_canon (bt : Bt mg) (c_name_of : Cal P w K mg base 1 "name_of" false ["bead"] [] sp_name_of) (c_mirrored_row : Cal P w K mg base 2 "mirrored_row" false ["beads"] [] sp_mirrored_row) (F : FunD K "ring_canon" "ring_canon" (defArgs s_ring_canon) (defBody s_ring_canon) (defScope s_ring_canon) [] [] f fd) : FnOk P w K mg base CX0 3 f fd ["beads"] (spOf ⟨K, P, w⟩ false sp_ring_canon) :=
  defD_ok false F sc_ring_canon len_ring_canon (by decide) fun cdv A outer s H E hr => ⟨T_ring_canon, (s_cons (s_setLc (i := 1) (own := [("bead", 5)]) (S := [5]) rfl sc_ring_canon.nd rfl rfl (sw_true rfl rfl rfl (by decide +kernel)) (blkOk_by (N := M_ring_canon) (sc := defScope s_ring_canon) (by decide +kernel)) (i_any (qv 0)) (fun _ _ _ _ _ => g_name sc_ring_canon.nd rfl (by first | exact Or.inl rfl | exact Or.inr rfl)) (fun _ _ _ _ _ => ts_nil) (fun _ _ _ _ _ => q_cal c_name_of hr (by first | decide | exact Nat.le_refl _ | (simp only [Nat.add_eq]; omega)) (by rfl) (qa_cons (qv 5) qa_nil)))
    (s_cons (s_set (i := 2) sc_ring_canon.nd rfl (by first | exact Or.inl rfl | exact Or.inr rfl) (q_vm l_index PySem.F.plainAttrs_list PySem.F.slot_list_index PySem.F.type_list_index (mt_indexD (roomU hr)) (qv 1) (qa_cons (q_callB l_bestL (call_minL rfl hr.units) (by rfl) (bt "min" (by decide)) (by decide +kernel) (qa_cons (qv 1) qa_nil)) qa_nil)))
    (s_cons (s_set (i := 3) sc_ring_canon.nd rfl (by first | exact Or.inl rfl | exact Or.inr rfl) (q_op op_addA l_add (q_callTy l_tuple call_tuple_of (by rfl) (bt "tuple" (by decide)) (by decide +kernel) (qa_cons (q_sl (qv 0) (o_some (qv 2)) o_none) qa_nil)) (q_callTy l_tuple call_tuple_of (by rfl) (bt "tuple" (by decide)) (by decide +kernel) (qa_cons (q_sl (qv 0) o_none (o_some (qv 2))) qa_nil))))
    (s_cons (s_if (t_cmp (op_neP hr.units) l_eq (q_ix (q_ix (qv 3) (q_int)) (q_int)) (q_str) (nomark _)) (s_one (s_ret (qv 3))) s_nil)
    (s_cons (s_set (i := 4) sc_ring_canon.nd rfl (by first | exact Or.inl rfl | exact Or.inr rfl) (q_cal c_mirrored_row hr (by first | decide | exact Nat.le_refl _ | (simp only [Nat.add_eq]; omega)) (by rfl) (qa_cons (qv 3) qa_nil)))
    (s_one (s_ret (q_op op_addA l_add (q_sl (qv 4) (o_some (q_neg (q_int))) o_none) (q_sl (qv 4) o_none (o_some (q_neg (q_int)))))))))))), pure_ren rfl pure_ring_canon⟩
theorem cal_ring_canon (bt : Bt mg) (c_name_of : Cal P w K mg base 1 "name_of" false ["bead"] [] sp_name_of) (c_mirrored_row : Cal P w K mg base 2 "mirrored_row" false ["beads"] [] sp_mirrored_row) (hm : mg "ring_canon" = some (.ref f)) (F : FunD K "ring_canon" "ring_canon" (defArgs s_ring_canon) (defBody s_ring_canon) (defScope s_ring_canon) [] [] f fd) : Cal P w K mg base 3 "ring_canon" false ["beads"] [] sp_ring_canon := ⟨f, fd, [], [], ok_ring_canon bt c_name_of c_mirrored_row F, hm, F.kp, F.bindsN (ps := ["beads"]) fun _ _ _ _ _ _ us hl => match us, hl with | [_], _ => rfl, .nil, consts_nil⟩
abbrev M_first_name : List Str := ["beads"]
theorem sc_first_name : FnScope M_first_name ["beads"] (defScope s_first_name) := ⟨rfl, rfl, rfl, by decide +kernel, rfl, by decide +kernel, by decide +kernel⟩
theorem len_first_name : ∀ fl ds Q, sp_first_name fl ds Q → ds.length + (if false = true then 1 else 0) = 1 := by
  intro fl ds Q h
  unfold sp_first_name at h
  grind
theorem ok_first_name (bt : Bt mg) (c_name_of : Cal P w K mg base 1 "name_of" false ["bead"] [] sp_name_of) (F : FunD K "first_name" "first_name" (defArgs s_first_name) (defBody s_first_name) (defScope s_first_name) [] [] f fd) : FnOk P w K mg base CX0 2 f fd ["beads"] (spOf ⟨K, P, w⟩ false sp_first_name) :=
  defD_ok false F sc_first_name len_first_name (by decide) fun cdv A outer s H E hr => ⟨T_first_name, (s_one (s_ret (q_cal c_name_of hr (by first | decide | exact Nat.le_refl _ | (simp only [Nat.add_eq]; omega)) (by rfl) (qa_cons (q_ix (qv 0) (q_int)) qa_nil)))), pure_ren rfl pure_first_name⟩
theorem cal_first_name (bt : Bt mg) (c_name_of : Cal P w K mg base 1 "name_of" false ["bead"] [] sp_name_of) (hm : mg "first_name" = some (.ref f)) (F : FunD K "first_name" "first_name" (defArgs s_first_name) (defBody s_first_name) (defScope s_first_name) [] [] f fd) : Cal P w K mg base 2 "first_name" false ["beads"] [] sp_first_name := ⟨f, fd, [], [], ok_first_name bt c_name_of F, hm, F.kp, F.bindsN (ps := ["beads"]) fun _ _ _ _ _ _ us hl => match us, hl with | [_], _ => rfl, .nil, consts_nil⟩
abbrev M_canon : List Str := ["some", "opens", "rings", "told", "kind", "beads"]
theorem sc_canon : FnScope M_canon ["some"] (defScope s_canon) := ⟨rfl, rfl, rfl, by decide +kernel, rfl, by decide +kernel, by decide +kernel⟩
theorem len_canon : ∀ fl ds Q, sp_canon fl ds Q → ds.length + (if false = true then 1 else 0) = 1 := by
  intro fl ds Q h
  unfold sp_canon at h
  grind
theorem ok_canon (bt : Bt mg) (c_open_canon : Cal P w K mg base 3 "open_canon" false ["beads"] [] sp_open_canon) (c_ring_canon : Cal P w K mg base 3 "ring_canon" false ["beads"] [] sp_ring_canon) (c_first_name : Cal P w K mg base 2 "first_name" false ["beads"] [] sp_first_name) (F : FunD K "canon" "canon" (defArgs s_canon) (defBody s_canon) (defScope s_canon) [] [] f fd) : FnOk P w K mg base CX0 4 f fd ["some"] (spOf ⟨K, P, w⟩ false sp_canon) :=
  defD_ok false F sc_canon len_canon (by decide) fun cdv A outer s H E hr => ⟨T_canon, (s_cons (s_setLc (i := 1) (own := [("kind", 4), ("beads", 5)]) (S := [4, 5]) rfl sc_canon.nd rfl rfl (sw_true rfl rfl rfl (by decide +kernel)) (blkOk_by (N := M_canon) (sc := defScope s_canon) (by decide +kernel)) (i_any (qv 0)) (fun _ _ _ _ _ => g_tup rfl (gs_cons (g_name sc_canon.nd rfl (by first | exact Or.inl rfl | exact Or.inr rfl)) (gs_cons (g_name sc_canon.nd rfl (by first | exact Or.inl rfl | exact Or.inr rfl)) gs_nil))) (fun _ _ _ _ _ => (ts_one (t_cmp (op_eqP hr.units) l_eq (qv 4) (q_str) (nomark _)))) (fun _ _ _ _ _ => q_cal c_open_canon hr (by first | decide | exact Nat.le_refl _ | (simp only [Nat.add_eq]; omega)) (by rfl) (qa_cons (qv 5) qa_nil)))
    (s_cons (s_setLc (i := 2) (own := [("kind", 4), ("beads", 5)]) (S := [4, 5]) rfl sc_canon.nd rfl rfl (sw_true rfl rfl rfl (by decide +kernel)) (blkOk_by (N := M_canon) (sc := defScope s_canon) (by decide +kernel)) (i_any (qv 0)) (fun _ _ _ _ _ => g_tup rfl (gs_cons (g_name sc_canon.nd rfl (by first | exact Or.inl rfl | exact Or.inr rfl)) (gs_cons (g_name sc_canon.nd rfl (by first | exact Or.inl rfl | exact Or.inr rfl)) gs_nil))) (fun _ _ _ _ _ => (ts_one (t_cmp (op_eqP hr.units) l_eq (qv 4) (q_str) (nomark _)))) (fun _ _ _ _ _ => q_cal c_ring_canon hr (by first | decide | exact Nat.le_refl _ | (simp only [Nat.add_eq]; omega)) (by rfl) (qa_cons (qv 5) qa_nil)))
    (s_cons (s_setLc (i := 3) (own := [("beads", 5)]) (S := [5]) rfl sc_canon.nd rfl rfl (sw_true rfl rfl rfl (by decide +kernel)) (blkOk_by (N := M_canon) (sc := defScope s_canon) (by decide +kernel)) (i_any (EF.ev (f_sortK c_first_name hr (by first | decide | exact Nat.le_refl _ | (simp only [Nat.add_eq]; omega)) (by rfl) (by rfl) (bt "sorted" (by decide)) (qv 1)))) (fun _ _ _ _ _ => g_name sc_canon.nd rfl (by first | exact Or.inl rfl | exact Or.inr rfl)) (fun _ _ _ _ _ => ts_nil) (fun _ _ _ _ _ => q_tup (qa_cons (q_str) (qa_cons (qv 5) qa_nil))))
    (s_one (s_ret (q_callTy l_tuple call_tuple_of (by rfl) (bt "tuple" (by decide)) (by decide +kernel) (qa_cons (q_op op_addA l_add (qv 3) (EF.ev (f_lc (own := [("beads", 5)]) (S := [5]) rfl sc_canon.nd (blkOk_by (N := M_canon) (sc := defScope s_canon) (by decide +kernel)) (i_any (EF.ev (f_sortK c_first_name hr (by first | decide | exact Nat.le_refl _ | (simp only [Nat.add_eq]; omega)) (by rfl) (by rfl) (bt "sorted" (by decide)) (qv 2)))) (fun _ _ _ _ _ => g_name sc_canon.nd rfl (by first | exact Or.inl rfl | exact Or.inr rfl)) (fun _ _ _ _ _ => ts_nil) (fun _ _ _ _ _ => q_tup (qa_cons (q_str) (qa_cons (qv 5) qa_nil)))))) qa_nil))))))), pure_ren rfl pure_canon⟩
theorem cal_canon (bt : Bt mg) (c_open_canon : Cal P w K mg base 3 "open_canon" false ["beads"] [] sp_open_canon) (c_ring_canon : Cal P w K mg base 3 "ring_canon" false ["beads"] [] sp_ring_canon) (c_first_name : Cal P w K mg base 2 "first_name" false ["beads"] [] sp_first_name) (hm : mg "canon" = some (.ref f)) (F : FunD K "canon" "canon" (defArgs s_canon) (defBody s_canon) (defScope s_canon) [] [] f fd) : Cal P w K mg base 4 "canon" false ["some"] [] sp_canon := ⟨f, fd, [], [], ok_canon bt c_open_canon c_ring_canon c_first_name F, hm, F.kp, F.bindsN (ps := ["some"]) fun _ _ _ _ _ _ us hl => match us, hl with | [_], _ => rfl, .nil, consts_nil⟩
abbrev M_partners : List Str := ["joints", "found", "joint"]
theorem sc_partners : FnScope M_partners ["joints"] (defScope s_partners) := ⟨rfl, rfl, rfl, by decide +kernel, rfl, by decide +kernel, by decide +kernel⟩
theorem len_partners : ∀ fl ds Q, sp_partners fl ds Q → ds.length + (if false = true then 1 else 0) = 1 := by
  intro fl ds Q h
  unfold sp_partners at h
  grind
theorem ok_partners (bt : Bt mg) (F : FunD K "partners" "partners" (defArgs s_partners) (defBody s_partners) (defScope s_partners) [] [] f fd) : FnOk P w K mg base CX0 1 f fd ["joints"] (spOf ⟨K, P, w⟩ false sp_partners) :=
  defD_ok false F sc_partners len_partners (by decide) fun cdv A outer s H E hr => ⟨T_partners, (s_cons (s_setDN (i := 1) sc_partners.nd rfl (by first | exact Or.inl rfl | exact Or.inr rfl))
    (s_cons (s_for PassesOwn.never rfl (i_any (qv 0)) (g_name sc_partners.nd rfl (by first | exact Or.inl rfl | exact Or.inr rfl)) (s_cons (s_putD 1 hr.units (q_non) (q_ix (qv 2) (q_int)))
    (s_one (s_if (t_cmp (op_eqP hr.units) l_eq (q_callB l_len call_len (by rfl) (bt "len" (by decide)) (by decide +kernel) (qa_cons (qv 2) qa_nil)) (q_int) (nomark _)) (s_cons (s_putD 1 hr.units (q_ix (qv 2) (q_int)) (q_ix (qv 2) (q_int)))
    (s_one (s_putD 1 hr.units (q_ix (qv 2) (q_int)) (q_ix (qv 2) (q_int))))) s_nil))))
    (s_one (s_frzD 1 (s_ret (qv 1)))))), pure_ren rfl pure_partners⟩
theorem cal_partners (bt : Bt mg) (hm : mg "partners" = some (.ref f)) (F : FunD K "partners" "partners" (defArgs s_partners) (defBody s_partners) (defScope s_partners) [] [] f fd) : Cal P w K mg base 1 "partners" false ["joints"] [] sp_partners := ⟨f, fd, [], [], ok_partners bt F, hm, F.kp, F.bindsN (ps := ["joints"]) fun _ _ _ _ _ _ us hl => match us, hl with | [_], _ => rfl, .nil, consts_nil⟩
abbrev M_beads_from : List Str := ["end", "joined", "beads", "at", "name", "side"]
theorem sc_beads_from : FnScope M_beads_from ["end", "joined"] (defScope s_beads_from) := ⟨rfl, rfl, rfl, by decide +kernel, rfl, by decide +kernel, by decide +kernel⟩
theorem len_beads_from : ∀ fl ds Q, sp_beads_from fl ds Q → ds.length + (if false = true then 1 else 0) = 2 := by
  intro fl ds Q h
  unfold sp_beads_from at h
  grind
theorem ok_beads_from (bt : Bt mg) (F : FunD K "beads_from" "beads_from" (defArgs s_beads_from) (defBody s_beads_from) (defScope s_beads_from) [] [] f fd) : FnOk P w K mg base CX0 1 f fd ["end", "joined"] (spOf ⟨K, P, w⟩ false sp_beads_from) :=
  defD_ok false F sc_beads_from len_beads_from (by decide) fun cdv A outer s H E hr => ⟨T_beads_from, (s_cons (s_setF (i := 2) sc_beads_from.nd rfl (by first | exact Or.inl rfl | exact Or.inr rfl) (f_lst (qa_nil)))
    (s_cons (s_set (i := 3) sc_beads_from.nd rfl (by first | exact Or.inl rfl | exact Or.inr rfl) (qv 0))
    (s_cons (s_while PassesOwn.never (EW.et (w_and (t_cmp op_notN l_notN (qv 3) (q_non) (nomark _)) (w_and1 (EW.et (w_or (t_cmp (op_eqP hr.units) l_eq (qv 2) (EF.ev (f_lst (qa_nil))) (nomark _)) (w_or1 (t_cmp (op_neP hr.units) l_eq (qv 3) (qv 0) (nomark _)))))))) (s_cons (s_asg (qv 3) (g_tup rfl (gs_cons (g_name sc_beads_from.nd rfl (by first | exact Or.inl rfl | exact Or.inr rfl)) (gs_cons (g_name sc_beads_from.nd rfl (by first | exact Or.inl rfl | exact Or.inr rfl)) gs_nil))))
    (s_cons (s_expr (q_mo 2 l_append PySem.F.slot_list_append PySem.F.type_list_append mt_append (qa_cons (q_op op_addA l_add (q_op op_mulA l_mul (q_str) (qv 5)) (qv 4)) qa_nil)))
    (s_one (s_set (i := 3) sc_beads_from.nd rfl (by first | exact Or.inl rfl | exact Or.inr rfl) (q_dget hr.units (qv 1) (q_tup (qa_cons (qv 4) (qa_cons (q_op op_sub l_sub (q_int) (qv 5)) qa_nil)))))))))
    (s_one (s_ret (q_callTy l_tuple call_tuple_of (by rfl) (bt "tuple" (by decide)) (by decide +kernel) (qa_cons (qv 2) qa_nil))))))), pure_ren rfl pure_beads_from⟩
theorem cal_beads_from (bt : Bt mg) (hm : mg "beads_from" = some (.ref f)) (F : FunD K "beads_from" "beads_from" (defArgs s_beads_from) (defBody s_beads_from) (defScope s_beads_from) [] [] f fd) : Cal P w K mg base 1 "beads_from" false ["end", "joined"] [] sp_beads_from := ⟨f, fd, [], [], ok_beads_from bt F, hm, F.kp, F.bindsN (ps := ["end", "joined"]) fun _ _ _ _ _ _ us hl => match us, hl with | [_, _], _ => rfl, .nil, consts_nil⟩
abbrev M_set_of : List Str := ["joints", "joined", "strands", "seen", "free", "end", "beads", "bead", "kind"]
theorem sc_set_of : FnScope M_set_of ["joints"] (defScope s_set_of) := ⟨rfl, rfl, rfl, by decide +kernel, rfl, by decide +kernel, by decide +kernel⟩
theorem len_set_of : ∀ fl ds Q, sp_set_of fl ds Q → ds.length + (if false = true then 1 else 0) = 1 := by
  intro fl ds Q h
  unfold sp_set_of at h
  grind
theorem ok_set_of (bt : Bt mg) (c_partners : Cal P w K mg base 1 "partners" false ["joints"] [] sp_partners) (c_beads_from : Cal P w K mg base 1 "beads_from" false ["end", "joined"] [] sp_beads_from) (c_name_of : Cal P w K mg base 1 "name_of" false ["bead"] [] sp_name_of) (c_canon : Cal P w K mg base 4 "canon" false ["some"] [] sp_canon) (F : FunD K "set_of" "set_of" (defArgs s_set_of) (defBody s_set_of) (defScope s_set_of) [] [] f fd) : FnOk P w K mg base CX0 5 f fd ["joints"] (spOf ⟨K, P, w⟩ false sp_set_of) :=
  defD_ok false F sc_set_of len_set_of (by decide) fun cdv A outer s H E hr => ⟨T_set_of, (s_cons (s_set (i := 1) sc_set_of.nd rfl (by first | exact Or.inl rfl | exact Or.inr rfl) (q_cal c_partners hr (by first | decide | exact Nat.le_refl _ | (simp only [Nat.add_eq]; omega)) (by rfl) (qa_cons (qv 0) qa_nil)))
    (s_cons (s_setF (i := 2) sc_set_of.nd rfl (by first | exact Or.inl rfl | exact Or.inr rfl) (f_lst (qa_nil)))
    (s_cons (s_setDK (i := 3) sc_set_of.nd rfl (by first | exact Or.inl rfl | exact Or.inr rfl))
    (s_cons (s_setLcR (i := 4) (own := [("end", 5)]) (S := [5]) rfl sc_set_of.nd rfl rfl (sw_true rfl rfl rfl (by decide +kernel)) (blkOk_by (N := M_set_of) (sc := defScope s_set_of) (by decide +kernel)) (i_any (EF.ev (f_callB l_sortDic (cr_sortedDic rfl hr.units) (by rfl) (bt "sorted" (by decide)) (by decide +kernel) (qa_cons (qv 1) qa_nil)))) (fun _ _ _ _ _ => g_name sc_set_of.nd rfl (by first | exact Or.inl rfl | exact Or.inr rfl)) (fun _ _ _ _ _ => (ts_one (t_cmp op_isN l_isN (q_dget hr.units (qv 1) (qv 5)) (q_non) (nomark _)))) (fun _ _ _ _ _ => qv 5))
    (s_cons (s_for PassesOwn.never rfl (i_any (q_op op_addA l_add (qv 4) (EF.ev (f_lcR (own := [("end", 5)]) (S := [5]) rfl sc_set_of.nd (blkOk_by (N := M_set_of) (sc := defScope s_set_of) (by decide +kernel)) (i_any (EF.ev (f_callB l_sortDic (cr_sortedDic rfl hr.units) (by rfl) (bt "sorted" (by decide)) (by decide +kernel) (qa_cons (qv 1) qa_nil)))) (fun _ _ _ _ _ => g_name sc_set_of.nd rfl (by first | exact Or.inl rfl | exact Or.inr rfl)) (fun _ _ _ _ _ => (ts_one (t_cmp op_notN l_notN (q_dget hr.units (qv 1) (qv 5)) (q_non) (nomark _)))) (fun _ _ _ _ _ => qv 5))))) (g_name sc_set_of.nd rfl (by first | exact Or.inl rfl | exact Or.inr rfl)) (s_one (s_if (EW.et (w_and (t_dnin hr.units (q_ix (qv 5) (q_int)) (qv 3)) (w_and1 (EW.et (w_or (t_cmp op_isN l_isN (q_dget hr.units (qv 1) (qv 5)) (q_non) (nomark _)) (w_or1 (t_cmp (op_eqP hr.units) l_eq (q_ix (qv 5) (q_int)) (q_int) (nomark _)))))))) (s_cons (s_set (i := 6) sc_set_of.nd rfl (by first | exact Or.inl rfl | exact Or.inr rfl) (q_cal c_beads_from hr (by first | decide | exact Nat.le_refl _ | (simp only [Nat.add_eq]; omega)) (by rfl) (qa_cons (qv 5) (qa_cons (qv 1) qa_nil))))
    (s_cons (s_for PassesOwn.never rfl (i_any (qv 6)) (g_name sc_set_of.nd rfl (by first | exact Or.inl rfl | exact Or.inr rfl)) (s_one (s_putD 3 hr.units (q_bl) (q_cal c_name_of hr (by first | decide | exact Nat.le_refl _ | (simp only [Nat.add_eq]; omega)) (by rfl) (qa_cons (qv 7) qa_nil)))))
    (s_cons (s_set (i := 8) sc_set_of.nd rfl (by first | exact Or.inl rfl | exact Or.inr rfl) (q_str))
    (s_cons (s_if (t_cmp op_isN l_isN (q_dget hr.units (qv 1) (qv 5)) (q_non) (nomark _)) (s_one (s_set (i := 8) sc_set_of.nd rfl (by first | exact Or.inl rfl | exact Or.inr rfl) (q_str))) s_nil)
    (s_one (s_expr (q_mo 2 l_append PySem.F.slot_list_append PySem.F.type_list_append mt_append (qa_cons (q_tup (qa_cons (qv 8) (qa_cons (qv 6) qa_nil))) qa_nil)))))))) s_nil)))
    (s_one (s_ret (q_cal c_canon hr (by first | decide | exact Nat.le_refl _ | (simp only [Nat.add_eq]; omega)) (by rfl) (qa_cons (q_callTy l_tuple call_tuple_of (by rfl) (bt "tuple" (by decide)) (by decide +kernel) (qa_cons (qv 2) qa_nil)) qa_nil))))))))), pure_ren rfl pure_set_of⟩
theorem cal_set_of (bt : Bt mg) (c_partners : Cal P w K mg base 1 "partners" false ["joints"] [] sp_partners) (c_beads_from : Cal P w K mg base 1 "beads_from" false ["end", "joined"] [] sp_beads_from) (c_name_of : Cal P w K mg base 1 "name_of" false ["bead"] [] sp_name_of) (c_canon : Cal P w K mg base 4 "canon" false ["some"] [] sp_canon) (hm : mg "set_of" = some (.ref f)) (F : FunD K "set_of" "set_of" (defArgs s_set_of) (defBody s_set_of) (defScope s_set_of) [] [] f fd) : Cal P w K mg base 5 "set_of" false ["joints"] [] sp_set_of := ⟨f, fd, [], [], ok_set_of bt c_partners c_beads_from c_name_of c_canon F, hm, F.kp, F.bindsN (ps := ["joints"]) fun _ _ _ _ _ _ us hl => match us, hl with | [_], _ => rfl, .nil, consts_nil⟩
abbrev M_joinings : List Str := ["ends", "found", "at", "rest", "more"]
theorem sc_joinings : FnScope M_joinings ["ends"] (defScope s_joinings) := ⟨rfl, rfl, rfl, by decide +kernel, rfl, by decide +kernel, by decide +kernel⟩
theorem okr_joinings (bt : Bt mg) (hm : mg "joinings" = some (.ref f)) (F : FunD K "joinings" "joinings" (defArgs s_joinings) (defBody s_joinings) (defScope s_joinings) [] [] f fd) : ∀ n : Nat, Cal P w K mg base (1 + n) "joinings" false ["ends"] [] (spJ n)
  | 0 => ⟨f, fd, [], [], ⟨fun vs H Q E h => by obtain ⟨_, _, _, _, _, _, _, _, _, hp, _⟩ := h; exact hp.elim, fun A outer s H args us vs Q E hr he hb hv h => by obtain ⟨_, _, _, _, _, _, _, _, _, hp, _⟩ := h; exact hp.elim⟩, hm, F.kp, F.bindsN (ps := ["ends"]) fun _ _ _ _ _ _ us hl => match us, hl with | [_], _ => rfl, .nil, consts_nil⟩
  | n + 1 => by
    have c_joinings := okr_joinings bt hm F n
    exact ⟨f, fd, [], [], defD_ok false F sc_joinings (fun fl ds Q h => by obtain ⟨rfl, d, rfl, _⟩ := h; rfl) (by decide) fun cdv A outer s H E hr => ⟨T_joinings (spJ n), (s_cons (s_if (t_cmp (op_eqP hr.units) l_eq (qv 0) (EF.ev (f_lst (qa_nil))) (nomark _)) (s_one (s_retF (f_lst (qa_cons (EF.ev (f_lst (qa_nil))) qa_nil)))) s_nil)
    (s_cons (s_setLcF (i := 1) (own := [("more", 4)]) (S := [4]) rfl sc_joinings.nd rfl rfl (sw_true rfl rfl rfl (by decide +kernel)) (blkOk_by (N := M_joinings) (sc := defScope s_joinings) (by decide +kernel)) (i_any (q_cal c_joinings hr (by first | decide | exact Nat.le_refl _ | (simp only [Nat.add_eq]; omega)) (by rfl) (qa_cons (q_sl (qv 0) (o_some (q_int)) o_none) qa_nil))) (fun _ _ _ _ _ => g_name sc_joinings.nd rfl (by first | exact Or.inl rfl | exact Or.inr rfl)) (fun _ _ _ _ _ => ts_nil) (fun _ _ _ _ _ => q_op op_addA l_add (EF.ev (f_lst (qa_cons (q_tup (qa_cons (q_ix (qv 0) (q_int)) qa_nil)) qa_nil))) (qv 4)))
    (s_cons (s_for PassesOwn.never rfl (i_rg2 (q_int) (q_callB l_len call_len (by rfl) (bt "len" (by decide)) (by decide +kernel) (qa_cons (qv 0) qa_nil)) (by rfl) (bt "range" (by decide))) (g_name sc_joinings.nd rfl (by first | exact Or.inl rfl | exact Or.inr rfl)) (s_cons (s_set (i := 3) sc_joinings.nd rfl (by first | exact Or.inl rfl | exact Or.inr rfl) (q_op op_addA l_add (q_sl (qv 0) (o_some (q_int)) (o_some (qv 2))) (q_sl (qv 0) (o_some (q_op op_addA l_add (qv 2) (q_int))) o_none)))
    (s_one (s_expr (q_moE 1 rfl (qa_cons (EF.ev (f_lc (own := [("more", 4)]) (S := [4]) rfl sc_joinings.nd (blkOk_by (N := M_joinings) (sc := defScope s_joinings) (by decide +kernel)) (i_any (q_cal c_joinings hr (by first | decide | exact Nat.le_refl _ | (simp only [Nat.add_eq]; omega)) (by rfl) (qa_cons (qv 3) qa_nil))) (fun _ _ _ _ _ => g_name sc_joinings.nd rfl (by first | exact Or.inl rfl | exact Or.inr rfl)) (fun _ _ _ _ _ => ts_nil) (fun _ _ _ _ _ => q_op op_addA l_add (EF.ev (f_lst (qa_cons (q_tup (qa_cons (q_ix (qv 0) (q_int)) (qa_cons (q_ix (qv 0) (qv 2)) qa_nil))) qa_nil))) (qv 4)))) qa_nil))))))
    (s_one (s_retS 1))))), pure_ren rfl (pure_joinings n)⟩, hm, F.kp, F.bindsN (ps := ["ends"]) fun _ _ _ _ _ _ us hl => match us, hl with | [_], _ => rfl, .nil, consts_nil⟩
theorem cal_joinings (bt : Bt mg) (hm : mg "joinings" = some (.ref f)) (F : FunD K "joinings" "joinings" (defArgs s_joinings) (defBody s_joinings) (defScope s_joinings) [] [] f fd) : Cal P w K mg base 13 "joinings" false ["ends"] [] sp_joinings := (okr_joinings bt hm F 12).mono (by decide)
abbrev M_all_joints : List Str := ["names", "ends", "name", "joints"]
theorem sc_all_joints : FnScope M_all_joints ["names"] (defScope s_all_joints) := ⟨rfl, rfl, rfl, by decide +kernel, rfl, by decide +kernel, by decide +kernel⟩
theorem len_all_joints : ∀ fl ds Q, sp_all_joints fl ds Q → ds.length + (if false = true then 1 else 0) = 1 := by
  intro fl ds Q h
  unfold sp_all_joints at h
  grind
theorem ok_all_joints (bt : Bt mg) (c_joinings : Cal P w K mg base 13 "joinings" false ["ends"] [] sp_joinings) (F : FunD K "all_joints" "all_joints" (defArgs s_all_joints) (defBody s_all_joints) (defScope s_all_joints) [] [] f fd) : FnOk P w K mg base CX0 14 f fd ["names"] (spOf ⟨K, P, w⟩ false sp_all_joints) :=
  defD_ok false F sc_all_joints len_all_joints (by decide) fun cdv A outer s H E hr => ⟨T_all_joints, (s_cons (s_if (t_cmp op_gt l_cmp (q_callB l_len call_len (by rfl) (bt "len" (by decide)) (by decide +kernel) (qa_cons (qv 0) qa_nil)) (q_int) (nomark _)) (s_one (s_raise)) s_nil)
    (s_cons (s_setF (i := 1) sc_all_joints.nd rfl (by first | exact Or.inl rfl | exact Or.inr rfl) (f_lst (qa_nil)))
    (s_cons (s_for PassesOwn.never rfl (i_any (EF.ev (f_callB l_sortD (cr_sortedD hr.units) (by rfl) (bt "sorted" (by decide)) (by decide +kernel) (qa_cons (qv 0) qa_nil)))) (g_name sc_all_joints.nd rfl (by first | exact Or.inl rfl | exact Or.inr rfl)) (s_one (s_expr (q_moE 1 rfl (qa_cons (EF.ev (f_lst (qa_cons (q_tup (qa_cons (qv 2) (qa_cons (q_int) qa_nil))) (qa_cons (q_tup (qa_cons (qv 2) (qa_cons (q_int) qa_nil))) qa_nil)))) qa_nil)))))
    (s_one (s_retF (f_lc (own := [("joints", 3)]) (S := [3]) rfl sc_all_joints.nd (blkOk_by (N := M_all_joints) (sc := defScope s_all_joints) (by decide +kernel)) (i_any (q_cal c_joinings hr (by first | decide | exact Nat.le_refl _ | (simp only [Nat.add_eq]; omega)) (by rfl) (qa_cons (qv 1) qa_nil))) (fun _ _ _ _ _ => g_name sc_all_joints.nd rfl (by first | exact Or.inl rfl | exact Or.inr rfl)) (fun _ _ _ _ _ => ts_nil) (fun _ _ _ _ _ => q_callTy l_tuple call_tuple_of (by rfl) (bt "tuple" (by decide)) (by decide +kernel) (qa_cons (EF.ev (f_callB l_sortD (cr_sortedD hr.units) (by rfl) (bt "sorted" (by decide)) (by decide +kernel) (qa_cons (qv 3) qa_nil))) qa_nil)))))))), pure_ren rfl pure_all_joints⟩
theorem cal_all_joints (bt : Bt mg) (c_joinings : Cal P w K mg base 13 "joinings" false ["ends"] [] sp_joinings) (hm : mg "all_joints" = some (.ref f)) (F : FunD K "all_joints" "all_joints" (defArgs s_all_joints) (defBody s_all_joints) (defScope s_all_joints) [] [] f fd) : Cal P w K mg base 14 "all_joints" false ["names"] [] sp_all_joints := ⟨f, fd, [], [], ok_all_joints bt c_joinings F, hm, F.kp, F.bindsN (ps := ["names"]) fun _ _ _ _ _ _ us hl => match us, hl with | [_], _ => rfl, .nil, consts_nil⟩
abbrev M_all_sets : List Str := ["names", "joints"]
theorem sc_all_sets : FnScope M_all_sets ["names"] (defScope s_all_sets) := ⟨rfl, rfl, rfl, by decide +kernel, rfl, by decide +kernel, by decide +kernel⟩
theorem len_all_sets : ∀ fl ds Q, sp_all_sets fl ds Q → ds.length + (if false = true then 1 else 0) = 1 := by
  intro fl ds Q h
  unfold sp_all_sets at h
  grind
theorem ok_all_sets (bt : Bt mg) (c_all_joints : Cal P w K mg base 14 "all_joints" false ["names"] [] sp_all_joints) (c_set_of : Cal P w K mg base 5 "set_of" false ["joints"] [] sp_set_of) (F : FunD K "all_sets" "all_sets" (defArgs s_all_sets) (defBody s_all_sets) (defScope s_all_sets) [] [] f fd) : FnOk P w K mg base CX0 15 f fd ["names"] (spOf ⟨K, P, w⟩ false sp_all_sets) :=
  defD_ok false F sc_all_sets len_all_sets (by decide) fun cdv A outer s H E hr => ⟨T_all_sets, (s_one (s_retF (f_callB l_sortE (cr_sortedE hr.units) (by rfl) (bt "sorted" (by decide)) (by decide +kernel) (qa_cons (EF.ev (f_lc (own := [("joints", 1)]) (S := [1]) rfl sc_all_sets.nd (blkOk_by (N := M_all_sets) (sc := defScope s_all_sets) (by decide +kernel)) (i_any (q_cal c_all_joints hr (by first | decide | exact Nat.le_refl _ | (simp only [Nat.add_eq]; omega)) (by rfl) (qa_cons (qv 0) qa_nil))) (fun _ _ _ _ _ => g_name sc_all_sets.nd rfl (by first | exact Or.inl rfl | exact Or.inr rfl)) (fun _ _ _ _ _ => ts_nil) (fun _ _ _ _ _ => q_cal c_set_of hr (by first | decide | exact Nat.le_refl _ | (simp only [Nat.add_eq]; omega)) (by rfl) (qa_cons (qv 1) qa_nil)))) qa_nil)))), pure_ren rfl pure_all_sets⟩
theorem cal_all_sets (bt : Bt mg) (c_all_joints : Cal P w K mg base 14 "all_joints" false ["names"] [] sp_all_joints) (c_set_of : Cal P w K mg base 5 "set_of" false ["joints"] [] sp_set_of) (hm : mg "all_sets" = some (.ref f)) (F : FunD K "all_sets" "all_sets" (defArgs s_all_sets) (defBody s_all_sets) (defScope s_all_sets) [] [] f fd) : Cal P w K mg base 15 "all_sets" false ["names"] [] sp_all_sets := ⟨f, fd, [], [], ok_all_sets bt c_all_joints c_set_of F, hm, F.kp, F.bindsN (ps := ["names"]) fun _ _ _ _ _ _ us hl => match us, hl with | [_], _ => rfl, .nil, consts_nil⟩
abbrev M_law_pick : List Str := ["_law_flow_here", "_law_many", "_law_cell", "_law_digit"]
theorem sc_law_pick : FnScope M_law_pick ["_law_flow_here", "_law_many"] (defScope s_law_pick) := ⟨rfl, rfl, rfl, by decide +kernel, rfl, by decide +kernel, by decide +kernel⟩
theorem len_law_pick : ∀ fl ds Q, sp_law_pick fl ds Q → ds.length + (if true = true then 1 else 0) = 2 := by
  intro fl ds Q h
  unfold sp_law_pick at h
  grind
theorem ok_law_pick (bt : Bt mg) (F : FunD K "_law_pick" "_law_pick" (defArgs s_law_pick) (defBody s_law_pick) (defScope s_law_pick) [] [] f fd) : FnOk P w K mg base CX0 1 f fd ["_law_flow_here", "_law_many"] (spOf ⟨K, P, w⟩ true sp_law_pick) :=
  defD_ok true F sc_law_pick len_law_pick (by decide) fun cdv A outer s H E hr => ⟨T_law_pick, (s_cons (s_if (EW.et (w_and (t_cmp (op_eqP hr.units) l_eq (q_ix (qv 0) (q_int)) (q_int) (nomark _)) (w_and1 (t_cmp op_ltA l_lt (q_ix (qv 0) (q_int)) (q_callB l_len call_len (by rfl) (bt "len" (by decide)) (by decide +kernel) (qa_cons (q_ix (qv 0) (q_int)) qa_nil)) (nomark _))))) (s_cons (s_set (i := 2) sc_law_pick.nd rfl (by first | exact Or.inl rfl | exact Or.inr rfl) (q_ix (q_ix (qv 0) (q_int)) (q_ix (qv 0) (q_int))))
    (s_cons (s_setIx 0 (q_op op_addA l_add (q_ix (qv 0) (q_int)) (q_int)) (q_int))
    (s_one (s_if (t_cmp op_ge l_cmp (qv 2) (q_op op_pow l_pow (q_int) (q_int)) (nomark _)) (s_one (s_setIx 0 (qv 2) (q_int))) (s_one (s_setIx 0 (q_op op_mod l_mod (q_op op_addA l_add (q_op op_addA l_add (q_op op_mulA l_mul (q_ix (qv 0) (q_int)) (q_int)) (q_op op_mod l_mod (qv 2) (q_int))) (q_int)) (q_int)) (q_int))))))) s_nil)
    (s_cons (s_if (t_cmp op_gt l_cmp (q_ix (qv 0) (q_int)) (q_int) (nomark _)) (s_cons (s_set (i := 3) sc_law_pick.nd rfl (by first | exact Or.inl rfl | exact Or.inr rfl) (q_op op_mod l_mod (q_ix (qv 0) (q_int)) (qv 1)))
    (s_cons (s_setIx 0 (q_op op_fdiv l_div (q_ix (qv 0) (q_int)) (qv 1)) (q_int))
    (s_one (s_ret (qv 3))))) s_nil)
    (s_cons (s_setIx 0 (q_op op_addA l_add (q_ix (qv 0) (q_int)) (q_int)) (q_int))
    (s_cons (s_setIx 0 (q_op op_mod l_mod (q_op op_addA l_add (q_op op_addA l_add (q_op op_mulA l_mul (q_ix (qv 0) (q_int)) (q_int)) (q_int)) (q_ix (qv 0) (q_int))) (q_int)) (q_int))
    (s_one (s_ret (q_op op_mod l_mod (q_op op_fdiv l_div (q_op op_mod l_mod (q_op op_mulA l_mul (q_op op_addA l_add (q_op op_mod l_mod (q_ix (qv 0) (q_int)) (q_int)) (q_int)) (q_op op_addA l_add (q_op op_fdiv l_div (q_ix (qv 0) (q_int)) (q_int)) (q_int))) (q_int)) (q_int)) (qv 1)))))))), pure_ren rfl pure_law_pick⟩
theorem cal_law_pick (bt : Bt mg) (hm : mg "_law_pick" = some (.ref f)) (F : FunD K "_law_pick" "_law_pick" (defArgs s_law_pick) (defBody s_law_pick) (defScope s_law_pick) [] [] f fd) : Cal P w K mg base 1 "_law_pick" true ["_law_flow_here", "_law_many"] [] sp_law_pick := ⟨f, fd, [], [], ok_law_pick bt F, hm, F.kp, F.bindsN (ps := ["_law_flow_here", "_law_many"]) fun _ _ _ _ _ _ us hl => match us, hl with | [_, _], _ => rfl, .nil, consts_nil⟩
abbrev M_law_letters : List Str := ["_law_flow_here", "_law_many", "_law_k"]
theorem sc_law_letters : FnScope M_law_letters ["_law_flow_here", "_law_many"] (defScope s_law_letters) := ⟨rfl, rfl, rfl, by decide +kernel, rfl, by decide +kernel, by decide +kernel⟩
theorem len_law_letters : ∀ fl ds Q, sp_law_letters fl ds Q → ds.length + (if true = true then 1 else 0) = 2 := by
  intro fl ds Q h
  unfold sp_law_letters at h
  grind
theorem ok_law_letters (bt : Bt mg) (c_law_pick : Cal P w K mg base 1 "_law_pick" true ["_law_flow_here", "_law_many"] [] sp_law_pick) (F : FunD K "_law_letters" "_law_letters" (defArgs s_law_letters) (defBody s_law_letters) (defScope s_law_letters) [] [] f fd) : FnOk P w K mg base CX0 2 f fd ["_law_flow_here", "_law_many"] (spOf ⟨K, P, w⟩ true sp_law_letters) :=
  defD_ok true F sc_law_letters len_law_letters (by decide) fun cdv A outer s H E hr => ⟨T_law_letters, (s_one (s_ret (q_join (q_str) (EF.ev (f_lc (own := [("_law_k", 2)]) (S := [2]) rfl sc_law_letters.nd (blkOk_by (N := M_law_letters) (sc := defScope s_law_letters) (by decide +kernel)) (i_rg1 (qv 1) (by rfl) (bt "range" (by decide))) (fun _ _ _ _ _ => g_name sc_law_letters.nd rfl (by first | exact Or.inl rfl | exact Or.inr rfl)) (fun _ _ _ _ _ => ts_nil) (fun _ _ _ _ _ => q_ix (q_str) (q_calL 0 c_law_pick hr (by first | decide | exact Nat.le_refl _ | (simp only [Nat.add_eq]; omega)) (by rfl) (qa_cons (q_int) qa_nil)))))))), pure_ren rfl pure_law_letters⟩
theorem cal_law_letters (bt : Bt mg) (c_law_pick : Cal P w K mg base 1 "_law_pick" true ["_law_flow_here", "_law_many"] [] sp_law_pick) (hm : mg "_law_letters" = some (.ref f)) (F : FunD K "_law_letters" "_law_letters" (defArgs s_law_letters) (defBody s_law_letters) (defScope s_law_letters) [] [] f fd) : Cal P w K mg base 2 "_law_letters" true ["_law_flow_here", "_law_many"] [] sp_law_letters := ⟨f, fd, [], [], ok_law_letters bt c_law_pick F, hm, F.kp, F.bindsN (ps := ["_law_flow_here", "_law_many"]) fun _ _ _ _ _ _ us hl => match us, hl with | [_, _], _ => rfl, .nil, consts_nil⟩
abbrev M_law_name : List Str := ["_law_flow_here", "_law_stem", "_law_words"]
theorem sc_law_name : FnScope M_law_name ["_law_flow_here", "_law_stem"] (defScope s_law_name) := ⟨rfl, rfl, rfl, by decide +kernel, rfl, by decide +kernel, by decide +kernel⟩
theorem len_law_name : ∀ fl ds Q, sp_law_name fl ds Q → ds.length + (if true = true then 1 else 0) = 2 := by
  intro fl ds Q h
  unfold sp_law_name at h
  grind
theorem ok_law_name (bt : Bt mg) (c_law_letters : Cal P w K mg base 2 "_law_letters" true ["_law_flow_here", "_law_many"] [] sp_law_letters) (c_law_pick : Cal P w K mg base 1 "_law_pick" true ["_law_flow_here", "_law_many"] [] sp_law_pick) (F : FunD K "_law_name" "_law_name" (defArgs s_law_name) (defBody s_law_name) (defScope s_law_name) [] [] f fd) : FnOk P w K mg base CX0 3 f fd ["_law_flow_here", "_law_stem"] (spOf ⟨K, P, w⟩ true sp_law_name) :=
  defD_ok true F sc_law_name len_law_name (by decide) fun cdv A outer s H E hr => ⟨T_law_name, (s_cons (s_if (t_cmp (op_neP hr.units) l_eq (qv 1) (q_str) (nomark _)) (s_one (s_ret (q_op op_addA l_add (qv 1) (q_calL 0 c_law_letters hr (by first | decide | exact Nat.le_refl _ | (simp only [Nat.add_eq]; omega)) (by rfl) (qa_cons (q_op op_addA l_add (q_int) (q_calL 0 c_law_pick hr (by first | decide | exact Nat.le_refl _ | (simp only [Nat.add_eq]; omega)) (by rfl) (qa_cons (q_int) qa_nil))) qa_nil))))) s_nil)
    (s_cons (s_if (t_cmp (op_eqP hr.units) l_eq (q_calL 0 c_law_pick hr (by first | decide | exact Nat.le_refl _ | (simp only [Nat.add_eq]; omega)) (by rfl) (qa_cons (q_int) qa_nil)) (q_int) (nomark _)) (s_cons (s_set (i := 2) sc_law_name.nd rfl (by first | exact Or.inl rfl | exact Or.inr rfl) (EF.ev (f_lst (qa_cons (q_str) (qa_cons (q_str) (qa_cons (q_str) (qa_cons (q_str) (qa_cons (q_str) (qa_cons (q_str) (qa_cons (q_str) (qa_cons (q_str) (qa_cons (q_str) (qa_cons (q_str) (qa_cons (q_str) (qa_cons (q_str) qa_nil)))))))))))))))
    (s_cons (s_set (i := 2) sc_law_name.nd rfl (by first | exact Or.inl rfl | exact Or.inr rfl) (q_op op_addA l_add (qv 2) (EF.ev (f_lst (qa_cons (q_str) (qa_cons (q_str) (qa_cons (q_str) (qa_cons (q_str) (qa_cons (q_str) (qa_cons (q_str) (qa_cons (q_str) (qa_cons (q_str) (qa_cons (q_str) (qa_cons (q_str) (qa_cons (q_str) qa_nil)))))))))))))))
    (s_one (s_ret (q_ix (qv 2) (q_calL 0 c_law_pick hr (by first | decide | exact Nat.le_refl _ | (simp only [Nat.add_eq]; omega)) (by rfl) (qa_cons (q_int) qa_nil))))))) s_nil)
    (s_one (s_ret (q_calL 0 c_law_letters hr (by first | decide | exact Nat.le_refl _ | (simp only [Nat.add_eq]; omega)) (by rfl) (qa_cons (q_op op_addA l_add (q_int) (q_calL 0 c_law_pick hr (by first | decide | exact Nat.le_refl _ | (simp only [Nat.add_eq]; omega)) (by rfl) (qa_cons (q_int) qa_nil))) qa_nil)))))), pure_ren rfl pure_law_name⟩
theorem cal_law_name (bt : Bt mg) (c_law_letters : Cal P w K mg base 2 "_law_letters" true ["_law_flow_here", "_law_many"] [] sp_law_letters) (c_law_pick : Cal P w K mg base 1 "_law_pick" true ["_law_flow_here", "_law_many"] [] sp_law_pick) (hm : mg "_law_name" = some (.ref f)) (F : FunD K "_law_name" "_law_name" (defArgs s_law_name) (defBody s_law_name) (defScope s_law_name) [] [] f fd) : Cal P w K mg base 3 "_law_name" true ["_law_flow_here", "_law_stem"] [] sp_law_name := ⟨f, fd, [], [], ok_law_name bt c_law_letters c_law_pick F, hm, F.kp, F.bindsN (ps := ["_law_flow_here", "_law_stem"]) fun _ _ _ _ _ _ us hl => match us, hl with | [_, _], _ => rfl, .nil, consts_nil⟩
abbrev M_law_names : List Str := ["_law_flow_here", "_law_many", "_law_stem", "_law_names_here", "_law_k", "_law_name_here", "_law_spare"]
theorem sc_law_names : FnScope M_law_names ["_law_flow_here", "_law_many"] (defScope s_law_names) := ⟨rfl, rfl, rfl, by decide +kernel, rfl, by decide +kernel, by decide +kernel⟩
theorem len_law_names : ∀ fl ds Q, sp_law_names fl ds Q → ds.length + (if true = true then 1 else 0) = 2 := by
  intro fl ds Q h
  unfold sp_law_names at h
  grind
theorem ok_law_names (bt : Bt mg) (c_law_pick : Cal P w K mg base 1 "_law_pick" true ["_law_flow_here", "_law_many"] [] sp_law_pick) (c_law_letters : Cal P w K mg base 2 "_law_letters" true ["_law_flow_here", "_law_many"] [] sp_law_letters) (c_law_name : Cal P w K mg base 3 "_law_name" true ["_law_flow_here", "_law_stem"] [] sp_law_name) (F : FunD K "_law_names" "_law_names" (defArgs s_law_names) (defBody s_law_names) (defScope s_law_names) [] [] f fd) : FnOk P w K mg base CX0 4 f fd ["_law_flow_here", "_law_many"] (spOf ⟨K, P, w⟩ true sp_law_names) :=
  defD_ok true F sc_law_names len_law_names (by decide) fun cdv A outer s H E hr => ⟨T_law_names, (s_cons (s_set (i := 2) sc_law_names.nd rfl (by first | exact Or.inl rfl | exact Or.inr rfl) (q_str))
    (s_cons (s_if (t_cmp (op_eqP hr.units) l_eq (q_calL 0 c_law_pick hr (by first | decide | exact Nat.le_refl _ | (simp only [Nat.add_eq]; omega)) (by rfl) (qa_cons (q_int) qa_nil)) (q_int) (nomark _)) (s_one (s_set (i := 2) sc_law_names.nd rfl (by first | exact Or.inl rfl | exact Or.inr rfl) (q_calL 0 c_law_letters hr (by first | decide | exact Nat.le_refl _ | (simp only [Nat.add_eq]; omega)) (by rfl) (qa_cons (q_op op_addA l_add (q_int) (q_calL 0 c_law_pick hr (by first | decide | exact Nat.le_refl _ | (simp only [Nat.add_eq]; omega)) (by rfl) (qa_cons (q_int) qa_nil))) qa_nil)))) s_nil)
    (s_cons (s_setF (i := 3) sc_law_names.nd rfl (by first | exact Or.inl rfl | exact Or.inr rfl) (f_lst (qa_nil)))
    (s_cons (s_for PassesOwn.never rfl (i_rg1 (qv 1) (by rfl) (bt "range" (by decide))) (g_name sc_law_names.nd rfl (by first | exact Or.inl rfl | exact Or.inr rfl)) (s_cons (s_set (i := 5) sc_law_names.nd rfl (by first | exact Or.inl rfl | exact Or.inr rfl) (q_calL 0 c_law_name hr (by first | decide | exact Nat.le_refl _ | (simp only [Nat.add_eq]; omega)) (by rfl) (qa_cons (qv 2) qa_nil)))
    (s_cons (s_set (i := 6) sc_law_names.nd rfl (by first | exact Or.inl rfl | exact Or.inr rfl) (q_int))
    (s_cons (s_while PassesOwn.never (t_cmp (op_inA hr.units) l_in (qv 5) (qv 3) (by rfl)) (s_cons (s_set (i := 5) sc_law_names.nd rfl (by first | exact Or.inl rfl | exact Or.inr rfl) (q_op op_mulA l_mul (q_ix (q_str) (q_op op_mod l_mod (qv 6) (q_int))) (q_op op_addA l_add (q_int) (q_op op_fdiv l_div (qv 6) (q_int)))))
    (s_one (s_set (i := 6) sc_law_names.nd rfl (by first | exact Or.inl rfl | exact Or.inr rfl) (q_op op_addA l_add (qv 6) (q_int))))))
    (s_one (s_expr (q_mo 3 l_append PySem.F.slot_list_append PySem.F.type_list_append mt_append (qa_cons (qv 5) qa_nil))))))))
    (s_one (s_retS 3)))))), pure_ren rfl pure_law_names⟩
theorem cal_law_names (bt : Bt mg) (c_law_pick : Cal P w K mg base 1 "_law_pick" true ["_law_flow_here", "_law_many"] [] sp_law_pick) (c_law_letters : Cal P w K mg base 2 "_law_letters" true ["_law_flow_here", "_law_many"] [] sp_law_letters) (c_law_name : Cal P w K mg base 3 "_law_name" true ["_law_flow_here", "_law_stem"] [] sp_law_name) (hm : mg "_law_names" = some (.ref f)) (F : FunD K "_law_names" "_law_names" (defArgs s_law_names) (defBody s_law_names) (defScope s_law_names) [] [] f fd) : Cal P w K mg base 4 "_law_names" true ["_law_flow_here", "_law_many"] [] sp_law_names := ⟨f, fd, [], [], ok_law_names bt c_law_pick c_law_letters c_law_name F, hm, F.kp, F.bindsN (ps := ["_law_flow_here", "_law_many"]) fun _ _ _ _ _ _ us hl => match us, hl with | [_, _], _ => rfl, .nil, consts_nil⟩
abbrev M_law_alike : List Str := ["_law_found", "_law_due", "_law_k"]
theorem sc_law_alike : FnScope M_law_alike ["_law_found", "_law_due"] (defScope s_law_alike) := ⟨rfl, rfl, rfl, by decide +kernel, rfl, by decide +kernel, by decide +kernel⟩
theorem okr_law_alike (bt : Bt mg) (hm : mg "_law_alike" = some (.ref f)) (F : FunD K "_law_alike" "_law_alike" (defArgs s_law_alike) (defBody s_law_alike) (defScope s_law_alike) [] [] f fd) : ∀ n : Nat, Cal P w K mg base (1 + n) "_law_alike" false ["_law_found", "_law_due"] [] (spA n)
  | 0 => ⟨f, fd, [], [], ⟨fun vs H Q E h => by obtain ⟨_, _, _, _, _, _, _, _, _, hp, _⟩ := h; exact hp.elim, fun A outer s H args us vs Q E hr he hb hv h => by obtain ⟨_, _, _, _, _, _, _, _, _, hp, _⟩ := h; exact hp.elim⟩, hm, F.kp, F.bindsN (ps := ["_law_found", "_law_due"]) fun _ _ _ _ _ _ us hl => match us, hl with | [_, _], _ => rfl, .nil, consts_nil⟩
  | n + 1 => by
    have c_law_alike := okr_law_alike bt hm F n
    exact ⟨f, fd, [], [], defD_ok false F sc_law_alike (fun fl ds Q h => by obtain ⟨rfl, d, rfl, _⟩ := h; rfl) (by decide) fun cdv A outer s H E hr => ⟨T_law_alike (spA n), (s_cons (s_if (t_cmp op_isN l_isN (qv 1) (q_non) (nomark _)) (s_one (s_ret (q_cmp op_isN l_isN (qv 0) (q_non) (nomark _)))) s_nil)
    (s_cons (s_if (EW.et (w_or (t_val (q_isi .bool (qv 1) (by rfl) (bt "isinstance" (by decide)) (by rfl) (bt "bool" (by decide)) (by decide +kernel))) (w_or1 (t_val (q_isi .bool (qv 0) (by rfl) (bt "isinstance" (by decide)) (by rfl) (bt "bool" (by decide)) (by decide +kernel)))))) (s_one (s_ret (q_and (q_isi .bool (qv 1) (by rfl) (bt "isinstance" (by decide)) (by rfl) (bt "bool" (by decide)) (by decide +kernel)) (q_and (q_isi .bool (qv 0) (by rfl) (bt "isinstance" (by decide)) (by rfl) (bt "bool" (by decide)) (by decide +kernel)) (q_one (q_cmp (op_eqP hr.units) l_eq (qv 0) (qv 1) (nomark _))))))) s_nil)
    (s_cons (s_if (t_val (q_isi .int (qv 1) (by rfl) (bt "isinstance" (by decide)) (by rfl) (bt "int" (by decide)) (by decide +kernel))) (s_one (s_ret (q_and (q_isi .int (qv 0) (by rfl) (bt "isinstance" (by decide)) (by rfl) (bt "int" (by decide)) (by decide +kernel)) (q_one (q_cmp (op_eqP hr.units) l_eq (qv 0) (qv 1) (nomark _)))))) s_nil)
    (s_cons (s_if (t_val (q_isi .str (qv 1) (by rfl) (bt "isinstance" (by decide)) (by rfl) (bt "str" (by decide)) (by decide +kernel))) (s_one (s_ret (q_and (q_isi .str (qv 0) (by rfl) (bt "isinstance" (by decide)) (by rfl) (bt "str" (by decide)) (by decide +kernel)) (q_one (q_cmp (op_eqP hr.units) l_eq (qv 0) (qv 1) (nomark _)))))) s_nil)
    (s_cons (s_if (EW.et (w_or (t_cmp (op_neP hr.units) l_eq (q_isi .tuple (qv 1) (by rfl) (bt "isinstance" (by decide)) (by rfl) (bt "tuple" (by decide)) (by decide +kernel)) (q_isi .tuple (qv 0) (by rfl) (bt "isinstance" (by decide)) (by rfl) (bt "tuple" (by decide)) (by decide +kernel)) (nomark _)) (w_or1 (t_cmp (op_neP hr.units) l_eq (q_isi .list (qv 1) (by rfl) (bt "isinstance" (by decide)) (by rfl) (bt "list" (by decide)) (by decide +kernel)) (q_isi .list (qv 0) (by rfl) (bt "isinstance" (by decide)) (by rfl) (bt "list" (by decide)) (by decide +kernel)) (nomark _))))) (s_one (s_ret (q_bl))) s_nil)
    (s_one (s_ret (q_and (q_cmp (op_eqP hr.units) l_eq (q_callB l_len call_len (by rfl) (bt "len" (by decide)) (by decide +kernel) (qa_cons (qv 0) qa_nil)) (q_callB l_len call_len (by rfl) (bt "len" (by decide)) (by decide +kernel) (qa_cons (qv 1) qa_nil)) (nomark _)) (q_one (q_callB l_all (cr_all rfl) (by rfl) (bt "all" (by decide)) (by decide +kernel) (qa_cons (EF.ev (f_lc (own := [("_law_k", 2)]) (S := [2]) rfl sc_law_alike.nd (blkOk_by (N := M_law_alike) (sc := defScope s_law_alike) (by decide +kernel)) (i_rg1 (q_callB l_len call_len (by rfl) (bt "len" (by decide)) (by decide +kernel) (qa_cons (qv 1) qa_nil)) (by rfl) (bt "range" (by decide))) (fun _ _ _ _ _ => g_name sc_law_alike.nd rfl (by first | exact Or.inl rfl | exact Or.inr rfl)) (fun _ _ _ _ _ => ts_nil) (fun _ _ _ _ _ => q_cal c_law_alike hr (by first | decide | exact Nat.le_refl _ | (simp only [Nat.add_eq]; omega)) (by rfl) (qa_cons (q_ix (qv 0) (qv 2)) (qa_cons (q_ix (qv 1) (qv 2)) qa_nil))))) qa_nil))))))))))), pure_ren rfl (pure_law_alike n)⟩, hm, F.kp, F.bindsN (ps := ["_law_found", "_law_due"]) fun _ _ _ _ _ _ us hl => match us, hl with | [_, _], _ => rfl, .nil, consts_nil⟩
theorem cal_law_alike (bt : Bt mg) (hm : mg "_law_alike" = some (.ref f)) (F : FunD K "_law_alike" "_law_alike" (defArgs s_law_alike) (defBody s_law_alike) (defScope s_law_alike) [] [] f fd) : Cal P w K mg base 13 "_law_alike" false ["_law_found", "_law_due"] [] sp_law_alike := (okr_law_alike bt hm F 12).mono (by decide)
abbrev M_law_mirrored : List Str := ["_law_bead"]
theorem sc_law_mirrored : FnScope M_law_mirrored ["_law_bead"] (defScope s_law_mirrored) := ⟨rfl, rfl, rfl, by decide +kernel, rfl, by decide +kernel, by decide +kernel⟩
theorem len_law_mirrored : ∀ fl ds Q, sp_law_mirrored fl ds Q → ds.length + (if false = true then 1 else 0) = 1 := by
  intro fl ds Q h
  unfold sp_law_mirrored at h
  grind
theorem ok_law_mirrored (bt : Bt mg) (F : FunD K "_law_mirrored" "_law_mirrored" (defArgs s_law_mirrored) (defBody s_law_mirrored) (defScope s_law_mirrored) [] [] f fd) : FnOk P w K mg base CX0 1 f fd ["_law_bead"] (spOf ⟨K, P, w⟩ false sp_law_mirrored) :=
  defD_ok false F sc_law_mirrored len_law_mirrored (by decide) fun cdv A outer s H E hr => ⟨T_law_mirrored, (s_cons (s_if (t_cmp (op_eqP hr.units) l_eq (q_ix (qv 0) (q_int)) (q_str) (nomark _)) (s_one (s_ret (q_sl (qv 0) (o_some (q_int)) o_none))) s_nil)
    (s_one (s_ret (q_op op_addA l_add (q_str) (qv 0))))), pure_ren rfl pure_law_mirrored⟩
theorem cal_law_mirrored (bt : Bt mg) (hm : mg "_law_mirrored" = some (.ref f)) (F : FunD K "_law_mirrored" "_law_mirrored" (defArgs s_law_mirrored) (defBody s_law_mirrored) (defScope s_law_mirrored) [] [] f fd) : Cal P w K mg base 1 "_law_mirrored" false ["_law_bead"] [] sp_law_mirrored := ⟨f, fd, [], [], ok_law_mirrored bt F, hm, F.kp, F.bindsN (ps := ["_law_bead"]) fun _ _ _ _ _ _ us hl => match us, hl with | [_], _ => rfl, .nil, consts_nil⟩
abbrev M_law_first_name : List Str := ["_law_strand"]
theorem sc_law_first_name : FnScope M_law_first_name ["_law_strand"] (defScope s_law_first_name) := ⟨rfl, rfl, rfl, by decide +kernel, rfl, by decide +kernel, by decide +kernel⟩
theorem len_law_first_name : ∀ fl ds Q, sp_law_first_name fl ds Q → ds.length + (if false = true then 1 else 0) = 1 := by
  intro fl ds Q h
  unfold sp_law_first_name at h
  grind
theorem ok_law_first_name (bt : Bt mg) (F : FunD K "_law_first_name" "_law_first_name" (defArgs s_law_first_name) (defBody s_law_first_name) (defScope s_law_first_name) [] [] f fd) : FnOk P w K mg base CX0 1 f fd ["_law_strand"] (spOf ⟨K, P, w⟩ false sp_law_first_name) :=
  defT_ok false F sc_law_first_name len_law_first_name (by decide) (by decide +kernel) (by decide) fun cdv A outer s H E hr => ⟨T_law_first_name, (t_one (s_retT (q_repl (q_ix (q_ix (qv 0) (q_int)) (q_int))))), pure_ren rfl pure_law_first_name⟩
theorem cal_law_first_name (bt : Bt mg) (hm : mg "_law_first_name" = some (.ref f)) (F : FunD K "_law_first_name" "_law_first_name" (defArgs s_law_first_name) (defBody s_law_first_name) (defScope s_law_first_name) [] [] f fd) : Cal P w K mg base 1 "_law_first_name" false ["_law_strand"] [] sp_law_first_name := ⟨f, fd, [], [], ok_law_first_name bt F, hm, F.kp, F.bindsN (ps := ["_law_strand"]) fun _ _ _ _ _ _ us hl => match us, hl with | [_], _ => rfl, .nil, consts_nil⟩
abbrev M_law_canon_2 : List Str := ["_law_some", "_law_opens", "_law_rings", "_law_kind", "_law_beads", "_law_bare", "_law_at", "_law_bead"]
theorem sc_law_canon_2 : FnScope M_law_canon_2 ["_law_some"] (defScope s_law_canon_2) := ⟨rfl, rfl, rfl, by decide +kernel, rfl, by decide +kernel, by decide +kernel⟩
theorem len_law_canon_2 : ∀ fl ds Q, sp_law_canon_2 fl ds Q → ds.length + (if false = true then 1 else 0) = 1 := by
  intro fl ds Q h
  unfold sp_law_canon_2 at h
  grind
theorem ok_law_canon_2 (bt : Bt mg) (c_law_mirrored : Cal P w K mg base 1 "_law_mirrored" false ["_law_bead"] [] sp_law_mirrored) (c_law_first_name : Cal P w K mg base 1 "_law_first_name" false ["_law_strand"] [] sp_law_first_name) (F : FunD K "_law_canon" "_law_canon" (defArgs s_law_canon_2) (defBody s_law_canon_2) (defScope s_law_canon_2) [] [] f fd) : FnOk P w K mg base CX0 3 f fd ["_law_some"] (spOf ⟨K, P, w⟩ false sp_law_canon_2) :=
  defT_ok false F sc_law_canon_2 len_law_canon_2 (by decide) (by decide +kernel) (by decide) fun cdv A outer s H E hr => ⟨T_law_canon_2, (t_cons (EST.of (s_setF (i := 1) sc_law_canon_2.nd rfl (by first | exact Or.inl rfl | exact Or.inr rfl) (f_lst (qa_nil))))
    (t_cons (EST.of (s_setF (i := 2) sc_law_canon_2.nd rfl (by first | exact Or.inl rfl | exact Or.inr rfl) (f_lst (qa_nil))))
    (t_cons (s_forT PassesOwn.never rfl (i_any (qv 0)) (g_tup rfl (gs_cons (g_name sc_law_canon_2.nd rfl (by first | exact Or.inl rfl | exact Or.inr rfl)) (gs_cons (g_name sc_law_canon_2.nd rfl (by first | exact Or.inl rfl | exact Or.inr rfl)) gs_nil))) (t_cons (s_setLcT (i := 5) (own := [("_law_bead", 7)]) (S := [7]) rfl sc_law_canon_2.nd rfl rfl (sw_true rfl rfl rfl (by decide +kernel)) (blkOk_by (N := M_law_canon_2) (sc := defScope s_law_canon_2) (by decide +kernel)) (i_any (qv 4)) (fun _ _ _ _ _ => g_name sc_law_canon_2.nd rfl (by first | exact Or.inl rfl | exact Or.inr rfl)) (fun _ _ _ _ _ => ts_nil) (fun _ _ _ _ _ => q_repl (qv 7)))
    (t_one (EST.of (s_if (t_cmp (op_eqP hr.units) l_eq (qv 3) (q_str) (nomark _)) (s_cons (s_if (EW.et (w_or (t_cmp (op_gtD hr.units) l_gtD (q_ix (qv 5) (q_int)) (q_ix (qv 5) (q_neg (q_int))) (nomark _)) (w_or1 (EW.et (w_and (t_cmp (op_eqP hr.units) l_eq (q_callB l_len call_len (by rfl) (bt "len" (by decide)) (by decide +kernel) (qa_cons (qv 4) qa_nil)) (q_int) (nomark _)) (w_and1 (t_cmp (op_eqP hr.units) l_eq (q_ix (q_ix (qv 4) (q_int)) (q_int)) (q_str) (nomark _)))))))) (s_one (s_set (i := 4) sc_law_canon_2.nd rfl (by first | exact Or.inl rfl | exact Or.inr rfl) (q_callTy l_tuple call_tuple_of (by rfl) (bt "tuple" (by decide)) (by decide +kernel) (qa_cons (EF.ev (f_lc (own := [("_law_bead", 7)]) (S := [7]) rfl sc_law_canon_2.nd (blkOk_by (N := M_law_canon_2) (sc := defScope s_law_canon_2) (by decide +kernel)) (i_any (q_rev (qv 4))) (fun _ _ _ _ _ => g_name sc_law_canon_2.nd rfl (by first | exact Or.inl rfl | exact Or.inr rfl)) (fun _ _ _ _ _ => ts_nil) (fun _ _ _ _ _ => q_cal c_law_mirrored hr (by first | decide | exact Nat.le_refl _ | (simp only [Nat.add_eq]; omega)) (by rfl) (qa_cons (qv 7) qa_nil)))) qa_nil)))) s_nil)
    (s_one (s_expr (q_mo 1 l_append PySem.F.slot_list_append PySem.F.type_list_append mt_append (qa_cons (q_tup (qa_cons (qv 3) (qa_cons (qv 4) qa_nil))) qa_nil))))) (s_cons (s_set (i := 6) sc_law_canon_2.nd rfl (by first | exact Or.inl rfl | exact Or.inr rfl) (q_vm l_index PySem.F.plainAttrs_list PySem.F.slot_list_index PySem.F.type_list_index (mt_indexD (roomU hr)) (qv 5) (qa_cons (q_callB l_bestL (call_minL rfl hr.units) (by rfl) (bt "min" (by decide)) (by decide +kernel) (qa_cons (qv 5) qa_nil)) qa_nil)))
    (s_cons (s_set (i := 4) sc_law_canon_2.nd rfl (by first | exact Or.inl rfl | exact Or.inr rfl) (q_op op_addA l_add (q_sl (qv 4) (o_some (qv 6)) o_none) (q_sl (qv 4) o_none (o_some (qv 6)))))
    (s_cons (s_if (t_cmp (op_eqP hr.units) l_eq (q_ix (q_ix (qv 4) (q_int)) (q_int)) (q_str) (nomark _)) (s_cons (s_set (i := 4) sc_law_canon_2.nd rfl (by first | exact Or.inl rfl | exact Or.inr rfl) (q_callTy l_tuple call_tuple_of (by rfl) (bt "tuple" (by decide)) (by decide +kernel) (qa_cons (EF.ev (f_lc (own := [("_law_bead", 7)]) (S := [7]) rfl sc_law_canon_2.nd (blkOk_by (N := M_law_canon_2) (sc := defScope s_law_canon_2) (by decide +kernel)) (i_any (q_rev (qv 4))) (fun _ _ _ _ _ => g_name sc_law_canon_2.nd rfl (by first | exact Or.inl rfl | exact Or.inr rfl)) (fun _ _ _ _ _ => ts_nil) (fun _ _ _ _ _ => q_cal c_law_mirrored hr (by first | decide | exact Nat.le_refl _ | (simp only [Nat.add_eq]; omega)) (by rfl) (qa_cons (qv 7) qa_nil)))) qa_nil)))
    (s_one (s_set (i := 4) sc_law_canon_2.nd rfl (by first | exact Or.inl rfl | exact Or.inr rfl) (q_op op_addA l_add (q_sl (qv 4) (o_some (q_neg (q_int))) o_none) (q_sl (qv 4) o_none (o_some (q_neg (q_int)))))))) s_nil)
    (s_one (s_expr (q_mo 2 l_append PySem.F.slot_list_append PySem.F.type_list_append mt_append (qa_cons (q_tup (qa_cons (qv 3) (qa_cons (qv 4) qa_nil))) qa_nil))))))))))))
    (t_one (EST.of (s_ret (q_callTy l_tuple call_tuple_of (by rfl) (bt "tuple" (by decide)) (by decide +kernel) (qa_cons (q_op op_addA l_add (EF.ev (f_sortK c_law_first_name hr (by first | decide | exact Nat.le_refl _ | (simp only [Nat.add_eq]; omega)) (by rfl) (by rfl) (bt "sorted" (by decide)) (qv 1))) (EF.ev (f_sortK c_law_first_name hr (by first | decide | exact Nat.le_refl _ | (simp only [Nat.add_eq]; omega)) (by rfl) (by rfl) (bt "sorted" (by decide)) (qv 2)))) qa_nil)))))))), pure_ren rfl pure_law_canon_2⟩
theorem cal_law_canon_2 (bt : Bt mg) (c_law_mirrored : Cal P w K mg base 1 "_law_mirrored" false ["_law_bead"] [] sp_law_mirrored) (c_law_first_name : Cal P w K mg base 1 "_law_first_name" false ["_law_strand"] [] sp_law_first_name) (hm : mg "_law_canon" = some (.ref f)) (F : FunD K "_law_canon" "_law_canon" (defArgs s_law_canon_2) (defBody s_law_canon_2) (defScope s_law_canon_2) [] [] f fd) : Cal P w K mg base 3 "_law_canon" false ["_law_some"] [] sp_law_canon_2 := ⟨f, fd, [], [], ok_law_canon_2 bt c_law_mirrored c_law_first_name F, hm, F.kp, F.bindsN (ps := ["_law_some"]) fun _ _ _ _ _ _ us hl => match us, hl with | [_], _ => rfl, .nil, consts_nil⟩
abbrev M_law_bare_names : List Str := ["_law_some", "_law_found", "_law_kind", "_law_beads", "_law_bead"]
theorem sc_law_bare_names : FnScope M_law_bare_names ["_law_some"] (defScope s_law_bare_names) := ⟨rfl, rfl, rfl, by decide +kernel, rfl, by decide +kernel, by decide +kernel⟩
theorem len_law_bare_names : ∀ fl ds Q, sp_law_bare_names fl ds Q → ds.length + (if false = true then 1 else 0) = 1 := by
  intro fl ds Q h
  unfold sp_law_bare_names at h
  grind
theorem ok_law_bare_names (bt : Bt mg) (F : FunD K "_law_bare_names" "_law_bare_names" (defArgs s_law_bare_names) (defBody s_law_bare_names) (defScope s_law_bare_names) [] [] f fd) : FnOk P w K mg base CX0 1 f fd ["_law_some"] (spOf ⟨K, P, w⟩ false sp_law_bare_names) :=
  defT_ok false F sc_law_bare_names len_law_bare_names (by decide) (by decide +kernel) (by decide) fun cdv A outer s H E hr => ⟨T_law_bare_names, (t_cons (EST.of (s_setF (i := 1) sc_law_bare_names.nd rfl (by first | exact Or.inl rfl | exact Or.inr rfl) (f_lst (qa_nil))))
    (t_cons (s_forT PassesOwn.never rfl (i_any (qv 0)) (g_tup rfl (gs_cons (g_name sc_law_bare_names.nd rfl (by first | exact Or.inl rfl | exact Or.inr rfl)) (gs_cons (g_name sc_law_bare_names.nd rfl (by first | exact Or.inl rfl | exact Or.inr rfl)) gs_nil))) (t_one (s_exprT (q_moET 1 rfl (at_one (EFT.ev (f_lcT (own := [("_law_bead", 4)]) (S := [4]) rfl sc_law_bare_names.nd (blkOk_by (N := M_law_bare_names) (sc := defScope s_law_bare_names) (by decide +kernel)) (i_any (qv 3)) (fun _ _ _ _ _ => g_name sc_law_bare_names.nd rfl (by first | exact Or.inl rfl | exact Or.inr rfl)) (fun _ _ _ _ _ => ts_nil) (fun _ _ _ _ _ => q_repl (qv 4)))))))))
    (t_one (EST.of (s_retF (f_callB l_sortD (cr_sortedD hr.units) (by rfl) (bt "sorted" (by decide)) (by decide +kernel) (qa_cons (qv 1) qa_nil))))))), pure_ren rfl pure_law_bare_names⟩
theorem cal_law_bare_names (bt : Bt mg) (hm : mg "_law_bare_names" = some (.ref f)) (F : FunD K "_law_bare_names" "_law_bare_names" (defArgs s_law_bare_names) (defBody s_law_bare_names) (defScope s_law_bare_names) [] [] f fd) : Cal P w K mg base 1 "_law_bare_names" false ["_law_some"] [] sp_law_bare_names := ⟨f, fd, [], [], ok_law_bare_names bt F, hm, F.kp, F.bindsN (ps := ["_law_some"]) fun _ _ _ _ _ _ us hl => match us, hl with | [_], _ => rfl, .nil, consts_nil⟩
abbrev M_law_59 : List Str := ["_law_script", "_law_flow_here", "_law_many", "_law_names_here", "_law_handed", "_law_found", "_law_due", "_law_k", "_law_some", "_law_kept"]
theorem sc_law_59 : FnScope M_law_59 ["_law_script"] (defScope s_law_59) := ⟨rfl, rfl, rfl, by decide +kernel, rfl, by decide +kernel, by decide +kernel⟩
theorem sc_law_flow : FnScope ["_law_script"] ["_law_script"] (defScope s_law_flow) := ⟨rfl, rfl, rfl, by decide +kernel, rfl, by decide +kernel, by decide +kernel⟩
theorem ok_law_flow (bt : Bt mg) (F : FunD K "_law_flow" "_law_flow" (defArgs s_law_flow) (defBody s_law_flow) (defScope s_law_flow) [] [] f fd) : FnOk P w K mg base CX0 1 f fd ["_law_script"] (spFlow ⟨K, P, w⟩) := F.ok sc_law_flow len_flow fun cdv A outer s H vs Q E hr h => ⟨t_flow ⟨K, P, w⟩, PSs.nox (pss_one (ps_ret (pe_lst (pa_cons (pe_callTy call_list_of (by rfl) (bt "list" (by decide)) (by decide +kernel) (pa_cons (pv 0) pa_nil)) (pa_cons pe_int (pa_cons pe_int (pa_cons pe_int (pa_cons pe_int pa_nil)))))))), pure_flow vs H Q E h⟩
theorem ok_law_59 {fF : Addr} {fdF : FuncData} (bt : Bt mg) (c_law_pick : Cal P w K mg base 1 "_law_pick" true ["_law_flow_here", "_law_many"] [] sp_law_pick) (c_law_names : Cal P w K mg base 4 "_law_names" true ["_law_flow_here", "_law_many"] [] sp_law_names) (c_all_sets : Cal P w K mg base 15 "all_sets" false ["names"] [] sp_all_sets) (c_law_alike : Cal P w K mg base 13 "_law_alike" false ["_law_found", "_law_due"] [] sp_law_alike) (c_law_canon_2 : Cal P w K mg base 3 "_law_canon" false ["_law_some"] [] sp_law_canon_2) (c_law_bare_names : Cal P w K mg base 1 "_law_bare_names" false ["_law_some"] [] sp_law_bare_names) (FF : FunD K "_law_flow" "_law_flow" (defArgs s_law_flow) (defBody s_law_flow) (defScope s_law_flow) [] [] fF fdF) (gF : mg "_law_flow" = some (.ref fF)) (F : FunD K "law" "law" (defArgs s_law_59) (defBody s_law_59) (defScope s_law_59) [] [] f fd) : FnOk P w K mg base CX0 16 f fd ["_law_script"] (spLaw ⟨K, P, w⟩) :=
  law_okN F sc_law_59 (by decide) (T := T_law_59) (fun cdv A outer s H E hr => ⟨ps_set (i := 1) sc_law_59.nd rfl (by first | exact Or.inl rfl | exact Or.inr rfl) (pe_call (ok_law_flow bt FF) (hr.mono (by decide)) (by rfl) gF FF.kp (FF.bindsN (ps := ["_law_script"]) fun _ _ _ _ _ _ us hl => match us, hl with | [_], _ => rfl) .nil pass0 (pa_cons (pv 0) pa_nil)), (s_cons (s_set (i := 2) sc_law_59.nd rfl (by first | exact Or.inl rfl | exact Or.inr rfl) (q_calL 1 c_law_pick hr (by first | decide | exact Nat.le_refl _ | (simp only [Nat.add_eq]; omega)) (by rfl) (qa_cons (q_int) qa_nil)))
    (s_cons (s_if (t_cmp (op_eqP hr.units) l_eq (q_calL 1 c_law_pick hr (by first | decide | exact Nat.le_refl _ | (simp only [Nat.add_eq]; omega)) (by rfl) (qa_cons (q_int) qa_nil)) (q_int) (nomark _)) (s_one (s_set (i := 2) sc_law_59.nd rfl (by first | exact Or.inl rfl | exact Or.inr rfl) (q_op op_addA l_add (q_int) (q_callTy l_int1 call_int1 (by rfl) (bt "int" (by decide)) (by decide +kernel) (qa_cons (q_cmp (op_eqP hr.units) l_eq (q_calL 1 c_law_pick hr (by first | decide | exact Nat.le_refl _ | (simp only [Nat.add_eq]; omega)) (by rfl) (qa_cons (q_int) qa_nil)) (q_int) (nomark _)) qa_nil))))) s_nil)
    (s_cons (s_set (i := 3) sc_law_59.nd rfl (by first | exact Or.inl rfl | exact Or.inr rfl) (q_calL 1 c_law_names hr (by first | decide | exact Nat.le_refl _ | (simp only [Nat.add_eq]; omega)) (by rfl) (qa_cons (qv 2) qa_nil)))
    (s_cons (s_set (i := 4) sc_law_59.nd rfl (by first | exact Or.inl rfl | exact Or.inr rfl) (EF.ev (f_callTy l_listF call_list_of (by rfl) (bt "list" (by decide)) (by decide +kernel) (qa_cons (qv 3) qa_nil))))
    (s_cons (s_setF (i := 5) sc_law_59.nd rfl (by first | exact Or.inl rfl | exact Or.inr rfl) (f_cal c_all_sets hr (by first | decide | exact Nat.le_refl _ | (simp only [Nat.add_eq]; omega)) (by rfl) (qa_cons (qv 4) qa_nil)))
    (s_cons (s_if (EW.et (w_or (t_cmp (op_neP hr.units) l_eq (qv 4) (qv 3) (nomark _)) (w_or (t_not (t_val (q_isi .list (qv 5) (by rfl) (bt "isinstance" (by decide)) (by rfl) (bt "list" (by decide)) (by decide +kernel)))) (w_or1 (t_cmp (op_neP hr.units) l_eq (q_callB l_len call_len (by rfl) (bt "len" (by decide)) (by decide +kernel) (qa_cons (qv 5) qa_nil)) (q_ix (EF.ev (f_lst (qa_cons (q_int) (qa_cons (q_int) (qa_cons (q_int) (qa_cons (q_int) (qa_cons (q_int) qa_nil))))))) (qv 2)) (nomark _)))))) (s_one (s_ret (q_bl))) s_nil)
    (s_cons (s_set (i := 6) sc_law_59.nd rfl (by first | exact Or.inl rfl | exact Or.inr rfl) (EF.ev (f_callB l_sortD (cr_sortedD hr.units) (by rfl) (bt "sorted" (by decide)) (by decide +kernel) (qa_cons (qv 3) qa_nil))))
    (s_cons (s_forOE 5 PassesOwn.never rfl (g_tup rfl (gs_cons (g_name sc_law_59.nd rfl (by first | exact Or.inl rfl | exact Or.inr rfl)) (gs_cons (g_name sc_law_59.nd rfl (by first | exact Or.inl rfl | exact Or.inr rfl)) gs_nil))) (s_cons (s_if (EW.et (w_or (t_not (t_val (q_isi .tuple (qv 8) (by rfl) (bt "isinstance" (by decide)) (by rfl) (bt "tuple" (by decide)) (by decide +kernel)))) (w_or (t_not (t_val (q_cal c_law_alike hr (by first | decide | exact Nat.le_refl _ | (simp only [Nat.add_eq]; omega)) (by rfl) (qa_cons (qv 8) (qa_cons (q_cal c_law_canon_2 hr (by first | decide | exact Nat.le_refl _ | (simp only [Nat.add_eq]; omega)) (by rfl) (qa_cons (qv 8) qa_nil)) qa_nil))))) (w_or1 (t_cmp (op_neP hr.units) l_eq (q_cal c_law_bare_names hr (by first | decide | exact Nat.le_refl _ | (simp only [Nat.add_eq]; omega)) (by rfl) (qa_cons (qv 8) qa_nil)) (qv 6) (nomark _)))))) (s_one (s_ret (q_bl))) s_nil)
    (s_one (s_if (EW.et (w_and (t_cmp op_gt l_cmp (qv 7) (q_int) (nomark _)) (w_and1 (t_not (t_cmp (op_ltD hr.units) l_ltD (q_ix (qv 5) (q_op op_sub l_sub (qv 7) (q_int))) (qv 8) (nomark _)))))) (s_one (s_ret (q_bl))) s_nil))) (by rfl) (bt "enumerate" (by decide)))
    (s_cons (s_set (i := 9) sc_law_59.nd rfl (by first | exact Or.inl rfl | exact Or.inr rfl) (EF.ev (f_callTy l_listF call_list_of (by rfl) (bt "list" (by decide)) (by decide +kernel) (qa_cons (qv 5) qa_nil))))
    (s_cons (s_expr (q_mo0 5 l_clear PySem.F.slot_list_clear PySem.F.type_list_clear mt_clear))
    (s_one (s_ret (q_or (q_cmp op_gt l_cmp (qv 2) (q_int) (nomark _)) (q_one (q_cmp (op_eqP hr.units) l_eq (q_cal c_all_sets hr (by first | decide | exact Nat.le_refl _ | (simp only [Nat.add_eq]; omega)) (by rfl) (qa_cons (qv 3) qa_nil)) (qv 9) (nomark _))))))))))))))))⟩) pure_law_59
end
theorem bt_of {h : Heap} {mg : Str → Option Value} {K : PySem.W.Frag} (X : K.In h) (G : h.Ns mainGlobals mg) (c : He.SaysD faL fnL K) : Bt mg := fun x hx => by
  have m : He.Fa.free x ∈ faL := by
    have e : faL = Bts.map He.Fa.free ++ faL.drop 21 := rfl
    rw [e]
    exact List.mem_append_left _ (List.mem_map_of_mem hx)
  obtain ⟨i, hi⟩ := List.getElem?_of_mem m
  exact He.free_ok X G (c.fact i hi)
theorem facts {P : Program} {w : World} {K : PySem.W.Frag} {h : Heap} {mg : Str → Option Value} {f : Addr} (X : K.In h) (G : h.Ns mainGlobals mg) (hfa : mg ("law" : Str) = some (.ref f)) (cF : SaysF faL fnL exB tsL w K) :
    ∃ fd : FuncData, (∀ (s : Shared) (v : Value), BindsTo s fd ⟨[v], []⟩ [("_law_script", v)]) ∧ ∀ base : Heap, K.In base → base.Ns mainGlobals mg → FnOk P w K mg base CX0 16 f fd ["_law_script"] (spLaw ⟨K, P, w⟩) := by
  have cE := cF.e
  have c := cE.d
  obtain ⟨fd0, F0⟩ := c.def_ 0 (d := d_name_of) rfl
  obtain ⟨fd1, F1⟩ := c.def_ 1 (d := d_mirrored) rfl
  obtain ⟨fd2, F2⟩ := c.def_ 2 (d := d_mirrored_row) rfl
  obtain ⟨fd3, F3⟩ := c.def_ 3 (d := d_open_canon) rfl
  obtain ⟨fd4, F4⟩ := c.def_ 4 (d := d_ring_canon) rfl
  obtain ⟨fd5, F5⟩ := c.def_ 5 (d := d_first_name) rfl
  obtain ⟨fd6, F6⟩ := c.def_ 6 (d := d_canon) rfl
  obtain ⟨fd7, F7⟩ := c.def_ 7 (d := d_partners) rfl
  obtain ⟨fd8, F8⟩ := c.def_ 8 (d := d_beads_from) rfl
  obtain ⟨fd9, F9⟩ := c.def_ 9 (d := d_set_of) rfl
  obtain ⟨fd10, F10⟩ := c.def_ 10 (d := d_joinings) rfl
  obtain ⟨fd11, F11⟩ := c.def_ 11 (d := d_all_joints) rfl
  obtain ⟨fd12, F12⟩ := c.def_ 12 (d := d_all_sets) rfl
  obtain ⟨fd13, F13⟩ := c.def_ 13 (d := d_law_pick) rfl
  obtain ⟨fd14, F14⟩ := c.def_ 14 (d := d_law_letters) rfl
  obtain ⟨fd15, F15⟩ := c.def_ 15 (d := d_law_name) rfl
  obtain ⟨fd16, F16⟩ := c.def_ 16 (d := d_law_names) rfl
  obtain ⟨fd17, F17⟩ := c.def_ 17 (d := d_law_alike) rfl
  obtain ⟨fd18, F18⟩ := c.def_ 18 (d := d_law_mirrored) rfl
  obtain ⟨fd19, F19⟩ := c.def_ 19 (d := d_law_first_name) rfl
  obtain ⟨fd20, F20⟩ := c.def_ 20 (d := d_law_canon_2) rfl
  obtain ⟨fd21, F21⟩ := c.def_ 21 (d := d_law_bare_names) rfl
  obtain ⟨fd22, F22⟩ := c.def_ 22 (d := d_law_flow) rfl
  obtain ⟨fd23, F23⟩ := c.def_ 23 (d := d_law_59) rfl
  have g0 := He.glo_ok X G (x := "name_of") (c.fact 21 rfl)
  have g1 := He.glo_ok X G (x := "mirrored") (c.fact 22 rfl)
  have g2 := He.glo_ok X G (x := "mirrored_row") (c.fact 23 rfl)
  have g3 := He.glo_ok X G (x := "open_canon") (c.fact 24 rfl)
  have g4 := He.glo_ok X G (x := "ring_canon") (c.fact 25 rfl)
  have g5 := He.glo_ok X G (x := "first_name") (c.fact 26 rfl)
  have g6 := He.glo_ok X G (x := "canon") (c.fact 27 rfl)
  have g7 := He.glo_ok X G (x := "partners") (c.fact 28 rfl)
  have g8 := He.glo_ok X G (x := "beads_from") (c.fact 29 rfl)
  have g9 := He.glo_ok X G (x := "set_of") (c.fact 30 rfl)
  have g10 := He.glo_ok X G (x := "joinings") (c.fact 31 rfl)
  have g11 := He.glo_ok X G (x := "all_joints") (c.fact 32 rfl)
  have g12 := He.glo_ok X G (x := "all_sets") (c.fact 33 rfl)
  have g13 := He.glo_ok X G (x := "_law_pick") (c.fact 34 rfl)
  have g14 := He.glo_ok X G (x := "_law_letters") (c.fact 35 rfl)
  have g15 := He.glo_ok X G (x := "_law_name") (c.fact 36 rfl)
  have g16 := He.glo_ok X G (x := "_law_names") (c.fact 37 rfl)
  have g17 := He.glo_ok X G (x := "_law_alike") (c.fact 38 rfl)
  have g18 := He.glo_ok X G (x := "_law_mirrored") (c.fact 39 rfl)
  have g19 := He.glo_ok X G (x := "_law_first_name") (c.fact 40 rfl)
  have g20 := He.glo_ok X G (x := "_law_canon") (c.fact 41 rfl)
  have g21 := He.glo_ok X G (x := "_law_bare_names") (c.fact 42 rfl)
  have g22 := He.glo_ok X G (x := "_law_flow") (c.fact 43 rfl)
  have hdc : dcE K = true := cE.ex
  have e := hfa.symm.trans (He.glo_ok X G (x := "law") (c.fact 44 rfl))
  cases e
  have b := FunD.bindsA (ps := ["_law_script"]) F23 fun _ _ _ _ _ _ us hl => match us, hl with | [_], _ => rfl
  refine ⟨fd23, fun s v => b s [v] rfl, fun base _ _ => ?_⟩
  have bt := bt_of X G c
  have c_name_of := cal_name_of (P := P) (w := w) (base := base) bt g0 F0
  have c_mirrored := cal_mirrored (P := P) (w := w) (base := base) bt g1 F1
  have c_mirrored_row := cal_mirrored_row (P := P) (w := w) (base := base) bt c_mirrored g2 F2
  have c_open_canon := cal_open_canon (P := P) (w := w) (base := base) bt c_name_of c_mirrored_row g3 F3
  have c_ring_canon := cal_ring_canon (P := P) (w := w) (base := base) bt c_name_of c_mirrored_row g4 F4
  have c_first_name := cal_first_name (P := P) (w := w) (base := base) bt c_name_of g5 F5
  have c_canon := cal_canon (P := P) (w := w) (base := base) bt c_open_canon c_ring_canon c_first_name g6 F6
  have c_partners := cal_partners (P := P) (w := w) (base := base) bt g7 F7
  have c_beads_from := cal_beads_from (P := P) (w := w) (base := base) bt g8 F8
  have c_set_of := cal_set_of (P := P) (w := w) (base := base) bt c_partners c_beads_from c_name_of c_canon g9 F9
  have c_joinings := cal_joinings (P := P) (w := w) (base := base) bt g10 F10
  have c_all_joints := cal_all_joints (P := P) (w := w) (base := base) bt c_joinings g11 F11
  have c_all_sets := cal_all_sets (P := P) (w := w) (base := base) bt c_all_joints c_set_of g12 F12
  have c_law_pick := cal_law_pick (P := P) (w := w) (base := base) bt g13 F13
  have c_law_letters := cal_law_letters (P := P) (w := w) (base := base) bt c_law_pick g14 F14
  have c_law_name := cal_law_name (P := P) (w := w) (base := base) bt c_law_letters c_law_pick g15 F15
  have c_law_names := cal_law_names (P := P) (w := w) (base := base) bt c_law_pick c_law_letters c_law_name g16 F16
  have c_law_alike := cal_law_alike (P := P) (w := w) (base := base) bt g17 F17
  have c_law_mirrored := cal_law_mirrored (P := P) (w := w) (base := base) bt g18 F18
  have c_law_first_name := cal_law_first_name (P := P) (w := w) (base := base) bt g19 F19
  have c_law_canon_2 := cal_law_canon_2 (P := P) (w := w) (base := base) bt c_law_mirrored c_law_first_name g20 F20
  have c_law_bare_names := cal_law_bare_names (P := P) (w := w) (base := base) bt g21 F21
  exact ok_law_59 bt c_law_pick c_law_names c_all_sets c_law_alike c_law_canon_2 c_law_bare_names F22 g22 F23
end SwLaw
open PySem PySem.W PySem.Calls PyProof.Rows
theorem PySem.Challenge.cw_strandwright_k59_all_sets_of_few_holds : PySem.Challenge.rw_strandwright_k59_all_sets_of_few.Holds := by
  w_on; o_law
  refine HandSHeadRun.head_any (r := OpenLaw.row PySem.Challenge.rw_strandwright_k59_all_sets_of_few) (q := view (OpenLaw.row PySem.Challenge.rw_strandwright_k59_all_sets_of_few).prog [31]) (H := SwLaw.hk) (ob := SwLaw.ob) (M := 20000) (loose := SwLaw.looseN) (d := HandSHeadRun.topDef (OpenLaw.row PySem.Challenge.rw_strandwright_k59_all_sets_of_few).prog 31) (kwd := []) SwLaw.ob_eq
    (by kernel_rfl) (fun s => by kernel_rfl) SwLaw.run (by kernel_rfl) (by kernel_rfl) (by kernel_rfl) (by rfl) (by first | assumption | decide +kernel) (by decide +kernel) SwLaw.bareR ?hw ?hc
  case hw => w_witness2
  case hc =>
    refine L2.walk_ofE (l := PySem.Challenge.rw_strandwright_k59_all_sets_of_few) (n := 63) (k := 16) (x := "_law_script") (CX := L2.CX0) rfl (by decide) (by kernel_rfl) ⟨rfl, by decide, by decide⟩ ?F (fun _ _ _ _ z => z)
    intro w mg fa h Y G hmg0
    obtain ⟨K, KX, c⟩ := Y
    have hmg : mg ("law" : PySem.Str) = some (.ref fa) := by
      have e : (HandSHeadRun.topDef (OpenLaw.row PySem.Challenge.rw_strandwright_k59_all_sets_of_few).prog 31).name = ("law" : PySem.Str) := by kernel_rfl
      rw [← e]
      exact hmg0
    obtain ⟨fd, hb, hF⟩ := SwLaw.facts (P := (PySem.Challenge.rw_strandwright_k59_all_sets_of_few).prog) (w := w) KX G hmg c
    exact ⟨K, fd, Sw.spLaw ⟨K, (PySem.Challenge.rw_strandwright_k59_all_sets_of_few).prog, w⟩, KX, hb, fun H a ns hl _ hS => ⟨a, ns, rfl, hl, hS, fun _ => rfl⟩, hF⟩
