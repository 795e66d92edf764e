import PyProof.Rows.All
import Wide.All
import OpenK.AllK
import Wide.FinOn
import HandS.ForMost
import HandS.Deep
import HandS.IsInst
import HandS.Exc
import HandS.ExcOwn
import HandS.TryOnly
import HandS.TryMany
import HandS.ExcCtx
import HandS.Conv
import KE.KDictKeyed
import KE.KeyNested
import HandS.TupAny
import HandS.Style
import KE.DataEq
import PyProof.StrBlock2
import HandS.Defaults
import HandS.HeadHook2
import HandS.HeadWalk
import HandS.Text
import KE.SortData
import KE.DataMinMax
import KE.DataCmp
import HandS.Iter
import HandS.SetFor
import HandS.SetKeys
import HandS.TupSets
import HandS.HeadHook1
import HandS.HeadHook3
import HandS.ExcInit
import HandS.ExcField
import HandS.ExcIs
import HandS.CallSlots
import HandS.Small
import KE.KExcIs
import HandS.Head0
import HandS.Head1
import HandS.Head2
import HandS.HeadEnd
import HandS.Walk
import HandS.StrMore
import HandS.StrSplit
import HandS.MapJoin
import KE.SortKeyHeap
import HandS.FromBytesMap
import HandS.SortKw
import HandS.TupLe
import KE.KDictSum
import KE.KDictCopyH
import PyProof.TupleOfSeq
import HandS.RaiseMore
import PyProof.ListStr
import HandS.JoinGen
import PyProof.TupleOfStr
import HandS.Strs
import KE.KDictDisplayH
import KE.KItemsList
import HandS.DictTup
import HandS.TupLen
import HandS.FStr
import PySem.Challenge.RW_strandwright_k65_papers_written_and_read
set_option Elab.async false
set_option linter.all false
set_option maxRecDepth 100000
namespace Sw
open PySem PySem.Spec L2

structure FgK where
  K : PySem.W.Frag
  P : Program
  w : World
instance : Coe FgK PySem.W.Frag := ⟨FgK.K⟩

abbrev D := PyData
def kD : Key → D
  | .inl i => .int i
  | .inr x => .str x
/-- a key as data -/
def nkD : NestedKey → D := NestedKey.data
/-- what stands at a: a dict whose keys are tuples, the tuples' places by it -/
def IsN (K : FgK) (a : Addr) (xs : List (NestedKey × Addr × V)) (o : HO) : Prop :=
  o = .ext fun h => xs.length ≤ sizeLine ∧ (a == sysModules) = false ∧ (∀ x ∈ xs, ∃ z, x.1 = .tup z ∧ x.1.depth ≤ 8) ∧ ∃ us : List (NestedKey × Addr × Value), Paired (fun (p : NestedKey × Addr × V) (q : NestedKey × Addr × Value) => p.1 = q.1 ∧ p.2.1 = q.2.1 ∧ RelV p.2.2 q.2.2) xs us ∧
    ∃ ob es ep, h.get? a = some ob ∧ ob.ExactDict ∧ ob.data = .dict es ep ∧ es.toList = us.map (entryOfKey (nestedKind K.P K.w)) ∧ (us.map (·.1)).Nodup
/-- a tuple that is tracked, or written -/
def TupAt (K : FgK) (H : Hp) (a : Addr) (xs : List V) : Prop := H a = some (.tup xs) ∨ SqT K (fun _ => none) a xs
theorem TupAt.sqT {K : FgK} {H : Hp} {a : Addr} {xs : List V} (h : TupAt K H a xs) : SqT K H a xs := by
  rcases h with h | (h | ⟨o, h⟩) | h
  · exact SqT.of h
  · cases h
  · cases h
  · exact .inr h
mutual
def At (K : FgK) (H : Hp) : D → V → Prop
  | .none, v => v = .non
  | .bool b, v => v = .bl b
  | .int i, v => v = .int i
  | .str x, v => v = .str x
  | .list ds, v => ∃ a xs, v = .ref a ∧ H a = some (.lst xs) ∧ AtAll K H ds xs
  | .tuple ds, v => ∃ a xs, v = .ref a ∧ TupAt K H a xs ∧ AtAll K H ds xs
  | .dict kds, v => ∃ a od o, v = .ref a ∧ H a = some (.frz od o) ∧ ((∃ kvs, o = .dK kvs ∧ AtK K H kds kvs) ∨ ∃ xs, IsN K a xs o ∧ AtN K H kds xs)
def AtAll (K : FgK) (H : Hp) : List D → List V → Prop
  | [], xs => xs = []
  | d :: ds, xs => ∃ x r, xs = x :: r ∧ At K H d x ∧ AtAll K H ds r
def AtK (K : FgK) (H : Hp) : List (D × D) → List (Key × V) → Prop
  | [], xs => xs = []
  | (k, d) :: ds, xs => ∃ kk x r, xs = (kk, x) :: r ∧ k = kD kk ∧ At K H d x ∧ AtK K H ds r
def AtN (K : FgK) (H : Hp) : List (D × D) → List (NestedKey × Addr × V) → Prop
  | [], xs => xs = []
  | (k, d) :: ds, xs => ∃ kk b x r, xs = (kk, b, x) :: r ∧ k = nkD kk ∧ At K H k (.ref b) ∧ At K H d x ∧ AtN K H ds r
end
abbrev Le (F F' : Hp) : Prop := ∀ b o, F b = some o → F' b = some o
theorem Le.rfl' {F : Hp} : Le F F := fun _ _ h => h
theorem Le.trans' {F F' F'' : Hp} (a : Le F F') (b : Le F' F'') : Le F F'' := fun c o h => b c o (a c o h)
theorem Le.tupAt {K : FgK} {F F' : Hp} (h : Le F F') {a : Addr} {xs : List V} (q : TupAt K F a xs) : TupAt K F' a xs := by
  rcases q with q | q
  · exact .inl (h _ _ q)
  · exact .inr q
section
variable {K : FgK} {F F' : Hp}
mutual
theorem At.mono (h : Le F F') : ∀ (d : D) (v : V), At K F d v → At K F' d v
  | .none, v, q => by simpa [At] using q
  | .bool b, v, q => by simpa [At] using q
  | .int i, v, q => by simpa [At] using q
  | .str x, v, q => by simpa [At] using q
  | .list ds, v, q => by
    simp only [At] at q ⊢
    obtain ⟨a, xs, e, q, r⟩ := q
    exact ⟨a, xs, e, h _ _ q, AtAll.mono h ds xs r⟩
  | .tuple ds, v, q => by
    simp only [At] at q ⊢
    obtain ⟨a, xs, e, q, r⟩ := q
    exact ⟨a, xs, e, Le.tupAt h q, AtAll.mono h ds xs r⟩
  | .dict kds, v, q => by
    simp only [At] at q ⊢
    obtain ⟨a, od, o, e, q0, q⟩ := q
    rcases q with ⟨kvs, q, r⟩ | ⟨xs, q, r⟩
    · exact ⟨a, od, o, e, h _ _ q0, .inl ⟨kvs, q, AtK.mono h kds kvs r⟩⟩
    · exact ⟨a, od, o, e, h _ _ q0, .inr ⟨xs, q, AtN.mono h kds xs r⟩⟩
theorem AtAll.mono (h : Le F F') : ∀ (ds : List D) (xs : List V), AtAll K F ds xs → AtAll K F' ds xs
  | [], xs, q => by simpa [AtAll] using q
  | d :: ds, xs, q => by
    simp only [AtAll] at q ⊢
    obtain ⟨x, r, e, q, s⟩ := q
    exact ⟨x, r, e, At.mono h d x q, AtAll.mono h ds r s⟩
theorem AtK.mono (h : Le F F') : ∀ (ds : List (D × D)) (xs : List (Key × V)), AtK K F ds xs → AtK K F' ds xs
  | [], xs, q => by simpa [AtK] using q
  | (k, d) :: ds, xs, q => by
    simp only [AtK] at q ⊢
    obtain ⟨kk, x, r, e, e2, q, s⟩ := q
    exact ⟨kk, x, r, e, e2, At.mono h d x q, AtK.mono h ds r s⟩
theorem AtN.mono (h : Le F F') : ∀ (ds : List (D × D)) (xs : List (NestedKey × Addr × V)), AtN K F ds xs → AtN K F' ds xs
  | [], xs, q => by simpa [AtN] using q
  | (k, d) :: ds, xs, q => by
    simp only [AtN] at q ⊢
    obtain ⟨kk, b, x, r, e, e2, q1, q, s⟩ := q
    exact ⟨kk, b, x, r, e, e2, At.mono h k (.ref b) q1, At.mono h d x q, AtN.mono h ds r s⟩
end
theorem AtAll.nil : AtAll K F [] [] := by simp [AtAll]
theorem AtAll.cons {d : D} {ds : List D} {x : V} {xs : List V} (h : At K F d x) (r : AtAll K F ds xs) : AtAll K F (d :: ds) (x :: xs) := by
  simp only [AtAll]
  exact ⟨x, xs, rfl, h, r⟩
theorem AtAll.len : ∀ {ds : List D} {xs : List V}, AtAll K F ds xs → xs.length = ds.length
  | [], xs, h => by simp only [AtAll] at h; subst h; rfl
  | d :: ds, xs, h => by
    simp only [AtAll] at h
    obtain ⟨x, r, rfl, _, q⟩ := h
    simp [AtAll.len q]
theorem AtAll.app : ∀ {ds es : List D} {xs ys : List V}, AtAll K F ds xs → AtAll K F es ys → AtAll K F (ds ++ es) (xs ++ ys)
  | [], es, xs, ys, h, g => by simp only [AtAll] at h; subst h; exact g
  | d :: ds, es, xs, ys, h, g => by
    simp only [AtAll] at h
    obtain ⟨x, r, rfl, a, q⟩ := h
    exact AtAll.cons a (AtAll.app q g)
theorem AtAll.get : ∀ {ds : List D} {xs : List V} {i : Nat} {d : D}, AtAll K F ds xs → ds[i]? = some d → ∃ x, xs[i]? = some x ∧ At K F d x
  | [], _, _, _, _, e => by simp at e
  | d :: ds, xs, i, d', h, e => by
    simp only [AtAll] at h
    obtain ⟨x, r, rfl, a, q⟩ := h
    cases i with
    | zero => simp at e; subst e; exact ⟨x, rfl, a⟩
    | succ i => exact AtAll.get (i := i) q (by simpa using e)
theorem AtAll.set : ∀ {ds : List D} {xs : List V} {i : Nat} {d : D} {x : V}, AtAll K F ds xs → At K F d x → AtAll K F (ds.set i d) (xs.set i x)
  | [], xs, i, d, x, h, g => by simp only [AtAll] at h; subst h; exact AtAll.nil
  | d0 :: ds, xs, i, d, x, h, g => by
    simp only [AtAll] at h
    obtain ⟨y, r, rfl, a, q⟩ := h
    cases i with
    | zero => exact AtAll.cons g q
    | succ i => exact AtAll.cons a (AtAll.set q g)
theorem AtAll.drop : ∀ {ds : List D} {xs : List V} (n : Nat), AtAll K F ds xs → AtAll K F (ds.drop n) (xs.drop n)
  | _, _, 0, h => h
  | [], xs, n + 1, h => by simp only [AtAll] at h; subst h; exact AtAll.nil
  | d :: ds, xs, n + 1, h => by
    simp only [AtAll] at h
    obtain ⟨y, r, rfl, a, q⟩ := h
    exact AtAll.drop n q
theorem AtAll.take : ∀ {ds : List D} {xs : List V} (n : Nat), AtAll K F ds xs → AtAll K F (ds.take n) (xs.take n)
  | _, _, 0, h => by simp; exact AtAll.nil
  | [], xs, n + 1, h => by simp only [AtAll] at h; subst h; exact AtAll.nil
  | d :: ds, xs, n + 1, h => by
    simp only [AtAll] at h
    obtain ⟨y, r, rfl, a, q⟩ := h
    exact AtAll.cons a (AtAll.take n q)
end

inductive Ct where
  | lst (ds : List D)
  /-- t: the keys are tuples -/
  | dic (t : Bool) (kds : List (D × D))
def Ct.toD : Ct → D
  | .lst ds => .list ds
  | .dic _ kds => .dict kds
inductive SV where
  | un
  /-- a slot that holds just this value (an exception in hand) -/
  | raw (v : V)
  | dat (d : D)
  /-- a list or a dict that only this slot holds; l: it was lent by the caller -/
  | obj (l : Bool) (c : Ct)
abbrev SV.own (l : Bool) (ds : List D) : SV := .obj l (.lst ds)
abbrev SV.dic (t : Bool) (kds : List (D × D)) : SV := .obj false (.dic t kds)
/-- what stands at p is this list, this dict -/
def CtOk (K : FgK) (F : Hp) (p : Addr) (o : HO) : Ct → Prop
  | .lst ds => ∃ xs, o = .lst xs ∧ AtAll K F ds xs
  | .dic false kds => ∃ kvs, o = .dK kvs ∧ AtK K F kds kvs
  | .dic true kds => ∃ xs, IsN K p xs o ∧ AtN K F kds xs
theorem CtOk.mono {K : FgK} {F F' : Hp} (h : Le F F') {p : Addr} {o : HO} {c : Ct} (a : CtOk K F p o c) : CtOk K F' p o c := by
  cases c with
  | lst ds =>
    obtain ⟨xs, e, a⟩ := a
    exact ⟨xs, e, AtAll.mono h _ _ a⟩
  | dic t kds =>
    cases t with
    | false =>
      obtain ⟨xs, e, a⟩ := a
      exact ⟨xs, e, AtK.mono h _ _ a⟩
    | true =>
      obtain ⟨xs, e, a⟩ := a
      exact ⟨xs, e, AtN.mono h _ _ a⟩
structure Ec where
  H0 : Hp
  F0 : Hp
  la : Option Addr
def Own (σ : L2.St) (env : List SV) (b : Addr) : Prop := ∃ (i : Nat) (l : Bool) (c : Ct), env[i]? = some (SV.obj l c) ∧ σ[i]? = some (some (.ref b))
def SlotOk (K : FgK) (C : Ec) (H F : Hp) (o : Option (Option V)) : SV → Prop
  | .un => True
  | .raw v => o = some (some v)
  | .dat d => ∃ v, o = some (some v) ∧ At K F d v
  | .obj l c => ∃ p u, o = some (some (.ref p)) ∧ H p = some u ∧ F p = none ∧ (if l = true then C.la = some p else C.H0 p = none) ∧ CtOk K F p u c
structure RelB (K : FgK) (C : Ec) (σ : L2.St) (H F : Hp) (env : List SV) : Prop where
  frz : Le F H
  mono : Le C.F0 F
  new : ∀ b o, F b = some o → C.F0 b = some o ∨ C.H0 b = none
  frame : ∀ b o, C.H0 b = some o → C.la ≠ some b → H b = some o
  la : ∀ a, C.la = some a → (∃ o : {o : HO // Mut (some o)}, H a = some o.1) ∧ F a = none ∧ ∃ o, C.H0 a = some o
  len : env.length = σ.length
  slot : ∀ (i : Nat) (sv : SV), env[i]? = some sv → SlotOk K C H F σ[i]? sv
  dist : ∀ (i j : Nat) (l : Bool) (ds : Ct) (m : Bool) (es : Ct), env[i]? = some (SV.obj l ds) → env[j]? = some (SV.obj m es) → σ[i]? = σ[j]? → i = j
/-- a refusal: its class, its field and what the field holds -/
structure XV where
  c : Str
  f : Option (Str × D)
/-- what is wished of a refusal, with the slots as they then are -/
abbrev XP := XV → List SV → Prop
/-- a datum that is no object, as a value -/
def atomV : D → Option V
  | .none => some .non
  | .bool b => some (.bl b)
  | .int i => some (.int i)
  | .str x => some (.str x)
  | _ => none
/-- the refusal in the heap: its class's object, its own dict -/
def XvOk (mg : Str → Option Value) (H : Hp) (xv : XV) (cls : Value) (d : Option Addr) : Prop :=
  mg xv.c = some cls ∧ match xv.f with
    | none => d = none
    | some (f, x) => ∃ dd v, d = some dd ∧ H dd = some (.xd [(f, v)]) ∧ atomV x = some v
structure FgX where
  b : FgK
  mg : Str → Option Value
  W : WX
  Ep : XP
  ck : Ec → Prop
instance : Coe FgX FgK := ⟨FgX.b⟩
def XOk (K : FgX) (C : Ec) : Prop := K.ck C ∧ ∀ (σ' : L2.St) (H' F' : Hp) (env' : List SV) (cls : Value) (d : Option Addr) (xv : XV), RelB K.b C σ' H' F' env' → (∀ dd, d = some dd → C.H0 dd = none ∧ F' dd = none ∧ ¬ Own σ' env' dd) → XvOk K.mg H' xv cls d → K.Ep xv env' → K.W cls d σ' H'
structure Rel (K : FgX) (C : Ec) (σ : L2.St) (H F : Hp) (env : List SV) : Prop extends RelB K.b C σ H F env where
  xok : XOk K C
/-- a context with what is wished of refusals -/
theorem sky_imp {B : Heap} {l : List Env} {a : Addr} {Z Z' : Obj → Prop} {L : Addr} {h : Heap} (z : ∀ o, Z o → Z' o) (x : Sky B l a Z L h) : Sky B l a Z' L h := by
  have tr : ∀ {fl : Value}, PySem.HandSPX.TracedZ h B a Z fl → PySem.HandSPX.TracedZ h B a Z' fl := fun x => by
    obtain ⟨oe, vs, T, oT, ts, he, hz, r⟩ := x
    exact ⟨oe, vs, T, oT, ts, he, z _ hz, r⟩
  rcases x with ⟨hB, hn, hl, oe, vs, he, hz, hd, h1⟩ | fl | hh
  · exact .inl ⟨hB, hn, hl, oe, vs, he, z _ hz, hd, h1⟩
  · exact .inr (.inl ⟨fl.1, fl.2.1, fl.2.2.1, tr fl.2.2.2⟩)
  · exact .inr (.inr ⟨hh.1, hh.2.1, hh.2.2.1, tr hh.2.2.2⟩)
/-- what is taken of exceptions: those whose context is None, all of them -/
structure TK (b : Bool) (X : L2.Cx) (W : WX) : Prop where
  n : L2N.Takes X W
  a : b = true → L2.Takes X W
theorem TK.of {b : Bool} {X : L2.Cx} {W : WX} (t : L2.Takes X W) : TK b X W := ⟨fun u s' ⟨a, B, sI, pins, σ, H, cls, d, e, I, nb, up, sky, na, os, ag, w⟩ => t u s' ⟨a, B, sI, pins, σ, H, cls, d, e, I, nb, up, sky_imp (fun _ z => z.zc) sky, na, os, ag, w⟩, fun _ => t⟩
structure Cz extends L2.Cx where
  W : WX
  Ep : XP
  al : Bool
  tk : TK al toCx W
  ck : Ec → Prop
instance : Coe Cz L2.Cx := ⟨Cz.toCx⟩
abbrev Cz.fr (X : Cz) : FgX := ⟨⟨X.K, X.prog, X.w⟩, X.mg, X.W, X.Ep, X.ck⟩
/-- no refusal -/
abbrev wNo : WX := fun _ _ _ _ => False
abbrev pNo : XP := fun _ _ => False
theorem xok_no {K : FgX} {C : Ec} (h : K.Ep = pNo) (c : K.ck C := by trivial) : XOk K C := ⟨c, fun _ _ _ _ _ _ _ _ _ _ e => by rw [h] at e; exact e.elim⟩
structure Stp (K : FgX) (C : Ec) (σ : L2.St) (H F : Hp) (env : List SV) (H' F' : Hp) (env' : List SV) : Prop where
  rel : Rel K C σ H' F' env'
  ff : Le F F'
  fr : ∀ b o, H b = some o → ¬ Own σ env b → H' b = some o
  fn : ∀ b o, F' b = some o → F b = some o ∨ H b = none ∨ Own σ env b
  ow : ∀ (i : Nat) (l : Bool) (ds : Ct), env'[i]? = some (SV.obj l ds) → ∃ ds', env[i]? = some (SV.obj l ds')
  dm : ∀ b, H' b = none → H b = none
section
variable {K : FgX} {C : Ec} {σ : L2.St} {H F H1 F1 H2 F2 : Hp} {env env1 env2 : List SV}
theorem Stp.refl (R : Rel K C σ H F env) : Stp K C σ H F env H F env := ⟨R, fun _ _ h => h, fun _ _ h _ => h, fun _ _ h => .inl h, fun i l ds h => ⟨ds, h⟩, fun _ h => h⟩
theorem Own.sub (w : ∀ (i : Nat) (l : Bool) (ds : Ct), env1[i]? = some (SV.obj l ds) → ∃ ds', env[i]? = some (SV.obj l ds')) {b : Addr} (h : Own σ env1 b) : Own σ env b := by
  obtain ⟨i, l, ds, e, s⟩ := h
  obtain ⟨ds', e'⟩ := w i l ds e
  exact ⟨i, l, ds', e', s⟩
theorem Stp.trans (a : Stp K C σ H F env H1 F1 env1) (b : Stp K C σ H1 F1 env1 H2 F2 env2) : Stp K C σ H F env H2 F2 env2 where
  rel := b.rel
  ff := fun c o h => b.ff c o (a.ff c o h)
  fr := fun c o h n => b.fr c o (a.fr c o h n) fun z => n (Own.sub a.ow z)
  fn := fun c o h => by
    rcases b.fn c o h with z | z | z
    · exact a.fn c o z
    · exact .inr (.inl (a.dm c z))
    · exact .inr (.inr (Own.sub a.ow z))
  ow := fun i l ds h => by
    obtain ⟨ds', e⟩ := b.ow i l ds h
    exact a.ow i l ds' e
  dm := fun c h => a.dm c (b.dm c h)
/-- a new object, known for good -/
theorem Rel.alloc (R : Rel K C σ H F env) {p : Addr} {o : HO} (hp : H p = none) : Stp K C σ H F env (upd H p o) (upd F p o) env := by
  have fp : F p = none := by
    cases q : F p with
    | none => rfl
    | some u => rw [R.frz p u q] at hp; cases hp
  have h0 : C.H0 p = none := by
    cases q : C.H0 p with
    | none => rfl
    | some u =>
      by_cases hl : C.la = some p
      · obtain ⟨⟨xs, e⟩, _⟩ := R.la p hl
        rw [e] at hp; cases hp
      · rw [R.frame p u q hl] at hp; cases hp
  have ff : Le F (upd F p o) := fun b u h => by
    rw [upd_ne (ne_of_none h fp)]; exact h
  refine ⟨⟨⟨fun b u h => ?_, fun b u h => ff b u (R.mono b u h), fun b u h => ?_, fun b u h n => ?_, fun a h => ?_, R.len, fun i sv e => ?_, R.dist⟩, R.xok⟩, ff, fun b u h _ => ?_, fun b u h => ?_, fun i l ds h => ⟨ds, h⟩, fun b h => ?_⟩
  · by_cases e : b = p
    · subst e; rw [upd_same] at h ⊢; exact h
    · rw [upd_ne e] at h ⊢; exact R.frz b u h
  · by_cases e : b = p
    · subst e; exact .inr h0
    · rw [upd_ne e] at h; exact R.new b u h
  · have q := R.frame b u h n
    rw [upd_ne (ne_of_none q hp)]; exact q
  · obtain ⟨⟨xs, e⟩, f, g⟩ := R.la a h
    have ne : a ≠ p := ne_of_none e hp
    exact ⟨⟨xs, by rw [upd_ne ne]; exact e⟩, by rw [upd_ne ne]; exact f, g⟩
  · have q := R.slot i sv e
    cases sv with
    | un => trivial
    | raw z => exact q
    | dat d =>
      obtain ⟨v, e1, a⟩ := q
      exact ⟨v, e1, At.mono ff d v a⟩
    | obj l ds =>
      obtain ⟨r, xs, e1, e2, e3, e4, e5⟩ := q
      have ne : r ≠ p := ne_of_none e2 hp
      exact ⟨r, xs, e1, by rw [upd_ne ne]; exact e2, by rw [upd_ne ne]; exact e3, e4, e5.mono ff⟩
  · rw [upd_ne (ne_of_none h hp)]; exact h
  · by_cases e : b = p
    · subst e; exact .inr (.inl hp)
    · rw [upd_ne e] at h; exact .inl h
  · by_cases e : b = p
    · subst e; exact hp
    · rw [upd_ne e] at h; exact h
/-- a list that stands, not known and in no slot, is known from here on -/
theorem Rel.freeze (R : Rel K C σ H F env) {p : Addr} {o : HO} (hp : H p = some o) (fp : F p = none) (h0 : C.H0 p = none) (no : ¬ Own σ env p) : Rel K C σ H (upd F p o) env := by
  have ff : Le F (upd F p o) := fun b u h => by
    rw [upd_ne (ne_of_none h fp)]; exact h
  refine ⟨⟨fun b u h => ?_, fun b u h => ff b u (R.mono b u h), fun b u h => ?_, R.frame, fun a h => ?_, R.len, fun i sv e => ?_, R.dist⟩, R.xok⟩
  · by_cases e : b = p
    · subst e; rw [upd_same] at h; cases h; exact hp
    · rw [upd_ne e] at h; exact R.frz b u h
  · by_cases e : b = p
    · subst e; exact .inr h0
    · rw [upd_ne e] at h; exact R.new b u h
  · obtain ⟨e, f, g⟩ := R.la a h
    refine ⟨e, ?_, g⟩
    have ne : a ≠ p := by
      rintro rfl
      obtain ⟨o', g⟩ := g
      rw [g] at h0; cases h0
    rw [upd_ne ne]; exact f
  · have q := R.slot i sv e
    cases sv with
    | un => trivial
    | raw z => exact q
    | dat d =>
      obtain ⟨v, e1, a⟩ := q
      exact ⟨v, e1, At.mono ff d v a⟩
    | obj l ds =>
      obtain ⟨r, xs, e1, e2, e3, e4, e5⟩ := q
      have ne : r ≠ p := by
        rintro rfl
        exact no ⟨i, l, ds, e, e1⟩
      exact ⟨r, xs, e1, e2, by rw [upd_ne ne]; exact e3, e4, e5.mono ff⟩
/-- the list of a slot is known from here on -/
theorem Rel.freezeSlot (R : Rel K C σ H F env) {i : Nat} {ds : List D} (he : env[i]? = some (.own false ds)) :
    ∃ F1 p, σ[i]? = some (some (.ref p)) ∧ Stp K C σ H F env H F1 (env.set i (.dat (.list ds))) ∧ At K F1 (.list ds) (.ref p) := by
  obtain ⟨p, u, e1, e2, e3, e4, xs, rfl, e5⟩ := R.slot i _ he
  rw [if_neg (by decide)] at e4
  have ff : Le F (upd F p (.lst xs)) := fun b u h => by
    rw [upd_ne (ne_of_none h e3)]; exact h
  have hi : i < env.length := (List.getElem?_eq_some_iff.mp he).1
  have at1 : At K (upd F p (.lst xs)) (.list ds) (.ref p) := by
    exact (by simp only [At]; exact ⟨p, xs, rfl, upd_same, AtAll.mono ff _ _ e5⟩)
  have oth : ∀ (j : Nat) (l : Bool) (es : Ct), (env.set i (.dat (.list ds)))[j]? = some (.obj l es) → j ≠ i ∧ env[j]? = some (.obj l es) := fun j l es h => by
    by_cases e : j = i
    · subst e; rw [List.getElem?_set_self hi] at h; cases h
    · rw [List.getElem?_set_ne (Ne.symm e)] at h; exact ⟨e, h⟩
  refine ⟨upd F p (.lst xs), p, e1, ⟨⟨⟨fun b u h => ?_, fun b u h => ff b u (R.mono b u h), fun b u h => ?_, R.frame, fun a h => ?_, by rw [List.length_set]; exact R.len, fun j sv e => ?_, fun j k l es m fs h1 h2 h3 => ?_⟩, R.xok⟩, ff, fun b u h _ => h, fun b u h => ?_, fun j l es h => ⟨es, (oth j l es h).2⟩, fun _ h => h⟩, at1⟩
  · by_cases e : b = p
    · subst e; rw [upd_same] at h; cases h; exact e2
    · rw [upd_ne e] at h; exact R.frz b u h
  · by_cases e : b = p
    · subst e; exact .inr e4
    · rw [upd_ne e] at h; exact R.new b u h
  · obtain ⟨e, f, g⟩ := R.la a h
    refine ⟨e, ?_, g⟩
    have ne : a ≠ p := by
      rintro rfl
      obtain ⟨o', g⟩ := g
      rw [g] at e4; cases e4
    rw [upd_ne ne]; exact f
  · by_cases e' : j = i
    · subst e'
      rw [List.getElem?_set_self hi] at e
      cases e
      exact ⟨_, e1, at1⟩
    · rw [List.getElem?_set_ne (Ne.symm e')] at e
      have q := R.slot j sv e
      cases sv with
      | un => trivial
      | raw z => exact q
      | dat d =>
        obtain ⟨v, f1, a⟩ := q
        exact ⟨v, f1, At.mono ff d v a⟩
      | obj l es =>
        obtain ⟨r, ys, f1, f2, f3, f4, f5⟩ := q
        have ne : r ≠ p := by
          rintro rfl
          exact e' (R.dist j i l es false (.lst ds) e he (f1.trans e1.symm))
        exact ⟨r, ys, f1, f2, by rw [upd_ne ne]; exact f3, f4, f5.mono ff⟩
  · obtain ⟨_, h1⟩ := oth j l es h1
    obtain ⟨_, h2⟩ := oth k m fs h2
    exact R.dist j k l es m fs h1 h2 h3
  · by_cases e : b = p
    · subst e; exact .inr (.inr ⟨i, false, .lst ds, he, e1⟩)
    · rw [upd_ne e] at h; exact .inl h
end
end Sw

set_option Elab.async false
set_option linter.all false
set_option maxRecDepth 100000
namespace Sw
open PySem PySem.Spec L2

inductive OV where
  | dv (x : D)
  | sl (i : Nat)
def OvOk (K : FgK) (σ : L2.St) (F : Hp) : OV → V → Prop
  | .dv x, v => At K F x v
  | .sl i, v => σ[i]? = some (some v)
def svD : SV → Option D
  | .dat d => some d
  | .obj _ c => some c.toD
  | .un => none
  | .raw _ => none
/-- the data of a value, as it is now -/
def OV.rd (env : List SV) : OV → Option D
  | .dv x => some x
  | .sl i => env[i]?.bind svD
/-- the data of a value, known from here on -/
def OV.fz (env : List SV) : OV → Option (D × List SV)
  | .dv x => some (x, env)
  | .sl i => match env[i]? with
    | some (.dat d) => some (d, env)
    | some (.obj false (.lst ds)) => some (.list ds, env.set i (.dat (.list ds)))
    | _ => none
def fzAll (env : List SV) : List OV → Option (List D × List SV)
  | [] => some ([], env)
  | o :: r => (o.fz env).bind fun p => (fzAll p.2 r).map fun q => (p.1 :: q.1, q.2)
/-- data that is read: the outermost list may be a slot's own -/
def Vw (K : FgK) (H F : Hp) : D → V → Prop
  | .list ds, v => ∃ p xs, v = .ref p ∧ H p = some (.lst xs) ∧ AtAll K F ds xs
  | .dict kds, v => ∃ p o, v = .ref p ∧ Rd H p o ∧ ∃ t, CtOk K F p o (.dic t kds)
  | d, v => At K F d v
section
variable {K : FgX} {C : Ec} {σ : L2.St} {H F H1 F1 H2 F2 : Hp} {env env1 env2 : List SV} {ov : OV} {v : V} {d : D}
theorem OvOk.of {d : D} (h : At K F d v) : OvOk K σ F (.dv d) v := h
theorem OvOk.mono (h : Le F F1) (a : OvOk K σ F ov v) : OvOk K σ F1 ov v := by
  cases ov with
  | dv x => exact At.mono h x v a
  | sl i => exact a
theorem Vw.of (R : Le F H) (a : At K F d v) : Vw K H F d v := by
  cases d with
  | list ds =>
    simp only [At] at a
    obtain ⟨p, xs, e, h, r⟩ := a
    exact ⟨p, xs, e, R _ _ h, r⟩
  | none => exact a
  | bool b => exact a
  | int i => exact a
  | str x => exact a
  | tuple ds => exact a
  | dict kds =>
    simp only [At] at a
    obtain ⟨p, od, o, e, h, r⟩ := a
    rcases r with r | r
    · exact ⟨p, o, e, .inr ⟨od, R _ _ h⟩, false, r⟩
    · exact ⟨p, o, e, .inr ⟨od, R _ _ h⟩, true, r⟩
theorem rd_vw (R : Rel K C σ H F env) (a : OvOk K σ F ov v) (e : ov.rd env = some d) : Vw K H F d v := by
  cases ov with
  | dv x =>
    simp only [OV.rd, Option.some.injEq] at e
    subst e
    exact Vw.of R.frz a
  | sl i =>
    simp only [OV.rd] at e
    cases q : env[i]? with
    | none => rw [q] at e; cases e
    | some sv =>
      rw [q] at e
      have w := R.slot i sv q
      have a : σ[i]? = some (some v) := a
      cases sv with
      | un => cases e
      | raw z => cases e
      | dat d' =>
        simp only [Option.bind_some, svD, Option.some.injEq] at e
        subst e
        obtain ⟨v', e1, a'⟩ := w
        rw [a] at e1
        cases e1
        exact Vw.of R.frz a'
      | obj l c =>
        simp only [Option.bind_some, svD, Option.some.injEq] at e
        subst e
        obtain ⟨p, u, e1, e2, e3, e4, e5⟩ := w
        rw [a] at e1
        cases e1
        cases c with
        | lst ds =>
          obtain ⟨xs, rfl, e5⟩ := e5
          exact ⟨p, xs, rfl, e2, e5⟩
        | dic t kds => exact ⟨p, u, rfl, .inl e2, t, e5⟩
theorem fz_ok (R : Rel K C σ H F env) (a : OvOk K σ F ov v) (e : ov.fz env = some (d, env1)) : ∃ F1, Stp K C σ H F env H F1 env1 ∧ At K F1 d v := by
  cases ov with
  | dv x =>
    simp only [OV.fz, Option.some.injEq, Prod.mk.injEq] at e
    obtain ⟨rfl, rfl⟩ := e
    exact ⟨F, Stp.refl R, a⟩
  | sl i =>
    have a : σ[i]? = some (some v) := a
    simp only [OV.fz] at e
    split at e
    · rename_i d' q
      simp only [Option.some.injEq, Prod.mk.injEq] at e
      obtain ⟨rfl, rfl⟩ := e
      obtain ⟨v', e1, a'⟩ := R.slot i _ q
      rw [a] at e1
      cases e1
      exact ⟨F, Stp.refl R, a'⟩
    · rename_i ds q
      simp only [Option.some.injEq, Prod.mk.injEq] at e
      obtain ⟨rfl, rfl⟩ := e
      obtain ⟨F1, p, e1, st, a'⟩ := R.freezeSlot q
      rw [a] at e1
      cases e1
      exact ⟨F1, st, a'⟩
    · cases e
def OvsOk (K : FgK) (σ : L2.St) (F : Hp) : List OV → List V → Prop
  | [], vs => vs = []
  | o :: os, vs => ∃ v r, vs = v :: r ∧ OvOk K σ F o v ∧ OvsOk K σ F os r
theorem OvsOk.mono (h : Le F F1) : ∀ {os : List OV} {vs : List V}, OvsOk K σ F os vs → OvsOk K σ F1 os vs
  | [], vs, a => a
  | o :: os, vs, a => by
    obtain ⟨v, r, e, b, c⟩ := a
    exact ⟨v, r, e, b.mono h, OvsOk.mono h c⟩
theorem fzAll_ok : ∀ {os : List OV} {vs : List V} {ds : List D} {F : Hp} {env env1 : List SV}, Rel K C σ H F env → OvsOk K σ F os vs → fzAll env os = some (ds, env1) → ∃ F1, Stp K C σ H F env H F1 env1 ∧ AtAll K F1 ds vs
  | [], vs, ds, F, env, env1, R, a, e => by
    simp only [fzAll, Option.some.injEq, Prod.mk.injEq] at e
    obtain ⟨rfl, rfl⟩ := e
    have a : vs = [] := a
    exact ⟨F, Stp.refl R, by simpa [AtAll] using a⟩
  | o :: os, vs, ds, F, env, env1, R, a, e => by
    obtain ⟨v, r, rfl, b, c⟩ := a
    simp only [fzAll] at e
    cases q : o.fz env with
    | none => rw [q] at e; cases e
    | some p =>
      obtain ⟨d, env2⟩ := p
      rw [q] at e
      simp only [Option.bind_some] at e
      cases q2 : fzAll env2 os with
      | none => rw [q2] at e; cases e
      | some p2 =>
        obtain ⟨ds2, env3⟩ := p2
        rw [q2] at e
        simp only [Option.map_some, Option.some.injEq, Prod.mk.injEq] at e
        obtain ⟨rfl, rfl⟩ := e
        obtain ⟨F1, s1, a1⟩ := fz_ok R b q
        obtain ⟨F2, s2, a2⟩ := fzAll_ok s1.rel (c.mono s1.ff) q2
        exact ⟨F2, s1.trans s2, AtAll.cons (At.mono s2.ff _ _ a1) a2⟩
end

abbrev PE' := List SV → (OV → List SV → Prop) → Prop
abbrev PF' := List SV → (List D → List SV → Prop) → Prop
abbrev PT' := List SV → (Bool → List SV → Prop) → Prop
abbrev PA' := List SV → (List OV → List SV → Prop) → Prop
def LE (K : FgX) (t : TE) (T : PE') : Prop := ∀ (C : Ec) (σ : L2.St) (H F : Hp) (env : List SV) (Q : VK) (Qp : OV → List SV → Prop), Rel K C σ H F env →
  (∀ v H' F' env' ov, Stp K C σ H F env H' F' env' → OvOk K σ F' ov v → Qp ov env' → Q v H') → T env Qp → t σ H Q
/-- a list that nobody else holds -/
def LF (K : FgX) (t : TE) (T : PF') : Prop := ∀ (C : Ec) (σ : L2.St) (H F : Hp) (env : List SV) (Q : VK) (Qp : List D → List SV → Prop), Rel K C σ H F env →
  (∀ p xs ds H' F' env', Stp K C σ H F env H' F' env' → H' p = some (.lst xs) → F' p = none → C.H0 p = none → ¬ Own σ env' p → H p = none → AtAll K F' ds xs → Qp ds env' → Q (.ref p) H') → T env Qp → t σ H Q
def LT (K : FgX) (t : TT) (T : PT') : Prop := ∀ (C : Ec) (σ : L2.St) (H F : Hp) (env : List SV) (Q : Bool → Hp → Prop) (Qp : Bool → List SV → Prop), Rel K C σ H F env →
  (∀ b H' F' env', Stp K C σ H F env H' F' env' → Qp b env' → Q b H') → T env Qp → t σ H Q
def LA (K : FgX) (t : TA) (T : PA') : Prop := ∀ (C : Ec) (σ : L2.St) (H F : Hp) (env : List SV) (Q : List V → Hp → Prop) (Qp : List OV → List SV → Prop), Rel K C σ H F env →
  (∀ vs H' F' env' ovs, Stp K C σ H F env H' F' env' → OvsOk K σ F' ovs vs → Qp ovs env' → Q vs H') → T env Qp → t σ H Q
inductive RV where
  | dt (x : D)
  | fr (ds : List D)
def RV.toD : RV → D
  | .dt x => x
  | .fr ds => .list ds
structure PEnds where
  nx : List SV → Prop
  rt : RV → List SV → Prop
  bk : List SV → Prop := fun _ => False
  ct : List SV → Prop := fun _ => False
def RvOk (K : FgK) (C : Ec) (H F : Hp) : RV → V → Prop
  | .dt x, v => At K F x v
  | .fr ds, v => ∃ p xs, v = .ref p ∧ H p = some (.lst xs) ∧ F p = none ∧ C.H0 p = none ∧ AtAll K F ds xs
structure EndsOk (K : FgX) (C : Ec) (F : Hp) (D : Ends) (Dp : PEnds) : Prop where
  nx : ∀ σ' H' F' env', Rel K C σ' H' F' env' → Le F F' → Dp.nx env' → D.nx σ' H'
  rt : ∀ σ' H' F' env' rv v, Rel K C σ' H' F' env' → Le F F' → RvOk K C H' F' rv v → Dp.rt rv env' → D.rt v H'
  bk : ∀ σ' H' F' env', Rel K C σ' H' F' env' → Le F F' → Dp.bk env' → D.bk σ' H'
  ct : ∀ σ' H' F' env', Rel K C σ' H' F' env' → Le F F' → Dp.ct env' → D.ct σ' H'
theorem EndsOk.mono {K : FgX} {C : Ec} {F F1 : Hp} {D : Ends} {Dp : PEnds} (e : EndsOk K C F D Dp) (h : Le F F1) : EndsOk K C F1 D Dp :=
  ⟨fun σ' H' F' env' R l => e.nx σ' H' F' env' R (h.trans' l), fun σ' H' F' env' rv v R l => e.rt σ' H' F' env' rv v R (h.trans' l), fun σ' H' F' env' R l => e.bk σ' H' F' env' R (h.trans' l), fun σ' H' F' env' R l => e.ct σ' H' F' env' R (h.trans' l)⟩
abbrev PS' := PEnds → List SV → Prop
def LS (K : FgX) (t : TS) (T : PS') : Prop := ∀ (C : Ec) (σ : L2.St) (H F : Hp) (env : List SV) (D : Ends) (Dp : PEnds), Rel K C σ H F env → EndsOk K C F D Dp → T Dp env → t D σ H
structure EB (X : Cz) (sts : List Stmt) (T : PS') : Prop where
  ex : ∃ t, PSs X sts t ∧ LS X.fr t T

section
variable {X : Cz}
theorem At.list_of {K : FgK} {F : Hp} {p : Addr} {xs : List V} {ds : List D} (h : F p = some (.lst xs)) (a : AtAll K F ds xs) : At K F (.list ds) (.ref p) := by
  simp only [At]
  exact ⟨p, xs, rfl, h, a⟩
theorem At.tup_of {K : FgK} {F : Hp} {p : Addr} {xs : List V} {ds : List D} (h : F p = some (.tup xs)) (a : AtAll K F ds xs) : At K F (.tuple ds) (.ref p) := by
  simp only [At]
  exact ⟨p, xs, rfl, .inl h, a⟩
end
end Sw

set_option Elab.async false
set_option linter.all false
set_option maxRecDepth 100000
namespace Sw
open PySem PySem.Spec L2

def LO2 (K : FgX) (r : R2) (g : D → D → Option D) : Prop := ∀ (C : Ec) (σ : L2.St) (H F : Hp) (env : List SV) (x y : V) (dx dy d : D) (Q : VK), Rel K C σ H F env → Vw K H F dx x → Vw K H F dy y → g dx dy = some d →
  (∀ v H' F', Stp K C σ H F env H' F' env → At K F' d v → Q v H') → r x y H Q
theorem LO2.or {K : FgX} {r r' : R2} {g g' : D → D → Option D} (h : LO2 K r g) (h' : LO2 K r' g') : LO2 K (fun x y H Q => r x y H Q ∨ r' x y H Q) (fun a b => (g a b).or (g' a b)) := fun C σ H F env x y dx dy d Q R a b e k => by
  have e : (g dx dy).or (g' dx dy) = some d := e
  cases q : g dx dy with
  | none =>
    rw [q] at e
    exact .inr (h' C σ H F env x y dx dy d Q R a b e k)
  | some z =>
    rw [q] at e
    cases e
    exact .inl (h C σ H F env x y dx dy d Q R a b q k)
section
variable {X : Cz} {K : FgX}
def qOp (g : D → D → Option D) (A B : PE') : PE' := fun env Q => A env fun o1 env1 => B env1 fun o2 env2 => ∃ d1, o1.rd env2 = some d1 ∧ ∃ d2, o2.rd env2 = some d2 ∧ ∃ d, g d1 d2 = some d ∧ Q (.dv d) env2
theorem LE.op {r : R2} {g : D → D → Option D} {ta tb : TE} {A B : PE'} (hl : LO2 K r g) (la : LE K ta A) (lb : LE K tb B) : LE K (tOp r ta tb) (qOp g A B) := fun C σ H F env Q Qp R k q => by
  refine la C σ H F env _ _ R (fun v1 H1 F1 env1 o1 s1 a1 q1 => ?_) q
  refine lb C σ H1 F1 env1 _ _ s1.rel (fun v2 H2 F2 env2 o2 s2 a2 q2 => ?_) q1
  obtain ⟨d1, e1, d2, e2, d, e, q2⟩ := q2
  exact hl C σ H2 F2 env2 v1 v2 d1 d2 d Q s2.rel (rd_vw s2.rel (a1.mono s2.ff) e1) (rd_vw s2.rel a2 e2) e fun v H' F' s3 a3 => k v H' F' env2 (.dv d) ((s1.trans s2).trans s3) a3 q2
theorem Vw.int {H F : Hp} {i : Int} {x : V} (h : Vw K H F (.int i) x) : x = .int i := by simpa [Vw, At] using h
theorem Vw.str {H F : Hp} {i : Str} {x : V} (h : Vw K H F (.str i) x) : x = .str i := by simpa [Vw, At] using h
theorem Vw.bl {H F : Hp} {i : Bool} {x : V} (h : Vw K H F (.bool i) x) : x = .bl i := by simpa [Vw, At] using h
theorem Vw.non {H F : Hp} {x : V} (h : Vw K H F .none x) : x = .non := by simpa [Vw, At] using h
theorem Vw.tup0 {H F : Hp} {ds : List D} {x : V} (R : Le F H) (h : Vw K H F (.tuple ds) x) : ∃ a xs, x = .ref a ∧ TupAt K H a xs ∧ AtAll K F ds xs := by
  have h : At K F (.tuple ds) x := h
  simp only [At] at h
  obtain ⟨a, xs, e, q, r⟩ := h
  exact ⟨a, xs, e, Le.tupAt R q, r⟩
theorem Vw.tup {H F : Hp} {ds : List D} {x : V} (R : Le F H) (h : Vw K H F (.tuple ds) x) : ∃ a xs, x = .ref a ∧ SqT K H a xs ∧ AtAll K F ds xs := by
  obtain ⟨a, xs, e, q, r⟩ := h.tup0 R
  exact ⟨a, xs, e, q.sqT, r⟩
end
end Sw

set_option Elab.async false
set_option linter.all false
set_option maxRecDepth 100000
namespace Sw
open PySem PySem.Spec L2

section
variable {X : Cz} {K : FgX}
def ltS (a b : Str) : Bool := decide (a.cps.toList < b.cps.toList)
end
end Sw

set_option Elab.async false
set_option linter.all false
set_option maxRecDepth 100000
namespace Sw
open PySem PySem.Spec L2

section
variable {X : Cz} {K : FgX}
def VwAll (K : FgK) (H F : Hp) : List D → List V → Prop
  | [], xs => xs = []
  | d :: ds, xs => ∃ x r, xs = x :: r ∧ Vw K H F d x ∧ VwAll K H F ds r
theorem VwAll.one {H F : Hp} {d : D} {xs : List V} (h : VwAll K H F [d] xs) : ∃ x, xs = [x] ∧ Vw K H F d x := by
  obtain ⟨x, r, rfl, a, q⟩ := h
  have q : r = [] := q
  subst q
  exact ⟨x, rfl, a⟩
theorem VwAll.two {H F : Hp} {d e : D} {xs : List V} (h : VwAll K H F [d, e] xs) : ∃ x y, xs = [x, y] ∧ Vw K H F d x ∧ Vw K H F e y := by
  obtain ⟨x, r, rfl, a, q⟩ := h
  obtain ⟨y, rfl, b⟩ := VwAll.one q
  exact ⟨x, y, rfl, a, b⟩
/-- the classes asked for -/
inductive Ty where | str | int | bool | list | tuple | dict
def Ty.name : Ty → String
  | .str => "str" | .int => "int" | .bool => "bool" | .list => "list" | .tuple => "tuple" | .dict => "dict"
theorem IsN.obj {P : Program} {w : World} {K : FgK} {a : Addr} {zs : List (NestedKey × Addr × V)} {o : HO} {H : Hp} {h : Heap} (n : IsN K a zs o) (q : ObjOk P w H h a o) : zs.length ≤ sizeLine ∧ (a == sysModules) = false ∧ (∀ x ∈ zs, ∃ z, x.1 = .tup z ∧ x.1.depth ≤ 8) ∧ ∃ us : List (NestedKey × Addr × Value), Paired (fun (p : NestedKey × Addr × V) (q : NestedKey × Addr × Value) => p.1 = q.1 ∧ p.2.1 = q.2.1 ∧ RelV p.2.2 q.2.2) zs us ∧
    ∃ ob es ep, h.get? a = some ob ∧ ob.ExactDict ∧ ob.data = .dict es ep ∧ es.toList = us.map (entryOfKey (nestedKind K.P K.w)) ∧ (us.map (·.1)).Nodup := by
  have n : o = _ := n
  subst n
  exact q.1
end
end Sw

set_option Elab.async false
set_option linter.all false
set_option maxRecDepth 100000
namespace Sw
open PySem PySem.Spec L2

section
variable {X : Cz} {K : FgX}
abbrev TG' := D → List SV → (List SV → Prop) → Prop
/-- what a target leaves: only the slots S have changed, they hold data -/
structure Tgt (S : List Nat) (σ σ' : L2.St) (env env' : List SV) : Prop where
  oth : ∀ j, j ∉ S → σ'[j]? = σ[j]? ∧ env'[j]? = env[j]?
  mem : ∀ j l ds, j ∈ S → env'[j]? = some (SV.obj l ds) → env[j]? = some (SV.obj l ds) ∧ σ'[j]? = σ[j]?
  len : σ'.length = σ.length
def LG (K : FgX) (S : List Nat) (t : TG) (T : TG') : Prop := ∀ (C : Ec) (σ : L2.St) (H F : Hp) (env : List SV) (v : V) (d : D) (Q : L2.St → Hp → Prop) (Qp : List SV → Prop), Rel K C σ H F env → At K F d v →
  (∀ σ' env', Rel K C σ' H F env' → Tgt S σ σ' env env' → Qp env' → Q σ' H) → T d env Qp → t v σ H Q
theorem Tgt.trans {S S' : List Nat} {σ σ1 σ2 : L2.St} {env env1 env2 : List SV} (a : Tgt S σ σ1 env env1) (b : Tgt S' σ1 σ2 env1 env2) : Tgt (S ++ S') σ σ2 env env2 := by
  refine ⟨fun j hj => ?_, fun j l ds hj h => ?_, b.len.trans a.len⟩
  · rw [List.mem_append, not_or] at hj
    obtain ⟨e1, e2⟩ := a.oth j hj.1
    obtain ⟨e3, e4⟩ := b.oth j hj.2
    exact ⟨e3.trans e1, e4.trans e2⟩
  · by_cases hb : j ∈ S'
    · obtain ⟨e1, e2⟩ := b.mem j l ds hb h
      by_cases ha : j ∈ S
      · obtain ⟨e3, e4⟩ := a.mem j l ds ha e1
        exact ⟨e3, e2.trans e4⟩
      · obtain ⟨e3, e4⟩ := a.oth j ha
        exact ⟨e4.symm.trans e1, e2.trans e3⟩
    · obtain ⟨e1, e2⟩ := b.oth j hb
      rw [e2] at h
      by_cases ha : j ∈ S
      · obtain ⟨e3, e4⟩ := a.mem j l ds ha h
        exact ⟨e3, e1.trans e4⟩
      · obtain ⟨e3, e4⟩ := a.oth j ha
        exact ⟨e4.symm.trans h, e1.trans e3⟩
def YOk (K : FgK) (F : Hp) (o : Option D) (H : Hp) (x : V) (H' : Hp) : Prop :=
  (H' = H ∧ ∃ d, o = some d ∧ At K F d x) ∨ ∃ T xs es, H T = none ∧ H' = upd H T (.tup xs) ∧ x = .ref T ∧ o = some (.tuple es) ∧ AtAll K F es xs
/-- an item has come -/
theorem YOk.rel {C : Ec} {σ : L2.St} {H F : Hp} {env : List SV} {o : Option D} {x : V} {H' : Hp} (R : Rel K C σ H F env) (y : YOk K F o H x H') : ∃ F' d, o = some d ∧ Stp K C σ H F env H' F' env ∧ At K F' d x := by
  rcases y with ⟨rfl, d, e, a⟩ | ⟨T, xs, es, hT, rfl, rfl, e, a⟩
  · exact ⟨F, d, e, Stp.refl R, a⟩
  · have s := R.alloc (o := .tup xs) hT
    exact ⟨_, _, e, s, At.tup_of upd_same (AtAll.mono s.ff _ _ a)⟩
theorem YOk.mono {F F' : Hp} (h : Le F F') {o : Option D} {H H' : Hp} {x : V} (y : YOk K F o H x H') : YOk K F' o H x H' := by
  rcases y with ⟨e, d, e2, a⟩ | ⟨T, xs, es, hT, e1, e2, e, a⟩
  · exact .inl ⟨e, d, e2, At.mono h _ _ a⟩
  · exact .inr ⟨T, xs, es, hT, e1, e2, e, AtAll.mono h _ _ a⟩
end
end Sw

set_option Elab.async false
set_option linter.all false
set_option maxRecDepth 100000
namespace Sw
open PySem PySem.Spec L2

section
variable {X : Cz} {K : FgX}
theorem AtAll.one {F : Hp} {d : D} {xs : List V} (h : AtAll K F [d] xs) : ∃ x, xs = [x] ∧ At K F d x := by
  simp only [AtAll] at h
  obtain ⟨x, r, rfl, a, q⟩ := h
  subst q
  exact ⟨x, rfl, a⟩
end

section
variable {K : FgX} {C : Ec} {σ : L2.St} {H F : Hp} {env : List SV} {vs : List Nat}
/-- an object that nobody knows is changed -/
theorem Stp.other {H1 F1 H4 F4 : Hp} {env1 env4 : List SV} (acc : Stp K C σ H1 F1 env1 H4 F4 env4) {p : Addr} {o u : HO} (h1 : H1 p = none) (hp : H4 p = some u) (fp : F4 p = none) (h0 : C.H0 p = none) (no : ¬ Own σ env4 p) : Stp K C σ H1 F1 env1 (upd H4 p o) F4 env4 := by
  have R := acc.rel
  refine ⟨⟨⟨fun b v h => ?_, R.mono, R.new, fun b v h n => ?_, fun a h => ?_, R.len, fun i sv e => ?_, R.dist⟩, R.xok⟩, acc.ff, fun b v h n => ?_, acc.fn, acc.ow, fun b h => ?_⟩
  · rw [upd_ne (ne_of_none h fp)]; exact R.frz b v h
  · rw [upd_ne (ne_of_none h h0)]; exact R.frame b v h n
  · obtain ⟨e, f, o', g⟩ := R.la a h
    refine ⟨?_, f, o', g⟩
    obtain ⟨xs, e⟩ := e
    exact ⟨xs, by rw [upd_ne (ne_of_none g h0)]; exact e⟩
  · have q := R.slot i sv e
    cases sv with
    | un => trivial
    | raw z => exact q
    | dat d => exact q
    | obj l ds =>
      obtain ⟨r, xs, e1, e2, e3, e4, e5⟩ := q
      have ne : r ≠ p := by
        rintro rfl
        exact no ⟨i, l, ds, e, e1⟩
      exact ⟨r, xs, e1, by rw [upd_ne ne]; exact e2, e3, e4, e5⟩
  · rw [upd_ne (ne_of_none h h1)]; exact acc.fr b v h n
  · by_cases e : b = p
    · subst e; exact h1
    · rw [upd_ne e] at h; exact acc.dm b h
end
section
variable {X : Cz}
abbrev FgX.no (K : FgX) : FgX := ⟨K.b, K.mg, wNo, pNo, fun _ => True⟩
section
variable {K : FgX} {C : Ec} {σ : L2.St} {H F H' F' : Hp} {env env' : List SV}
theorem Rel.dn (R : Rel K C σ H F env) : Rel K.no C σ H F env := ⟨R.toRelB, xok_no rfl⟩
theorem Rel.up (R : Rel K.no C σ H F env) (x : XOk K C) : Rel K C σ H F env := ⟨R.toRelB, x⟩
theorem Stp.up (s : Stp K.no C σ H F env H' F' env') (x : XOk K C) : Stp K C σ H F env H' F' env' := ⟨s.rel.up x, s.ff, s.fr, s.fn, s.ow, s.dm⟩
theorem LE.up {t : TE} {T : PE'} (h : LE K.no t T) : LE K t T := fun C σ H F env Q Qp R k q => h C σ H F env Q Qp R.dn (fun v H' F' env' ov st => k v H' F' env' ov (st.up R.xok)) q
theorem LT.up {t : TT} {T : PT'} (h : LT K.no t T) : LT K t T := fun C σ H F env Q Qp R k q => h C σ H F env Q Qp R.dn (fun b H' F' env' st => k b H' F' env' (st.up R.xok)) q
theorem LG.up {S : List Nat} {t : TG} {T : TG'} (h : LG K.no S t T) : LG K S t T := fun C σ H F env v d Q Qp R a k q => h C σ H F env v d Q Qp R.dn a (fun σ' env' R' => k σ' env' (R'.up R.xok)) q
end
end
end Sw

set_option Elab.async false
set_option linter.all false
set_option maxRecDepth 100000
namespace Sw
open PySem PySem.Spec L2

abbrev PSp := Option (List D) → List D → (RV → Option (List D) → Prop) → Prop
/-- behind a call -/
structure Post (K : FgK) (la : Option Addr) (H F : Hp) (rv : RV) (fl : Option (List D)) (v : V) (H' F' : Hp) : Prop where
  frz : Le F' H'
  mono : Le F F'
  new : ∀ b o, F' b = some o → F b = some o ∨ H b = none
  frame : ∀ b o, H b = some o → la ≠ some b → H' b = some o
  lent : ∀ a, la = some a → ∃ xs ds, H' a = some (.lst xs) ∧ F' a = none ∧ fl = some ds ∧ AtAll K F' ds xs
  res : RvOk K ⟨H, F, la⟩ H' F' rv v
/-- the promise of a def by data -/
def spOf (K : FgK) (l : Bool) (ps : PSp) : Sp := fun vs H Q _ => ∃ (F : Hp) (la : Option Addr) (fl : Option (List D)) (ds : List D) (ws : List V), Le F H ∧ AtAll K F ds ws ∧
  (if l = true then ∃ a xs fd, vs = .ref a :: ws ∧ la = some a ∧ H a = some (.lst xs) ∧ F a = none ∧ fl = some fd ∧ AtAll K F fd xs else vs = ws ∧ la = none ∧ fl = none) ∧
  ∃ Qp, ps fl ds Qp ∧ ∀ v H' F' rv fl', Post K la H F rv fl' v H' F' → Qp rv fl' → Q v H'
section
variable {X : Cz}
/-- behind a call the slots stand -/
theorem Post.stp {K : FgX} {C : Ec} {σ : L2.St} {H F : Hp} {env : List SV} {rv : RV} {fl : Option (List D)} {v : V} {H' F' : Hp} (R : Rel K C σ H F env) (p : Post K none H F rv fl v H' F') : Stp K C σ H F env H' F' env := by
  have no : ∀ b o, H b = some o → F b = none → F' b = none := fun b o h f => by
    cases q : F' b with
    | none => rfl
    | some u =>
      rcases p.new b u q with z | z
      · rw [f] at z; cases z
      · rw [h] at z; cases z
  refine ⟨⟨⟨p.frz, R.mono.trans' p.mono, fun b o h => ?_, fun b o h n => p.frame b o (R.frame b o h n) (fun z => nomatch z), fun a h => ?_, R.len, fun i sv e => ?_, R.dist⟩, R.xok⟩, p.mono, fun b o h _ => p.frame b o h (fun z => nomatch z), fun b o h => ?_, fun i l ds h => ⟨ds, h⟩, fun b h => ?_⟩
  · rcases p.new b o h with z | z
    · exact R.new b o z
    · cases q : C.H0 b with
      | none => exact .inr rfl
      | some u =>
        by_cases hl : C.la = some b
        · obtain ⟨⟨xs, e⟩, _⟩ := R.la b hl
          rw [e] at z; cases z
        · rw [R.frame b u q hl] at z; cases z
  · obtain ⟨⟨xs, e⟩, f, g⟩ := R.la a h
    exact ⟨⟨xs, p.frame a _ e (fun z => nomatch z)⟩, no a _ e f, g⟩
  · have q := R.slot i sv e
    cases sv with
    | un => trivial
    | raw z => exact q
    | dat d =>
      obtain ⟨v, e1, a⟩ := q
      exact ⟨v, e1, At.mono p.mono _ _ a⟩
    | obj l ds =>
      obtain ⟨r, xs, e1, e2, e3, e4, e5⟩ := q
      exact ⟨r, xs, e1, p.frame r _ e2 (fun z => nomatch z), no r _ e2 e3, e4, e5.mono p.mono⟩
  · rcases p.new b o h with z | z
    · exact .inl z
    · exact .inr (.inl z)
  · cases q : H b with
    | none => rfl
    | some u =>
      rw [p.frame b u q (fun z => nomatch z)] at h; cases h
/-- a list that came back is nobody's -/
theorem fresh_of {K : FgX} {C : Ec} {σ : L2.St} {H F H' F' : Hp} {env env' : List SV} (R : Rel K C σ H F env) (s : Stp K C σ H F env H' F' env') {p : Addr} (h : H p = none) : C.H0 p = none ∧ ¬ Own σ env' p := by
  constructor
  · cases q : C.H0 p with
    | none => rfl
    | some u =>
      by_cases hl : C.la = some p
      · obtain ⟨⟨xs, e⟩, _⟩ := R.la p hl
        rw [e] at h; cases h
      · rw [R.frame p u q hl] at h; cases h
  · intro z
    obtain ⟨i, l, ds, e, e2⟩ := Own.sub s.ow z
    obtain ⟨r, xs, e1, e3, _⟩ := R.slot i _ e
    rw [e2] at e1
    cases e1
    rw [e3] at h; cases h
theorem Stp.freeze {K : FgX} {C : Ec} {σ : L2.St} {H F H' F' : Hp} {env env' : List SV} (s : Stp K C σ H F env H' F' env') {p : Addr} {o : HO} (hn : H p = none) (hp : H' p = some o) (fp : F' p = none) (h0 : C.H0 p = none) (no : ¬ Own σ env' p) : Stp K C σ H F env H' (upd F' p o) env' := by
  have ff : Le F' (upd F' p o) := fun b u h => by
    rw [upd_ne (ne_of_none h fp)]; exact h
  refine ⟨s.rel.freeze hp fp h0 no, s.ff.trans' ff, s.fr, fun b u h => ?_, s.ow, s.dm⟩
  by_cases e : b = p
  · subst e; exact .inr (.inl hn)
  · rw [upd_ne e] at h; exact s.fn b u h
theorem known_of {K : FgX} {C : Ec} {σ : L2.St} {H F H' F' : Hp} {env env' : List SV} {la : Option Addr} {rv : RV} {v : V} (R : Rel K C σ H F env) (s : Stp K C σ H F env H' F' env') (r : RvOk K ⟨H, F, la⟩ H' F' rv v) : ∃ F2, Stp K C σ H F env H' F2 env' ∧ At K F2 rv.toD v := by
  cases rv with
  | dt d => exact ⟨F', s, r⟩
  | fr ds =>
    obtain ⟨p, xs, rfl, h1, h2, h3, h4⟩ := r
    have h3 : H p = none := h3
    obtain ⟨h0, no⟩ := fresh_of R s h3
    have ff : Le F' (upd F' p (.lst xs)) := fun b u h => by
      rw [upd_ne (ne_of_none h h2)]; exact h
    exact ⟨_, s.freeze h3 h1 h2 h0 no, At.list_of upd_same (AtAll.mono ff _ _ h4)⟩
def qCall (sp : PSp) (T : PA') : PE' := fun env Q => T env fun os env1 => ∃ ds env2, fzAll env1 os = some (ds, env2) ∧ sp none ds fun rv _ => Q (.dv rv.toD) env2
def fCall (sp : PSp) (T : PA') : PF' := fun env Q => T env fun os env1 => ∃ ds env2, fzAll env1 os = some (ds, env2) ∧ sp none ds fun rv _ => ∃ es, rv = .fr es ∧ Q es env2
variable {k : Nat} {f : Addr} {fd : FuncData} {ps : List Str} {sp : PSp} {x : Str} {e : Expr} {es : List Expr} {T : PA'} {p pos : Pos}
/-- the defaults of a def: constants -/
def constsOk (dvs : List V) (dds : List D) : Prop := ∀ (K : FgK) (F : Hp), AtAll K F dds dvs
def qAddD (T : PA') (dds : List D) : PA' := fun env Q => T env fun os env1 => Q (os ++ dds.map OV.dv) env1
theorem OvsOk.app {K : FgK} {σ : L2.St} {F : Hp} {dds : List D} {dvs : List V} (h : AtAll K F dds dvs) : ∀ {os : List OV} {vs : List V}, OvsOk K σ F os vs → OvsOk K σ F (os ++ dds.map OV.dv) (vs ++ dvs)
  | [], vs, a => by
    have a : vs = [] := a
    subst a
    simp only [List.nil_append]
    have key : ∀ (dds : List D) (dvs : List V), AtAll K F dds dvs → OvsOk K σ F (dds.map OV.dv) dvs := fun dds => by
      induction dds with
      | nil => intro dvs h; exact (show dvs = [] by simpa [AtAll] using h)
      | cons d dds ih =>
        intro dvs h
        simp only [AtAll] at h
        obtain ⟨x, r, rfl, a, q⟩ := h
        exact ⟨x, r, rfl, a, ih r q⟩
    exact key dds dvs h
  | o :: os, vs, a => by
    obtain ⟨v, r, rfl, b, c⟩ := a
    exact ⟨v, r ++ dvs, rfl, b, OvsOk.app h c⟩
theorem LE.call {t : TA} {dvs : List V} {dds : List D} {E : XK} (hd : constsOk dvs dds) (l1 : LA X.fr t T) : LE X.fr (tCall (spOf X.fr false sp) dvs E t) (qCall sp (qAddD T dds)) := fun C σ H F env Q Qp R kk q => by
  refine l1 C σ H F env _ _ R (fun vs H1 F1 env1 os s1 a1 q1 => ?_) q
  obtain ⟨ds, env2, e1, q1⟩ := q1
  obtain ⟨F2, s2, a2⟩ := fzAll_ok s1.rel (a1.app (hd X.fr F1)) e1
  refine ⟨F2, none, none, ds, vs ++ dvs, s2.rel.frz, a2, by rw [if_neg (by decide)]; exact ⟨rfl, rfl, rfl⟩, _, q1, fun v H' F' rv fl' pp qq => ?_⟩
  have s3 := pp.stp s2.rel
  obtain ⟨F3, s4, a4⟩ := known_of s2.rel s3 pp.res
  exact kk v H' F3 env2 (.dv rv.toD) ((s1.trans s2).trans s4) a4 qq
theorem LF.call {t : TA} {dvs : List V} {dds : List D} {E : XK} (hd : constsOk dvs dds) (l1 : LA X.fr t T) : LF X.fr (tCall (spOf X.fr false sp) dvs E t) (fCall sp (qAddD T dds)) := fun C σ H F env Q Qp R kk q => by
  refine l1 C σ H F env _ _ R (fun vs H1 F1 env1 os s1 a1 q1 => ?_) q
  obtain ⟨ds, env2, e1, q1⟩ := q1
  obtain ⟨F2, s2, a2⟩ := fzAll_ok s1.rel (a1.app (hd X.fr F1)) e1
  refine ⟨F2, none, none, ds, vs ++ dvs, s2.rel.frz, a2, by rw [if_neg (by decide)]; exact ⟨rfl, rfl, rfl⟩, _, q1, fun v H' F' rv fl' pp qq => ?_⟩
  have s3 := pp.stp s2.rel
  obtain ⟨es', rfl, qq⟩ := qq
  obtain ⟨r, xs, rfl, h1, h2, h3, h4⟩ := pp.res
  have h3 : H1 r = none := h3
  obtain ⟨h0, no⟩ := fresh_of s2.rel s3 h3
  exact kk r xs es' H' F' env2 ((s1.trans s2).trans s3) h1 h2 h0 no (s1.dm r (s2.dm r h3)) h4 qq
end
end Sw

set_option Elab.async false
set_option linter.all false
set_option maxRecDepth 100000
namespace Sw
open PySem PySem.Spec L2

section
variable {P : Program} {w : World} {K : PySem.W.Frag} {mg : Str → Option Value} {base : Heap}
/-- a def that can be called: the name, whether its first argument is lent, its parameters, what defaults are put in, its worth -/
structure Cal (P : Program) (w : World) (K : PySem.W.Frag) (mg : Str → Option Value) (base : Heap) (k : Nat) (x : Str) (l : Bool) (ps : List Str) (dds : List D) (sp : PSp) : Prop where
  ex : ∃ (f : Addr) (fd : FuncData) (dvs : List V) (ds : List Value), FnOk P w K mg base CX0 k f fd ps (spOf ⟨K, P, w⟩ l sp) ∧ mg x = some (.ref f) ∧ PySem.W.keepIn K (.ref f) = true ∧ Binds K fd ps ds ∧ Vals dvs ds ∧ constsOk dvs dds
theorem Cal.mono {k k' : Nat} {x : Str} {l : Bool} {ps : List Str} {dds : List D} {sp : PSp} (c : Cal P w K mg base k x l ps dds sp) (h : k ≤ k') : Cal P w K mg base k' x l ps dds sp := by
  obtain ⟨f, fd, dvs, ds, h1, h2⟩ := c.ex
  exact ⟨f, fd, dvs, ds, h1.mono h, h2⟩
end
end Sw

set_option Elab.async false
set_option linter.all false
set_option maxRecDepth 100000
namespace Sw
open PySem PySem.Spec L2
/-- all signs are small letters -/
def Low (z : Str) : Prop := ∀ c ∈ z.cps.toList, 97 ≤ c ∧ c ≤ 122
/-- a name -/
def Nm (z : Str) : Prop := Low z ∧ 1 ≤ z.length ∧ z.length ≤ 6
theorem len_tl (z : Str) : z.length = z.cps.toList.length := rfl
theorem tl_app (a b : Str) : (a ++ b).cps.toList = a.cps.toList ++ b.cps.toList := by
  show (a.cps ++ b.cps).toList = _
  simp
theorem len_app (a b : Str) : (a ++ b).length = a.length + b.length := by
  rw [len_tl, len_tl, len_tl, tl_app, List.length_append]
theorem Low.app {a b : Str} (h : Low a) (g : Low b) : Low (a ++ b) := fun c hc => by
  rw [tl_app] at hc
  rcases List.mem_append.mp hc with z | z
  · exact h c z
  · exact g c z
end Sw

set_option Elab.async false
set_option linter.all false
set_option maxRecDepth 100000
namespace Sw
open PySem PySem.Spec L2
/-- a ≤ b -/
def leS (a b : Str) : Prop := ltS b a = false
end Sw
namespace Sw
open PySem PySem.Spec L2
open PyProof.Rows (sortedS risingS ltCps_eq)
end Sw
namespace Sw
open PySem PySem.Spec L2
end Sw
namespace Sw
open PySem PySem.Spec L2
end Sw
namespace Sw
open PySem PySem.Spec L2
end Sw
namespace Sw
open PySem PySem.Spec L2
end Sw

set_option Elab.async false
set_option linter.all false
set_option maxRecDepth 100000
namespace Sw
open PySem PySem.Spec L2 PyProof.Rows
def leD (a b : D) : Bool := !W.dataLt b a
def srtD (ds : List D) : List D := ds.mergeSort leD
end Sw

set_option Elab.async false
set_option linter.all false
set_option maxRecDepth 100000
namespace Sw
open PySem PySem.Spec L2
theorem leD_total : W.TotalLe leD := W.sortLe_total (PyProof.Rows.listOrd PyProof.Rows.itemOrd) false W.keyToks
theorem srtD_perm (ds : List D) : (srtD ds).Perm ds := List.mergeSort_perm _ _
theorem srtD_len (ds : List D) : (srtD ds).length = ds.length := (srtD_perm ds).length_eq
theorem srtD_pw (ds : List D) : (srtD ds).Pairwise fun a b => leD a b = true := W.sort_pairwise leD_total ds
mutual
theorem eq_of_eqv : ∀ x y : D, W.alike x y = true → PyData.eqv x y = true → x = y
  | .none, y, h, e => by cases y <;> simp_all [W.alike]
  | .bool a, y, h, e => by cases y <;> simp_all [W.alike, PyData.eqv]
  | .int a, y, h, e => by cases y <;> simp_all [W.alike, PyData.eqv]
  | .str a, y, h, e => by cases y <;> simp_all [W.alike, PyData.eqv]
  | .list xs, y, h, e => by
    cases y with
    | list ys => rw [eq_of_eqvAll xs ys (by simpa [W.alike] using h) (by simpa [PyData.eqv] using e)]
    | _ => simp [W.alike] at h
  | .tuple xs, y, h, e => by
    cases y with
    | tuple ys => rw [eq_of_eqvAll xs ys (by simpa [W.alike] using h) (by simpa [PyData.eqv] using e)]
    | _ => simp [W.alike] at h
  | .dict xs, y, h, e => by cases y <;> simp_all [W.alike]
theorem eq_of_eqvAll : ∀ xs ys : List D, W.alikeAll xs ys = true → PyData.eqvAll xs ys = true → xs = ys
  | [], ys, h, e => by cases ys <;> simp_all [PyData.eqvAll]
  | x :: xs, ys, h, e => by
    cases ys with
    | nil => simp [PyData.eqvAll] at e
    | cons y ys =>
      simp only [W.alikeAll, Bool.and_eq_true] at h
      simp only [PyData.eqvAll, Bool.and_eq_true] at e
      rw [eq_of_eqv x y h.1 e.1, eq_of_eqvAll xs ys h.2 e.2]
end
theorem leD_anti {x y : D} (h : W.alike x y = true) (h1 : leD x y = true) (h2 : leD y x = true) : x = y := by
  have h1 : W.dataLt y x = false := by simpa [leD] using h1
  have h2 : W.dataLt x y = false := by simpa [leD] using h2
  have e : W.keyToks x = W.keyToks y := PyProof.Rows.lex_total _ _ h2 h1
  cases q : PyData.eqv x y with
  | true => exact eq_of_eqv x y h q
  | false =>
    exfalso
    have := (W.toks_eqv x y h).2 q [] [.inl 0]
    rw [e, W.lex_pre, PyProof.Rows.lex_irrefl] at this
    cases this
/-- two orders of the same alike data: sorted the same -/
theorem perm_eq_mem {α : Type} {r : α → α → Prop} : ∀ {l m : List α}, (∀ a ∈ l, ∀ b ∈ l, r a b → r b a → a = b) → l.Perm m → l.Pairwise r → m.Pairwise r → l = m
  | [], m, _, p, _, _ => (List.nil_perm.mp p).symm
  | a :: l, [], _, p, _, _ => absurd p.symm (by simp)
  | a :: l, b :: m, anti, p, h1, h2 => by
    have hb0 : b ∈ a :: l := p.mem_iff.mpr List.mem_cons_self
    have hab : a = b := by
      by_cases e : a = b
      · exact e
      · have ha : a ∈ m := by
          rcases List.mem_cons.mp (p.mem_iff.mp (List.mem_cons_self (a := a) (l := l))) with z | z
          · exact absurd z e
          · exact z
        have hb : b ∈ l := by
          rcases List.mem_cons.mp hb0 with z | z
          · exact absurd z.symm e
          · exact z
        exact anti a List.mem_cons_self b hb0 ((List.pairwise_cons.mp h1).1 b hb) ((List.pairwise_cons.mp h2).1 a ha)
    subst hab
    rw [perm_eq_mem (fun x hx y hy => anti x (List.mem_cons_of_mem _ hx) y (List.mem_cons_of_mem _ hy)) (List.Perm.cons_inv p) (List.pairwise_cons.mp h1).2 (List.pairwise_cons.mp h2).2]
theorem srtD_eq {xs ys : List D} (ho : W.AllAlike xs) (p : ys.Perm xs) (hs : ys.Pairwise fun a b => leD a b = true) : ys = srtD xs :=
  perm_eq_mem (r := fun a b => leD a b = true) (fun a ha b hb h1 h2 => leD_anti (ho a (p.mem_iff.mp ha) b (p.mem_iff.mp hb)) h1 h2) (p.trans (srtD_perm xs).symm) hs (srtD_pw xs)
theorem srtD_congr {xs ys : List D} (ho : W.AllAlike xs) (p : ys.Perm xs) : srtD ys = srtD xs := srtD_eq ho ((srtD_perm ys).trans p) (srtD_pw ys)
end Sw

set_option Elab.async false
set_option linter.all false
set_option maxRecDepth 100000
namespace Sw
open PySem PySem.Spec L2
/-- no list of its own stands in these slots -/
def nob : Option SV → Prop
  | some (.obj _ _) => False
  | _ => True
def NoOwn (env : List SV) : List Nat → Prop
  | [] => True
  | v :: vs => nob env[v]? ∧ NoOwn env vs
theorem NoOwn.get {env : List SV} : ∀ {vs : List Nat}, NoOwn env vs → ∀ j ∈ vs, ∀ l ds, env[j]? ≠ some (SV.obj l ds)
  | v :: vs, h, j, hj, l, ds => fun e => by
    rcases List.mem_cons.mp hj with rfl | hj
    · have h1 := h.1
      rw [e] at h1
      exact h1
    · exact h.2.get j hj l ds e
end Sw

set_option Elab.async false
set_option linter.all false
set_option maxRecDepth 100000
namespace Sw
open PySem PySem.Spec L2
/-- what a dict holds at a key -/
def lookD (kds : List (D × D)) (k : D) : Option D := (kds.find? fun p => PyData.eqv p.1 k).map Prod.snd
/-- a key of a dict; t: the keys are tuples -/
def KeyT : Bool → D → Prop
  | false, k => ∃ kk : Key, k = kD kk
  | true, k => ∃ nk : NestedKey, k = nkD nk ∧ (∃ z, nk = .tup z) ∧ nk.depth ≤ 8
theorem lookD_nil (k : D) : lookD [] k = none := rfl
theorem lookD_cons (p : D × D) (r : List (D × D)) (k : D) : lookD (p :: r) k = if PyData.eqv p.1 k = true then some p.2 else lookD r k := by
  unfold lookD
  rw [List.find?_cons]
  cases PyData.eqv p.1 k <;> rfl
section
variable {X : Cz} {pins : List (Addr × Obj)} {σ : L2.St} {H F : Hp} {s : Shared}
mutual
theorem nested_at (I : Inv X pins σ H s) (hF : Le F H) : ∀ (nk : NestedKey) (v : V) (u : Value), At X.fr F (nkD nk) v → RelV v u → NestedIs s.heap nk u
  | .none, v, u, a, r => by
    have a : v = .non := by simpa [nkD, NestedKey.data, At] using a
    subst a
    cases (show u = Value.none from r)
    exact .none
  | .num i, v, u, a, r => by
    have a : v = .int i := by simpa [nkD, NestedKey.data, At] using a
    subst a
    obtain ⟨t, q⟩ := (show ∃ t, u = Value.int i t from r)
    cases q
    exact .int i t
  | .text x, v, u, a, r => by
    have a : v = .str x := by simpa [nkD, NestedKey.data, At] using a
    subst a
    obtain ⟨t, q⟩ := (show ∃ t, u = Value.str x t from r)
    cases q
    exact .text x t
  | .tup ks, v, u, a, r => by
    have a : At X.fr F (.tuple (NestedKey.datas ks)) v := a
    simp only [At] at a
    obtain ⟨b, xs, rfl, ht, al⟩ := a
    cases (show u = Value.ref b from r)
    obtain ⟨its, rv, ⟨ob, h1, h2, n, h3⟩, _⟩ := I.tuple (Le.tupAt hF ht).sqT
    refine .tup h1 h2 h3 ?_
    simpa using nested_ats I hF ks xs its al rv
theorem nested_ats (I : Inv X pins σ H s) (hF : Le F H) : ∀ (ks : List NestedKey) (xs : List V) (us : List Value), AtAll X.fr F (NestedKey.datas ks) xs → Vals xs us → NestedAll s.heap ks us
  | [], xs, us, a, r => by
    have a : xs = [] := by simpa [NestedKey.datas, AtAll] using a
    subst a
    cases r
    exact .nil
  | k :: ks, xs, us, a, r => by
    simp only [NestedKey.datas, AtAll] at a
    obtain ⟨x, ys, rfl, a, al⟩ := a
    cases r with
    | cons r1 r2 => exact .cons (nested_at I hF k x _ a r1) (nested_ats I hF ks ys _ al r2)
end
abbrev PairZ : List (NestedKey × Addr × V) → List (NestedKey × Addr × Value) → Prop := Paired fun p q => p.1 = q.1 ∧ p.2.1 = q.2.1 ∧ RelV p.2.2 q.2.2
theorem AtN.len {K : FgK} : ∀ {kds : List (D × D)} {zs : List (NestedKey × Addr × V)}, AtN K F kds zs → zs.length = kds.length
  | [], zs, h => by simp only [AtN] at h; subst h; rfl
  | (k, d) :: r, zs, h => by
    simp only [AtN] at h
    obtain ⟨_, _, _, zr, rfl, _, _, _, q⟩ := h
    simp [AtN.len q]
theorem AtK.len {K : FgK} : ∀ {kds : List (D × D)} {zs : List (Key × V)}, AtK K F kds zs → zs.length = kds.length
  | [], zs, h => by simp only [AtK] at h; subst h; rfl
  | (k, d) :: r, zs, h => by
    simp only [AtK] at h
    obtain ⟨_, _, zr, rfl, _, _, q⟩ := h
    simp [AtK.len q]
theorem AtN.is (I : Inv X pins σ H s) (hF : Le F H) : ∀ {kds : List (D × D)} {zs : List (NestedKey × Addr × V)} {us : List (NestedKey × Addr × Value)}, AtN X.fr F kds zs → (∀ x ∈ zs, ∃ z, x.1 = .tup z ∧ x.1.depth ≤ 8) → PairZ zs us → ∀ x ∈ us, (nestedKind X.prog X.w).is s.heap x.1 x.2.1
  | [], zs, us, h, _, p, x, hx => by
    simp only [AtN] at h
    subst h
    cases p
    cases hx
  | (k, d) :: r, zs, us, h, hd, p, x, hx => by
    simp only [AtN] at h
    obtain ⟨kk, b, v, zr, rfl, rfl, a1, a2, q⟩ := h
    cases p with
    | cons p1 p2 =>
      rcases List.mem_cons.mp hx with rfl | hx
      · obtain ⟨e1, e2, _⟩ := p1
        simp only at e1 e2
        obtain ⟨z, _, hz⟩ := hd _ List.mem_cons_self
        have n := nested_at I hF kk (.ref b) (.ref b) a1 rfl
        exact ⟨by rw [← e1, ← e2]; exact n, by rw [← e1]; exact hz⟩
      · exact AtN.is I hF q (fun y hy => hd y (List.mem_cons_of_mem _ hy)) p2 x hx
end
end Sw

set_option Elab.async false
set_option linter.all false
set_option maxRecDepth 100000
namespace Sw
open PySem PySem.Spec L2
section
variable {X : Cz} {pins : List (Addr × Obj)} {σ : L2.St} {H F : Hp} {s : Shared} {a : Addr} {o : HO} {t : Bool} {kds : List (D × D)} {k : D} {y : V} {u : Value} {A : Around} {E : Value → Shared → Prop}
theorem IsN.intro {K : FgK} {P : Program} {w : World} {H' : Hp} {h' : Heap} {zs : List (NestedKey × Addr × V)} {us : List (NestedKey × Addr × Value)} (e1 : K.P = P) (e2 : K.w = w) (hz : zs.length ≤ sizeLine) (hd : (a == sysModules) = false) (hk : ∀ x ∈ zs, ∃ z, x.1 = .tup z ∧ x.1.depth ≤ 8) (p : PairZ zs us) (dd : h'.DictOfH (nestedKind P w) a us) : ∃ o, IsN K a zs o ∧ ObjOk P w H' h' a o := by
  obtain ⟨ob, es, ep, h5, h6, h7, h8, _, h9⟩ := dd
  subst e1 e2
  refine ⟨_, rfl, ⟨hz, hd, hk, us, p, ob, es, ep, h5, h6, h7, h8, h9⟩, ⟨ob, h5⟩, ?_⟩
  rintro h1 h2 ⟨_, _, _, us', p', ob', es', ep', g5, g6, g7, g8, g9⟩ st
  exact ⟨hz, hd, hk, us', p', ob', es', ep', st _ g5, g6, g7, g8, g9⟩
end
end Sw

set_option Elab.async false
set_option linter.all false
set_option maxRecDepth 100000
namespace Sw
open PySem PySem.Spec L2
section
variable {X : Cz}
def OV.dic (env : List SV) : OV → Option (Option Bool × List (D × D))
  | .sl i => match env[i]? with
    | some (.obj _ (.dic t kds)) => some (some t, kds)
    | some (.dat (.dict kds)) => some (none, kds)
    | _ => none
  | .dv (.dict kds) => some (none, kds)
  | _ => none
theorem AtK.keys {K : FgK} {F : Hp} : ∀ {kds : List (D × D)} {zs : List (Key × V)}, AtK K F kds zs → ∀ p ∈ kds, KeyT false p.1
  | [], zs, _, p, hp => nomatch hp
  | (k, d) :: r, zs, h, p, hp => by
    simp only [AtK] at h
    obtain ⟨kk, _, zr, rfl, rfl, _, q⟩ := h
    rcases List.mem_cons.mp hp with rfl | hp
    · exact ⟨kk, rfl⟩
    · exact AtK.keys q p hp
theorem AtN.keys {K : FgK} {F : Hp} : ∀ {kds : List (D × D)} {zs : List (NestedKey × Addr × V)}, AtN K F kds zs → (∀ x ∈ zs, ∃ z, x.1 = .tup z ∧ x.1.depth ≤ 8) → ∀ p ∈ kds, KeyT true p.1
  | [], zs, _, _, p, hp => nomatch hp
  | (k, d) :: r, zs, h, hk, p, hp => by
    simp only [AtN] at h
    obtain ⟨kk, b, x, zr, rfl, rfl, _, _, q⟩ := h
    rcases List.mem_cons.mp hp with rfl | hp
    · obtain ⟨z, e, hd⟩ := hk _ List.mem_cons_self
      exact ⟨kk, rfl, ⟨z, e⟩, hd⟩
    · exact AtN.keys q (fun y hy => hk y (List.mem_cons_of_mem _ hy)) p hp
end
end Sw

set_option Elab.async false
set_option linter.all false
set_option maxRecDepth 100000
set_option maxHeartbeats 4000000
namespace Sw
open PySem PySem.Spec L2 PyProof.Rows
noncomputable local instance memDec (k : Key) (l : List Key) : Decidable (k ∈ l) := Classical.propDecidable _
section
variable {P : Program} {w : World} {A : Around} {E : Value → Shared → Prop} {s : Shared}
abbrev newSet (w : World) : Obj := { cls := .type "set", dict := none, data := .set #[] 0 (.fresh 0 0 (!w.params.followText "set-order")) }
end
end Sw

set_option Elab.async false
set_option linter.all false
set_option maxRecDepth 100000
set_option maxHeartbeats 4000000
namespace Sw
open PySem PySem.Spec L2 PySem.Calls PyProof.Rows
abbrev KAt (h : Heap) (k : NestedKey) (b : Addr) : Prop := NestedIs h k (.ref b) ∧ k.depth ≤ 8
section
variable {P : Program} {w : World} {A : Around} {E : Value → Shared → Prop} {s : Shared}
def NoCls (P : Program) (w : World) (n : Nat) (s : Shared) (v : Value) : Prop := ∀ (A : Around) (E : Value → Shared → Prop) (Q : Bool → Shared → Prop), Q false s → wpAny (model P w) A (ofAClassStatement n v) Q E s
def ByV (P : Program) (w : World) (n : Nat) (s : Shared) (v : Value) : Prop := ∀ (A : Around) (E : Value → Shared → Prop) (Q : Bool → Shared → Prop), (∀ b, Q b s) → wpAny (model P w) A (hashByValue n v) Q E s
theorem NoCls.tup {n m : Nat} {a : Addr} {o : Obj} {vs : Array Value} (ho : s.heap.get? a = some o) (hc : o.cls = .type "tuple") (hd : o.data = .seq vs m) (hq : ∀ v ∈ vs.toList, NoCls P w n s v) : NoCls P w (n + 1) s (.ref a) := fun A E Q h => by
  unfold ofAClassStatement
  refine wpAny_bind (wpAny_typeOf (T := "tuple") ⟨o, ho, hc⟩ ?_)
  dsimp only
  simp only [show (("tuple" : String) == "tuple") = true by decide, if_true, Bool.not_true, Bool.false_eq_true, if_false]
  try refine wpAny_bind (wpAny_pure ?_)
  try simp only [Bool.not_true, Bool.false_eq_true, if_false]
  show wpAny _ _ (seqItems? (.ref a) >>= _) _ _ s
  refine wpAny_bind (wpAny_seqItems ho hd (wpAny_bind ?_))
  show wpAny _ _ (forIn vs _ _) _ _ s
  rw [← Array.forIn_toList]
  refine wpAny_forIn_list _ (fun rest r z => r.1 = none ∧ z = s ∧ ∀ v ∈ rest, NoCls P w n s v) _ ?_ ?_ _ _ ⟨rfl, rfl, hq⟩
  · rintro v rest r z ⟨e, rfl, all⟩
    refine wpAny_bind (all v List.mem_cons_self _ _ _ ?_)
    simp only [Bool.false_eq_true, if_false]
    exact wpAny_pure ⟨rfl, rfl, fun u hu => all u (List.mem_cons_of_mem _ hu)⟩
  · rintro ⟨r1, r2⟩ z ⟨e, rfl, _⟩
    simp only at e
    subst e
    exact wpAny_pure h
theorem ByV.tup {n m : Nat} {a : Addr} {o : Obj} {vs : Array Value} (ho : s.heap.get? a = some o) (hc : o.cls = .type "tuple") (hd : o.data = .seq vs m) (hq : ∀ v ∈ vs.toList, ByV P w n s v) : ByV P w (n + 1) s (.ref a) := fun A E Q h => by
  unfold hashByValue
  refine wpAny_bind (wpAny_specialOf (T := "tuple") ⟨o, ho, hc⟩ F.slot_tuple_hash.lookup ?_)
  show wpAny _ _ (seqItems? (.ref a) >>= _) _ _ s
  refine wpAny_bind (wpAny_seqItems ho hd (wpAny_bind ?_))
  show wpAny _ _ (forIn vs _ _) _ _ s
  rw [← Array.forIn_toList]
  refine wpAny_forIn_list _ (fun rest r z => r.1 = none ∧ z = s ∧ ∀ v ∈ rest, ByV P w n s v) _ ?_ ?_ _ _ ⟨rfl, rfl, hq⟩
  · rintro v rest r z ⟨e, rfl, all⟩
    refine wpAny_bind (all v List.mem_cons_self _ _ _ fun b => ?_)
    cases b with
    | true =>
      simp only [Bool.not_true, Bool.false_eq_true, if_false]
      exact wpAny_pure ⟨rfl, rfl, fun u hu => all u (List.mem_cons_of_mem _ hu)⟩
    | false =>
      simp only [Bool.not_false, if_true]
      exact wpAny_pure (wpAny_pure (h false))
  · rintro ⟨r1, r2⟩ z ⟨e, rfl, _⟩
    simp only at e
    subst e
    exact wpAny_pure (h true)
/-- the set at a holds just the tuples L -/
structure Few (w : World) (h : Heap) (a : Addr) (L : List (Addr × NestedKey)) (es : Array (Int × Value)) (ep : Nat) (t : SetTable) : Prop where
  ob : ∃ o, h.get? a = some o ∧ o.ExactSet ∧ o.data = .set es ep t
  rows : es.toList = L.map fun p => (p.2.hash w, Value.ref p.1)
  tab : TabOk t (L.map fun p => p.2.hash w)
  nd : (L.map (·.2)).Nodup
  key : ∀ p ∈ L, KAt h p.2 p.1
  mask : t.mask = 7
  few : L.length ≤ 4
variable {a : Addr} {L : List (Addr × NestedKey)} {es : Array (Int × Value)} {ep : Nat} {t : SetTable}
theorem Few.size (R : Few w s.heap a L es ep t) : es.size = L.length := by
  rw [← Array.length_toList, R.rows, List.length_map]
theorem Few.get (R : Few w s.heap a L es ep t) {i : Nat} {p : Addr × NestedKey} (h : L[i]? = some p) : es[i]? = some (p.2.hash w, Value.ref p.1) := by
  rw [← Array.getElem?_toList, R.rows, List.getElem?_map, h]
  rfl
end
end Sw

set_option Elab.async false
set_option linter.all false
set_option maxRecDepth 100000
set_option maxHeartbeats 4000000
namespace Sw
open PySem PySem.Spec L2 PySem.Calls PyProof.Rows
section
variable {P : Program} {w : World} {A : Around} {E : Value → Shared → Prop} {s : Shared}
theorem Few.new {h : Heap} {a : Addr} (ho : h.get? a = some (newSet w)) : Few w h a [] #[] 0 (.fresh 0 0 (!w.params.followText "set-order")) :=
  ⟨⟨_, ho, ⟨rfl, rfl, rfl⟩, rfl⟩, rfl, ⟨List.Pairwise.nil, rfl, rfl, .inl rfl, fun x hx => (by cases hx), fun i h j hi => (by simp at hi)⟩, List.nodup_nil, fun p hp => (by cases hp), rfl, (by decide)⟩
end
end Sw

set_option Elab.async false
set_option linter.all false
set_option maxRecDepth 100000
set_option maxHeartbeats 4000000
namespace Sw
open PySem PySem.Spec L2
abbrev AlE : Type := He.AlD × Bool
def obsE (fa : List He.Fa) (fn : List He.DefD) (ex : PySem.W.Frag → Bool) (K : PySem.W.Frag) : AlE := (He.obsD fa fn K, ex K)
def valE (fn : List He.DefD) : AlE := (He.valD fn, true)
def SaysE (fa : List He.Fa) (fn : List He.DefD) (ex : PySem.W.Frag → Bool) (K : PySem.W.Frag) : Prop := obsE fa fn ex K = valE fn
theorem SaysE.d {fa : List He.Fa} {fn : List He.DefD} {ex : PySem.W.Frag → Bool} {K : PySem.W.Frag} (c : SaysE fa fn ex K) : He.SaysD fa fn K := congrArg (fun z : AlE => z.1) c
theorem SaysE.ex {fa : List He.Fa} {fn : List He.DefD} {ex : PySem.W.Frag → Bool} {K : PySem.W.Frag} (c : SaysE fa fn ex K) : ex K = true := congrArg (fun z : AlE => z.2) c
end Sw

set_option Elab.async false
set_option linter.all false
set_option maxRecDepth 100000
set_option maxHeartbeats 4000000
namespace Sw
open PySem PySem.Spec L2
def strB (z : Str) : Value → Bool
  | .str y _ => decide (y = z)
  | _ => false
def intB (i : Int) : Value → Bool
  | .int j _ => decide (j = i)
  | _ => false
def strsB : List D → List Value → Bool
  | [], [] => true
  | .str z :: r, u :: s => strB z u && strsB r s
  | .int i :: r, u :: s => intB i u && strsB r s
  | _, _ => false
def valB (K : PySem.W.Frag) : D → Value → Bool
  | .str z, u => strB z u
  | .tuple ds, .ref p => (match K.lookup p with
    | some ⟨.type c, _, .seq its _, _⟩ => decide (c = "tuple") && (decide (its.size ≤ 1000) && strsB ds its.toList)
    | _ => false)
  | _, _ => false
def dcB (K : PySem.W.Frag) (x : Str) (kvs : List (Str × D)) : Bool := kvs.all fun q => match PySem.W.nsIn K (He.ga K x) q.1 with
  | some (some u) => valB K q.2 u
  | _ => false
abbrev AlF : Type := (He.AlD × Bool) × List (Option (List (Option (Str × Int))))
def obsF (fa : List He.Fa) (fn : List He.DefD) (ex : PySem.W.Frag → Bool) (ts : List (Str × List (Str × D))) (K : PySem.W.Frag) : AlF := ((He.obsD fa fn K, ex K), ts.map fun t => He.dicW K (He.ga K t.1))
def valFH (fn : List He.DefD) (ts : List (Str × List (Str × D))) (w : World) : AlF := ((He.valD fn, true), ts.map fun t => some (He.keysIn w.params (t.2.map (·.1))))
def SaysF (fa : List He.Fa) (fn : List He.DefD) (ex : PySem.W.Frag → Bool) (ts : List (Str × List (Str × D))) (w : World) (K : PySem.W.Frag) : Prop := obsF fa fn ex ts K = valFH fn ts w
section
variable {fa : List He.Fa} {fn : List He.DefD} {ex : PySem.W.Frag → Bool} {ts : List (Str × List (Str × D))} {w : World} {K : PySem.W.Frag}
theorem SaysF.e (c : SaysF fa fn ex ts w K) : SaysE fa fn ex K := congrArg (fun z : AlF => z.1) c
theorem SaysF.tab (c : SaysF fa fn ex ts w K) (i : Nat) {x : Str} {kvs : List (Str × D)} (h : ts[i]? = some (x, kvs) := by rfl) : He.dicW K (He.ga K x) = some (He.keysIn w.params (kvs.map (·.1))) := by
  have e : ts.map (fun t => He.dicW K (He.ga K t.1)) = ts.map fun t => some (He.keysIn w.params (t.2.map (·.1))) := congrArg (fun z : AlF => z.2) c
  have e2 : (ts.map fun t => He.dicW K (He.ga K t.1))[i]? = (ts.map fun t => some (He.keysIn w.params (t.2.map (·.1))))[i]? := by rw [e]
  rw [List.getElem?_map, List.getElem?_map, h] at e2
  exact Option.some.inj e2
end
end Sw

set_option Elab.async false
set_option linter.all false
set_option maxRecDepth 100000
set_option maxHeartbeats 4000000
namespace Sw
open PySem PySem.Spec L2
def goX (g : Addr → Option Obj) : Nat → List Addr → List Addr
  | 0, fr => fr
  | n + 1, fr => fr ++ goX g n (fr.flatMap fun a => match g a with
    | some o => He.refsD o
    | none => [])
/-- what these names of the module reach in n steps -/
def asX (g : Addr → Option Obj) (ns : List Str) (n : Nat) : List Addr := mainGlobals :: goX g n (ns.map (He.ga (He.frG g [mainGlobals])))
def obsXG (n : Nat) (ns : List Str) (fa : List He.Fa) (fn : List He.DefD) (ex : PySem.W.Frag → Bool) (ts : List (Str × List (Str × D))) (g : Addr → Option Obj) : AlF := obsF fa fn ex ts (He.frG g (asX g ns n))
def hookX (n : Nat) (ns : List Str) (fa : List He.Fa) (fn : List He.DefD) (ex : PySem.W.Frag → Bool) (ts : List (Str × List (Str × D))) : PySem.W.Hook where
  α := AlF
  obs := fun s => obsXG n ns fa fn ex ts s.heap.get?
  val := fun w => valFH fn ts w
  says := fun w h => ∃ K : PySem.W.Frag, K.In h ∧ SaysF fa fn ex ts w K
  of := fun _ _ e => ⟨_, He.frG_in, e⟩
  keeps := fun _ _ _ ⟨K, hK, c⟩ k => ⟨K, PySem.W.Frag.In.keeps hK k, c⟩
theorem obsXG_eq {n : Nat} {ns : List Str} {fa : List He.Fa} {fn : List He.DefD} {ex : PySem.W.Frag → Bool} {ts : List (Str × List (Str × D))} {g : Addr → Option Obj} {s : Shared} (h : ∀ a, g a = s.heap.get? a) : obsXG n ns fa fn ex ts g = (hookX n ns fa fn ex ts).obs s := by
  have e : g = s.heap.get? := funext h
  rw [e] <;> rfl
end Sw

set_option Elab.async false
set_option linter.all false
set_option maxRecDepth 100000
set_option maxHeartbeats 4000000
namespace Sw
open PySem PySem.Spec L2 PySem.Calls PyProof.Rows
def MaskB (m : Nat) : Prop := MaskOk m ∨ m = 511
/-- the slots from x on, n of them -/
def cyc (m : Nat) : Nat → Nat → List Nat
  | 0, _ => []
  | n + 1, x => x :: cyc m n ((x * 5 + 1) % (m + 1))
theorem lcg_head (m i : Nat) : ∀ k, lcgI m ((i * 5 + 1) % (m + 1)) k = lcgI m i (k + 1)
  | 0 => rfl
  | k + 1 => congrArg (fun z => (z * 5 + 1) % (m + 1)) (lcg_head m i k)
theorem lcg_more (m i a : Nat) : ∀ k, lcgI m (lcgI m i a) k = lcgI m i (a + k)
  | 0 => rfl
  | k + 1 => congrArg (fun z => (z * 5 + 1) % (m + 1)) (lcg_more m i a k)
theorem cyc_in (m : Nat) : ∀ n x j, j ∈ cyc m n x → ∃ k, k < n ∧ lcgI m x k = j
  | 0, _, _, h => nomatch h
  | n + 1, x, j, h => by
    rcases List.mem_cons.mp h with rfl | h
    · exact ⟨0, Nat.succ_pos _, rfl⟩
    · obtain ⟨k, h1, h2⟩ := cyc_in m n _ j h
      exact ⟨k + 1, Nat.succ_lt_succ h1, (lcg_head m x k).symm.trans h2⟩
theorem cyc_511 : ((List.range 512).all fun j => (cyc 511 512 0).contains j) = true := by decide +kernel
theorem cyc_back : lcgI 511 0 512 = 0 := by decide +kernel
theorem from_0 {j : Nat} (hj : j ≤ 511) : ∃ k, k < 512 ∧ lcgI 511 0 k = j :=
  cyc_in 511 512 0 j (List.contains_iff_mem.mp (List.all_eq_true.mp cyc_511 j (List.mem_range.mpr (by omega))))
/-- from any slot to any slot -/
theorem from_any {i j : Nat} (hi : i ≤ 511) (hj : j ≤ 511) : ∃ k, k ≤ 511 ∧ lcgI 511 i k = j := by
  obtain ⟨a, ha, rfl⟩ := from_0 hi
  obtain ⟨b, hb, rfl⟩ := from_0 hj
  by_cases h : a ≤ b
  · exact ⟨b - a, by omega, by rw [lcg_more]; congr 1; omega⟩
  · refine ⟨512 + b - a, by omega, ?_⟩
    rw [lcg_more, show a + (512 + b - a) = 512 + b by omega, ← lcg_more, cyc_back]
theorem begins {m : Nat} (hm : MaskB m) (h : Int) {j : Nat} (hj : j ≤ m) : ∃ n, n ≤ m + 12 ∧ runI m (SetTable.bits h) n = j := by
  rcases hm with hm | rfl
  · exact run_meets hm h hj
  · obtain ⟨k, hk, e⟩ := from_any (runI_le 511 (SetTable.bits h) 12) hj
    exact ⟨12 + k, by omega, (runI_tail (bits_lt h) k).trans e⟩
theorem comes {m : Nat} (hm : MaskB m) (h : Int) {j : Nat} (hj : j ≤ m) : ∃ k, k < 10 * SetTable.turns m ∧ way m h k = j := by
  obtain ⟨n, hn, e⟩ := begins hm h hj
  obtain ⟨k, hk, e2⟩ := run_nth m (SetTable.bits h) n
  refine ⟨k, ?_, (congrArg SetTable.Probe.j e2).trans e⟩
  show k < 10 * (m + 15)
  omega
theorem way_in (m : Nat) (h : Int) (k : Nat) : way m h k ≤ m := by
  have hi : SetTable.bits h % (m + 1) ≤ m := by
    have := Nat.mod_lt (SetTable.bits h) (show m + 1 > 0 by omega)
    omega
  have b := runEnd_bd hi
  have q := nth_in (m := m) k (runAt m (SetTable.bits h % (m + 1)) (SetTable.bits h)) (show SetTable.bits h % (m + 1) + (SetTable.runEnd m (SetTable.bits h % (m + 1)) - SetTable.bits h % (m + 1)) ≤ m by
    have := b.1
    have := b.2.1
    omega)
  exact Nat.le_trans (Nat.le_add_right _ _) q
/-- a table in which each entry is found by its hash -/
structure TabB (t : SetTable) (hs : List Int) : Prop where
  ris : Ris t.place.toList
  dm : t.dummies = #[]
  sz : t.place.size = hs.length
  mok : MaskB t.mask
  bd : ∀ x ∈ t.place.toList, x ≤ t.mask
  met : ∀ q ∈ hs.zip t.place.toList, ∃ k, way t.mask q.1 k = q.2 ∧ ∀ c, c < k → way t.mask q.1 c ∈ t.place.toList
theorem TabB.first {t : SetTable} {hs : List Int} (T : TabB t hs) (hl : hs.length ≤ t.mask) (h : Int) : ∃ K, K < 10 * SetTable.turns t.mask ∧ way t.mask h K ∉ t.place.toList ∧ ∀ k, k < K → way t.mask h k ∈ t.place.toList := by
  obtain ⟨j, hj, hn⟩ := st_missing t.place.toList (t.mask + 1) (by rw [Array.length_toList, T.sz]; omega)
  obtain ⟨k, hk, e⟩ := comes T.mok h (Nat.le_of_lt_succ hj)
  obtain ⟨K, a, b, c⟩ := st_least (p := fun k => way t.mask h k ∉ t.place.toList) k (fun z => hn (e ▸ z))
  exact ⟨K, by omega, b, fun c' hc' => Classical.byContradiction (c c' hc')⟩
theorem zip_put {α β : Type} {as : List α} {bs : List β} {n : Nat} {a : α} {b : β} (he : as.length = bs.length) {q : α × β} (h : q ∈ (as.take n ++ a :: as.drop n).zip (bs.take n ++ b :: bs.drop n)) : q = (a, b) ∨ q ∈ as.zip bs := by
  rw [List.zip_append (by rw [List.length_take, List.length_take, he]), List.zip_cons_cons] at h
  rcases List.mem_append.mp h with h | h
  · refine .inr (List.mem_of_mem_take (i := n) ?_)
    rw [List.zip_eq_zipWith, List.take_zipWith]
    exact h
  · rcases List.mem_cons.mp h with h | h
    · exact .inl h
    · refine .inr (List.mem_of_mem_drop (i := n) ?_)
      rw [List.zip_eq_zipWith, List.drop_zipWith]
      exact h
theorem TabB.put {t : SetTable} {hs : List Int} (T : TabB t hs) {h : Int} {K : Nat} (hK : way t.mask h K ∉ t.place.toList) (hb : ∀ k, k < K → way t.mask h k ∈ t.place.toList) :
    (t.put (way t.mask h K)).2 = SetTable.below t.place (way t.mask h K) ∧ SetTable.below t.place (way t.mask h K) ≤ hs.length ∧
    TabB (t.put (way t.mask h K)).1 (hs.take (SetTable.below t.place (way t.mask h K)) ++ h :: hs.drop (SetTable.below t.place (way t.mask h K))) ∧
    (t.put (way t.mask h K)).1.mask = t.mask ∧ (t.put (way t.mask h K)).1.led = t.led ∧ (t.put (way t.mask h K)).1.fill = hs.length + 1 := by
  have hj := way_in t.mask h K
  have self : ∃ k, way t.mask h k = way t.mask h K ∧ ∀ c, c < k → way t.mask h c ∈ t.place.toList := ⟨K, rfl, hb⟩
  generalize way t.mask h K = j at *
  have hp := put_place t j
  have np : t.place[SetTable.below t.place j]? ≠ some j := fun e => hK (List.mem_of_getElem? ((Array.getElem?_toList ..).trans e))
  have hle : SetTable.below t.place j ≤ t.place.size := (below_cut T.ris j).1
  have hl2 : t.place.toList.length = hs.length := by rw [Array.length_toList]; exact T.sz
  have hsz : (t.put j).1.place.size = hs.length + 1 := by
    rw [← Array.length_toList, hp, len_ins _ (by rw [Array.length_toList]; exact hle), hl2]
  have hph : SetTable.below t.place j ≤ hs.length := by have := T.sz; omega
  have mono : ∀ x, x ∈ t.place.toList → x ∈ (t.put j).1.place.toList := fun x hx => by
    rw [hp]
    exact mem_ins.mpr (.inr hx)
  refine ⟨rfl, hph, ⟨ris_insert T.ris np, put_dm T.dm j, by rw [len_ins _ hph]; exact hsz, T.mok, fun x hx => ?_, fun q hq => ?_⟩, rfl, rfl, ?_⟩
  · rw [hp] at hx
    rcases mem_ins.mp hx with rfl | hx
    · exact hj
    · exact T.bd x hx
  · rw [hp] at hq
    show ∃ k, way t.mask q.1 k = q.2 ∧ ∀ c, c < k → way t.mask q.1 c ∈ (t.put j).1.place.toList
    rcases zip_put hl2.symm hq with rfl | hq
    · obtain ⟨k, a, b⟩ := self
      exact ⟨k, a, fun c hc => mono _ (b c hc)⟩
    · obtain ⟨k, a, b⟩ := T.met q hq
      exact ⟨k, a, fun c hc => mono _ (b c hc)⟩
  · show (t.put j).1.place.size + (t.put j).1.dummies.size = hs.length + 1
    rw [hsz, put_dm T.dm j]
    rfl
end Sw

set_option Elab.async false
set_option linter.all false
set_option maxRecDepth 100000
set_option maxHeartbeats 4000000
namespace Sw
open PySem PySem.Spec L2 PySem.Calls PyProof.Rows
section
variable {P : Program} {w : World} {A : Around} {E : Value → Shared → Prop} {s : Shared}
/-- the set at a holds just the tuples L -/
structure Many (w : World) (h : Heap) (a : Addr) (L : List (Addr × NestedKey)) (es : Array (Int × Value)) (ep : Nat) (t : SetTable) : Prop where
  ob : ∃ o, h.get? a = some o ∧ o.ExactSet ∧ o.data = .set es ep t
  rows : es.toList = L.map fun p => (p.2.hash w, Value.ref p.1)
  tab : TabB t (L.map fun p => p.2.hash w)
  nd : (L.map (·.2)).Nodup
  key : ∀ p ∈ L, KAt h p.2 p.1
  room : L.length * 5 < t.mask * 3
  few : L.length ≤ 80
  led : w.params.followText "set-order" = true ∨ t.led = true
variable {a : Addr} {L : List (Addr × NestedKey)} {es : Array (Int × Value)} {ep : Nat} {t : SetTable}
theorem Many.size (R : Many w s.heap a L es ep t) : es.size = L.length := by
  rw [← Array.length_toList, R.rows, List.length_map]
theorem Many.get (R : Many w s.heap a L es ep t) {i : Nat} {p : Addr × NestedKey} (h : L[i]? = some p) : es[i]? = some (p.2.hash w, Value.ref p.1) := by
  rw [← Array.getElem?_toList, R.rows, List.getElem?_map, h]
  rfl
end
end Sw

set_option Elab.async false
set_option linter.all false
set_option maxRecDepth 100000
set_option maxHeartbeats 4000000
namespace Sw
open PySem PySem.Spec L2 PySem.Calls PyProof.Rows
section
variable {P : Program} {w : World} {A : Around} {E : Value → Shared → Prop} {s : Shared}
theorem Many.new {h : Heap} {a : Addr} (ho : h.get? a = some (newSet w)) : Many w h a [] #[] 0 (.fresh 0 0 (!w.params.followText "set-order")) :=
  ⟨⟨_, ho, ⟨rfl, rfl, rfl⟩, rfl⟩, rfl, ⟨List.Pairwise.nil, rfl, rfl, .inl (.inl rfl), fun x hx => (by cases hx), fun q hq => (by simp at hq)⟩, List.nodup_nil, fun p hp => (by cases hp), (show 0 * 5 < 7 * 3 by decide), Nat.zero_le _, (by
    cases w.params.followText "set-order" with
    | true => exact .inl rfl
    | false => exact .inr rfl)⟩
end
end Sw

set_option Elab.async false
set_option linter.all false
set_option maxRecDepth 100000
namespace L2N
open PySem PySem.Spec PyProof.Rows L2
theorem mk_end {X : Cx} {pins : List (Addr × Obj)} {σ : L2.St} {H1 H2 : Hp} {Q : XK} {hp hp2 h2 : Heap} {g1 g2 : Array GenState} {d1 d2 : Drawn} {t1 t2 : Nat} {os1 os2 : OsState} {a C d : Addr} {fs : List (Str × V)} (T : Raises X (.ref C)) (I1 : Inv X pins σ H1 ⟨hp, g1, d1, t1, os1⟩)
    (ha : hp.objs.size ≤ a) (k : ∀ b o, hp.get? b = some o → hp2.get? b = some o) (un : Un (frs X.stack) [] (upd H1 a (exo a C none)) H2 hp2 h2) (hok : HOk X.prog X.w H2 h2) (ho : os2 = os1) (hb : AllBare g2)
    (ea : H2 a = some (exo a C (some d))) (ed : H2 d = some (exd d fs)) (hd1 : H1 d = none) (q : Q (.ref C) (some d) (upd (del H2 a) d (.xd fs))) : MkP X pins σ Q (.ref a) ⟨h2, g2, d2, t2, os2⟩ := by
  obtain ⟨t0, G, J, kG, ge, hoe, na⟩ := mk_end0 (d2 := d2) (t2 := t2) I1 ha k un hok ho hb ea ed hd1
  exact ⟨a, _, _, ⟨G, g2, d2, t2, os2⟩, _, .ref C, some d, rfl, J, kG, ge, hoe, ⟨rfl, rfl, fun vs e => by cases e; rfl⟩, rfl, rfl, na, rfl, hb, T, q⟩
theorem pmk_oex {X : Cx} {e : Expr} {es : List Expr} {ta : TA} {p pos : Pos} {CX : CXT} {x : Str} {C fI : Addr} {k : Nat} {fd : FuncData} {ps : List Str} {sp : Sp} {ds : List Value} {dvs : List V} (T : OexC X.K C) (iC : PySem.W.findIn X.K (.ref C) "__init__" = some (some (.ref fI))) (tI : PySem.W.typeIn X.K (.ref fI) = some (.type "function"))
    (F1 : FnOk X.prog X.w X.K X.mg X.base CX k fI fd ps sp) (hr : Room (k + 1) X.A) (hb : Binds X.K fd ps ds) (hd : Vals dvs ds) (hx : Passes CX X (fun _ _ _ => False)) (hg : Gl X x) (hm : X.mg x = some (.ref C)) (ha : PA X (e :: es) ta)
    (hdb : (x == ("__debug__" : Str)) = false := by decide) (he : starEach (e :: es) X.env = (false, eval e X.env) :: starEach es X.env := by rfl) (hpl : (backTo pos (starEach es X.env)).any (·.1) = false := by rfl) :
    PMk X (.Call (.Name x p) (e :: es) [] pos) (tMkO C sp dvs ta) := by
  intro pins s σ H Q I h
  obtain ⟨nm, q, N, bs, bm, sn, sub, ab, col, dd, k0, k1, k2, k3, k5, hC, hbm⟩ := T.cls
  refine wpAny_Call_Name_kw (ld_glob I hg hm ?_ hdb)
  refine PySem.W.callWith_K (h₀ := X.base) I.ok.mod.kin T.kC (thn (ha.run pos pins s σ H _ I h) fun us s1 ⟨vs, H1, I1, r1, hz, q1⟩ => ⟨I1.kIn, ?_⟩) he hpl
  show wpAny _ _ (call (.ref C) us) _ _ _
  obtain ⟨hp, g, dr, tk, os⟩ := s1
  have hsz : hp.objs.size ≤ hp.objs.size + 1 := Nat.le_succ _
  have hn : H1 (hp.objs.size + 1) = none := I1.hok.fresh hsz
  have hq := q1 (hp.objs.size + 1) hn
  have kk : ∀ b o, hp.get? b = some o → ((hp.push (PySem.W.kdv_tup us)).push (PySem.HandSPX.excO C hp.objs.size)).get? b = some o := fun b o e => Heap.get?_push_of_some _ (Heap.get?_push_of_some _ e)
  have hget : ((hp.push (PySem.W.kdv_tup us)).push (PySem.HandSPX.excO C hp.objs.size)).get? (hp.objs.size + 1) = some (PySem.HandSPX.excO C hp.objs.size) := by heap_get
  have I2 : Inv X pins σ (upd H1 (hp.objs.size + 1) (exo (hp.objs.size + 1) C none)) ⟨(hp.push (PySem.W.kdv_tup us)).push (PySem.HandSPX.excO C hp.objs.size), g, dr, tk, os⟩ :=
    I1.laid (t' := tk) (a := hp.objs.size + 1) (o := exo (hp.objs.size + 1) C none) (h' := (hp.push (PySem.W.kdv_tup us)).push (PySem.HandSPX.excO C hp.objs.size)) kk hsz (exo_ok hget)
  have r2 : Vals (V.ref (hp.objs.size + 1) :: (vs ++ dvs)) (Value.ref (hp.objs.size + 1) :: (us ++ ds)) := .cons rfl (r1.append hd)
  have hl : (Value.ref (hp.objs.size + 1) :: us ++ ds).length = ps.length := by
    have e := r2.length
    rw [F1.len _ _ _ _ hq] at e
    exact e.symm
  have hus : us.length ≤ sizeLine := by
    rw [← Paired.length r1, sizeLine_eq]
    omega
  refine wpAny_call (PySem.HandSPX.call_own F.excBase_ValueError (fun Y => PySem.HandSPX.refsVE_contains Y bm hbm) (I1.kIn _ _ hC) (PySem.W.looks_findIn I1.kIn iC) (fun self => PySem.W.bind_fn I1.kIn self tI) hus
    (codeAny_mono (F1.run _ X.stack _ _ ⟨Value.ref (hp.objs.size + 1) :: us, []⟩ (Value.ref (hp.objs.size + 1) :: (us ++ ds)) _ _ (fun _ _ _ => False) (hr.make C us []) (I2.env0.make C us []) (hb _ (Value.ref (hp.objs.size + 1) :: us) I2.kIn hl) r2 hq) fun r s' hq' => ?_))
  cases r with
  | error er => exact hx pins σ _ _ er s' I2 hq'
  | ok fl =>
    cases fl with
    | ret u =>
      obtain ⟨v, H2, os2, bare2, un2, hok2, rv, ev, d, fs, ea, ed, hd1, q2⟩ := hq'
      subst ev
      obtain ⟨h2, g2, d2, t2, os'⟩ := s'
      exact ⟨rv, mk_end (raises_own T.exC T.tyC) I1 hsz kk un2 hok2 os2 bare2 ea ed hd1 q2⟩
    | next => exact False.elim hq'
    | brk => exact False.elim hq'
    | cont => exact False.elim hq'
/-! ### X(), X an own exception class -/
theorem pmk_own0 {X : Cx} {C : Addr} {bmB : List Value} {B newId initId : String} {x : Str} {p pos : Pos} (F : ExcBaseFacts B newId initId bmB) (q : PySem.W.excIn X.K C bmB newId = true) (gC : X.mg x = some (.ref C))
    (kC : PySem.W.keepIn X.K (.ref C) = true) (r : Raises X (.ref C)) (hg : Gl X x) (hdb : (x == ("__debug__" : Str)) = false := by decide) :
    PMk X (.Call (.Name x p) [] [] pos) (fun σ H Q => Q (.ref C) none H) := by
  intro pins s σ H Q I h
  refine wpAny_Call_Name_kw (ld_glob I hg gC ?_ hdb)
  refine PySem.W.callWith_K0 I.kIn kC ?_
  show wpAny _ _ (call (.ref C) []) _ _ _
  obtain ⟨bm, N, nm, qn, bs, hdct, sn, sub, ab, col, dd, k0, k1, k2, k3, k5, mN, hC, hN, hni, T⟩ := exc_obj I.kIn q
  refine wpAny_call_exc_subT F T hC hN hni (fun h' e hm => ?_) (Nat.zero_le _)
  exact mk_of I hm r h (I.hok.gone hm.new)
theorem pmk_oex0 {X : Cx} {p pos : Pos} {CX : CXT} {x : Str} {C fI : Addr} {k : Nat} {fd : FuncData} {ps : List Str} {sp : Sp} {ds : List Value} {dvs : List V} (T : OexC X.K C) (iC : PySem.W.findIn X.K (.ref C) "__init__" = some (some (.ref fI))) (tI : PySem.W.typeIn X.K (.ref fI) = some (.type "function"))
    (F1 : FnOk X.prog X.w X.K X.mg X.base CX k fI fd ps sp) (hr : Room (k + 1) X.A) (hb : Binds X.K fd ps ds) (hd : Vals dvs ds) (hx : Passes CX X (fun _ _ _ => False)) (hg : Gl X x) (hm : X.mg x = some (.ref C))
    (hdb : (x == ("__debug__" : Str)) = false := by decide) :
    PMk X (.Call (.Name x p) [] [] pos) (tMkO C sp dvs tNil) := by
  intro pins s σ H Q I h
  obtain ⟨nm, q, N, bs, bm, sn, sub, ab, col, dd, k0, k1, k2, k3, k5, hC, hbm⟩ := T.cls
  refine wpAny_Call_Name_kw (ld_glob I hg hm ?_ hdb)
  refine PySem.W.callWith_K0 I.kIn T.kC ?_
  show wpAny _ _ (call (.ref C) []) _ _ _
  obtain ⟨hz, q1⟩ := h
  obtain ⟨hp, g, dr, tk, os⟩ := s
  have hsz : hp.objs.size ≤ hp.objs.size + 1 := Nat.le_succ _
  have hn : H (hp.objs.size + 1) = none := I.hok.fresh hsz
  have hq := q1 (hp.objs.size + 1) hn
  have kk : ∀ b o, hp.get? b = some o → ((hp.push (PySem.W.kdv_tup [])).push (PySem.HandSPX.excO C hp.objs.size)).get? b = some o := fun b o e => Heap.get?_push_of_some _ (Heap.get?_push_of_some _ e)
  have hget : ((hp.push (PySem.W.kdv_tup [])).push (PySem.HandSPX.excO C hp.objs.size)).get? (hp.objs.size + 1) = some (PySem.HandSPX.excO C hp.objs.size) := by heap_get
  have I2 : Inv X pins σ (upd H (hp.objs.size + 1) (exo (hp.objs.size + 1) C none)) ⟨(hp.push (PySem.W.kdv_tup [])).push (PySem.HandSPX.excO C hp.objs.size), g, dr, tk, os⟩ :=
    I.laid (t' := tk) (a := hp.objs.size + 1) (o := exo (hp.objs.size + 1) C none) (h' := (hp.push (PySem.W.kdv_tup [])).push (PySem.HandSPX.excO C hp.objs.size)) kk hsz (exo_ok hget)
  have r2 : Vals (V.ref (hp.objs.size + 1) :: ([] ++ dvs)) (Value.ref (hp.objs.size + 1) :: ds) := .cons rfl hd
  have hl : ([Value.ref (hp.objs.size + 1)] ++ ds).length = ps.length := by
    have e := r2.length
    rw [F1.len _ _ _ _ hq] at e
    exact e.symm
  have hus : ([] : List Value).length ≤ sizeLine := Nat.zero_le _
  refine wpAny_call (PySem.HandSPX.call_own F.excBase_ValueError (fun Y => PySem.HandSPX.refsVE_contains Y bm hbm) (I.kIn _ _ hC) (PySem.W.looks_findIn I.kIn iC) (fun self => PySem.W.bind_fn I.kIn self tI) hus
    (codeAny_mono (F1.run _ X.stack _ _ ⟨Value.ref (hp.objs.size + 1) :: [], []⟩ (Value.ref (hp.objs.size + 1) :: ds) _ _ (fun _ _ _ => False) (hr.make C [] []) (I2.env0.make C [] []) (hb _ (Value.ref (hp.objs.size + 1) :: []) I2.kIn hl) r2 hq) fun r s' hq' => ?_))
  cases r with
  | error er => exact hx pins σ _ _ er s' I2 hq'
  | ok fl =>
    cases fl with
    | ret u =>
      obtain ⟨v, H2, os2, bare2, un2, hok2, rv, ev, d, fs, ea, ed, hd1, q2⟩ := hq'
      subst ev
      obtain ⟨h2, g2, d2, t2, os'⟩ := s'
      exact ⟨rv, mk_end (raises_own T.exC T.tyC) I hsz kk un2 hok2 os2 bare2 ea ed hd1 q2⟩
    | next => exact False.elim hq'
    | brk => exact False.elim hq'
    | cont => exact False.elim hq'
end L2N
namespace Sw
open PySem PySem.Spec L2

/-- is an instance of n one of m -/
def subX (n m : Str) : Bool := n == m || (m == ("StrandError" : Str) || m == ("ValueError" : Str))
/-- what every class of refusals must say -/
structure ClsF (K : PySem.W.Frag) (C : Addr) : Prop where
  isE : ExcC K C
  oex : OexC K C
/-- the table of a law's classes: cl their names, fl the fields' names -/
structure XT (K : PySem.W.Frag) (mg : Str → Option Value) (cl fl : List Str) : Prop where
  gm : ∀ n ∈ cl, mg n = some (.ref (He.ga K n))
  cf : ∀ n ∈ cl, ClsF K (He.ga K n)
  kit : ∀ n ∈ cl, ∀ m ∈ cl, PySem.W.kitOne K (.ref (He.ga K n)) (.ref (He.ga K m)) = some (subX n m)
  exm : ∀ n ∈ cl, ∀ m ∈ cl, PySem.W.exmOne K (.ref (He.ga K n)) (.ref (He.ga K m)) = some (subX n m)
  ve : ∀ n ∈ cl, PySem.W.kitOne K (.ref (He.ga K n)) (.type "ValueError") = some true
  nof : ∀ n ∈ cl, ∀ f ∈ fl, PySem.W.findIn K (.ref (He.ga K n)) f = some none
end Sw

set_option Elab.async false
set_option linter.all false
set_option maxRecDepth 100000
namespace Sw
open PySem PySem.Spec L2

abbrev PSpX := List D → (RV → Prop) → (XV → Prop) → Prop
def spOfX (K : FgK) (mg : Str → Option Value) (ps : PSpX) : Sp := fun vs H Q E => ∃ (F : Hp) (ds : List D), Le F H ∧ AtAll K F ds vs ∧ ∃ (Qp : RV → Prop) (Ep : XV → Prop), ps ds Qp Ep ∧
  (∀ v H' F' rv, Post K none H F rv none v H' F' → Qp rv → Q v H') ∧ ∀ xv cls d H', (∀ b o, H b = some o → H' b = some o) → (∀ dd, d = some dd → H dd = none) → XvOk mg H' xv cls d → Ep xv → E cls d H'
section
variable {P : Program} {w : World} {K : PySem.W.Frag} {mg : Str → Option Value} {base : Heap}
/-- a def that may refuse, to be called -/
structure CalX (P : Program) (w : World) (K : PySem.W.Frag) (mg : Str → Option Value) (base : Heap) (k : Nat) (x : Str) (ps : List Str) (dds : List D) (sp : PSpX) : Prop where
  ex : ∃ (f : Addr) (fd : FuncData) (dvs : List V) (ds : List Value), FnOk P w K mg base (L2N.CX P w) k f fd ps (spOfX ⟨K, P, w⟩ mg sp) ∧ mg x = some (.ref f) ∧ PySem.W.keepIn K (.ref f) = true ∧ Binds K fd ps ds ∧ Vals dvs ds ∧ constsOk dvs dds
theorem CalX.mono {k k' : Nat} {x : Str} {ps : List Str} {dds : List D} {sp : PSpX} (c : CalX P w K mg base k x ps dds sp) (h : k ≤ k') : CalX P w K mg base k' x ps dds sp := by
  obtain ⟨f, fd, dvs, ds, h1, h2⟩ := c.ex
  exact ⟨f, fd, dvs, ds, h1.mono h, h2⟩
/-- a def that may refuse, to be called -/
structure CalXA (P : Program) (w : World) (K : PySem.W.Frag) (mg : Str → Option Value) (base : Heap) (k : Nat) (x : Str) (ps : List Str) (dds : List D) (sp : PSpX) : Prop where
  ex : ∃ (f : Addr) (fd : FuncData) (dvs : List V) (ds : List Value), FnOk P w K mg base (L2.CX P w) k f fd ps (spOfX ⟨K, P, w⟩ mg sp) ∧ mg x = some (.ref f) ∧ PySem.W.keepIn K (.ref f) = true ∧ Binds K fd ps ds ∧ Vals dvs ds ∧ constsOk dvs dds
theorem CalXA.mono {k k' : Nat} {x : Str} {ps : List Str} {dds : List D} {sp : PSpX} (c : CalXA P w K mg base k x ps dds sp) (h : k ≤ k') : CalXA P w K mg base k' x ps dds sp := by
  obtain ⟨f, fd, dvs, ds, h1, h2⟩ := c.ex
  exact ⟨f, fd, dvs, ds, h1.mono h, h2⟩
end
end Sw
namespace L2
open PySem PySem.Spec PyProof.Rows
/-! ### try, several clauses, each with or without a name -/
/-- behind a suite the clause's name is gone -/
def gone (o : Option Nat) (σ : St) : St := match o with
  | none => σ
  | some i => σ.set i none
def bound (o : Option Nat) (a : Addr) (σ : St) : St := match o with
  | none => σ
  | some i => σ.set i (some (.ref a))
def goneE (o : Option Nat) (D : Ends) : Ends := { nx := fun σ' H' => D.nx (gone o σ') H', rt := D.rt, bk := fun σ' H' => D.bk (gone o σ') H', ct := fun σ' H' => D.ct (gone o σ') H' }
structure Hdl where
  c : Value
  o : Option Nat
  ts : Addr → Value → Option Addr → TS
def wAll (K : PySem.W.Frag) (Wout : WX) (D : Ends) : List Hdl → WX
  | [] => Wout
  | h :: r => fun cls d σ H => ∃ b, PySem.W.exmOne K cls h.c = some b ∧ (b = true → ∀ a, H a = none → h.ts a cls d (goneE h.o D) (bound h.o a σ) H) ∧ (b = false → wAll K Wout D r cls d σ H)
inductive HAll (X : Cx) : List ExceptHandler → List Hdl → Prop
  | nil : HAll X [] []
  | plain {x : Str} {h : Hdl} {b₀ : Stmt} {suite : List Stmt} {np pos' : Pos} {hds : List ExceptHandler} {l : List Hdl} (hc : Names X x h.c) (ho : h.o = none)
      (hsu : ∀ (a : Addr) (oe : Obj) (cls : Value) (d : Option Addr) (pn : List (Addr × Obj)), Zc cls d oe → (∃ vs, oe.data = .fields vs) → PSs (X.suite a ((a, oe) :: pn)) (b₀ :: suite) (h.ts a cls d)) (r : HAll X hds l) :
      HAll X (.ExceptHandler (some (.Name x np)) none (b₀ :: suite) pos' :: hds) (h :: l)
  | named {x n : Str} {i : Nat} {h : Hdl} {b₀ : Stmt} {suite : List Stmt} {np pos' : Pos} {hds : List ExceptHandler} {l : List Hdl} (hc : Names X x h.c) (ho : h.o = some i) (hi : X.N[i]? = some n) (hln : X.env.kindOf n = some .local)
      (hsu : ∀ (a : Addr) (oe : Obj) (cls : Value) (d : Option Addr) (pn : List (Addr × Obj)), Zc cls d oe → (∃ vs, oe.data = .fields vs) → PSs (X.suite a ((a, oe) :: pn)) (b₀ :: suite) (h.ts a cls d)) (r : HAll X hds l) :
      HAll X (.ExceptHandler (some (.Name x np)) (some n) (b₀ :: suite) pos' :: hds) (h :: l)
section
variable {X : Cx} {body : List Stmt} {h₀ : ExceptHandler} {hds : List ExceptHandler} {l : List Hdl} {pos : Pos} {tb : WX → TS} {Wout : WX}
theorem ps_try_all (hs : X.stack = X.env :: X.outer) (hf : X.env.frame = some X.env.locals) (hN : X.N.Nodup) (tk : Takes X Wout)
    (hb : ∀ (W : WX) (pn : List (Addr × Obj)) (xe : Value → Shared → Prop), Takes (X.tr pn xe) W → PassesOwn (model X.prog X.w) X.A X.env xe → PSs (X.tr pn xe) body (tb W))
    (hh : HAll X (h₀ :: hds) l) : PS X (.Try body (h₀ :: hds) [] [] pos) (fun D σ H => tb (wAll X.K Wout D l) D σ H) := by
  refine ⟨fun pins s σ H D I h => ?_⟩
  have ok := I.ok
  have hfr : X.A.frames = some (X.env :: X.outer) := by rw [ok.frames, hs]
  refine wpAny_Try_except ?_
  refine wpAny_mono ((hb (wAll X.K Wout D l) (X.pn ++ pins) (fun e s₁ => wpAny (model X.prog X.w) X.A (noteFrame e X.env) (fun _ s₂ => wpAny (model X.prog X.w) X.A (setFlight e none) (fun _ s₃ =>
    wpAny (model X.prog X.w) X.A (handleBy e X.env (h₀ :: hds)) (SP X pins D) X.xe s₃) X.xe s₂) X.xe s₁) (fun u s' xx => ?_) PassesOwn.looking).run [] s σ H D (I.toTry _) h) (fun f s1 hsp => ?_) (fun e s1 he => he)
  · obtain ⟨a, B, sI, pins', σ', H', cls, d, rfl, J', nb, up, sky, na, os, ag, w⟩ := xx
    have J : Inv X pins σ' H' sI := J'.ofTry ok
    have sky' : Sky B (X.env :: X.outer) a (Zc cls d) X.env.locals s'.heap := by rw [← hs]; exact sky
    show wpAny (model X.prog X.w) X.A (noteFrame (.ref a) X.env) _ _ _
    refine Sky.land Zc.steady hfr hf sky' fun h3 fl3 up3 => ?_
    have J3 : Inv X pins σ' H' { s' with heap := h3 } := J.landed nb fl3.1 (up.trans up3) os ag
    obtain ⟨oe3, vs3, he3, hz3, hd3⟩ := fl3.there
    have notFr : ∀ {h : Heap} {o : Obj} {vs : Array Value}, h.FunFrames B (X.env :: X.outer) → h.get? a = some o → o.data = .fields vs → a ∉ frs (X.env :: X.outer) := fun {h o vs} ff e dd hm => by
      obtain ⟨_, o', e', hnf⟩ := ff.mem hm
      rw [e] at e'; cases e'
      exact hnf _ dd
    have nfr := notFr fl3.2.2.1 he3 hd3
    have nL : a ≠ X.env.locals := fun z => nfr (List.mem_filterMap.mpr ⟨X.env, List.mem_cons_self, by rw [hf, z]⟩)
    have nF : a ∉ X.fs := fun hm => by
      obtain ⟨e, he, q⟩ := List.mem_filterMap.mp hm
      exact nfr (List.mem_filterMap.mpr ⟨e, List.mem_cons_of_mem _ he, q⟩)
    have S3 := J3.suite he3 hd3 na nL nF
    have LT : PySem.W.Looks (model X.prog X.w) h3 (typeOf (.ref a)) cls := fun A Q E s k q => wpAny_typeOf_ref (k _ _ he3) (by rw [hz3.1]; exact q)
    have test : ∀ {x : Str} {c : Value} {np : Pos} {Q : Value → Shared → Prop} {E : Value → Shared → Prop}, Names X x c → Q c { s' with heap := h3 } → wpAny (model X.prog X.w) (X.A.mark (some (.ref a))) (eval (.Name x np) X.env) Q E { s' with heap := h3 } := fun {x c np Q E} hc q => by
      obtain ⟨hg, hdbg, hm | ⟨hm, hv, hnn⟩⟩ := hc
      · exact ld_glob (X := X.suite a ((a, oe3) :: (X.pn ++ pins))) S3 hg hm q hdbg
      · exact ld_blt (X := X.suite a ((a, oe3) :: (X.pn ++ pins))) S3 hg hm hv q hnn hdbg
    have go : ∀ {hds' : List ExceptHandler} {l' : List Hdl}, HAll X hds' l' → wAll X.K Wout D l' cls d σ' H' →
        wpAny (model X.prog X.w) X.A (handleBy (.ref a) X.env hds') (SP X pins D) X.xe { s' with heap := h3 } := by
      intro hds' l' hk
      induction hk with
      | nil =>
        intro w
        refine wpAny_handleBy_nil ?_
        obtain ⟨k1, k2, k3, oe, vs, T, oT, ts', he, hz, hd, h1, hr⟩ := id fl3
        unfold PySem.passOn
        refine wpAny_bind (wpAny_field he hd h1 ?_)
        rw [if_neg (show ¬ ((Value.ref T == Value.none) = true) from by simp)]
        have fin : wpAny (model X.prog X.w) X.A (setFlight (.ref a) X.env.frame) (fun _ s4 => wpAny (model X.prog X.w) X.A (throw (.ref a) : Sem Flow) (SP X pins D) X.xe s4) X.xe { s' with heap := h3 } := by
          rw [hf]
          refine HandSPX.setFlight_upZ fl3 fun h4 hh4 up4 => wpAny_throw (tk _ _ ?_)
          exact ⟨a, B, sI, pins, σ', H', cls, d, rfl, J, nb, (up.trans up3).trans up4, .inr (.inr (by rw [hs]; exact hh4)), na, os, ag, w⟩
        first
          | exact wpAny_bind (wpAny_pure (wpAny_bind fin))
          | exact wpAny_bind fin
      | @plain x h b₀ suite np pos' hds2 l2 hc ho hsu r ih =>
        intro w
        obtain ⟨b, hb1, hyes, hno⟩ := w
        refine wpAny_handleBy_cons (codeAny_handlers_test ?_) (by intro q; cases q)
        have LM := PySem.W.exm_one (M := model X.prog X.w) (J3.kIn) LT hb1
        refine test hc (LM.here ?_)
        cases b with
        | true =>
          refine codeAny_handlers_suite ?_
          refine HandSPX.lands_againZ fl3 fun h4 fl4 up4 => ?_
          have J4 : Inv X pins σ' H' { s' with heap := h4 } := J.landed nb fl4.1 ((up.trans up3).trans up4) os ag
          obtain ⟨oe4, vs4, he4, hz4, hd4⟩ := fl4.there
          have S4 := J4.suite he4 hd4 na nL nF
          have hy := hyes rfl a na
          rw [ho] at hy
          refine wpAny_mono ((hsu a oe4 cls d (X.pn ++ pins) hz4 ⟨_, hd4⟩).run [] _ _ H' _ S4 hy) (fun f s6 hsp => ?_) (fun _ _ z => False.elim z)
          cases f with
          | next =>
            obtain ⟨σ6, H6, S6, q6⟩ := hsp
            exact ⟨_, _, S6.unsuite ok, q6⟩
          | brk =>
            obtain ⟨σ6, H6, S6, q6⟩ := hsp
            exact ⟨_, _, S6.unsuite ok, q6⟩
          | cont =>
            obtain ⟨σ6, H6, S6, q6⟩ := hsp
            exact ⟨_, _, S6.unsuite ok, q6⟩
          | ret u =>
            obtain ⟨v6, σ6, H6, S6, r6, q6⟩ := hsp
            exact ⟨_, _, _, S6.unsuite ok, r6, q6⟩
        | false =>
          show wpAny _ X.A (handleBy (.ref a) X.env hds2) _ _ _
          exact ih (hno rfl)
      | @named x n i h b₀ suite np pos' hds2 l2 hc ho hi hln hsu r ih =>
        intro w
        obtain ⟨b, hb1, hyes, hno⟩ := w
        refine wpAny_handleBy_cons (codeAny_handlers_test ?_) (by intro q; cases q)
        have hloc : Loc X.env.scope n := .inl hln
        have LM := PySem.W.exm_one (M := model X.prog X.w) (J3.kIn) LT hb1
        refine test hc (LM.here ?_)
        cases b with
        | true =>
          refine codeAny_handlers_suite_as ?_
          refine HandSPX.lands_againZ fl3 fun h4 fl4 up4 => ?_
          have J4 : Inv X pins σ' H' { s' with heap := h4 } := J.landed nb fl4.1 ((up.trans up3).trans up4) os ag
          obtain ⟨oe4, vs4, he4, hz4, hd4⟩ := fl4.there
          have S4 := J4.suite he4 hd4 na nL nF
          have hy := hyes rfl a na
          rw [ho] at hy
          refine store_ok (X := X.suite a ((a, oe4) :: (X.pn ++ pins))) (v := .ref a) S4 hN hi hloc rfl (fun s5 S5 => ?_) (.inr hln)
          refine wpAny_mono ((hsu a oe4 cls d (X.pn ++ pins) hz4 ⟨_, hd4⟩).run [] s5 _ H' _ S5 hy) (fun f s6 hsp => ?_) (fun _ _ z => False.elim z)
          have end_ : ∀ {σ6 : St} {H6 : Hp} {Q : Shared → Prop}, Inv (X.suite a ((a, oe4) :: (X.pn ++ pins))) [] σ6 H6 s6 → (∀ s7, Inv X pins (σ6.set i none) H6 s7 → Q s7) →
              wpAny (model X.prog X.w) X.A (do bindName X.env n .none; unbindBehindTheSuite X.env n pos') (fun _ s7 => Q s7) X.xe s6 := fun {σ6 H6 Q} S6 hq => gone_ok (S6.unsuite ok) hN hi hln hq
          cases f with
          | next =>
            obtain ⟨σ6, H6, S6, q6⟩ := hsp
            exact end_ S6 fun s7 J7 => ⟨_, _, J7, q6⟩
          | brk =>
            obtain ⟨σ6, H6, S6, q6⟩ := hsp
            exact end_ S6 fun s7 J7 => ⟨_, _, J7, q6⟩
          | cont =>
            obtain ⟨σ6, H6, S6, q6⟩ := hsp
            exact end_ S6 fun s7 J7 => ⟨_, _, J7, q6⟩
          | ret u =>
            obtain ⟨v6, σ6, H6, S6, r6, q6⟩ := hsp
            exact end_ S6 fun s7 J7 => ⟨_, _, _, J7, r6, q6⟩
        | false =>
          show wpAny _ X.A (handleBy (.ref a) X.env hds2) _ _ _
          exact ih (hno rfl)
    exact go hh w
  · cases f with
    | next =>
      obtain ⟨σ', H', J', q⟩ := hsp
      exact wpAny_execs_nil ⟨σ', H', J'.ofTry ok, q⟩
    | brk =>
      obtain ⟨σ', H', J', q⟩ := hsp
      exact ⟨σ', H', J'.ofTry ok, q⟩
    | cont =>
      obtain ⟨σ', H', J', q⟩ := hsp
      exact ⟨σ', H', J'.ofTry ok, q⟩
    | ret u =>
      obtain ⟨v, σ', H', J', r, q⟩ := hsp
      exact ⟨v, σ', H', J'.ofTry ok, r, q⟩
end
section
variable {X : Cx} {body : List Stmt} {h₀ : ExceptHandler} {hds : List ExceptHandler} {l : List Hdl} {pos : Pos} {tb : WX → TS} {Wout : WX}
theorem ps_try_allN (hs : X.stack = X.env :: X.outer) (hf : X.env.frame = some X.env.locals) (hN : X.N.Nodup) (tk : L2N.Takes X Wout)
    (hb : ∀ (W : WX) (pn : List (Addr × Obj)) (xe : Value → Shared → Prop), L2N.Takes (X.tr pn xe) W → PassesOwn (model X.prog X.w) X.A X.env xe → PSs (X.tr pn xe) body (tb W))
    (hh : HAll X (h₀ :: hds) l) : PS X (.Try body (h₀ :: hds) [] [] pos) (fun D σ H => tb (wAll X.K Wout D l) D σ H) := by
  refine ⟨fun pins s σ H D I h => ?_⟩
  have ok := I.ok
  have hfr : X.A.frames = some (X.env :: X.outer) := by rw [ok.frames, hs]
  refine wpAny_Try_except ?_
  refine wpAny_mono ((hb (wAll X.K Wout D l) (X.pn ++ pins) (fun e s₁ => wpAny (model X.prog X.w) X.A (noteFrame e X.env) (fun _ s₂ => wpAny (model X.prog X.w) X.A (setFlight e none) (fun _ s₃ =>
    wpAny (model X.prog X.w) X.A (handleBy e X.env (h₀ :: hds)) (SP X pins D) X.xe s₃) X.xe s₂) X.xe s₁) (fun u s' xx => ?_) PassesOwn.looking).run [] s σ H D (I.toTry _) h) (fun f s1 hsp => ?_) (fun e s1 he => he)
  · obtain ⟨a, B, sI, pins', σ', H', cls, d, rfl, J', nb, up, sky, na, os, ag, w⟩ := xx
    have J : Inv X pins σ' H' sI := J'.ofTry ok
    have sky' : Sky B (X.env :: X.outer) a (L2N.Zn cls d) X.env.locals s'.heap := by rw [← hs]; exact sky
    show wpAny (model X.prog X.w) X.A (noteFrame (.ref a) X.env) _ _ _
    refine L2N.Sky.land L2N.Zn.steady hfr hf sky' fun h3 fl3 up3 => ?_
    have J3 : Inv X pins σ' H' { s' with heap := h3 } := J.landed nb fl3.1 (up.trans up3) os ag
    obtain ⟨oe3, vs3, he3, hz3, hd3⟩ := fl3.there
    have notFr : ∀ {h : Heap} {o : Obj} {vs : Array Value}, h.FunFrames B (X.env :: X.outer) → h.get? a = some o → o.data = .fields vs → a ∉ frs (X.env :: X.outer) := fun {h o vs} ff e dd hm => by
      obtain ⟨_, o', e', hnf⟩ := ff.mem hm
      rw [e] at e'; cases e'
      exact hnf _ dd
    have nfr := notFr fl3.2.2.1 he3 hd3
    have nL : a ≠ X.env.locals := fun z => nfr (List.mem_filterMap.mpr ⟨X.env, List.mem_cons_self, by rw [hf, z]⟩)
    have nF : a ∉ X.fs := fun hm => by
      obtain ⟨e, he, q⟩ := List.mem_filterMap.mp hm
      exact nfr (List.mem_filterMap.mpr ⟨e, List.mem_cons_of_mem _ he, q⟩)
    have S3 := J3.suite he3 hd3 na nL nF
    have LT : PySem.W.Looks (model X.prog X.w) h3 (typeOf (.ref a)) cls := fun A Q E s k q => wpAny_typeOf_ref (k _ _ he3) (by rw [hz3.1]; exact q)
    have test : ∀ {x : Str} {c : Value} {np : Pos} {Q : Value → Shared → Prop} {E : Value → Shared → Prop}, Names X x c → Q c { s' with heap := h3 } → wpAny (model X.prog X.w) (X.A.mark (some (.ref a))) (eval (.Name x np) X.env) Q E { s' with heap := h3 } := fun {x c np Q E} hc q => by
      obtain ⟨hg, hdbg, hm | ⟨hm, hv, hnn⟩⟩ := hc
      · exact ld_glob (X := X.suite a ((a, oe3) :: (X.pn ++ pins))) S3 hg hm q hdbg
      · exact ld_blt (X := X.suite a ((a, oe3) :: (X.pn ++ pins))) S3 hg hm hv q hnn hdbg
    have go : ∀ {hds' : List ExceptHandler} {l' : List Hdl}, HAll X hds' l' → wAll X.K Wout D l' cls d σ' H' →
        wpAny (model X.prog X.w) X.A (handleBy (.ref a) X.env hds') (SP X pins D) X.xe { s' with heap := h3 } := by
      intro hds' l' hk
      induction hk with
      | nil =>
        intro w
        refine wpAny_handleBy_nil ?_
        obtain ⟨k1, k2, k3, oe, vs, T, oT, ts', he, hz, hd, h1, hr⟩ := id fl3
        unfold PySem.passOn
        refine wpAny_bind (wpAny_field he hd h1 ?_)
        rw [if_neg (show ¬ ((Value.ref T == Value.none) = true) from by simp)]
        have fin : wpAny (model X.prog X.w) X.A (setFlight (.ref a) X.env.frame) (fun _ s4 => wpAny (model X.prog X.w) X.A (throw (.ref a) : Sem Flow) (SP X pins D) X.xe s4) X.xe { s' with heap := h3 } := by
          rw [hf]
          refine HandSPX.setFlight_upZ fl3 fun h4 hh4 up4 => wpAny_throw (tk _ _ ?_)
          exact ⟨a, B, sI, pins, σ', H', cls, d, rfl, J, nb, (up.trans up3).trans up4, .inr (.inr (by rw [hs]; exact hh4)), na, os, ag, w⟩
        first
          | exact wpAny_bind (wpAny_pure (wpAny_bind fin))
          | exact wpAny_bind fin
      | @plain x h b₀ suite np pos' hds2 l2 hc ho hsu r ih =>
        intro w
        obtain ⟨b, hb1, hyes, hno⟩ := w
        refine wpAny_handleBy_cons (codeAny_handlers_test ?_) (by intro q; cases q)
        have LM := PySem.W.exm_one (M := model X.prog X.w) (J3.kIn) LT hb1
        refine test hc (LM.here ?_)
        cases b with
        | true =>
          refine codeAny_handlers_suite ?_
          refine HandSPX.lands_againZ fl3 fun h4 fl4 up4 => ?_
          have J4 : Inv X pins σ' H' { s' with heap := h4 } := J.landed nb fl4.1 ((up.trans up3).trans up4) os ag
          obtain ⟨oe4, vs4, he4, hz4, hd4⟩ := fl4.there
          have S4 := J4.suite he4 hd4 na nL nF
          have hy := hyes rfl a na
          rw [ho] at hy
          refine wpAny_mono ((hsu a oe4 cls d (X.pn ++ pins) hz4.zc ⟨_, hd4⟩).run [] _ _ H' _ S4 hy) (fun f s6 hsp => ?_) (fun _ _ z => False.elim z)
          cases f with
          | next =>
            obtain ⟨σ6, H6, S6, q6⟩ := hsp
            exact ⟨_, _, S6.unsuite ok, q6⟩
          | brk =>
            obtain ⟨σ6, H6, S6, q6⟩ := hsp
            exact ⟨_, _, S6.unsuite ok, q6⟩
          | cont =>
            obtain ⟨σ6, H6, S6, q6⟩ := hsp
            exact ⟨_, _, S6.unsuite ok, q6⟩
          | ret u =>
            obtain ⟨v6, σ6, H6, S6, r6, q6⟩ := hsp
            exact ⟨_, _, _, S6.unsuite ok, r6, q6⟩
        | false =>
          show wpAny _ X.A (handleBy (.ref a) X.env hds2) _ _ _
          exact ih (hno rfl)
      | @named x n i h b₀ suite np pos' hds2 l2 hc ho hi hln hsu r ih =>
        intro w
        obtain ⟨b, hb1, hyes, hno⟩ := w
        refine wpAny_handleBy_cons (codeAny_handlers_test ?_) (by intro q; cases q)
        have hloc : Loc X.env.scope n := .inl hln
        have LM := PySem.W.exm_one (M := model X.prog X.w) (J3.kIn) LT hb1
        refine test hc (LM.here ?_)
        cases b with
        | true =>
          refine codeAny_handlers_suite_as ?_
          refine HandSPX.lands_againZ fl3 fun h4 fl4 up4 => ?_
          have J4 : Inv X pins σ' H' { s' with heap := h4 } := J.landed nb fl4.1 ((up.trans up3).trans up4) os ag
          obtain ⟨oe4, vs4, he4, hz4, hd4⟩ := fl4.there
          have S4 := J4.suite he4 hd4 na nL nF
          have hy := hyes rfl a na
          rw [ho] at hy
          refine store_ok (X := X.suite a ((a, oe4) :: (X.pn ++ pins))) (v := .ref a) S4 hN hi hloc rfl (fun s5 S5 => ?_) (.inr hln)
          refine wpAny_mono ((hsu a oe4 cls d (X.pn ++ pins) hz4.zc ⟨_, hd4⟩).run [] s5 _ H' _ S5 hy) (fun f s6 hsp => ?_) (fun _ _ z => False.elim z)
          have end_ : ∀ {σ6 : St} {H6 : Hp} {Q : Shared → Prop}, Inv (X.suite a ((a, oe4) :: (X.pn ++ pins))) [] σ6 H6 s6 → (∀ s7, Inv X pins (σ6.set i none) H6 s7 → Q s7) →
              wpAny (model X.prog X.w) X.A (do bindName X.env n .none; unbindBehindTheSuite X.env n pos') (fun _ s7 => Q s7) X.xe s6 := fun {σ6 H6 Q} S6 hq => gone_ok (S6.unsuite ok) hN hi hln hq
          cases f with
          | next =>
            obtain ⟨σ6, H6, S6, q6⟩ := hsp
            exact end_ S6 fun s7 J7 => ⟨_, _, J7, q6⟩
          | brk =>
            obtain ⟨σ6, H6, S6, q6⟩ := hsp
            exact end_ S6 fun s7 J7 => ⟨_, _, J7, q6⟩
          | cont =>
            obtain ⟨σ6, H6, S6, q6⟩ := hsp
            exact end_ S6 fun s7 J7 => ⟨_, _, J7, q6⟩
          | ret u =>
            obtain ⟨v6, σ6, H6, S6, r6, q6⟩ := hsp
            exact end_ S6 fun s7 J7 => ⟨_, _, _, J7, r6, q6⟩
        | false =>
          show wpAny _ X.A (handleBy (.ref a) X.env hds2) _ _ _
          exact ih (hno rfl)
    exact go hh w
  · cases f with
    | next =>
      obtain ⟨σ', H', J', q⟩ := hsp
      exact wpAny_execs_nil ⟨σ', H', J'.ofTry ok, q⟩
    | brk =>
      obtain ⟨σ', H', J', q⟩ := hsp
      exact ⟨σ', H', J'.ofTry ok, q⟩
    | cont =>
      obtain ⟨σ', H', J', q⟩ := hsp
      exact ⟨σ', H', J'.ofTry ok, q⟩
    | ret u =>
      obtain ⟨v, σ', H', J', r, q⟩ := hsp
      exact ⟨v, σ', H', J'.ofTry ok, r, q⟩
end
end L2

set_option Elab.async false
set_option linter.all false
set_option maxRecDepth 100000
namespace Sw
open PySem PySem.Spec L2

structure Cls' where
  c : Str
  o : Option Nat
  s : Addr → XV → PS'
def goneS (o : Option Nat) (env : List SV) : List SV := match o with
  | none => env
  | some i => env.set i .un
def boundS (o : Option Nat) (a : Addr) (env : List SV) : List SV := match o with
  | none => env
  | some i => env.set i (.raw (.ref a))
def goneX (o : Option Nat) (Dp : PEnds) : PEnds := { nx := fun e => Dp.nx (goneS o e), rt := Dp.rt, bk := fun e => Dp.bk (goneS o e), ct := fun e => Dp.ct (goneS o e) }
def pHs (cl : List Str) (Ep : XP) (Dp : PEnds) : List Cls' → XP
  | [] => Ep
  | h :: r => fun xv env => xv.c ∈ cl ∧ if subX xv.c h.c = true then ∀ a : Addr, h.s a xv (goneX h.o Dp) (boundS h.o a env) else pHs cl Ep Dp r xv env
/-- the context of an except suite: the exception stands at a, its class's name and its field are xv's -/
abbrev Cz.suit (X : Cz) (a : Addr) (oe : Obj) (pn : List (Addr × Obj)) (d : Option Addr) (xv : XV) : Cz :=
  ⟨X.toCx.suite a ((a, oe) :: pn), wNo, pNo, true, .of takes_none5, fun C => match xv.f with
    | none => d = none
    | some (f, x) => ∃ dd v, d = some dd ∧ C.F0 dd = some (.xd [(f, v)]) ∧ atomV x = some v⟩
/-- what a suite may take for granted -/
structure InS (X : Cz) (cl : List Str) (cls : Value) (d : Option Addr) (oe : Obj) (xv : XV) : Prop where
  z : Zc cls d oe
  f : ∃ vs, oe.data = .fields vs
  i : xv.c ∈ cl
  e : cls = .ref (He.ga X.K xv.c)
inductive HOk (X : Cz) (cl : List Str) : List ExceptHandler → List Cls' → Prop
  | nil : HOk X cl [] []
  | plain {x : Str} {h : Cls'} {b₀ : Stmt} {suite : List Stmt} {np pos' : Pos} {hds : List ExceptHandler} {l : List Cls'} (hg : Gl X x) (hdb : (x == ("__debug__" : Str)) = false) (hx : x ∈ cl) (hc : h.c = x) (ho : h.o = none)
      (hsu : ∀ (a : Addr) (oe : Obj) (cls : Value) (d : Option Addr) (pn : List (Addr × Obj)) (xv : XV), InS X cl cls d oe xv → EB (X.suit a oe pn d xv) (b₀ :: suite) (h.s a xv)) (r : HOk X cl hds l) :
      HOk X cl (.ExceptHandler (some (.Name x np)) none (b₀ :: suite) pos' :: hds) (h :: l)
  | named {x n : Str} {i : Nat} {h : Cls'} {b₀ : Stmt} {suite : List Stmt} {np pos' : Pos} {hds : List ExceptHandler} {l : List Cls'} (hg : Gl X x) (hdb : (x == ("__debug__" : Str)) = false) (hx : x ∈ cl) (hc : h.c = x) (ho : h.o = some i) (hi : X.N[i]? = some n) (hln : X.env.kindOf n = some .local)
      (hsu : ∀ (a : Addr) (oe : Obj) (cls : Value) (d : Option Addr) (pn : List (Addr × Obj)) (xv : XV), InS X cl cls d oe xv → EB (X.suit a oe pn d xv) (b₀ :: suite) (h.s a xv)) (r : HOk X cl hds l) :
      HOk X cl (.ExceptHandler (some (.Name x np)) (some n) (b₀ :: suite) pos' :: hds) (h :: l)
section
variable {K : FgK} {C : Ec} {σ : L2.St} {H F : Hp} {env : List SV}
/-- another ground for what is known -/
theorem RelB.up (R : RelB K C σ H F env) {G : Hp} (h : Le G F) (n : ∀ b o, F b = some o → G b = some o ∨ C.H0 b = none) : RelB K { C with F0 := G } σ H F env :=
  ⟨R.frz, h, n, R.frame, R.la, R.len, R.slot, R.dist⟩
theorem RelB.down {G : Hp} (R : RelB K { C with F0 := G } σ H F env) (h : Le C.F0 G) (n : ∀ b o, G b = some o → C.F0 b = some o ∨ C.H0 b = none) : RelB K C σ H F env :=
  ⟨R.frz, h.trans' R.mono, fun b o q => by
    rcases R.new b o q with z | z
    · exact n b o z
    · exact .inr z, R.frame, R.la, R.len, R.slot, R.dist⟩
theorem RelB.raw (R : RelB K C σ H F env) (i : Nat) (v : V) : RelB K C (σ.set i (some v)) H F (env.set i (.raw v)) := by
  have oth : ∀ (j : Nat) (l : Bool) (es : Ct), (env.set i (.raw v))[j]? = some (SV.obj l es) → j ≠ i ∧ env[j]? = some (SV.obj l es) := fun j l es h => by
    by_cases e : j = i
    · subst e
      by_cases hi : j < env.length
      · rw [List.getElem?_set_self hi] at h; cases h
      · rw [List.getElem?_eq_none (by rw [List.length_set]; omega)] at h; cases h
    · rw [List.getElem?_set_ne (Ne.symm e)] at h; exact ⟨e, h⟩
  refine ⟨R.frz, R.mono, R.new, R.frame, R.la, by rw [List.length_set, List.length_set]; exact R.len, fun j sv e => ?_, fun j k l ds m es h1 h2 h3 => ?_⟩
  · by_cases e' : j = i
    · subst e'
      have hi : j < env.length := by
        have := (List.getElem?_eq_some_iff.mp e).1
        rw [List.length_set] at this
        exact this
      rw [List.getElem?_set_self hi] at e
      cases e
      show (σ.set j (some v))[j]? = some (some v)
      rw [List.getElem?_set_self (by rw [← R.len]; exact hi)]
    · rw [List.getElem?_set_ne (Ne.symm e')] at e ⊢
      exact R.slot j sv e
  · obtain ⟨n1, h1⟩ := oth j l ds h1
    obtain ⟨n2, h2⟩ := oth k m es h2
    rw [List.getElem?_set_ne (Ne.symm n1), List.getElem?_set_ne (Ne.symm n2)] at h3
    exact R.dist j k l ds m es h1 h2 h3
theorem RelB.unset (R : RelB K C σ H F env) (i : Nat) : RelB K C (σ.set i none) H F (env.set i .un) := by
  have oth : ∀ (j : Nat) (l : Bool) (es : Ct), (env.set i .un)[j]? = some (SV.obj l es) → j ≠ i ∧ env[j]? = some (SV.obj l es) := fun j l es h => by
    by_cases e : j = i
    · subst e
      by_cases hi : j < env.length
      · rw [List.getElem?_set_self hi] at h; cases h
      · rw [List.getElem?_eq_none (by rw [List.length_set]; omega)] at h; cases h
    · rw [List.getElem?_set_ne (Ne.symm e)] at h; exact ⟨e, h⟩
  refine ⟨R.frz, R.mono, R.new, R.frame, R.la, by rw [List.length_set, List.length_set]; exact R.len, fun j sv e => ?_, fun j k l ds m es h1 h2 h3 => ?_⟩
  · by_cases e' : j = i
    · subst e'
      have hi : j < env.length := by
        have := (List.getElem?_eq_some_iff.mp e).1
        rw [List.length_set] at this
        exact this
      rw [List.getElem?_set_self hi] at e
      cases e
      trivial
    · rw [List.getElem?_set_ne (Ne.symm e')] at e ⊢
      exact R.slot j sv e
  · obtain ⟨n1, h1⟩ := oth j l ds h1
    obtain ⟨n2, h2⟩ := oth k m es h2
    rw [List.getElem?_set_ne (Ne.symm n1), List.getElem?_set_ne (Ne.symm n2)] at h3
    exact R.dist j k l ds m es h1 h2 h3
theorem RelB.bound (R : RelB K C σ H F env) (o : Option Nat) (a : Addr) : RelB K C (L2.bound o a σ) H F (boundS o a env) := by
  cases o with
  | none => exact R
  | some i => exact R.raw i (.ref a)
theorem RelB.gone (R : RelB K C σ H F env) (o : Option Nat) : RelB K C (L2.gone o σ) H F (goneS o env) := by
  cases o with
  | none => exact R
  | some i => exact R.unset i
end
/-- what the ends want, seen from other grounds -/
theorem EndsOk.ground {K K' : FgX} {C : Ec} {F F1 G : Hp} {D : Ends} {Dp : PEnds} (e : EndsOk K C F D Dp) (hb : K.b = K'.b) (x : XOk K C) (h : Le C.F0 G) (n : ∀ b o, G b = some o → C.F0 b = some o ∨ C.H0 b = none) (l : Le F F1) (o : Option Nat) : EndsOk K' { C with F0 := G } F1 (goneE o D) (goneX o Dp) := by
  obtain ⟨b, mg, W, Ep, ck⟩ := K
  obtain ⟨b', mg', W', Ep', ck'⟩ := K'
  cases hb
  exact ⟨fun σ' H' F' env' R m q => e.nx _ H' F' _ ⟨(R.toRelB.down h n).gone o, x⟩ (l.trans' m) q, fun σ' H' F' env' rv v R m r q => e.rt σ' H' F' env' rv v ⟨R.toRelB.down h n, x⟩ (l.trans' m) (by cases rv <;> exact r) q,
    fun σ' H' F' env' R m q => e.bk _ H' F' _ ⟨(R.toRelB.down h n).gone o, x⟩ (l.trans' m) q, fun σ' H' F' env' R m q => e.ct _ H' F' _ ⟨(R.toRelB.down h n).gone o, x⟩ (l.trans' m) q⟩
section
variable {X : Cz} {cl fl : List Str}
/-- the suite of a clause, as a reading -/
def tSuite (X : Cz) (sts : List Stmt) : Addr → Value → Option Addr → TS := fun a cls d D σ H => ∀ (oe : Obj) (pn : List (Addr × Obj)), Zc cls d oe → (∃ vs, oe.data = .fields vs) → ∀ (pins : List (Addr × Obj)) (s : Shared), Inv (X.toCx.suite a ((a, oe) :: pn)) pins σ H s →
  wpAny (model X.prog X.w) (X.toCx.suite a ((a, oe) :: pn)).A (execs sts X.env) (SP (X.toCx.suite a ((a, oe) :: pn)) pins D) (fun _ _ => False) s
theorem suite_run (T : XT X.K X.mg cl fl) {h : Cls'} {sts : List Stmt} (hsu : ∀ (a : Addr) (oe : Obj) (cls : Value) (d : Option Addr) (pn : List (Addr × Obj)) (xv : XV), InS X cl cls d oe xv → EB (X.suit a oe pn d xv) sts (h.s a xv))
    {C : Ec} {F : Hp} {D : Ends} {Dp : PEnds} (x : XOk X.fr C) (k : EndsOk X.fr C F D Dp) {σ' : L2.St} {H' F' : Hp} {env' : List SV} {cls : Value} {d : Option Addr} {xv : XV} (R : RelB X.fr.b C σ' H' F' env') (l : Le F F') (nw : ∀ dd, d = some dd → C.H0 dd = none ∧ F' dd = none ∧ ¬ Own σ' env' dd)
    (xo : XvOk X.mg H' xv cls d) (hi : xv.c ∈ cl) {a : Addr} (q : h.s a xv (goneX h.o Dp) (boundS h.o a env')) : tSuite X sts a cls d (goneE h.o D) (bound h.o a σ') H' := by
  intro oe pn hz hf pins s I
  have he : cls = .ref (He.ga X.K xv.c) := by
    have e1 := xo.1
    rw [T.gm xv.c hi] at e1
    exact (Option.some.inj e1).symm
  obtain ⟨t, h1, l1⟩ := (hsu a oe cls d pn xv ⟨hz, hf, hi, he⟩).ex
  refine h1.run pins s _ H' _ I ?_
  have x2 := xo.2
  cases hxf : xv.f with
  | none =>
    rw [hxf] at x2
    refine l1 { C with F0 := F' } _ H' F' _ _ _ ⟨(R.up Le.rfl' fun b o z => .inl z).bound h.o a, ?_, fun _ _ _ _ _ _ _ _ _ _ z => z.elim⟩ (k.ground (K' := (X.suit a oe pn d xv).fr) rfl x R.mono R.new l h.o) q
    show match xv.f with
      | none => d = none
      | some (f, x) => _
    rw [hxf]
    exact x2
  | some p =>
    obtain ⟨f, y⟩ := p
    rw [hxf] at x2
    obtain ⟨dd, v, rfl, hdd, hv⟩ := x2
    obtain ⟨n0, n1, n2⟩ := nw dd rfl
    have Rx : Rel X.fr C σ' H' F' env' := ⟨R, x⟩
    have R2 := Rx.freeze hdd n1 n0 n2
    have ff : Le F' (upd F' dd (.xd [(f, v)])) := fun b u h => by
      rw [upd_ne (ne_of_none h n1)]; exact h
    refine l1 { C with F0 := upd F' dd (.xd [(f, v)]) } _ H' _ _ _ _ ⟨(R2.toRelB.up Le.rfl' fun b o z => .inl z).bound h.o a, ?_, fun _ _ _ _ _ _ _ _ _ _ z => z.elim⟩ (k.ground (K' := (X.suit a oe pn (some dd) xv).fr) rfl x R2.mono R2.new (l.trans' ff) h.o) q
    show match xv.f with
      | none => (some dd : Option Addr) = none
      | some (f, x) => _
    rw [hxf]
    exact ⟨dd, v, rfl, upd_same, hv⟩
theorem HOk.all (T : XT X.K X.mg cl fl) {hds : List ExceptHandler} {l : List Cls'} (h : HOk X cl hds l) : ∃ L, HAll X.toCx hds L ∧ ∀ (C : Ec) (F : Hp) (D : Ends) (Dp : PEnds), XOk X.fr C → EndsOk X.fr C F D Dp →
    ∀ (σ' : L2.St) (H' F' : Hp) (env' : List SV) (cls : Value) (d : Option Addr) (xv : XV), RelB X.fr.b C σ' H' F' env' → Le F F' → (∀ dd, d = some dd → C.H0 dd = none ∧ F' dd = none ∧ ¬ Own σ' env' dd) → XvOk X.mg H' xv cls d → pHs cl X.Ep Dp l xv env' → wAll X.K X.W D L cls d σ' H' := by
  induction h with
  | nil => exact ⟨[], .nil, fun C F D Dp x k σ' H' F' env' cls d xv R l nw xo q => x.2 σ' H' F' env' cls d xv R nw xo q⟩
  | @plain x h b₀ suite np pos' hds l hg hdb hx hc ho hsu r ih =>
    obtain ⟨L, hL, ih⟩ := ih
    refine ⟨⟨.ref (He.ga X.K x), h.o, tSuite X (b₀ :: suite)⟩ :: L, .plain ⟨hg, hdb, .inl (T.gm x hx)⟩ ho (fun a oe cls d pn hz hf => ⟨fun pins s σ H D I q => q oe pn hz hf pins s I⟩) hL, fun C F D Dp x' k σ' H' F' env' cls d xv R l nw xo q => ?_⟩
    obtain ⟨hi, q⟩ := q
    have he : cls = .ref (He.ga X.K xv.c) := by
      have e1 := xo.1
      rw [T.gm xv.c hi] at e1
      exact (Option.some.inj e1).symm
    refine ⟨subX xv.c x, by rw [he]; exact T.exm _ hi _ hx, fun hb a na => ?_, fun hb => ?_⟩
    · rw [hc, if_pos hb] at q
      exact suite_run T hsu x' k R l nw xo hi (q a)
    · rw [hc, if_neg (by rw [hb]; decide)] at q
      exact ih C F D Dp x' k σ' H' F' env' cls d xv R l nw xo q
  | @named x n i h b₀ suite np pos' hds l hg hdb hx hc ho hi' hln hsu r ih =>
    obtain ⟨L, hL, ih⟩ := ih
    refine ⟨⟨.ref (He.ga X.K x), h.o, tSuite X (b₀ :: suite)⟩ :: L, .named ⟨hg, hdb, .inl (T.gm x hx)⟩ ho hi' hln (fun a oe cls d pn hz hf => ⟨fun pins s σ H D I q => q oe pn hz hf pins s I⟩) hL, fun C F D Dp x' k σ' H' F' env' cls d xv R l nw xo q => ?_⟩
    obtain ⟨hi, q⟩ := q
    have he : cls = .ref (He.ga X.K xv.c) := by
      have e1 := xo.1
      rw [T.gm xv.c hi] at e1
      exact (Option.some.inj e1).symm
    refine ⟨subX xv.c x, by rw [he]; exact T.exm _ hi _ hx, fun hb a na => ?_, fun hb => ?_⟩
    · rw [hc, if_pos hb] at q
      exact suite_run T hsu x' k R l nw xo hi (q a)
    · rw [hc, if_neg (by rw [hb]; decide)] at q
      exact ih C F D Dp x' k σ' H' F' env' cls d xv R l nw xo q
end
end Sw

set_option Elab.async false
set_option linter.all false
set_option maxRecDepth 100000
namespace Sw
open PySem PySem.Spec L2
section
variable {P : Program} {w : World} {K : PySem.W.Frag} {mg : Str → Option Value} {base : Heap}
/-- a def that may refuse, where it does not -/
theorem FnOk.no {k : Nat} {f : Addr} {fd : FuncData} {ps : List Str} {sp : PSp} {spx : PSpX} (F : FnOk P w K mg base (L2N.CX P w) k f fd ps (spOfX ⟨K, P, w⟩ mg spx)) (h : ∀ fl ds Q, sp fl ds Q → fl = none ∧ spx ds (fun rv => Q rv none) (fun _ => False)) : FnOk P w K mg base CX0 k f fd ps (spOf ⟨K, P, w⟩ false sp) := by
  have key : ∀ vs H Q E, spOf ⟨K, P, w⟩ false sp vs H Q E → spOfX ⟨K, P, w⟩ mg spx vs H Q (fun _ _ _ => False) := fun vs H Q E q => by
    obtain ⟨F, la, fl, ds, ws, hF, ha, hl, Qp, hp, k⟩ := q
    rw [if_neg (by decide)] at hl
    obtain ⟨rfl, rfl, rfl⟩ := hl
    obtain ⟨_, hx⟩ := h _ _ _ hp
    exact ⟨F, ds, hF, ha, _, _, hx, fun v H' F' rv p q => k v H' F' rv none p q, fun _ _ _ _ _ _ _ z => z⟩
  refine ⟨fun vs H Q E q => F.len _ _ _ _ (key vs H Q E q), fun A outer s H args us vs Q E hr he hb hv q => codeAny_mono (F.run A outer s H args us vs Q _ hr he hb hv (key vs H Q E q)) fun r s' c => ?_⟩
  cases r with
  | ok fl => cases fl <;> exact c
  | error e =>
    obtain ⟨_, _, _, _, _, _, _, _, _, _, _, _, z⟩ := c
    exact z.elim
theorem CalX.no {k : Nat} {x : Str} {ps : List Str} {dds : List D} {sp : PSp} {spx : PSpX} (c : CalX P w K mg base k x ps dds spx) (h : ∀ fl ds Q, sp fl ds Q → fl = none ∧ spx ds (fun rv => Q rv none) (fun _ => False)) : Cal P w K mg base k x false ps dds sp := by
  obtain ⟨f, fd, dvs, ds, h1, h2⟩ := c.ex
  exact ⟨f, fd, dvs, ds, FnOk.no h1 h, h2⟩
/-- a def that may refuse, where it does not -/
theorem FnOk.noA {k : Nat} {f : Addr} {fd : FuncData} {ps : List Str} {sp : PSp} {spx : PSpX} (F : FnOk P w K mg base (L2.CX P w) k f fd ps (spOfX ⟨K, P, w⟩ mg spx)) (h : ∀ fl ds Q, sp fl ds Q → fl = none ∧ spx ds (fun rv => Q rv none) (fun _ => False)) : FnOk P w K mg base CX0 k f fd ps (spOf ⟨K, P, w⟩ false sp) := by
  have key : ∀ vs H Q E, spOf ⟨K, P, w⟩ false sp vs H Q E → spOfX ⟨K, P, w⟩ mg spx vs H Q (fun _ _ _ => False) := fun vs H Q E q => by
    obtain ⟨F, la, fl, ds, ws, hF, ha, hl, Qp, hp, k⟩ := q
    rw [if_neg (by decide)] at hl
    obtain ⟨rfl, rfl, rfl⟩ := hl
    obtain ⟨_, hx⟩ := h _ _ _ hp
    exact ⟨F, ds, hF, ha, _, _, hx, fun v H' F' rv p q => k v H' F' rv none p q, fun _ _ _ _ _ _ _ z => z⟩
  refine ⟨fun vs H Q E q => F.len _ _ _ _ (key vs H Q E q), fun A outer s H args us vs Q E hr he hb hv q => codeAny_mono (F.run A outer s H args us vs Q _ hr he hb hv (key vs H Q E q)) fun r s' c => ?_⟩
  cases r with
  | ok fl => cases fl <;> exact c
  | error e =>
    obtain ⟨_, _, _, _, _, _, _, _, _, _, _, _, z⟩ := c
    exact z.elim
theorem CalXA.no {k : Nat} {x : Str} {ps : List Str} {dds : List D} {sp : PSp} {spx : PSpX} (c : CalXA P w K mg base k x ps dds spx) (h : ∀ fl ds Q, sp fl ds Q → fl = none ∧ spx ds (fun rv => Q rv none) (fun _ => False)) : Cal P w K mg base k x false ps dds sp := by
  obtain ⟨f, fd, dvs, ds, h1, h2⟩ := c.ex
  exact ⟨f, fd, dvs, ds, FnOk.noA h1 h, h2⟩
end
end Sw
namespace Sw
open PySem PySem.Spec L2
end Sw

set_option Elab.async false
set_option linter.all false
set_option maxRecDepth 100000
set_option maxHeartbeats 0
namespace SwLaw
open PySem PySem.Spec PyProof.Rows L2 Sw
def topS (i : Nat) : Stmt := PySem.Challenge.pw_strandwright_k65_papers_written_and_read.main.body.getD i (.Pass ⟨0, 0, 0, 0⟩)
abbrev s_is_name : Stmt := topS 2
abbrev s_is_end : Stmt := topS 7
abbrev s_is_joint : Stmt := topS 8
abbrev s_is_half : Stmt := topS 9
abbrev s_ends_in : Stmt := topS 10
abbrev s_is_deed : Stmt := topS 11
abbrev s_show_end : Stmt := topS 15
abbrev s_show_joint : Stmt := topS 16
abbrev s_show_deedN : Stmt := topS 17
abbrev s_read_number : Stmt := topS 18
abbrev s_read_end : Stmt := topS 20
abbrev s_read_joint : Stmt := topS 21
abbrev s_read_deed : Stmt := topS 23
abbrev s_read_row : Stmt := topS 24
abbrev s_show_joints : Stmt := topS 28
abbrev s_show_rings : Stmt := topS 29
abbrev s_show_parts : Stmt := topS 30
abbrev s_show_paper : Stmt := topS 31
abbrev s_read_number_2 : Stmt := topS 32
abbrev s_read_joint_2 : Stmt := topS 34
abbrev s_words_behind : Stmt := topS 36
abbrev s_read_joints : Stmt := topS 37
abbrev s_read_part : Stmt := topS 38
abbrev s_read_ring : Stmt := topS 39
abbrev s_read_knot : Stmt := topS 40
abbrev s_read_parts : Stmt := topS 41
abbrev s_read_deeds : Stmt := topS 42
abbrev s_read_paper : Stmt := topS 43
abbrev s_law_pick : Stmt := topS 46
abbrev s_law_letters : Stmt := topS 47
abbrev s_law_name : Stmt := topS 48
abbrev s_law_names : Stmt := topS 49
abbrev s_law_alike : Stmt := topS 50
abbrev s_law_end_text : Stmt := topS 51
abbrev s_law_joints_text : Stmt := topS 52
abbrev s_law_deed_text_2 : Stmt := topS 53
abbrev s_law_with : Stmt := topS 54
abbrev s_law_ring_lines : Stmt := topS 55
abbrev s_law_part_lines : Stmt := topS 56
abbrev s_law_text : Stmt := topS 57
abbrev s_law_number : Stmt := topS 58
abbrev s_law_some_ends : Stmt := topS 59
abbrev s_law_some_joints : Stmt := topS 60
abbrev s_law_some_deed : Stmt := topS 61
abbrev s_law_many_3 : Stmt := topS 62
abbrev s_law_some_rings : Stmt := topS 63
abbrev s_law_some_parts : Stmt := topS 64
abbrev s_law_some_paper : Stmt := topS 65
abbrev s_law_holds_3 : Stmt := topS 66
abbrev s_law_flow : Stmt := topS 45
abbrev s_law_65 : Stmt := topS 67
def d_is_name : He.DefD := ⟨("is_name", none), "is_name", "is_name", defArgs s_is_name, defBody s_is_name, defScope s_is_name, [], []⟩
def d_is_end : He.DefD := ⟨("is_end", none), "is_end", "is_end", defArgs s_is_end, defBody s_is_end, defScope s_is_end, [], []⟩
def d_is_joint : He.DefD := ⟨("is_joint", none), "is_joint", "is_joint", defArgs s_is_joint, defBody s_is_joint, defScope s_is_joint, [], []⟩
def d_is_half : He.DefD := ⟨("is_half", none), "is_half", "is_half", defArgs s_is_half, defBody s_is_half, defScope s_is_half, [], []⟩
def d_ends_in : He.DefD := ⟨("ends_in", none), "ends_in", "ends_in", defArgs s_ends_in, defBody s_ends_in, defScope s_ends_in, [], []⟩
def d_is_deed : He.DefD := ⟨("is_deed", none), "is_deed", "is_deed", defArgs s_is_deed, defBody s_is_deed, defScope s_is_deed, [], []⟩
def d_show_end : He.DefD := ⟨("show_end", none), "show_end", "show_end", defArgs s_show_end, defBody s_show_end, defScope s_show_end, [], []⟩
def d_show_joint : He.DefD := ⟨("show_joint", none), "show_joint", "show_joint", defArgs s_show_joint, defBody s_show_joint, defScope s_show_joint, [], []⟩
def d_show_deedN : He.DefD := ⟨("show_deed", none), "show_deed", "show_deed", defArgs s_show_deedN, defBody s_show_deedN, defScope s_show_deedN, [], []⟩
def d_read_number : He.DefD := ⟨("read_number_deedtexts", none), "read_number", "read_number", defArgs s_read_number, defBody s_read_number, defScope s_read_number, [], []⟩
def d_read_end : He.DefD := ⟨("read_end", none), "read_end", "read_end", defArgs s_read_end, defBody s_read_end, defScope s_read_end, [], []⟩
def d_read_joint : He.DefD := ⟨("read_joint_deedtexts", none), "read_joint", "read_joint", defArgs s_read_joint, defBody s_read_joint, defScope s_read_joint, [], []⟩
def d_read_deed : He.DefD := ⟨("read_deed", none), "read_deed", "read_deed", defArgs s_read_deed, defBody s_read_deed, defScope s_read_deed, [], []⟩
def d_read_row : He.DefD := ⟨("read_row", none), "read_row", "read_row", defArgs s_read_row, defBody s_read_row, defScope s_read_row, [], []⟩
def d_show_joints : He.DefD := ⟨("show_joints", none), "show_joints", "show_joints", defArgs s_show_joints, defBody s_show_joints, defScope s_show_joints, [], []⟩
def d_show_rings : He.DefD := ⟨("show_rings", none), "show_rings", "show_rings", defArgs s_show_rings, defBody s_show_rings, defScope s_show_rings, [], []⟩
def d_show_parts : He.DefD := ⟨("show_parts", none), "show_parts", "show_parts", defArgs s_show_parts, defBody s_show_parts, defScope s_show_parts, [], []⟩
def d_show_paper : He.DefD := ⟨("show_paper", none), "show_paper", "show_paper", defArgs s_show_paper, defBody s_show_paper, defScope s_show_paper, [], []⟩
def d_read_number_2 : He.DefD := ⟨("read_number_papertexts", none), "read_number", "read_number", defArgs s_read_number_2, defBody s_read_number_2, defScope s_read_number_2, [], []⟩
def d_read_joint_2 : He.DefD := ⟨("read_joint_papertexts", none), "read_joint", "read_joint", defArgs s_read_joint_2, defBody s_read_joint_2, defScope s_read_joint_2, [], []⟩
def d_words_behind : He.DefD := ⟨("words_behind", none), "words_behind", "words_behind", defArgs s_words_behind, defBody s_words_behind, defScope s_words_behind, [], []⟩
def d_read_joints : He.DefD := ⟨("read_joints", none), "read_joints", "read_joints", defArgs s_read_joints, defBody s_read_joints, defScope s_read_joints, [], []⟩
def d_read_part : He.DefD := ⟨("read_part", none), "read_part", "read_part", defArgs s_read_part, defBody s_read_part, defScope s_read_part, [], []⟩
def d_read_ring : He.DefD := ⟨("read_ring", none), "read_ring", "read_ring", defArgs s_read_ring, defBody s_read_ring, defScope s_read_ring, [], []⟩
def d_read_knot : He.DefD := ⟨("read_knot", none), "read_knot", "read_knot", defArgs s_read_knot, defBody s_read_knot, defScope s_read_knot, [], []⟩
def d_read_parts : He.DefD := ⟨("read_parts", none), "read_parts", "read_parts", defArgs s_read_parts, defBody s_read_parts, defScope s_read_parts, [], []⟩
def d_read_deeds : He.DefD := ⟨("read_deeds", none), "read_deeds", "read_deeds", defArgs s_read_deeds, defBody s_read_deeds, defScope s_read_deeds, [], []⟩
def d_read_paper : He.DefD := ⟨("read_paper", none), "read_paper", "read_paper", defArgs s_read_paper, defBody s_read_paper, defScope s_read_paper, [], []⟩
def d_law_pick : He.DefD := ⟨("_law_pick", none), "_law_pick", "_law_pick", defArgs s_law_pick, defBody s_law_pick, defScope s_law_pick, [], []⟩
def d_law_letters : He.DefD := ⟨("_law_letters", none), "_law_letters", "_law_letters", defArgs s_law_letters, defBody s_law_letters, defScope s_law_letters, [], []⟩
def d_law_name : He.DefD := ⟨("_law_name", none), "_law_name", "_law_name", defArgs s_law_name, defBody s_law_name, defScope s_law_name, [], []⟩
def d_law_names : He.DefD := ⟨("_law_names", none), "_law_names", "_law_names", defArgs s_law_names, defBody s_law_names, defScope s_law_names, [], []⟩
def d_law_alike : He.DefD := ⟨("_law_alike", none), "_law_alike", "_law_alike", defArgs s_law_alike, defBody s_law_alike, defScope s_law_alike, [], []⟩
def d_law_end_text : He.DefD := ⟨("_law_end_text", none), "_law_end_text", "_law_end_text", defArgs s_law_end_text, defBody s_law_end_text, defScope s_law_end_text, [], []⟩
def d_law_joints_text : He.DefD := ⟨("_law_joints_text", none), "_law_joints_text", "_law_joints_text", defArgs s_law_joints_text, defBody s_law_joints_text, defScope s_law_joints_text, [], []⟩
def d_law_deed_text_2 : He.DefD := ⟨("_law_deed_text", none), "_law_deed_text", "_law_deed_text", defArgs s_law_deed_text_2, defBody s_law_deed_text_2, defScope s_law_deed_text_2, [], []⟩
def d_law_with : He.DefD := ⟨("_law_with", none), "_law_with", "_law_with", defArgs s_law_with, defBody s_law_with, defScope s_law_with, [], []⟩
def d_law_ring_lines : He.DefD := ⟨("_law_ring_lines", none), "_law_ring_lines", "_law_ring_lines", defArgs s_law_ring_lines, defBody s_law_ring_lines, defScope s_law_ring_lines, [], []⟩
def d_law_part_lines : He.DefD := ⟨("_law_part_lines", none), "_law_part_lines", "_law_part_lines", defArgs s_law_part_lines, defBody s_law_part_lines, defScope s_law_part_lines, [], []⟩
def d_law_text : He.DefD := ⟨("_law_text", none), "_law_text", "_law_text", defArgs s_law_text, defBody s_law_text, defScope s_law_text, [], []⟩
def d_law_number : He.DefD := ⟨("_law_number", none), "_law_number", "_law_number", defArgs s_law_number, defBody s_law_number, defScope s_law_number, [], []⟩
def d_law_some_ends : He.DefD := ⟨("_law_some_ends", none), "_law_some_ends", "_law_some_ends", defArgs s_law_some_ends, defBody s_law_some_ends, defScope s_law_some_ends, [], []⟩
def d_law_some_joints : He.DefD := ⟨("_law_some_joints", none), "_law_some_joints", "_law_some_joints", defArgs s_law_some_joints, defBody s_law_some_joints, defScope s_law_some_joints, [], []⟩
def d_law_some_deed : He.DefD := ⟨("_law_some_deed", none), "_law_some_deed", "_law_some_deed", defArgs s_law_some_deed, defBody s_law_some_deed, defScope s_law_some_deed, [], []⟩
def d_law_many_3 : He.DefD := ⟨("_law_many", none), "_law_many", "_law_many", defArgs s_law_many_3, defBody s_law_many_3, defScope s_law_many_3, [], []⟩
def d_law_some_rings : He.DefD := ⟨("_law_some_rings", none), "_law_some_rings", "_law_some_rings", defArgs s_law_some_rings, defBody s_law_some_rings, defScope s_law_some_rings, [], []⟩
def d_law_some_parts : He.DefD := ⟨("_law_some_parts", none), "_law_some_parts", "_law_some_parts", defArgs s_law_some_parts, defBody s_law_some_parts, defScope s_law_some_parts, [], []⟩
def d_law_some_paper : He.DefD := ⟨("_law_some_paper", none), "_law_some_paper", "_law_some_paper", defArgs s_law_some_paper, defBody s_law_some_paper, defScope s_law_some_paper, [], []⟩
def d_law_holds_3 : He.DefD := ⟨("_law_holds", none), "_law_holds", "_law_holds", defArgs s_law_holds_3, defBody s_law_holds_3, defScope s_law_holds_3, [], []⟩
def d_law_flow : He.DefD := ⟨("_law_flow", none), "_law_flow", "_law_flow", defArgs s_law_flow, defBody s_law_flow, defScope s_law_flow, [], []⟩
def d_law_65 : He.DefD := ⟨("law", none), "law", "law", defArgs s_law_65, defBody s_law_65, defScope s_law_65, [], []⟩
def fnL : List He.DefD := [d_is_name, d_is_end, d_is_joint, d_is_half, d_ends_in, d_is_deed, d_show_end, d_show_joint, d_show_deedN, d_read_number, d_read_end, d_read_joint, d_read_deed, d_read_row, d_show_joints, d_show_rings, d_show_parts, d_show_paper, d_read_number_2, d_read_joint_2, d_words_behind, d_read_joints, d_read_part, d_read_ring, d_read_knot, d_read_parts, d_read_deeds, d_read_paper, d_law_pick, d_law_letters, d_law_name, d_law_names, d_law_alike, d_law_end_text, d_law_joints_text, d_law_deed_text_2, d_law_with, d_law_ring_lines, d_law_part_lines, d_law_text, d_law_number, d_law_some_ends, d_law_some_joints, d_law_some_deed, d_law_many_3, d_law_some_rings, d_law_some_parts, d_law_some_paper, d_law_holds_3, d_law_flow, d_law_65]
def faL : List He.Fa := [.free "len", .free "isinstance", .free "str", .free "int", .free "bool", .free "list", .free "tuple", .free "dict", .free "range", .free "all", .free "any", .free "sorted", .free "set", .free "min", .free "max", .free "ord", .free "enumerate", .free "sum", .free "abs", .free "reversed", .free "zip", .glo "is_name", .glo "is_end", .glo "is_joint", .glo "is_half", .glo "ends_in", .glo "is_deed", .glo "show_end", .glo "show_joint", .glo "show_deed", .glo "read_number_deedtexts", .glo "read_end", .glo "read_joint_deedtexts", .glo "read_deed", .glo "read_row", .glo "show_joints", .glo "show_rings", .glo "show_parts", .glo "show_paper", .glo "read_number_papertexts", .glo "read_joint_papertexts", .glo "words_behind", .glo "read_joints", .glo "read_part", .glo "read_ring", .glo "read_knot", .glo "read_parts", .glo "read_deeds", .glo "read_paper", .glo "_law_pick", .glo "_law_letters", .glo "_law_name", .glo "_law_names", .glo "_law_alike", .glo "_law_end_text", .glo "_law_joints_text", .glo "_law_deed_text", .glo "_law_with", .glo "_law_ring_lines", .glo "_law_part_lines", .glo "_law_text", .glo "_law_number", .glo "_law_some_ends", .glo "_law_some_joints", .glo "_law_some_deed", .glo "_law_many", .glo "_law_some_rings", .glo "_law_some_parts", .glo "_law_some_paper", .glo "_law_holds", .glo "_law_flow", .glo "law", .str "LETTERS" "abcdefghijklmnopqrstuvwxyz", .str "FIGURES_deedtexts" "0123456789", .str "FIGURES_papertexts" "0123456789", .glo "KINDS", .glo "BOOKS"]
def tsL : List (Str × List (Str × D)) := []
def dcE (K : PySem.W.Frag) : Bool := (tsL.all fun t => dcB K t.1 t.2) && valB K (.tuple [.str "ring", .str "odd", .str "ours", .str "theirs"]) (.ref (He.ga K "KINDS")) && valB K (.tuple [.str "one", .str "two", .str "home", .str "turns", .str "changes"]) (.ref (He.ga K "BOOKS"))
def exB (K : PySem.W.Frag) : Bool := dcE K
abbrev Rw : PySem.W.OpenRow := PySem.W.OpenLaw.row PySem.Challenge.rw_strandwright_k65_papers_written_and_read
def nsP0 : List Str := ["is_name", "is_end", "is_joint", "is_half", "ends_in", "is_deed", "show_end", "show_joint", "show_deed", "read_number_deedtexts", "read_end", "read_joint_deedtexts", "read_deed", "read_row", "show_joints", "show_rings", "show_parts", "show_paper", "read_number_papertexts", "read_joint_papertexts", "words_behind", "read_joints", "read_part", "read_ring"]
def nsP1 : List Str := ["read_knot", "read_parts", "read_deeds", "read_paper", "_law_pick", "_law_letters", "_law_name", "_law_names", "_law_alike", "_law_end_text", "_law_joints_text", "_law_deed_text", "_law_with", "_law_ring_lines", "_law_part_lines", "_law_text", "_law_number", "_law_some_ends", "_law_some_joints", "_law_some_deed", "_law_many", "_law_some_rings", "_law_some_parts", "_law_some_paper"]
def nsP2 : List Str := ["_law_holds", "_law_flow", "law", "LETTERS", "FIGURES_deedtexts", "FIGURES_papertexts", "KINDS", "BOOKS"]
def nsL : List Str := nsP0 ++ nsP1 ++ nsP2
abbrev hk : PySem.W.Hook := hookX 3 nsL faL fnL exB tsL
def ob (s : PySem.W.SharedT) : AlF := obsXG 3 nsL faL fnL exB tsL (HandSHeadRun.getT s)
theorem ob_eq (s : PySem.W.SharedT) : ob s = hk.obs s.abs := obsXG_eq (HandSHeadRun.getT_eq s)
def looseN0 : List Str := ["is_name", "is_end", "is_joint", "is_half", "ends_in", "is_deed", "show_end", "show_joint", "show_deed", "read_number_deedtexts", "read_end", "read_joint_deedtexts", "read_deed", "read_row", "show_joints", "show_rings", "show_parts", "show_paper", "read_number_papertexts", "read_joint_papertexts", "words_behind", "read_joints", "read_part", "read_ring"]
def looseN1 : List Str := ["read_knot", "read_parts", "read_deeds", "read_paper", "_law_flow", "_law_pick", "_law_letters", "_law_name", "_law_names", "_law_alike", "_law_end_text", "_law_joints_text", "_law_deed_text", "_law_with", "_law_ring_lines", "_law_part_lines", "_law_text", "_law_number", "_law_some_ends", "_law_some_joints", "_law_some_deed", "_law_many", "_law_some_rings", "_law_some_parts"]
def looseN2 : List Str := ["_law_some_paper", "_law_holds", "LETTERS", "BOOKS", "FIGURES_deedtexts", "FIGURES_papertexts", "KINDS", "StrandError", "BadText", "read_joint", "read_number"]
abbrev looseN : List Str := looseN0 ++ looseN1 ++ looseN2
theorem run (w : World) : HandSHeadRun.RunEq Rw (PySem.W.view Rw.prog [67]) hk ob 20000 looseN w := by
  intro os
  kernel_rfl
open PySem PySem.W PySem.Calls PyProof.Rows in
theorem bareR : Rw.prog.bare := ⟨rfl, rfl, rfl, rfl, rfl, by decide +kernel⟩
end SwLaw

set_option Elab.async false
set_option linter.all false
set_option maxRecDepth 100000
namespace Sw
open PySem PySem.Spec L2

section
variable {K : FgK} {F F' : Hp}
theorem AtAll.erase : ∀ {ds : List D} {xs : List V} (n : Nat), AtAll K F ds xs → AtAll K F (ds.eraseIdx n) (xs.eraseIdx n)
  | [], xs, n, h => by simp only [AtAll] at h; subst h; exact AtAll.nil
  | d :: ds, xs, 0, h => by
    simp only [AtAll] at h
    obtain ⟨y, r, rfl, a, q⟩ := h
    exact q
  | d :: ds, xs, n + 1, h => by
    simp only [AtAll] at h
    obtain ⟨y, r, rfl, a, q⟩ := h
    exact AtAll.cons a (AtAll.erase n q)
theorem AtAll.get' : ∀ {ds : List D} {xs : List V} {i : Nat} {x : V}, AtAll K F ds xs → xs[i]? = some x → ∃ d, ds[i]? = some d ∧ At K F d x := fun {ds xs i x} h e => by
  have hl := h.len
  have hi : i < ds.length := by
    have := (List.getElem?_eq_some_iff.mp e).1
    omega
  obtain ⟨y, e1, a⟩ := h.get (List.getElem?_eq_getElem hi)
  rw [e] at e1
  cases e1
  exact ⟨_, List.getElem?_eq_getElem hi, a⟩
end

abbrev of0 (X : L2.Cx) : Cz := ⟨X, wNo, pNo, true, .of takes_none5, fun _ => True⟩
section
variable {K : FgX} {C : Ec} {σ : L2.St} {H F H1 F1 H2 F2 : Hp} {env env1 env2 : List SV}
/-- a new object, not known -/
theorem Rel.alloc0 (R : Rel K C σ H F env) {p : Addr} {o : HO} (hp : H p = none) : Stp K C σ H F env (upd H p o) F env ∧ F p = none ∧ C.H0 p = none ∧ ¬ Own σ env p := by
  have fp : F p = none := by
    cases q : F p with
    | none => rfl
    | some u => rw [R.frz p u q] at hp; cases hp
  have h0 : C.H0 p = none := by
    cases q : C.H0 p with
    | none => rfl
    | some u =>
      by_cases hl : C.la = some p
      · obtain ⟨⟨xs, e⟩, _⟩ := R.la p hl
        rw [e] at hp; cases hp
      · rw [R.frame p u q hl] at hp; cases hp
  refine ⟨⟨⟨⟨fun b u h => ?_, R.mono, R.new, fun b u h n => ?_, fun a h => ?_, R.len, fun i sv e => ?_, R.dist⟩, R.xok⟩, Le.rfl', fun b u h _ => ?_, fun b u h => .inl h, fun i l ds h => ⟨ds, h⟩, fun b h => ?_⟩, fp, h0, fun z => ?_⟩
  · have q := R.frz b u h
    rw [upd_ne (ne_of_none q hp)]; exact q
  · have q := R.frame b u h n
    rw [upd_ne (ne_of_none q hp)]; exact q
  · obtain ⟨⟨xs, e⟩, f, g⟩ := R.la a h
    exact ⟨⟨xs, by rw [upd_ne (ne_of_none e hp)]; exact e⟩, f, g⟩
  · have q := R.slot i sv e
    cases sv with
    | un => trivial
    | raw z => exact q
    | dat d => exact q
    | obj l ds =>
      obtain ⟨r, xs, e1, e2, e3, e4, e5⟩ := q
      exact ⟨r, xs, e1, by rw [upd_ne (ne_of_none e2 hp)]; exact e2, e3, e4, e5⟩
  · rw [upd_ne (ne_of_none h hp)]; exact h
  · by_cases e : b = p
    · subst e; exact hp
    · rw [upd_ne e] at h; exact h
  · obtain ⟨i, l, ds, e, s⟩ := z
    obtain ⟨r, xs, e1, e2, _⟩ := R.slot i _ e
    rw [s] at e1
    cases e1
    rw [e2] at hp; cases hp
/-- the list of a slot is changed -/
theorem Rel.write (R : Rel K C σ H F env) {i : Nat} {l : Bool} {ds ds' : Ct} {p : Addr} {o' : HO} (he : env[i]? = some (.obj l ds)) (hs : σ[i]? = some (some (.ref p))) (h' : CtOk K F p o' ds') (hl' : l = true → Mut (some o')) :
    Stp K C σ H F env (upd H p o') F (env.set i (.obj l ds')) := by
  obtain ⟨p', xs, e1, e2, e3, e4, e5⟩ := R.slot i _ he
  rw [hs] at e1
  cases e1
  have hi : i < env.length := (List.getElem?_eq_some_iff.mp he).1
  have oth : ∀ (j : Nat) (m : Bool) (es : Ct), (env.set i (.obj l ds'))[j]? = some (.obj m es) → ∃ es', env[j]? = some (.obj m es') := fun j m es h => by
    by_cases e : j = i
    · subst e; rw [List.getElem?_set_self hi] at h; cases h; exact ⟨ds, he⟩
    · rw [List.getElem?_set_ne (Ne.symm e)] at h; exact ⟨es, h⟩
  refine ⟨⟨⟨fun b u h => ?_, R.mono, R.new, fun b u h n => ?_, fun a h => ?_, by rw [List.length_set]; exact R.len, fun j sv e => ?_, fun j k m es n fs h1 h2 h3 => ?_⟩, R.xok⟩, Le.rfl', fun b u h n => ?_, fun b u h => .inl h, oth, fun b h => ?_⟩
  · have ne : b ≠ p := by
      rintro rfl
      rw [e3] at h; cases h
    rw [upd_ne ne]; exact R.frz b u h
  · have ne : b ≠ p := by
      rintro rfl
      cases l with
      | true => exact n (by simpa using e4)
      | false => rw [if_neg (by decide)] at e4; rw [e4] at h; cases h
    rw [upd_ne ne]; exact R.frame b u h n
  · obtain ⟨⟨ys, e⟩, f, g⟩ := R.la a h
    refine ⟨?_, f, g⟩
    by_cases ne : a = p
    · subst ne
      cases l with
      | true =>
        exact ⟨⟨o', hl' rfl⟩, upd_same⟩
      | false =>
        obtain ⟨o, g⟩ := g
        rw [if_neg (by decide), g] at e4
        cases e4
    · exact ⟨ys, by rw [upd_ne ne]; exact e⟩
  · by_cases e' : j = i
    · subst e'
      rw [List.getElem?_set_self hi] at e
      cases e
      exact ⟨p, o', hs, upd_same, e3, e4, h'⟩
    · rw [List.getElem?_set_ne (Ne.symm e')] at e
      have q := R.slot j sv e
      cases sv with
      | un => trivial
      | raw z => exact q
      | dat d => exact q
      | obj m es =>
        obtain ⟨r, ys, f1, f2, f3, f4, f5⟩ := q
        have ne : r ≠ p := by
          rintro rfl
          exact e' (R.dist j i m es l ds e he (f1.trans hs.symm))
        exact ⟨r, ys, f1, by rw [upd_ne ne]; exact f2, f3, f4, f5⟩
  · obtain ⟨es', h1⟩ := oth j m es h1
    obtain ⟨fs', h2⟩ := oth k n fs h2
    exact R.dist j k m es' n fs' h1 h2 h3
  · have ne : b ≠ p := by
      rintro rfl
      exact n ⟨i, l, ds, he, hs⟩
    rw [upd_ne ne]; exact h
  · by_cases ne : b = p
    · subst ne; rw [upd_same] at h; cases h
    · rw [upd_ne ne] at h; exact h
theorem Rel.slotL (R : Rel K C σ H F env) {i : Nat} {l : Bool} {ds : List D} (he : env[i]? = some (.own l ds)) : ∃ p xs, σ[i]? = some (some (.ref p)) ∧ H p = some (.lst xs) ∧ F p = none ∧ (if l = true then C.la = some p else C.H0 p = none) ∧ AtAll K F ds xs := by
  obtain ⟨p, u, e1, e2, e3, e4, xs, rfl, e5⟩ := R.slot i _ he
  exact ⟨p, xs, e1, e2, e3, e4, e5⟩
theorem Rel.writeL (R : Rel K C σ H F env) {i : Nat} {l : Bool} {ds ds' : List D} {p : Addr} {xs' : List V} (he : env[i]? = some (.own l ds)) (hs : σ[i]? = some (some (.ref p))) (h' : AtAll K F ds' xs') :
    Stp K C σ H F env (upd H p (.lst xs')) F (env.set i (.own l ds')) := R.write he hs ⟨xs', rfl, h'⟩ fun _ => trivial
end
end Sw

set_option Elab.async false
set_option linter.all false
set_option maxRecDepth 100000
namespace Sw
open PySem PySem.Spec L2

def rdAll (env : List SV) (os : List OV) : Option (List D) := match os with
  | [] => some []
  | o :: r => (o.rd env).bind fun d => (rdAll env r).map fun q => d :: q
structure EV (X : Cz) (e : Expr) (T : PE') : Prop where
  ex : ∃ t, PE X e t ∧ LE X.fr t T
structure EF (X : Cz) (e : Expr) (T : PF') : Prop where
  ex : ∃ t, PE X e t ∧ LF X.fr t T
structure ET (X : Cz) (e : Expr) (T : PT') : Prop where
  ex : ∃ t, PT X e t ∧ LT X.fr t T
structure EW (X : Cz) (e : Expr) (T : PT') : Prop where
  ex : ∃ t, PW X e t ∧ LT X.fr t T
structure EA (X : Cz) (es : List Expr) (T : PA') : Prop where
  ex : ∃ t, PA X es t ∧ LA X.fr t T

structure ES (X : Cz) (st : Stmt) (T : PS') : Prop where
  ex : ∃ t, PS X st t ∧ LS X.fr t T
section
variable {X : Cz}
def qVar (i : Nat) : PE' := fun env Q => (∃ d, env[i]?.bind svD = some d) ∧ Q (.sl i) env
theorem qv (i : Nat) {x : Str} {pos : Pos} (hN : X.N[i]? = some x := by rfl) (hv : Vis X.env.scope x := by first | exact Or.inl rfl | exact Or.inr (Or.inl rfl) | exact Or.inr (Or.inr rfl)) (hd : (x == ("__debug__" : Str)) = false := by decide)
    (hcd : (x == ("__classdict__" : Str)) = false := by decide) : EV X (.Name x pos) (qVar i) := by
  refine ⟨_, pe_var hN hv hd hcd, fun C σ H F env Q Qp R k h => ?_⟩
  obtain ⟨⟨d, e⟩, h⟩ := h
  cases q : env[i]? with
  | none => rw [q] at e; cases e
  | some sv =>
    rw [q] at e
    have w := R.slot i sv q
    cases sv with
    | un => cases e
    | raw z => cases e
    | dat d' =>
      obtain ⟨v, e1, a⟩ := w
      exact ⟨v, e1, k v H F env (.sl i) (Stp.refl R) e1 h⟩
    | obj l ds =>
      obtain ⟨p, xs, e1, _⟩ := w
      exact ⟨.ref p, e1, k (.ref p) H F env (.sl i) (Stp.refl R) e1 h⟩
def qC (x : D) : PE' := fun env Q => Q (.dv x) env
theorem LE.const {K : FgX} {v : V} {x : D} (h : ∀ F, At K F x v) : LE K (tC v) (qC x) := fun C σ H F env Q Qp R k q => k v H F env (.dv x) (Stp.refl R) (h F) q
theorem q_int {i j pos} : EV X (.Constant (.int i) j pos) (qC (.int i)) := ⟨_, pe_int, LE.const fun F => by simp [At]⟩
theorem q_bl {b j pos} : EV X (.Constant (.bool b) j pos) (qC (.bool b)) := ⟨_, pe_bl, LE.const fun F => by simp [At]⟩
theorem q_non {j pos} : EV X (.Constant .none j pos) (qC .none) := ⟨_, pe_non, LE.const fun F => by simp [At]⟩
theorem q_str {x j pos} : EV X (.Constant (.str x) j pos) (qC (.str x)) := ⟨_, pe_str, LE.const fun F => by simp [At]⟩
theorem q_gstr {x : Str} {z : Str} {t : Tok} {pos : Pos} (hg : Gl X x) (hm : X.mg x = some (.str z t)) (hd : (x == ("__debug__" : Str)) = false := by decide) : EV X (.Name x pos) (qC (.str z)) :=
  ⟨_, pe_glob hg hm (v := .str z) ⟨t, rfl⟩ hd, LE.const fun F => by simp [At]⟩
/-- a list that nobody holds, as any value -/
def qF (T : PF') : PE' := fun env Q => T env fun ds env' => Q (.dv (.list ds)) env'
theorem EF.ev {e : Expr} {T : PF'} (h : EF X e T) : EV X e (qF T) := by
  obtain ⟨t, hp, l⟩ := h.ex
  refine ⟨t, hp, fun C σ H F env Q Qp R k q => ?_⟩
  refine l C σ H F env Q _ R (fun p xs ds H' F' env' st hp fp h0 no hn a q => ?_) q
  have ff : Le F' (upd F' p (.lst xs)) := fun b u h => by
    rw [upd_ne (ne_of_none h fp)]; exact h
  refine k (.ref p) H' (upd F' p (.lst xs)) env' (.dv (.list ds)) ⟨st.rel.freeze hp fp h0 no, st.ff.trans' ff, st.fr, fun b o h => ?_, st.ow, st.dm⟩ ?_ q
  · by_cases e : b = p
    · subst e; exact .inr (.inl hn)
    · rw [upd_ne e] at h; exact st.fn b o h
  · show At X.fr _ _ _
    simp only [At]
    exact ⟨p, xs, rfl, upd_same, AtAll.mono ff _ _ a⟩
def qNil : PA' := fun env Q => Q [] env
def qCons (T : PE') (R : PA') : PA' := fun env Q => T env fun o env1 => R env1 fun os env2 => Q (o :: os) env2
theorem qa_nil : EA X [] qNil := ⟨_, pa_nil, fun C σ H F env Q Qp R k q => k [] H F env [] (Stp.refl R) rfl q⟩
theorem qa_cons {e : Expr} {es : List Expr} {T : PE'} {R : PA'} (ha : EV X e T) (hr : EA X es R) (hs : starEach (e :: es) X.env = (false, eval e X.env) :: starEach es X.env := by rfl) : EA X (e :: es) (qCons T R) := by
  obtain ⟨t, h1, l1⟩ := ha.ex
  obtain ⟨u, h2, l2⟩ := hr.ex
  refine ⟨_, pa_cons h1 h2 hs, fun C σ H F env Q Qp R k q => ?_⟩
  refine l1 C σ H F env _ _ R (fun v H1 F1 env1 ov s1 a1 q1 => ?_) q
  refine l2 C σ H1 F1 env1 _ _ s1.rel (fun vs H2 F2 env2 ovs s2 a2 q2 => ?_) q1
  exact k (v :: vs) H2 F2 env2 (ov :: ovs) (s1.trans s2) ⟨v, vs, rfl, a1.mono s2.ff, a2⟩ q2
def qTup (T : PA') : PE' := fun env Q => T env fun os env1 => ∃ ds env2, fzAll env1 os = some (ds, env2) ∧ ds.length ≤ sizeLine ∧ Q (.dv (.tuple ds)) env2
theorem q_tup {es : List Expr} {x1} {pos : Pos} {T : PA'} (h : EA X es T) : EV X (.Tuple es x1 pos) (qTup T) := by
  obtain ⟨t, h1, l1⟩ := h.ex
  refine ⟨_, pe_tup h1, fun C σ H F env Q Qp R k q => ?_⟩
  refine l1 C σ H F env _ _ R (fun vs H1 F1 env1 os s1 a1 q1 => ?_) q
  obtain ⟨ds, env2, e, hz, q2⟩ := q1
  obtain ⟨F2, s2, a2⟩ := fzAll_ok s1.rel a1 e
  refine ⟨by rw [a2.len]; exact hz, fun p hp => ?_⟩
  have s3 := s2.rel.alloc (o := .tup vs) hp
  exact k (.ref p) _ _ env2 (.dv (.tuple ds)) ((s1.trans s2).trans s3) (At.tup_of upd_same (AtAll.mono s3.ff _ _ a2)) q2
def fLst (T : PA') : PF' := fun env Q => T env fun os env1 => ∃ ds env2, fzAll env1 os = some (ds, env2) ∧ ds.length ≤ sizeLine ∧ Q ds env2
theorem f_lst {es : List Expr} {pos : Pos} {T : PA'} (h : EA X es T) : EF X (.List es pos) (fLst T) := by
  obtain ⟨t, h1, l1⟩ := h.ex
  refine ⟨_, pe_lst h1, fun C σ H F env Q Qp R k q => ?_⟩
  refine l1 C σ H F env _ _ R (fun vs H1 F1 env1 os s1 a1 q1 => ?_) q
  obtain ⟨ds, env2, e, hz, q2⟩ := q1
  obtain ⟨F2, s2, a2⟩ := fzAll_ok s1.rel a1 e
  refine ⟨by rw [a2.len]; exact hz, fun p hp => ?_⟩
  obtain ⟨s3, f3, h3, n3⟩ := s2.rel.alloc0 (o := .lst vs) hp
  exact k p vs ds _ F2 env2 ((s1.trans s2).trans s3) upd_same f3 h3 n3 (s1.dm p (s2.dm p hp)) a2 q2
end
end Sw

set_option Elab.async false
set_option linter.all false
set_option maxRecDepth 100000
namespace Sw
open PySem PySem.Spec L2

section
variable {X : Cz} {K : FgX}
theorem q_op {op : Operator} {r : R2} {g : D → D → Option D} {a b : Expr} {A B : PE'} {pos : Pos} (ho : OpR X (binaryOp op) r) (hl : LO2 X.fr r g) (ha : EV X a A) (hb : EV X b B) : EV X (.BinOp a op b pos) (qOp g A B) := by
  obtain ⟨ta, h1, l1⟩ := ha.ex
  obtain ⟨tb, h2, l2⟩ := hb.ex
  exact ⟨_, pe_op ho h1 h2, LE.op hl l1 l2⟩
theorem q_cmp {op : CmpOp} {r : R2} {g : D → D → Option D} {a b : Expr} {A B : PE'} {pos : Pos} (ho : OpR X (compareOp op) r) (hl : LO2 X.fr r g) (ha : EV X a A) (hb : EV X b B) (hm : behindInMarks op b = false) : EV X (.Compare a [op] [b] pos) (qOp g A B) := by
  obtain ⟨ta, h1, l1⟩ := ha.ex
  obtain ⟨tb, h2, l2⟩ := hb.ex
  exact ⟨_, pe_cmpR ho h1 h2 hm, LE.op hl l1 l2⟩
/-- a value that is a bool, as a test -/
def qTest (A : PE') : PT' := fun env Q => A env fun o env1 => ∃ b, o.rd env1 = some (.bool b) ∧ Q b env1
theorem LT.test {ta : TE} {A : PE'} (la : LE K ta A) : LT K (fun σ H Q => ta σ H fun x H' => ∃ k, x = .bl k ∧ Q k H') (qTest A) := fun C σ H F env Q Qp R k q => by
  refine la C σ H F env _ _ R (fun v1 H1 F1 env1 o1 s1 a1 q1 => ?_) q
  obtain ⟨b, e, q1⟩ := q1
  have w := rd_vw s1.rel a1 e
  have w : v1 = .bl b := by simpa [Vw, At] using w
  exact ⟨b, w, k b H1 F1 env1 s1 q1⟩
theorem t_cmp {op : CmpOp} {r : R2} {g : D → D → Option D} {a b : Expr} {A B : PE'} {pos : Pos} (ho : OpR X (compareOp op) r) (hl : LO2 X.fr r g) (ha : EV X a A) (hb : EV X b B) (hm : behindInMarks op b = false) : ET X (.Compare a [op] [b] pos) (qTest (qOp g A B)) := by
  obtain ⟨ta, h1, l1⟩ := ha.ex
  obtain ⟨tb, h2, l2⟩ := hb.ex
  exact ⟨_, pt_cmpR ho h1 h2 hm, LT.test (LE.op hl l1 l2)⟩
theorem t_val {e : Expr} {A : PE'} (h : EV X e A) (he : ∀ whole, isTrue e X.env whole = (do let v ← whole; standAt e.pos; holding [v] (truthy v)) := by intro _; rfl) : ET X e (qTest A) := by
  obtain ⟨t, h1, l1⟩ := h.ex
  exact ⟨_, pt_val h1 he, LT.test l1⟩
def tAnd' (A B : PT') : PT' := fun env Q => A env fun c env1 => if c = true then B env1 Q else Q false env1
def tOr' (A B : PT') : PT' := fun env Q => A env fun c env1 => if c = true then Q true env1 else B env1 Q
def tNot' (A : PT') : PT' := fun env Q => A env fun c env1 => Q (!c) env1
theorem EW.et {e : Expr} {T : PT'} (h : EW X e T) : ET X e T := by
  obtain ⟨t, h1, l1⟩ := h.ex
  exact ⟨t, h1.pt, l1⟩
theorem w_and1 {a : Expr} {pos : Pos} {A : PT'} (h : ET X a A) : EW X (.BoolOp .And [a] pos) A := by
  obtain ⟨t, h1, l1⟩ := h.ex
  exact ⟨t, pw_and1 h1, l1⟩
theorem w_or1 {a : Expr} {pos : Pos} {A : PT'} (h : ET X a A) : EW X (.BoolOp .Or [a] pos) A := by
  obtain ⟨t, h1, l1⟩ := h.ex
  exact ⟨t, pw_or1 h1, l1⟩
theorem w_and {a b : Expr} {rest : List Expr} {pos : Pos} {A B : PT'} (h : ET X a A) (g : EW X (.BoolOp .And (b :: rest) pos) B) : EW X (.BoolOp .And (a :: b :: rest) pos) (tAnd' A B) := by
  obtain ⟨t, h1, l1⟩ := h.ex
  obtain ⟨u, h2, l2⟩ := g.ex
  refine ⟨_, pw_and h1 h2, fun C σ H F env Q Qp R k q => ?_⟩
  refine l1 C σ H F env _ _ R (fun c H1 F1 env1 s1 q1 => ?_) q
  cases c with
  | true =>
    rw [if_pos rfl] at q1 ⊢
    exact l2 C σ H1 F1 env1 _ _ s1.rel (fun b H2 F2 env2 s2 q2 => k b H2 F2 env2 (s1.trans s2) q2) q1
  | false =>
    rw [if_neg (by decide)] at q1 ⊢
    exact k false H1 F1 env1 s1 q1
theorem w_or {a b : Expr} {rest : List Expr} {pos : Pos} {A B : PT'} (h : ET X a A) (g : EW X (.BoolOp .Or (b :: rest) pos) B) : EW X (.BoolOp .Or (a :: b :: rest) pos) (tOr' A B) := by
  obtain ⟨t, h1, l1⟩ := h.ex
  obtain ⟨u, h2, l2⟩ := g.ex
  refine ⟨_, pw_or h1 h2, fun C σ H F env Q Qp R k q => ?_⟩
  refine l1 C σ H F env _ _ R (fun c H1 F1 env1 s1 q1 => ?_) q
  cases c with
  | true =>
    rw [if_pos rfl] at q1 ⊢
    exact k true H1 F1 env1 s1 q1
  | false =>
    rw [if_neg (by decide)] at q1 ⊢
    exact l2 C σ H1 F1 env1 _ _ s1.rel (fun b H2 F2 env2 s2 q2 => k b H2 F2 env2 (s1.trans s2) q2) q1
theorem t_not {a : Expr} {pos : Pos} {A : PT'} (h : ET X a A) : ET X (.UnaryOp .Not a pos) (tNot' A) := by
  obtain ⟨t, h1, l1⟩ := h.ex
  exact ⟨_, pt_not h1, fun C σ H F env Q Qp R k q => l1 C σ H F env _ _ R (fun c H1 F1 env1 s1 q1 => k (!c) H1 F1 env1 s1 q1) q⟩
def qAnd (A B : PE') : PE' := fun env Q => qTest A env fun c env1 => if c = true then B env1 Q else Q (.dv (.bool false)) env1
def qOr (A B : PE') : PE' := fun env Q => qTest A env fun c env1 => if c = true then Q (.dv (.bool true)) env1 else B env1 Q
def qNot (A : PE') : PE' := fun env Q => qTest A env fun c env1 => Q (.dv (.bool (!c))) env1
theorem q_one {op} {a : Expr} {pos : Pos} {A : PE'} (h : EV X a A) : EV X (.BoolOp op [a] pos) A := by
  obtain ⟨t, h1, l1⟩ := h.ex
  exact ⟨t, pe_one h1, l1⟩
theorem q_and {a b : Expr} {rest : List Expr} {pos : Pos} {A B : PE'} (h : EV X a A) (g : EV X (.BoolOp .And (b :: rest) pos) B) : EV X (.BoolOp .And (a :: b :: rest) pos) (qAnd A B) := by
  obtain ⟨t, h1, l1⟩ := h.ex
  obtain ⟨u, h2, l2⟩ := g.ex
  refine ⟨_, pe_and h1 h2, fun C σ H F env Q Qp R k q => ?_⟩
  refine (LT.test l1) C σ H F env (fun c H1 => if c = true then u σ H1 Q else Q (.bl false) H1) _ R (fun c H1 F1 env1 s1 q1 => ?_) q
  cases c with
  | true =>
    rw [if_pos rfl] at q1 ⊢
    exact l2 C σ H1 F1 env1 _ _ s1.rel (fun v H2 F2 env2 o s2 a2 q2 => k v H2 F2 env2 o (s1.trans s2) a2 q2) q1
  | false =>
    rw [if_neg (by decide)] at q1 ⊢
    exact k (.bl false) H1 F1 env1 (.dv (.bool false)) s1 (by simp [OvOk, At]) q1
theorem q_not {a : Expr} {pos : Pos} {A : PE'} (h : EV X a A) : EV X (.UnaryOp .Not a pos) (qNot A) := by
  obtain ⟨t, h1, l1⟩ := h.ex
  refine ⟨_, pe_not h1, fun C σ H F env Q Qp R k q => ?_⟩
  exact (LT.test l1) C σ H F env (fun c H1 => Q (.bl (!c)) H1) _ R (fun c H1 F1 env1 s1 q1 => k (.bl (!c)) H1 F1 env1 (.dv (.bool (!c))) s1 (by simp [OvOk, At]) q1) q
/-- of two ints -/
def gI (g : Int → Int → Option D) : D → D → Option D
  | .int i, .int j => g i j
  | _, _ => none
theorem LO2.ints {r : R2} {g : Int → Int → Option D} (h : ∀ (i j : Int) (d : D) (H : Hp) (Q : VK), g i j = some d → (∀ v, (∀ F, At K F d v) → Q v H) → r (.int i) (.int j) H Q) : LO2 K r (gI g) := fun C σ H F env x y dx dy d Q R a b e k => by
  cases dx with
  | int i =>
    cases dy with
    | int j =>
      rw [a.int, b.int]
      exact h i j d H Q e fun v hv => k v H F (Stp.refl R) (hv F)
    | _ => cases e
  | _ => cases e
def dSub : Int → Int → Option D := fun i j => some (.int (i - j))
def gDiv : Int → Int → Option D := fun i j => if 0 < j ∧ j < 1073741824 then some (.int (i / j)) else none
theorem l_div : LO2 K (rI CDiv fun i j => .int (i / j)) (gI gDiv) := LO2.ints fun i j d H Q e k => by
  unfold gDiv at e
  split at e
  · cases e; exact ⟨i, j, rfl, rfl, ‹_›, k _ fun F => by simp [At]⟩
  · cases e
def gMod : Int → Int → Option D := fun i j => if 0 < j then some (.int (i % j)) else none
theorem l_mod : LO2 K (rI (fun _ j => 0 < j) fun i j => .int (i % j)) (gI gMod) := LO2.ints fun i j d H Q e k => by
  unfold gMod at e
  split at e
  · cases e; exact ⟨i, j, rfl, rfl, ‹_›, k _ fun F => by simp [At]⟩
  · cases e
def gPow : Int → Int → Option D := fun i j => if 0 ≤ j ∧ j ≤ 1000000 ∧ i.natAbs < 2 ^ 64 then some (.int (i ^ j.toNat)) else none
theorem l_pow : LO2 K (rI CPow fun i j => .int (i ^ j.toNat)) (gI gPow) := LO2.ints fun i j d H Q e k => by
  unfold gPow at e
  split at e
  · cases e; exact ⟨i, j, rfl, rfl, ‹_›, k _ fun F => by simp [At]⟩
  · cases e
def gCmp (p : Int → Int → Bool) : Int → Int → Option D := fun i j => some (.bool (p i j))
theorem l_cmp {p : Int → Int → Bool} : LO2 K (rI0 fun i j => .bl (p i j)) (gI (gCmp p)) := LO2.ints fun i j d H Q e k => by cases e; exact ⟨i, j, rfl, rfl, k _ fun F => by simp [At]⟩
/-- a + b -/
def gAdd : D → D → Option D
  | .int a, .int b => some (.int (a + b))
  | .str a, .str b => if a.length + b.length ≤ sizeLine then some (.str (a ++ b)) else none
  | .list a, .list b => if a.length + b.length ≤ sizeLine then some (.list (a ++ b)) else none
  | .tuple a, .tuple b => if a.length + b.length ≤ sizeLine then some (.tuple (a ++ b)) else none
  | _, _ => none
abbrev rAddA (K : FgK) : R2 := fun x y H Q => rI0 (fun i j => .int (i + j)) x y H Q ∨ (fun x y H Q => (∃ i j, x = .str i ∧ y = .str j ∧ i.length + j.length ≤ sizeLine ∧ Q (.str (i ++ j)) H) ∨ (fun x y H Q => rCat x y H Q ∨ rCatA K x y H Q) x y H Q) x y H Q
theorem op_addA : OpR X (binaryOp .Add) (rAddA X.fr) := op_add.or (op_add_str.or (op_cat.or op_catA))
theorem l_add : LO2 K (rAddA K) gAdd := fun C σ H F env x y dx dy d Q R a b e k => by
  unfold gAdd at e
  split at e
  · cases e
    rw [a.int, b.int]
    exact .inl ⟨_, _, rfl, rfl, k _ H F (Stp.refl R) (by simp [At])⟩
  · split at e
    · cases e
      rw [a.str, b.str]
      exact .inr (.inl ⟨_, _, rfl, rfl, ‹_›, k _ H F (Stp.refl R) (by simp [At])⟩)
    · cases e
  · split at e
    · cases e
      obtain ⟨p, xs, rfl, e1, a1⟩ := a
      obtain ⟨q, ys, rfl, e2, a2⟩ := b
      refine .inr (.inr (.inl ⟨p, q, xs, ys, rfl, rfl, e1, e2, by rw [a1.len, a2.len]; assumption, fun r hr => ?_⟩))
      have s := R.alloc (o := .lst (xs ++ ys)) hr
      exact k _ _ _ s (At.list_of upd_same (AtAll.mono s.ff _ _ (AtAll.app a1 a2)))
    · cases e
  · split at e
    · cases e
      rename_i as bs hz
      obtain ⟨p, xs, rfl, e1, a1⟩ := a.tup R.frz
      obtain ⟨q, ys, rfl, e2, a2⟩ := b.tup R.frz
      refine .inr (.inr (.inr ⟨p, q, xs, ys, rfl, rfl, e1, e2, by rw [a1.len, a2.len]; assumption, fun h => ?_, fun h1 h2 => ?_, fun h1 h2 r hr => ?_⟩))
      · have : as = [] := List.eq_nil_of_length_eq_zero (by rw [← a1.len, h]; rfl)
        subst this
        refine k _ _ _ (Stp.refl R) ?_
        exact b
      · have : bs = [] := List.eq_nil_of_length_eq_zero (by rw [← a2.len, h2]; rfl)
        subst this
        rw [List.append_nil] at k
        refine k _ _ _ (Stp.refl R) ?_
        exact a
      · have s := R.alloc (o := .tup (xs ++ ys)) hr
        exact k _ _ _ s (At.tup_of upd_same (AtAll.mono s.ff _ _ (AtAll.app a1 a2)))
    · cases e
  · cases e
/-- a * b -/
def gMul : D → D → Option D
  | .int a, .int b => if (-(2 ^ 64) < a ∧ a < 2 ^ 64) ∨ (-(2 ^ 64) < b ∧ b < 2 ^ 64) then some (.int (a * b)) else none
  | .str a, .int n => if n ≤ 1000 ∧ -1000 ≤ n ∧ a.length ≤ 1000 then some (.str (Txt.mul a n)) else none
  | _, _ => none
theorem op_mul_str : OpR X (binaryOp .Mult) (fun x y H Q => ∃ a n, x = .str a ∧ y = .int n ∧ n ≤ 1000 ∧ -1000 ≤ n ∧ a.length ≤ 1000 ∧ Q (.str (Txt.mul a n)) H) := by
  intro pins s σ H x y v u Q I rx ry h
  obtain ⟨a, n, rfl, rfl, h1, h2, h3, q⟩ := h
  obtain ⟨t, rfl⟩ := rx
  obtain ⟨t', rfl⟩ := ry
  refine SB.mul ⟨?_, fun hn _ => ?_, fun hn _ => ?_⟩ fun t' k => ⟨.str _, H, I.tok _, ⟨_, rfl⟩, q⟩
  · rw [Bool.or_eq_false_iff]
    exact ⟨decide_eq_false (by omega), decide_eq_false (by omega)⟩
  · intro hh
    have hd : (1000 : Int) ≤ (2 ^ 63 - 1) / n := Int.le_ediv_of_mul_le (by omega) (by omega)
    omega
  · have hm : a.length * n.toNat ≤ 1000 * 1000 := Nat.mul_le_mul h3 (by omega)
    unfold Builtin.Str.tooLong
    simp only [decide_eq_false_iff_not]
    rw [sizeLine_eq]
    omega
end
end Sw

set_option Elab.async false
set_option linter.all false
set_option maxRecDepth 100000
namespace Sw
open PySem PySem.Spec L2

mutual
theorem At.dp {K : FgK} {H : Hp} : ∀ (d : D) (v : V), d.plain = true → At K H d v → Dp K H v d
  | .none, v, _, a => by simp only [At] at a; subst a; exact .non
  | .bool b, v, _, a => by simp only [At] at a; subst a; exact .bl b
  | .int i, v, _, a => by simp only [At] at a; subst a; exact .int i
  | .str x, v, _, a => by simp only [At] at a; subst a; exact .str x
  | .list ds, v, h, a => by
    simp only [At] at a
    obtain ⟨p, xs, rfl, e, r⟩ := a
    simp only [PyData.plain] at h
    exact .lst (SqL.of e) (AtAll.dp ds xs h r)
  | .tuple ds, v, h, a => by
    simp only [At] at a
    obtain ⟨p, xs, rfl, e, r⟩ := a
    simp only [PyData.plain] at h
    exact .tup e.sqT (AtAll.dp ds xs h r)
  | .dict _, _, h, _ => nomatch h
theorem AtAll.dp {K : FgK} {H : Hp} : ∀ (ds : List D) (xs : List V), PyData.plainAll ds = true → AtAll K H ds xs → DpAll K H xs ds
  | [], xs, _, a => by simp only [AtAll] at a; subst a; exact .nil
  | d :: ds, xs, h, a => by
    simp only [AtAll] at a
    obtain ⟨x, r, rfl, a, q⟩ := a
    have h' : d.plain = true ∧ PyData.plainAll ds = true := by simpa [PyData.plainAll] using h
    exact .cons (At.dp d x h'.1 a) (AtAll.dp ds r h'.2 q)
end
theorem Vw.dp {K : FgK} {H F : Hp} (R : Le F H) {d : D} {v : V} (h : d.plain = true) (a : Vw K H F d v) : Dp K H v d := by
  cases d with
  | list ds =>
    obtain ⟨p, xs, rfl, e, r⟩ := a
    simp only [PyData.plain] at h
    exact .lst (SqL.of e) (AtAll.dp ds xs h (AtAll.mono R _ _ r))
  | none => exact At.dp _ _ h (At.mono R _ _ a)
  | bool b => exact At.dp _ _ h (At.mono R _ _ a)
  | int i => exact At.dp _ _ h (At.mono R _ _ a)
  | str x => exact At.dp _ _ h (At.mono R _ _ a)
  | tuple ds => exact At.dp _ _ h (At.mono R _ _ a)
  | dict kds => exact nomatch h
/-- plain, and not too deep -/
def okD (d : D) : Bool := d.plain && decide (d.depth ≤ 40)
theorem okD_plain {d : D} (h : okD d = true) : d.plain = true := (Bool.and_eq_true_iff.mp h).1
theorem okD_depth {d : D} (h : okD d = true) : d.depth ≤ 40 := of_decide_eq_true (Bool.and_eq_true_iff.mp h).2
section
variable {X : Cz} {K : FgX}
def rEqP (K : FgK) (neg : Bool) : R2 := fun x y H Q => ∃ d e, Dp K H x d ∧ Dp K H y e ∧ okD d = true ∧ okD e = true ∧ Q (.bl (if neg then !PyData.eqv d e else PyData.eqv d e)) H
theorem op_eqP (hu : X.A.units + 64 < cLine) : OpR X (compareOp .Eq) (rEqP X.fr false) := by
  intro pins s σ H x y v u Q I rx ry h
  obtain ⟨d, e, hd, he, h1, h2, q⟩ := h
  obtain ⟨as, r1⟩ := Dp.reads I d x v hd rx
  obtain ⟨bs, r2⟩ := Dp.reads I e y u he ry
  have := okD_depth h1
  have := Nat.min_le_left d.depth e.depth
  exact SeqAt.eq_plain r1 r2 (okD_plain h1) (okD_plain h2) (by omega) ⟨.bl _, H, I, rfl, q⟩
theorem op_neP (hu : X.A.units + 64 < cLine) : OpR X (compareOp .NotEq) (rEqP X.fr true) := by
  intro pins s σ H x y v u Q I rx ry h
  obtain ⟨d, e, hd, he, h1, h2, q⟩ := h
  obtain ⟨as, r1⟩ := Dp.reads I d x v hd rx
  obtain ⟨bs, r2⟩ := Dp.reads I e y u he ry
  have := okD_depth h1
  have := Nat.min_le_left d.depth e.depth
  exact SeqAt.ne_plain r1 r2 (okD_plain h1) (okD_plain h2) (by omega) ⟨.bl _, H, I, rfl, q⟩
def gEq (neg : Bool) : D → D → Option D := fun a b => if okD a = true ∧ okD b = true then some (.bool (if neg then !PyData.eqv a b else PyData.eqv a b)) else none
theorem l_eq {neg : Bool} : LO2 K (rEqP K neg) (gEq neg) := fun C σ H F env x y dx dy d Q R a b e k => by
  unfold gEq at e
  split at e
  · rename_i h
    cases e
    exact ⟨dx, dy, a.dp R.frz (okD_plain h.1), b.dp R.frz (okD_plain h.2), h.1, h.2, k _ H F (Stp.refl R) (by simp [At])⟩
  · cases e
/-- x in xs (a list, a tuple) -/
def rInP (K : FgK) (neg : Bool) : R2 := fun x y H Q => ∃ d ds, Dp K H x d ∧ (Dp K H y (.list ds) ∨ Dp K H y (.tuple ds)) ∧ okD d = true ∧ okD (.list ds) = true ∧ Q (.bl (if neg then !(ds.any fun z => PyData.eqv z d) else ds.any fun z => PyData.eqv z d)) H
theorem op_inP (hu : X.A.units + 64 < cLine) : OpR X (compareOp .In) (rInP X.fr false) := by
  intro pins s σ H x y v u Q I rx ry h
  obtain ⟨d, ds, hd, he, h1, h2, q⟩ := h
  obtain ⟨as, r1⟩ := Dp.reads I d x v hd rx
  have := okD_depth h1
  have := Nat.min_le_right (PyData.depthAll ds) d.depth
  have hp : PyData.plainAll ds = true := okD_plain h2
  rcases he with he | he
  · obtain ⟨bs, r2⟩ := Dp.reads I _ y u he ry
    exact SeqAt.in_list_data r2 r1 hp (okD_plain h1) (by omega) ⟨.bl _, H, I, rfl, q⟩
  · obtain ⟨bs, r2⟩ := Dp.reads I _ y u he ry
    exact SeqAt.in_tuple_data r2 r1 hp (okD_plain h1) (by omega) ⟨.bl _, H, I, rfl, q⟩
theorem op_ninP (hu : X.A.units + 64 < cLine) : OpR X (compareOp .NotIn) (rInP X.fr true) := by
  intro pins s σ H x y v u Q I rx ry h
  obtain ⟨d, ds, hd, he, h1, h2, q⟩ := h
  obtain ⟨as, r1⟩ := Dp.reads I d x v hd rx
  have := okD_depth h1
  have := Nat.min_le_right (PyData.depthAll ds) d.depth
  have hp : PyData.plainAll ds = true := okD_plain h2
  rcases he with he | he
  · obtain ⟨bs, r2⟩ := Dp.reads I _ y u he ry
    exact SeqAt.notIn_list_data r2 r1 hp (okD_plain h1) (by omega) ⟨.bl _, H, I, rfl, q⟩
  · obtain ⟨bs, r2⟩ := Dp.reads I _ y u he ry
    exact SeqAt.notIn_tuple_data r2 r1 hp (okD_plain h1) (by omega) ⟨.bl _, H, I, rfl, q⟩
def inB (neg : Bool) (x : D) (ds : List D) : D := .bool (if neg then !(ds.any fun z => PyData.eqv z x) else ds.any fun z => PyData.eqv z x)
def gIn (neg : Bool) : D → D → Option D
  | x, .list ds => if okD x = true ∧ okD (.list ds) = true then some (inB neg x ds) else none
  | x, .tuple ds => if okD x = true ∧ okD (.list ds) = true then some (inB neg x ds) else none
  | .str c, .str z => if c.length = 1 then some (.bool (if neg then !decide (c.cps.getD 0 0 ∈ z.cps.toList) else decide (c.cps.getD 0 0 ∈ z.cps.toList))) else none
  | _, _ => none
theorem one_sign {c : Str} (h : c.length = 1) : c = ⟨#[c.cps.getD 0 0]⟩ := by
  obtain ⟨a⟩ := c
  have h : a.size = 1 := h
  have : a = #[a.getD 0 0] := by
    apply Array.ext
    · simp [h]
    · intro i h1 h2
      have : i = 0 := by omega
      subst this
      simp [Array.getD, h]
  exact congrArg Str.mk this
abbrev rInA (K : FgK) : R2 := fun x y H Q => rInP K false x y H Q ∨ (fun x y H Q => ∃ (c : Nat) (z : Str), x = .str ⟨#[c]⟩ ∧ y = .str z ∧ Q (.bl (decide (c ∈ z.cps.toList))) H) x y H Q
abbrev rNinA (K : FgK) : R2 := fun x y H Q => rInP K true x y H Q ∨ (fun x y H Q => ∃ (c : Nat) (z : Str), x = .str ⟨#[c]⟩ ∧ y = .str z ∧ Q (.bl (!decide (c ∈ z.cps.toList))) H) x y H Q
theorem op_inA (hu : X.A.units + 64 < cLine) : OpR X (compareOp .In) (rInA X.fr) := (op_inP hu).or op_in_sign
theorem op_ninA (hu : X.A.units + 64 < cLine) : OpR X (compareOp .NotIn) (rNinA X.fr) := (op_ninP hu).or op_notIn_sign
theorem Vw.inD {H F : Hp} (R : Le F H) {ds : List D} {y : V} (h : okD (.list ds) = true) (b : Vw K H F (.list ds) y ∨ Vw K H F (.tuple ds) y) : Dp K H y (.list ds) ∨ Dp K H y (.tuple ds) := by
  rcases b with b | b
  · exact .inl (b.dp R (okD_plain h))
  · exact .inr (b.dp R (show (PyData.tuple ds).plain = true from okD_plain h))
theorem l_in : LO2 K (rInA K) (gIn false) := fun C σ H F env x y dx dy d Q R a b e k => by
  unfold gIn at e
  split at e
  · rename_i dx' ds
    split at e
    · rename_i h
      cases e
      exact .inl ⟨_, ds, a.dp R.frz (okD_plain h.1), Vw.inD R.frz h.2 (.inl b), h.1, h.2, k _ H F (Stp.refl R) (by simp [At, inB])⟩
    · cases e
  · rename_i dx' ds
    split at e
    · rename_i h
      cases e
      exact .inl ⟨_, ds, a.dp R.frz (okD_plain h.1), Vw.inD R.frz h.2 (.inr b), h.1, h.2, k _ H F (Stp.refl R) (by simp [At, inB])⟩
    · cases e
  · rename_i c z
    split at e
    · rename_i h
      cases e
      rw [a.str, b.str]
      exact .inr ⟨c.cps.getD 0 0, z, congrArg V.str (one_sign h), rfl, k _ H F (Stp.refl R) (by simp [At])⟩
    · cases e
  · cases e
theorem l_nin : LO2 K (rNinA K) (gIn true) := fun C σ H F env x y dx dy d Q R a b e k => by
  unfold gIn at e
  split at e
  · rename_i dx' ds
    split at e
    · rename_i h
      cases e
      exact .inl ⟨_, ds, a.dp R.frz (okD_plain h.1), Vw.inD R.frz h.2 (.inl b), h.1, h.2, k _ H F (Stp.refl R) (by simp [At, inB])⟩
    · cases e
  · rename_i dx' ds
    split at e
    · rename_i h
      cases e
      exact .inl ⟨_, ds, a.dp R.frz (okD_plain h.1), Vw.inD R.frz h.2 (.inr b), h.1, h.2, k _ H F (Stp.refl R) (by simp [At, inB])⟩
    · cases e
  · rename_i c z
    split at e
    · rename_i h
      cases e
      rw [a.str, b.str]
      exact .inr ⟨c.cps.getD 0 0, z, congrArg V.str (one_sign h), rfl, k _ H F (Stp.refl R) (by simp [At])⟩
    · cases e
  · cases e
def gIsN (neg : Bool) : D → D → Option D
  | .none, .none => some (.bool !neg)
  | _, .none => some (.bool neg)
  | _, _ => none
theorem Vw.isN {H F : Hp} {d : D} {x : V} (a : Vw K H F d x) (h : d ≠ .none) : decide (x = V.non) = false := by
  refine decide_eq_false fun e => ?_
  subst e
  cases d with
  | none => exact h rfl
  | bool b => simp [Vw, At] at a
  | int b => simp [Vw, At] at a
  | str b => simp [Vw, At] at a
  | list b => obtain ⟨_, _, e, _⟩ := a; cases e
  | tuple b => simp [Vw, At] at a
  | dict b => simp [Vw, At] at a
theorem l_isN : LO2 K (fun x y H Q => y = V.non ∧ Q (.bl (decide (x = .non))) H) (gIsN false) := fun C σ H F env x y dx dy d Q R a b e k => by
  unfold gIsN at e
  split at e
  · cases e
    rw [a.non]
    exact ⟨b.non, k _ H F (Stp.refl R) (by simp [At])⟩
  · rename_i hn
    cases e
    rw [a.isN (fun z => hn z)]
    exact ⟨b.non, k _ H F (Stp.refl R) (by simp [At])⟩
  · cases e
def gLt : D → D → Option D
  | .int a, .int b => some (.bool (decide (a < b)))
  | .str a, .str b => some (.bool (ltS a b))
  | _, _ => none
abbrev rLtA : R2 := fun x y H Q => rI0 (fun i j => .bl (decide (i < j))) x y H Q ∨ (fun x y H Q => ∃ i j, x = .str i ∧ y = .str j ∧ Q (.bl (decide (i.cps.toList < j.cps.toList))) H) x y H Q
theorem op_ltA : OpR X (compareOp .Lt) rLtA := op_lt.or op_lt_str
theorem l_lt : LO2 K rLtA gLt := fun C σ H F env x y dx dy d Q R a b e k => by
  unfold gLt at e
  split at e
  · cases e
    rw [a.int, b.int]
    exact .inl ⟨_, _, rfl, rfl, k _ H F (Stp.refl R) (by simp [At])⟩
  · cases e
    rw [a.str, b.str]
    exact .inr ⟨_, _, rfl, rfl, k _ H F (Stp.refl R) (by simp [At, ltS])⟩
  · cases e
def gIx : D → D → Option D
  | .list ds, .int i => atI ds i
  | .tuple ds, .int i => atI ds i
  | .str z, .int i => if z.length ≤ sizeLine then (atI z.cps.toList i).map fun c => .str ⟨#[c]⟩ else none
  | _, _ => none
theorem atI_all {F : Hp} {ds : List D} {xs : List V} {i : Int} {d : D} (h : AtAll K F ds xs) (e : atI ds i = some d) : ∃ x, atI xs i = some x ∧ At K F d x := by
  unfold atI at e ⊢
  rw [h.len]
  cases q : ixN ds.length i with
  | none => rw [q] at e; cases e
  | some j =>
    rw [q] at e
    exact h.get e
theorem l_ix : LO2 K (rIx K) gIx := fun C σ H F env x y dx dy d Q R a b e k => by
  unfold gIx at e
  split at e
  · obtain ⟨p, xs, rfl, e1, a1⟩ := a
    obtain ⟨v, e2, a2⟩ := atI_all a1 e
    rw [b.int]
    exact .inl ⟨p, xs, _, v, rfl, rfl, SqL.of e1, e2, k _ H F (Stp.refl R) a2⟩
  · obtain ⟨p, xs, rfl, e1, a1⟩ := a.tup R.frz
    obtain ⟨v, e2, a2⟩ := atI_all a1 e
    rw [b.int]
    exact .inr (.inl ⟨p, xs, _, v, rfl, rfl, e1, e2, k _ H F (Stp.refl R) a2⟩)
  · split at e
    · rename_i z i hz
      cases q : atI z.cps.toList i with
      | none => rw [q] at e; cases e
      | some c =>
        rw [q] at e
        cases e
        rw [a.str, b.int]
        exact .inr (.inr ⟨z, i, c, rfl, rfl, hz, q, k _ H F (Stp.refl R) (by simp [At])⟩)
    · cases e
  · cases e
theorem q_ix {a b : Expr} {A B : PE'} {pos : Pos} (ha : EV X a A) (hb : EV X b B) (hs : PlainIx b := by intro _ _; rfl) : EV X (.Subscript a b pos) (qOp gIx A B) := by
  obtain ⟨ta, h1, l1⟩ := ha.ex
  obtain ⟨tb, h2, l2⟩ := hb.ex
  exact ⟨_, pe_ix ix_seq h1 h2 hs, LE.op l_ix l1 l2⟩
end
end Sw

set_option Elab.async false
set_option linter.all false
set_option maxRecDepth 100000
namespace Sw
open PySem PySem.Spec L2

def cutD {α : Type} (xs : List α) (lo hi : Option Int) : List α := (xs.drop (HT.sIx xs.length 0 lo)).take (HT.sIx xs.length xs.length hi - HT.sIx xs.length 0 lo)
abbrev PO' := List SV → (Option Int → List SV → Prop) → Prop
def LO (K : FgX) (t : TO) (T : PO') : Prop := ∀ (C : Ec) (σ : L2.St) (H F : Hp) (env : List SV) (Q : Option Int → Hp → Prop) (Qp : Option Int → List SV → Prop), Rel K C σ H F env →
  (∀ o H' F' env', Stp K C σ H F env H' F' env' → Qp o env' → Q o H') → T env Qp → t σ H Q
structure EO (X : Cz) (e : Option Expr) (T : PO') : Prop where
  ex : ∃ t, PO X e t ∧ LO X.fr t T
section
variable {X : Cz} {K : FgX}
def qPn : PO' := fun env Q => Q none env
def qPs (A : PE') : PO' := fun env Q => A env fun o env1 => ∃ i, o.rd env1 = some (.int i) ∧ Q (some i) env1
theorem o_none : EO X none qPn := ⟨_, po_none, fun C σ H F env Q Qp R k q => k none H F env (Stp.refl R) q⟩
theorem o_some {e : Expr} {A : PE'} (h : EV X e A) : EO X (some e) (qPs A) := by
  obtain ⟨t, h1, l1⟩ := h.ex
  refine ⟨_, po_some h1, fun C σ H F env Q Qp R k q => ?_⟩
  refine l1 C σ H F env _ _ R (fun v H1 F1 env1 o s1 a1 q1 => ?_) q
  obtain ⟨i, e, q1⟩ := q1
  exact ⟨i, (rd_vw s1.rel a1 e).int, k (some i) H1 F1 env1 s1 q1⟩
def gSl : D → Option Int → Option Int → Option D
  | .list ds, lo, hi => some (.list (cutD ds lo hi))
  | .tuple ds, lo, hi => some (.tuple (cutD ds lo hi))
  | .str z, lo, hi => if z.length ≤ sizeLine then some (.str (cutS z lo hi)) else none
  | _, _, _ => none
theorem AtAll.cut {F : Hp} {ds : List D} {xs : List V} {lo hi : Option Int} (h : AtAll K F ds xs) : AtAll K F (cutD ds lo hi) (cutV xs lo hi) := by
  unfold cutD cutV
  rw [h.len]
  exact (h.drop _).take _
theorem cut_whole {xs : List D} {lo hi : Option Int} (h : HT.sIx xs.length 0 lo = 0 ∧ HT.sIx xs.length xs.length hi = xs.length) : cutD xs lo hi = xs := by
  unfold cutD
  rw [h.1, h.2]
  simp
def qSl (A : PE') (L U : PO') : PE' := fun env Q => A env fun o env1 => L env1 fun l env2 => U env2 fun u env3 => ∃ d, o.rd env3 = some d ∧ ∃ d', gSl d l u = some d' ∧ Q (.dv d') env3
theorem q_sl {e : Expr} {lo hi : Option Expr} {A : PE'} {L U : PO'} {p2 pos : Pos} (he : EV X e A) (hl : EO X lo L) (hu : EO X hi U) : EV X (.Subscript e (.Slice lo hi none p2) pos) (qSl A L U) := by
  obtain ⟨t, h1, l1⟩ := he.ex
  obtain ⟨tl, h2, l2⟩ := hl.ex
  obtain ⟨tu, h3, l3⟩ := hu.ex
  refine ⟨_, pe_slice (sl_list.or (sl_tupA.or sl_str)) h1 h2 h3, fun C σ H F env Q Qp R k q => ?_⟩
  refine l1 C σ H F env _ _ R (fun v H1 F1 env1 o s1 a1 q1 => ?_) q
  refine l2 C σ H1 F1 env1 _ _ s1.rel (fun l H2 F2 env2 s2 q2 => ?_) q1
  refine l3 C σ H2 F2 env2 _ _ s2.rel (fun u H3 F3 env3 s3 q3 => ?_) q2
  obtain ⟨d, e, d', e', q3⟩ := q3
  have w := rd_vw s3.rel (a1.mono (s2.ff.trans' s3.ff)) e
  have s := (s1.trans s2).trans s3
  unfold gSl at e'
  split at e'
  · cases e'
    obtain ⟨p, xs, rfl, e1, a2⟩ := w
    refine .inl ⟨p, xs, rfl, SqL.of e1, fun r hr => ?_⟩
    have s4 := s3.rel.alloc (o := .lst (cutV xs l u)) hr
    exact k _ _ _ _ (.dv _) (s.trans s4) (OvOk.of (At.list_of upd_same (AtAll.mono s4.ff _ _ a2.cut))) q3
  · cases e'
    have w' := w
    obtain ⟨p, xs, rfl, e1, a2⟩ := w.tup s3.rel.frz
    refine .inr (.inl ⟨p, xs, rfl, e1, fun h => ?_, fun h r hr => ?_⟩)
    · rw [a2.len] at h
      rw [cut_whole h] at q3
      exact k _ _ _ _ (.dv _) s w' q3
    · have s4 := s3.rel.alloc (o := .tup (cutV xs l u)) hr
      exact k _ _ _ _ (.dv _) (s.trans s4) (OvOk.of (At.tup_of upd_same (AtAll.mono s4.ff _ _ a2.cut))) q3
  · split at e'
    · cases e'
      rw [w.str]
      exact .inr (.inr ⟨_, rfl, ‹_›, k _ _ _ _ (.dv _) s (by simp [OvOk, At]) q3⟩)
    · cases e'
  · cases e'
theorem rdAll_vw {C : Ec} {σ : L2.St} {H F : Hp} {env : List SV} (R : Rel K C σ H F env) : ∀ {os : List OV} {vs : List V} {ds : List D}, OvsOk K σ F os vs → rdAll env os = some ds → VwAll K H F ds vs
  | [], vs, ds, a, e => by
    have a : vs = [] := a
    simp only [rdAll, Option.some.injEq] at e
    subst e
    exact a
  | o :: os, vs, ds, a, e => by
    obtain ⟨v, r, rfl, b, c⟩ := a
    simp only [rdAll] at e
    cases q : o.rd env with
    | none => rw [q] at e; cases e
    | some d =>
      rw [q] at e
      cases q2 : rdAll env os with
      | none => rw [q2] at e; cases e
      | some ds2 =>
        rw [q2] at e
        cases e
        exact ⟨v, r, rfl, rd_vw R b q, rdAll_vw R c q2⟩
def LC (K : FgX) (r : List V → Hp → VK → Prop) (g : List D → Option D) : Prop := ∀ (C : Ec) (σ : L2.St) (H F : Hp) (env : List SV) (xs : List V) (ds : List D) (d : D) (Q : VK), Rel K C σ H F env → VwAll K H F ds xs → g ds = some d →
  (∀ v H' F', Stp K C σ H F env H' F' env → At K F' d v → Q v H') → r xs H Q
def LCF (K : FgX) (r : List V → Hp → VK → Prop) (g : List D → Option (List D)) : Prop := ∀ (C : Ec) (σ : L2.St) (H F : Hp) (env : List SV) (xs : List V) (ds es : List D) (Q : VK), Rel K C σ H F env → VwAll K H F ds xs → g ds = some es →
  (∀ p ys F', (Stp K C σ H F env (upd H p (.lst ys)) F' env) → F' p = none → C.H0 p = none → ¬ Own σ env p → H p = none → AtAll K F' es ys → Q (.ref p) (upd H p (.lst ys))) → r xs H Q
def qCB (g : List D → Option D) (T : PA') : PE' := fun env Q => T env fun os env1 => ∃ ds, rdAll env1 os = some ds ∧ ∃ d, g ds = some d ∧ Q (.dv d) env1
def fCB (g : List D → Option (List D)) (T : PA') : PF' := fun env Q => T env fun os env1 => ∃ ds, rdAll env1 os = some ds ∧ ∃ es, g ds = some es ∧ Q es env1
theorem LE.cb {r : List V → Hp → VK → Prop} {g : List D → Option D} {t : TA} {T : PA'} (hl : LC K r g) (l1 : LA K t T) : LE K (tCB r t) (qCB g T) := fun C σ H F env Q Qp R k q => by
  refine l1 C σ H F env _ _ R (fun vs H1 F1 env1 os s1 a1 q1 => ?_) q
  obtain ⟨ds, e, d, e', q1⟩ := q1
  exact hl C σ H1 F1 env1 vs ds d Q s1.rel (rdAll_vw s1.rel a1 e) e' fun v H' F' s2 a2 => k v H' F' env1 (.dv d) (s1.trans s2) a2 q1
theorem LF.cb {r : List V → Hp → VK → Prop} {g : List D → Option (List D)} {t : TA} {T : PA'} (hl : LCF K r g) (l1 : LA K t T) : LF K (tCB r t) (fCB g T) := fun C σ H F env Q Qp R k q => by
  refine l1 C σ H F env _ _ R (fun vs H1 F1 env1 os s1 a1 q1 => ?_) q
  obtain ⟨ds, e, es, e', q1⟩ := q1
  exact hl C σ H1 F1 env1 vs ds es Q s1.rel (rdAll_vw s1.rel a1 e) e' fun p ys F' s2 f2 h2 n2 z2 a2 => k p ys es _ F' env1 (s1.trans s2) upd_same f2 h2 n2 (s1.dm p z2) a2 q1
theorem q_callB {id : String} {r : List V → Hp → VK → Prop} {g : List D → Option D} {x : Str} {e : Expr} {es : List Expr} {T : PA'} {p pos : Pos} (hl : LC X.fr r g) (hc : CallR X (.builtin id) r) (hg : Gl X x) (hm : X.mg x = none) (hv : bootBuiltins x = some (.builtin id)) (ha : EA X (e :: es) T) (hn : x ≠ "__name__" := by decide) (hdb : (x == ("__debug__" : Str)) = false := by decide)
    (he : starEach (e :: es) X.env = (false, eval e X.env) :: starEach es X.env := by rfl) (hpl : (backTo pos (starEach es X.env)).any (·.1) = false := by rfl) : EV X (.Call (.Name x p) (e :: es) [] pos) (qCB g T) := by
  obtain ⟨t, h1, l1⟩ := ha.ex
  exact ⟨_, pe_callB hc hg hm hv h1 hn hdb he hpl, LE.cb hl l1⟩
theorem q_callTy {id : String} {r : List V → Hp → VK → Prop} {g : List D → Option D} {x : Str} {e : Expr} {es : List Expr} {T : PA'} {p pos : Pos} (hl : LC X.fr r g) (hc : CallR X (.type id) r) (hg : Gl X x) (hm : X.mg x = none) (hv : bootBuiltins x = some (.type id)) (ha : EA X (e :: es) T) (hn : x ≠ "__name__" := by decide) (hdb : (x == ("__debug__" : Str)) = false := by decide)
    (he : starEach (e :: es) X.env = (false, eval e X.env) :: starEach es X.env := by rfl) (hpl : (backTo pos (starEach es X.env)).any (·.1) = false := by rfl) : EV X (.Call (.Name x p) (e :: es) [] pos) (qCB g T) := by
  obtain ⟨t, h1, l1⟩ := ha.ex
  exact ⟨_, pe_callTy hc hg hm hv h1 hn hdb he hpl, LE.cb hl l1⟩
theorem f_callTy {id : String} {r : List V → Hp → VK → Prop} {g : List D → Option (List D)} {x : Str} {e : Expr} {es : List Expr} {T : PA'} {p pos : Pos} (hl : LCF X.fr r g) (hc : CallR X (.type id) r) (hg : Gl X x) (hm : X.mg x = none) (hv : bootBuiltins x = some (.type id)) (ha : EA X (e :: es) T) (hn : x ≠ "__name__" := by decide) (hdb : (x == ("__debug__" : Str)) = false := by decide)
    (he : starEach (e :: es) X.env = (false, eval e X.env) :: starEach es X.env := by rfl) (hpl : (backTo pos (starEach es X.env)).any (·.1) = false := by rfl) : EF X (.Call (.Name x p) (e :: es) [] pos) (fCB g T) := by
  obtain ⟨t, h1, l1⟩ := ha.ex
  exact ⟨_, pe_callTy hc hg hm hv h1 hn hdb he hpl, LF.cb hl l1⟩
theorem f_callB {id : String} {r : List V → Hp → VK → Prop} {g : List D → Option (List D)} {x : Str} {e : Expr} {es : List Expr} {T : PA'} {p pos : Pos} (hl : LCF X.fr r g) (hc : CallR X (.builtin id) r) (hg : Gl X x) (hm : X.mg x = none) (hv : bootBuiltins x = some (.builtin id)) (ha : EA X (e :: es) T) (hn : x ≠ "__name__" := by decide) (hdb : (x == ("__debug__" : Str)) = false := by decide)
    (he : starEach (e :: es) X.env = (false, eval e X.env) :: starEach es X.env := by rfl) (hpl : (backTo pos (starEach es X.env)).any (·.1) = false := by rfl) : EF X (.Call (.Name x p) (e :: es) [] pos) (fCB g T) := by
  obtain ⟨t, h1, l1⟩ := ha.ex
  exact ⟨_, pe_callB hc hg hm hv h1 hn hdb he hpl, LF.cb hl l1⟩
def gLen : List D → Option D
  | [.list ds] => some (.int ds.length)
  | [.tuple ds] => some (.int ds.length)
  | [.str z] => if z.length ≤ sizeLine then some (.int z.length) else none
  | _ => none
theorem l_len : LC K (fun xs H Q => ∃ x n, xs = [x] ∧ LenV K x H n ∧ Q (.int n) H) gLen := fun C σ H F env xs ds d Q R a e k => by
  unfold gLen at e
  split at e
  · cases e
    obtain ⟨x, rfl, w⟩ := a.one
    obtain ⟨p, ys, rfl, e1, a2⟩ := w
    exact ⟨_, _, rfl, .inl ⟨ys, SqL.of e1, rfl⟩, by rw [a2.len]; exact k _ H F (Stp.refl R) (by simp [At])⟩
  · cases e
    obtain ⟨x, rfl, w⟩ := a.one
    obtain ⟨p, ys, rfl, e1, a2⟩ := w.tup R.frz
    exact ⟨_, _, rfl, .inr ⟨ys, e1, rfl⟩, by rw [a2.len]; exact k _ H F (Stp.refl R) (by simp [At])⟩
  · split at e
    · cases e
      obtain ⟨x, rfl, w⟩ := a.one
      rw [w.str]
      exact ⟨_, _, rfl, ⟨‹_›, rfl⟩, k _ H F (Stp.refl R) (by simp [At])⟩
    · cases e
  · cases e
def gListF : List D → Option (List D)
  | [.list ds] => some ds
  | [.tuple ds] => some ds
  | _ => none
theorem l_listF : LCF K (fun xs H Q => ∃ p ys, xs = [V.ref p] ∧ (SqL K H p ys ∨ SqT K H p ys) ∧ ∀ l, H l = none → Q (.ref l) (upd H l (.lst ys))) gListF := fun C σ H F env xs ds es Q R a e k => by
  unfold gListF at e
  split at e
  · cases e
    obtain ⟨x, rfl, w⟩ := a.one
    obtain ⟨p, ys, rfl, e1, a2⟩ := w
    refine ⟨p, ys, rfl, .inl (SqL.of e1), fun l hl => ?_⟩
    obtain ⟨s, f, h, n⟩ := R.alloc0 (o := .lst ys) hl
    exact k l ys F s f h n hl a2
  · cases e
    obtain ⟨x, rfl, w⟩ := a.one
    obtain ⟨p, ys, rfl, e1, a2⟩ := w.tup R.frz
    refine ⟨p, ys, rfl, .inr e1, fun l hl => ?_⟩
    obtain ⟨s, f, h, n⟩ := R.alloc0 (o := .lst ys) hl
    exact k l ys F s f h n hl a2
  · cases e
def gTuple : List D → Option D
  | [.list ds] => some (.tuple ds)
  | [.tuple ds] => some (.tuple ds)
  | _ => none
theorem l_tuple : LC K (fun xs H Q => ∃ p ys, xs = [V.ref p] ∧ ((SqL K H p ys ∧ ∀ l, H l = none → Q (.ref l) (upd H l (.tup ys))) ∨ (SqT K H p ys ∧ Q (.ref p) H))) gTuple := fun C σ H F env xs ds d Q R a e k => by
  unfold gTuple at e
  split at e
  · cases e
    obtain ⟨x, rfl, w⟩ := a.one
    obtain ⟨p, ys, rfl, e1, a2⟩ := w
    refine ⟨p, ys, rfl, .inl ⟨SqL.of e1, fun l hl => ?_⟩⟩
    have s := R.alloc (o := .tup ys) hl
    exact k _ _ _ s (At.tup_of upd_same (AtAll.mono s.ff _ _ a2))
  · cases e
    obtain ⟨x, rfl, w⟩ := a.one
    have w' := w
    obtain ⟨p, ys, rfl, e1, a2⟩ := w.tup R.frz
    exact ⟨p, ys, rfl, .inr ⟨e1, k _ H F (Stp.refl R) w'⟩⟩
  · cases e
def boolsOf : List D → Option (List Bool)
  | [] => some []
  | .bool b :: r => (boolsOf r).map (b :: ·)
  | _ => none
theorem boolsOf_map {bs : List Bool} : boolsOf (bs.map PyData.bool) = some bs := by
  induction bs with
  | nil => rfl
  | cons b bs ih => simp [boolsOf, ih]
theorem AtAll.bools {F : Hp} : ∀ {ds : List D} {bs : List Bool} {xs : List V}, boolsOf ds = some bs → AtAll K F ds xs → xs = bs.map V.bl
  | [], bs, xs, e, a => by
    simp only [boolsOf, Option.some.injEq] at e
    subst e
    simpa [AtAll] using a
  | d :: ds, bs, xs, e, a => by
    cases d with
    | bool b =>
      simp only [boolsOf] at e
      cases q : boolsOf ds with
      | none => rw [q] at e; cases e
      | some cs =>
        rw [q] at e
        cases e
        simp only [AtAll] at a
        obtain ⟨x, r, rfl, a, q2⟩ := a
        simp only [At] at a
        subst a
        rw [AtAll.bools q q2]
        rfl
    | _ => simp [boolsOf] at e
def gAll : List D → Option D
  | [.list ds] => (boolsOf ds).map fun bs => .bool (bs.all id)
  | _ => none
theorem l_all : LC K (rAll K) gAll := fun C σ H F env xs ds d Q R a e k => by
  unfold gAll at e
  split at e
  · rename_i ds'
    cases q : boolsOf ds' with
    | none => rw [q] at e; cases e
    | some bs =>
      rw [q] at e
      cases e
      obtain ⟨x, rfl, w⟩ := a.one
      obtain ⟨p, ys, rfl, e1, a2⟩ := w
      have := a2.bools q
      subst this
      exact ⟨p, bs, rfl, SqL.of e1, k _ H F (Stp.refl R) (by simp [At])⟩
  · cases e
def gAny : List D → Option D
  | [.list ds] => (boolsOf ds).map fun bs => .bool (bs.any id)
  | _ => none
def tyN : D → String
  | .none => "NoneType" | .bool _ => "bool" | .int _ => "int" | .str _ => "str" | .list _ => "list" | .tuple _ => "tuple" | .dict _ => "dict"
def isi : Ty → D → Bool
  | .str, .str _ => true
  | .int, .int _ => true
  | .int, .bool _ => true
  | .bool, .bool _ => true
  | .list, .list _ => true
  | .tuple, .tuple _ => true
  | .dict, .dict _ => true
  | _, _ => false
theorem isi_kit (T : Ty) (d : D) : kitB (tyN d) T.name = some (isi T d) := by
  cases T <;> cases d <;> (simp only [tyN, Ty.name, isi]; decide +kernel)
/-- the type of a value; of a dict whose keys are tuples, too -/
def TyA (K : FgK) (H : Hp) (x : V) (t : Value) : Prop := TyX K H x t ∨ ∃ a o zs, x = .ref a ∧ Rd H a o ∧ IsN K a zs o ∧ t = .type "dict"
theorem Vw.ty {H F : Hp} (R : Le F H) {d : D} {x : V} (a : Vw K H F d x) : TyA K H x (.type (tyN d)) := by
  cases d with
  | none => rw [a.non]; exact .inl (.base .non)
  | bool b => rw [a.bl]; exact .inl (.base (.bl b))
  | int b => rw [a.int]; exact .inl (.base (.int b))
  | str b => rw [a.str]; exact .inl (.base (.str b))
  | list ds =>
    obtain ⟨p, xs, rfl, e, _⟩ := a
    exact .inl (.base (.lst e))
  | tuple ds =>
    obtain ⟨p, xs, rfl, e, _⟩ := a.tup0 R
    rcases e with e | (e | ⟨o, e⟩) | ⟨o, its, n, e, c, _⟩
    · exact .inl (.base (.tup e))
    · cases e
    · cases e
    · exact .inl (.kTuple e c)
  | dict kds =>
    obtain ⟨p, o, rfl, e, t, c⟩ := a
    cases t with
    | false =>
      obtain ⟨kvs, rfl, _⟩ := c
      rcases e with e | ⟨od, e⟩
      · exact .inl (.base (.dK e))
      · exact .inl (.fDict e)
    | true =>
      obtain ⟨zs, c, _⟩ := c
      exact .inr ⟨p, o, zs, rfl, e, c, rfl⟩
end
end Sw

set_option Elab.async false
set_option linter.all false
set_option maxRecDepth 100000
namespace Sw
open PySem PySem.Spec L2

section
variable {X : Cz} {K : FgX}
def rIsiA (K : FgK) : List V → Hp → VK → Prop := fun xs H Q => ∃ x c t u b, xs = [x, c] ∧ ClsV c u ∧ TyA K H x t ∧ PySem.W.kitOne K.K t u = some b ∧ Q (.bl b) H
theorem call_isiA : CallR X (.builtin "isinstance") (rIsiA X.fr) := by
  intro pins s σ H xs us Q I r h
  obtain ⟨x, c, t, u, b, rfl, k, ty, e, q⟩ := h
  rcases ty with ty | ⟨a, o, zs, rfl, ha, hn, rfl⟩
  · exact call_isi pins s σ H _ us Q I r ⟨x, c, t, u, b, rfl, k, ty, e, q⟩
  · obtain ⟨u1, u2, rfl, r1, r2⟩ := vals2 r
    have e2 := k.eq r2
    subst e2
    cases (show u1 = Value.ref a from r1)
    obtain ⟨_, _, _, us', _, ob, es, ep, h1, h2, _⟩ := hn.obj (ha.ok I.hok)
    exact PySem.W.kia_one PySem.W.kitx_dict I.kIn ⟨ob, h1, h2.1⟩ e (fun z => nomatch z) fun tk => ⟨.bl b, H, I.tok tk, rfl, q⟩
def qIsi (T : Ty) (A : PE') : PE' := fun env Q => A env fun o env1 => ∃ d, o.rd env1 = some d ∧ Q (.dv (.bool (isi T d))) env1
theorem q_isi (T : Ty) {e : Expr} {A : PE'} {y : Str} {p p2 pos : Pos} (h : EV X e A) (hg : Gl X "isinstance") (hm : X.mg "isinstance" = none) (hg2 : Gl X y) (hm2 : X.mg y = none) (hv : bootBuiltins y = some (.type T.name)) (hn : y ≠ "__name__" := by decide) (hdb : (y == ("__debug__" : Str)) = false := by decide)
    (hs : starEach [e, .Name y p2] X.env = (false, eval e X.env) :: starEach [.Name y p2] X.env := by rfl) (hs2 : starEach [.Name y p2] X.env = (false, eval (.Name y p2) X.env) :: starEach [] X.env := by rfl) (hpl : (backTo pos (starEach [.Name y p2] X.env)).any (·.1) = false := by rfl) :
    EV X (.Call (.Name "isinstance" p) [e, .Name y p2] [] pos) (qIsi T A) := by
  obtain ⟨t, h1, l1⟩ := h.ex
  refine ⟨_, pe_callB call_isiA hg hm (by decide +kernel) (pa_cons h1 (pa_cons (pe_bltn (v := .ty T.name) hg2 hm2 hv rfl hn hdb) pa_nil hs2) hs) (by decide) (by decide) hs hpl, fun C σ H F env Q Qp R k q => ?_⟩
  refine l1 C σ H F env _ _ R (fun v H1 F1 env1 o s1 a1 q1 => ?_) q
  obtain ⟨d, e, q1⟩ := q1
  have w := rd_vw s1.rel a1 e
  exact ⟨v, .ty T.name, .type (tyN d), .type T.name, isi T d, rfl, .ty _, w.ty s1.rel.frz, kit_ty (isi_kit T d), k (.bl (isi T d)) H1 F1 env1 (.dv (.bool (isi T d))) s1 (by simp [OvOk, At]) q1⟩
def strsOf : List D → Option (List Str)
  | [] => some []
  | .str b :: r => (strsOf r).map (b :: ·)
  | _ => none
theorem strsOf_map {bs : List Str} : strsOf (bs.map PyData.str) = some bs := by
  induction bs with
  | nil => rfl
  | cons b bs ih => simp [strsOf, ih]
theorem AtAll.strs {F : Hp} : ∀ {ds : List D} {bs : List Str} {xs : List V}, strsOf ds = some bs → AtAll K F ds xs → xs = bs.map V.str
  | [], bs, xs, e, a => by
    simp only [strsOf, Option.some.injEq] at e
    subst e
    simpa [AtAll] using a
  | d :: ds, bs, xs, e, a => by
    cases d with
    | str b =>
      simp only [strsOf] at e
      cases q : strsOf ds with
      | none => rw [q] at e; cases e
      | some cs =>
        rw [q] at e
        cases e
        simp only [AtAll] at a
        obtain ⟨x, r, rfl, a, q2⟩ := a
        simp only [At] at a
        subst a
        rw [AtAll.strs q q2]
        rfl
    | _ => simp [strsOf] at e
def gJoin (z : Str) (ds : List D) : Option D := (strsOf ds).bind fun ys => if (ys.map (·.length)).sum + ys.length * z.length ≤ 16777216 then some (.str (Txt.join z ys)) else none
def seqOf : D → Option (List D)
  | .list ds => some ds
  | .tuple ds => some ds
  | _ => none
def qJoin (A B : PE') : PE' := fun env Q => A env fun o env1 => ∃ z, o = .dv (.str z) ∧ B env1 fun o2 env2 => ∃ d, o2.rd env2 = some d ∧ ∃ ds, seqOf d = some ds ∧ ∃ d', gJoin z ds = some d' ∧ Q (.dv d') env2
theorem q_join {a e : Expr} {A B : PE'} {apos pos : Pos} (ha : EV X a A) (hb : EV X e B) (hs : starEach [e] X.env = [(false, eval e X.env)] := by rfl) (hbase : attributeBase a "join" X.env (eval a X.env) = eval a X.env := by rfl) (hline : (apos.endLine == pos.line) = true := by rfl) :
    EV X (.Call (.Attribute a "join" apos) [e] [] pos) (qJoin A B) := by
  obtain ⟨t, h1, l1⟩ := ha.ex
  obtain ⟨u, h2, l2⟩ := hb.ex
  refine ⟨_, pe_join h1 h2 hs hbase hline, fun C σ H F env Q Qp R k q => ?_⟩
  refine l1 C σ H F env _ _ R (fun v H1 F1 env1 o s1 a1 q1 => ?_) q
  obtain ⟨z, rfl, q1⟩ := q1
  have a1 : v = .str z := by simpa [OvOk, At] using a1
  subst a1
  refine ⟨⟨z, rfl⟩, ?_⟩
  refine l2 C σ H1 F1 env1 _ _ s1.rel (fun v2 H2 F2 env2 o2 s2 a2 q2 => ?_) q1
  obtain ⟨d, e, ds, e2, d', e3, q2⟩ := q2
  have w := rd_vw s2.rel a2 e
  unfold gJoin at e3
  cases q : strsOf ds with
  | none => rw [q] at e3; cases e3
  | some ys =>
    rw [q] at e3
    simp only [Option.bind_some] at e3
    split at e3
    · cases e3
      unfold seqOf at e2
      split at e2
      · cases e2
        obtain ⟨p, xs, rfl, f1, f2⟩ := w
        have := f2.strs q
        subst this
        exact ⟨z, p, ys, rfl, rfl, .inl (SqL.of f1), ‹_›, k _ H2 F2 env2 (.dv _) (s1.trans s2) (by simp [OvOk, At]) q2⟩
      · cases e2
        obtain ⟨p, xs, rfl, f1, f2⟩ := w.tup s2.rel.frz
        have := f2.strs q
        subst this
        exact ⟨z, p, ys, rfl, rfl, .inr f1, ‹_›, k _ H2 F2 env2 (.dv _) (s1.trans s2) (by simp [OvOk, At]) q2⟩
      · cases e2
    · cases e3

section
variable {C : Ec} {σ : L2.St} {H F : Hp} {env : List SV}
theorem set_oth {i j : Nat} {l : Bool} {es : Ct} {d : D} (h : (env.set i (.dat d))[j]? = some (SV.obj l es)) : j ≠ i ∧ env[j]? = some (SV.obj l es) := by
  by_cases e : j = i
  · subst e
    by_cases hi : j < env.length
    · rw [List.getElem?_set_self hi] at h; cases h
    · rw [List.getElem?_eq_none (by rw [List.length_set]; omega)] at h; cases h
  · rw [List.getElem?_set_ne (Ne.symm e)] at h; exact ⟨e, h⟩
theorem Rel.assign (R : Rel K C σ H F env) {i : Nat} {d : D} {v : V} (hi : i < σ.length) (a : At K F d v) : Rel K C (σ.set i (some v)) H F (env.set i (.dat d)) := by
  refine ⟨⟨R.frz, R.mono, R.new, R.frame, R.la, by rw [List.length_set, List.length_set]; exact R.len, fun j sv e => ?_, fun j k l ds m es h1 h2 h3 => ?_⟩, R.xok⟩
  · by_cases e' : j = i
    · subst e'
      rw [List.getElem?_set_self (by rw [R.len]; exact hi)] at e
      cases e
      exact ⟨v, List.getElem?_set_self hi, a⟩
    · rw [List.getElem?_set_ne (Ne.symm e')] at e ⊢
      exact R.slot j sv e
  · obtain ⟨n1, h1⟩ := set_oth h1
    obtain ⟨n2, h2⟩ := set_oth h2
    rw [List.getElem?_set_ne (Ne.symm n1), List.getElem?_set_ne (Ne.symm n2)] at h3
    exact R.dist j k l ds m es h1 h2 h3
theorem Rel.assignO (R : Rel K C σ H F env) {i : Nat} {ds : Ct} {p : Addr} {xs : HO} (hi : i < σ.length) (hp : H p = some xs) (fp : F p = none) (h0 : C.H0 p = none) (no : ¬ Own σ env p) (a : CtOk K F p xs ds) :
    Rel K C (σ.set i (some (.ref p))) H F (env.set i (.obj false ds)) := by
  have hi' : i < env.length := by rw [R.len]; exact hi
  refine ⟨⟨R.frz, R.mono, R.new, R.frame, R.la, by rw [List.length_set, List.length_set]; exact R.len, fun j sv e => ?_, fun j k l es m fs h1 h2 h3 => ?_⟩, R.xok⟩
  · by_cases e' : j = i
    · subst e'
      rw [List.getElem?_set_self hi'] at e
      cases e
      exact ⟨p, xs, List.getElem?_set_self hi, hp, fp, by rw [if_neg (by decide)]; exact h0, a⟩
    · rw [List.getElem?_set_ne (Ne.symm e')] at e ⊢
      exact R.slot j sv e
  · by_cases e1 : j = i
    · by_cases e2 : k = i
      · rw [e1, e2]
      · subst e1
        rw [List.getElem?_set_self hi, List.getElem?_set_ne (Ne.symm e2)] at h3
        rw [List.getElem?_set_ne (Ne.symm e2)] at h2
        exact absurd ⟨k, m, fs, h2, h3.symm⟩ no
    · by_cases e2 : k = i
      · subst e2
        rw [List.getElem?_set_self hi, List.getElem?_set_ne (Ne.symm e1)] at h3
        rw [List.getElem?_set_ne (Ne.symm e1)] at h1
        exact absurd ⟨j, l, es, h1, h3⟩ no
      · rw [List.getElem?_set_ne (Ne.symm e1), List.getElem?_set_ne (Ne.symm e2)] at h3
        rw [List.getElem?_set_ne (Ne.symm e1)] at h1
        rw [List.getElem?_set_ne (Ne.symm e2)] at h2
        exact R.dist j k l es m fs h1 h2 h3
theorem Rel.assignF (R : Rel K C σ H F env) {i : Nat} {ds : List D} {p : Addr} {xs : List V} (hi : i < σ.length) (hp : H p = some (.lst xs)) (fp : F p = none) (h0 : C.H0 p = none) (no : ¬ Own σ env p) (a : AtAll K F ds xs) :
    Rel K C (σ.set i (some (.ref p))) H F (env.set i (.own false ds)) := R.assignO hi hp fp h0 no ⟨xs, rfl, a⟩
end

def sNil : PS' := fun Dp env => Dp.nx env
def sSeq (A B : PS') : PS' := fun Dp env => A { Dp with nx := B Dp } env
theorem s_nil : EB X [] sNil := ⟨_, pss_nil, fun C σ H F env D Dp R k q => k.nx σ H F env R Le.rfl' q⟩
theorem s_cons {st : Stmt} {rest : List Stmt} {A B : PS'} (h : ES X st A) (g : EB X rest B) : EB X (st :: rest) (sSeq A B) := by
  obtain ⟨t, h1, l1⟩ := h.ex
  obtain ⟨u, h2, l2⟩ := g.ex
  refine ⟨_, pss_cons h1 h2, fun C σ H F env D Dp R k q => ?_⟩
  exact l1 C σ H F env { D with nx := u D } { Dp with nx := B Dp } R ⟨fun σ' H' F' env' R' l q' => l2 C σ' H' F' env' D Dp R' (k.mono l) q', k.rt, k.bk, k.ct⟩ q
theorem s_one {st : Stmt} {A : PS'} (h : ES X st A) : EB X [st] A := by
  obtain ⟨t, h1, l1⟩ := h.ex
  exact ⟨_, pss_one h1, l1⟩
def sPass : PS' := fun Dp env => Dp.nx env
def sBreak : PS' := fun Dp env => Dp.bk env
def sCont : PS' := fun Dp env => Dp.ct env
def sIf (c : PT') (A B : PS') : PS' := fun Dp env => c env fun b env1 => if b = true then A Dp env1 else B Dp env1
theorem s_if {c : Expr} {a b : List Stmt} {pos : Pos} {T : PT'} {A B : PS'} (hc : ET X c T) (ha : EB X a A) (hb : EB X b B) : ES X (.If c a b pos) (sIf T A B) := by
  obtain ⟨t, h1, l1⟩ := hc.ex
  obtain ⟨u, h2, l2⟩ := ha.ex
  obtain ⟨w, h3, l3⟩ := hb.ex
  refine ⟨_, ps_if h1 h2 h3, fun C σ H F env D Dp R k q => ?_⟩
  refine l1 C σ H F env _ _ R (fun b H1 F1 env1 s1 q1 => ?_) q
  cases b with
  | true => exact l2 C σ H1 F1 env1 D Dp s1.rel (k.mono s1.ff) q1
  | false => exact l3 C σ H1 F1 env1 D Dp s1.rel (k.mono s1.ff) q1
def sRet (A : PE') : PS' := fun Dp env => A env fun o env1 => ∃ d env2, o.fz env1 = some (d, env2) ∧ Dp.rt (.dt d) env2
theorem s_ret {e : Expr} {A : PE'} {pos : Pos} (h : EV X e A) : ES X (.Return (some e) pos) (sRet A) := by
  obtain ⟨t, h1, l1⟩ := h.ex
  refine ⟨_, ps_ret h1, fun C σ H F env D Dp R k q => ?_⟩
  refine l1 C σ H F env _ _ R (fun v H1 F1 env1 o s1 a1 q1 => ?_) q
  obtain ⟨d, env2, e, q1⟩ := q1
  obtain ⟨F2, s2, a2⟩ := fz_ok s1.rel a1 e
  exact k.rt σ H1 F2 env2 (.dt d) v s2.rel (s1.ff.trans' s2.ff) a2 q1
/-- a list that nobody holds is handed back -/
def sRetF (T : PF') : PS' := fun Dp env => T env fun ds env1 => Dp.rt (.fr ds) env1
theorem s_retF {e : Expr} {T : PF'} {pos : Pos} (h : EF X e T) : ES X (.Return (some e) pos) (sRetF T) := by
  obtain ⟨t, h1, l1⟩ := h.ex
  refine ⟨_, ps_ret h1, fun C σ H F env D Dp R k q => ?_⟩
  refine l1 C σ H F env _ _ R (fun p xs ds H1 F1 env1 s1 hp fp h0 no hn a q1 => ?_) q
  exact k.rt σ H1 F1 env1 (.fr ds) (.ref p) s1.rel s1.ff ⟨p, xs, rfl, hp, fp, h0, a⟩ q1
def sRetS (i : Nat) : PS' := fun Dp env => ∃ ds, env[i]? = some (.own false ds) ∧ Dp.rt (.fr ds) env
theorem s_retS (i : Nat) {x : Str} {p pos : Pos} (hN : X.N[i]? = some x := by rfl) (hv : Vis X.env.scope x := by first | exact Or.inl rfl | exact Or.inr (Or.inl rfl) | exact Or.inr (Or.inr rfl)) (hd : (x == ("__debug__" : Str)) = false := by decide)
    (hcd : (x == ("__classdict__" : Str)) = false := by decide) : ES X (.Return (some (.Name x p)) pos) (sRetS i) := by
  refine ⟨_, ps_ret (pe_var hN hv hd hcd), fun C σ H F env D Dp R k q => ?_⟩
  obtain ⟨ds, e, q⟩ := q
  obtain ⟨p, u, e1, e2, e3, e4, xs, rfl, e5⟩ := R.slot i _ e
  exact ⟨.ref p, e1, k.rt σ H F env (.fr ds) (.ref p) R Le.rfl' ⟨p, xs, rfl, e2, e3, by simpa using e4, e5⟩ q⟩
def sDrop (A : PE') : PS' := fun Dp env => A env fun _ env1 => Dp.nx env1
theorem s_expr {e : Expr} {A : PE'} {pos : Pos} (h : EV X e A) (hs : swapsWith e none pos.line X.env = pure false := by rfl) : ES X (.Expr e pos) (sDrop A) := by
  obtain ⟨t, h1, l1⟩ := h.ex
  refine ⟨_, ps_expr h1 hs, fun C σ H F env D Dp R k q => ?_⟩
  refine l1 C σ H F env _ _ R (fun v H1 F1 env1 o s1 a1 q1 => ?_) q
  exact k.nx σ H1 F1 env1 s1.rel s1.ff q1
def sAsg (i : Nat) (A : PE') : PS' := fun Dp env => A env fun o env1 => ∃ d env2, o.fz env1 = some (d, env2) ∧ i < env2.length ∧ Dp.nx (env2.set i (.dat d))
theorem s_set {i : Nat} {x : Str} {e : Expr} {A : PE'} {pos pos' : Pos} (hN : X.N.Nodup) (hi : X.N[i]? = some x) (hx : Loc X.env.scope x) (h : EV X e A) (hs : swapsWith e (some (.Name x pos')) pos.line X.env = pure false := by rfl) (hf : X.fn x = true ∨ X.env.scope.names.lookup x = some .local := by first | exact .inl rfl | exact .inr rfl | assumption) :
    ES X (.Assign [.Name x pos'] e pos) (sAsg i A) := by
  obtain ⟨t, h1, l1⟩ := h.ex
  refine ⟨_, ps_set hN hi hx h1 hs hf, fun C σ H F env D Dp R k q => ?_⟩
  refine l1 C σ H F env _ _ R (fun v H1 F1 env1 o s1 a1 q1 => ?_) q
  obtain ⟨d, env2, e, hl, q1⟩ := q1
  obtain ⟨F2, s2, a2⟩ := fz_ok s1.rel a1 e
  exact k.nx _ H1 F2 _ (s2.rel.assign (by rw [← s2.rel.len]; exact hl) a2) (s1.ff.trans' s2.ff) q1
def sAsgF (i : Nat) (T : PF') : PS' := fun Dp env => T env fun ds env1 => i < env1.length ∧ Dp.nx (env1.set i (.own false ds))
theorem s_setF {i : Nat} {x : Str} {e : Expr} {T : PF'} {pos pos' : Pos} (hN : X.N.Nodup) (hi : X.N[i]? = some x) (hx : Loc X.env.scope x) (h : EF X e T) (hs : swapsWith e (some (.Name x pos')) pos.line X.env = pure false := by rfl) (hf : X.fn x = true ∨ X.env.scope.names.lookup x = some .local := by first | exact .inl rfl | exact .inr rfl | assumption) :
    ES X (.Assign [.Name x pos'] e pos) (sAsgF i T) := by
  obtain ⟨t, h1, l1⟩ := h.ex
  refine ⟨_, ps_set hN hi hx h1 hs hf, fun C σ H F env D Dp R k q => ?_⟩
  refine l1 C σ H F env _ _ R (fun p xs ds H1 F1 env1 s1 hp fp h0 no hn a q1 => ?_) q
  exact k.nx _ H1 F1 _ (s1.rel.assignF (by rw [← s1.rel.len]; exact q1.1) hp fp h0 no a) s1.ff q1.2
/-- xs[k] = e, xs a slot's own list -/
def sSetIx (i : Nat) (A B : PE') : PS' := fun Dp env => A env fun o env1 => ∃ d env2, o.fz env1 = some (d, env2) ∧ (∃ l0 ds0, env2[i]? = some (.own l0 ds0)) ∧ B env2 fun ok env3 => ∃ n, ok.rd env3 = some (.int n) ∧ ∃ l ds, env3[i]? = some (.own l ds) ∧ ∃ j, ixN ds.length n = some j ∧ Dp.nx (env3.set i (.own l (ds.set j d)))
theorem s_setIx (i : Nat) {x : Str} {a b : Expr} {A B : PE'} {p p2 pos : Pos} (ha : EV X a A) (hb : EV X b B) (hN : X.N[i]? = some x := by rfl) (hv : Vis X.env.scope x := by first | exact Or.inl rfl | exact Or.inr (Or.inl rfl) | exact Or.inr (Or.inr rfl)) (hd : (x == ("__debug__" : Str)) = false := by decide)
    (hcd : (x == ("__classdict__" : Str)) = false := by decide) (hs : swapsWithSole [.Subscript (.Name x p) b p2] a pos.line X.env = pure false := by rfl) (hw : swappedStores [.Subscript (.Name x p) b p2] a X.env = pure none := by rfl)
    (h1 : (assignEach [.Subscript (.Name x p) b p2] X.env).map (·.2) = [assign (.Subscript (.Name x p) b p2) X.env] := by rfl)
    (has : ∀ v, assign (.Subscript (.Name x p) b p2) X.env v = (do
      let ov ← holding [v] (eval (.Name x p) X.env)
      let iv ← holding [v, ov] (eval b X.env)
      standAt p2
      holding [v, ov, iv] (setItem ov iv v)
      release [v, ov, iv] []) := by intro _; rfl) : ES X (.Assign [.Subscript (.Name x p) b p2] a pos) (sSetIx i A B) := by
  obtain ⟨t, g1, l1⟩ := ha.ex
  obtain ⟨u, g2, l2⟩ := hb.ex
  refine ⟨_, ps_asg g1 (pg_sub (pe_var hN hv hd hcd) g2 set_list has) hs hw h1, fun C σ H F env D Dp R k q => ?_⟩
  refine l1 C σ H F env _ _ R (fun v H1 F1 env1 o s1 a1 q1 => ?_) q
  obtain ⟨d, env2, e, ⟨l0, ds0, e0⟩, q1⟩ := q1
  obtain ⟨F2, s2, a2⟩ := fz_ok s1.rel a1 e
  -- the slot's address
  have key : ∀ (p' : Addr), σ[i]? = some (some (.ref p')) → u σ H1 fun iv H2 => rSetL (.ref p') iv v H2 fun H3 => D.nx σ H3 := fun p' hp' => by
    refine l2 C σ H1 F2 env2 _ _ s2.rel (fun iv H2 F3 env3 ok s3 a3 q3 => ?_) q1
    obtain ⟨n, e3, l, ds, e4, j, e5, q3⟩ := q3
    obtain ⟨p2, u2, f1, f2, f3, f4, xs, rfl, f5⟩ := s3.rel.slot i _ e4
    rw [hp'] at f1
    cases f1
    have w := (rd_vw s3.rel a3 e3).int
    subst w
    refine ⟨p', xs, n, j, rfl, rfl, f2, by rw [f5.len]; exact e5, ?_⟩
    have s4 := s3.rel.write (ds' := .lst (ds.set j d)) e4 hp' ⟨_, rfl, f5.set (i := j) (At.mono s3.ff _ _ a2)⟩ fun _ => trivial
    exact k.nx σ _ F3 _ s4.rel (((s1.ff.trans' s2.ff).trans' s3.ff).trans' s4.ff) q3
  obtain ⟨p', xs0, hp', _⟩ := s2.rel.slot i _ e0
  exact ⟨.ref p', hp', key p' hp'⟩
end
end Sw

set_option Elab.async false
set_option linter.all false
set_option maxRecDepth 100000
namespace Sw
open PySem PySem.Spec L2

section
variable {X : Cz} {K : FgX}
abbrev TGs' := List D → List SV → (List SV → Prop) → Prop
def LGs (K : FgX) (S : List Nat) (t : TGs) (T : TGs') : Prop := ∀ (C : Ec) (σ : L2.St) (H F : Hp) (env : List SV) (vs : List V) (ds : List D) (Q : L2.St → Hp → Prop) (Qp : List SV → Prop), Rel K C σ H F env → AtAll K F ds vs →
  (∀ σ' env', Rel K C σ' H F env' → Tgt S σ σ' env env' → Qp env' → Q σ' H) → T ds env Qp → t vs σ H Q
structure EG (X : Cz) (S : List Nat) (e : Expr) (T : TG') : Prop where
  ex : ∃ t, PG X e t ∧ LG X.fr S t T
structure EGs (X : Cz) (S : List Nat) (es : List Expr) (T : TGs') : Prop where
  ex : ∃ t, PGs X es t ∧ LGs X.fr S t T
def gN (i : Nat) : TG' := fun d env Q => i < env.length ∧ Q (env.set i (.dat d))
theorem g_name {i : Nat} {x : Str} {pos : Pos} (hN : X.N.Nodup) (hi : X.N[i]? = some x) (hx : Loc X.env.scope x) (hf : X.fn x = true ∨ X.env.scope.names.lookup x = some .local := by first | exact .inl rfl | exact .inr rfl | assumption) : EG X [i] (.Name x pos) (gN i) := by
  refine ⟨_, pg_name hN hi hx hf, fun C σ H F env v d Q Qp R a k q => ?_⟩
  refine k _ _ (R.assign (by rw [← R.len]; exact q.1) a) ⟨fun j hj => ?_, fun j l ds hj h => ?_, by rw [List.length_set]⟩ q.2
  · have ne : i ≠ j := fun e => hj (by simp [e])
    exact ⟨List.getElem?_set_ne ne, List.getElem?_set_ne ne⟩
  · have e : j = i := by simpa using hj
    subst e
    rw [List.getElem?_set_self q.1] at h
    cases h
def gsN : TGs' := fun ds env Q => ds = [] ∧ Q env
def gsC (T : TG') (U : TGs') : TGs' := fun ds env Q => ∃ d r, ds = d :: r ∧ T d env fun env1 => U r env1 Q
theorem gs_nil : EGs X [] [] gsN := by
  refine ⟨_, pgs_nil, fun C σ H F env vs ds Q Qp R a k q => ?_⟩
  obtain ⟨rfl, q⟩ := q
  have a : vs = [] := by simpa [AtAll] using a
  exact ⟨a, k σ env R ⟨fun _ _ => ⟨rfl, rfl⟩, fun _ _ _ h _ => by simp at h, rfl⟩ q⟩
theorem gs_cons {S S' : List Nat} {e : Expr} {es : List Expr} {T : TG'} {U : TGs'} (h : EG X S e T) (g : EGs X S' es U) (hs : (assignEach (e :: es) X.env).map (·.2) = assign e X.env :: (assignEach es X.env).map (·.2) := by rfl) : EGs X (S ++ S') (e :: es) (gsC T U) := by
  obtain ⟨t, h1, l1⟩ := h.ex
  obtain ⟨u, h2, l2⟩ := g.ex
  refine ⟨_, pgs_cons h1 h2 hs, fun C σ H F env vs ds Q Qp R a k q => ?_⟩
  obtain ⟨d, r, rfl, q⟩ := q
  simp only [AtAll] at a
  obtain ⟨v, vr, rfl, a1, a2⟩ := a
  refine ⟨v, vr, rfl, ?_⟩
  refine l1 C σ H F env v d _ _ R a1 (fun σ1 env1 R1 t1 q1 => ?_) q
  exact l2 C σ1 H F env1 vr r _ _ R1 a2 (fun σ2 env2 R2 t2 q2 => k σ2 env2 R2 (t1.trans t2) q2) q1
def gT (n : Nat) (T : TGs') : TG' := fun d env Q => ∃ ds, d = .tuple ds ∧ ds.length = n ∧ T ds env Q
theorem g_tup {S : List Nat} {es : List Expr} {k n : Nat} {T : TGs'} {pos : Pos} (hc : X.calm = true) (h : EGs X S es T) (hn : (assignEach es X.env).length = n := by rfl) (hst : (assignEach es X.env).findIdx? (·.1) = none := by rfl) : EG X S (.Tuple es k pos) (gT n T) := by
  obtain ⟨t, h1, l1⟩ := h.ex
  refine ⟨_, pg_tup hc h1 hn hst, fun C σ H F env v d Q Qp R a kk q => ?_⟩
  obtain ⟨ds, rfl, hl, q⟩ := q
  simp only [At] at a
  obtain ⟨p, xs, rfl, e, a⟩ := a
  exact ⟨p, xs, rfl, (Le.tupAt R.frz e).sqT, by rw [a.len]; exact hl, l1 C σ H F env xs ds Q Qp R a kk q⟩
/-- target = e -/
def sAsgG (A : PE') (G : TG') : PS' := fun Dp env => A env fun o env1 => ∃ d env2, o.fz env1 = some (d, env2) ∧ G d env2 Dp.nx
theorem s_asg {S : List Nat} {tg e : Expr} {A : PE'} {G : TG'} {pos : Pos} (he : EV X e A) (hg : EG X S tg G) (hs : swapsWithSole [tg] e pos.line X.env = pure false := by rfl) (hw : swappedStores [tg] e X.env = pure none := by rfl)
    (h1 : (assignEach [tg] X.env).map (·.2) = [assign tg X.env] := by rfl) : ES X (.Assign [tg] e pos) (sAsgG A G) := by
  obtain ⟨t, g1, l1⟩ := he.ex
  obtain ⟨u, g2, l2⟩ := hg.ex
  refine ⟨_, ps_asg g1 g2 hs hw h1, fun C σ H F env D Dp R k q => ?_⟩
  refine l1 C σ H F env _ _ R (fun v H1 F1 env1 o s1 a1 q1 => ?_) q
  obtain ⟨d, env2, e, q1⟩ := q1
  obtain ⟨F2, s2, a2⟩ := fz_ok s1.rel a1 e
  exact l2 C σ H1 F2 env2 v d _ _ s2.rel a2 (fun σ' env' R' _ q' => k.nx σ' H1 F2 env' R' (s1.ff.trans' s2.ff) q') q1

def ItOk (K : FgK) (J : It) (F : Hp) (ds : List D) : Prop := ∃ G Y, Walk J ds.length G Y ∧ (∀ H, Le F H → G H) ∧ ∀ i H x H', i < ds.length → Le F H → Y i H x H' → YOk K F ds[i]? H x H'
abbrev PI' := List SV → (List D → List SV → Prop) → Prop
def LI (K : FgX) (wi : TI) (T : PI') : Prop := ∀ (C : Ec) (σ : L2.St) (H F : Hp) (env : List SV) (R : It → Hp → Prop) (Qp : List D → List SV → Prop), Rel K C σ H F env →
  (∀ J ds H' F' env', Stp K C σ H F env H' F' env' → ItOk K J F' ds → Qp ds env' → R J H') → T env Qp → wi σ H R
structure EI (X : Cz) (tg e : Expr) (T : PI') : Prop where
  ex : ∃ wi, PI X tg e wi ∧ LI X.fr wi T
/-- a list, a tuple or a text is walked -/
def wAny (K : FgK) (t : TE) : TI := fun σ H R => t σ H fun x H1 => (∃ a, x = .ref a ∧ (∃ xs, SqL K H1 a xs) ∧ R (Itl K a) H1) ∨ (∃ a, x = .ref a ∧ (∃ xs, SqT K H1 a xs) ∧ R (Itt K a) H1) ∨ ∃ z, x = .str z ∧ R (Its z) H1
theorem pi_any {tg l : Expr} {t : TE} (hl : PE X l t) : PI X tg l (wAny X.fr t) := by
  refine ⟨fun pins s σ H R I h => ?_⟩
  refine thn (hl.run pins s σ H _ I h) fun v s1 ⟨x, H1, I1, r1, q1⟩ => ?_
  rcases q1 with ⟨a, e, ⟨xs, hq⟩, q⟩ | ⟨a, e, ⟨xs, hq⟩, q⟩ | ⟨z, e, q⟩
  · subst e
    cases r1
    obtain ⟨its, rv, p, hz⟩ := I1.list hq
    refine wpAny_pyIter_list p.isList ?_
    refine ⟨s1.heap.objs.size, [s1.heap.objs.size], _, _, H1, rfl, I1.kept (t' := s1.toks) fun b o e => Heap.get?_push_of_some _ e, turn_list a _, ⟨_, Heap.get?_push_size _ rfl, rfl, rfl⟩, fun b hb => ?_, q⟩
    have e : b = s1.heap.objs.size := by simpa using hb
    subst e
    exact I1.fpOk (Nat.le_refl _) (I1.hok.fresh (Nat.le_refl _))
  · subst e
    cases r1
    obtain ⟨its, rv, p, hz⟩ := I1.tuple hq
    refine wpAny_pyIter_tuple (show s1.heap.IsTuple a its.toArray from p) ?_
    refine ⟨s1.heap.objs.size, [s1.heap.objs.size], _, _, H1, rfl, I1.kept (t' := s1.toks) fun b o e => Heap.get?_push_of_some _ e, turn_tuple a _, ⟨_, Heap.get?_push_size _ rfl, rfl, rfl⟩, fun b hb => ?_, q⟩
    have e : b = s1.heap.objs.size := by simpa using hb
    subst e
    exact I1.fpOk (Nat.le_refl _) (I1.hok.fresh (Nat.le_refl _))
  · subst e
    obtain ⟨t, rfl⟩ := r1
    cases ha : z.cps.all (· < 128)
    · exact wpAny_pyIter_wide ha (pi_one (tk := s1.toks) I1 _ (turn_str _ z t "str_iterator" (.inr rfl)) ⟨_, Heap.get?_push_size _ rfl, rfl, rfl⟩ q)
    · exact wpAny_pyIter_ascii ha (pi_one (tk := s1.toks) I1 _ (turn_str _ z t "str_ascii_iterator" (.inl rfl)) ⟨_, Heap.get?_push_size _ rfl, rfl, rfl⟩ q)
def signD (c : Nat) : D := .str ⟨#[c]⟩
def itemsOf : D → Option (List D)
  | .list ds => some ds
  | .tuple ds => some ds
  | .str z => some (z.cps.toList.map signD)
  | _ => none
def iAny (A : PE') : PI' := fun env Q => A env fun o env1 => ∃ d env2, o.fz env1 = some (d, env2) ∧ ∃ ds, itemsOf d = some ds ∧ Q ds env2
theorem yAt_ok {F : Hp} {ds : List D} {xs : List V} (a : AtAll K F ds xs) {i : Nat} {H H' : Hp} {x : V} (y : YAt xs i H x H') : YOk K F ds[i]? H x H' := by
  obtain ⟨e, h⟩ := y
  obtain ⟨d, e2, a2⟩ := a.get' h
  exact .inl ⟨e, d, e2, a2⟩
theorem i_any {tg e : Expr} {A : PE'} (h : EV X e A) : EI X tg e (iAny A) := by
  obtain ⟨t, h1, l1⟩ := h.ex
  refine ⟨_, pi_any h1, fun C σ H F env R Qp Rl k q => ?_⟩
  refine l1 C σ H F env _ _ Rl (fun v H1 F1 env1 o s1 a1 q1 => ?_) q
  obtain ⟨d, env2, e, ds, e2, q1⟩ := q1
  obtain ⟨F2, s2, a2⟩ := fz_ok s1.rel a1 e
  unfold itemsOf at e2
  split at e2
  · cases e2
    simp only [At] at a2
    obtain ⟨p, xs, rfl, f1, f2⟩ := a2
    refine .inl ⟨p, rfl, ⟨xs, SqL.of (s2.rel.frz _ _ f1)⟩, k _ ds H1 F2 env2 (s1.trans s2) ⟨_, _, f2.len ▸ walk_list (xs := xs), fun H l => SqL.of (l _ _ f1), fun i H x H' hi l y => yAt_ok f2 y⟩ q1⟩
  · cases e2
    simp only [At] at a2
    obtain ⟨p, xs, rfl, f1, f2⟩ := a2
    refine .inr (.inl ⟨p, rfl, ⟨xs, (Le.tupAt s2.rel.frz f1).sqT⟩, k _ ds H1 F2 env2 (s1.trans s2) ⟨_, _, f2.len ▸ walk_tup (xs := xs), fun H l => (Le.tupAt l f1).sqT, fun i H x H' hi l y => yAt_ok f2 y⟩ q1⟩)
  · cases e2
    rename_i z
    have a2 : v = .str z := by simpa [At] using a2
    subst a2
    refine .inr (.inr ⟨z, rfl, k _ _ H1 F2 env2 (s1.trans s2) ⟨fun _ => True, fun i H v H' => H' = H ∧ ∃ c, z.cps[i]? = some c ∧ v = .str ⟨#[c]⟩, ?_, fun H l => trivial, fun i H x H' hi l y => ?_⟩ q1⟩)
    · rw [List.length_map, Array.length_toList]
      exact walk_str
    · obtain ⟨e, c, h1, rfl⟩ := y
      refine .inl ⟨e, signD c, ?_, by simp [At, signD]⟩
      rw [List.getElem?_map]
      have : z.cps.toList[i]? = some c := by rw [Array.getElem?_toList]; exact h1
      rw [this]
      rfl
  · cases e2
def rgD (lo : Int) (n : Nat) : List D := (List.range n).map fun (i : Nat) => PyData.int (lo + (i : Int))
theorem rg_ok {F : Hp} {lo : Int} {n : Nat} : ItOk K (Itr lo n) F (rgD lo n) := by
  refine ⟨fun _ => True, YFn fun i => .int (lo + i), ?_, fun H l => trivial, fun i H x H' hi l y => ?_⟩
  · unfold rgD
    rw [List.length_map, List.length_range]
    exact walk_range
  · obtain ⟨e, rfl⟩ := y
    refine .inl ⟨e, .int (lo + i), ?_, by simp [At]⟩
    unfold rgD at hi ⊢
    rw [List.length_map, List.length_range] at hi
    rw [List.getElem?_map, List.getElem?_range hi]
    rfl
def iRg1 (A : PE') : PI' := fun env Q => A env fun o env1 => ∃ j, o.rd env1 = some (.int j) ∧ (-(2 ^ 62) ≤ j ∧ j < 2 ^ 62) ∧ Q (rgD 0 j.toNat) env1
theorem i_rg1 {tg a : Expr} {A : PE'} {p pos : Pos} (h : EV X a A) (hg : Gl X "range") (hm : X.mg "range" = none) (hs : starEach [a] X.env = [(false, eval a X.env)] := by rfl) (hs' : starEach (a :: []) X.env = (false, eval a X.env) :: starEach [] X.env := by rfl) : EI X tg (.Call (.Name "range" p) [a] [] pos) (iRg1 A) := by
  obtain ⟨t, h1, l1⟩ := h.ex
  refine ⟨_, pi_range1 hg hm (pa_cons h1 pa_nil hs') hs, fun C σ H F env R Qp Rl k q => ?_⟩
  refine l1 C σ H F env _ _ Rl (fun v H1 F1 env1 o s1 a1 q1 => ?_) q
  obtain ⟨j, e, ⟨b1, b2⟩, q1⟩ := q1
  have w := (rd_vw s1.rel a1 e).int
  subst w
  exact ⟨j, rfl, b1, b2, k _ _ H1 F1 env1 s1 rg_ok q1⟩
def iRg2 (A B : PE') : PI' := fun env Q => A env fun o env1 => B env1 fun o2 env2 => ∃ i, o.rd env2 = some (.int i) ∧ ∃ j, o2.rd env2 = some (.int j) ∧ (-(2 ^ 62) ≤ i ∧ i < 2 ^ 62 ∧ -(2 ^ 62) ≤ j ∧ j < 2 ^ 62) ∧ Q (rgD i (j - i).toNat) env2
def enD : Nat → List D → List D
  | _, [] => []
  | i, d :: r => .tuple [.int (i : Nat), d] :: enD (i + 1) r
/-- enumerate(a list) -/
def iEnu (A : PE') : PI' := fun env Q => A env fun o env1 => ∃ d env2, o.fz env1 = some (d, env2) ∧ ∃ ds, d = .list ds ∧ Q (enD 0 ds) env2
def pFor (G : TG') (B : PS') (Dp : PEnds) : List D → List SV → Prop
  | [], env => Dp.nx env
  | d :: r, env => G d env fun env1 => B { Dp with nx := pFor G B Dp r, ct := pFor G B Dp r, bk := Dp.nx } env1
def sFor (I : PI') (G : TG') (B : PS') : PS' := fun Dp env => I env fun ds env1 => pFor G B Dp ds env1
theorem s_for {S : List Nat} {tg iter : Expr} {body : List Stmt} {I : PI'} {G : TG'} {B : PS'} {pos : Pos} (hp : PassesOwn (model X.prog X.w) X.A X.env X.xe) (hc : X.calm = true) (hi : EI X tg iter I) (hg : EG X S tg G) (hb : EB X body B)
    (hs : ∀ x, foldedSetIterable iter X.env x = pure x := by intro _; rfl) : ES X (.For tg iter body [] pos) (sFor I G B) := by
  obtain ⟨wi, h1, l1⟩ := hi.ex
  obtain ⟨g, h2, l2⟩ := hg.ex
  obtain ⟨tb, h3, l3⟩ := hb.ex
  refine ⟨_, ps_for hp hc h1 h2 h3 hs, fun C σ H F env D Dp R k q => ?_⟩
  refine l1 C σ H F env _ _ R (fun J ds H1 F1 env1 s1 it q1 => ?_) q
  obtain ⟨Gd, Y, w, gd, yd⟩ := it
  have k1 := k.mono s1.ff
  refine for_it w (fun i σ H => ∃ F2 env2, Rel X.fr C σ H F2 env2 ∧ Le F1 F2 ∧ pFor G B Dp (ds.drop i) env2) ⟨F1, env1, s1.rel, Le.rfl', by simpa using q1⟩ (fun i σ H hi ⟨F2, env2, R2, l, _⟩ => gd H (l.trans' R2.frz)) (fun i x σ H H' hi ⟨F2, env2, R2, l, q2⟩ y => ?_) (fun σ H ⟨F2, env2, R2, l, q2⟩ => ?_)
  · obtain ⟨F3, d, e, s3, a3⟩ := (YOk.mono l (yd i H x H' hi (l.trans' R2.frz) y)).rel R2
    have e2 : ds.drop i = d :: ds.drop (i + 1) := by
      obtain ⟨hlt, e4⟩ := List.getElem?_eq_some_iff.mp e
      rw [List.drop_eq_getElem_cons hlt, e4]
    rw [e2] at q2
    have l3' := l.trans' s3.ff
    refine l2 C σ H' F3 env2 x d _ _ s3.rel a3 (fun σ' env' R' _ q' => ?_) q2
    refine l3 C σ' H' F3 env' _ { Dp with nx := pFor G B Dp (ds.drop (i + 1)), ct := pFor G B Dp (ds.drop (i + 1)), bk := Dp.nx } R' ⟨fun σ4 H4 F4 env4 R4 m q4 => ⟨F4, env4, R4, l3'.trans' m, q4⟩, fun σ4 H4 F4 env4 rv v R4 m r q4 => k1.rt σ4 H4 F4 env4 rv v R4 (l3'.trans' m) r q4, fun σ4 H4 F4 env4 R4 m q4 => k1.nx σ4 H4 F4 env4 R4 (l3'.trans' m) q4, fun σ4 H4 F4 env4 R4 m q4 => ⟨F4, env4, R4, l3'.trans' m, q4⟩⟩ q'
  · rw [List.drop_length] at q2
    exact k1.nx σ H F2 env2 R2 l q2
def pWh (c : PT') (B : PS') (Dp : PEnds) : Nat → List SV → Prop
  | 0, _ => False
  | n + 1, env => c env fun b env1 => if b = true then B { Dp with nx := pWh c B Dp n, ct := pWh c B Dp n, bk := Dp.nx } env1 else Dp.nx env1
def sWh (c : PT') (B : PS') : PS' := fun Dp env => ∃ n, pWh c B Dp n env
theorem s_while {c : Expr} {body : List Stmt} {T : PT'} {B : PS'} {pos : Pos} (hp : PassesOwn (model X.prog X.w) X.A X.env X.xe) (hc : ET X c T) (hb : EB X body B) : ES X (.While c body [] pos) (sWh T B) := by
  obtain ⟨t, h1, l1⟩ := hc.ex
  obtain ⟨tb, h3, l3⟩ := hb.ex
  refine ⟨_, ps_while hp h1 h3, fun C σ H F env D Dp R k q => ?_⟩
  obtain ⟨n, q⟩ := q
  refine ⟨fun m σ H => ∃ F2 env2, Rel X.fr C σ H F2 env2 ∧ Le F F2 ∧ pWh T B Dp m env2, ⟨n, F, env, R, Le.rfl', q⟩, ?_⟩
  rintro m σ2 H2 ⟨F2, env2, R2, l, q2⟩
  cases m with
  | zero => exact q2.elim
  | succ m =>
    refine l1 C σ2 H2 F2 env2 _ _ R2 (fun b H3 F3 env3 s3 q3 => ?_) q2
    have l' := l.trans' s3.ff
    cases b with
    | true =>
      rw [if_pos rfl] at q3 ⊢
      refine ⟨fun σ4 H4 => ∃ F4 env4, Rel X.fr C σ4 H4 F4 env4 ∧ Le F F4 ∧ pWh T B Dp m env4, fun σ4 H4 z => ⟨m, Nat.lt_succ_self _, z⟩, ?_⟩
      exact l3 C σ2 H3 F3 env3 _ { Dp with nx := pWh T B Dp m, ct := pWh T B Dp m, bk := Dp.nx } s3.rel ⟨fun σ4 H4 F4 env4 R4 m q4 => ⟨F4, env4, R4, l'.trans' m, q4⟩, fun σ4 H4 F4 env4 rv v R4 m r q4 => k.rt σ4 H4 F4 env4 rv v R4 (l'.trans' m) r q4, fun σ4 H4 F4 env4 R4 m q4 => k.nx σ4 H4 F4 env4 R4 (l'.trans' m) q4, fun σ4 H4 F4 env4 R4 m q4 => ⟨F4, env4, R4, l'.trans' m, q4⟩⟩ q3
    | false =>
      rw [if_neg (by decide)] at q3 ⊢
      exact k.nx σ2 H3 F3 env3 s3.rel l' q3
end
end Sw

set_option Elab.async false
set_option linter.all false
set_option maxRecDepth 100000
namespace Sw
open PySem PySem.Spec L2

section
variable {X : Cz} {K : FgX}
def LMO (K : FgK) (r : V → List V → Hp → VK → Prop) (g : List D → List D → Option (D × List D)) : Prop := ∀ (H F : Hp) (p : Addr) (xs ys : List V) (ds es ds' : List D) (d : D) (Q : VK), H p = some (.lst xs) → AtAll K F ds xs → AtAll K F es ys → g ds es = some (d, ds') →
  (∀ v xs', At K F d v → AtAll K F ds' xs' → Q v (upd H p (.lst xs'))) → r (.ref p) ys H Q
def qMO (i : Nat) (g : List D → List D → Option (D × List D)) (T : PA') : PE' := fun env Q => (∃ l ds, env[i]? = some (.own l ds)) ∧ T env fun os env1 => ∃ es env2, fzAll env1 os = some (es, env2) ∧ ∃ l ds, env2[i]? = some (.own l ds) ∧ ∃ d ds', g ds es = some (d, ds') ∧ Q (.dv d) (env2.set i (.own l ds'))
theorem q_mo (i : Nat) {id : String} {r : V → List V → Hp → VK → Prop} {g : List D → List D → Option (D × List D)} {name x : Str} {p apos cpos : Pos} {e : Expr} {es : List Expr} {T : PA'} (hl : LMO X.fr r g) (slot : Slot "list" name id) (hty : typeOf (.builtin id) = pure (.type "method_descriptor")) (hm : MtR X id r) (ha : EA X (e :: es) T)
    (hN : X.N[i]? = some x := by rfl) (hv : Vis X.env.scope x := by first | exact Or.inl rfl | exact Or.inr (Or.inl rfl) | exact Or.inr (Or.inr rfl)) (hd : (x == ("__debug__" : Str)) = false := by decide) (hcd : (x == ("__classdict__" : Str)) = false := by decide)
    (hbase : attributeBase (.Name x p) name X.env (eval (.Name x p) X.env) = eval (.Name x p) X.env := by rfl)
    (hfew : ((backTo cpos (starEach (e :: es) X.env)).all (fun x => !x.1) && (backToKw cpos (keywordEach [] X.env)).all (fun x => x.1.isSome)
      && decide ((e :: es).length + ([] : List Keyword).length + (if ([] : List Keyword).isEmpty then 0 else 1) < 30)) = true := by rfl)
    (hline : (apos.endLine == cpos.line) = true := by rfl) (hs : starEach (e :: es) X.env = (false, eval e X.env) :: starEach es X.env := by rfl) (hplain : (backTo cpos (starEach es X.env)).any (·.1) = false := by rfl) :
    EV X (.Call (.Attribute (.Name x p) name apos) (e :: es) [] cpos) (qMO i g T) := by
  obtain ⟨t, h1, l1⟩ := ha.ex
  refine ⟨_, pe_bm PySem.F.plainAttrs_list slot hty hm (pe_var hN hv hd hcd) h1 hbase hfew hline hs hplain, fun C σ H F env Q Qp R k q => ?_⟩
  obtain ⟨⟨l0, ds0, e0⟩, q⟩ := q
  obtain ⟨a, xs0, f1, f2, f3, f4, f5⟩ := R.slotL e0
  refine ⟨.ref a, f1, .inl ⟨rfl, xs0, SqL.of f2⟩, ?_⟩
  refine l1 C σ H F env _ _ R (fun vs H1 F1 env1 os s1 a1 q1 => ?_) q
  obtain ⟨es', env2, e1, l, ds, e2, d, ds', e3, q1⟩ := q1
  obtain ⟨F2, s2, a2⟩ := fzAll_ok s1.rel a1 e1
  obtain ⟨a', xs, g1, g2, g3, g4, g5⟩ := s2.rel.slotL e2
  rw [f1] at g1
  cases g1
  refine hl H1 F2 a xs vs ds es' ds' d _ g2 g5 a2 e3 fun v xs' av ax => ?_
  have s3 := s2.rel.writeL e2 f1 ax
  exact k v _ F2 _ (.dv d) ((s1.trans s2).trans s3) (OvOk.of av) q1
def qMO0 (i : Nat) (g : List D → List D → Option (D × List D)) : PE' := fun env Q => ∃ l ds, env[i]? = some (.own l ds) ∧ ∃ d ds', g ds [] = some (d, ds') ∧ Q (.dv d) (env.set i (.own l ds'))
def gAppend : List D → List D → Option (D × List D)
  | ds, [y] => if ds.length < sizeLine then some (.none, ds ++ [y]) else none
  | _, _ => none
theorem l_append : LMO K rAppend gAppend := fun H F p xs ys ds es ds' d Q hp a b e k => by
  unfold gAppend at e
  split at e
  · split at e
    · cases e
      obtain ⟨y, rfl, ay⟩ := b.one
      exact ⟨p, xs, y, rfl, rfl, hp, by rw [a.len]; assumption, k _ _ (by simp [At]) (AtAll.app a (AtAll.cons ay AtAll.nil))⟩
    · cases e
  · cases e
def gPopAt : List D → List D → Option (D × List D)
  | ds, [.int i] => if -(2 ^ 63) ≤ i ∧ i < 2 ^ 63 then (seqIndex? i ds.length).bind fun j => ds[j]?.map fun d => (d, ds.eraseIdx j) else none
  | _, _ => none
end

def wipeE (env : List SV) : List Nat → List SV
  | [] => env
  | v :: vs => (wipeE env vs).set v .un
theorem wipeE_len (env : List SV) : ∀ vs : List Nat, (wipeE env vs).length = env.length
  | [] => rfl
  | v :: vs => by unfold wipeE; rw [List.length_set, wipeE_len env vs]
theorem wipeE_oth {env : List SV} {j : Nat} : ∀ {vs : List Nat}, j ∉ vs → (wipeE env vs)[j]? = env[j]?
  | [], _ => rfl
  | v :: vs, h => by
    simp only [List.mem_cons, not_or] at h
    unfold wipeE
    rw [List.getElem?_set_ne (Ne.symm h.1)]
    exact wipeE_oth h.2
theorem wipeE_mem {env : List SV} {j : Nat} {sv : SV} : ∀ {vs : List Nat}, j ∈ vs → (wipeE env vs)[j]? = some sv → sv = .un
  | v :: vs, h, e => by
    unfold wipeE at e
    by_cases q : v = j
    · subst q
      rw [List.getElem?_set] at e
      split at e
      · split at e
        · exact (Option.some.inj e).symm
        · cases e
      · exact absurd rfl ‹_›
    · rw [List.getElem?_set_ne q] at e
      rcases List.mem_cons.mp h with z | z
      · exact absurd z.symm q
      · exact wipeE_mem z e
theorem wipe_oth {σ : L2.St} {j : Nat} : ∀ {vs : List Nat}, j ∉ vs → (wipe σ vs)[j]? = σ[j]?
  | [], _ => rfl
  | v :: vs, h => by
    simp only [List.mem_cons, not_or] at h
    unfold wipe
    rw [List.getElem?_set_ne (Ne.symm h.1)]
    exact wipe_oth h.2
theorem wipe_ext : ∀ {vs : List Nat} {σ τ : L2.St}, σ.length = τ.length → (∀ j, j ∉ vs → σ[j]? = τ[j]?) → wipe σ vs = wipe τ vs := fun {vs σ τ} hl h => by
  have key : ∀ (ws : List Nat) (j : Nat), j ∈ ws → (wipe σ ws)[j]? = (wipe τ ws)[j]? := fun ws => by
    induction ws with
    | nil => intro j hj; cases hj
    | cons v ws ih =>
      intro j hj
      unfold wipe
      by_cases e : v = j
      · subst e
        rw [List.getElem?_set, List.getElem?_set]
        simp only [if_true]
        rw [wipe_length, wipe_length, hl]
      · rw [List.getElem?_set_ne e, List.getElem?_set_ne e]
        rcases List.mem_cons.mp hj with z | z
        · exact absurd z.symm e
        · exact ih j z
  apply List.ext_getElem?
  intro j
  by_cases hj : j ∈ vs
  · exact key vs j hj
  · rw [wipe_oth hj, wipe_oth hj]
    exact h j hj
theorem wipe_wipe (σ : L2.St) (vs : List Nat) : wipe (wipe σ vs) vs = wipe σ vs := wipe_ext (wipe_length σ vs) fun j hj => wipe_oth hj
section
variable {K : FgX} {C : Ec} {σ : L2.St} {H F : Hp} {env : List SV} {vs : List Nat}
theorem own_wipe {j : Nat} {l : Bool} {ds : Ct} (h : (wipeE env vs)[j]? = some (SV.obj l ds)) : j ∉ vs ∧ env[j]? = some (SV.obj l ds) := by
  by_cases hj : j ∈ vs
  · cases wipeE_mem hj h
  · rw [wipeE_oth hj] at h
    exact ⟨hj, h⟩
theorem Rel.wipe (R : Rel K C σ H F env) (vs : List Nat) : Rel K C (wipe σ vs) H F (wipeE env vs) := by
  refine ⟨⟨R.frz, R.mono, R.new, R.frame, R.la, by rw [wipeE_len, wipe_length]; exact R.len, fun j sv e => ?_, fun j k l ds m es h1 h2 h3 => ?_⟩, R.xok⟩
  · by_cases hj : j ∈ vs
    · rw [wipeE_mem hj e]
      trivial
    · rw [wipeE_oth hj] at e
      rw [wipe_oth hj]
      exact R.slot j sv e
  · obtain ⟨n1, h1⟩ := own_wipe h1
    obtain ⟨n2, h2⟩ := own_wipe h2
    rw [wipe_oth n1, wipe_oth n2] at h3
    exact R.dist j k l ds m es h1 h2 h3
theorem Rel.unwipe (R : Rel K C (L2.wipe σ vs) H F env) (he : wipeE env vs = env) : Rel K C σ H F env := by
  have ow : ∀ (j : Nat) (l : Bool) (ds : Ct), env[j]? = some (SV.obj l ds) → j ∉ vs := fun j l ds h => by
    rw [← he] at h
    exact (own_wipe h).1
  refine ⟨⟨R.frz, R.mono, R.new, R.frame, R.la, by rw [R.len, wipe_length], fun j sv e => ?_, fun j k l ds m es h1 h2 h3 => ?_⟩, R.xok⟩
  · by_cases hj : j ∈ vs
    · rw [← he] at e
      rw [wipeE_mem hj e]
      trivial
    · have q := R.slot j sv e
      rw [wipe_oth hj] at q
      exact q
  · refine R.dist j k l ds m es h1 h2 ?_
    rw [wipe_oth (ow j l ds h1), wipe_oth (ow k m es h2)]
    exact h3
theorem Own.unwipe (he : wipeE env vs = env) {b : Addr} : Own (L2.wipe σ vs) env b ↔ Own σ env b := by
  constructor
  · rintro ⟨j, l, ds, e, s⟩
    have e' := e
    rw [← he] at e'
    rw [wipe_oth (own_wipe e').1] at s
    exact ⟨j, l, ds, e, s⟩
  · rintro ⟨j, l, ds, e, s⟩
    have e' := e
    rw [← he] at e'
    refine ⟨j, l, ds, e, ?_⟩
    rw [wipe_oth (own_wipe e').1]
    exact s
/-- a turn's steps, seen from the comprehension's start -/
theorem Stp.under {τ σ2 : L2.St} {S : List Nat} {H1 F1 H2 F2 H4 F4 : Hp} {env1 env2 env3 env4 : List SV} (hτ : L2.wipe τ vs = τ) (hS : ∀ j ∈ S, j ∈ vs) (acc : Stp K C τ H1 F1 env1 H2 F2 env2) (tg : Tgt S τ σ2 env2 env3) (st : Stp K C σ2 H2 F2 env3 H4 F4 env4) :
    L2.wipe σ2 vs = τ ∧ Stp K C τ H1 F1 env1 H4 F4 (wipeE env4 vs) := by
  have e1 : L2.wipe σ2 vs = τ := by
    rw [← hτ]
    exact wipe_ext tg.len fun j hj => (tg.oth j fun z => hj (hS j z)).1
  have o1 : ∀ b, Own σ2 env3 b → Own τ env2 b := fun b ⟨j, l, ds, e, s⟩ => by
    by_cases hj : j ∈ S
    · obtain ⟨q1, q2⟩ := tg.mem j l ds hj e
      exact ⟨j, l, ds, q1, q2 ▸ s⟩
    · obtain ⟨q1, q2⟩ := tg.oth j hj
      exact ⟨j, l, ds, q2 ▸ e, q1 ▸ s⟩
  have R4 := st.rel.wipe vs
  rw [e1] at R4
  refine ⟨e1, R4, acc.ff.trans' st.ff, fun b o h n => ?_, fun b o h => ?_, fun j l ds h => ?_, fun b h => acc.dm b (st.dm b h)⟩
  · exact st.fr b o (acc.fr b o h n) fun z => n (Own.sub acc.ow (o1 b z))
  · rcases st.fn b o h with z | z | z
    · exact acc.fn b o z
    · exact .inr (.inl (acc.dm b z))
    · exact .inr (.inr (Own.sub acc.ow (o1 b z)))
  · obtain ⟨_, h⟩ := own_wipe h
    obtain ⟨ds3, h⟩ := st.ow j l ds h
    have h2 : env2[j]? = some (SV.obj l ds3) := by
      by_cases hj : j ∈ S
      · exact (tg.mem j l ds3 hj h).1
      · exact (tg.oth j hj).2 ▸ h
    exact acc.ow j l ds3 h2
end
section
variable {X : Cz}
structure ETs (X : Cz) (ifs : List Expr) (T : PT') : Prop where
  ex : ∃ t, PTs X ifs t ∧ LT X.fr t T
def tYes' : PT' := fun env Q => Q true env
theorem ts_nil : ETs X [] tYes' := ⟨_, pts_nil, fun C σ H F env Q Qp R k q => k true H F env (Stp.refl R) q⟩
/-- the same in every block -/
abbrev Blk (X : Cz) (scope : Scope) (P : Cz → Prop) : Prop := ∀ (s : Shared) (H : Hp) (C : Addr) (cl : List (Str × Addr)) (fp : List Addr), P (of0 (X.toCx.blk s H scope (compEnvC scope cl C X.env) fp))
theorem blk_ev {scope : Scope} {e : Expr} {T : PE'} (h : Blk X scope fun Y => EV Y e T) : ∃ t, (Blk X scope fun Y => PE Y e t) ∧ LE X.fr t T := by
  refine ⟨fun σ H Q => ∀ s H0 C cl fp, (Classical.choose (h s H0 C cl fp).ex) σ H Q, fun s H0 C cl fp => ⟨fun pins s1 σ H Q I q => ?_⟩, fun C σ H F env Q Qp R k q s H0 C0 cl fp => ?_⟩
  · exact (Classical.choose_spec (h s H0 C cl fp).ex).1.run pins s1 σ H Q I (q s H0 C cl fp)
  · exact LE.up (K := X.fr) (Classical.choose_spec (h s H0 C0 cl fp).ex).2 C σ H F env Q Qp R k q
theorem blk_ts {scope : Scope} {ifs : List Expr} {T : PT'} (h : Blk X scope fun Y => ETs Y ifs T) : ∃ t, (Blk X scope fun Y => PTs Y ifs t) ∧ LT X.fr t T := by
  refine ⟨fun σ H Q => ∀ s H0 C cl fp, (Classical.choose (h s H0 C cl fp).ex) σ H Q, fun s H0 C cl fp => ⟨fun pins s1 σ H Q I q => ?_⟩, fun C σ H F env Q Qp R k q s H0 C0 cl fp => ?_⟩
  · exact (Classical.choose_spec (h s H0 C cl fp).ex).1.run pins s1 σ H Q I (q s H0 C cl fp)
  · exact LT.up (K := X.fr) (Classical.choose_spec (h s H0 C0 cl fp).ex).2 C σ H F env Q Qp R k q
theorem blk_g {scope : Scope} {S : List Nat} {e : Expr} {T : TG'} (h : Blk X scope fun Y => EG Y S e T) : ∃ t, (Blk X scope fun Y => PG Y e t) ∧ LG X.fr S t T := by
  refine ⟨fun v σ H Q => ∀ s H0 C cl fp, (Classical.choose (h s H0 C cl fp).ex) v σ H Q, fun s H0 C cl fp => ⟨fun pins s1 σ H v u Q I r q => ?_⟩, fun C σ H F env v d Q Qp R a k q s H0 C0 cl fp => ?_⟩
  · exact (Classical.choose_spec (h s H0 C cl fp).ex).1.run pins s1 σ H v u Q I r (q s H0 C cl fp)
  · exact LG.up (K := X.fr) (Classical.choose_spec (h s H0 C0 cl fp).ex).2 C σ H F env v d Q Qp R a k q
def pLc (G : TG') (TT : PT') (TE : PE') (vs : List Nat) (Q : List D → List SV → Prop) : List D → List D → List SV → Prop
  | [], acc, env => Q acc env
  | d :: r, acc, env => G d env fun env1 => TT env1 fun b env2 => if b = true then TE env2 fun o env3 => ∃ y env4, o.fz env3 = some (y, env4) ∧ pLc G TT TE vs Q r (acc ++ [y]) (wipeE env4 vs) else pLc G TT TE vs Q r acc (wipeE env2 vs)
def fLc (I : PI') (G : TG') (TT : PT') (TE : PE') (vs : List Nat) : PF' := fun env Q => I env fun ds env1 => wipeE env1 vs = env1 ∧ ds.length ≤ 16777215 ∧ pLc G TT TE vs Q ds [] env1
theorem lc_sound {wi : TI} {g : TG} {tt : TT} {te : TE} {K : FgX} {I : PI'} {S : List Nat} {G : TG'} {TT : PT'} {TE : PE'} {vs : List Nat} (l1 : LI K wi I) (l2 : LG K S g G) (l3 : LT K tt TT) (l4 : LE K te TE) (hS : ∀ j ∈ S, j ∈ vs) : LF K (tLc wi g tt te vs) (fLc I G TT TE vs) := fun C σ H F env Q Qp R k q => by
  refine l1 C σ H F env _ _ R (fun J ds H1 F1 env1 s1 it q1 => ?_) q
  obtain ⟨hw, hlen, q1⟩ := q1
  obtain ⟨Gd, Y, w, gd, yd⟩ := it
  intro Dp hD
  obtain ⟨sD, fD, h0D, noD⟩ := s1.rel.alloc0 (o := .lst []) hD
  have hτ : L2.wipe (L2.wipe σ vs) vs = L2.wipe σ vs := wipe_wipe σ vs
  have R1 : Rel K C (L2.wipe σ vs) H1 F1 env1 := by
    have := s1.rel.wipe vs
    rw [hw] at this
    exact this
  obtain ⟨sD', _, _, noD'⟩ := R1.alloc0 (o := .lst []) hD
  refine lc_it w (Pv := fun i H => ∃ F2 env2 acc accv, Stp K C (L2.wipe σ vs) H1 F1 env1 H F2 env2 ∧ H Dp = some (.lst accv) ∧ F2 Dp = none ∧ ¬ Own (L2.wipe σ vs) env2 Dp ∧ AtAll K F2 acc accv ∧ acc.length ≤ i ∧ wipeE env2 vs = env2 ∧ pLc G TT TE vs Qp (ds.drop i) acc env2)
    ⟨F1, env1, [], [], sD', upd_same, fD, noD', AtAll.nil, Nat.le_refl _, hw, by simpa using q1⟩ (fun i H hi ⟨F2, env2, acc, accv, s2, _⟩ => gd H (s2.ff.trans' s2.rel.frz)) (fun i x H H' hi ⟨F2, env2, acc, accv, s2, hDl, fD2, noD2, aa, hl, hw2, q2⟩ y => ?_) (fun H ⟨F2, env2, acc, accv, s2, hDl, fD2, noD2, aa, hl, hw2, q2⟩ => ?_)
  · obtain ⟨F3, d, e, s3, a3⟩ := (YOk.mono s2.ff (yd i H x H' hi (s2.ff.trans' s2.rel.frz) y)).rel s2.rel
    have e2 : ds.drop i = d :: ds.drop (i + 1) := by
      obtain ⟨hlt, e4⟩ := List.getElem?_eq_some_iff.mp e
      rw [List.drop_eq_getElem_cons hlt, e4]
    rw [e2] at q2
    have acc3 := s2.trans s3
    have hD3 : H' Dp = some (.lst accv) := s3.fr _ _ hDl noD2
    have fD3 : F3 Dp = none := by
      cases qq : F3 Dp with
      | none => rfl
      | some u =>
        rcases s3.fn _ _ qq with z | z | z
        · rw [fD2] at z; cases z
        · rw [hDl] at z; cases z
        · exact absurd z noD2
    refine l2 C _ H' F3 env2 x d _ _ s3.rel a3 (fun σ2 env3 R3 tg q3 => ?_) q2
    have r3 : L2.wipe σ2 vs = L2.wipe σ vs := (Stp.under hτ hS acc3 tg (Stp.refl R3)).1
    refine ⟨r3, ?_⟩
    have no3 : ¬ Own σ2 env3 Dp := fun ⟨j, l, es, e1, e2⟩ => by
      by_cases hj : j ∈ S
      · obtain ⟨f1, f2⟩ := tg.mem j l es hj e1
        exact noD2 ⟨j, l, es, f1, f2 ▸ e2⟩
      · obtain ⟨f1, f2⟩ := tg.oth j hj
        exact noD2 ⟨j, l, es, f2 ▸ e1, f1 ▸ e2⟩
    refine l3 C σ2 H' F3 env3 _ _ R3 (fun b H5 F5 env5 s5 q5 => ?_) q3
    have hD5 : H5 Dp = some (.lst accv) := s5.fr _ _ hD3 no3
    have fD5 : F5 Dp = none := by
      cases qq : F5 Dp with
      | none => rfl
      | some u =>
        rcases s5.fn _ _ qq with z | z | z
        · rw [fD3] at z; cases z
        · rw [hD3] at z; cases z
        · exact absurd z no3
    cases b with
    | true =>
      rw [if_pos rfl] at q5 ⊢
      refine l4 C σ2 H5 F5 env5 _ _ s5.rel (fun v H6 F6 env6 o s6 a6 q6 => ?_) q5
      obtain ⟨y', env7, e7, q7⟩ := q6
      obtain ⟨F7, s7, a7⟩ := fz_ok s6.rel a6 e7
      have st := (s5.trans s6).trans s7
      have no5 : ¬ Own σ2 env5 Dp := fun z => no3 (Own.sub s5.ow z)
      have hD6 : H6 Dp = some (.lst accv) := (s6.fr _ _ hD5 no5)
      have fD7 : F7 Dp = none := by
        cases qq : F7 Dp with
        | none => rfl
        | some u =>
          rcases st.fn _ _ qq with z | z | z
          · rw [fD3] at z; cases z
          · rw [hD3] at z; cases z
          · exact absurd z no3
      obtain ⟨_, u7⟩ := Stp.under hτ hS acc3 tg st
      have no7 : ¬ Own (L2.wipe σ vs) (wipeE env7 vs) Dp := fun z => noD2 (by
        have z1 := Own.sub u7.ow z
        exact absurd z1 noD')
      refine ⟨accv, hD6, ?_, F7, wipeE env7 vs, acc ++ [y'], accv ++ [v], ?_, upd_same, fD7, no7, AtAll.app (AtAll.mono ((s3.ff.trans' st.ff)) _ _ aa) (AtAll.cons a7 AtAll.nil), by rw [List.length_append]; simp only [List.length_cons, List.length_nil]; omega, ?_, q7⟩
      · rw [aa.len, sizeLine_eq]
        have := hi
        omega
      · exact u7.other hD hD6 fD7 h0D no7
      · -- wiped twice
        apply List.ext_getElem?
        intro j
        by_cases hj : j ∈ vs
        · cases z : (wipeE env7 vs)[j]? with
          | none =>
            rw [List.getElem?_eq_none_iff] at z ⊢
            rw [wipeE_len]; exact z
          | some sv =>
            have z1 := wipeE_mem hj z
            have hjl : j < (wipeE (wipeE env7 vs) vs).length := by
              rw [wipeE_len]
              exact (List.getElem?_eq_some_iff.mp z).1
            have z2 := wipeE_mem hj (List.getElem?_eq_getElem hjl)
            rw [List.getElem?_eq_getElem hjl, z2, z1]
        · rw [wipeE_oth hj]
    | false =>
      rw [if_neg (by decide)] at q5 ⊢
      obtain ⟨_, u7⟩ := Stp.under hτ hS acc3 tg s5
      have no7 : ¬ Own (L2.wipe σ vs) (wipeE env5 vs) Dp := fun z => noD' (Own.sub u7.ow z)
      refine ⟨F5, wipeE env5 vs, acc, accv, u7, hD5, fD5, no7, AtAll.mono (s3.ff.trans' s5.ff) _ _ aa, by omega, ?_, q5⟩
      apply List.ext_getElem?
      intro j
      by_cases hj : j ∈ vs
      · cases z : (wipeE env5 vs)[j]? with
        | none =>
          rw [List.getElem?_eq_none_iff] at z ⊢
          rw [wipeE_len]; exact z
        | some sv =>
          have z1 := wipeE_mem hj z
          have hjl : j < (wipeE (wipeE env5 vs) vs).length := by
            rw [wipeE_len]
            exact (List.getElem?_eq_some_iff.mp z).1
          have z2 := wipeE_mem hj (List.getElem?_eq_getElem hjl)
          rw [List.getElem?_eq_getElem hjl, z2, z1]
      · rw [wipeE_oth hj]
  · rw [List.drop_length] at q2
    have q2 : Qp acc env2 := q2
    have R2 := s2.rel.unwipe hw2
    have st : Stp K C σ H1 F1 env1 H F2 env2 := ⟨R2, s2.ff, fun b o h n => s2.fr b o h fun z => n ((Own.unwipe hw).mp z), fun b o h => by
      rcases s2.fn b o h with z | z | z
      · exact .inl z
      · exact .inr (.inl z)
      · exact .inr (.inr ((Own.unwipe hw).mp z)), s2.ow, s2.dm⟩
    exact k Dp accv acc H F2 env2 (s1.trans st) hDl fD2 h0D (fun z => noD2 ((Own.unwipe hw2).mpr z)) (s1.dm _ hD) aa q2
theorem f_lc {elt tg iter : Expr} {ifs : List Expr} {scope : Scope} {own : List (Str × Nat)} {pos : Pos} {I : PI'} {S : List Nat} {G : TG'} {TT : PT'} {TE : PE'} (hc : X.calm = true) (hN : X.N.Nodup) (ok : BlkOk X.N X.env.scope scope own) (hi : EI X tg iter I) (hg : Blk X scope fun Y => EG Y S tg G) (ht : Blk X scope fun Y => ETs Y ifs TT) (he : Blk X scope fun Y => EV Y elt TE)
    (hS : ∀ j ∈ S, j ∈ own.map (·.2) := by decide) (hs : ∀ x, foldedSetIterable iter X.env x = pure x := by intro _; rfl) : EF X (.ListComp elt [⟨tg, iter, ifs, 0⟩] scope pos) (fLc I G TT TE (own.map (·.2))) := by
  obtain ⟨wi, h1, l1⟩ := hi.ex
  obtain ⟨g, h2, l2⟩ := blk_g hg
  obtain ⟨tt, h3, l3⟩ := blk_ts ht
  obtain ⟨te, h4, l4⟩ := blk_ev he
  exact ⟨_, pe_lc hc hN h1 ok h2 h3 h4 hs, lc_sound l1 l2 l3 l4 hS⟩
end
end Sw

set_option Elab.async false
set_option linter.all false
set_option maxRecDepth 100000
namespace Sw
open PySem PySem.Spec L2

def LentE (l : Bool) (env : List SV) (fl : Option (List D)) : Prop := if l = true then ∃ ds, env[0]? = some (SV.own true ds) ∧ fl = some ds else fl = none
/-- the slots at a def's entry -/
def startE (l : Bool) (N : List Str) (fl : Option (List D)) (ds : List D) : List SV :=
  (match l, fl with | true, some fd => [SV.own true fd] | _, _ => []) ++ ds.map SV.dat ++ List.replicate (N.length - (ds.length + if l = true then 1 else 0)) SV.un
/-- what a def's body is to reach -/
def endsOf (l : Bool) (Q : RV → Option (List D) → Prop) : PEnds := { nx := fun env => ∃ fl, LentE l env fl ∧ Q (.dt .none) fl, rt := fun rv env => ∃ fl, LentE l env fl ∧ Q rv fl }
section
variable {P : Program} {w : World} {K : PySem.W.Frag} {mg : Str → Option Value} {base : Heap}
theorem start_rel {K : FgK} {H F : Hp} {N : List Str} {l : Bool} {vs ws : List V} {la : Option Addr} {fl : Option (List D)} {ds : List D} (hF : Le F H) (ha : AtAll K F ds ws)
    (hl : if l = true then ∃ a xs fd, vs = .ref a :: ws ∧ la = some a ∧ H a = some (.lst xs) ∧ F a = none ∧ fl = some fd ∧ AtAll K F fd xs else vs = ws ∧ la = none ∧ fl = none) (hn : vs.length ≤ N.length) : RelB K ⟨H, F, la⟩ (start N vs) H F (startE l N fl ds) := by
  cases l with
  | false =>
    obtain ⟨rfl, rfl, rfl⟩ := hl
    have e1 : start N vs = vs.map some ++ List.replicate (N.length - vs.length) none := rfl
    have e2 : startE false N none ds = ds.map SV.dat ++ List.replicate (N.length - ds.length) SV.un := by simp [startE]
    have noown : ∀ (i : Nat) (m : Bool) (es : Ct), (startE false N none ds)[i]? ≠ some (SV.obj m es) := fun i m es h => by
      rw [e2] at h
      have := List.mem_of_getElem? h
      rw [List.mem_append] at this
      rcases this with q | q
      · obtain ⟨d, _, e⟩ := List.mem_map.mp q
        cases e
      · have := List.eq_of_mem_replicate q
        cases this
    refine ⟨hF, Le.rfl', fun b o h => .inl h, fun b o h _ => h, fun a h => (by cases h), ?_, fun i sv e => ?_, fun i j m ds' n es h1 => absurd h1 (noown i m ds')⟩
    · rw [e1, e2]
      simp [ha.len]
    · rw [e2] at e
      by_cases hi : i < ds.length
      · rw [List.getElem?_append_left (by rw [List.length_map]; exact hi), List.getElem?_map] at e
        rw [List.getElem?_eq_getElem hi] at e
        cases e
        obtain ⟨v, e3, a3⟩ := ha.get (List.getElem?_eq_getElem hi)
        refine ⟨v, ?_, a3⟩
        rw [e1, List.getElem?_append_left (by rw [List.length_map, ha.len]; exact hi), List.getElem?_map, e3]
        rfl
      · rw [List.getElem?_append_right (by rw [List.length_map]; omega)] at e
        have := List.eq_of_mem_replicate (List.mem_of_getElem? e)
        subst this
        trivial
  | true =>
    obtain ⟨a, xs, fd, rfl, rfl, h1, h2, rfl, h3⟩ := hl
    have e1 : start N (.ref a :: ws) = some (.ref a) :: (ws.map some ++ List.replicate (N.length - (ws.length + 1)) none) := rfl
    have e2 : startE true N (some fd) ds = SV.own true fd :: (ds.map SV.dat ++ List.replicate (N.length - (ds.length + 1)) SV.un) := by simp [startE]
    have own0 : ∀ (i : Nat) (m : Bool) (es : Ct), (startE true N (some fd) ds)[i]? = some (SV.obj m es) → i = 0 := fun i m es h => by
      rw [e2] at h
      cases i with
      | zero => rfl
      | succ i =>
        rw [List.getElem?_cons_succ] at h
        have := List.mem_of_getElem? h
        rw [List.mem_append] at this
        rcases this with q | q
        · obtain ⟨d, _, e⟩ := List.mem_map.mp q
          cases e
        · have := List.eq_of_mem_replicate q
          cases this
    refine ⟨hF, Le.rfl', fun b o h => .inl h, fun b o h _ => h, fun b h => ?_, ?_, fun i sv e => ?_, fun i j m ds' n es g1 g2 _ => by rw [own0 i m ds' g1, own0 j n es g2]⟩
    · cases h
      exact ⟨⟨⟨.lst xs, trivial⟩, h1⟩, h2, _, h1⟩
    · rw [e1, e2]
      simp [ha.len]
    · rw [e2] at e
      rw [e1]
      cases i with
      | zero =>
        cases e
        exact ⟨a, _, rfl, h1, h2, rfl, xs, rfl, h3⟩
      | succ i =>
        rw [List.getElem?_cons_succ] at e ⊢
        by_cases hi : i < ds.length
        · rw [List.getElem?_append_left (by rw [List.length_map]; exact hi), List.getElem?_map] at e
          rw [List.getElem?_eq_getElem hi] at e
          cases e
          obtain ⟨v, e3, a3⟩ := ha.get (List.getElem?_eq_getElem hi)
          refine ⟨v, ?_, a3⟩
          rw [List.getElem?_append_left (by rw [List.length_map, ha.len]; exact hi), List.getElem?_map, e3]
          rfl
        · rw [List.getElem?_append_right (by rw [List.length_map]; omega)] at e
          have := List.eq_of_mem_replicate (List.mem_of_getElem? e)
          subst this
          trivial
theorem ends_ok {K : FgX} {H F : Hp} {la : Option Addr} {l : Bool} {Q : VK} {Qp : RV → Option (List D) → Prop} (hl : l = true ↔ la ≠ none) (k : ∀ v H' F' rv fl', Post K la H F rv fl' v H' F' → Qp rv fl' → Q v H') :
    EndsOk K ⟨H, F, la⟩ F { nx := fun _ H' => Q .non H', rt := Q } (endsOf l Qp) := by
  have main : ∀ σ' H' F' env' rv v, Rel K ⟨H, F, la⟩ σ' H' F' env' → RvOk K ⟨H, F, la⟩ H' F' rv v → (∃ fl, LentE l env' fl ∧ Qp rv fl) → Q v H' := fun σ' H' F' env' rv v R a ⟨fl, e, q⟩ => by
    refine k v H' F' rv fl ⟨R.frz, R.mono, R.new, R.frame, fun b hb => ?_, a⟩ q
    have hb : la = some b := hb
    have : l = true := hl.mpr (by rw [hb]; exact fun z => nomatch z)
    subst this
    obtain ⟨ds, e1, rfl⟩ := e
    obtain ⟨p, xs, f1, f2, f3, f4, f5⟩ := R.slotL e1
    rw [if_pos rfl] at f4
    have f4 : la = some p := f4
    rw [hb] at f4
    cases f4
    exact ⟨xs, ds, f2, f3, rfl, f5⟩
  exact ⟨fun σ' H' F' env' R _ q => main σ' H' F' env' (.dt .none) .non R (by simp [RvOk, At]) q, fun σ' H' F' env' rv v R _ a q => main σ' H' F' env' rv v R a q, fun _ _ _ _ _ _ h => h.elim, fun _ _ _ _ _ _ h => h.elim⟩
end
section
variable {X : Cz}
theorem Post.stpL {K : FgX} {C : Ec} {σ : L2.St} {H F : Hp} {env : List SV} {i : Nat} {l : Bool} {ds ds' : List D} {a : Addr} {rv : RV} {v : V} {H' F' : Hp} (R : Rel K C σ H F env) (he : env[i]? = some (.own l ds)) (hs : σ[i]? = some (some (.ref a))) (p : Post K (some a) H F rv (some ds') v H' F') :
    Stp K C σ H F env H' F' (env.set i (.own l ds')) := by
  obtain ⟨a', xs0, g1, g2, g3, g4, g5⟩ := R.slotL he
  rw [hs] at g1
  cases g1
  obtain ⟨xs', ds2, k1, k2, k3, k4⟩ := p.lent a rfl
  cases k3
  have hi : i < env.length := (List.getElem?_eq_some_iff.mp he).1
  have no : ∀ b o, H b = some o → F b = none → F' b = none := fun b o h f => by
    cases q : F' b with
    | none => rfl
    | some u =>
      rcases p.new b u q with z | z
      · rw [f] at z; cases z
      · rw [h] at z; cases z
  have oth : ∀ (j : Nat) (m : Bool) (es : Ct), (env.set i (.own l ds'))[j]? = some (SV.obj m es) → ∃ es', env[j]? = some (SV.obj m es') := fun j m es h => by
    by_cases e : j = i
    · subst e; rw [List.getElem?_set_self hi] at h; cases h; exact ⟨.lst ds, he⟩
    · rw [List.getElem?_set_ne (Ne.symm e)] at h; exact ⟨es, h⟩
  have la' : ∀ b, b ≠ a → (some a : Option Addr) ≠ some b := fun b h z => h (Option.some.inj z).symm
  refine ⟨⟨⟨p.frz, R.mono.trans' p.mono, fun b o h => ?_, fun b o h n => ?_, fun b h => ?_, by rw [List.length_set]; exact R.len, fun j sv e => ?_, fun j k m es n fs h1 h2 h3 => ?_⟩, R.xok⟩, p.mono, fun b o h n => ?_, fun b o h => ?_, oth, fun b h => ?_⟩
  · rcases p.new b o h with z | z
    · exact R.new b o z
    · cases q : C.H0 b with
      | none => exact .inr rfl
      | some u =>
        by_cases hl : C.la = some b
        · obtain ⟨⟨xs, e⟩, _⟩ := R.la b hl
          rw [e] at z; cases z
        · rw [R.frame b u q hl] at z; cases z
  · have q := R.frame b o h n
    refine p.frame b o q (la' b ?_)
    rintro rfl
    cases l with
    | true => exact n (by simpa using g4)
    | false => rw [if_neg (by decide)] at g4; rw [g4] at h; cases h
  · obtain ⟨⟨xs, e⟩, f, g⟩ := R.la b h
    by_cases hb : b = a
    · subst hb
      exact ⟨⟨⟨.lst xs', trivial⟩, k1⟩, k2, g⟩
    · exact ⟨⟨xs, p.frame b _ e (la' b hb)⟩, no b _ e f, g⟩
  · by_cases e' : j = i
    · subst e'
      rw [List.getElem?_set_self hi] at e
      cases e
      exact ⟨a, _, hs, k1, k2, g4, xs', rfl, k4⟩
    · rw [List.getElem?_set_ne (Ne.symm e')] at e
      have q := R.slot j sv e
      cases sv with
      | un => trivial
      | raw z => exact q
      | dat d =>
        obtain ⟨v, e1, a⟩ := q
        exact ⟨v, e1, At.mono p.mono _ _ a⟩
      | obj m es =>
        obtain ⟨r, xs, e1, e2, e3, e4, e5⟩ := q
        have ne : r ≠ a := by
          rintro rfl
          exact e' (R.dist j i m es l (.lst ds) e he (e1.trans hs.symm))
        exact ⟨r, xs, e1, p.frame r _ e2 (la' r ne), no r _ e2 e3, e4, e5.mono p.mono⟩
  · obtain ⟨es', h1⟩ := oth j m es h1
    obtain ⟨fs', h2⟩ := oth k n fs h2
    exact R.dist j k m es' n fs' h1 h2 h3
  · refine p.frame b o h (la' b ?_)
    rintro rfl
    exact n ⟨i, l, .lst ds, he, hs⟩
  · rcases p.new b o h with z | z
    · exact .inl z
    · exact .inr (.inl z)
  · by_cases hb : b = a
    · subst hb
      rw [k1] at h; cases h
    · cases q : H b with
      | none => rfl
      | some u =>
        rw [p.frame b u q (la' b hb)] at h; cases h
variable {k : Nat} {f : Addr} {fd : FuncData} {ps : List Str} {sp : PSp} {x : Str} {e : Expr} {es : List Expr} {T : PA'} {p pos : Pos}
theorem consts_nil : constsOk [] [] := fun _ _ => AtAll.nil
theorem q_call {dvs : List V} {dds : List D} {ds : List Value} (F : FnOk X.prog X.w X.fr X.mg X.base CX0 k f fd ps (spOf X.fr false sp)) (hr : Room k X.A) (hg : Gl X x) (hm : X.mg x = some (.ref f)) (hk : PySem.W.keepIn X.fr (.ref f) = true) (hb : Binds X.fr fd ps ds) (hd : Vals dvs ds) (hdd : constsOk dvs dds)
    (ha : EA X (e :: es) T) (hdb : (x == ("__debug__" : Str)) = false := by decide) (he : starEach (e :: es) X.env = (false, eval e X.env) :: starEach es X.env := by rfl) (hpl : (backTo pos (starEach es X.env)).any (·.1) = false := by rfl) :
    EV X (.Call (.Name x p) (e :: es) [] pos) (qCall sp (qAddD T dds)) := by
  obtain ⟨t, h1, l1⟩ := ha.ex
  exact ⟨_, pe_call F hr hg hm hk hb hd pass0 h1 hdb he hpl, LE.call hdd l1⟩
theorem f_call {dvs : List V} {dds : List D} {ds : List Value} (F : FnOk X.prog X.w X.fr X.mg X.base CX0 k f fd ps (spOf X.fr false sp)) (hr : Room k X.A) (hg : Gl X x) (hm : X.mg x = some (.ref f)) (hk : PySem.W.keepIn X.fr (.ref f) = true) (hb : Binds X.fr fd ps ds) (hd : Vals dvs ds) (hdd : constsOk dvs dds)
    (ha : EA X (e :: es) T) (hdb : (x == ("__debug__" : Str)) = false := by decide) (he : starEach (e :: es) X.env = (false, eval e X.env) :: starEach es X.env := by rfl) (hpl : (backTo pos (starEach es X.env)).any (·.1) = false := by rfl) :
    EF X (.Call (.Name x p) (e :: es) [] pos) (fCall sp (qAddD T dds)) := by
  obtain ⟨t, h1, l1⟩ := ha.ex
  exact ⟨_, pe_call F hr hg hm hk hb hd pass0 h1 hdb he hpl, LF.call hdd l1⟩
/-- f(a slot's list, lent; ..) -/
def qCallL (sp : PSp) (i : Nat) (T : PA') : PE' := fun env Q => (∃ l0 ds0, env[i]? = some (.own l0 ds0)) ∧ T env fun os env1 => ∃ ds env2, fzAll env1 os = some (ds, env2) ∧ ∃ l fd, env2[i]? = some (.own l fd) ∧ sp (some fd) ds fun rv fl => ∃ fd', fl = some fd' ∧ Q (.dv rv.toD) (env2.set i (.own l fd'))
def fCallL (sp : PSp) (i : Nat) (T : PA') : PF' := fun env Q => (∃ l0 ds0, env[i]? = some (.own l0 ds0)) ∧ T env fun os env1 => ∃ ds env2, fzAll env1 os = some (ds, env2) ∧ ∃ l fd, env2[i]? = some (.own l fd) ∧ sp (some fd) ds fun rv fl => ∃ fd' es, fl = some fd' ∧ rv = .fr es ∧ Q es (env2.set i (.own l fd'))
theorem LE.callL {t : TA} {dvs : List V} {dds : List D} {E : XK} (i : Nat) (hd : constsOk dvs dds) (l1 : LA X.fr t T) : LE X.fr (tCall (spOf X.fr true sp) dvs E (tCons (tVar i) t)) (qCallL sp i (qAddD T dds)) := fun C σ H F env Q Qp R kk q => by
  obtain ⟨⟨l0, ds0, e0⟩, q⟩ := q
  obtain ⟨a, xs0, f1, f2, f3, f4, f5⟩ := R.slotL e0
  refine ⟨.ref a, f1, ?_⟩
  refine l1 C σ H F env _ _ R (fun vs H1 F1 env1 os s1 a1 q1 => ?_) q
  obtain ⟨ds, env2, e1, l, fd, e2, q1⟩ := q1
  obtain ⟨F2, s2, a2⟩ := fzAll_ok s1.rel (a1.app (hd X.fr F1)) e1
  obtain ⟨a', xs, g1, g2, g3, g4, g5⟩ := s2.rel.slotL e2
  rw [f1] at g1
  cases g1
  refine ⟨F2, some a, some fd, ds, vs ++ dvs, s2.rel.frz, a2, by rw [if_pos rfl]; exact ⟨a, xs, fd, rfl, rfl, g2, g3, rfl, g5⟩, _, q1, fun v H' F' rv fl' pp qq => ?_⟩
  obtain ⟨fd', rfl, qq⟩ := qq
  have s3 := pp.stpL s2.rel e2 f1
  obtain ⟨F3, s4, a4⟩ := known_of s2.rel s3 pp.res
  exact kk v H' F3 _ (.dv rv.toD) ((s1.trans s2).trans s4) a4 qq
theorem LF.callL {t : TA} {dvs : List V} {dds : List D} {E : XK} (i : Nat) (hd : constsOk dvs dds) (l1 : LA X.fr t T) : LF X.fr (tCall (spOf X.fr true sp) dvs E (tCons (tVar i) t)) (fCallL sp i (qAddD T dds)) := fun C σ H F env Q Qp R kk q => by
  obtain ⟨⟨l0, ds0, e0⟩, q⟩ := q
  obtain ⟨a, xs0, f1, f2, f3, f4, f5⟩ := R.slotL e0
  refine ⟨.ref a, f1, ?_⟩
  refine l1 C σ H F env _ _ R (fun vs H1 F1 env1 os s1 a1 q1 => ?_) q
  obtain ⟨ds, env2, e1, l, fd, e2, q1⟩ := q1
  obtain ⟨F2, s2, a2⟩ := fzAll_ok s1.rel (a1.app (hd X.fr F1)) e1
  obtain ⟨a', xs, g1, g2, g3, g4, g5⟩ := s2.rel.slotL e2
  rw [f1] at g1
  cases g1
  refine ⟨F2, some a, some fd, ds, vs ++ dvs, s2.rel.frz, a2, by rw [if_pos rfl]; exact ⟨a, xs, fd, rfl, rfl, g2, g3, rfl, g5⟩, _, q1, fun v H' F' rv fl' pp qq => ?_⟩
  obtain ⟨fd', es', rfl, rfl, qq⟩ := qq
  have s3 := pp.stpL s2.rel e2 f1
  obtain ⟨r, ys, rfl, h1, h2, h3, h4⟩ := pp.res
  have h3 : H1 r = none := h3
  obtain ⟨h0, no⟩ := fresh_of s2.rel s3 h3
  exact kk r ys es' H' F' _ ((s1.trans s2).trans s3) h1 h2 h0 no (s1.dm r (s2.dm r h3)) h4 qq
theorem q_callL (i : Nat) {y : Str} {py : Pos} {dvs : List V} {dds : List D} {ds : List Value} (F : FnOk X.prog X.w X.fr X.mg X.base CX0 k f fd ps (spOf X.fr true sp)) (hr : Room k X.A) (hg : Gl X x) (hm : X.mg x = some (.ref f)) (hk : PySem.W.keepIn X.fr (.ref f) = true) (hb : Binds X.fr fd ps ds) (hd : Vals dvs ds) (hdd : constsOk dvs dds)
    (ha : EA X es T) (hN : X.N[i]? = some y := by rfl) (hv : Vis X.env.scope y := by first | exact Or.inl rfl | exact Or.inr (Or.inl rfl) | exact Or.inr (Or.inr rfl)) (hd1 : (y == ("__debug__" : Str)) = false := by decide) (hcd : (y == ("__classdict__" : Str)) = false := by decide)
    (hdb : (x == ("__debug__" : Str)) = false := by decide) (he : starEach (.Name y py :: es) X.env = (false, eval (.Name y py) X.env) :: starEach es X.env := by rfl) (hpl : (backTo pos (starEach es X.env)).any (·.1) = false := by rfl) :
    EV X (.Call (.Name x p) (.Name y py :: es) [] pos) (qCallL sp i (qAddD T dds)) := by
  obtain ⟨t, h1, l1⟩ := ha.ex
  exact ⟨_, pe_call F hr hg hm hk hb hd pass0 (pa_cons (pe_var hN hv hd1 hcd) h1 he) hdb he hpl, LE.callL i hdd l1⟩
end
end Sw

set_option Elab.async false
set_option linter.all false
set_option maxRecDepth 100000
namespace Sw
open PySem PySem.Spec L2

section
variable {P : Program} {w : World} {K : PySem.W.Frag} {mg : Str → Option Value} {base : Heap}
/-- THE RULE of a def -/
theorem defD_ok {x qual : Str} {params : Arguments} {body : List Stmt} {scope : Scope} {dvs : List V} {kws : List (Str × V)} {f : Addr} {fd : FuncData} {N ps : List Str} {k : Nat} {sp : PSp} (l : Bool) (F : FunD K x qual params body scope dvs kws f fd) (S : FnScope N ps scope) (len : ∀ fl ds Q, sp fl ds Q → ds.length + (if l = true then 1 else 0) = ps.length)
    (hn : ps.length ≤ N.length) (hbody : ∀ (cdv : Value) (A : Around) (outer : List Env) (s : Shared) (H : Hp) (E : XK), Room k (A.deeper (PyProof.Rows.envOfC qual scope s.heap.objs.size f cdv)) →
      ∃ T, EB (of0 (cxOf CX0 P w K mg base N qual scope f cdv A outer s H E).nox) body T ∧ ∀ fl ds Q, (l = true ↔ fl ≠ none) → sp fl ds Q → T (endsOf l Q) (startE l N fl ds)) : FnOk P w K mg base CX0 (k + 1) f fd ps (spOf ⟨K, P, w⟩ l sp) := by
  have lens : ∀ vs H Q E, spOf ⟨K, P, w⟩ l sp vs H Q E → vs.length = ps.length := fun vs H Q E h => by
    obtain ⟨F, la, fl, ds, ws, hF, ha, hl, Qp, hp, k⟩ := h
    have := len fl ds Qp hp
    cases l with
    | false =>
      obtain ⟨rfl, _, _⟩ := hl
      rw [ha.len]
      simpa using this
    | true =>
      obtain ⟨a, xs, fd, rfl, _⟩ := hl
      rw [List.length_cons, ha.len]
      simpa using this
  refine F.ok S lens (fun cdv A outer s H vs Q E hr h => ?_)
  have hlen := lens vs H Q E h
  obtain ⟨F0, la, fl, ds, ws, hF, ha, hl, Qp, hp, k⟩ := h
  obtain ⟨T, hb, ht⟩ := hbody cdv A outer s H E hr
  obtain ⟨t, h1, l1⟩ := hb.ex
  refine ⟨t, h1.nox, ?_⟩
  have hll : (l = true ↔ la ≠ none) ∧ (l = true ↔ fl ≠ none) := by
    cases l with
    | false =>
      obtain ⟨_, rfl, rfl⟩ := hl
      simp
    | true =>
      obtain ⟨a, xs, fd, _, rfl, _, _, rfl, _⟩ := hl
      simp
  exact l1 ⟨H, F0, la⟩ (start N vs) H F0 (startE l N fl ds) _ (endsOf l Qp) ⟨start_rel hF ha hl (by omega), xok_no rfl⟩ (ends_ok hll.1 k) (ht fl ds Qp hll.2 hp)
theorem Cal.imp {k : Nat} {x : Str} {l : Bool} {ps : List Str} {dds : List D} {sp sp' : PSp} (c : Cal P w K mg base k x l ps dds sp) (h : ∀ fl ds Q, sp' fl ds Q → sp fl ds Q) : Cal P w K mg base k x l ps dds sp' := by
  obtain ⟨f, fd, dvs, ds, h1, h2⟩ := c.ex
  refine ⟨f, fd, dvs, ds, h1.imp fun vs H Q E q => ?_, h2⟩
  obtain ⟨F, la, fl, ds, ws, hF, ha, hl, Qp, hp, k⟩ := q
  exact ⟨F, la, fl, ds, ws, hF, ha, hl, Qp, h _ _ _ hp, k⟩
end
section
variable {X : Cz} {k j : Nat} {ps : List Str} {sp : PSp} {x : Str} {e : Expr} {es : List Expr} {T : PA'} {p pos : Pos} {dds : List D}
theorem q_cal (c : Cal X.prog X.w X.K X.mg X.base k x false ps dds sp) (hr : Room j X.A) (hkj : k ≤ j) (hg : Gl X x) (ha : EA X (e :: es) T) (hdb : (x == ("__debug__" : Str)) = false := by decide) (he : starEach (e :: es) X.env = (false, eval e X.env) :: starEach es X.env := by rfl) (hpl : (backTo pos (starEach es X.env)).any (·.1) = false := by rfl) :
    EV X (.Call (.Name x p) (e :: es) [] pos) (qCall sp (qAddD T dds)) := by
  obtain ⟨f, fd, dvs, ds, h1, h2, h3, h4, h5, h6⟩ := c.ex
  exact q_call h1 (hr.mono hkj) hg h2 h3 h4 h5 h6 ha hdb he hpl
theorem f_cal (c : Cal X.prog X.w X.K X.mg X.base k x false ps dds sp) (hr : Room j X.A) (hkj : k ≤ j) (hg : Gl X x) (ha : EA X (e :: es) T) (hdb : (x == ("__debug__" : Str)) = false := by decide) (he : starEach (e :: es) X.env = (false, eval e X.env) :: starEach es X.env := by rfl) (hpl : (backTo pos (starEach es X.env)).any (·.1) = false := by rfl) :
    EF X (.Call (.Name x p) (e :: es) [] pos) (fCall sp (qAddD T dds)) := by
  obtain ⟨f, fd, dvs, ds, h1, h2, h3, h4, h5, h6⟩ := c.ex
  exact f_call h1 (hr.mono hkj) hg h2 h3 h4 h5 h6 ha hdb he hpl
theorem q_calL (i : Nat) {y : Str} {py : Pos} (c : Cal X.prog X.w X.K X.mg X.base k x true ps dds sp) (hr : Room j X.A) (hkj : k ≤ j) (hg : Gl X x) (ha : EA X es T) (hN : X.N[i]? = some y := by rfl) (hv : Vis X.env.scope y := by first | exact Or.inl rfl | exact Or.inr (Or.inl rfl) | exact Or.inr (Or.inr rfl)) (hd1 : (y == ("__debug__" : Str)) = false := by decide) (hcd : (y == ("__classdict__" : Str)) = false := by decide)
    (hdb : (x == ("__debug__" : Str)) = false := by decide) (he : starEach (.Name y py :: es) X.env = (false, eval (.Name y py) X.env) :: starEach es X.env := by rfl) (hpl : (backTo pos (starEach es X.env)).any (·.1) = false := by rfl) :
    EV X (.Call (.Name x p) (.Name y py :: es) [] pos) (qCallL sp i (qAddD T dds)) := by
  obtain ⟨f, fd, dvs, ds, h1, h2, h3, h4, h5, h6⟩ := c.ex
  exact q_callL i h1 (hr.mono hkj) hg h2 h3 h4 h5 h6 ha hN hv hd1 hcd hdb he hpl
end
section
variable {X : Cz} {K : FgX}
abbrev rMulA : R2 := fun x y H Q => rI CMul (fun i j => .int (i * j)) x y H Q ∨ (fun x y H Q => ∃ a n, x = V.str a ∧ y = V.int n ∧ n ≤ 1000 ∧ -1000 ≤ n ∧ a.length ≤ 1000 ∧ Q (.str (Txt.mul a n)) H) x y H Q
theorem op_mulA : OpR X (binaryOp .Mult) rMulA := op_mul.or op_mul_str
theorem l_mul : LO2 K rMulA gMul := fun C σ H F env x y dx dy d Q R a b e k => by
  unfold gMul at e
  split at e
  · split at e
    · cases e
      rw [a.int, b.int]
      exact .inl ⟨_, _, rfl, rfl, ‹_›, k _ H F (Stp.refl R) (by simp [At])⟩
    · cases e
  · split at e
    · rename_i h
      cases e
      rw [a.str, b.int]
      exact .inr ⟨_, _, rfl, rfl, h.1, h.2.1, h.2.2, k _ H F (Stp.refl R) (by simp [At])⟩
    · cases e
  · cases e
def fOp (g : D → D → Option (List D)) (A B : PE') : PF' := fun env Q => A env fun o1 env1 => B env1 fun o2 env2 => ∃ d1, o1.rd env2 = some d1 ∧ ∃ d2, o2.rd env2 = some d2 ∧ ∃ ds, g d1 d2 = some ds ∧ Q ds env2
def gCatF : D → D → Option (List D)
  | .list a, .list b => if a.length + b.length ≤ sizeLine then some (a ++ b) else none
  | _, _ => none
theorem f_add {a b : Expr} {A B : PE'} {pos : Pos} (ha : EV X a A) (hb : EV X b B) : EF X (.BinOp a .Add b pos) (fOp gCatF A B) := by
  obtain ⟨ta, h1, l1⟩ := ha.ex
  obtain ⟨tb, h2, l2⟩ := hb.ex
  refine ⟨_, pe_op op_cat h1 h2, fun C σ H F env Q Qp R k q => ?_⟩
  refine l1 C σ H F env _ _ R (fun v1 H1 F1 env1 o1 s1 a1 q1 => ?_) q
  refine l2 C σ H1 F1 env1 _ _ s1.rel (fun v2 H2 F2 env2 o2 s2 a2 q2 => ?_) q1
  obtain ⟨d1, e1, d2, e2, ds, e, q2⟩ := q2
  have w1 := rd_vw s2.rel (a1.mono s2.ff) e1
  have w2 := rd_vw s2.rel a2 e2
  unfold gCatF at e
  split at e
  · split at e
    · cases e
      obtain ⟨p, xs, rfl, f1, b1⟩ := w1
      obtain ⟨q, ys, rfl, f2, b2⟩ := w2
      refine ⟨p, q, xs, ys, rfl, rfl, f1, f2, by rw [b1.len, b2.len]; assumption, fun r hr => ?_⟩
      obtain ⟨s, f, h, n⟩ := s2.rel.alloc0 (o := .lst (xs ++ ys)) hr
      exact k r _ _ _ F2 env2 ((s1.trans s2).trans s) upd_same f h n (s1.dm r (s2.dm r hr)) (AtAll.app b1 b2) q2
    · cases e
  · cases e
end
abbrev Bts : List Str := ["len", "isinstance", "str", "int", "bool", "list", "tuple", "dict", "range", "all", "any", "sorted", "set", "min", "max", "ord", "enumerate", "sum", "abs", "reversed", "zip"]
abbrev Bt (mg : Str → Option Value) : Prop := ∀ x ∈ Bts, mg x = none
end Sw

set_option Elab.async false
set_option linter.all false
set_option maxRecDepth 100000
namespace Sw
open PySem PySem.Spec L2
theorem cut_seq {A B : PS'} {Dp : PEnds} {env : List SV} (I : List SV → Prop) (hB : ∀ env', I env' → B Dp env') (hA : ∀ nx : List SV → Prop, (∀ env', I env' → nx env') → A { Dp with nx := nx } env) : sSeq A B Dp env := hA _ hB
theorem ex_some {α : Type} {a : α} {P : α → Prop} : (∃ b, some a = some b ∧ P b) ↔ P a := ⟨fun ⟨b, e, h⟩ => by cases e; exact h, fun h => ⟨a, rfl, h⟩⟩
theorem ex_fz {a : D} {env : List SV} {P : D → List SV → Prop} : (∃ d env2, some (a, env) = some (d, env2) ∧ P d env2) ↔ P a env := ⟨fun ⟨d, e2, e, h⟩ => by cases e; exact h, fun h => ⟨a, env, rfl, h⟩⟩
theorem ex_fzs {a : List D} {env : List SV} {P : List D → List SV → Prop} : (∃ d env2, some (a, env) = some (d, env2) ∧ P d env2) ↔ P a env := ⟨fun ⟨d, e2, e, h⟩ => by cases e; exact h, fun h => ⟨a, env, rfl, h⟩⟩
theorem ex_own {l : Bool} {ds : List D} {P : Bool → List D → Prop} : (∃ l' ds', some (SV.own l ds) = some (SV.own l' ds') ∧ P l' ds') ↔ P l ds := ⟨fun ⟨d, e2, e, h⟩ => by cases e; exact h, fun h => ⟨_, _, rfl, h⟩⟩
theorem ex_own0 {l : Bool} {ds : List D} : (∃ l' ds', some (SV.own l ds) = some (SV.own l' ds')) ↔ True := ⟨fun _ => trivial, fun _ => ⟨_, _, rfl⟩⟩
theorem ex_ownF {ds : List D} {P : List D → Prop} : (∃ ds', some (SV.own false ds) = some (SV.own false ds') ∧ P ds') ↔ P ds := ⟨fun ⟨d, e, h⟩ => by cases e; exact h, fun h => ⟨_, rfl, h⟩⟩
theorem ex_bool {b : Bool} {P : Bool → Prop} : (∃ b', some (PyData.bool b) = some (.bool b') ∧ P b') ↔ P b := ⟨fun ⟨d, e, h⟩ => by cases e; exact h, fun h => ⟨_, rfl, h⟩⟩
theorem ex_int {b : Int} {P : Int → Prop} : (∃ b', some (PyData.int b) = some (.int b') ∧ P b') ↔ P b := ⟨fun ⟨d, e, h⟩ => by cases e; exact h, fun h => ⟨_, rfl, h⟩⟩
theorem ex_lst {b : List D} {P : List D → Prop} : (∃ b', some (PyData.list b) = some (.list b') ∧ P b') ↔ P b := ⟨fun ⟨d, e, h⟩ => by cases e; exact h, fun h => ⟨_, rfl, h⟩⟩
theorem ex_strv {b : Str} {P : Str → Prop} : (∃ b', OV.dv (PyData.str b) = OV.dv (.str b') ∧ P b') ↔ P b := ⟨fun ⟨d, e, h⟩ => by cases e; exact h, fun h => ⟨_, rfl, h⟩⟩
theorem ex_svd {d : D} : (∃ d', svD (SV.dat d) = some d') ↔ True := ⟨fun _ => trivial, fun _ => ⟨d, rfl⟩⟩
theorem ex_svo {l : Bool} {ds : List D} : (∃ d', svD (SV.own l ds) = some d') ↔ True := ⟨fun _ => trivial, fun _ => ⟨_, rfl⟩⟩
theorem bindS {α β : Type} {a : α} {f : α → Option β} : (some a).bind f = f a := rfl
theorem mapS {α β : Type} {a : α} {f : α → β} : (some a).map f = some (f a) := rfl
theorem atI_at {α : Type} {xs : List α} {i : Int} (h0 : 0 ≤ i) : atI xs i = xs[i.toNat]? := by
  unfold atI ixN
  rw [if_pos h0]
  by_cases h : i < xs.length
  · rw [if_pos h]
    rfl
  · rw [if_neg h, List.getElem?_eq_none (by omega)]
    rfl
theorem atI_neg1 {α : Type} {xs : List α} {v : α} (h : xs.getLast? = some v) : atI xs (-1) = some v := by
  obtain ⟨ys, rfl⟩ := List.getLast?_eq_some_iff.mp h
  exact atI_last ys v
end Sw
namespace Sw
open PySem PySem.Spec L2
theorem ex_if {α : Type} {c : Prop} [Decidable c] {x : α} {P : α → Prop} : (∃ d, (if c then some x else none) = some d ∧ P d) ↔ c ∧ P x := by
  constructor
  · rintro ⟨d, e, h⟩
    split at e
    · cases e; exact ⟨‹_›, h⟩
    · cases e
  · rintro ⟨h, p⟩
    exact ⟨x, by rw [if_pos h], p⟩
theorem ex_ifb {c : Prop} [Decidable c] {x : Bool} {P : Bool → Prop} : (∃ b, (if c then some (PyData.bool x) else none) = some (PyData.bool b) ∧ P b) ↔ c ∧ P x := by
  constructor
  · rintro ⟨d, e, h⟩
    split at e
    · cases e; exact ⟨‹_›, h⟩
    · cases e
  · rintro ⟨h, p⟩
    exact ⟨x, by rw [if_pos h], p⟩
theorem ex_som0 {α : Type} {a : α} : (∃ d, some a = some d) ↔ True := ⟨fun _ => trivial, fun _ => ⟨a, rfl⟩⟩
theorem ex_fl {x : List D} {P : Option (List D) → Prop} : (∃ fl, (∃ ds, some (SV.own true x) = some (SV.own true ds) ∧ fl = some ds) ∧ P fl) ↔ P (some x) := by
  constructor
  · rintro ⟨fl, ⟨ds, e, rfl⟩, h⟩
    cases e
    exact h
  · intro h
    exact ⟨_, ⟨x, rfl, rfl⟩, h⟩
theorem ex_flN {P : Option (List D) → Prop} : (∃ fl, fl = none ∧ P fl) ↔ P none := ⟨fun ⟨_, e, h⟩ => by cases e; exact h, fun h => ⟨none, rfl, h⟩⟩
theorem atI_lit {α : Type} {xs : List α} {n : Nat} : atI xs (no_index (@OfNat.ofNat Int n instOfNat)) = xs[n]? := atI_at (i := ((n : Nat) : Int)) (by omega)
theorem ixN_lit {n k : Nat} : ixN n (no_index (@OfNat.ofNat Int k instOfNat)) = if k < n then some k else none := by
  show ixN n ((k : Nat) : Int) = _
  unfold ixN
  rw [if_pos (by omega)]
  by_cases h : k < n
  · rw [if_pos (by omega), if_pos h]
    simp
  · rw [if_neg (by omega), if_neg h]
theorem gI_ii {g : Int → Int → Option D} {i j : Int} : gI g (.int i) (.int j) = g i j := rfl
theorem gAdd_ii {a b : Int} : gAdd (.int a) (.int b) = some (.int (a + b)) := rfl
theorem gAdd_ss {a b : Str} : gAdd (.str a) (.str b) = if a.length + b.length ≤ sizeLine then some (.str (a ++ b)) else none := rfl
theorem gAdd_ll {a b : List D} : gAdd (.list a) (.list b) = if a.length + b.length ≤ sizeLine then some (.list (a ++ b)) else none := rfl
theorem gAdd_tt {a b : List D} : gAdd (.tuple a) (.tuple b) = if a.length + b.length ≤ sizeLine then some (.tuple (a ++ b)) else none := rfl
theorem gMul_ii {a b : Int} : gMul (.int a) (.int b) = if (-(2 ^ 64) < a ∧ a < 2 ^ 64) ∨ (-(2 ^ 64) < b ∧ b < 2 ^ 64) then some (.int (a * b)) else none := rfl
theorem gMul_si {a : Str} {n : Int} : gMul (.str a) (.int n) = if n ≤ 1000 ∧ -1000 ≤ n ∧ a.length ≤ 1000 then some (.str (Txt.mul a n)) else none := rfl
theorem gLt_ii {a b : Int} : gLt (.int a) (.int b) = some (.bool (decide (a < b))) := rfl
theorem gLt_ss {a b : Str} : gLt (.str a) (.str b) = some (.bool (ltS a b)) := rfl
theorem gIx_li {ds : List D} {i : Int} : gIx (.list ds) (.int i) = atI ds i := rfl
theorem gIx_ti {ds : List D} {i : Int} : gIx (.tuple ds) (.int i) = atI ds i := rfl
theorem gIx_si {z : Str} {i : Int} : gIx (.str z) (.int i) = if z.length ≤ sizeLine then (atI z.cps.toList i).map fun c => .str ⟨#[c]⟩ else none := rfl
theorem gLen_l {ds : List D} : gLen [.list ds] = some (.int ds.length) := rfl
theorem gLen_t {ds : List D} : gLen [.tuple ds] = some (.int ds.length) := rfl
theorem gLen_s {z : Str} : gLen [.str z] = if z.length ≤ sizeLine then some (.int z.length) else none := rfl
theorem gListF_l {ds : List D} : gListF [.list ds] = some ds := rfl
theorem gListF_t {ds : List D} : gListF [.tuple ds] = some ds := rfl
theorem gTuple_l {ds : List D} : gTuple [.list ds] = some (.tuple ds) := rfl
theorem gTuple_t {ds : List D} : gTuple [.tuple ds] = some (.tuple ds) := rfl
theorem gCatF_ll {a b : List D} : gCatF (.list a) (.list b) = if a.length + b.length ≤ sizeLine then some (a ++ b) else none := rfl
theorem gEq_ii {a b : Int} : gEq false (.int a) (.int b) = some (.bool (a == b)) := rfl
theorem gNe_ii {a b : Int} : gEq true (.int a) (.int b) = some (.bool (!(a == b))) := rfl
theorem gEq_ss {a b : Str} : gEq false (.str a) (.str b) = some (.bool (a == b)) := rfl
theorem gNe_ss {a b : Str} : gEq true (.str a) (.str b) = some (.bool (!(a == b))) := rfl
theorem gEq_bb {a b : Bool} : gEq false (.bool a) (.bool b) = some (.bool (a == b)) := rfl
theorem gNe_bb {a b : Bool} : gEq true (.bool a) (.bool b) = some (.bool (!(a == b))) := rfl
theorem gSl_l {ds : List D} {lo hi : Option Int} : gSl (.list ds) lo hi = some (.list (cutD ds lo hi)) := rfl
theorem gSl_t {ds : List D} {lo hi : Option Int} : gSl (.tuple ds) lo hi = some (.tuple (cutD ds lo hi)) := rfl
theorem gSl_s {z : Str} {lo hi : Option Int} : gSl (.str z) lo hi = if z.length ≤ sizeLine then some (.str (cutS z lo hi)) else none := rfl
theorem gIsN_n : gIsN false .none .none = some (.bool true) := rfl
theorem gNotN_n : gIsN true .none .none = some (.bool false) := rfl
theorem gAppend_1 {ds : List D} {y : D} : gAppend ds [y] = if ds.length < sizeLine then some (.none, ds ++ [y]) else none := rfl
theorem ex_ifp {c : Prop} [Decidable c] {x : D} {y : List D} {P : D → List D → Prop} : (∃ d ds, (if c then some (x, y) else none) = some (d, ds) ∧ P d ds) ↔ c ∧ P x y := by
  constructor
  · rintro ⟨d, ds, e, h⟩
    split at e
    · cases e; exact ⟨‹_›, h⟩
    · cases e
  · rintro ⟨h, p⟩
    exact ⟨x, y, by rw [if_pos h], p⟩
end Sw

set_option Elab.async false
set_option linter.all false
set_option maxRecDepth 100000
namespace Sw
open PySem PySem.Spec L2
theorem pLc_inv {G : TG'} {TT : PT'} {TE : PE'} {vs : List Nat} {Q : List D → List SV → Prop} {ds : List D} {env : List SV} (I : Nat → List D → List SV → Prop) (h0 : I 0 [] env)
    (hs : ∀ i d, ds[i]? = some d → ∀ acc env, I i acc env → ∀ K : List D → List SV → Prop, (∀ acc' env', I (i + 1) acc' env' → K acc' env') →
      G d env fun env1 => TT env1 fun b env2 => if b = true then TE env2 fun o env3 => ∃ y env4, o.fz env3 = some (y, env4) ∧ K (acc ++ [y]) (wipeE env4 vs) else K acc (wipeE env2 vs))
    (hd : ∀ acc env, I ds.length acc env → Q acc env) : pLc G TT TE vs Q ds [] env := by
  have key : ∀ (n i : Nat) (acc : List D) (env : List SV), i + n = ds.length → I i acc env → pLc G TT TE vs Q (ds.drop i) acc env := by
    intro n
    induction n with
    | zero =>
      intro i acc env h hi
      have : ds.drop i = [] := by rw [List.drop_eq_nil_iff]; omega
      rw [this]
      have e : i = ds.length := by omega
      rw [e] at hi
      exact hd acc env hi
    | succ n ih =>
      intro i acc env h hi
      have hlt : i < ds.length := by omega
      rw [List.drop_eq_getElem_cons hlt]
      exact hs i ds[i] (List.getElem?_eq_getElem hlt) acc env hi (fun acc' env' => pLc G TT TE vs Q (ds.drop (i + 1)) acc' env') fun acc' env' h' => ih (i + 1) acc' env' (by omega) h'
  exact key ds.length 0 [] env (by omega) h0
theorem pFor_inv {G : TG'} {B : PS'} {Dp : PEnds} {ds : List D} {env : List SV} (I : Nat → List SV → Prop) (h0 : I 0 env)
    (hs : ∀ i d, ds[i]? = some d → ∀ env, I i env → ∀ K : List SV → Prop, (∀ env', I (i + 1) env' → K env') → G d env fun env1 => B { Dp with nx := K, ct := K, bk := Dp.nx } env1)
    (hd : ∀ env, I ds.length env → Dp.nx env) : pFor G B Dp ds env := by
  have key : ∀ (n i : Nat) (env : List SV), i + n = ds.length → I i env → pFor G B Dp (ds.drop i) env := by
    intro n
    induction n with
    | zero =>
      intro i env h hi
      have : ds.drop i = [] := by rw [List.drop_eq_nil_iff]; omega
      rw [this]
      have e : i = ds.length := by omega
      rw [e] at hi
      exact hd env hi
    | succ n ih =>
      intro i env h hi
      have hlt : i < ds.length := by omega
      rw [List.drop_eq_getElem_cons hlt]
      exact hs i ds[i] (List.getElem?_eq_getElem hlt) env hi (fun env' => pFor G B Dp (ds.drop (i + 1)) env') fun env' h' => ih (i + 1) env' (by omega) h'
  exact key ds.length 0 env (by omega) h0
theorem pWh_inv {c : PT'} {B : PS'} {Dp : PEnds} {env : List SV} (I : List SV → Prop) (μ : List SV → Nat) (h0 : I env)
    (hs : ∀ env, I env → ∀ K : List SV → Prop, (∀ env', I env' → μ env' < μ env → K env') → c env fun b env1 => if b = true then B { Dp with nx := K, ct := K, bk := Dp.nx } env1 else Dp.nx env1) : sWh c B Dp env := by
  have key : ∀ (n : Nat) (env : List SV), I env → μ env < n → pWh c B Dp n env := by
    intro n
    induction n with
    | zero => intro env _ h; omega
    | succ n ih =>
      intro env hi hm
      exact hs env hi (fun env' => pWh c B Dp n env') fun env' h' hm' => ih env' h' (by omega)
  exact ⟨μ env + 1, key (μ env + 1) env h0 (Nat.lt_succ_self _)⟩
theorem rgD_get {lo : Int} {n i : Nat} {d : D} (h : (rgD lo n)[i]? = some d) : i < n ∧ d = .int (lo + (i : Int)) := by
  unfold rgD at h
  rw [List.getElem?_map] at h
  by_cases hi : i < n
  · rw [List.getElem?_range hi] at h
    cases h
    exact ⟨hi, rfl⟩
  · rw [List.getElem?_eq_none (by rw [List.length_range]; omega)] at h
    cases h
theorem rgD_len {lo : Int} {n : Nat} : (rgD lo n).length = n := by simp [rgD]
theorem ext_tl {a b : Str} (h : a.cps.toList = b.cps.toList) : a = b := by
  obtain ⟨a⟩ := a
  obtain ⟨b⟩ := b
  exact congrArg Str.mk (Array.toList_inj.mp h)
theorem joinL_nil : ∀ xs : List (List Nat), TL.joinL [] xs = xs.flatten
  | [] => rfl
  | [x] => by simp [TL.joinL]
  | x :: y :: r => by
    rw [TL.joinL, joinL_nil (y :: r)]
    rfl
theorem joinE (ys : List Str) : (Txt.join (Str.ofString "") ys).cps.toList = (ys.map fun y => y.cps.toList).flatten := by
  rw [TL.join_eq]
  have h := TL.tl_join (Str.ofString "") ys
  rw [show TL.tl (Str.ofString "") = [] by decide +kernel, joinL_nil] at h
  exact h
end Sw

set_option Elab.async false
set_option linter.all false
set_option maxRecDepth 100000
namespace PySem.AutoSeq1
theorem list_extend_list_tupleA (l : Addr) (items : Array Value) (n : Nat) (b : Addr) (items2 : Array Value) (n2 : Nat) (dd : Option Addr) (sl : Array (Option Value)) (hs0 : ¬(!items.isEmpty && Builtin.List.listTooLong (items.size + items2.size)) = true) (hs1 : items.size ≤ sizeLine) (hs2 : items.size + items2.size ≤ sizeLine + 1) :
    Meets (Builtin.«list.extend» ⟨[.ref l, .ref b], []⟩) (fun _ R s => s.heap.get? l = some { cls := .type "list", dict := none, data := .seq items n, slots := #[] } ∧ s.heap.get? b = some { cls := .type "tuple", dict := dd, data := .seq items2 n2, slots := sl } ∧ R (.ok (.ret Value.none)) { s with heap := s.heap.update l (Obj.mapSeq fun x => x ++ items2), toks := s.toks }) :=
  .of_wp fun prog w A R s h => by
    obtain ⟨hp, g, d, tk, os⟩ := s; obtain ⟨hl, hb, h⟩ := h; have f1 := idx_int; have f2 := sub_tuple_tuple; have f3 := sub_list_list; have f4 := sub_tuple_list; have f5 := sub_list_tuple;
    have hz' : (items ++ items2).size ≤ sizeLine + 1 := by rw [Array.size_append]; exact hs2
    wp_walk using (wpAny_updateSeq hl rfl (hz := hs1) (_hz' := hz')), wpAny_loadPart' hl, wpAny_loadPart' hb; exact ⟨_, rfl, h⟩
end PySem.AutoSeq1
namespace SwX
open PySem PySem.Spec PyProof.Rows HT L2 PySem.AutoSeq1
section
variable {prog : Program} {w : World} {A : Around} {E : Value → Shared → Prop} {s : Shared}
theorem filterMap_ext {α β : Type} {f g : α → Option β} : ∀ {l : List α}, (∀ x ∈ l, f x = g x) → l.filterMap f = l.filterMap g
  | [], _ => rfl
  | x :: r, h => by
    rw [List.filterMap_cons, List.filterMap_cons, h x List.mem_cons_self, filterMap_ext fun y hy => h y (List.mem_cons_of_mem _ hy)]
/-- t[::-1] of a tuple -/
theorem getItem_tuple_rev {t sl : Addr} {items : Array Value} {vl vu vs : Value} {Q : Value → Shared → Prop} (ht : IsTup s.heap t items) (hs : s.heap.IsSliceOf sl vl vu vs) (pl : IsPart vl none) (pu : IsPart vu none) (ps : IsPart vs (some (-1)))
    (h : Q (.ref s.heap.objs.size) { s with heap := s.heap.push { cls := .type "tuple", data := .seq items.toList.reverse.toArray } })
    (hsz : items.size ≤ sizeLine) : wpAny (model prog w) A (getItem (.ref t) (.ref sl)) Q E s := by
  have htake : sizeOk (.seq items.toList.reverse.toArray) := by
    show items.toList.reverse.toArray.size ≤ sizeLine
    rw [List.size_toArray, List.length_reverse, Array.length_toList]
    omega
  obtain ⟨os, hos, hcs, hds⟩ := id hs
  have hTs : s.TypeIs (.ref sl) "slice" := ⟨os, hos, hcs⟩
  have el : vl = .none := by cases pl; rfl
  have eu : vu = .none := by cases pu; rfl
  obtain ⟨tk, rfl⟩ : ∃ tk, vs = .int (-1) tk := by cases ps; exact ⟨_, rfl⟩
  subst el eu
  unfold getItem
  try with_reducible refine wpAny_holding ?_
  first | refine wpAny_bind (wpAny_pure ?_) | skip
  refine wpAny_bind (wpAny_sequenceKey ht.typeIs (by decide) ?_)
  refine wpAny_bind (wpAny_callSpecial?_slot (name := Str.ofString "__getitem__") ht.typeIs PyProof.Rows.slot_tuple_getitem
    (wpAny_call_entry PyProof.Rows.slot_tuple_getitem ht.typeIs entry_tuple_getitem ?_ (args_tuple_getitem _ _)))
  show wpAny _ _ (Builtin.Tuple.tupleItemsOf (.ref t) >>= _) _ _ s
  refine wpAny_bind (tupleItemsOf_ ht ?_)
  refine wpAny_bind (wpAny_typeOf hTs ?_)
  rw [if_pos (by decide)]
  have app : ∀ {A : Around} {Q : Int × Int × Nat → Shared → Prop} {E : Value → Shared → Prop}, Q ((items.size : Int) - 1, -1, items.size) s → wpAny (model prog w) A (Builtin.Slice.sliceApplied (.ref sl) (pure (items.size : Int))) Q E s := fun {A Q E} h => by
    unfold Builtin.Slice.sliceApplied Builtin.Slice.sliceFields
    refine wpAny_bind (wpAny_bind (wpAny_field hos hds (x := .none) rfl (wpAny_bind (wpAny_field hos hds (x := .none) rfl (wpAny_bind (wpAny_field hos hds (x := .int (-1) tk) rfl (wpAny_pure ?_)))))))
    refine wpAny_bind (slicePart_int ?_)
    show wpAny _ _ (if ((-1 : Int) == 0) = true then _ else _) _ _ s
    rw [if_neg (by decide)]
    refine wpAny_bind (slicePart_none (wpAny_bind (slicePart_none (wpAny_bind (wpAny_pure ?_)))))
    have e : Builtin.Slice.sliceAdjust none none (-1) (items.size : Int) = ((items.size : Int) - 1, -1) := by
      first | rfl | simp [Builtin.Slice.sliceAdjust]
    show wpAny _ _ (match Builtin.Slice.sliceAdjust none none (-1) (items.size : Int) with | (lo, hi) => pure (lo, (-1 : Int), Builtin.Slice.slicePlaces lo hi (-1))) _ _ s
    rw [e]
    have e2 : Builtin.Slice.slicePlaces ((items.size : Int) - 1) (-1) (-1) = items.size := by
      unfold Builtin.Slice.slicePlaces
      rw [if_neg (by decide)]
      by_cases h0 : (items.size : Int) - 1 > -1
      · rw [if_pos h0]
        have : (- -1 : Int) = 1 := by decide
        rw [this, Int.ediv_one]
        omega
      · rw [if_neg h0]
        omega
    show wpAny _ _ (pure ((items.size : Int) - 1, (-1 : Int), Builtin.Slice.slicePlaces ((items.size : Int) - 1) (-1) (-1))) _ _ s
    rw [e2]
    exact wpAny_pure h
  refine wpAny_bind (app ?_)
  have hno : ¬ ((((items.size : Int) - 1) == 0 && (-1 : Int) == 1 && items.size == items.size) = true) := by
    intro q
    rw [Bool.and_eq_true, Bool.and_eq_true] at q
    have q1 : (-1 : Int) = 1 := eq_of_beq q.1.2
    exact absurd q1 (by decide)
  show wpAny _ _ (if (((items.size : Int) - 1) == 0 && (-1 : Int) == 1 && items.size == items.size) = true then _ else _) _ _ s
  have pick : ((List.range items.size).filterMap fun (m : Nat) => items[(((items.size : Int) - 1) + (m : Int) * (-1)).toNat]?).toArray = items.toList.reverse.toArray := by
    rw [← PySem.W.krv_all items, ← List.filterMap_reverse, ← PySem.W.krv_range, List.filterMap_map]
    refine congrArg List.toArray (filterMap_ext fun m hm => ?_)
    have := List.mem_range.mp hm
    show items[_]? = items[_]?
    congr 1
    show _ = items.size - 1 - m
    omega
  rw [if_neg hno, pick]
  first
    | exact wpAny_bind (m := Builtin.Tuple.tupleExact _) (wpAny_newObj_type (wpAny_pure ⟨_, rfl, wpAny_pure h⟩) htake)
    | exact wpAny_bind (m := Builtin.Tuple.tupleExact _) (wpAny_newObj_type (wpAny_bind (wpAny_pure (wpAny_pure ⟨_, rfl, wpAny_pure h⟩))) htake)
    | exact wpAny_bind (wpAny_bind (m := Builtin.Tuple.tupleExact _) (wpAny_newObj_type (wpAny_pure (wpAny_pure ⟨_, rfl, wpAny_pure h⟩)) htake))
    | exact wpAny_bind (wpAny_bind (m := Builtin.Tuple.tupleExact _) (wpAny_newObj_type (wpAny_pure ⟨_, rfl, wpAny_pure h⟩) htake))
end
section
variable {X : Sw.Cz}
/-- e[::-1] of a list or a tuple -/
def tRevA (K : Sw.FgK) (te : TE) : TE := fun σ H Q => te σ H fun x H1 => (∃ a xs, x = .ref a ∧ SqL K H1 a xs ∧ ∀ p, H1 p = none → Q (.ref p) (upd H1 p (.lst xs.reverse))) ∨ ∃ a xs, x = .ref a ∧ SqT K H1 a xs ∧ ∀ p, H1 p = none → Q (.ref p) (upd H1 p (.tup xs.reverse))
theorem pe_revA {e : Expr} {te : TE} {k : Nat} {p1 p2 p3 pos : Pos} (he : PE X e te) : PE X (.Subscript e (.Slice none none (some (.UnaryOp .USub (.Constant (.int 1) k p1) p2)) p3) pos) (tRevA X.fr te) := by
  refine ⟨fun pins s σ H Q I h => ?_⟩
  refine Subscript_ (thn (he.run pins s σ H _ I h) fun v s1 ⟨x, H1, I1, r1, q1⟩ => ?_)
  have hst : PO X (some (.UnaryOp .USub (.Constant (.int 1) k p1) p2)) (tPart (tUn (rU fun i => .int (-i)) (tC (.int 1)))) := po_some (pe_un un_neg pe_int)
  refine wpAny_Slice (thn (po_none.run pins s1 σ H1 (fun o H2 => o = none ∧ H2 = H1) I1 ⟨rfl, rfl⟩) fun vl s2 ⟨l, H2, I2, pl, el, e2⟩ => ?_)
  subst el e2
  refine thn (po_none.run pins s2 σ H2 (fun o H3 => o = none ∧ H3 = H2) I2 ⟨rfl, rfl⟩) fun vu s3 ⟨u, H3, I3, pu, eu, e3⟩ => ?_
  subst eu e3
  refine thn (hst.run pins s3 σ H3 (fun o H4 => o = some (-1) ∧ H4 = H3) I3 ⟨1, rfl, -1, rfl, rfl, rfl⟩) fun vs s4 ⟨o, H4, I4, ps, eo, e4⟩ => ?_
  subst eo e4
  have I5 : Inv X pins σ H4 { s4 with heap := s4.heap.push { cls := .type "slice", data := .fields #[vl, vu, vs] } } := I4.kept (t' := s4.toks) fun b ob q => Heap.get?_push_of_some _ q
  rcases q1 with ⟨a, xs, ex, hx, q⟩ | ⟨a, xs, ex, hx, q⟩
  · subst ex
    cases r1
    obtain ⟨its, r, ht, hz⟩ := I5.list hx
    have hlen := r.length
    show wpAny (model X.prog X.w) X.A (subscriptTail e (.Slice none none (some (.UnaryOp .USub (.Constant (.int 1) k p1) p2)) p3) (.ref a) (.ref s4.heap.objs.size)) (EP X pins σ Q) X.xe { s4 with heap := s4.heap.push { cls := .type "slice", data := .fields #[vl, vu, vs] } }
    refine tail_any (ops := [.ref a, .ref s4.heap.objs.size]) ht.isList.typeIs (PySem.slot_list_getitem.lookup) ?_ (by with_unfolding_all rfl)
    refine wpAny_getItem_list_slice ht.isList (Heap.IsSliceOf.new _ vl vu vs) pl pu ps (by decide) ?_ (by rw [List.size_toArray]; omega)
    rw [PySem.W.krv_pick]
    refine ⟨.ref _, _, I5.laid (t' := s4.toks) (o := .lst xs.reverse) (fun b ob q => Heap.get?_push_of_some _ q) (Nat.le_refl _) ?_, rfl, q _ (I5.hok.fresh (Nat.le_refl _))⟩
    exact ⟨by rw [List.length_reverse]; exact hz, _, 0, r.reverse, Heap.get?_push_size _ rfl⟩
  · subst ex
    cases r1
    obtain ⟨its, r, ht, hz⟩ := I5.tuple hx
    have hlen := r.length
    show wpAny (model X.prog X.w) X.A (subscriptTail e (.Slice none none (some (.UnaryOp .USub (.Constant (.int 1) k p1) p2)) p3) (.ref a) (.ref s4.heap.objs.size)) (EP X pins σ Q) X.xe { s4 with heap := s4.heap.push { cls := .type "slice", data := .fields #[vl, vu, vs] } }
    refine tail_any (ops := [.ref a, .ref s4.heap.objs.size]) ht.typeIs (PyProof.Rows.slot_tuple_getitem.lookup) ?_ (by with_unfolding_all rfl)
    refine getItem_tuple_rev ht (Heap.IsSliceOf.new _ vl vu vs) pl pu ps ?_ (by rw [List.size_toArray]; omega)
    refine ⟨.ref _, _, I5.laid (t' := s4.toks) (o := .tup xs.reverse) (fun b ob q => Heap.get?_push_of_some _ q) (Nat.le_refl _) ?_, rfl, q _ (I5.hok.fresh (Nat.le_refl _))⟩
    exact ⟨by rw [List.length_reverse]; exact hz, _, r.reverse, IsTup.new _ _⟩
/-- xs.extend(ys), ys a list or a tuple -/
def rExtA (K : Sw.FgK) : V → List V → Hp → VK → Prop := fun x vs H Q => rExtend x vs H Q ∨ ∃ l b xs zs, x = .ref l ∧ vs = [.ref b] ∧ H l = some (.lst xs) ∧ SqT K H b zs ∧ xs.length + zs.length ≤ sizeLine ∧ Q .non (upd H l (.lst (xs ++ zs)))
theorem mt_extendA : MtM X "list.extend" (rExtA X.fr) := by
  intro pins s σ H x vs v us Q I rx rv h
  rcases h with h | ⟨l, b, xs, zs, rfl, rfl, hH, hB, hz, q⟩
  · exact mt_extend pins s σ H x vs v us Q I rx rv h
  · cases rx
    obtain ⟨u, rfl, ru⟩ := rv.one
    cases ru
    obtain ⟨z, its, n, r, hl, e⟩ := I.lstM hH
    obtain ⟨its2, r2, ht, hz2⟩ := I.tuple hB
    have hl2 := r2.length
    obtain ⟨⟨oc, od, odat, osl⟩, ho, hc, n2, hd⟩ := ht
    have hc : oc = .type "tuple" := hc
    have hd : odat = .seq its2.toArray n2 := hd
    subst hc hd
    have hsz : its.toArray.size + its2.toArray.size ≤ sizeLine := by rw [List.size_toArray, List.size_toArray]; omega
    have hlong : ¬ (!its.toArray.isEmpty && Builtin.List.listTooLong (its.toArray.size + its2.toArray.size)) = true := by
      rw [notLongL hsz, Bool.and_false]
      exact Bool.false_ne_true
    refine call_meets F.slot_list_extend ⟨_, e, rfl⟩ F.entry_list_extend (F.args_list_extend_2 _ _)
      (list_extend_list_tupleA l its.toArray n b its2.toArray n2 od osl hlong (by rw [List.size_toArray]; omega) (by omega)) ⟨e, ho, ?_⟩
    refine ⟨.non, _, I.lset (its' := its ++ its2) hH e (by simp) (r.append r2) ?_, rfl, q⟩
    rw [List.length_append]
    omega
end
end SwX

namespace Sw
open PySem PySem.Spec L2
section
variable {X : Sw.Cz} {K : FgX}
def gRevD : D → Option D
  | .list ds => some (.list ds.reverse)
  | .tuple ds => some (.tuple ds.reverse)
  | _ => none
def qRevA (A : PE') : PE' := fun env Q => A env fun o env1 => ∃ d, o.rd env1 = some d ∧ ∃ d', gRevD d = some d' ∧ Q (.dv d') env1
theorem gRev_l {ds : List D} : gRevD (.list ds) = some (.list ds.reverse) := rfl
theorem gRev_t {ds : List D} : gRevD (.tuple ds) = some (.tuple ds.reverse) := rfl
def gExtend : List D → List D → Option (D × List D)
  | ds, [.list es] => if ds.length + es.length ≤ sizeLine then some (.none, ds ++ es) else none
  | ds, [.tuple es] => if ds.length + es.length ≤ sizeLine then some (.none, ds ++ es) else none
  | _, _ => none
theorem gExtend_l {ds es : List D} : gExtend ds [.list es] = if ds.length + es.length ≤ sizeLine then some (.none, ds ++ es) else none := rfl
theorem gExtend_t {ds es : List D} : gExtend ds [.tuple es] = if ds.length + es.length ≤ sizeLine then some (.none, ds ++ es) else none := rfl
/-- a method of a slot's own list that reads what it is handed: the heap's known part lies within -/
def LMO' (K : FgK) (r : V → List V → Hp → VK → Prop) (g : List D → List D → Option (D × List D)) : Prop := ∀ (H F : Hp) (p : Addr) (xs ys : List V) (ds es ds' : List D) (d : D) (Q : VK), Le F H → H p = some (.lst xs) → AtAll K F ds xs → AtAll K F es ys → g ds es = some (d, ds') →
  (∀ v xs', At K F d v → AtAll K F ds' xs' → Q v (upd H p (.lst xs'))) → r (.ref p) ys H Q
theorem LMO.le {r : V → List V → Hp → VK → Prop} {g : List D → List D → Option (D × List D)} (h : LMO K r g) : LMO' K r g := fun H F p xs ys ds es ds' d Q _ => h H F p xs ys ds es ds' d Q
theorem l_extend : LMO' K (SwX.rExtA K) gExtend := fun H F p xs ys ds es ds' d Q hle hp a b e k => by
  unfold gExtend at e
  split at e
  · split at e
    · cases e
      obtain ⟨y, rfl, ay⟩ := b.one
      simp only [At] at ay
      obtain ⟨q, zs, rfl, e1, a1⟩ := ay
      exact .inl ⟨p, q, xs, zs, rfl, rfl, hp, hle _ _ e1, by rw [a.len, a1.len]; assumption, k _ _ (by simp [At]) (AtAll.app a a1)⟩
    · cases e
  · split at e
    · cases e
      obtain ⟨y, rfl, ay⟩ := b.one
      simp only [At] at ay
      obtain ⟨q, zs, rfl, e1, a1⟩ := ay
      exact .inr ⟨p, q, xs, zs, rfl, rfl, hp, (Le.tupAt hle e1).sqT, by rw [a.len, a1.len]; assumption, k _ _ (by simp [At]) (AtAll.app a a1)⟩
    · cases e
  · cases e
theorem q_moE (i : Nat) {name x : Str} {p apos cpos : Pos} {e : Expr} {es : List Expr} {T : PA'} (hname : name = "extend") (ha : EA X (e :: es) T)
    (hN : X.N[i]? = some x := by rfl) (hv : Vis X.env.scope x := by first | exact Or.inl rfl | exact Or.inr (Or.inl rfl) | exact Or.inr (Or.inr rfl)) (hd : (x == ("__debug__" : Str)) = false := by decide) (hcd : (x == ("__classdict__" : Str)) = false := by decide)
    (hbase : attributeBase (.Name x p) name X.env (eval (.Name x p) X.env) = eval (.Name x p) X.env := by rfl)
    (hfew : ((backTo cpos (starEach (e :: es) X.env)).all (fun x => !x.1) && (backToKw cpos (keywordEach [] X.env)).all (fun x => x.1.isSome)
      && decide ((e :: es).length + ([] : List Keyword).length + (if ([] : List Keyword).isEmpty then 0 else 1) < 30)) = true := by rfl)
    (hline : (apos.endLine == cpos.line) = true := by rfl) (hs : starEach (e :: es) X.env = (false, eval e X.env) :: starEach es X.env := by rfl) (hplain : (backTo cpos (starEach es X.env)).any (·.1) = false := by rfl) :
    EV X (.Call (.Attribute (.Name x p) name apos) (e :: es) [] cpos) (qMO i gExtend T) := by
  subst hname
  obtain ⟨t, h1, l1⟩ := ha.ex
  refine ⟨_, pe_bm PySem.F.plainAttrs_list PySem.F.slot_list_extend PySem.F.type_list_extend SwX.mt_extendA (pe_var hN hv hd hcd) h1 hbase hfew hline hs hplain, fun C σ H F env Q Qp R k q => ?_⟩
  obtain ⟨⟨l0, ds0, e0⟩, q⟩ := q
  obtain ⟨a, xs0, f1, f2, f3, f4, f5⟩ := R.slotL e0
  refine ⟨.ref a, f1, .inl ⟨rfl, xs0, SqL.of f2⟩, ?_⟩
  refine l1 C σ H F env _ _ R (fun vs H1 F1 env1 os s1 a1 q1 => ?_) q
  obtain ⟨es', env2, e1, l, ds, e2, d, ds', e3, q1⟩ := q1
  obtain ⟨F2, s2, a2⟩ := fzAll_ok s1.rel a1 e1
  obtain ⟨a', xs, g1, g2, g3, g4, g5⟩ := s2.rel.slotL e2
  rw [f1] at g1
  cases g1
  refine l_extend H1 F2 a xs vs ds es' ds' d _ s2.rel.frz g2 g5 a2 e3 fun v xs' av ax => ?_
  have s3 := s2.rel.writeL e2 f1 ax
  exact k v _ F2 _ (.dv d) ((s1.trans s2).trans s3) (OvOk.of av) q1
def insS (x : Str) : List Str → List Str
  | [] => [x]
  | y :: r => if ltS y x = true then y :: insS x r else x :: y :: r
def sortS : List Str → List Str
  | [] => []
  | x :: r => insS x (sortS r)
theorem insS_perm (x : Str) : ∀ ys : List Str, (insS x ys).Perm (x :: ys)
  | [] => List.Perm.refl _
  | y :: r => by
    unfold insS
    split
    · exact ((insS_perm x r).cons y).trans (List.Perm.swap x y r)
    · exact List.Perm.refl _
theorem sortS_perm : ∀ ys : List Str, (sortS ys).Perm ys
  | [] => List.Perm.refl _
  | x :: r => (insS_perm x (sortS r)).trans ((sortS_perm r).cons x)
end
end Sw

set_option Elab.async false
set_option linter.all false
set_option maxRecDepth 100000
namespace Sw
open PySem PySem.Spec L2
theorem perm_eq_pw {α : Type} {r : α → α → Prop} (anti : ∀ a b, r a b → r b a → a = b) : ∀ {l m : List α}, l.Perm m → l.Pairwise r → m.Pairwise r → l = m
  | [], m, p, _, _ => (List.nil_perm.mp p).symm
  | a :: l, [], p, _, _ => absurd p.symm (by simp)
  | a :: l, b :: m, p, h1, h2 => by
    have hab : a = b := by
      by_cases e : a = b
      · exact e
      · have ha : a ∈ m := by
          have := p.mem_iff.mp (List.mem_cons_self (a := a) (l := l))
          rcases List.mem_cons.mp this with z | z
          · exact absurd z e
          · exact z
        have hb : b ∈ l := by
          have := p.mem_iff.mpr (List.mem_cons_self (a := b) (l := m))
          rcases List.mem_cons.mp this with z | z
          · exact absurd z.symm e
          · exact z
        exact anti a b ((List.pairwise_cons.mp h1).1 b hb) ((List.pairwise_cons.mp h2).1 a ha)
    subst hab
    rw [perm_eq_pw anti (List.Perm.cons_inv p) (List.pairwise_cons.mp h1).2 (List.pairwise_cons.mp h2).2]
theorem ltS_iff {a b : Str} : ltS a b = true ↔ a.cps.toList < b.cps.toList := decide_eq_true_iff
theorem ltS_irr (a : Str) : ltS a a = false := by
  rw [← Bool.not_eq_true, ltS_iff]
  exact List.lt_irrefl _
theorem ltS_tr {a b c : Str} (h : ltS a b = true) (g : ltS b c = true) : ltS a c = true := by
  rw [ltS_iff] at *
  exact List.lt_trans h g
theorem ltS_as {a b : Str} (h : ltS a b = true) : ltS b a = false := by
  rw [← Bool.not_eq_true]
  intro g
  have := ltS_tr h g
  rw [ltS_irr] at this
  cases this
theorem ltS_tri {a b : Str} (h : ltS a b = false) (g : ltS b a = false) : a = b := by
  rw [← Bool.not_eq_true, ltS_iff] at h g
  exact ext_tl (List.le_antisymm (as := a.cps.toList) (bs := b.cps.toList) g h)
theorem leS_tr {a b c : Str} (h : leS a b) (g : leS b c) : leS a c := by
  unfold leS at *
  cases q : ltS c a with
  | false => rfl
  | true =>
    exfalso
    by_cases e : ltS b c = true
    · have := ltS_tr e q
      rw [this] at h; cases h
    · have e : ltS b c = false := by simpa using e
      have := ltS_tri e g
      subst this
      rw [q] at h; cases h
theorem insS_pw {x : Str} : ∀ {ys : List Str}, ys.Pairwise leS → (insS x ys).Pairwise leS
  | [], _ => by simp [insS]
  | y :: r, h => by
    have h' := List.pairwise_cons.mp h
    unfold insS
    split
    · rename_i hy
      refine List.pairwise_cons.mpr ⟨fun z hz => ?_, insS_pw h'.2⟩
      rcases List.mem_cons.mp ((insS_perm x r).mem_iff.mp hz) with e | e
      · subst e
        exact ltS_as hy
      · exact h'.1 z e
    · rename_i hy
      have hy : leS x y := by unfold leS; simpa using hy
      refine List.pairwise_cons.mpr ⟨fun z hz => ?_, h⟩
      rcases List.mem_cons.mp hz with e | e
      · subst e; exact hy
      · exact leS_tr hy (h'.1 z e)
theorem sortS_pw : ∀ ys : List Str, (sortS ys).Pairwise leS
  | [] => List.Pairwise.nil
  | x :: r => insS_pw (sortS_pw r)
theorem sortS_of {xs ys : List Str} (p : ys.Perm xs) (h : ys.Pairwise leS) : ys = sortS xs := perm_eq_pw (r := leS) (fun a b h g => ltS_tri g h) (p.trans (sortS_perm xs).symm) h (sortS_pw xs)
end Sw
namespace Sw
open PySem PySem.Spec L2
open PyProof.Rows (sortedS risingS ltCps_eq)
end Sw
namespace Sw
open PySem PySem.Spec L2
theorem seqOf_l {ds : List D} : seqOf (.list ds) = some ds := rfl
theorem seqOf_t {ds : List D} : seqOf (.tuple ds) = some ds := rfl
theorem itemsOf_l {ds : List D} : itemsOf (.list ds) = some ds := rfl
theorem itemsOf_t {ds : List D} : itemsOf (.tuple ds) = some ds := rfl
theorem itemsOf_s {z : Str} : itemsOf (.str z) = some (z.cps.toList.map signD) := rfl
theorem gJoin_s {z : Str} {ys : List Str} : gJoin z (ys.map .str) = if (ys.map (·.length)).sum + ys.length * z.length ≤ 16777216 then some (.str (Txt.join z ys)) else none := by
  show ((strsOf (ys.map .str)).bind _) = _
  rw [strsOf_map]
  rfl
theorem gAll_b {bs : List Bool} : gAll [.list (bs.map .bool)] = some (.bool (bs.all id)) := by
  show (boolsOf (bs.map .bool)).map _ = _
  rw [boolsOf_map]
  rfl
theorem gAny_b {bs : List Bool} : gAny [.list (bs.map .bool)] = some (.bool (bs.any id)) := by
  show (boolsOf (bs.map .bool)).map _ = _
  rw [boolsOf_map]
  rfl
theorem gPopAt_1 {ds : List D} {i : Int} : gPopAt ds [.int i] = if -(2 ^ 63) ≤ i ∧ i < 2 ^ 63 then (seqIndex? i ds.length).bind fun j => ds[j]?.map fun d => (d, ds.eraseIdx j) else none := rfl
theorem isi_str {T : Ty} {z : Str} : isi T (.str z) = match T with | .str => true | _ => false := by cases T <;> rfl
theorem isi_int {T : Ty} {z : Int} : isi T (.int z) = match T with | .int => true | _ => false := by cases T <;> rfl
theorem isi_bool {T : Ty} {z : Bool} : isi T (.bool z) = match T with | .int => true | .bool => true | _ => false := by cases T <;> rfl
theorem isi_list {T : Ty} {z : List D} : isi T (.list z) = match T with | .list => true | _ => false := by cases T <;> rfl
theorem isi_tuple {T : Ty} {z : List D} : isi T (.tuple z) = match T with | .tuple => true | _ => false := by cases T <;> rfl
theorem isi_none {T : Ty} : isi T .none = false := by cases T <;> rfl
def okI (d : D) : Prop := d.plain = true ∧ d.depth ≤ 39
theorem okD_list {xs : List D} (h : ∀ x ∈ xs, okI x) : okD (.list xs) = true ∧ okD (.tuple xs) = true := by
  have hp : PyData.plainAll xs = true := by
    induction xs with
    | nil => rfl
    | cons x r ih =>
      rw [PyData.plainAll, (h x List.mem_cons_self).1, ih fun y hy => h y (List.mem_cons_of_mem _ hy)]
      rfl
  have hd : PyData.depthAll xs ≤ 39 := by
    clear hp
    induction xs with
    | nil => exact Nat.zero_le _
    | cons x r ih =>
      have h1 := (h x List.mem_cons_self).2
      have h2 := ih fun y hy => h y (List.mem_cons_of_mem _ hy)
      rw [PyData.depthAll]
      omega
  unfold okD
  constructor
  · rw [show (PyData.list xs).plain = true from hp, PyData.depth, Bool.true_and, decide_eq_true_eq]
    omega
  · rw [show (PyData.tuple xs).plain = true from hp, PyData.depth, Bool.true_and, decide_eq_true_eq]
    omega
theorem okI_str (z : Str) : okI (.str z) := ⟨rfl, by simp [PyData.depth]⟩
theorem okD_of {d : D} (h : okI d) : okD d = true := by
  have h2 := h.2
  unfold okD
  rw [h.1, Bool.true_and, decide_eq_true_eq]
  omega
theorem okD_strs (ys : List Str) : okD (.list (ys.map .str)) = true ∧ okD (.tuple (ys.map .str)) = true := okD_list fun x hx => by
  obtain ⟨y, _, rfl⟩ := List.mem_map.mp hx
  exact okI_str y
theorem gIn_strs {neg : Bool} {z : Str} {ys : List Str} : gIn neg (.str z) (.list (ys.map .str)) = some (.bool (if neg then !decide (z ∈ ys) else decide (z ∈ ys))) := by
  show (if okD (PyData.str z) = true ∧ okD (.list (ys.map PyData.str)) = true then some (inB neg (.str z) (ys.map PyData.str)) else none) = _
  unfold inB
  have e : ((ys.map PyData.str).any fun y => PyData.eqv y (.str z)) = decide (z ∈ ys) := by
    induction ys with
    | nil => rfl
    | cons y r ih =>
      rw [List.map_cons, List.any_cons, ih]
      show ((y == z) || decide (z ∈ r)) = decide (z ∈ y :: r)
      by_cases h1 : y = z
      · rw [h1, beq_self_eq_true, Bool.true_or]
        exact (decide_eq_true List.mem_cons_self).symm
      · rw [beq_eq_false_iff_ne.mpr h1, Bool.false_or]
        by_cases h2 : z ∈ r
        · rw [decide_eq_true h2]
          exact (decide_eq_true (List.mem_cons_of_mem _ h2)).symm
        · rw [decide_eq_false h2]
          refine (decide_eq_false fun h3 => ?_).symm
          rcases List.mem_cons.mp h3 with e | e
          · exact h1 e.symm
          · exact h2 e
  rw [if_pos ⟨okD_of (okI_str z), (okD_strs ys).1⟩, e]
end Sw
namespace Sw
open PySem PySem.Spec L2
theorem gIsN_b {neg : Bool} {b : Bool} : gIsN neg (.bool b) .none = some (.bool neg) := rfl
theorem gIsN_i {neg : Bool} {b : Int} : gIsN neg (.int b) .none = some (.bool neg) := rfl
theorem gIsN_s {neg : Bool} {b : Str} : gIsN neg (.str b) .none = some (.bool neg) := rfl
theorem gIsN_l {neg : Bool} {b : List D} : gIsN neg (.list b) .none = some (.bool neg) := rfl
theorem gIsN_t {neg : Bool} {b : List D} : gIsN neg (.tuple b) .none = some (.bool neg) := rfl
theorem gIsN_d {neg : Bool} {b : List (D × D)} : gIsN neg (.dict b) .none = some (.bool neg) := rfl
end Sw
namespace Sw
open PySem PySem.Spec L2
def atomD : D → Prop
  | .list _ => False
  | .tuple _ => False
  | .dict _ => False
  | _ => True
def qCallV (sp : PSp) (T : PA') : PE' := fun env Q => T env fun os env1 => ∃ ds env2, fzAll env1 os = some (ds, env2) ∧ sp none ds fun rv _ => ∃ d, rv = .dt d ∧ atomD d ∧ Q (.dv d) env1
theorem ex_dt {d : D} {P : D → Prop} : (∃ d', RV.dt d = RV.dt d' ∧ P d') ↔ P d := ⟨fun ⟨_, e, h⟩ => by cases e; exact h, fun h => ⟨d, rfl, h⟩⟩
theorem ex_fr {ds : List D} {P : List D → Prop} : (∃ es, RV.fr ds = RV.fr es ∧ P es) ↔ P ds := ⟨fun ⟨_, e, h⟩ => by cases e; exact h, fun h => ⟨ds, rfl, h⟩⟩
theorem ex_frL {fd ds : List D} {P : List D → List D → Prop} : (∃ fd' es, some fd = some fd' ∧ RV.fr ds = RV.fr es ∧ P fd' es) ↔ P fd ds := ⟨fun ⟨_, _, e, e2, h⟩ => by cases e; cases e2; exact h, fun h => ⟨fd, ds, rfl, rfl, h⟩⟩
theorem atom_b {b : Bool} : atomD (.bool b) ↔ True := Iff.rfl
theorem atom_i {b : Int} : atomD (.int b) ↔ True := Iff.rfl
theorem atom_s {b : Str} : atomD (.str b) ↔ True := Iff.rfl
theorem atom_n : atomD .none ↔ True := Iff.rfl
end Sw
namespace Sw
open PySem PySem.Spec L2
theorem ex_tupv {a : List D} {P : List D → Prop} : (∃ ds, PyData.tuple a = .tuple ds ∧ P ds) ↔ P a := ⟨fun ⟨_, e, h⟩ => by cases e; exact h, fun h => ⟨a, rfl, h⟩⟩
theorem ex_consv {a : D} {b : List D} {P : D → List D → Prop} : (∃ d r, a :: b = d :: r ∧ P d r) ↔ P a b := ⟨fun ⟨_, _, e, h⟩ => by cases e; exact h, fun h => ⟨a, b, rfl, h⟩⟩
end Sw

set_option Elab.async false
set_option linter.all false
set_option maxRecDepth 100000
namespace Sw
open PySem PySem.Spec L2
abbrev rLstF (K : FgK) : List V → Hp → VK → Prop := fun xs H Q => ∃ p ys, xs = [V.ref p] ∧ (SqL K H p ys ∨ SqT K H p ys) ∧ ∀ l, H l = none → Q (.ref l) (upd H l (.lst ys))
def t_flow (K : FgK) : TS := tRet (tLst (tCons (tCB (rLstF K) (tCons (tVar 0) tNil)) (tCons (tC (.int 0)) (tCons (tC (.int 0)) (tCons (tC (.int 1)) (tCons (tC (.int 0)) tNil))))))
def spFlow (K : FgK) : Sp := fun vs H Q _ => ∃ (a : Addr) (xs : List V), vs = [.ref a] ∧ SqL K H a xs ∧ ∀ c p, p ≠ c → Q (.ref p) (upd (upd H c (.lst xs)) p (.lst [.ref c, .int 0, .int 0, .int 1, .int 0]))
theorem pure_flow {K : FgK} (vs : List V) (H : Hp) (Q : VK) (E : XK) (h : spFlow K vs H Q E) : t_flow K { nx := fun _ H' => Q .non H', rt := Q } (start ["_law_script"] vs) H := by
  obtain ⟨a, xs, rfl, hs, k⟩ := h
  refine ⟨_, rfl, a, xs, rfl, .inl hs, fun c hc => ?_⟩
  refine ⟨by rw [sizeLine_eq]; simp, fun p hp => ?_⟩
  refine k c p ?_
  rintro rfl
  rw [upd_same] at hp
  cases hp
theorem len_flow {K : FgK} (vs : List V) (H : Hp) (Q : VK) (E : XK) (h : spFlow K vs H Q E) : vs.length = 1 := by
  obtain ⟨a, xs, rfl, _⟩ := h
  rfl
/-- what a law promises -/
def spLaw (K : FgK) : Sp := fun vs H Q _ => ∃ (a : Addr) (ns : List Int), vs = [.ref a] ∧ ns.length ≤ 63 ∧ SqL K H a (ns.map V.int) ∧ ∀ H', Q (.bl true) H'
abbrev flow0 (ns : List Int) : List D := [.list (ns.map .int), .int 0, .int 0, .int 1, .int 0]
theorem at_ints {K : FgK} {F : Hp} : ∀ ns : List Int, AtAll K F (ns.map PyData.int) (ns.map V.int)
  | [] => AtAll.nil
  | n :: r => AtAll.cons (by simp [At]) (at_ints r)
theorem law_start {K : FgK} {H : Hp} {ns : List Int} {c p a : Addr} (hpc : p ≠ c) (N : List Str) (hN : 2 ≤ N.length) :
    RelB K ⟨fun _ => none, fun _ => none, none⟩ ((start N [.ref a]).set 1 (some (.ref p))) (upd (upd H c (.lst (ns.map V.int))) p (.lst [.ref c, .int 0, .int 0, .int 1, .int 0])) (upd (fun _ => none) c (.lst (ns.map V.int)))
      (SV.un :: SV.own false (flow0 ns) :: List.replicate (N.length - 2) SV.un) := by
  obtain ⟨n, e⟩ : ∃ n, N.length = n + 2 := ⟨N.length - 2, by omega⟩
  have es : (start N [.ref a]).set 1 (some (.ref p)) = some (.ref a) :: some (.ref p) :: List.replicate n none := by
    unfold L2.start
    rw [e]
    show List.set (some (V.ref a) :: List.replicate (n + 1) none) 1 _ = _
    rw [List.replicate_succ]
    rfl
  rw [es, e, Nat.add_sub_cancel]
  have own : ∀ (i : Nat) (l : Bool) (ds : Ct), (SV.un :: SV.own false (flow0 ns) :: List.replicate n SV.un)[i]? = some (SV.obj l ds) → i = 1 ∧ l = false ∧ ds = .lst (flow0 ns) := fun i l ds h => by
    match i, h with
    | 0, h => cases h
    | 1, h => cases h; exact ⟨rfl, rfl, rfl⟩
    | i + 2, h =>
      have h : (List.replicate n SV.un)[i]? = some (SV.obj l ds) := h
      have := (List.mem_replicate.mp (List.mem_of_getElem? h)).2
      cases this
  refine ⟨fun b o h => ?_, fun b o h => (nomatch h), fun b o h => .inr rfl, fun b o h => (nomatch h), fun a h => (nomatch h), by simp, fun i sv h => ?_, fun i j l ds m es h1 h2 _ => ?_⟩
  · by_cases eb : b = c
    · subst eb
      rw [upd_same] at h
      cases h
      rw [upd_ne hpc.symm, upd_same]
    · rw [upd_ne eb] at h
      cases h
  · cases sv with
    | un => trivial
    | raw z =>
      match i, h with
      | 0, h => cases h
      | 1, h => cases h
      | i + 2, h =>
        have h : (List.replicate n SV.un)[i]? = some (SV.raw z) := h
        have := (List.mem_replicate.mp (List.mem_of_getElem? h)).2
        cases this
    | dat d =>
      match i, h with
      | 0, h => cases h
      | 1, h => cases h
      | i + 2, h =>
        have h : (List.replicate n SV.un)[i]? = some (SV.dat d) := h
        have := (List.mem_replicate.mp (List.mem_of_getElem? h)).2
        cases this
    | obj l ds =>
      obtain ⟨rfl, rfl, rfl⟩ := own i l ds h
      refine ⟨p, _, rfl, upd_same, ?_, rfl, ?_⟩
      · rw [upd_ne hpc]
      · refine ⟨_, rfl, ?_⟩
        refine AtAll.cons ?_ (AtAll.cons (by simp [At]) (AtAll.cons (by simp [At]) (AtAll.cons (by simp [At]) (AtAll.cons (by simp [At]) AtAll.nil))))
        simp only [At]
        exact ⟨c, _, rfl, upd_same, at_ints ns⟩
  · rw [(own i l ds h1).1, (own j m es h2).1]
theorem law_ends {K : FgX} {C : Ec} {F : Hp} {Q : VK} (k : ∀ H', Q (.bl true) H') : EndsOk K C F { nx := fun _ H' => Q .non H', rt := Q } (endsOf false fun rv _ => rv = .dt (.bool true)) := by
  refine ⟨fun σ' H' F' env' R l h => ?_, fun σ' H' F' env' rv v R l hv h => ?_, fun σ' H' F' env' R l h => h.elim, fun σ' H' F' env' R l h => h.elim⟩
  · obtain ⟨fl, _, h⟩ := h
    cases h
  · obtain ⟨fl, _, rfl⟩ := h
    have hv : At K F' (.bool true) v := hv
    simp only [At] at hv
    subst hv
    exact k H'
section
variable {P : Program} {w : World} {K : PySem.W.Frag} {mg : Str → Option Value} {base : Heap}
theorem law_ok {x qual y : Str} {params : Arguments} {st : Stmt} {rest : List Stmt} {scope : Scope} {f : Addr} {fd : FuncData} {N : List Str} {k : Nat} {T : PS'} (F : FunD K x qual params (st :: rest) scope [] [] f fd) (S : FnScope N [y] scope) (hN : 2 ≤ N.length)
    (hbody : ∀ (cdv : Value) (A : Around) (outer : List Env) (s : Shared) (H : Hp) (E : XK), Room k (A.deeper (PyProof.Rows.envOfC qual scope s.heap.objs.size f cdv)) →
      PS (cxOf CX0 P w K mg base N qual scope f cdv A outer s H E).nox st (tAsg (tCall (spFlow ⟨K, P, w⟩) [] E0 (tCons (tVar 0) tNil)) (gName 1)) ∧ EB (of0 (cxOf CX0 P w K mg base N qual scope f cdv A outer s H E).nox) rest T)
    (hT : ∀ ns : List Int, ns.length ≤ 63 → T (endsOf false fun rv _ => rv = .dt (.bool true)) (SV.un :: SV.own false (flow0 ns) :: List.replicate (N.length - 2) SV.un)) : FnOk P w K mg base CX0 (k + 1) f fd [y] (spLaw ⟨K, P, w⟩) := by
  refine F.ok S (fun vs H Q E h => ?_) (fun cdv A outer s H vs Q E hr h => ?_)
  · obtain ⟨a, ns, rfl, _⟩ := h
    rfl
  · obtain ⟨a, ns, rfl, hl, hs, hQ⟩ := h
    obtain ⟨h1, h2⟩ := hbody cdv A outer s H E hr
    obtain ⟨t, g1, l1⟩ := h2.ex
    refine ⟨_, PSs.nox (pss_cons h1 g1), ?_⟩
    refine ⟨V.ref a, ?_, a, ns.map V.int, rfl, hs, fun c p hpc => ?_⟩
    · unfold L2.start
      rfl
    · exact l1 _ _ _ _ _ _ _ ⟨law_start hpc N hN, xok_no rfl⟩ (law_ends hQ) (hT ns hl)
end
end Sw

set_option Elab.async false
set_option linter.all false
set_option maxRecDepth 100000
namespace Sw
open PySem PySem.Spec L2 PyProof.Rows
def noneD : D → Bool
  | .none => true
  | _ => false
def cmpOk (a b : D) : Bool := okD a && (okD b && (W.alike a b && !noneD a))
def tup1 : D → Bool
  | .tuple (_ :: _) => true
  | _ => false
def noTup : D → Bool
  | .tuple _ => false
  | d => !noneD d
def okSort (ds : List D) : Bool := ds.all okD && (ds.all (fun d => ds.all fun e => W.alike d e) && (ds.all tup1 || ds.all noTup))
theorem cmpOk_spec {a b : D} (h : cmpOk a b = true) : okD a = true ∧ okD b = true ∧ W.alike a b = true ∧ a ≠ .none := by
  unfold cmpOk at h
  obtain ⟨h1, h⟩ := Bool.and_eq_true_iff.mp h
  obtain ⟨h2, h⟩ := Bool.and_eq_true_iff.mp h
  obtain ⟨h3, h⟩ := Bool.and_eq_true_iff.mp h
  refine ⟨h1, h2, h3, ?_⟩
  rintro rfl
  cases h
theorem okSort_spec {ds : List D} (h : okSort ds = true) : (∀ d ∈ ds, okD d = true) ∧ W.AllAlike ds ∧ W.Sortable ds := by
  unfold okSort at h
  obtain ⟨h1, h⟩ := Bool.and_eq_true_iff.mp h
  obtain ⟨h2, h⟩ := Bool.and_eq_true_iff.mp h
  refine ⟨List.all_eq_true.mp h1, fun d hd e he => List.all_eq_true.mp (List.all_eq_true.mp h2 d hd) e he, ?_⟩
  rcases Bool.or_eq_true_iff.mp h with h | h
  · refine .inl fun d hd => ?_
    have := List.all_eq_true.mp h d hd
    unfold tup1 at this
    split at this
    · exact ⟨_, _, rfl⟩
    · cases this
  · refine .inr fun d hd => ?_
    have := List.all_eq_true.mp h d hd
    constructor
    · rintro rfl
      cases this
    · rintro xs rfl
      cases this
section
variable {X : Cz}
abbrev zipSort (xs : List V) (ds : List D) : List (V × D) := (xs.zip ds).mergeSort fun p q => leD p.2 q.2
def rSortedD (K : FgK) : List V → Hp → VK → Prop := fun vs H Q => ∃ (a : Addr) (xs : List V) (ds : List D), vs = [V.ref a] ∧ SqL K H a xs ∧ DpAll K H xs ds ∧ okSort ds = true ∧
  ∀ p, H p = none → Q (.ref p) (upd H p (.lst ((zipSort xs ds).map Prod.fst)))
theorem zip_each {R : Value → D → Prop} : ∀ {xs : List V} {its : List Value} {ds : List D}, Vals xs its → W.EachIs R its ds → W.EachIs (fun v (b : V × D) => RelV b.1 v ∧ R v b.2) its (xs.zip ds)
  | _, _, _, .nil, .nil => .nil
  | _, _, _, .cons r q, .cons a b => .cons ⟨r, a⟩ (zip_each q b)
theorem dp_len {K : FgK} {H : Hp} : ∀ {xs : List V} {ds : List D}, DpAll K H xs ds → xs.length = ds.length
  | _, _, .nil => rfl
  | _, _, .cons _ r => by rw [List.length_cons, List.length_cons, dp_len r]
theorem each_vals : ∀ {out : List Value} {bs : List (V × D)}, W.EachIs (fun v (b : V × D) => RelV b.1 v) out bs → Vals (bs.map Prod.fst) out
  | _, _, .nil => .nil
  | _, _, .cons a r => .cons a (each_vals r)
theorem cr_sortedD (hu : X.A.units + 64 < cLine) : CallR X (.builtin "sorted") (rSortedD X.fr) := by
  intro pins s σ H vs us Q I r h
  obtain ⟨a, xs, ds, rfl, hs, hd, ho, q⟩ := h
  obtain ⟨o1, o2, o3⟩ := okSort_spec ho
  obtain ⟨its, rv, hl, hz⟩ := I.list hs
  obtain ⟨u, rfl, ru⟩ := vals1 r
  obtain rfl : u = Value.ref a := ru
  obtain ⟨as, rr⟩ := Dp.readsAll I ds xs its hd rv
  have len := dp_len hd
  have e0 : W.EachIs (fun v d => ∃ as, Reads s.heap v d as) its ds := W.readsAll_each (enc := fun d => d) (by rw [List.map_id']; exact rr)
  have e1 := zip_each rv e0
  have es : (xs.zip ds).map Prod.snd = ds := List.map_snd_zip (Nat.le_of_eq len.symm)
  refine W.sorted_data (enc := Prod.snd) (R := fun v (b : V × D) => RelV b.1 v) hl.isList (e1.mono fun _ _ h => h.1) (e1.mono fun _ _ h => h.2) (by rw [es]; exact o2) (by rw [es]; exact o3) ?_ (fun b hb => ?_) fun out hlen ho => ?_
  · rw [List.length_zip, ← len, Nat.min_self]
    exact hz
  · have : b.2 ∈ ds := (List.of_mem_zip hb).2
    have := okD_depth (o1 _ this)
    omega
  · obtain ⟨n, hn⟩ := sortedAll_at s.heap its (List.toArray out)
    have hd' : s.heap.objs.size ≤ s.heap.objs.size + 1 := Nat.le_succ _
    refine ⟨.ref (s.heap.objs.size + 1), upd H (s.heap.objs.size + 1) (.lst ((zipSort xs ds).map Prod.fst)), I.laid (t' := s.toks) (fun b o e => sortedAll_old e) hd' ⟨?_, out, n, each_vals ho, hn⟩, rfl, q _ (I.hok.fresh hd')⟩
    rw [List.length_map, List.length_mergeSort, List.length_zip, ← len, Nat.min_self]
    exact hz
end
section
variable {K : FgX}
def gSortD : List D → Option (List D)
  | [.list ds] => if okSort ds = true then some (srtD ds) else none
  | _ => none
theorem at_zip {F : Hp} : ∀ {ds : List D} {xs : List V}, AtAll K F ds xs → xs.length = ds.length ∧ ∀ p ∈ xs.zip ds, At K F p.2 p.1
  | [], xs, h => by
    simp only [AtAll] at h
    subst h
    exact ⟨rfl, fun p hp => nomatch hp⟩
  | d :: ds, xs, h => by
    simp only [AtAll] at h
    obtain ⟨x, r, rfl, a, q⟩ := h
    obtain ⟨h1, h2⟩ := at_zip q
    refine ⟨by rw [List.length_cons, List.length_cons, h1], fun p hp => ?_⟩
    rcases List.mem_cons.mp (show p ∈ (x, d) :: r.zip ds from hp) with rfl | hp
    · exact a
    · exact h2 p hp
theorem of_pairs {F : Hp} : ∀ {ps : List (V × D)}, (∀ p ∈ ps, At K F p.2 p.1) → AtAll K F (ps.map Prod.snd) (ps.map Prod.fst)
  | [], _ => AtAll.nil
  | p :: r, h => AtAll.cons (h p List.mem_cons_self) (of_pairs fun q hq => h q (List.mem_cons_of_mem _ hq))
theorem zipSort_snd {xs : List V} {ds : List D} (h : xs.length = ds.length) : (zipSort xs ds).map Prod.snd = srtD ds := by
  unfold zipSort srtD
  rw [W.sort_maps (r := fun p q : V × D => leD p.2 q.2) (s := leD) Prod.snd (fun _ _ _ _ => rfl), List.map_snd_zip (Nat.le_of_eq h.symm)]
theorem plain_of : ∀ {ds : List D}, (∀ d ∈ ds, okD d = true) → PyData.plainAll ds = true
  | [], _ => rfl
  | d :: r, h => by
    simp only [PyData.plainAll, okD_plain (h d List.mem_cons_self), Bool.true_and]
    exact plain_of fun x hx => h x (List.mem_cons_of_mem _ hx)
theorem okSort_plain {ds : List D} (h : okSort ds = true) : PyData.plainAll ds = true := plain_of (okSort_spec h).1
theorem l_sortD : LCF K (rSortedD K) gSortD := fun C σ H F env xs ds es Q R a e k => by
  unfold gSortD at e
  split at e
  · split at e
    · rename_i ho
      cases e
      obtain ⟨x, rfl, w⟩ := a.one
      obtain ⟨p, zs, rfl, e1, a2⟩ := w
      refine ⟨p, zs, _, rfl, SqL.of e1, AtAll.dp _ _ (okSort_plain ho) (AtAll.mono R.frz _ _ a2), ho, fun l hl => ?_⟩
      obtain ⟨s, f, h, n⟩ := R.alloc0 (o := .lst ((zipSort zs _).map Prod.fst)) hl
      refine k l _ F s f h n hl ?_
      obtain ⟨z1, z2⟩ := at_zip a2
      rw [← zipSort_snd z1]
      exact of_pairs fun q hq => z2 q ((List.mergeSort_perm _ _).mem_iff.mp hq)
    · cases e
  · cases e
end
theorem okSort_strs (ys : List Str) : okSort (ys.map .str) = true := by
  have h1 : (ys.map PyData.str).all okD = true := List.all_eq_true.mpr fun x hx => by
    obtain ⟨y, _, rfl⟩ := List.mem_map.mp hx
    exact okD_of (okI_str y)
  have h2 : (ys.map PyData.str).all noTup = true := List.all_eq_true.mpr fun x hx => by
    obtain ⟨y, _, rfl⟩ := List.mem_map.mp hx
    rfl
  have h3 : ((ys.map PyData.str).all fun d => (ys.map PyData.str).all fun e => W.alike d e) = true := List.all_eq_true.mpr fun x hx => List.all_eq_true.mpr fun z hz => by
    obtain ⟨y, _, rfl⟩ := List.mem_map.mp hx
    obtain ⟨y2, _, rfl⟩ := List.mem_map.mp hz
    rfl
  unfold okSort
  rw [h1, h2, h3, Bool.or_true]
  rfl
theorem leD_str (a b : Str) : leD (.str a) (.str b) = !ltS b a := by
  have h := congrFun (congrFun (W.dataLe_str (fun b : Str => b)) a) b
  have h : leD (.str a) (.str b) = decide (a.cps.toList ≤ b.cps.toList) := h
  rw [h]
  unfold ltS
  by_cases c : b.cps.toList < a.cps.toList
  · rw [decide_eq_true c, decide_eq_false fun z => z c]
    rfl
  · rw [decide_eq_false c]
    exact decide_eq_true (show a.cps.toList ≤ b.cps.toList from c)
theorem srtD_strs (ys : List Str) : srtD (ys.map .str) = (sortS ys).map .str := by
  unfold srtD
  rw [← W.sort_maps (r := fun a b : Str => !ltS b a) (s := leD) PyData.str fun a _ b _ => (leD_str a b).symm]
  congr 1
  refine sortS_of (List.mergeSort_perm _ _) ?_
  have tot : W.TotalLe fun a b : Str => !ltS b a := ⟨fun a b c h g => ?_, fun a b => ?_⟩
  · refine (W.sort_pairwise tot ys).imp fun {a b} h => ?_
    simpa [leS] using h
  · have h : leS a b := by simpa [leS] using h
    have g : leS b c := by simpa [leS] using g
    have := leS_tr h g
    simpa [leS] using this
  · cases q : ltS b a with
    | false => exact .inl rfl
    | true => exact .inr (by rw [ltS_as q]; rfl)
theorem gSortD_s {ys : List Str} : gSortD [.list (ys.map .str)] = some ((sortS ys).map .str) := by
  show (if okSort (ys.map PyData.str) = true then some (srtD (ys.map PyData.str)) else none) = _
  rw [if_pos (okSort_strs ys), srtD_strs]
end Sw

set_option Elab.async false
set_option linter.all false
set_option maxRecDepth 100000
namespace Sw
open PySem PySem.Spec L2
section
variable {X : Cz}
def qNeg (A : PE') : PE' := fun env Q => A env fun o env1 => ∃ i, o.rd env1 = some (.int i) ∧ Q (.dv (.int (-i))) env1
theorem q_neg {a : Expr} {A : PE'} {pos : Pos} (h : EV X a A) : EV X (.UnaryOp .USub a pos) (qNeg A) := by
  obtain ⟨t, h1, l1⟩ := h.ex
  refine ⟨_, pe_un un_neg h1, fun C σ H F env Q Qp R k q => ?_⟩
  refine l1 C σ H F env _ _ R (fun v H1 F1 env1 o s1 a1 q1 => ?_) q
  obtain ⟨i, e, q1⟩ := q1
  have w := rd_vw s1.rel a1 e
  exact ⟨i, w.int, k (.int (-i)) H1 F1 env1 (.dv (.int (-i))) s1 (by simp [OvOk, At]) q1⟩
end
/-- the slots' names do not matter -/
theorem pure_ren {M N : List Str} (h : M.length = N.length) {T : PS'} {l : Bool} {sp : PSp} (p : ∀ fl ds Q, (l = true ↔ fl ≠ none) → sp fl ds Q → T (endsOf l Q) (startE l N fl ds)) : ∀ fl ds Q, (l = true ↔ fl ≠ none) → sp fl ds Q → T (endsOf l Q) (startE l M fl ds) := fun fl ds Q a b => by
  have e : startE l M fl ds = startE l N fl ds := by
    unfold startE
    rw [h]
  rw [e]
  exact p fl ds Q a b
end Sw

set_option Elab.async false
set_option linter.all false
set_option maxRecDepth 100000
namespace Sw
open PySem PySem.Spec L2
section
variable {X : Cz} {K : FgX}
def tyD (T : String) : D → Prop
  | .str _ => T = "str"
  | .list _ => T = "list"
  | _ => False
def LMV (K : FgX) (r : V → List V → Hp → VK → Prop) (g : D → List D → Option D) : Prop := ∀ (C : Ec) (σ : L2.St) (H F : Hp) (env : List SV) (x : V) (xs : List V) (dx : D) (ds : List D) (d : D) (Q : VK), Rel K C σ H F env → Vw K H F dx x → VwAll K H F ds xs → g dx ds = some d →
  (∀ v H' F', Stp K C σ H F env H' F' env → At K F' d v → Q v H') → r x xs H Q
def LMF (K : FgX) (r : V → List V → Hp → VK → Prop) (g : D → List D → Option (List D)) : Prop := ∀ (C : Ec) (σ : L2.St) (H F : Hp) (env : List SV) (x : V) (xs : List V) (dx : D) (ds es : List D) (Q : VK), Rel K C σ H F env → Vw K H F dx x → VwAll K H F ds xs → g dx ds = some es →
  (∀ p ys F', (Stp K C σ H F env (upd H p (.lst ys)) F' env) → F' p = none → C.H0 p = none → ¬ Own σ env p → H p = none → AtAll K F' es ys → Q (.ref p) (upd H p (.lst ys))) → r x xs H Q
def qVM (T : String) (g : D → List D → Option D) (A : PE') (U : PA') : PE' := fun env Q => A env fun o env1 => (∃ d0, o.rd env1 = some d0 ∧ tyD T d0) ∧ U env1 fun os env2 => ∃ d, o.rd env2 = some d ∧ ∃ ds, rdAll env2 os = some ds ∧ ∃ r, g d ds = some r ∧ Q (.dv r) env2
def fVM (T : String) (g : D → List D → Option (List D)) (A : PE') (U : PA') : PF' := fun env Q => A env fun o env1 => (∃ d0, o.rd env1 = some d0 ∧ tyD T d0) ∧ U env1 fun os env2 => ∃ d, o.rd env2 = some d ∧ ∃ ds, rdAll env2 os = some ds ∧ ∃ r, g d ds = some r ∧ Q r env2
theorem ty_vw {T : String} {H F : Hp} {d : D} {v : V} (h : tyD T d) (a : Vw K H F d v) : tyV K T v H := by
  cases d with
  | str z =>
    have a : At K F (.str z) v := a
    simp only [At] at a
    subst a
    exact h
  | list ds =>
    obtain ⟨p, xs, rfl, e, _⟩ := a
    exact .inl ⟨h, xs, SqL.of e⟩
  | _ => exact h.elim
theorem q_vm {T id : String} {r : V → List V → Hp → VK → Prop} {g : D → List D → Option D} {name : Str} {a e : Expr} {es : List Expr} {A : PE'} {U : PA'} {apos cpos : Pos} (hl : LMV X.fr r g) (pa : PlainAttrs T) (slot : Slot T name id) (hty : typeOf (.builtin id) = pure (.type "method_descriptor")) (hm : MtR X id r)
    (ha : EV X a A) (hu : EA X (e :: es) U) (hbase : attributeBase a name X.env (eval a X.env) = eval a X.env := by rfl)
    (hfew : ((backTo cpos (starEach (e :: es) X.env)).all (fun x => !x.1) && (backToKw cpos (keywordEach [] X.env)).all (fun x => x.1.isSome)
      && decide ((e :: es).length + ([] : List Keyword).length + (if ([] : List Keyword).isEmpty then 0 else 1) < 30)) = true := by rfl)
    (hline : (apos.endLine == cpos.line) = true := by rfl) (hs : starEach (e :: es) X.env = (false, eval e X.env) :: starEach es X.env := by rfl) (hplain : (backTo cpos (starEach es X.env)).any (·.1) = false := by rfl) :
    EV X (.Call (.Attribute a name apos) (e :: es) [] cpos) (qVM T g A U) := by
  obtain ⟨t, h1, l1⟩ := ha.ex
  obtain ⟨u, h2, l2⟩ := hu.ex
  refine ⟨_, pe_bm pa slot hty hm h1 h2 hbase hfew hline hs hplain, fun C σ H F env Q Qp R k q => ?_⟩
  refine l1 C σ H F env _ _ R (fun v H1 F1 env1 o s1 a1 q1 => ?_) q
  obtain ⟨⟨d0, e0, ht⟩, q1⟩ := q1
  refine ⟨ty_vw ht (rd_vw s1.rel a1 e0), ?_⟩
  refine l2 C σ H1 F1 env1 _ _ s1.rel (fun vs H2 F2 env2 os s2 a2 q2 => ?_) q1
  obtain ⟨d, e1, ds, e2, r, e3, q2⟩ := q2
  exact hl C σ H2 F2 env2 v vs d ds r Q s2.rel (rd_vw s2.rel (a1.mono s2.ff) e1) (rdAll_vw s2.rel a2 e2) e3 fun v H' F' s3 a3 => k v H' F' env2 (.dv r) ((s1.trans s2).trans s3) a3 q2
theorem f_vm {T id : String} {r : V → List V → Hp → VK → Prop} {g : D → List D → Option (List D)} {name : Str} {a e : Expr} {es : List Expr} {A : PE'} {U : PA'} {apos cpos : Pos} (hl : LMF X.fr r g) (pa : PlainAttrs T) (slot : Slot T name id) (hty : typeOf (.builtin id) = pure (.type "method_descriptor")) (hm : MtR X id r)
    (ha : EV X a A) (hu : EA X (e :: es) U) (hbase : attributeBase a name X.env (eval a X.env) = eval a X.env := by rfl)
    (hfew : ((backTo cpos (starEach (e :: es) X.env)).all (fun x => !x.1) && (backToKw cpos (keywordEach [] X.env)).all (fun x => x.1.isSome)
      && decide ((e :: es).length + ([] : List Keyword).length + (if ([] : List Keyword).isEmpty then 0 else 1) < 30)) = true := by rfl)
    (hline : (apos.endLine == cpos.line) = true := by rfl) (hs : starEach (e :: es) X.env = (false, eval e X.env) :: starEach es X.env := by rfl) (hplain : (backTo cpos (starEach es X.env)).any (·.1) = false := by rfl) :
    EF X (.Call (.Attribute a name apos) (e :: es) [] cpos) (fVM T g A U) := by
  obtain ⟨t, h1, l1⟩ := ha.ex
  obtain ⟨u, h2, l2⟩ := hu.ex
  refine ⟨_, pe_bm pa slot hty hm h1 h2 hbase hfew hline hs hplain, fun C σ H F env Q Qp R k q => ?_⟩
  refine l1 C σ H F env _ _ R (fun v H1 F1 env1 o s1 a1 q1 => ?_) q
  obtain ⟨⟨d0, e0, ht⟩, q1⟩ := q1
  refine ⟨ty_vw ht (rd_vw s1.rel a1 e0), ?_⟩
  refine l2 C σ H1 F1 env1 _ _ s1.rel (fun vs H2 F2 env2 os s2 a2 q2 => ?_) q1
  obtain ⟨d, e1, ds, e2, r, e3, q2⟩ := q2
  exact hl C σ H2 F2 env2 v vs d ds r Q s2.rel (rd_vw s2.rel (a1.mono s2.ff) e1) (rdAll_vw s2.rel a2 e2) e3 fun p ys F' s3 f h n hn ay => k p ys r _ F' env2 ((s1.trans s2).trans s3) upd_same f h n (s1.dm p (s2.dm p hn)) ay q2
def gIndex : D → List D → Option D
  | .list ds, [d] => if SeqAt.shaped (.list ds) = true ∧ SeqAt.shaped d = true then (ds.findIdx? fun z => PyData.eqv z d).map fun j => .int (j : Nat) else none
  | _, _ => none
theorem l_index : LMV K (rIndexD K) gIndex := fun C σ H F env x xs dx ds d Q R a b e k => by
  unfold gIndex at e
  split at e
  · rename_i es dd
    split at e
    · rename_i ho
      cases q : es.findIdx? (fun z => PyData.eqv z dd) with
      | none => rw [q] at e; cases e
      | some j =>
        rw [q] at e
        cases e
        obtain ⟨y, rfl, w⟩ := b.one
        obtain ⟨p, ys, rfl, e1, a2⟩ := a
        have hp1 : PyData.plainAll es = true := PyData.plainAll_of_canLay0 _ (SeqAt.canLay_of_shaped ho.1)
        have hp2 : dd.plain = true := PyData.plain_of_canLay0 _ (SeqAt.canLay_of_shaped ho.2)
        obtain ⟨hj, h1, h2⟩ := List.findIdx?_eq_some_iff_getElem.mp q
        refine ⟨p, y, dd, es, j, es[j], rfl, rfl, .lst (SqL.of e1) (AtAll.dp _ _ hp1 (AtAll.mono R.frz _ _ a2)), w.dp R.frz hp2, ho.1, ho.2, List.getElem?_eq_getElem hj, h1, fun m z hm hz => ?_, k _ H F (Stp.refl R) (by simp [At])⟩
        have hml : m < es.length := by omega
        rw [List.getElem?_eq_getElem hml] at hz
        cases hz
        simpa using h2 m hm
    · cases e
  · cases e
end
end Sw

set_option Elab.async false
set_option linter.all false
set_option maxRecDepth 100000
/-! sorted(xs, key=f), f a def of the program: the calls may make tracked things -/
namespace Sw
open PySem PySem.Spec PySem.Calls PyProof.Rows
end Sw
namespace Sw
open PySem PySem.Spec L2 FbM PyProof.Rows
end Sw

set_option Elab.async false
set_option linter.all false
set_option maxRecDepth 100000
namespace Sw
open PySem PySem.Spec L2
section
variable {X : Cz}
def pKeys (sp : PSp) : List D → List D → (List D → Prop) → Prop
  | [], acc, Q => Q acc
  | x :: r, acc, Q => sp none [x] fun rv _ => ∃ kd, rv = .dt kd ∧ pKeys sp r (acc ++ [kd]) Q
/-- xs in the order of the keys ks -/
def byKeys (xs ks : List D) : List D := ((xs.zip ks).mergeSort fun p q => leD p.2 q.2).map Prod.fst
def fSortK (sp : PSp) (A : PE') : PF' := fun env Q => A env fun o env1 => ∃ xs, o.rd env1 = some (.list xs) ∧ pKeys sp xs [] fun ks => okSort ks = true ∧ Q (byKeys xs ks) env1
end
end Sw

set_option Elab.async false
set_option linter.all false
set_option maxRecDepth 100000
namespace Sw
open PySem PySem.Spec PyProof.Rows
theorem roomU {k : Nat} {A : Around} (r : L2.Room k A) : A.units + 65 < cLine := by
  have := r.un
  omega
end Sw
namespace Sw
open PySem PySem.Spec L2
end Sw

set_option Elab.async false
set_option linter.all false
set_option maxRecDepth 100000
namespace Sw
open PySem PySem.Spec L2
section
variable {K : FgX}
def gIsB (neg : Bool) : D → D → Option D
  | .bool a, .bool b => some (.bool (if neg = true then !decide (a = b) else decide (a = b)))
  | _, _ => none
theorem gIsB_bb {a b : Bool} : gIsB false (.bool a) (.bool b) = some (.bool (decide (a = b))) := rfl
theorem gNotB_bb {a b : Bool} : gIsB true (.bool a) (.bool b) = some (.bool (!decide (a = b))) := rfl
end
end Sw

set_option Elab.async false
set_option linter.all false
set_option maxRecDepth 100000
namespace Sw
open PySem PySem.Spec L2
def restE (env1 : List SV) (env2 : List SV) : List Nat → List SV
  | [] => env2
  | v :: vs => (restE env1 env2 vs).set v (env1.getD v .un)
theorem restE_len (env1 env2 : List SV) : ∀ vs : List Nat, (restE env1 env2 vs).length = env2.length
  | [] => rfl
  | v :: vs => by unfold restE; rw [List.length_set, restE_len env1 env2 vs]
theorem restE_oth {env1 env2 : List SV} {j : Nat} : ∀ {vs : List Nat}, j ∉ vs → (restE env1 env2 vs)[j]? = env2[j]?
  | [], _ => rfl
  | v :: vs, h => by
    simp only [List.mem_cons, not_or] at h
    unfold restE
    rw [List.getElem?_set_ne (Ne.symm h.1)]
    exact restE_oth h.2
theorem restE_mem {env1 env2 : List SV} (hl : env1.length = env2.length) {j : Nat} : ∀ {vs : List Nat}, j ∈ vs → (restE env1 env2 vs)[j]? = env1[j]?
  | v :: vs, h => by
    unfold restE
    by_cases q : v = j
    · subst q
      by_cases hv : v < env2.length
      · rw [List.getElem?_set_self (by rw [restE_len]; exact hv), List.getD_eq_getElem?_getD, List.getElem?_eq_getElem (by omega)]
        rfl
      · rw [List.getElem?_eq_none (by rw [List.length_set, restE_len]; omega), List.getElem?_eq_none (by omega)]
    · rw [List.getElem?_set_ne q]
      rcases List.mem_cons.mp h with z | z
      · exact absurd z.symm q
      · exact restE_mem hl z
theorem wipeE_wipeE (env : List SV) (vs : List Nat) : wipeE (wipeE env vs) vs = wipeE env vs := by
  apply List.ext_getElem?
  intro j
  by_cases hj : j ∈ vs
  · cases z : (wipeE env vs)[j]? with
    | none =>
      rw [List.getElem?_eq_none_iff] at z ⊢
      rw [wipeE_len]; exact z
    | some sv =>
      have z1 := wipeE_mem hj z
      have hjl : j < (wipeE (wipeE env vs) vs).length := by
        rw [wipeE_len]
        exact (List.getElem?_eq_some_iff.mp z).1
      have z2 := wipeE_mem hj (List.getElem?_eq_getElem hjl)
      rw [List.getElem?_eq_getElem hjl, z2, z1]
  · rw [wipeE_oth hj]
section
variable {K : FgX} {C : Ec} {σ : L2.St} {H F H1 F1 : Hp} {env1 env2 : List SV} {vs : List Nat}
theorem Own.restore (hno : NoOwn env1 vs) (hw : wipeE env2 vs = env2) (hl : env1.length = env2.length := by first | assumption | omega) {b : Addr} : Own σ (restE env1 env2 vs) b ↔ Own (L2.wipe σ vs) env2 b := by
  constructor
  · rintro ⟨j, l, ds, e, s⟩
    by_cases hj : j ∈ vs
    · rw [restE_mem hl hj] at e
      exact absurd e (hno.get j hj l ds)
    · rw [restE_oth hj] at e
      exact ⟨j, l, ds, e, by rw [wipe_oth hj]; exact s⟩
  · rintro ⟨j, l, ds, e, s⟩
    have e' := e
    rw [← hw] at e'
    have hj := (own_wipe e').1
    rw [wipe_oth hj] at s
    exact ⟨j, l, ds, by rw [restE_oth hj]; exact e, s⟩
theorem Stp.restore (s : Stp K C (L2.wipe σ vs) H1 F1 (wipeE env1 vs) H F env2) (R : Rel K C σ H1 F1 env1) (hno : NoOwn env1 vs) (hw : wipeE env2 vs = env2) : Stp K C σ H1 F1 env1 H F (restE env1 env2 vs) := by
  have R2 := s.rel
  have hl : env1.length = env2.length := by
    have a := R.len
    have b := R2.len
    rw [wipe_length] at b
    omega
  have hlE : env1.length = (wipeE env1 vs).length := (wipeE_len env1 vs).symm
  have ow : ∀ (j : Nat) (l : Bool) (ds : Ct), (restE env1 env2 vs)[j]? = some (SV.obj l ds) → j ∉ vs ∧ env2[j]? = some (SV.obj l ds) := fun j l ds h => by
    by_cases hj : j ∈ vs
    · rw [restE_mem hl hj] at h
      exact absurd h (hno.get j hj l ds)
    · rw [restE_oth hj] at h
      exact ⟨hj, h⟩
  have own1 : ∀ b, Own (L2.wipe σ vs) (wipeE env1 vs) b → Own σ env1 b := fun b ⟨j, l, ds, e, q⟩ => by
    obtain ⟨hj, e⟩ := own_wipe e
    rw [wipe_oth hj] at q
    exact ⟨j, l, ds, e, q⟩
  refine ⟨⟨⟨R2.frz, R2.mono, R2.new, R2.frame, R2.la, by rw [restE_len]; rw [← hl]; exact R.len, fun j sv e => ?_, fun j k l ds m es h1 h2 h3 => ?_⟩, R2.xok⟩, s.ff, fun b o h n => s.fr b o h fun z => n (own1 b z), fun b o h => ?_, fun j l ds h => ?_, s.dm⟩
  · by_cases hj : j ∈ vs
    · rw [restE_mem hl hj] at e
      have q := R.slot j sv e
      cases sv with
      | un => trivial
      | raw z => exact q
      | dat d =>
        obtain ⟨v, e1, a⟩ := q
        exact ⟨v, e1, At.mono s.ff d v a⟩
      | obj l ds => exact absurd e (hno.get j hj l ds)
    · rw [restE_oth hj] at e
      have q := R2.slot j sv e
      rw [wipe_oth hj] at q
      exact q
  · obtain ⟨n1, h1⟩ := ow j l ds h1
    obtain ⟨n2, h2⟩ := ow k m es h2
    refine R2.dist j k l ds m es h1 h2 ?_
    rw [wipe_oth n1, wipe_oth n2]
    exact h3
  · rcases s.fn b o h with z | z | z
    · exact .inl z
    · exact .inr (.inl z)
    · exact .inr (.inr (own1 b z))
  · obtain ⟨hj, h⟩ := ow j l ds h
    obtain ⟨ds', e⟩ := s.ow j l ds h
    exact ⟨ds', (own_wipe e).2⟩
end
def fLcR (I : PI') (G : TG') (TT : PT') (TE : PE') (vs : List Nat) : PF' := fun env Q => I env fun ds env1 => NoOwn env1 vs ∧ ds.length ≤ 16777215 ∧ pLc G TT TE vs (fun acc env2 => Q acc (restE env1 env2 vs)) ds [] (wipeE env1 vs)
section
variable {X : Cz}
theorem lcR_sound {wi : TI} {g : TG} {tt : TT} {te : TE} {K : FgX} {I : PI'} {S : List Nat} {G : TG'} {TT : PT'} {TE : PE'} {vs : List Nat} (l1 : LI K wi I) (l2 : LG K S g G) (l3 : LT K tt TT) (l4 : LE K te TE) (hS : ∀ j ∈ S, j ∈ vs) : LF K (tLc wi g tt te vs) (fLcR I G TT TE vs) := fun C σ H F env Q Qp R k q => by
  refine l1 C σ H F env _ _ R (fun J ds H1 F1 env1 s1 it q1 => ?_) q
  obtain ⟨hno, hlen, q1⟩ := q1
  obtain ⟨Gd, Y, w, gd, yd⟩ := it
  intro Dp hD
  obtain ⟨sD, fD, h0D, noD⟩ := s1.rel.alloc0 (o := .lst []) hD
  have hτ : L2.wipe (L2.wipe σ vs) vs = L2.wipe σ vs := wipe_wipe σ vs
  have R1 : Rel K C (L2.wipe σ vs) H1 F1 (wipeE env1 vs) := s1.rel.wipe vs
  generalize hE : wipeE env1 vs = envW at R1 q1
  have hw : wipeE envW vs = envW := by rw [← hE]; exact wipeE_wipeE env1 vs
  obtain ⟨sD', _, _, noD'⟩ := R1.alloc0 (o := .lst []) hD
  refine lc_it w (Pv := fun i H => ∃ F2 env2 acc accv, Stp K C (L2.wipe σ vs) H1 F1 envW H F2 env2 ∧ H Dp = some (.lst accv) ∧ F2 Dp = none ∧ ¬ Own (L2.wipe σ vs) env2 Dp ∧ AtAll K F2 acc accv ∧ acc.length ≤ i ∧ wipeE env2 vs = env2 ∧ pLc G TT TE vs (fun acc env2 => Qp acc (restE env1 env2 vs)) (ds.drop i) acc env2)
    ⟨F1, envW, [], [], sD', upd_same, fD, noD', AtAll.nil, Nat.le_refl _, hw, by simpa using q1⟩ (fun i H hi ⟨F2, env2, acc, accv, s2, _⟩ => gd H (s2.ff.trans' s2.rel.frz)) (fun i x H H' hi ⟨F2, env2, acc, accv, s2, hDl, fD2, noD2, aa, hl, hw2, q2⟩ y => ?_) (fun H ⟨F2, env2, acc, accv, s2, hDl, fD2, noD2, aa, hl, hw2, q2⟩ => ?_)
  · obtain ⟨F3, d, e, s3, a3⟩ := (YOk.mono s2.ff (yd i H x H' hi (s2.ff.trans' s2.rel.frz) y)).rel s2.rel
    have e2 : ds.drop i = d :: ds.drop (i + 1) := by
      obtain ⟨hlt, e4⟩ := List.getElem?_eq_some_iff.mp e
      rw [List.drop_eq_getElem_cons hlt, e4]
    rw [e2] at q2
    have acc3 := s2.trans s3
    have hD3 : H' Dp = some (.lst accv) := s3.fr _ _ hDl noD2
    have fD3 : F3 Dp = none := by
      cases qq : F3 Dp with
      | none => rfl
      | some u =>
        rcases s3.fn _ _ qq with z | z | z
        · rw [fD2] at z; cases z
        · rw [hDl] at z; cases z
        · exact absurd z noD2
    refine l2 C _ H' F3 env2 x d _ _ s3.rel a3 (fun σ2 env3 R3 tg q3 => ?_) q2
    have r3 : L2.wipe σ2 vs = L2.wipe σ vs := (Stp.under hτ hS acc3 tg (Stp.refl R3)).1
    refine ⟨r3, ?_⟩
    have no3 : ¬ Own σ2 env3 Dp := fun ⟨j, l, es, e1, e2⟩ => by
      by_cases hj : j ∈ S
      · obtain ⟨f1, f2⟩ := tg.mem j l es hj e1
        exact noD2 ⟨j, l, es, f1, f2 ▸ e2⟩
      · obtain ⟨f1, f2⟩ := tg.oth j hj
        exact noD2 ⟨j, l, es, f2 ▸ e1, f1 ▸ e2⟩
    refine l3 C σ2 H' F3 env3 _ _ R3 (fun b H5 F5 env5 s5 q5 => ?_) q3
    have hD5 : H5 Dp = some (.lst accv) := s5.fr _ _ hD3 no3
    have fD5 : F5 Dp = none := by
      cases qq : F5 Dp with
      | none => rfl
      | some u =>
        rcases s5.fn _ _ qq with z | z | z
        · rw [fD3] at z; cases z
        · rw [hD3] at z; cases z
        · exact absurd z no3
    cases b with
    | true =>
      rw [if_pos rfl] at q5 ⊢
      refine l4 C σ2 H5 F5 env5 _ _ s5.rel (fun v H6 F6 env6 o s6 a6 q6 => ?_) q5
      obtain ⟨y', env7, e7, q7⟩ := q6
      obtain ⟨F7, s7, a7⟩ := fz_ok s6.rel a6 e7
      have st := (s5.trans s6).trans s7
      have no5 : ¬ Own σ2 env5 Dp := fun z => no3 (Own.sub s5.ow z)
      have hD6 : H6 Dp = some (.lst accv) := (s6.fr _ _ hD5 no5)
      have fD7 : F7 Dp = none := by
        cases qq : F7 Dp with
        | none => rfl
        | some u =>
          rcases st.fn _ _ qq with z | z | z
          · rw [fD3] at z; cases z
          · rw [hD3] at z; cases z
          · exact absurd z no3
      obtain ⟨_, u7⟩ := Stp.under hτ hS acc3 tg st
      have no7 : ¬ Own (L2.wipe σ vs) (wipeE env7 vs) Dp := fun z => noD2 (by
        have z1 := Own.sub u7.ow z
        exact absurd z1 noD')
      refine ⟨accv, hD6, ?_, F7, wipeE env7 vs, acc ++ [y'], accv ++ [v], ?_, upd_same, fD7, no7, AtAll.app (AtAll.mono ((s3.ff.trans' st.ff)) _ _ aa) (AtAll.cons a7 AtAll.nil), by rw [List.length_append]; simp only [List.length_cons, List.length_nil]; omega, ?_, q7⟩
      · rw [aa.len, sizeLine_eq]
        have := hi
        omega
      · exact u7.other hD hD6 fD7 h0D no7
      · -- wiped twice
        apply List.ext_getElem?
        intro j
        by_cases hj : j ∈ vs
        · cases z : (wipeE env7 vs)[j]? with
          | none =>
            rw [List.getElem?_eq_none_iff] at z ⊢
            rw [wipeE_len]; exact z
          | some sv =>
            have z1 := wipeE_mem hj z
            have hjl : j < (wipeE (wipeE env7 vs) vs).length := by
              rw [wipeE_len]
              exact (List.getElem?_eq_some_iff.mp z).1
            have z2 := wipeE_mem hj (List.getElem?_eq_getElem hjl)
            rw [List.getElem?_eq_getElem hjl, z2, z1]
        · rw [wipeE_oth hj]
    | false =>
      rw [if_neg (by decide)] at q5 ⊢
      obtain ⟨_, u7⟩ := Stp.under hτ hS acc3 tg s5
      have no7 : ¬ Own (L2.wipe σ vs) (wipeE env5 vs) Dp := fun z => noD' (Own.sub u7.ow z)
      refine ⟨F5, wipeE env5 vs, acc, accv, u7, hD5, fD5, no7, AtAll.mono (s3.ff.trans' s5.ff) _ _ aa, by omega, ?_, q5⟩
      apply List.ext_getElem?
      intro j
      by_cases hj : j ∈ vs
      · cases z : (wipeE env5 vs)[j]? with
        | none =>
          rw [List.getElem?_eq_none_iff] at z ⊢
          rw [wipeE_len]; exact z
        | some sv =>
          have z1 := wipeE_mem hj z
          have hjl : j < (wipeE (wipeE env5 vs) vs).length := by
            rw [wipeE_len]
            exact (List.getElem?_eq_some_iff.mp z).1
          have z2 := wipeE_mem hj (List.getElem?_eq_getElem hjl)
          rw [List.getElem?_eq_getElem hjl, z2, z1]
      · rw [wipeE_oth hj]
  · rw [List.drop_length] at q2
    have q2 : Qp acc (restE env1 env2 vs) := q2
    subst hE
    have st : Stp K C σ H1 F1 env1 H F2 (restE env1 env2 vs) := s2.restore s1.rel hno hw2
    exact k Dp accv acc H F2 _ (s1.trans st) hDl fD2 h0D (fun z => noD2 ((Own.restore hno hw2 (by have a := s1.rel.len; have b := s2.rel.len; rw [wipe_length] at b; omega)).mp z)) (s1.dm _ hD) aa q2
theorem s_setLcR {i : Nat} {y : Str} {py : Pos} {elt tg iter : Expr} {ifs : List Expr} {scope : Scope} {own : List (Str × Nat)} {pos spos : Pos} {I : PI'} {S : List Nat} {G : TG'} {TT : PT'} {TE : PE'} (hc : X.calm = true) (hN : X.N.Nodup) (hy : X.N[i]? = some y) (hyl : X.env.scope.names.lookup y = some .local)
    (hsw : swapsWith (.ListComp elt [⟨tg, iter, ifs, 0⟩] scope pos) (some (.Name y py)) spos.line X.env = pure true) (ok : BlkOk X.N X.env.scope scope own) (hi : EI X tg iter I) (hg : Blk X scope fun Y => EG Y S tg G) (ht : Blk X scope fun Y => ETs Y ifs TT) (he : Blk X scope fun Y => EV Y elt TE)
    (hS : ∀ j ∈ S, j ∈ own.map (·.2) := by decide) (hs : ∀ x, foldedSetIterable iter X.env x = pure x := by intro _; rfl) : ES X (.Assign [.Name y py] (.ListComp elt [⟨tg, iter, ifs, 0⟩] scope pos) spos) (sAsg i (qF (fLcR I G TT TE (own.map (·.2))))) := by
  obtain ⟨wi, h1, l1⟩ := hi.ex
  obtain ⟨g, h2, l2⟩ := blk_g hg
  obtain ⟨tt, h3, l3⟩ := blk_ts ht
  obtain ⟨te, h4, l4⟩ := blk_ev he
  refine ⟨_, ps_setLc hc hN hy hyl hsw h1 ok h2 h3 h4 hs, fun C σ H F env D Dp R k q => ?_⟩
  refine (lcR_sound l1 l2 l3 l4 hS) C σ H F env _ _ R (fun p xs ds H1 F1 env1 s1 hp fp h0 no hn a q1 => ?_) q
  obtain ⟨d, env2, e, hl, q1⟩ := q1
  simp only [OV.fz, Option.some.injEq, Prod.mk.injEq] at e
  obtain ⟨rfl, rfl⟩ := e
  have ff : Le F1 (upd F1 p (.lst xs)) := fun b u h => by
    rw [upd_ne (ne_of_none h fp)]; exact h
  have R1 := s1.rel.freeze hp fp h0 no
  exact k.nx _ H1 _ _ (R1.assign (by rw [← R1.len]; exact hl) (At.list_of upd_same (AtAll.mono ff _ _ a))) (s1.ff.trans' ff) q1
end
theorem nob_d {d : D} : nob (some (.dat d)) ↔ True := Iff.rfl
theorem nob_u : nob (some .un) ↔ True := Iff.rfl
end Sw

set_option Elab.async false
set_option linter.all false
set_option maxRecDepth 100000
namespace Sw
open PySem PySem.Spec L2
theorem sSeq_abs {A B : PS'} {Dp : PEnds} {env : List SV} (h : ∀ B', B' = B → sSeq A B' Dp env) : sSeq A B Dp env := h B rfl
theorem sIf_abs {c : PT'} {A B : PS'} {Dp : PEnds} {env : List SV} (h : ∀ A' B', A' = A → B' = B → sIf c A' B' Dp env) : sIf c A B Dp env := h A B rfl rfl
end Sw

set_option Elab.async false
set_option linter.all false
set_option maxRecDepth 100000
namespace Sw
open PySem PySem.Spec L2
mutual
theorem eqv_data : ∀ a b : NestedKey, PyData.eqv a.data b.data = NestedKey.beq a b
  | .none, b => by cases b <;> simp [NestedKey.data, PyData.eqv, NestedKey.beq]
  | .num i, b => by
    cases b with
    | num j =>
      simp only [NestedKey.data, PyData.eqv, NestedKey.beq]
      by_cases h : i = j <;> simp [h]
    | _ => simp [NestedKey.data, PyData.eqv, NestedKey.beq]
  | .text x, b => by
    cases b with
    | text y =>
      simp only [NestedKey.data, PyData.eqv, NestedKey.beq]
      by_cases h : x = y <;> simp [h]
    | _ => simp [NestedKey.data, PyData.eqv, NestedKey.beq]
  | .tup ks, b => by
    cases b with
    | tup ls =>
      simp only [NestedKey.data, PyData.eqv, NestedKey.beq]
      exact eqv_datas ks ls
    | _ => simp [NestedKey.data, PyData.eqv, NestedKey.beq]
theorem eqv_datas : ∀ ks ls : List NestedKey, PyData.eqvAll (NestedKey.datas ks) (NestedKey.datas ls) = NestedKey.beqAll ks ls
  | [], [] => rfl
  | [], _ :: _ => rfl
  | _ :: _, [] => rfl
  | k :: ks, l :: ls => by
    simp only [NestedKey.datas, PyData.eqvAll, NestedKey.beqAll]
    rw [eqv_data k l, eqv_datas ks ls]
end
theorem eqv_nk (a b : NestedKey) : PyData.eqv (nkD a) (nkD b) = decide (a = b) := by
  rw [NestedKey.decide_eq]
  exact eqv_data a b
/-- the dict behind a store -/
def putD (kds : List (D × D)) (k v : D) : List (D × D) := if (lookD kds k).isSome = true then kds.map fun p => if PyData.eqv p.1 k = true then (p.1, v) else p else kds ++ [(k, v)]
section
variable {X : Cz} {pins : List (Addr × Obj)} {σ : L2.St} {H F : Hp} {s : Shared}
theorem key_at {K : FgK} {kk : Key} {x : V} (h : At K F (kD kk) x) : x = kV kk := by
  cases kk with
  | inl i => simpa [kD, At, kV] using h
  | inr z => simpa [kD, At, kV] using h
end
end Sw

set_option Elab.async false
set_option linter.all false
set_option maxRecDepth 100000
namespace Sw
open PySem PySem.Spec L2
end Sw

set_option Elab.async false
set_option linter.all false
set_option maxRecDepth 100000
namespace Sw
open PySem PySem.Spec L2
section
variable {X : Cz}
def sRaise : PS' := fun _ _ => False
theorem s_raise {a b : Option Expr} {pos : Pos} : ES X (.Raise a b pos) sRaise := ⟨fun _ _ _ => False, ⟨fun pins s σ H D I h => h.elim⟩, fun C σ H F env D Dp R k q => q⟩
def sAsgD (i : Nat) (t : Bool) : PS' := fun Dp env => i < env.length ∧ Dp.nx (env.set i (.dic t []))
def KeyO : Option Bool → List (D × D) → D → Prop
  | some t, _, k => KeyT t k
  | none, kds, k => ∃ t, (∃ p ∈ kds, KeyT t p.1) ∧ KeyT t k
def qDIn (neg : Bool) (A B : PE') : PE' := fun env Q => A env fun o1 env1 => B env1 fun o2 env2 => ∃ k, o1.rd env2 = some k ∧ ∃ ot kds, o2.dic env2 = some (ot, kds) ∧ KeyO ot kds k ∧ Q (.dv (.bool (if neg = true then !(lookD kds k).isSome else (lookD kds k).isSome))) env2
def qDGet (A B : PE') : PE' := fun env Q => A env fun o1 env1 => B env1 fun o2 env2 => ∃ ot kds, o1.dic env2 = some (ot, kds) ∧ ∃ k, o2.rd env2 = some k ∧ KeyO ot kds k ∧ ∃ d, lookD kds k = some d ∧ Q (.dv d) env2
def sPutD (i : Nat) (A B : PE') : PS' := fun Dp env => A env fun o env1 => ∃ d env2, o.fz env1 = some (d, env2) ∧ (∃ t0 ks0, env2[i]? = some (.dic t0 ks0)) ∧ B env2 fun ok env3 => ∃ k env4, ok.fz env3 = some (k, env4) ∧ ∃ t kds, env4[i]? = some (.dic t kds) ∧ KeyT t k ∧ kds.length < sizeLine ∧ Dp.nx (env4.set i (.dic t (putD kds k d)))
def sFrzD (i : Nat) (S : PS') : PS' := fun Dp env => ∃ t kds, env[i]? = some (.dic t kds) ∧ S Dp (env.set i (.dat (.dict kds)))
end
end Sw

set_option Elab.async false
set_option linter.all false
set_option maxRecDepth 100000
namespace Sw
open PySem PySem.Spec L2 PySem.Calls PyProof.Rows
section
variable {X : Cz} {pins : List (Addr × Obj)} {σ : L2.St} {H F : Hp} {s : Shared} {a : Addr} {o : HO} {t : Bool} {kds : List (D × D)}
mutual
theorem reads_there {h : Heap} {a : Addr} : ∀ (d : PyData) (v : Value) (as : List Addr), d.plain = true → Reads h v d as → a ∈ as → ∃ o, h.get? a = some o
  | .none, _, _, _, r, m => by cases r; cases m
  | .bool _, _, _, _, r, m => by cases r; cases m
  | .int _, _, _, _, r, m => by cases r; cases m
  | .str _, _, _, _, r, m => by cases r; cases m
  | .list xs, _, _, p, r, m => by
    cases r with
    | list h1 h2 h3 h4 =>
      rcases List.mem_cons.mp m with rfl | m
      · exact ⟨_, h1⟩
      · exact reads_thereAll xs _ _ (by simpa [PyData.plain] using p) h4 m
  | .tuple xs, _, _, p, r, m => by
    cases r with
    | tuple h1 h2 h3 h4 => exact reads_thereAll xs _ _ (by simpa [PyData.plain] using p) h4 m
  | .dict _, _, _, p, _, _ => nomatch p
theorem reads_thereAll {h : Heap} {a : Addr} : ∀ (ds : List PyData) (vs : List Value) (as : List Addr), PyData.plainAll ds = true → ReadsAll h vs ds as → a ∈ as → ∃ o, h.get? a = some o
  | [], _, _, _, r, m => by cases r; cases m
  | d :: ds, _, _, p, r, m => by
    have p' : d.plain = true ∧ PyData.plainAll ds = true := by simpa [PyData.plainAll] using p
    cases r with
    | cons h1 h2 =>
      rcases List.mem_append.mp m with m | m
      · exact reads_there d _ _ p'.1 h1 m
      · exact reads_thereAll ds _ _ p'.2 h2 m
end
end
end Sw

set_option Elab.async false
set_option linter.all false
set_option maxRecDepth 100000
namespace Sw
open PySem PySem.Spec L2
section
variable {X : Cz} {K : FgX}
def gListDic : List D → Option (List D)
  | [.dict kds] => some (kds.map Prod.fst)
  | _ => none
theorem gListDic_1 {kds : List (D × D)} : gListDic [.dict kds] = some (kds.map Prod.fst) := rfl
def qDGetO (A B C : PE') : PE' := fun env Q => A env fun o1 env1 => (∃ p, o1.dic env1 = some p) ∧ B env1 fun o2 env2 => C env2 fun o3 env3 => ∃ d env4, o3.fz env3 = some (d, env4) ∧ ∃ ot kds, o1.dic env4 = some (ot, kds) ∧ ∃ k, o2.rd env4 = some k ∧ KeyO ot kds k ∧ Q (.dv ((lookD kds k).getD d)) env4
end
end Sw

set_option Elab.async false
set_option linter.all false
set_option maxRecDepth 100000
namespace Sw
open PySem PySem.Spec L2 PyProof.Rows
section
variable {X : Cz} {K : FgX}
def iKeysD (A : PE') : PI' := fun env Q => A env fun o env1 => ∃ kds, o.fz env1 = some (.dict kds, env1) ∧ Q (kds.map Prod.fst) env1
end
end Sw

set_option Elab.async false
set_option linter.all false
set_option maxRecDepth 100000
namespace Sw
open PySem PySem.Spec L2
theorem ex_pr {α β : Type} {a : α} {b : β} {P : α → β → Prop} : (∃ x y, some (a, b) = some (x, y) ∧ P x y) ↔ P a b := ⟨fun ⟨_, _, e, h⟩ => by cases e; exact h, fun h => ⟨a, b, rfl, h⟩⟩
theorem ex_pr0 {α : Type} {a : α} : (∃ p : α, some a = some p) ↔ True := ⟨fun _ => trivial, fun _ => ⟨a, rfl⟩⟩
theorem ex_dic {t : Bool} {kds : List (D × D)} {P : Bool → List (D × D) → Prop} : (∃ t' k', some (SV.dic t kds) = some (SV.dic t' k') ∧ P t' k') ↔ P t kds := ⟨fun ⟨_, _, e, h⟩ => by cases e; exact h, fun h => ⟨t, kds, rfl, h⟩⟩
theorem ex_dic0 {t : Bool} {kds : List (D × D)} : (∃ t' k', some (SV.dic t kds) = some (SV.dic t' k')) ↔ True := ⟨fun _ => trivial, fun _ => ⟨t, kds, rfl⟩⟩
theorem ex_kds {kds : List (D × D)} {e : List SV} {P : List (D × D) → Prop} : (∃ k', some (PyData.dict kds, e) = some (.dict k', e) ∧ P k') ↔ P kds := ⟨fun ⟨_, e, h⟩ => by cases e; exact h, fun h => ⟨kds, rfl, h⟩⟩
theorem keyO_some {t : Bool} {kds : List (D × D)} {k : D} : KeyO (some t) kds k ↔ KeyT t k := Iff.rfl
end Sw

set_option Elab.async false
set_option linter.all false
set_option maxRecDepth 100000
namespace Sw
open PySem PySem.Spec L2 PySem.Calls PyProof.Rows

section
variable {X : Cz}
def rSortT (K : FgK) : List V → Hp → VK → Prop := fun vs H Q => ∃ (a : Addr) (xs : List V) (ds : List D), vs = [V.ref a] ∧ SqT K H a xs ∧ DpAll K H xs ds ∧ okSort ds = true ∧
  ∀ p, H p = none → Q (.ref p) (upd H p (.lst ((zipSort xs ds).map Prod.fst)))
theorem cr_sortedT (hu : X.A.units + 64 < cLine) : CallR X (.builtin "sorted") (rSortT X.fr) := by
  intro pins s σ H vs us Q I r h
  obtain ⟨a, xs, ds, rfl, hs, hd, ho, q⟩ := h
  obtain ⟨o1, o2, o3⟩ := okSort_spec ho
  obtain ⟨its, rv, ⟨ob, g1, g2, n, g3⟩, hz⟩ := I.tuple hs
  obtain ⟨u, rfl, ru⟩ := vals1 r
  obtain rfl : u = Value.ref a := ru
  have len := dp_len hd
  have hil : its.length = xs.length := rv.length.symm
  refine call_function_entry kind_sorted plain_sorted entry_sorted (args_sorted1 _) ?_
  unfold Builtin.«sorted»
  refine wpAny_bind (m := checkCount "sorted" 1 1 _) (wpAny_pure ?_)
  refine wpAny_bind (wpAny_collect_seq (A := X.A.in1) a (.inr rfl) g1 g2 g3 (fun h' hk => ?_) (by rw [List.size_toArray, hil]; exact hz))
  have ea : its.toArray.toList = its := rfl
  rw [ea]
  refine wpAny_bind (wpAny_newList ?_ (by rw [hil]; exact hz))
  have I1 : Inv X pins σ H { s with heap := h' } := I.kept hk
  have hn' := I1.hok.fresh (Nat.le_refl h'.objs.size)
  obtain ⟨as, rr⟩ := Dp.readsAll I1 ds xs its hd rv
  have e0 : W.EachIs (fun v d => ∃ as, Reads h' v d as) its ds := W.readsAll_each (enc := fun d => d) (by rw [List.map_id']; exact rr)
  have e1 := zip_each rv e0
  have esn : (xs.zip ds).map Prod.snd = ds := List.map_snd_zip (Nat.le_of_eq len.symm)
  have hzl : (xs.zip ds).length ≤ sizeLine := by
    rw [List.length_zip, ← len, Nat.min_self]
    exact hz
  have new : (h'.push { cls := .type "list", data := .seq its.toArray }).get? h'.objs.size = some (seqObj "list" its.toArray 0) := Heap.get?_push_size _ rfl
  have old : ∀ b ob, h'.get? b = some ob → (h'.push { cls := .type "list", data := .seq its.toArray }).get? b = some ob := fun b ob e => Heap.get?_push_of_some _ e
  refine wpAny_bind (wpAny_holding ?_)
  refine W.list_sort_data (A := X.A.in1) (enc := Prod.snd) (R := fun v (b : V × D) => RelV b.1 v) new (e1.mono fun _ _ h => h.1) ((W.each_mem e1).mono fun v b h => ?_) (by rw [esn]; exact o2) (by rw [esn]; exact o3) ?_ (fun b hb => ?_) fun out hlen hout => ?_
  · obtain ⟨⟨h1, as, h2⟩, hb⟩ := h
    refine ⟨as, PyProof.Rows.Reads.keeps old h2, fun m => ?_⟩
    have hp : b.2.plain = true := okD_plain (o1 _ (List.of_mem_zip hb).2)
    obtain ⟨ob, e⟩ := reads_there _ _ _ hp h2 m
    exact absurd (Heap.lt_size e) (Nat.lt_irrefl _)
  · exact hzl
  · have hm : b.2 ∈ ds := (List.of_mem_zip hb).2
    have := okD_depth (o1 _ hm)
    show X.A.units + 1 + 1 + _ < _
    omega
  · refine wpAny_pure ?_
    obtain ⟨n, hn2⟩ := sortedHeap_at (vs := its) (out := List.toArray out) new
    have key : ∀ b ob, h'.get? b = some ob → (sortedHeap (h'.push { cls := .type "list", data := .seq its.toArray }) h'.objs.size its (List.toArray out)).get? b = some ob := fun b ob e => by
      have hb := Heap.lt_size e
      have hb2 : b < (h'.push { cls := .type "list", data := .seq its.toArray }).objs.size := Heap.lt_size (old b ob e)
      rw [sortedHeap_old (Nat.ne_of_lt hb) hb2]
      exact old b ob e
    refine ⟨_, rfl, .ref h'.objs.size, _, I1.laid (o := .lst ((zipSort xs ds).map Prod.fst)) (t' := s.toks) key (Nat.le_refl _) ⟨?_, out, n, each_vals hout, hn2⟩, rfl, q _ hn'⟩
    rw [List.length_map, List.length_mergeSort]
    exact hzl
end
section
variable {K : FgX}
def gSortT : List D → Option (List D)
  | [.tuple ds] => if okSort ds = true then some (srtD ds) else none
  | _ => none
theorem gSortT_ok {ds : List D} (h : okSort ds = true) : gSortT [.tuple ds] = some (srtD ds) := if_pos h
theorem l_sortT : LCF K (rSortT K) gSortT := fun C σ H F env xs ds es Q R a e k => by
  unfold gSortT at e
  split at e
  · split at e
    · rename_i ho
      cases e
      obtain ⟨x, rfl, w⟩ := a.one
      obtain ⟨p, zs, rfl, e1, a2⟩ := w.tup R.frz
      refine ⟨p, zs, _, rfl, e1, AtAll.dp _ _ (okSort_plain ho) (AtAll.mono R.frz _ _ a2), ho, fun l hl => ?_⟩
      obtain ⟨s, f, h, n⟩ := R.alloc0 (o := .lst ((zipSort zs _).map Prod.fst)) hl
      refine k l _ F s f h n hl ?_
      obtain ⟨z1, z2⟩ := at_zip a2
      rw [← zipSort_snd z1]
      exact of_pairs fun q hq => z2 q ((List.mergeSort_perm _ _).mem_iff.mp hq)
    · cases e
  · cases e
def gStrI : List D → Option D
  | [.int i] => if i.natAbs.log2 < 1920 then some (.str (Str.ofString (toString i))) else none
  | [.str a] => some (.str a)
  | _ => none
abbrev rStrI : List V → Hp → VK → Prop := fun xs H Q => (∃ i, xs = [V.int i] ∧ i.natAbs.log2 < 1920 ∧ Q (.str (Str.ofString (toString i))) H) ∨ ∃ a, xs = [V.str a] ∧ Q (.str a) H
theorem call_strA {X : Cz} : CallR X (.type "str") rStrI := by
  intro pins s σ H xs us Q I r h
  rcases h with h | h
  · exact call_str_int pins s σ H xs us Q I r h
  · exact SkE.call_str_str pins s σ H xs us Q I r h
theorem l_strI : LC K rStrI gStrI := fun C σ H F env xs ds d Q R a e k => by
  unfold gStrI at e
  split at e
  · split at e
    · rename_i ho
      cases e
      obtain ⟨x, rfl, w⟩ := a.one
      cases w
      exact .inl ⟨_, rfl, ho, k _ H F (Stp.refl R) (by simp [At])⟩
    · cases e
  · cases e
    obtain ⟨x, rfl, w⟩ := a.one
    cases w
    exact .inr ⟨_, rfl, k _ H F (Stp.refl R) (by simp [At])⟩
  · cases e
theorem gStrI_i {i : Int} (h : i.natAbs < 1000000) : gStrI [.int i] = some (.str (Str.ofString (toString i))) := if_pos (by
  by_cases h0 : i.natAbs = 0
  · rw [h0]; decide
  · exact (Nat.log2_lt h0).mpr (Nat.lt_of_lt_of_le h (Nat.le_trans (by decide : 1000000 ≤ 2 ^ 20) (Nat.pow_le_pow_right (by decide) (by decide)))))
theorem gStrI_s {z : Str} : gStrI [.str z] = some (.str z) := rfl
end
end Sw

set_option Elab.async false
set_option linter.all false
set_option maxRecDepth 100000
namespace Sw
open PySem PySem.Spec L2 PySem.Calls PyProof.Rows
section
variable {X : Cz}
def qRest : List ((Int → Int → Bool) × PE') → Int → PT'
  | [], _ => fun env Q => Q true env
  | [(p, B)], i => fun env Q => B env fun o env1 => ∃ j, o.rd env1 = some (.int j) ∧ Q (p i j) env1
  | (p, B) :: r, i => fun env Q => B env fun o env1 => ∃ j, o.rd env1 = some (.int j) ∧ if p i j = true then qRest r j env1 Q else Q false env1
def qChain (A : PE') (ls : List ((Int → Int → Bool) × PE')) : PT' := fun env Q => A env fun o env1 => ∃ i, o.rd env1 = some (.int i) ∧ qRest ls i env1 Q
end
section
variable {K : FgX}
def gClear : List D → List D → Option (D × List D)
  | _, [] => some (.none, [])
  | _, _ => none
theorem gClear_0 {ds : List D} : gClear ds [] = some (.none, []) := rfl
end
end Sw

set_option Elab.async false
set_option linter.all false
set_option maxRecDepth 100000
namespace Sw
open PySem PySem.Spec L2 PySem.Calls PyProof.Rows
section
variable {X : Cz}
def qDisp1 (A B : PE') : PE' := fun env Q => A env fun o env1 => B env1 fun o2 env2 => ∃ kd, o.rd env2 = some kd ∧ KeyT false kd ∧ ∃ vd env3, o2.fz env2 = some (vd, env3) ∧ Q (.dv (.dict [(kd, vd)])) env3
end
end Sw

set_option Elab.async false
set_option linter.all false
set_option maxRecDepth 100000
set_option maxHeartbeats 4000000
namespace Sw
open PySem PySem.Spec L2 PyProof.Rows
noncomputable local instance memDecB (k : Key) (l : List Key) : Decidable (k ∈ l) := Classical.propDecidable _
theorem snoc_ind {α : Type} {P : List α → Prop} (h0 : P []) (h1 : ∀ l a, P l → P (l ++ [a])) : ∀ l, P l := by
  have key : ∀ (n : Nat) (l : List α), l.length = n → P l := by
    intro n
    induction n with
    | zero => intro l e; rw [List.length_eq_zero_iff.mp e]; exact h0
    | succ n ih =>
      intro l e
      rcases List.eq_nil_or_concat l with rfl | ⟨A, a, rfl⟩
      · cases e
      · rw [List.concat_eq_append] at e ⊢
        rw [List.length_append] at e
        exact h1 _ _ (ih A (by simpa using e))
  exact fun l => key _ l rfl
noncomputable def cntK (l : List Key) : Nat := (l.foldl (fun (p : List Key × Nat) k => (p.1 ++ [k], if k ∈ p.1 then p.2 else p.2 + 1)) ([], 0)).2
theorem cntK_fst : ∀ (l : List Key) (p : List Key × Nat), (l.foldl (fun (p : List Key × Nat) k => (p.1 ++ [k], if k ∈ p.1 then p.2 else p.2 + 1)) p).1 = p.1 ++ l
  | [], p => by simp
  | k :: r, p => by rw [List.foldl_cons, cntK_fst r]; simp
theorem cntK_snoc (l : List Key) (k : Key) : cntK (l ++ [k]) = if k ∈ l then cntK l else cntK l + 1 := by
  unfold cntK
  rw [List.foldl_append]
  have h := cntK_fst l ([], 0)
  simp only [List.nil_append] at h
  show (if k ∈ (List.foldl _ ([], 0) l).1 then _ else _) = _
  rw [h]
theorem cntK_le (l : List Key) : cntK l ≤ l.length := by
  refine snoc_ind (P := fun l => cntK l ≤ l.length) (Nat.le_refl _) (fun l k ih => ?_) l
  show cntK (l ++ [k]) ≤ _
  rw [cntK_snoc, List.length_append]
  show _ ≤ l.length + 1
  split <;> omega
section
variable {P : Program} {w : World} {A : Around} {E : Value → Shared → Prop} {s : Shared}
theorem set_update_K {I : Addr} {fp wr : List Addr} {G : Array GenState → Array GenState → Prop} {n : Nat} {Pv : Nat → Value → Prop} {St : Nat → Shared → Prop} {R : Result → Shared → Prop}
    (W : WalksS P w A.in1 I fp wr G n Pv St) (S : Addr) (hSf : S ∉ fp) (ks : List Key) (hn : n = ks.length) (hb : ks.length + 1 < scanBound) (hval : ∀ i v, Pv i v → ∃ k, ks[i]? = some k ∧ RelV (kV k) v) :
    ∀ (k i : Nat) (s : Shared), n - i = k → i ≤ n → St i s → s.heap.SetOf (mixKind P w) S (fun j => decide (j ∈ ks.take i)) (cntK (ks.take i)) →
      (∀ s', Moved (S :: wr) G s s' → s'.heap.SetOf (mixKind P w) S (fun j => decide (j ∈ ks)) (cntK ks) → R (.ok (.ret .none)) s') →
      codeAny (model P w) A (.builtin "set.update.loop" ⟨[.ref S, .ref I], []⟩) R s := by
  have hSw : S ∉ wr := fun h => hSf (W.sub _ h)
  have hsub : ∀ b ∈ wr, b ∈ S :: wr := fun b hb => List.mem_cons_of_mem _ hb
  intro k
  induction k with
  | zero =>
    intro i s hk' hi hst hS hR
    have hin : i = n := by omega
    subst hin
    refine codeAny_builtin F.entry_set_update_loop ?_
    rw [Around.under_plainId F.plain_set_update_loop _]
    show wpAny _ A.in1 (pyNext (.ref I) >>= _) _ _ s
    refine wpAny_bind (W.done s _ _ hst fun s' hm => ?_)
    show wpAny _ A.in1 (ret Value.none) _ _ s'
    have e : ks.take i = ks := List.take_of_length_le (by omega)
    rw [e] at hS
    exact wpAny_pure (hR s' (hm.mono hsub) (setOf_at hS fun o e => hm.heap S o hSw e))
  | succ k ih =>
    intro i s hk' hi hst hS hR
    have hlt : i < n := by omega
    refine codeAny_builtin F.entry_set_update_loop ?_
    rw [Around.under_plainId F.plain_set_update_loop _]
    show wpAny _ A.in1 (pyNext (.ref I) >>= _) _ _ s
    refine wpAny_bind (W.item i s _ _ hlt hst fun v s' hP hst' hm => ?_)
    obtain ⟨z, hz, rz⟩ := hval i v hP
    have hS' : s'.heap.SetOf (mixKind P w) S (fun j => decide (j ∈ ks.take i)) (cntK (ks.take i)) := setOf_at hS fun o e => hm.heap S o hSw e
    show wpAny _ A.in1 (holding [v] (setAdd S v) >>= _) _ _ s'
    refine wpAny_bind (wpAny_holding ?_)
    unfold setAdd
    refine wpAny_holding ?_
    refine wpAny_bind ((mixKind P w).pyHash (k := z) (kV_is rz) ?_)
    have hc0 := cntK_le (ks.take i)
    have hc1 : (ks.take i).length ≤ ks.length := by rw [List.length_take]; omega
    refine wpAny_setAddHashed_of (s := { s' with toks := s'.toks + 1 }) (kV_is rz) (key_scan rz) hS' (by omega) fun h' hsb hS2 => ?_
    have et : ks.take (i + 1) = ks.take i ++ [z] := by rw [List.take_add_one, hz]; rfl
    have hS3 : h'.SetOf (mixKind P w) S (fun j => decide (j ∈ ks.take (i + 1))) (cntK (ks.take (i + 1))) := by
      rw [et, cntK_snoc]
      have e1 : (fun j => decide (j ∈ ks.take i ++ [z])) = fun j => decide (j ∈ ks.take i) || decide (j = z) := by
        funext j
        simp [List.mem_append]
      rw [e1]
      have e2 : (if decide (z ∈ ks.take i) = true then cntK (ks.take i) else cntK (ks.take i) + 1) = if z ∈ ks.take i then cntK (ks.take i) else cntK (ks.take i) + 1 := by simp
      rw [← e2]
      exact hS2
    refine wpAny_pure ⟨plainId_quiet F.plain_set_update_loop _, ih (i + 1) _ (by omega) hlt (W.frame _ s' _ _ hst' (Nat.le_succ _) fun b hb o e => ?_) hS3 fun s'' hm'' hS'' => ?_⟩
    · rw [hsb.2 b (fun h : b = S => hSf (by rw [← h]; exact hb))]; exact e
    · refine hR s'' (Moved.trans W.gtrans ((hm.mono hsub).then_heap (Nat.le_succ _) fun b o hb e => ?_) hm'') hS''
      rw [hsb.2 b (fun h : b = S => hb (by rw [h]; exact List.mem_cons_self))]; exact e
theorem call_set_K {l : Addr} {items : Array Value} (ks : List Key) {Q : Value → Shared → Prop} (hh : A.handled = none) (hl : s.heap.IsList l items) (hz : items.size = ks.length) (hv : ∀ (i : Nat) (v : Value), items[i]? = some v → ∃ k, ks[i]? = some k ∧ RelV (kV k) v) (hb : ks.length + 1 < scanBound)
    (h : ∀ h' tk, h'.SetOf (mixKind P w) s.heap.objs.size (fun j => decide (j ∈ ks)) (cntK ks) → (∀ b o, s.heap.get? b = some o → h'.get? b = some o) → Q (.ref s.heap.objs.size) { s with heap := h', toks := tk }) :
    wpAny (model P w) A (call (.type "set") [.ref l]) Q E s := by
  obtain ⟨c, tl, hmro⟩ := F.called_set.mro
  have hmade := F.called_set.made
  have hsub := F.called_set.sub
  refine wpAny_call (codeAny_of_tree ?_)
  show wpAny _ _ (callAny (.type "set") _) _ _ _
  refine wpAny_pure ⟨Code.quiet_builtin _ (by decide +kernel), codeAny_builtin F.entry_type_call ?_⟩
  rw [Around.under_plain (weight_type_call_type "set" [.ref l] []) rfl]
  have h1 := F.called_set.notType
  have h2 := F.called_set.canCreate
  have hct := F.typeCall_set_1 (.ref l)
  repeat (any_goals (first | assumption | wp_step))
  refine codeAny_mono (code_set_led1 (.ref l) (E := E) (Q₁ := fun obj s₁ => obj = .ref s.heap.objs.size ∧ s₁ = { s with heap := s.heap.push (newSet w) }) ⟨rfl, rfl⟩) fun r s₁ hr => ?_
  match r, hr with
  | .error e, hr => exact hr
  | .ok (.ret obj), hr =>
  obtain ⟨rfl, rfl⟩ := hr
  have hS : (s.heap.push (newSet w)).get? s.heap.objs.size = some (newSet w) := Heap.get?_push_size _ rfl
  have hT : Shared.TypeIs { s with heap := s.heap.push (newSet w) } (.ref s.heap.objs.size) "set" := ⟨_, hS, rfl⟩
  have hli := F.called_set.init.lookup
  have hbi := F.called_set.init.bind (.ref s.heap.objs.size)
  repeat (any_goals (first | assumption | wp_step))
  refine codeAny_mono (codeAny_call_builtin (R := wants (fun r s₂ => r = .none ∧ Q (.ref s.heap.objs.size) s₂) E) F.called_set.init.plain F.entry_set_init (check_set_init_1 hT ?_)) fun r₂ s₂ hr₂ => ?_
  rotate_left
  · match r₂, hr₂ with
    | .error e, hr₂ => exact hr₂
    | .ok (.ret r), hr₂ =>
    obtain ⟨rfl, hq⟩ := hr₂
    repeat (any_goals (first | assumption | wp_step))
  · have hl1 : (s.heap.push (newSet w)).IsList l items := hl.push _
    unfold Builtin.«set.__init__» noKeywords Builtin.Frozenset.updateFrom
    have hlS : l < s.heap.objs.size := by
      obtain ⟨o, ho, _⟩ := hl
      exact Heap.lt_size ho
    obtain ⟨ol, hol, hcl, nl, hdl⟩ := hl1
    have hl1 : (s.heap.push (newSet w)).IsList l items := ⟨ol, hol, hcl, nl, hdl⟩
    have hsls := F.sub_list_set
    have hslf := F.sub_list_frozenset
    have hne : (Value.type "list" == Value.type "dict") = false := by decide
    have hTl : Shared.TypeIs { s with heap := s.heap.push (newSet w) } (.ref l) "list" := ⟨ol, hol, hcl⟩
    generalize hPI : pyIter = PI
    wp_walk
    subst hPI
    refine wpAny_pyIter_list hl1 ?_
    refine wpAny_bind (wpAny_runValue ?_)
    have hh3 : A.in1.in1.in1.handled = none := by simp [hh]
    have hz1 : (s.heap.push (newSet w)).objs.size = s.heap.objs.size + 1 := Heap.size_push ..
    have hneI : l ≠ (s.heap.push (newSet w)).objs.size := by rw [hz1]; exact Nat.ne_of_lt (Nat.lt_succ_of_lt hlS)
    have hSf : s.heap.objs.size ∉ [(s.heap.push (newSet w)).objs.size, l] := by
      rw [hz1]
      simp only [List.mem_cons, List.not_mem_nil, or_false, not_or]
      exact ⟨Nat.ne_of_lt (Nat.lt_succ_self _), Nat.ne_of_gt hlS⟩
    refine set_update_K ((Walks.list hh3 _ l hneI items).toS) s.heap.objs.size hSf ks hz hb hv (items.size - 0) 0 _ (by omega) (Nat.zero_le _) ⟨⟨_, Heap.get?_push_size _ rfl, rfl, rfl⟩, hl1.push _⟩ ?_ ?_
    · have hget : ((s.heap.push (newSet w)).push { cls := .type "list_iterator", data := .fields #[.ref l, .int 0 0] }).get? s.heap.objs.size = some (newSet w) := Heap.get?_push_of_some _ hS
      exact ⟨_, #[], 0, _, hget, ⟨rfl, rfl, rfl⟩, rfl, (fun e he => by simp at he), (fun k => by simp), (by decide), (by rfl), rfl⟩
    · intro s' hm hS'
      obtain ⟨h', g2, d', tk', os'⟩ := s'
      have eg : g2 = s.gens := hm.gens
      have ed : d' = s.drawn := hm.drawn
      have eo : os' = s.os := hm.os
      subst eg; subst ed; subst eo
      show wpAny _ _ (pure ()) _ _ _
      refine wpAny_pure ?_
      show wpAny _ _ (ret Value.none) _ _ _
      refine wpAny_pure ?_
      refine ⟨rfl, h h' tk' hS' fun b o e => ?_⟩
      have hb0 : b < s.heap.objs.size := Heap.lt_size e
      refine hm.heap b o ?_ (Heap.get?_push_of_some _ (Heap.get?_push_of_some _ e))
      rw [hz1]
      simp only [List.mem_cons, List.not_mem_nil, or_false, not_or]
      exact ⟨Nat.ne_of_lt hb0, Nat.ne_of_lt (Nat.lt_succ_of_lt hb0)⟩
end
end Sw

set_option Elab.async false
set_option linter.all false
set_option maxRecDepth 100000
namespace Sw
open PySem PySem.Spec L2 PySem.Calls PyProof.Rows
end Sw

set_option Elab.async false
set_option linter.all false
set_option maxRecDepth 100000
set_option maxHeartbeats 4000000
namespace Sw
open PySem PySem.Spec L2 PySem.Calls PyProof.Rows
theorem KAt.grow {h h' : Heap} {k : NestedKey} {b : Addr} (x : KAt h k b) (g : ∀ c o vs n, h.get? c = some o → o.data = .seq vs n → h'.get? c = some o) : KAt h' k b := ⟨NestedIs.at g _ _ x.1, x.2⟩
section
variable {P : Program} {w : World} {A : Around} {E : Value → Shared → Prop} {s : Shared}
mutual
theorem noCls_key : ∀ (k : NestedKey) (v : Value) (n : Nat) (s : Shared), NestedIs s.heap k v → k.depth ≤ n → NoCls P w n s v
  | .none, _, n, s, x, _ => by cases x; exact fun A E Q h => by cases n <;> exact wpAny_pure h
  | .num i, _, n, s, x, _ => by cases x <;> exact fun A E Q h => by cases n <;> exact wpAny_pure h
  | .text y, _, n, s, x, _ => by cases x; exact fun A E Q h => by cases n <;> exact wpAny_pure h
  | .tup ks, _, n, s, x, hn => by
    cases x with
    | tup h1 h2 h3 h4 =>
      simp only [NestedKey.depth] at hn
      obtain ⟨m, rfl⟩ : ∃ m, n = m + 1 := ⟨n - 1, by omega⟩
      exact NoCls.tup h1 h2 h3 (noCls_keys ks _ m s h4 (by omega))
theorem noCls_keys : ∀ (ks : List NestedKey) (vs : List Value) (n : Nat) (s : Shared), NestedAll s.heap ks vs → NestedKey.depthAll ks ≤ n → ∀ v ∈ vs, NoCls P w n s v
  | [], _, n, s, x, _, v, hv => by cases x; cases hv
  | k :: ks, _, n, s, x, hn, v, hv => by
    cases x with
    | cons x1 x2 =>
      simp only [NestedKey.depthAll] at hn
      rcases List.mem_cons.mp hv with e | hv
      · subst e
        exact noCls_key k _ n s x1 (by omega)
      · exact noCls_keys ks _ n s x2 (by omega) v hv
end
mutual
theorem byV_key : ∀ (k : NestedKey) (v : Value) (n : Nat) (s : Shared), NestedIs s.heap k v → k.depth ≤ n → ByV P w n s v
  | .none, _, n, s, x, _ => by cases x; exact fun A E Q h => by cases n <;> exact wpAny_pure (h _)
  | .num i, _, n, s, x, _ => by cases x <;> exact fun A E Q h => by cases n <;> exact wpAny_pure (h _)
  | .text y, _, n, s, x, _ => by cases x; exact fun A E Q h => by cases n <;> exact wpAny_pure (h _)
  | .tup ks, _, n, s, x, hn => by
    cases x with
    | tup h1 h2 h3 h4 =>
      simp only [NestedKey.depth] at hn
      obtain ⟨m, rfl⟩ : ∃ m, n = m + 1 := ⟨n - 1, by omega⟩
      exact ByV.tup h1 h2 h3 (byV_keys ks _ m s h4 (by omega))
theorem byV_keys : ∀ (ks : List NestedKey) (vs : List Value) (n : Nat) (s : Shared), NestedAll s.heap ks vs → NestedKey.depthAll ks ≤ n → ∀ v ∈ vs, ByV P w n s v
  | [], _, n, s, x, _, v, hv => by cases x; cases hv
  | k :: ks, _, n, s, x, hn, v, hv => by
    cases x with
    | cons x1 x2 =>
      simp only [NestedKey.depthAll] at hn
      rcases List.mem_cons.mp hv with e | hv
      · subst e
        exact byV_key k _ n s x1 (by omega)
      · exact byV_keys ks _ n s x2 (by omega) v hv
end
theorem unseen {k : NestedKey} {b : Addr} {Q : Bool → Shared → Prop} (hk : KAt s.heap k b) {ys : List Value} (hy : ∀ y ∈ ys, ∃ k' c, y = Value.ref c ∧ KAt s.heap k' c) (h : Q false s) : wpAny (model P w) A (searchCouldBeSeen (.ref b) ys) Q E s := by
  unfold searchCouldBeSeen
  refine wpAny_bind (wpAny_forIn_list _ (fun rest r z => r.1 = none ∧ z = s ∧ ∀ y ∈ rest, ∃ k' c, y = Value.ref c ∧ KAt s.heap k' c) _ ?_ ?_ _ _ ⟨rfl, rfl, hy⟩)
  · rintro v rest r z ⟨e, rfl, all⟩
    obtain ⟨k', c, rfl, hc⟩ := all v List.mem_cons_self
    have tl : ∀ y ∈ rest, ∃ k' c, y = Value.ref c ∧ KAt z.heap k' c := fun u hu => all u (List.mem_cons_of_mem _ hu)
    dsimp only
    by_cases hv : (b == c || (carriedByValue (.ref b) && carriedByValue (.ref c))) = true
    · exact wp_if_pos hv (wpAny_pure ⟨rfl, rfl, tl⟩)
    · refine wp_if_neg hv (wpAny_bind (quiet_key k _ 8 z hk.1 hk.2 _ _ _ ?_))
      simp only [Bool.not_true, Bool.false_eq_true, if_false]
      refine wpAny_bind (quiet_key k' _ 8 z hc.1 hc.2 _ _ _ ?_)
      simp only [Bool.not_true, Bool.false_eq_true, if_false]
      refine wpAny_bind (noCls_key k _ 8 z hk.1 hk.2 _ _ _ ?_)
      simp only [Bool.false_eq_true, if_false]
      refine wpAny_bind (noCls_key k' _ 8 z hc.1 hc.2 _ _ _ ?_)
      simp only [Bool.false_eq_true, if_false]
      exact wpAny_pure ⟨rfl, rfl, tl⟩
  · rintro ⟨r1, r2⟩ z ⟨e, rfl, _⟩
    simp only at e
    subst e
    exact wpAny_pure h
variable {a : Addr} {L : List (Addr × NestedKey)} {es : Array (Int × Value)} {ep : Nat} {t : SetTable}
theorem Few.fits (R : Few w s.heap a L es ep t) : t.fits es.size = true := by
  have h1 := R.tab.sz
  have h2 := R.size
  have h3 := R.few
  rw [List.length_map] at h1
  simp only [SetTable.fits, SetTable.fill, R.tab.dm, Bool.and_eq_true, beq_iff_eq, decide_eq_true_eq, R.mask]
  show t.place.size = es.size ∧ t.place.size + 0 ≤ 7
  omega
theorem probe_dm (m : Nat) : ∀ (n : Nat) (p : SetTable.Probe), p.dummy = none → (nth m p n).dummy = none
  | 0, p, h => h
  | n + 1, p, h => probe_dm m n (adv m p) (by unfold adv; split <;> exact h)
abbrev pr0 (m : Nat) (h : Int) : SetTable.Probe := runAt m (SetTable.bits h % (m + 1)) (SetTable.bits h)
/-- the search, from its c-th step on -/
theorem look_from (R : Few w s.heap a L es ep t) {x : Addr} {k : NestedKey} (hx : KAt s.heap k x) (hu : A.units + 8 < cLine) {N : Nat} (hN : N < 10 * SetTable.turns t.mask)
    (hfree : way t.mask (k.hash w) N ∉ t.place.toList) (hfull : ∀ c, c < N → way t.mask (k.hash w) c ∈ t.place.toList) {Q : SetFound → Shared → Prop} (yes : k ∈ L.map (·.2) → Q (.there none) s) (no : k ∉ L.map (·.2) → Q (.free (way t.mask (k.hash w) N) false) s) :
    ∀ (f c : Nat) (st : Option SetTable.Probe), st.getD (t.probeStart (k.hash w)) = nth t.mask (pr0 t.mask (k.hash w)) c → c ≤ N → N - c < f →
      (∀ (i : Nat) p, L[i]? = some p → p.2 = k → ∃ c', c ≤ c' ∧ c' < N ∧ t.place.toList[i]? = some (way t.mask (k.hash w) c')) → wpAny (model P w) A (setSearchFrom a (.ref x) (k.hash w) true f st) Q E s := by
  have hod : ¬ t.gaveWay = true := by
    unfold SetTable.gaveWay
    rw [mask_odd R.tab.mok]
    decide
  obtain ⟨o, ho, hex, hd⟩ := R.ob
  intro f
  induction f with
  | zero => intro c st _ _ hf _; omega
  | succ f ih =>
    intro c st hst hc hf hre
    rw [setSearchFrom_succ]
    refine wpAny_bind (wpAny_setState_of ho hd R.fits ?_)
    dsimp only
    refine wp_if_neg hod ?_
    try refine wpAny_bind (wpAny_pure ?_)
    have at_ : ∀ q, nth t.mask (nth t.mask (pr0 t.mask (k.hash w)) c) q = nth t.mask (pr0 t.mask (k.hash w)) (c + q) := fun q => (nth_add t.mask c _ q).symm
    have atj : ∀ q, (nth t.mask (nth t.mask (pr0 t.mask (k.hash w)) c) q).j = way t.mask (k.hash w) (c + q) := fun q => congrArg SetTable.Probe.j (at_ q)
    have hsh : ∀ (i : Nat) p, L[i]? = some p → ((es[i]?.map (·.1)).getD 0) = p.2.hash w := fun i p hp => by rw [R.get hp]; rfl
    rcases go_spec t R.tab.ris R.tab.dm (fun i => (es[i]?.map (·.1)).getD 0) (k.hash w) (10 * SetTable.turns t.mask) (N - c) _ (probe_dm t.mask c _ rfl) (by omega) (fun q hq => by rw [atj]; exact hfull (c + q) (by omega)) (by rw [atj, show c + (N - c) = N by omega]; exact hfree) with ⟨q, i, hq, hi, hh, before, hgo⟩ | ⟨before, hgo⟩
    · have hgo' : t.probe (fun i => (es[i]?.map (·.1)).getD 0) (k.hash w) (st.getD (t.probeStart (k.hash w))) = some (.candidate (way t.mask (k.hash w) (c + q)) i (nth t.mask (pr0 t.mask (k.hash w)) (c + (q + 1)))) := by
        rw [hst, ← atj, ← at_]
        exact hgo
      rw [hgo']
      dsimp only
      rw [atj] at hi
      have hil : i < L.length := by
        have h1 := (List.getElem?_eq_some_iff.mp hi).1
        have h2 := R.tab.sz
        rw [List.length_map] at h2
        rw [Array.length_toList] at h1
        omega
      obtain ⟨p, hp⟩ : ∃ p, L[i]? = some p := ⟨_, List.getElem?_eq_getElem hil⟩
      have hm : p ∈ L := List.mem_of_getElem? hp
      have rest : wpAny (model P w) A (searchRest a (.ref x) (k.hash w) true f es t (way t.mask (k.hash w) (c + q)) i (nth t.mask (pr0 t.mask (k.hash w)) (c + (q + 1)))) Q E s := by
        unfold searchRest
        rw [R.get hp]
        dsimp only
        refine wpAny_bind (wpAny_holding ((nestedKind P w).eqBool (show A.units + 8 < cLine from hu) (R.key p hm) hx ?_))
        refine wpAny_bind (wpAny_setState_of ho hd R.fits ?_)
        dsimp only
        have hsl : t.slot (way t.mask (k.hash w) (c + q)) = .live i := slot_live R.tab.ris hi
        by_cases e : p.2 = k
        · refine wp_if_pos (by simp [e]) (wpAny_pure (yes (List.mem_map.mpr ⟨p, hm, e⟩)))
        · refine wp_if_neg (by simp [e]) ?_
          try refine wpAny_bind (wpAny_pure ?_)
          rw [sameMem]
          dsimp only
          simp only [if_true, hsl, R.get hp]
          refine wpAny_bind (wpAny_isSame_ref_self (wpAny_bind (wpAny_pure ?_)))
          simp only [if_true]
          refine wp_if_neg (by simp [e]) (ih (c + (q + 1)) _ rfl (by omega) (by omega) fun i0 p0 h0 e0 => ?_)
          obtain ⟨c', a1, a2, a3⟩ := hre i0 p0 h0 e0
          refine ⟨c', ?_, a2, a3⟩
          have h3 : ¬ (c ≤ c' ∧ c' < c + q) := fun ⟨z1, z2⟩ => before (c' - c) i0 (by omega) (by rw [atj, show c + (c' - c) = c' by omega]; exact a3) ((hsh i0 p0 h0).trans (by rw [e0]))
          have h4 : c' ≠ c + q := fun z => by
            subst z
            have y := slot_live R.tab.ris a3
            rw [hsl] at y
            injection y with y
            rw [← y, hp] at h0
            cases h0
            exact e e0
          omega
      by_cases hl : t.led = true
      · refine wp_if_neg (by simp [hl]) ?_
        try refine wpAny_bind (wpAny_pure ?_)
        exact rest
      · refine wp_if_pos (by simp [hl]) (wpAny_bind (unseen hx (fun y hy => ?_) ?_))
        · obtain ⟨e, he, ee⟩ := List.mem_map.mp hy
          have he1 : e ∈ es ∧ e.1 = k.hash w := by simpa using he
          have he2 : e ∈ es.toList := by simpa using he1.1
          rw [R.rows] at he2
          obtain ⟨p2, hp2, e2⟩ := List.mem_map.mp he2
          exact ⟨p2.2, p2.1, by rw [← ee, ← e2], R.key p2 hp2⟩
        · refine wp_if_neg (by decide) ?_
          try refine wpAny_bind (wpAny_pure ?_)
          exact rest
    · have hgo' : t.probe (fun i => (es[i]?.map (·.1)).getD 0) (k.hash w) (st.getD (t.probeStart (k.hash w))) = some (.empty (way t.mask (k.hash w) N) none) := by
        have e2 : way t.mask (k.hash w) N = (nth t.mask (nth t.mask (pr0 t.mask (k.hash w)) c) (N - c)).j := by rw [atj, show c + (N - c) = N by omega]
        rw [hst, e2]
        exact hgo
      rw [hgo']
      dsimp only
      refine wpAny_pure (no fun hm => ?_)
      obtain ⟨p0, h0, e0⟩ := List.mem_map.mp hm
      obtain ⟨i0, hi0⟩ := List.getElem?_of_mem h0
      obtain ⟨c', a1, a2, a3⟩ := hre i0 p0 hi0 e0
      exact before (c' - c) i0 (by omega) (by rw [atj, show c + (c' - c) = c' by omega]; exact a3) ((hsh i0 p0 hi0).trans (by rw [e0]))
theorem look_all (R : Few w s.heap a L es ep t) {x : Addr} {k : NestedKey} (hx : KAt s.heap k x) (hu : A.units + 8 < cLine) {Q : SetFound → Shared → Prop} (yes : k ∈ L.map (·.2) → Q (.there none) s)
    (no : ∀ N, k ∉ L.map (·.2) → way t.mask (k.hash w) N ∉ t.place.toList → (∀ c, c < N → way t.mask (k.hash w) c ∈ t.place.toList) → Q (.free (way t.mask (k.hash w) N) false) s) : wpAny (model P w) A (setSearch a (.ref x) (k.hash w) true) Q E s := by
  have hf := R.few
  obtain ⟨N, h1, h2, h3⟩ := R.tab.first (by rw [List.length_map, R.mask]; omega) (k.hash w)
  have hbig : N < 100000 := by
    unfold SetTable.turns at h1
    rw [R.mask] at h1
    omega
  unfold setSearch
  refine look_from R hx hu h1 h2 h3 yes (fun hn => no N hn h2 h3) 100000 0 none rfl (Nat.zero_le _) (by omega) fun i p hp e => ?_
  have hil : i < t.place.toList.length := by
    have q1 := (List.getElem?_eq_some_iff.mp hp).1
    have q2 := R.tab.sz
    rw [List.length_map] at q2
    rw [Array.length_toList]
    omega
  obtain ⟨c, hc, e2⟩ := R.tab.before h2 (i := i) (by rw [List.getElem?_map, hp, ← e]; rfl) (List.getElem?_eq_getElem hil)
  exact ⟨c, Nat.zero_le _, hc, by rw [List.getElem?_eq_getElem hil, e2]⟩
theorem few_put {α : Type} (l : List α) (n : Nat) (x : α) : (l.take n ++ x :: l.drop n).Perm (x :: l) := by
  have h := List.perm_middle (a := x) (l₁ := l.take n) (l₂ := l.drop n)
  rwa [List.take_append_drop] at h
/-- one more, where there are three at most, or it is there -/
theorem few_add (R : Few w s.heap a L es ep t) {x : Addr} {k : NestedKey} (hx : KAt s.heap k x) (hu : A.units + 8 < cLine) (hfew : L.length ≤ 3) {Q : Bool → Shared → Prop}
    (hQ : ∀ b h' L' es' ep' t', Heap.SameBut a s.heap h' → Few w h' a L' es' ep' t' → (k ∈ L.map (·.2) → L' = L) → (k ∉ L.map (·.2) → L'.Perm ((x, k) :: L)) → Q b { s with heap := h' }) : wpAny (model P w) A (setAddHashed a (.ref x) (k.hash w)) Q E s := by
  obtain ⟨o, ho, hex, hd⟩ := R.ob
  unfold setAddHashed
  refine wpAny_holding ?_
  rw [show (100000 : Nat) = 99999 + 1 from rfl, setAddHashedIn_succ]
  refine wpAny_bind (wpAny_setState_of ho hd R.fits ?_)
  dsimp only
  refine wp_if_neg (by simp [byScan, Value.scannable]) ?_
  try refine wpAny_bind (wpAny_pure ?_)
  refine wpAny_bind (look_all R hx hu (fun hm => ?_) fun N hm h1 h2 => ?_)
  · dsimp only
    exact wpAny_pure (hQ false s.heap L es ep t (Heap.SameBut.refl a s.heap) R (fun _ => rfl) fun z => absurd hm z)
  dsimp only
  refine wpAny_bind (wpAny_setState_of ho hd R.fits ?_)
  dsimp only
  obtain ⟨q1, q2, q3, q4, q5, q6, q7, q8, q9⟩ := R.tab.put h1 h2
  generalize hn : SetTable.below t.place (way t.mask (k.hash w) N) = n at q1 q2 q3
  generalize hpt : t.put (way t.mask (k.hash w) N) = pt at q1 q3 q4 q5 q6 q7 q8 q9 ⊢
  obtain ⟨t1, p⟩ := pt
  dsimp only at q1 q3 q4 q5 q6 q7 q8 q9 ⊢
  subst q1
  have pm := few_put L p (x, k)
  have hlen : (L.take p ++ (x, k) :: L.drop p).length = L.length + 1 := pm.length_eq
  have hrows : (SetTable.insertAt es p (k.hash w, Value.ref x)).toList = (L.take p ++ (x, k) :: L.drop p).map fun p => (p.2.hash w, Value.ref p.1) := by
    rw [SetTable.toList_insertAt, R.rows]
    simp
  have htab : TabOk t1 ((L.take p ++ (x, k) :: L.drop p).map fun p => p.2.hash w) := by
    have e : (L.take p ++ (x, k) :: L.drop p).map (fun p => p.2.hash w) = (L.map fun p => p.2.hash w).take p ++ k.hash w :: (L.map fun p => p.2.hash w).drop p := by
      rw [List.map_append, List.map_cons, List.map_take, List.map_drop]
    rw [e]
    exact q3
  have hnd : ((L.take p ++ (x, k) :: L.drop p).map (·.2)).Nodup := by
    refine (pm.map (·.2)).nodup_iff.mpr ?_
    rw [List.map_cons]
    exact List.nodup_cons.mpr ⟨hm, R.nd⟩
  have hsz : (SetTable.insertAt es p (k.hash w, Value.ref x)).size = L.length + 1 := by
    rw [← Array.length_toList, hrows, List.length_map, hlen]
  generalize SetTable.insertAt es p (k.hash w, Value.ref x) = es1 at hrows hsz ⊢
  generalize L.take p ++ (x, k) :: L.drop p = L1 at pm hlen hrows htab hnd
  have tail : ∀ tz : SetTable, tz = t1 ∨ tz = { t1 with plain := false } → wpAny (model P w) A (do
      storeSet a es1 tz
      if (!false && tz.tooFull) = true then setRelay a (SetTable.grown (es.size + 1))
      return true) Q E s := fun tz hz => by
    have tabz : TabOk tz (L1.map fun p => p.2.hash w) := by
      rcases hz with e | e
      · subst e; exact htab
      · subst e; exact ⟨htab.ris, htab.dm, htab.sz, htab.mok, htab.bd, htab.reach⟩
    have mz : tz.mask = 7 := by rcases hz with e | e <;> (subst e; exact q4.trans R.mask)
    have fz : tz.fill = L.length + 1 := by
      rw [List.length_map] at q9
      rcases hz with e | e <;> (subst e; exact q9)
    refine wpAny_bind (wpAny_storeSet_of ho hd ?_ (by rw [hsz, sizeLine_eq]; omega))
    have sb : Heap.SameBut a s.heap (s.heap.update a (Obj.putSet es1 tz)) := Heap.SameBut.update ..
    have ho1 := store_at (es' := es1) (t' := tz) ho hd
    generalize s.heap.update a (Obj.putSet es1 tz) = h1 at sb ho1 ⊢
    have grow : ∀ c o vs n, s.heap.get? c = some o → o.data = .seq vs n → h1.get? c = some o := fun c o' vs n e1 e2 => (sb.2 c fun z => by
      subst z
      rw [ho] at e1
      cases e1
      rw [hd] at e2
      cases e2).trans e1
    have nf : ¬ tz.tooFull = true := by
      unfold SetTable.tooFull
      rw [decide_eq_true_eq, fz, mz]
      omega
    have fin : Q true { s with heap := h1 } := hQ true h1 L1 es1 (ep + 1) tz sb ⟨⟨_, ho1, ⟨hex.1, hex.2.1, hex.2.2⟩, rfl⟩, hrows, tabz, hnd, fun p hp => by
      rcases List.mem_cons.mp (pm.mem_iff.mp hp) with e | hp
      · rw [e]; exact hx.grow grow
      · exact (R.key p hp).grow grow, mz, by omega⟩ (fun z => absurd z hm) fun _ => pm
    first
      | exact wp_if_neg (by simp [nf]) (wpAny_pure fin)
      | exact wpAny_bind (wp_if_neg (by simp [nf]) (wpAny_pure (wpAny_pure fin)))
  by_cases hp : t1.plain = true
  · have go : ∀ b : Bool, wpAny (model P w) A (do
      storeSet a es1 (if b = true then t1 else { t1 with plain := false })
      if (!false && (if b = true then t1 else { t1 with plain := false }).tooFull) = true then setRelay a (SetTable.grown (es.size + 1))
      return true) Q E s := fun b => tail _ (by cases b <;> simp)
    first
      | exact wp_if_pos hp (wpAny_bind (byV_key k _ 8 s hx.1 hx.2 _ _ _ fun b => go b))
      | exact wpAny_bind (wp_if_pos hp (byV_key k _ 8 s hx.1 hx.2 _ _ _ fun b => go b))
  · first
      | exact wp_if_neg hp (wpAny_bind (wpAny_pure (tail t1 (.inl rfl))))
      | exact wpAny_bind (wp_if_neg hp (wpAny_pure (tail t1 (.inl rfl))))
      | exact wp_if_neg hp (tail t1 (.inl rfl))
end
end Sw

set_option Elab.async false
set_option linter.all false
set_option maxRecDepth 100000
set_option maxHeartbeats 4000000
namespace Sw
open PySem PySem.Spec L2 PySem.Calls PyProof.Rows
section
variable {α : Type}
noncomputable def cntA (l : List α) : Nat := by
  classical
  exact match l with
  | [] => 0
  | k :: r => (if k ∈ r then 0 else 1) + cntA r
theorem cntA_nil : cntA ([] : List α) = 0 := by rw [cntA]
theorem cntA_in {k : α} {r : List α} (h : k ∈ r) : cntA (k :: r) = cntA r := by rw [cntA, if_pos h, Nat.zero_add]
theorem cntA_out {k : α} {r : List α} (h : k ∉ r) : cntA (k :: r) = cntA r + 1 := by rw [cntA, if_neg h, Nat.add_comm]
theorem cntA_snoc (k : α) : ∀ l : List α, (k ∈ l → cntA (l ++ [k]) = cntA l) ∧ (k ∉ l → cntA (l ++ [k]) = cntA l + 1)
  | [] => ⟨fun h => (by cases h), fun _ => (by rw [List.nil_append, cntA_out (by simp), cntA_nil])⟩
  | d :: r => by
    obtain ⟨h1, h2⟩ := cntA_snoc k r
    rw [List.cons_append]
    by_cases e : d = k
    · subst e
      refine ⟨fun _ => ?_, fun h => absurd List.mem_cons_self h⟩
      rw [cntA_in (by simp)]
      by_cases c : d ∈ r
      · rw [h1 c, cntA_in c]
      · rw [h2 c, cntA_out c]
    · have e1 : d ∈ r ++ [k] ↔ d ∈ r := by simp [e]
      have e2 : k ∈ d :: r ↔ k ∈ r := by
        rw [List.mem_cons]
        exact ⟨fun h => h.elim (fun z => absurd z.symm e) id, .inr⟩
      rw [e2]
      by_cases c : d ∈ r
      · rw [cntA_in (e1.mpr c), cntA_in c]
        exact ⟨h1, h2⟩
      · rw [cntA_out (fun z => c (e1.mp z)), cntA_out c]
        exact ⟨fun h => by rw [h1 h], fun h => by rw [h2 h]⟩
theorem cntA_le : ∀ l : List α, cntA l ≤ l.length
  | [] => by rw [cntA_nil]; exact Nat.zero_le _
  | k :: r => by
    have := cntA_le r
    by_cases c : k ∈ r
    · rw [cntA_in c, List.length_cons]; omega
    · rw [cntA_out c, List.length_cons]; omega
theorem cntA_iff : ∀ l : List α, cntA l = l.length ↔ l.Nodup
  | [] => by rw [cntA_nil]; simp
  | k :: r => by
    have h := cntA_le r
    have ih := cntA_iff r
    rw [List.length_cons, List.nodup_cons]
    by_cases c : k ∈ r
    · rw [cntA_in c]
      exact ⟨fun e => by omega, fun ⟨z, _⟩ => absurd c z⟩
    · rw [cntA_out c]
      exact ⟨fun e => ⟨c, ih.mp (by omega)⟩, fun ⟨_, z⟩ => by rw [ih.mpr z]⟩
theorem cntA_of {l : List α} : ∀ {ks : List α}, l.Nodup → (∀ k, k ∈ l ↔ k ∈ ks) → l.length = cntA ks := by
  classical
  intro ks
  induction ks generalizing l with
  | nil =>
    intro _ h
    rw [cntA_nil]
    cases l with
    | nil => rfl
    | cons a l => exact absurd ((h a).mp List.mem_cons_self) (by simp)
  | cons k r ih =>
    intro nd h
    by_cases c : k ∈ r
    · rw [cntA_in c]
      refine ih nd fun x => (h x).trans ?_
      rw [List.mem_cons]
      exact ⟨fun z => z.elim (fun e => e ▸ c) id, .inr⟩
    · rw [cntA_out c]
      have hk : k ∈ l := (h k).mpr List.mem_cons_self
      have e := ih (l := l.erase k) (nd.erase k) fun x => by
        rw [List.Nodup.mem_erase_iff nd, h x, List.mem_cons]
        exact ⟨fun ⟨a, b⟩ => b.elim (fun z => absurd z a) id, fun z => ⟨fun y => c (y ▸ z), .inr z⟩⟩
      have hl := List.length_erase_of_mem hk
      have hp := List.length_pos_of_mem hk
      omega
theorem cntA_map {β : Type} {f : α → β} (inj : ∀ a b, f a = f b → a = b) : ∀ l : List α, cntA (l.map f) = cntA l
  | [] => by rw [List.map_nil, cntA_nil, cntA_nil]
  | k :: r => by
    have e : f k ∈ r.map f ↔ k ∈ r := by
      rw [List.mem_map]
      exact ⟨fun ⟨a, h, q⟩ => inj _ _ q ▸ h, fun h => ⟨k, h, rfl⟩⟩
    rw [List.map_cons]
    by_cases c : k ∈ r
    · rw [cntA_in c, cntA_in (e.mpr c), cntA_map inj r]
    · rw [cntA_out c, cntA_out (fun z => c (e.mp z)), cntA_map inj r]
end
theorem cntK_A (l : List Key) : cntK l = cntA l := by
  refine snoc_ind (P := fun l => cntK l = cntA l) (by rw [cntA_nil]; rfl) (fun l k ih => ?_) l
  show cntK (l ++ [k]) = cntA (l ++ [k])
  obtain ⟨h1, h2⟩ := cntA_snoc k l
  rw [cntK_snoc]
  split
  · rw [h1 ‹_›]; exact ih
  · rw [h2 ‹_›, ← ih]
section
variable {P : Program} {w : World} {A : Around} {E : Value → Shared → Prop} {s : Shared}
theorem Few.keep {h h' : Heap} {a : Addr} {L : List (Addr × NestedKey)} {es : Array (Int × Value)} {ep : Nat} {t : SetTable} (R : Few w h a L es ep t) (ha : ∀ o, h.get? a = some o → h'.get? a = some o) (hk : ∀ p ∈ L, KAt h' p.2 p.1) : Few w h' a L es ep t := by
  obtain ⟨o, ho, r⟩ := R.ob
  exact ⟨⟨o, ha o ho, r⟩, R.rows, R.tab, R.nd, hk, R.mask, R.few⟩
/-- what the set holds behind i items -/
def Hold (ks : List (Addr × NestedKey)) (i : Nat) (L : List (Addr × NestedKey)) : Prop := (∀ p ∈ L, p ∈ ks) ∧ (∀ k, k ∈ L.map (·.2) ↔ k ∈ (ks.take i).map (·.2)) ∧ L.length ≤ i
theorem set_update_T {I : Addr} {fp wr : List Addr} {G : Array GenState → Array GenState → Prop} {n : Nat} {Pv : Nat → Value → Prop} {St : Nat → Shared → Prop} {R : Result → Shared → Prop}
    (W : WalksS P w A.in1 I fp wr G n Pv St) (S : Addr) (hSf : S ∉ fp) (ks : List (Addr × NestedKey)) (hn : n = ks.length) (hb : ks.length ≤ 4) (hval : ∀ i v, Pv i v → ∃ p, ks[i]? = some p ∧ v = .ref p.1)
    (h0 : Heap) (hk : ∀ p ∈ ks, KAt h0 p.2 p.1) (hS0 : h0.get? S = none) (hw0 : ∀ b ∈ wr, h0.get? b = none) (hu : A.in1.units + 8 < cLine) :
    ∀ (k i : Nat) (s : Shared), n - i = k → i ≤ n → St i s → (∀ b o, h0.get? b = some o → s.heap.get? b = some o) → (∃ L es ep t, Few w s.heap S L es ep t ∧ Hold ks i L) →
      (∀ s' L es ep t, Moved (S :: wr) G s s' → Few w s'.heap S L es ep t → Hold ks n L → (∀ b o, h0.get? b = some o → s'.heap.get? b = some o) → R (.ok (.ret .none)) s') →
      codeAny (model P w) A (.builtin "set.update.loop" ⟨[.ref S, .ref I], []⟩) R s := by
  have hSw : S ∉ wr := fun h => hSf (W.sub _ h)
  have hsub : ∀ b ∈ wr, b ∈ S :: wr := fun b hb => List.mem_cons_of_mem _ hb
  have old : ∀ {s s' : Shared}, Moved wr G s s' → (∀ b o, h0.get? b = some o → s.heap.get? b = some o) → ∀ b o, h0.get? b = some o → s'.heap.get? b = some o := fun hm hkp b o e => hm.heap b o (fun hb => by rw [hw0 b hb] at e; cases e) (hkp b o e)
  have keyAt : ∀ {h : Heap}, (∀ b o, h0.get? b = some o → h.get? b = some o) → ∀ p ∈ ks, KAt h p.2 p.1 := fun hkp p hp => (hk p hp).grow fun c o _ _ e _ => hkp c o e
  intro k
  induction k with
  | zero =>
    intro i s hk' hi hst hkp ⟨L, es, ep, t, hS, g⟩ hR
    have hin : i = n := by omega
    subst hin
    refine codeAny_builtin F.entry_set_update_loop ?_
    rw [Around.under_plainId F.plain_set_update_loop _]
    show wpAny _ A.in1 (pyNext (.ref I) >>= _) _ _ s
    refine wpAny_bind (W.done s _ _ hst fun s' hm => ?_)
    show wpAny _ A.in1 (ret Value.none) _ _ s'
    have hkp' := old hm hkp
    exact wpAny_pure (hR s' L es ep t (hm.mono hsub) (hS.keep (fun o e => hm.heap S o hSw e) fun p hp => keyAt hkp' p (g.1 p hp)) g hkp')
  | succ k ih =>
    intro i s hk' hi hst hkp ⟨L, es, ep, t, hS, g⟩ hR
    have hlt : i < n := by omega
    refine codeAny_builtin F.entry_set_update_loop ?_
    rw [Around.under_plainId F.plain_set_update_loop _]
    show wpAny _ A.in1 (pyNext (.ref I) >>= _) _ _ s
    refine wpAny_bind (W.item i s _ _ hlt hst fun v s' hP hst' hm => ?_)
    obtain ⟨p, hp, rfl⟩ := hval i v hP
    have hkp' := old hm hkp
    have hS' : Few w s'.heap S L es ep t := hS.keep (fun o e => hm.heap S o hSw e) fun q hq => keyAt hkp' q (g.1 q hq)
    have hpm := List.mem_of_getElem? hp
    have hx := keyAt hkp' p hpm
    show wpAny _ A.in1 (holding [Value.ref p.1] (setAdd S (.ref p.1)) >>= _) _ _ s'
    refine wpAny_bind (wpAny_holding ?_)
    unfold setAdd
    refine wpAny_holding ?_
    refine wpAny_bind (pyHash_key p.2 _ A.in1 s' _ hx.1 (by have := hx.2; omega) ?_)
    refine few_add (s := { s' with toks := s'.toks + p.2.draws }) hS' hx hu (by have := g.2.2; omega) fun b h' L' es' ep' t' hsb hS2 c1 c2 => ?_
    have et : ks.take (i + 1) = ks.take i ++ [p] := by rw [List.take_add_one, hp]; rfl
    have g' : Hold ks (i + 1) L' := by
      unfold Hold
      rw [et, List.map_append]
      by_cases c : p.2 ∈ L.map (·.2)
      · rw [c1 c]
        refine ⟨g.1, fun k => ?_, by have := g.2.2; omega⟩
        rw [List.mem_append, ← g.2.1 k]
        exact ⟨.inl, fun z => z.elim id fun e => by rw [List.mem_singleton.mp e]; exact c⟩
      · have pm := c2 c
        refine ⟨fun q hq => ?_, fun k => ?_, by rw [pm.length_eq, List.length_cons]; have := g.2.2; omega⟩
        · rcases List.mem_cons.mp (pm.mem_iff.mp hq) with e | e
          · rw [e]; exact hpm
          · exact g.1 q e
        · rw [(pm.map (·.2)).mem_iff, List.map_cons, List.mem_cons, List.mem_append, g.2.1 k]
          exact ⟨fun z => z.elim (fun e => .inr (by rw [e]; exact List.mem_cons_self)) .inl, fun z => z.elim .inr fun e => .inl (List.mem_singleton.mp e)⟩
    have hkp2 : ∀ b o, h0.get? b = some o → h'.get? b = some o := fun b o e => (hsb.2 b (fun z => by rw [z, hS0] at e; cases e)).trans (hkp' b o e)
    refine wpAny_pure ⟨plainId_quiet F.plain_set_update_loop _, ih (i + 1) _ (by omega) hlt (W.frame _ s' _ _ hst' (Nat.le_add_right _ _) fun b hb o e => ?_) hkp2 ⟨L', es', ep', t', hS2, g'⟩ fun s'' L2 es2 ep2 t2 hm'' hS'' g'' hkp'' => ?_⟩
    · rw [hsb.2 b (fun h : b = S => hSf (by rw [← h]; exact hb))]; exact e
    · refine hR s'' L2 es2 ep2 t2 (Moved.trans W.gtrans ((hm.mono hsub).then_heap (Nat.le_add_right _ _) fun b o hb e => ?_) hm'') hS'' g'' hkp''
      rw [hsb.2 b (fun h : b = S => hb (by rw [h]; exact List.mem_cons_self))]; exact e
theorem call_set_T {l : Addr} {items : Array Value} (ks : List (Addr × NestedKey)) {Q : Value → Shared → Prop} (hh : A.handled = none) (hl : s.heap.IsList l items) (hz : items.size = ks.length) (hv : ∀ (i : Nat) (v : Value), items[i]? = some v → ∃ p, ks[i]? = some p ∧ v = .ref p.1) (hk : ∀ p ∈ ks, KAt s.heap p.2 p.1) (hb : ks.length ≤ 4) (hu : A.units + 40 < cLine)
    (h : ∀ h' tk L es ep t, Few w h' s.heap.objs.size L es ep t → L.length = cntA (ks.map (·.2)) → (∀ b o, s.heap.get? b = some o → h'.get? b = some o) → Q (.ref s.heap.objs.size) { s with heap := h', toks := tk }) :
    wpAny (model P w) A (call (.type "set") [.ref l]) Q E s := by
  obtain ⟨c, tl, hmro⟩ := F.called_set.mro
  have hmade := F.called_set.made
  have hsub := F.called_set.sub
  refine wpAny_call (codeAny_of_tree ?_)
  show wpAny _ _ (callAny (.type "set") _) _ _ _
  refine wpAny_pure ⟨Code.quiet_builtin _ (by decide +kernel), codeAny_builtin F.entry_type_call ?_⟩
  rw [Around.under_plain (weight_type_call_type "set" [.ref l] []) rfl]
  have h1 := F.called_set.notType
  have h2 := F.called_set.canCreate
  have hct := F.typeCall_set_1 (.ref l)
  repeat (any_goals (first | assumption | wp_step))
  refine codeAny_mono (code_set_led1 (.ref l) (E := E) (Q₁ := fun obj s₁ => obj = .ref s.heap.objs.size ∧ s₁ = { s with heap := s.heap.push (newSet w) }) ⟨rfl, rfl⟩) fun r s₁ hr => ?_
  match r, hr with
  | .error e, hr => exact hr
  | .ok (.ret obj), hr =>
  obtain ⟨rfl, rfl⟩ := hr
  have hS : (s.heap.push (newSet w)).get? s.heap.objs.size = some (newSet w) := Heap.get?_push_size _ rfl
  have hT : Shared.TypeIs { s with heap := s.heap.push (newSet w) } (.ref s.heap.objs.size) "set" := ⟨_, hS, rfl⟩
  have hli := F.called_set.init.lookup
  have hbi := F.called_set.init.bind (.ref s.heap.objs.size)
  repeat (any_goals (first | assumption | wp_step))
  refine codeAny_mono (codeAny_call_builtin (R := wants (fun r s₂ => r = .none ∧ Q (.ref s.heap.objs.size) s₂) E) F.called_set.init.plain F.entry_set_init (check_set_init_1 hT ?_)) fun r₂ s₂ hr₂ => ?_
  rotate_left
  · match r₂, hr₂ with
    | .error e, hr₂ => exact hr₂
    | .ok (.ret r), hr₂ =>
    obtain ⟨rfl, hq⟩ := hr₂
    repeat (any_goals (first | assumption | wp_step))
  · have hl1 : (s.heap.push (newSet w)).IsList l items := hl.push _
    unfold Builtin.«set.__init__» noKeywords Builtin.Frozenset.updateFrom
    have hlS : l < s.heap.objs.size := by
      obtain ⟨o, ho, _⟩ := hl
      exact Heap.lt_size ho
    obtain ⟨ol, hol, hcl, nl, hdl⟩ := hl1
    have hl1 : (s.heap.push (newSet w)).IsList l items := ⟨ol, hol, hcl, nl, hdl⟩
    have hsls := F.sub_list_set
    have hslf := F.sub_list_frozenset
    have hne : (Value.type "list" == Value.type "dict") = false := by decide
    have hTl : Shared.TypeIs { s with heap := s.heap.push (newSet w) } (.ref l) "list" := ⟨ol, hol, hcl⟩
    generalize hPI : pyIter = PI
    wp_walk
    subst hPI
    refine wpAny_pyIter_list hl1 ?_
    refine wpAny_bind (wpAny_runValue ?_)
    have hh3 : A.in1.in1.in1.handled = none := by simp [hh]
    have hz1 : (s.heap.push (newSet w)).objs.size = s.heap.objs.size + 1 := Heap.size_push ..
    have hneI : l ≠ (s.heap.push (newSet w)).objs.size := by rw [hz1]; exact Nat.ne_of_lt (Nat.lt_succ_of_lt hlS)
    have hSf : s.heap.objs.size ∉ [(s.heap.push (newSet w)).objs.size, l] := by
      rw [hz1]
      simp only [List.mem_cons, List.not_mem_nil, or_false, not_or]
      exact ⟨Nat.ne_of_lt (Nat.lt_succ_self _), Nat.ne_of_gt hlS⟩
    have free : ∀ b, s.heap.objs.size ≤ b → s.heap.get? b = none := fun b hb => by
      cases q : s.heap.get? b with
      | none => rfl
      | some o => exact absurd (Nat.lt_of_lt_of_le (Heap.lt_size q) hb) (Nat.lt_irrefl _)
    refine set_update_T ((Walks.list hh3 _ l hneI items).toS) s.heap.objs.size hSf ks hz hb hv s.heap hk (free _ (Nat.le_refl _)) (fun b hb => free b (by rw [List.mem_singleton.mp hb, hz1]; omega)) (by simp only [Around.in1_units]; omega) (items.size - 0) 0 _ (by omega) (Nat.zero_le _) ⟨⟨_, Heap.get?_push_size _ rfl, rfl, rfl⟩, hl1.push _⟩ (fun b o e => Heap.get?_push_of_some _ (Heap.get?_push_of_some _ e)) ?_ ?_
    · have hget : ((s.heap.push (newSet w)).push { cls := .type "list_iterator", data := .fields #[.ref l, .int 0 0] }).get? s.heap.objs.size = some (newSet w) := Heap.get?_push_of_some _ hS
      exact ⟨[], #[], 0, _, Few.new hget, fun p hp => (by cases hp), fun k => (by simp), Nat.le_refl _⟩
    · intro s' L es ep t hm hS' g hkp
      obtain ⟨h', g2, d', tk', os'⟩ := s'
      have eg : g2 = s.gens := hm.gens
      have ed : d' = s.drawn := hm.drawn
      have eo : os' = s.os := hm.os
      subst eg; subst ed; subst eo
      show wpAny _ _ (pure ()) _ _ _
      refine wpAny_pure ?_
      show wpAny _ _ (ret Value.none) _ _ _
      refine wpAny_pure ⟨rfl, h h' tk' L es ep t hS' ?_ hkp⟩
      have e : ks.take items.size = ks := List.take_of_length_le (by omega)
      have q := g.2.1
      rw [e] at q
      rw [← List.length_map (f := (·.2))]
      exact cntA_of hS'.nd q
end
section
variable {X : Cz}
def lenSetOk (K : FgK) (H : Hp) (x : V) (n : Nat) : Prop := ∃ (l : Addr) (xs : List V), x = .ref l ∧ H l = some (.lst xs) ∧
  ((∃ ks : List Key, xs = ks.map kV ∧ ks.length + 1 < scanBound ∧ n = cntA ks) ∨
    ∃ (F : Hp) (ns : List NestedKey), Le F H ∧ AtAll K F (ns.map nkD) xs ∧ (∀ k ∈ ns, (∃ z, k = .tup z) ∧ k.depth ≤ 8) ∧ ns.length ≤ 4 ∧ n = cntA ns)
def tLenSet (K : FgK) (ta : TE) : TE := fun σ H Q => ta σ H fun x H1 => ∃ n, lenSetOk K H1 x n ∧ Q (.int (n : Nat)) H1
theorem keys_at {pins : List (Addr × Obj)} {σ : L2.St} {H F : Hp} {s : Shared} (I : Inv X pins σ H s) (hF : Le F H) : ∀ {ns : List NestedKey} {xs : List V} {us : List Value}, AtAll X.fr F (ns.map nkD) xs → Vals xs us → (∀ k ∈ ns, (∃ z, k = .tup z) ∧ k.depth ≤ 8) →
    ∃ ks : List (Addr × NestedKey), ks.map (·.2) = ns ∧ us = ks.map (fun p => Value.ref p.1) ∧ ∀ p ∈ ks, KAt s.heap p.2 p.1
  | [], xs, us, a, r, _ => by
    have a : xs = [] := by simpa [AtAll] using a
    subst a
    cases r
    exact ⟨[], rfl, rfl, fun p hp => by cases hp⟩
  | k :: ns, xs, us, a, r, hd => by
    simp only [List.map_cons, AtAll] at a
    obtain ⟨x, ys, rfl, a, al⟩ := a
    cases r with
    | cons r1 r2 =>
      obtain ⟨ks, e1, e2, e3⟩ := keys_at I hF al r2 fun k hk => hd k (List.mem_cons_of_mem _ hk)
      obtain ⟨⟨z, hz⟩, hdep⟩ := hd k List.mem_cons_self
      have n1 := nested_at I hF k x _ a r1
      subst hz
      cases n1 with
      | @tup b o vs n _ g1 g2 g3 g4 =>
        refine ⟨(b, .tup z) :: ks, by rw [List.map_cons, e1], by rw [List.map_cons, e2], fun p hp => ?_⟩
        rcases List.mem_cons.mp hp with e | hp
        · rw [e]; exact ⟨.tup g1 g2 g3 g4, hdep⟩
        · exact e3 p hp
theorem pe_lenSet {a : Expr} {ta : TE} {p p2 q pos : Pos} (hu : X.A.units + 64 < cLine) (hc : X.calm = true) (hg : Gl X "len") (hm : X.mg "len" = none) (hg2 : Gl X "set") (hm2 : X.mg "set" = none) (ha : PE X a ta)
    (na : starEach [a] X.env = (false, eval a X.env) :: starEach [] X.env := by rfl) : PE X (.Call (.Name "len" p) [.Call (.Name "set" p2) [a] [] q] [] pos) (tLenSet X.fr ta) := by
  refine ⟨fun pins s σ H Q I h => ?_⟩
  refine Call_ (ld_blt I hg hm PySem.boot_len ?_)
  refine PyProof.Rows.callWith_builtin1 (PyProof.Rows.args_cons ?_ rfl) rfl rfl
  refine Call_ (ld_blt I hg2 hm2 PyProof.Rows.boot_set ?_)
  refine PyProof.Rows.callWith_type1 (PyProof.Rows.args_cons (thn (ha.run pins s σ H _ I h) fun v s1 ⟨x, H1, I1, r1, q1⟩ => PyProof.Rows.args_nil ?_) na) na rfl
  obtain ⟨n, ⟨l, xs, rfl, hq, hcase⟩, q1⟩ := q1
  cases r1
  obtain ⟨its, rv, pl, hz⟩ := I1.list (SqL.of hq)
  have hlen := rv.length
  rw [sizeLine_eq] at hz
  rcases hcase with ⟨ks, rfl, hb, rfl⟩ | ⟨F, ns, hF, hat, hd, hb, rfl⟩
  · rw [List.length_map] at hlen hz
    refine call_set_K ks (I1.ok.hd hc) pl.isList (by simp [hlen]) (fun i v hv => ?_) hb fun h' tk hS hk => ?_
    · have hv : its[i]? = some v := by simpa using hv
      have hi := (List.getElem?_eq_some_iff.mp hv).1
      have hk : i < ks.length := by omega
      obtain ⟨u, e1, e2⟩ := rv.get (i := i) (x := kV ks[i]) (by rw [List.getElem?_map, List.getElem?_eq_getElem hk]; rfl)
      rw [hv] at e1
      cases e1
      exact ⟨ks[i], List.getElem?_eq_getElem hk, e2⟩
    · refine PyProof.Rows.args_nil ?_
      obtain ⟨o, es, ep, t, ho, hex, hd, _, _, _, hf, hn⟩ := hS
      have I2 : Inv X pins σ H1 { s1 with heap := h', toks := tk } := I1.kept fun b o e => hk b o e
      have hcl := cntK_le ks
      refine call_len_set ho hex hd hf (by rw [hn]; omega) ⟨.int (cntA ks : Nat), H1, I2.tok _, ⟨_, by rw [hn, cntK_A]⟩, q1⟩
  · obtain ⟨ks, e1, e2, e3⟩ := keys_at I1 hF hat rv hd
    have hkl : ks.length = ns.length := by rw [← e1, List.length_map]
    refine call_set_T ks (I1.ok.hd hc) pl.isList (by rw [e2]; simp) (fun i v hv => ?_) e3 (by omega) (by omega) fun h' tk L es ep t hS hL hk => ?_
    · have hv : its[i]? = some v := by simpa using hv
      rw [e2, List.getElem?_map] at hv
      cases hp : ks[i]? with
      | none => rw [hp] at hv; cases hv
      | some p => rw [hp] at hv; cases hv; exact ⟨p, rfl, rfl⟩
    · refine PyProof.Rows.args_nil ?_
      obtain ⟨o, ho, hex, hd2⟩ := hS.ob
      have I2 : Inv X pins σ H1 { s1 with heap := h', toks := tk } := I1.kept fun b o e => hk b o e
      have hsz := Few.size (s := { s1 with heap := h' }) hS
      have hfw := hS.few
      refine call_len_set ho hex hd2 (Few.fits (s := { s1 with heap := h' }) hS) (by omega) ⟨.int (cntA ns : Nat), H1, I2.tok _, ⟨_, by rw [hsz, hL, e1]⟩, q1⟩
/-- .. by data -/
def SetLen (ds : List D) (n : Nat) : Prop := (∃ ks : List Key, ds = ks.map kD ∧ ks.length + 1 < scanBound ∧ n = cntA ks) ∨ ∃ ns : List NestedKey, ds = ns.map nkD ∧ (∀ k ∈ ns, (∃ z, k = .tup z) ∧ k.depth ≤ 8) ∧ ns.length ≤ 4 ∧ n = cntA ns
def qLenSet (A : PE') : PE' := fun env Q => A env fun o env1 => ∃ ds, o.rd env1 = some (.list ds) ∧ ∃ n, SetLen ds n ∧ Q (.dv (.int (n : Nat))) env1
theorem keys_kV {K : FgK} {F : Hp} : ∀ {ks : List Key} {xs : List V}, AtAll K F (ks.map kD) xs → xs = ks.map kV
  | [], xs, h => by simpa [AtAll] using h
  | k :: ks, xs, h => by
    simp only [List.map_cons, AtAll] at h
    obtain ⟨x, r, rfl, a, q⟩ := h
    rw [List.map_cons, key_at a, keys_kV q]
theorem q_lenSet {a : Expr} {A : PE'} {p p2 q pos : Pos} (hu : X.A.units + 64 < cLine) (hc : X.calm = true) (hg : Gl X "len") (hm : X.mg "len" = none) (hg2 : Gl X "set") (hm2 : X.mg "set" = none) (ha : EV X a A)
    (na : starEach [a] X.env = (false, eval a X.env) :: starEach [] X.env := by rfl) : EV X (.Call (.Name "len" p) [.Call (.Name "set" p2) [a] [] q] [] pos) (qLenSet A) := by
  obtain ⟨t, h1, l1⟩ := ha.ex
  refine ⟨_, pe_lenSet hu hc hg hm hg2 hm2 h1 na, fun C σ H F env Q Qp R k z => ?_⟩
  refine l1 C σ H F env _ _ R (fun v H1 F1 env1 o s1 a1 q1 => ?_) z
  obtain ⟨ds, e, n, hn, q1⟩ := q1
  obtain ⟨l, xs, rfl, hl, al⟩ := rd_vw s1.rel a1 e
  refine ⟨n, ⟨l, xs, rfl, hl, ?_⟩, k _ H1 F1 env1 _ s1 (by simp [OvOk, At]) q1⟩
  rcases hn with ⟨ks, rfl, hb, rfl⟩ | ⟨ns, rfl, hd, hb, rfl⟩
  · exact .inl ⟨ks, keys_kV al, hb, rfl⟩
  · exact .inr ⟨F1, ns, s1.rel.frz, al, hd, hb, rfl⟩
end
end Sw

set_option Elab.async false
set_option linter.all false
set_option maxRecDepth 100000
set_option maxHeartbeats 4000000
/-! enumerate(a tuple) -/
namespace PySem
open Sem (wp)
open AutoSeq1 (wpAny_loadPart')
theorem meets_enumerate_newT (l : Addr) (items : Array Value) (n : Nat) (dct : Option Addr) (sl : Array (Option Value)) :
    Meets (Builtin.«enumerate.__new__» ⟨[.type "enumerate", .ref l], []⟩) (fun _ R s => s.heap.get? l = some { cls := .type "tuple", dict := dct, data := .seq items n, slots := sl } ∧
      R (.ok (.ret (.ref (s.heap.push { cls := .type "tuple_iterator", data := .fields #[.ref l, .int 0 0] }).objs.size)))
        { s with heap := (s.heap.push { cls := .type "tuple_iterator", data := .fields #[.ref l, .int 0 0] }).push { cls := .type "enumerate", data := .fields #[.none, .bool false, .ref s.heap.objs.size, rawInt 0, .none, .none] } }) :=
  .of_wp fun prog w A R s h => by
    obtain ⟨hp, g, d, tk, os⟩ := s; obtain ⟨hl, h⟩ := h
    have hsub := sub_enumerate
    have hL : Heap.IsTuple (Shared.heap ⟨hp, g, d, tk, os⟩) l items := ⟨_, hl, rfl, n, rfl⟩
    wp_walk using wpAny_loadPart' hl
    refine wpAny_stack_any fun st => wpAny_pure ?_
    split
    · rename_i c _ _ _ _ _
      cases (c == Value.type "enumerate")
      · wp_walk using wpAny_loadPart' hl, wpAny_pyIter_tuple hL
        exact ⟨_, rfl, h⟩
      · wp_walk using wpAny_loadPart' hl, wpAny_pyIter_tuple hL
        exact ⟨_, rfl, h⟩
    · wp_walk using wpAny_loadPart' hl, wpAny_pyIter_tuple hL
      exact ⟨_, rfl, h⟩
section
variable {prog : Program} {w : World} {A : Around} {E : Value → Shared → Prop} {s : Shared}
theorem call_enumerate_tuple {l : Addr} {items : Array Value} {Q : Value → Shared → Prop} (hL : s.heap.IsTuple l items)
    (h : ∀ h', IsEnum h' (s.heap.objs.size + 1) s.heap.objs.size 0 .none → h'.IsTupleIter s.heap.objs.size l 0 → h'.objs.size = s.heap.objs.size + 2 →
      (∀ b o, s.heap.get? b = some o → h'.get? b = some o) → Q (.ref (s.heap.objs.size + 1)) { s with heap := h' }) :
    wpAny (model prog w) A (call (.type "enumerate") [.ref l]) Q E s := by
  obtain ⟨⟨c, dct, dt, sl⟩, hl, hc, n, hd⟩ := hL
  replace hc : c = .type "tuple" := hc
  replace hd : dt = .seq items n := hd
  subst hc hd
  refine callType_new F.called_enumerate (by decide) (F.typeCall_enumerate_1 _) (F.newCall_enumerate_1 _) (fun obj => F.args_object_init_2 obj _) F.entry_enumerate_new
    (meets_enumerate_newT l items n dct sl) ⟨hl, ?_⟩
  have hz : (s.heap.push { cls := .type "tuple_iterator", data := .fields #[.ref l, .int 0 0] }).objs.size = s.heap.objs.size + 1 := Heap.size_push ..
  show _ ∧ _
  rw [hz]
  have he : IsEnum ((s.heap.push { cls := .type "tuple_iterator", data := .fields #[.ref l, .int 0 0] }).push
      { cls := .type "enumerate", data := .fields #[.none, .bool false, .ref s.heap.objs.size, rawInt 0, .none, .none] }) (s.heap.objs.size + 1) s.heap.objs.size 0 .none := by
    have := Heap.get?_push_size (s.heap.push { cls := .type "tuple_iterator", data := .fields #[.ref l, .int 0 0] })
      (o := { cls := .type "enumerate", data := .fields #[.none, .bool false, .ref s.heap.objs.size, rawInt 0, .none, .none] }) rfl
    rw [hz] at this; exact this
  refine ⟨⟨_, he, rfl⟩, h _ he ⟨_, Heap.get?_push_of_some _ (Heap.get?_push_size _ rfl), rfl, rfl⟩ (by rw [Heap.size_push, hz]) fun b o x => Heap.get?_push_of_some _ (Heap.get?_push_of_some _ x)⟩
theorem wpAny_nextOf_tup_item {it l : Addr} {i : Nat} {items} {x : Value} {Q : Value → Shared → Prop} (hit : s.heap.IsTupleIter it l i)
    (hl : s.heap.IsTuple l items) (hx : items[i]? = some x)
    (hQ : ∀ h', h'.IsTupleIter it l (i + 1) → Heap.SameBut it s.heap h' → Q x { s with heap := h' }) :
    wpAny (model prog w) A (Builtin.SmallTypes.nextOf (.ref it)) Q E s := by
  obtain ⟨o, ho, hc, hd⟩ := id hit
  obtain ⟨ol, hol, _, nl, hdl⟩ := hl
  unfold Builtin.SmallTypes.nextOf
  refine wpAny_bind (wpAny_callSpecial?_slot (name := Str.ofString "__next__") hit.typeIs F.slot_tuple_iterator_next
    (wpAny_call_entry F.slot_tuple_iterator_next hit.typeIs F.entry_tuple_iterator_next ?_ (F.args_tuple_iterator_next_1 _)))
  show wpAny _ _ (field (.ref it) 0 >>= _) _ _ s
  refine wpAny_bind (wpAny_field ho hd (x := .ref l) rfl ?_)
  show wpAny _ _ (if (Value.ref l == Value.none) = true then _ else _) _ _ s
  rw [if_neg (show ¬ ((Value.ref l == Value.none) = true) from Bool.false_ne_true)]
  show wpAny _ _ (field (.ref it) 1 >>= _) _ _ s
  refine wpAny_bind (wpAny_field ho hd (x := .int i 0) rfl ?_)
  show wpAny _ _ (seqItems? (.ref l) >>= _) _ _ s
  refine wpAny_bind (wpAny_seqItems hol hdl ?_)
  simp only [Int.toNat_natCast, hx]
  refine wpAny_bind (wpAny_setField ho hd (by simp) (wpAny_pure ⟨x, rfl, wpAny_pure (hQ _ ?_ (Heap.SameBut.update ..))⟩))
  exact ⟨_, Heap.get?_update_self _ ho (Obj.isFreed_of_fields (Obj.data_mapFields hd _)), (Obj.cls_mapFields ..).trans hc, by
    rw [Obj.data_mapFields hd]; simp [rawInt]⟩
theorem wpAny_nextOf_tup_end {it l : Addr} {i : Nat} {items} {Q : Value → Shared → Prop} (hh : A.handled = none)
    (hit : s.heap.IsTupleIter it l i) (hl : s.heap.IsTuple l items) (hx : items[i]? = none)
    (hE : ∀ h' e, Heap.ExtBut it s.heap h' → (∃ o, h'.get? e = some o ∧ o.cls = .type "StopIteration") → E (.ref e) { s with heap := h' }) :
    wpAny (model prog w) A (Builtin.SmallTypes.nextOf (.ref it)) Q E s := by
  obtain ⟨o, ho, hc, hd⟩ := id hit
  obtain ⟨ol, hol, _, nl, hdl⟩ := hl
  unfold Builtin.SmallTypes.nextOf
  refine wpAny_bind (wpAny_callSpecial?_slot (name := Str.ofString "__next__") hit.typeIs F.slot_tuple_iterator_next
    (wpAny_call_entry F.slot_tuple_iterator_next hit.typeIs F.entry_tuple_iterator_next ?_ (F.args_tuple_iterator_next_1 _)))
  show wpAny _ _ (field (.ref it) 0 >>= _) _ _ s
  refine wpAny_bind (wpAny_field ho hd (x := .ref l) rfl ?_)
  show wpAny _ _ (if (Value.ref l == Value.none) = true then _ else _) _ _ s
  rw [if_neg (show ¬ ((Value.ref l == Value.none) = true) from Bool.false_ne_true)]
  show wpAny _ _ (field (.ref it) 1 >>= _) _ _ s
  refine wpAny_bind (wpAny_field ho hd (x := .int i 0) rfl ?_)
  show wpAny _ _ (seqItems? (.ref l) >>= _) _ _ s
  refine wpAny_bind (wpAny_seqItems hol hdl ?_)
  simp only [Int.toNat_natCast, hx]
  refine wpAny_bind (wpAny_rule (wpAny_bind (wpAny_setField ho hd (by simp) ?_)))
  show wpAny _ _ (newExc (.type "StopIteration") [] >>= _) _ _ _
  refine wpAny_bind ?_
  simp only [newExc, newTuple]
  refine wpAny_bind (wpAny_newObj_type ?_ (by size_fits))
  refine wpAny_bind (m := firstArgMember _ _) (wpAny_of_eq (a := Value.none) (by first | rfl | (simp only [firstArgMember]; rfl)) ?_)
  refine wpAny_newObj_type ?_ (by size_fits)
  simp only [raiseNew]
  refine wpAny_bind (wpAny_handled ?_)
  first | rw [show A.in1.handled = none from hh] | rw [hh]
  refine wpAny_bind (wpAny_pure (wpAny_throw ?_))
  exact hE _ _ (((Heap.SameBut.update ..).extBut.push _).push _) ⟨_, Heap.get?_push_size _ rfl, rfl⟩
theorem enumerate_next_itemT {e it l : Addr} {i : Nat} {items : Array Value} {x old : Value} {Q : Value → Shared → Prop}
    (he : IsEnum s.heap e it i old) (hit : s.heap.IsTupleIter it l i) (hl : s.heap.IsTuple l items) (hx : items[i]? = some x) (hne : e ≠ it)
    (hQ : ∀ h', IsEnumOut h' e it ((i : Int) + 1) x s.heap.objs.size → h'.IsTupleIter it l (i + 1) →
      h'.get? s.heap.objs.size = some { cls := .type "tuple", data := .seq #[.int i s.toks, x] } → h'.objs.size = s.heap.objs.size + 1 →
      (∀ b o, b ≠ e → b ≠ it → s.heap.get? b = some o → h'.get? b = some o) → Q (.ref s.heap.objs.size) { s with heap := h', toks := s.toks + 1 }) :
    wpAny (model prog w) A (Builtin.«enumerate.__next__» ⟨[.ref e], []⟩) (fun fin s' => ∃ v, fin = .done (.ret v) ∧ Q v s') E s := by
  obtain ⟨hp, g, d, tk, os⟩ := s
  show wpAny _ _ (field (.ref e) 2 >>= _) _ _ _
  refine wpAny_bind (wpAny_field he rfl (x := .ref it) rfl ?_)
  refine wpAny_bind (wpAny_nextOf_tup_item hit hl hx fun h₁ hit₁ hs₁ => ?_)
  replace hs₁ : Heap.SameBut it hp h₁ := hs₁
  have he₁ : IsEnum h₁ e it i old := (hs₁.2 e hne).trans he
  show wpAny _ _ (field (.ref e) 3 >>= _) _ _ ⟨h₁, g, d, tk, os⟩
  refine wpAny_bind (wpAny_field he₁ rfl (x := rawInt i) rfl ?_)
  show wpAny _ _ (field (.ref e) 4 >>= _) _ _ ⟨h₁, g, d, tk, os⟩
  refine wpAny_bind (wpAny_field he₁ rfl (x := .none) rfl ?_)
  show wpAny _ _ (mkInt i >>= _) _ _ ⟨h₁, g, d, tk, os⟩
  refine wpAny_bind (wpAny_mkInt ?_)
  show wpAny _ _ (setField (.ref e) 3 (rawInt ((i : Int) + 1)) >>= _) _ _ ⟨h₁, g, d, tk + 1, os⟩
  refine wpAny_bind (wpAny_setField_rec he₁ (by simp) fun h₂ he₂ hs₂ => ?_)
  replace hs₂ : Heap.SameBut e h₁ h₂ := hs₂
  replace he₂ : IsEnum h₂ e it ((i : Int) + 1) old := he₂
  show wpAny _ _ (setField (.ref e) 4 .none >>= _) _ _ ⟨h₂, g, d, tk + 1, os⟩
  refine wpAny_bind (wpAny_setField_rec he₂ (by simp) fun h₃ he₃ hs₃ => ?_)
  replace hs₃ : Heap.SameBut e h₂ h₃ := hs₃
  replace he₃ : IsEnum h₃ e it ((i : Int) + 1) old := he₃
  show wpAny _ _ (newTuple [.int i tk, x] >>= _) _ _ ⟨h₃, g, d, tk + 1, os⟩
  refine wpAny_bind (wpAny_newTuple ?_)
  have he₄ : IsEnum (h₃.push { cls := .type "tuple", data := .seq #[.int i tk, x] }) e it ((i : Int) + 1) old := Heap.get?_push_of_some _ he₃
  generalize hh₄ : h₃.push { cls := .type "tuple", data := .seq #[.int i tk, x] } = h₄ at he₄
  have hsz : h₃.objs.size = hp.objs.size := by rw [hs₃.1, hs₂.1, hs₁.1]
  have hel : e < hp.objs.size := Heap.lt_size he
  have ht₄ : h₄.get? hp.objs.size = some { cls := .type "tuple", data := .seq #[.int i tk, x] } := by rw [← hh₄, ← hsz]; exact Heap.get?_push_size _ rfl
  have hz₄ : h₄.objs.size = hp.objs.size + 1 := by rw [← hh₄, Heap.size_push, hsz]
  have hk₄ : ∀ b o, b ≠ e → b ≠ it → hp.get? b = some o → h₄.get? b = some o := fun b o hbe hbi hb => by
    rw [← hh₄]; exact Heap.get?_push_of_some _ (hs₃.extBut b o hbe (hs₂.extBut b o hbe (hs₁.extBut b o hbi hb)))
  have hit₄ : h₄.IsTupleIter it l (i + 1) := by
    rw [← hh₄]; obtain ⟨o, ho, r⟩ := (hit₁.extBut hs₂.extBut (Ne.symm hne)).extBut hs₃.extBut (Ne.symm hne); exact ⟨o, Heap.get?_push_of_some _ ho, r⟩
  show wpAny _ _ (Builtin.SmallTypes.ownedTupleIsFree (.ref e) >>= _) _ _ ⟨h₄, g, d, tk + 1, os⟩
  rw [hsz]
  clear hh₄ he₃ hs₃ he₂ hs₂ he₁ hs₁ hit₁ hsz h₃ h₂ h₁
  refine wpAny_bind ?_
  · unfold Builtin.SmallTypes.ownedTupleIsFree
    refine wpAny_bind (wpAny_field he₄ rfl (x := .none) rfl (wpAny_pure ?_))
    simp only [if_true]
    refine wpAny_bind (wpAny_rule ?_)
    refine wpAny_bind (wpAny_field he₄ rfl (x := old) rfl ?_)
    refine wpAny_bind (wpAny_setField_rec he₄ (by simp) fun h₅ he₅ hs₅ => ?_)
    replace hs₅ : Heap.SameBut e h₄ h₅ := hs₅
    replace he₅ : IsEnum h₅ e it ((i : Int) + 1) x := he₅
    show wpAny _ _ (Builtin.SmallTypes.ownedTupleHandOut (.ref e) (.ref hp.objs.size) >>= _) _ _ ⟨h₅, g, d, tk + 1, os⟩
    refine wpAny_bind ?_
    · unfold Builtin.SmallTypes.ownedTupleHandOut
      refine wpAny_bind (wpAny_setField_rec he₅ (by simp) fun h₆ he₆ hs₆ => ?_)
      replace hs₆ : Heap.SameBut e h₅ h₆ := hs₆
      replace he₆ : IsEnumOut h₆ e it ((i : Int) + 1) x hp.objs.size := he₆
      refine wpAny_setField_rec he₆ (by simp) fun h₇ he₇ hs₇ => ?_
      replace hs₇ : Heap.SameBut e h₆ h₇ := hs₇
      replace he₇ : IsEnumOut h₇ e it ((i : Int) + 1) x hp.objs.size := he₇
      refine wpAny_bind (wpAny_letGo (wpAny_pure ⟨_, rfl, hQ h₇ he₇ ?_ ?_ ?_ ?_⟩))
      · exact ((hit₄.extBut hs₅.extBut (Ne.symm hne)).extBut hs₆.extBut (Ne.symm hne)).extBut hs₇.extBut (Ne.symm hne)
      · exact hs₇.extBut _ _ (Nat.ne_of_gt hel) (hs₆.extBut _ _ (Nat.ne_of_gt hel) (hs₅.extBut _ _ (Nat.ne_of_gt hel) ht₄))
      · rw [hs₇.1, hs₆.1, hs₅.1, hz₄]
      · exact fun b o hbe hbi hb => hs₇.extBut b o hbe (hs₆.extBut b o hbe (hs₅.extBut b o hbe (hk₄ b o hbe hbi hb)))

theorem wpAny_pyNext_enum_itemT {e it l : Addr} {i : Nat} {items : Array Value} {x old : Value} {Q : Option Value → Shared → Prop}
    (he : IsEnum s.heap e it i old) (hit : s.heap.IsTupleIter it l i) (hl : s.heap.IsTuple l items) (hx : items[i]? = some x) (hne : e ≠ it)
    (hQ : ∀ h', IsEnumOut h' e it ((i : Int) + 1) x s.heap.objs.size → h'.IsTupleIter it l (i + 1) →
      h'.get? s.heap.objs.size = some { cls := .type "tuple", data := .seq #[.int i s.toks, x] } → h'.objs.size = s.heap.objs.size + 1 →
      (∀ b o, b ≠ e → b ≠ it → s.heap.get? b = some o → h'.get? b = some o) → Q (some (.ref s.heap.objs.size)) { s with heap := h', toks := s.toks + 1 }) :
    wpAny (model prog w) A (pyNext (.ref e)) Q E s := by
  have hT : s.TypeIs (.ref e) "enumerate" := ⟨_, he, rfl⟩
  unfold pyNext
  exact wpAny_bind (wpAny_attempt (wpAny_callSpecial?_slot (name := Str.ofString "__next__") hT F.slot_enumerate_next
    (wpAny_call_entry F.slot_enumerate_next hT F.entry_enumerate_next
      (enumerate_next_itemT he hit hl hx hne fun h' a b c d k => wpAny_pure (hQ h' a b c d k)) (F.args_enumerate_next_1 _))))

theorem wpAny_pyNext_enum_endT {e it l : Addr} {i : Nat} {items : Array Value} {old : Value} {Q : Option Value → Shared → Prop} (hh : A.handled = none)
    (he : IsEnum s.heap e it i old) (hit : s.heap.IsTupleIter it l i) (hl : s.heap.IsTuple l items) (hx : items[i]? = none)
    (hQ : ∀ h', Heap.ExtBut it s.heap h' → Q none { s with heap := h' }) : wpAny (model prog w) A (pyNext (.ref e)) Q E s := by
  have hT : s.TypeIs (.ref e) "enumerate" := ⟨_, he, rfl⟩
  unfold pyNext
  refine wpAny_bind (wpAny_attempt (wpAny_callSpecial?_slot (name := Str.ofString "__next__") hT F.slot_enumerate_next
    (wpAny_call_entry F.slot_enumerate_next hT F.entry_enumerate_next ?_ (F.args_enumerate_next_1 _))))
  show wpAny _ _ (field (.ref e) 2 >>= _) _ _ _
  refine wpAny_bind (wpAny_field he rfl (x := .ref it) rfl ?_)
  refine wpAny_bind (wpAny_nextOf_tup_end hh hit hl hx fun h' x he' hx' => ?_)
  obtain ⟨o, ho, hc⟩ := hx'
  refine wpAny_bind (wpAny_isInstance (T := "StopIteration") (b := true) ⟨o, ho, hc⟩ isSubtype_stop ?_)
  exact wpAny_pure (hQ _ he')
end
end PySem
namespace L2
open PySem PySem.Spec PyProof.Rows
/-- the tuple at a at each turn, each item in a new pair -/
def IteT (K : PySem.W.Frag) (a : Addr) : It :=
  ⟨fun i H => ∃ (xs : List V) (x : V), SqT K H a xs ∧ xs[i]? = some x, fun i H v H' => ∃ T x, v = .ref T ∧ H T = none ∧ H' = upd H T (.tup [.int (i : Nat), x]) ∧ ∀ xs, SqT K H a xs → xs[i]? = some x, fun i H => ∃ xs : List V, SqT K H a xs ∧ xs.length ≤ i⟩
theorem turn_enumT {P : Program} {w : World} {K : PySem.W.Frag} {elts : List Expr} {kk : Nat} {tpos : Pos} (a e it : Addr) :
    Turn P w K (.Tuple elts kk tpos) (IteT K a) [e, it] e (fun i h => (∃ old, IsEnum h e it ((i : Nat) : Int) old) ∧ h.IsTupleIter it a i ∧ e ≠ it) where
  mem := by simp
  obj := fun i h st b hb => by
    obtain ⟨⟨old, he⟩, ⟨o, ho, hc, hd⟩, _⟩ := st
    have e' : b = e ∨ b = it := by simpa using hb
    rcases e' with z | z
    · rw [z]; exact ⟨_, he, fun v q => nomatch q⟩
    · rw [z]; exact ⟨o, ho, fun v q => by rw [hd] at q; cases q⟩
  keep := fun i h h' st k => let ⟨⟨old, he⟩, hi, hne⟩ := st; ⟨⟨old, k e (by simp) _ he⟩, hi.at fun o q => k it (by simp) o q, hne⟩
  item := by
    intro X hP hw hK hc i pins s σ H E I hf st hg
    subst hP hw hK
    obtain ⟨⟨old, he⟩, hit, hne⟩ := st
    obtain ⟨xs, x, hq, hx⟩ := hg
    obtain ⟨its, rv, p, hz⟩ := I.tuple hq
    obtain ⟨u, hu, ru⟩ := rv.get hx
    have hel : e < s.heap.objs.size := Heap.lt_size he
    have hil : it < s.heap.objs.size := by obtain ⟨_, q, _⟩ := hit; exact Heap.lt_size q
    refine wpAny_pyNext_enum_itemT he hit (show s.heap.IsTuple a its.toArray from p) (x := u) (by simpa using hu) hne fun h' ho hit' hT hsz hk => ?_
    refine ⟨_, rfl, wpAny_letOwnedTupleGo_enum (s := { s with heap := h', toks := s.toks + 1 }) ho fun h'' he' sb => ?_⟩
    have hT2 : h''.get? s.heap.objs.size = some { cls := .type "tuple", data := .seq #[.int i s.toks, u] } := (sb.2 _ (Nat.ne_of_gt hel)).trans hT
    have new : ObjOk X.prog X.w (upd H s.heap.objs.size (.tup [.int (i : Nat), x])) h'' s.heap.objs.size (.tup [.int (i : Nat), x]) :=
      ⟨by show 2 ≤ sizeLine; decide, [.int i s.toks, u], .cons ⟨_, rfl⟩ (.cons ru .nil), ⟨_, hT2, rfl, _, rfl⟩⟩
    have I1 : Inv X pins σ (upd H s.heap.objs.size (.tup [.int (i : Nat), x])) { s with heap := h'', toks := s.toks + 1 } :=
      I.turnedNew (ch := [e, it]) (fun b ob hb q => (sb.2 b (fun z => hb (by simp [z]))).trans (hk b ob (fun z => hb (by simp [z])) (fun z => hb (by simp [z])) q)) hf (Nat.le_refl _) new
    refine ⟨.ref s.heap.objs.size, _, I1, rfl, ⟨_, x, rfl, I.hok.fresh (Nat.le_refl _), rfl, fun ys hy => by rw [I.tuple_inj hy hq]; exact hx⟩, ⟨⟨u, ?_⟩, hit'.at fun o q => (sb.2 it (Ne.symm hne)).trans q, hne⟩, fun b hb => ?_⟩
    · have e1 : ((i + 1 : Nat) : Int) = (i : Int) + 1 := by omega
      rw [e1]; exact he'
    · have hb' : b < s.heap.objs.size := by
        have e' : b = e ∨ b = it := by simpa using hb
        rcases e' with z | z
        · rw [z]; exact hel
        · rw [z]; exact hil
      rw [upd_ne (Nat.ne_of_lt hb')]
      exact (hf b hb).1
  done := by
    intro X hP hw hK hc i pins s σ H E I hf st hg
    subst hP hw hK
    obtain ⟨⟨old, he⟩, hit, hne⟩ := st
    obtain ⟨xs, hq, hx⟩ := hg
    obtain ⟨its, rv, p, hz⟩ := I.tuple hq
    obtain ⟨f0, f1, f2, f3, f4, f5⟩ := hf it (by simp)
    have hl := rv.length
    exact wpAny_pyNext_enum_endT (I.ok.hd hc) he hit (show s.heap.IsTuple a its.toArray from p) (by simp; omega) fun h' eb => ⟨rfl, I.turned (t' := s.toks) (fun b o hb q => eb b o hb q) f0 f1 f3 f4 f5⟩
  self := fun A i s Q E st h => let ⟨⟨_, he⟩, _⟩ := st; wpAny_pyIter_enum he h
def iEnumT (K : PySem.W.Frag) (ta : TA) : TI := fun σ H R => ta σ H fun vs H1 => ∃ a xs, vs = [.ref a] ∧ SqT K H1 a xs ∧ R (IteT K a) H1
theorem pi_enumT {X : Cx} {e : Expr} {ta : TA} {p pos tpos : Pos} {elts : List Expr} {kk : Nat} (hg : Gl X "enumerate") (hm : X.mg "enumerate" = none) (ha : PA X [e] ta) (hs : starEach [e] X.env = [(false, eval e X.env)] := by rfl) :
    PI X (.Tuple elts kk tpos) (.Call (.Name "enumerate" p) [e] [] pos) (iEnumT X.K ta) := by
  refine ⟨fun pins s σ H R I h => ?_⟩
  refine Call_ (ld_blt I hg hm boot_enumerate (PyProof.Rows.callWith_type1 (thn (ha.run pos pins s σ H _ I h) fun us s1 ⟨vs, H1, I1, r1, q1⟩ => ?_) hs rfl))
  obtain ⟨a, xs, ex, hq, q⟩ := q1
  subst ex
  cases r1 with
  | cons r rr =>
    cases rr
    cases r
    obtain ⟨its, rv, p', hz⟩ := I1.tuple hq
    refine call_enumerate_tuple (show s1.heap.IsTuple a its.toArray from p') fun h' he hit hsz hk => wpAny_pyIter_enum he ?_
    have I2 : Inv X pins σ H1 { s1 with heap := h' } := I1.kept (t' := s1.toks) hk
    refine ⟨s1.heap.objs.size + 1, [s1.heap.objs.size + 1, s1.heap.objs.size], _, _, H1, rfl, I2, turn_enumT a (s1.heap.objs.size + 1) s1.heap.objs.size, ⟨⟨.none, he⟩, hit, Nat.succ_ne_self _⟩, fun b hb => ?_, q⟩
    have e' : b = s1.heap.objs.size + 1 ∨ b = s1.heap.objs.size := by simpa using hb
    have hle : s1.heap.objs.size ≤ b := by
      rcases e' with z | z
      · rw [z]; exact Nat.le_add_right _ _
      · rw [z]; exact Nat.le_refl _
    exact I1.fpOk hle (I1.hok.fresh hle)
theorem walk_enumT {K : PySem.W.Frag} {a : Addr} {xs : List V} : Walk (IteT K a) xs.length (fun H => SqT K H a xs) (YPair (fun i => some (.int (i : Nat))) (fun i => xs[i]?)) := by
  refine ⟨fun i _ hi q => ⟨xs, xs[i], q, by simp [hi]⟩, fun _ q => ⟨xs, q, Nat.le_refl _⟩, fun i H v H' _ q y => ?_⟩
  obtain ⟨T, x, h1, h2, h3, h4⟩ := y
  exact ⟨T, .int (i : Nat), x, h1, h2, h3, rfl, h4 xs q⟩
end L2
namespace Sw
open PySem PySem.Spec L2 PySem.Calls PyProof.Rows
end Sw

set_option Elab.async false
set_option linter.all false
set_option maxRecDepth 100000
set_option maxHeartbeats 4000000
namespace Sw
open PySem PySem.Spec L2
end Sw

set_option Elab.async false
set_option linter.all false
set_option maxRecDepth 100000
set_option maxHeartbeats 4000000
namespace Sw
open PySem PySem.Spec L2
end Sw
namespace Sw
open PySem PySem.Spec L2
end Sw

set_option Elab.async false
set_option linter.all false
set_option maxRecDepth 100000
set_option maxHeartbeats 4000000
namespace Sw
open PySem PySem.Spec L2 PySem.Calls
def intsOf : List D → Option (List Int)
  | [] => some []
  | .int i :: r => (intsOf r).map fun is => i :: is
  | _ :: _ => none
theorem AtAll.ints {K : FgK} {F : Hp} : ∀ {ds : List D} {is : List Int} {xs : List V}, intsOf ds = some is → AtAll K F ds xs → xs = is.map V.int
  | [], is, xs, e, a => by
    cases e
    simpa [AtAll] using a
  | d :: ds, is, xs, e, a => by
    cases d with
    | int i =>
      cases q : intsOf ds with
      | none => simp [intsOf, q] at e
      | some js =>
        simp [intsOf, q] at e
        subst e
        simp only [AtAll] at a
        obtain ⟨x, r, rfl, a, q2⟩ := a
        simp only [At] at a
        subst a
        rw [AtAll.ints q q2]
        rfl
    | _ => simp [intsOf] at e
end Sw

set_option Elab.async false
set_option linter.all false
set_option maxRecDepth 100000
set_option maxHeartbeats 4000000
namespace PySem
open Sem (wp)
section
variable {prog : Program} {w : World} {K : Type} [DecidableEq K] {knd : HeapKind prog w K} {A : Around} {E : Value → Shared → Prop} {s : Shared}
theorem wpAny_Dict_pairsH2 {env : Env} {keys : List (Option Expr)} {values : List Expr} {pos : Pos} {pairs : List (Sem Value × Sem Value)} {Q : Value → Shared → Prop} (hu : knd.room A)
    (hshape : (evalEachOpt keys env).zip ((evalEach values env).map fun v => do let x ← v; standAt pos; pure x) = pairs.map fun p => (some p.1, p.2)) (h0 : pairs ≠ []) (hlen : pairs.length ≤ 15)
    (h : wpAny (model prog w) A (evalPairs pairs) (fun vs s₁ => ∃ ps, CarriesH knd s₁.heap vs ps ∧ s₁.heap.DictOfH knd s.heap.objs.size [] ∧
      ∀ h' tk, h'.DictOfH knd s.heap.objs.size (storedAllH [] ps) → Heap.SameBut s.heap.objs.size s₁.heap h' → Q (.ref s.heap.objs.size) { s₁ with heap := h', toks := tk }) E
      { s with heap := s.heap.push { cls := .type "dict", data := .dict #[] } }) :
    wpAny (model prog w) A (eval (.Dict keys values pos) env) Q E s := by
  rw [arm_eval_Dict, hshape, dictDisplay_pairs pairs h0 (by omega)]
  exact wpAny_bind (wpAny_standAt (wpAny_bind (wpAny_subDictH (knd := knd) (Q := fun d s' => wpAny (model prog w) A (pure (Value.ref d)) Q E s') hu hlen
    (wpAny_mono h (fun vs s₁ h₁ => by obtain ⟨ps, hc, hm, hq⟩ := h₁; exact ⟨ps, hc, hm, fun h' tk a b => wpAny_pure (hq h' tk a b)⟩) fun _ _ e => e))))
end
end PySem
namespace Sw
open PySem PySem.Spec L2
end Sw
namespace Sw
open PySem PySem.Spec L2
end Sw

set_option Elab.async false
set_option linter.all false
set_option maxRecDepth 100000
set_option maxHeartbeats 4000000
namespace L2
open PySem PySem.Spec PyProof.Rows
/-! list(d.items()) of a dict with texts or numbers as keys -/
theorem pe_itemsV {X : Cx} {e : Expr} {td : TE} {apos cpos : Pos} (he : PE X e td) (hbase : attributeBase e "items" X.env (eval e X.env) = eval e X.env := by rfl) (hline : (apos.endLine == cpos.line) = true := by rfl) :
    PE X (.Call (.Attribute e "items" apos) [] [] cpos) (fun σ H Q => td σ H fun x H1 => ∃ d kvs, x = V.ref d ∧ Rd H1 d (.dK kvs) ∧ ∀ p, H1 p = none → Q (.ref p) (upd H1 p (DX.itemsO p d))) := by
  refine ⟨fun pins s σ H Q I h => ?_⟩
  refine wpAny_Call_method (T := "dict") (id := "dict.items") hbase rfl hline F.plainAttrs_dict F.slot_dict_items F.type_dict_items (thn (he.run pins s σ H _ I h) fun u s1 ⟨x, H1, I1, rx, d, kvs, ex, hd, q⟩ => ?_)
  subst ex
  obtain rfl : u = Value.ref d := rx
  obtain ⟨z, hs, vs, rk, hD⟩ := dk_rd I1.hok hd
  refine ⟨hD.typeIs, hD.mapOf.noDict, ?_⟩
  have hf := I1.hok.fresh (Nat.le_refl s1.heap.objs.size)
  have fin : EP X pins σ Q (.ref s1.heap.objs.size) { s1 with heap := s1.heap.push { cls := .type "dict_items", data := .fields #[.ref d] } } :=
    ⟨.ref s1.heap.objs.size, upd H1 s1.heap.objs.size (DX.itemsO s1.heap.objs.size d), I1.laid (t' := s1.toks) (fun b u e => Heap.get?_push_of_some _ e) (Nat.le_refl _) (DX.itemsO_ok (Heap.get?_push_size _ rfl)), rfl, q _ hf⟩
  show wpAny _ _ (callWith cpos (.builtin "dict.items") [.ref d] [] []) _ X.xe s1
  refine method_meetsIn (Q := EP X pins σ Q) F.slot_dict_items F.entry_dict_items rfl (PySem.evalArgs_none ?_)
  exact ⟨rfl, Heap.DictOf.typeIs hD, F.args_dict_items_1 _, _, meets_dict_items (mixKind X.prog X.w) d hs, ⟨vs, hD⟩, fin⟩
def rListI : List V → Hp → VK → Prop := fun xs H Q => ∃ p d kvs, xs = [V.ref p] ∧ H p = some (DX.itemsO p d) ∧ Rd H d (.dK kvs) ∧ ∀ (H' : Hp) (l : Addr) (ts : List Addr), (∀ b o, H b = some o → H' b = some o) → H' l = some (.lst (ts.map V.ref)) → H l = none → ts.length = kvs.length →
  (∀ (j : Nat) (t : Addr), ts[j]? = some t → H t = none ∧ t ≠ l ∧ ∃ k v, kvs[j]? = some (k, v) ∧ H' t = some (.tup [kV k, v])) → Q (.ref l) H'
theorem call_listItems {X : Cx} (hc : X.calm = true) : CallR X (.type "list") rListI := by
  intro pins s σ H xs us Q I r h
  obtain ⟨p, d, kvs, rfl, hp, hd, q⟩ := h
  obtain rfl := Vals.ref1 r
  have view : s.heap.IsItemsView p d := (show ObjOk X.prog X.w H s.heap p (DX.itemsO p d) from I.hok p _ hp).1
  obtain ⟨z, hs, vs, rk, hD⟩ := dk_rd I.hok hd
  obtain ⟨ep, hat⟩ := hD.dictAt
  have hl : kvs.length = vs.length := Paired.length rk
  refine PySem.W.kdx_call (knd := mixKind X.prog X.w) (I.ok.hd hc) view hat (by rw [← hl]; exact z) fun h' tk acc c as hk hlst hlen hG hacc => ?_
  have nd : as.Nodup := List.Pairwise.imp (fun h => Nat.ne_of_lt h) hG.rise
  have hz : (as.map V.ref).length ≤ sizeLine := by rw [List.length_map, hlen, ← hl]; exact z
  have rv : Vals (as.map V.ref) acc.toList := by
    rw [hacc]
    clear hlst hlen hG hacc nd hz
    induction as with
    | nil => exact .nil
    | cons a r ih => exact .cons rfl ih
  have I1 : Inv X pins σ (upd H s.heap.objs.size (.lst (as.map V.ref))) { s with heap := h', toks := tk } := I.laid hk (Nat.le_refl _) (show ObjOk X.prog X.w _ _ _ (.lst _) from ⟨hz, acc.toList, c, rv, by rw [Array.toArray_toList]; exact hlst⟩)
  have fr : ∀ a ∈ as, H a = none ∧ a ≠ s.heap.objs.size := fun a ha => by
    have h1 := hG.above a ha
    exact ⟨I.hok.fresh (Nat.le_of_lt h1), Nat.ne_of_gt h1⟩
  obtain ⟨H2, I2, g, tu⟩ := DX.takeT (P := fun a ws => ∀ j, as[j]? = some a → ∃ k v, kvs[j]? = some (k, v) ∧ ws = [kV k, v]) I as _ I1 nd fun a ha => by
    obtain ⟨j, hj⟩ := List.mem_iff_getElem?.mp ha
    obtain ⟨key, k, x, e1, e2, e3⟩ := hG.pairs j a hj
    obtain ⟨y, hy, r1⟩ := DX.pget rk e1
    obtain ⟨k', v⟩ := y
    obtain ⟨rfl, r2⟩ := r1
    refine ⟨Nat.le_of_lt (hG.above a ha), by rw [upd_ne (fr a ha).2]; exact (fr a ha).1, [kV k', v], fun i hi => ?_, fun H2 => ?_⟩
    · have e := (List.getElem?_inj (List.getElem?_eq_some_iff.mp hi).1 nd).mp (hi.trans hj.symm)
      subst e
      exact ⟨k', v, hy, rfl⟩
    · exact ⟨by show 2 ≤ sizeLine; rw [sizeLine_eq]; omega, [key, x], .cons (keyIs_rel e2) (.cons r2 .nil), ⟨_, e3, rfl, 0, rfl⟩⟩
  refine ⟨.ref s.heap.objs.size, H2, I2, rfl, q H2 _ as (fun b o e => g b o ?_) (g _ _ upd_same) (I.hok.fresh (Nat.le_refl _)) (by rw [hlen, hl]) fun j t hj => ?_⟩
  · rw [upd_ne (ne_of_none e (I.hok.fresh (Nat.le_refl _)))]; exact e
  · obtain ⟨f1, f2⟩ := fr t (List.mem_of_getElem? hj)
    obtain ⟨ws, h1, h2⟩ := tu t (List.mem_of_getElem? hj)
    obtain ⟨k, v, h3, rfl⟩ := h1 j hj
    exact ⟨f1, f2, k, v, h3, h2⟩
end L2
namespace Sw
open PySem PySem.Spec L2
theorem Stp.grow {K : FgX} {C : Ec} {σ : L2.St} {H F H' F' : Hp} {env : List SV} (R : Rel K C σ H F env) (hg : ∀ b o, H b = some o → H' b = some o) (ff : Le F F') (fh : Le F' H') (fn : ∀ b o, F' b = some o → F b = some o ∨ H b = none) : Stp K C σ H F env H' F' env := by
  have no : ∀ b o, H b = some o → F b = none → F' b = none := fun b o h f => by
    cases q : F' b with
    | none => rfl
    | some u =>
      rcases fn b u q with z | z
      · rw [f] at z; cases z
      · rw [h] at z; cases z
  refine ⟨⟨⟨fh, R.mono.trans' ff, fun b o h => ?_, fun b o h n => hg b o (R.frame b o h n), fun a h => ?_, R.len, fun i sv e => ?_, R.dist⟩, R.xok⟩, ff, fun b o h _ => hg b o h, fun b o h => ?_, fun i l ds h => ⟨ds, h⟩, fun b h => ?_⟩
  · rcases fn b o h with z | z
    · exact R.new b o z
    · cases q : C.H0 b with
      | none => exact .inr rfl
      | some u =>
        by_cases hl : C.la = some b
        · obtain ⟨⟨xs, e⟩, _⟩ := R.la b hl
          rw [e] at z; cases z
        · rw [R.frame b u q hl] at z; cases z
  · obtain ⟨⟨xs, e⟩, f, g⟩ := R.la a h
    exact ⟨⟨xs, hg a _ e⟩, no a _ e f, g⟩
  · have q := R.slot i sv e
    cases sv with
    | un => trivial
    | raw z => exact q
    | dat d =>
      obtain ⟨v, e1, a⟩ := q
      exact ⟨v, e1, At.mono ff _ _ a⟩
    | obj l ds =>
      obtain ⟨r, xs, e1, e2, e3, e4, e5⟩ := q
      exact ⟨r, xs, e1, hg r _ e2, no r _ e2 e3, e4, e5.mono ff⟩
  · rcases fn b o h with z | z
    · exact .inl z
    · exact .inr (.inl z)
  · cases q : H b with
    | none => rfl
    | some u =>
      rw [hg b u q] at h; cases h
end Sw

set_option Elab.async false
set_option linter.all false
set_option maxRecDepth 100000
set_option maxHeartbeats 4000000
namespace Sw
open PySem PySem.Spec L2
end Sw
namespace Sw
open PySem PySem.Spec L2
end Sw

set_option Elab.async false
set_option linter.all false
set_option maxRecDepth 100000
set_option maxHeartbeats 4000000
namespace Sw
open PySem PySem.Spec L2
end Sw

set_option Elab.async false
set_option linter.all false
set_option maxRecDepth 100000
set_option maxHeartbeats 4000000
namespace Sw
open PySem PySem.Spec L2
theorem intB_ok {i : Int} {u : Value} (h : intB i u = true) : RelV (.int i) u := by
  unfold intB at h
  split at h
  · have := of_decide_eq_true h
    subst this
    exact ⟨_, rfl⟩
  · cases h
theorem strB_ok {z : Str} {u : Value} (h : strB z u = true) : RelV (.str z) u := by
  unfold strB at h
  split at h
  · have := of_decide_eq_true h
    subst this
    exact ⟨_, rfl⟩
  · cases h
theorem strsB_vals {ds : List D} {us : List Value} (h : strsB ds us = true) : ∃ vs, Vals vs us ∧ ∀ (K : FgK) (F : Hp), AtAll K F ds vs := by
  induction ds generalizing us with
  | nil =>
    cases us with
    | nil => exact ⟨[], .nil, fun _ _ => AtAll.nil⟩
    | cons u s => simp [strsB] at h
  | cons d r ih =>
    cases us with
    | nil => cases d <;> simp [strsB] at h
    | cons u s =>
      cases d with
      | str z =>
        simp only [strsB, Bool.and_eq_true] at h
        obtain ⟨vs, a, b⟩ := ih h.2
        exact ⟨.str z :: vs, .cons (strB_ok h.1) a, fun K F => AtAll.cons (by simp [At]) (b K F)⟩
      | int i =>
        simp only [strsB, Bool.and_eq_true] at h
        obtain ⟨vs, a, b⟩ := ih h.2
        exact ⟨.int i :: vs, .cons (intB_ok h.1) a, fun K F => AtAll.cons (by simp [At]) (b K F)⟩
      | _ => simp [strsB] at h
theorem valB_ok {K : PySem.W.Frag} {d : D} {u : Value} (h : valB K d u = true) : ∃ v, RelV v u ∧ ∀ (P : Program) (w : World) (F : Hp), At ⟨K, P, w⟩ F d v := by
  cases d with
  | str z => exact ⟨.str z, strB_ok h, fun P w F => by simp [At]⟩
  | tuple ds =>
    cases u with
    | ref p =>
      simp only [valB] at h
      split at h
      · rename_i c dd its n sl hl
        rw [Bool.and_eq_true, Bool.and_eq_true] at h
        obtain ⟨h1, h2, h3⟩ := h
        have e := of_decide_eq_true h1
        subst e
        obtain ⟨vs, a, b⟩ := strsB_vals h3
        refine ⟨.ref p, rfl, fun P w F => ?_⟩
        simp only [At]
        exact ⟨p, vs, rfl, .inr (.inr ⟨_, its, n, hl, rfl, rfl, by have := of_decide_eq_true h2; rw [sizeLine_eq]; omega, a⟩), b _ F⟩
      · cases h
    | _ => simp [valB] at h
  | _ => simp [valB] at h
end Sw

set_option Elab.async false
set_option linter.all false
set_option maxRecDepth 100000
namespace Sw
open PySem PySem.Spec L2
section
variable {X : Cz}
structure TCon (K : PySem.W.Frag) (mg : Str → Option Value) (x : Str) (d : D) : Prop where
  ex : ∃ u v, mg x = some u ∧ RelV v u ∧ ∀ (P : Program) (w : World) (F : Hp), At ⟨K, P, w⟩ F d v
theorem tcon_ok {K : PySem.W.Frag} {mg : Str → Option Value} {x : Str} {d : D} {u : Value} (hg : mg x = some u) (h : valB K d u = true) : TCon K mg x d := by
  obtain ⟨v, a, b⟩ := valB_ok h
  exact ⟨u, v, hg, a, b⟩
theorem q_gtup {x : Str} {d : D} {pos : Pos} (c : TCon X.K X.mg x d) (hg : Gl X x) (hd : (x == ("__debug__" : Str)) = false := by decide) : EV X (.Name x pos) (qC d) := by
  obtain ⟨u, v, h1, h2, h3⟩ := c.ex
  exact ⟨_, pe_glob hg h1 h2 hd, LE.const fun F => h3 _ _ F⟩
end
end Sw

set_option Elab.async false
set_option linter.all false
set_option maxRecDepth 100000
namespace Sw
open PySem PySem.Spec L2
end Sw

set_option Elab.async false
set_option linter.all false
set_option maxRecDepth 100000
set_option maxHeartbeats 4000000
namespace Sw
open PySem PySem.Spec L2
end Sw

set_option Elab.async false
set_option linter.all false
set_option maxRecDepth 100000
set_option maxHeartbeats 4000000
namespace Sw
open PySem PySem.Spec L2 PySem.Calls PyProof.Rows
theorem TabB.before {t : SetTable} {hs : List Int} (T : TabB t hs) {h : Int} {K i j : Nat} (hK : way t.mask h K ∉ t.place.toList) (hi : hs[i]? = some h) (hj : t.place.toList[i]? = some j) : ∃ k, k < K ∧ way t.mask h k = j := by
  obtain ⟨k, e, z⟩ := T.met (h, j) (List.mem_of_getElem? (List.getElem?_zip_eq_some.mpr ⟨hi, hj⟩))
  have e : way t.mask h k = j := e
  refine ⟨k, Classical.byContradiction fun n => ?_, e⟩
  by_cases q : K = k
  · subst q
    rw [e] at hK
    exact hK (List.mem_of_getElem? hj)
  · exact hK (z K (by omega))
end Sw

set_option Elab.async false
set_option linter.all false
set_option maxRecDepth 100000
set_option maxHeartbeats 4000000
namespace Sw
open PySem PySem.Spec L2 PySem.Calls PyProof.Rows
section
variable {P : Program} {w : World} {A : Around} {E : Value → Shared → Prop} {s : Shared}
variable {a : Addr} {L : List (Addr × NestedKey)} {es : Array (Int × Value)} {ep : Nat} {t : SetTable}
theorem Many.fits (R : Many w s.heap a L es ep t) : t.fits es.size = true := by
  have h1 := R.tab.sz
  have h2 := R.size
  have h3 := R.room
  rw [List.length_map] at h1
  simp only [SetTable.fits, SetTable.fill, R.tab.dm, Bool.and_eq_true, beq_iff_eq, decide_eq_true_eq]
  show t.place.size = es.size ∧ t.place.size + 0 ≤ t.mask
  omega
end
end Sw

set_option Elab.async false
set_option linter.all false
set_option maxRecDepth 100000
set_option maxHeartbeats 4000000
namespace Sw
open PySem PySem.Spec L2 PySem.Calls PyProof.Rows
section
variable {P : Program} {w : World} {A : Around} {E : Value → Shared → Prop} {s : Shared}
theorem Many.keep {h h' : Heap} {a : Addr} {L : List (Addr × NestedKey)} {es : Array (Int × Value)} {ep : Nat} {t : SetTable} (R : Many w h a L es ep t) (ha : ∀ o, h.get? a = some o → h'.get? a = some o) (hk : ∀ p ∈ L, KAt h' p.2 p.1) : Many w h' a L es ep t := by
  obtain ⟨o, ho, r⟩ := R.ob
  exact ⟨⟨o, ha o ho, r⟩, R.rows, R.tab, R.nd, hk, R.room, R.few, R.led⟩
end
end Sw

set_option Elab.async false
set_option linter.all false
set_option maxRecDepth 100000
set_option maxHeartbeats 4000000
namespace Sw
open PySem PySem.Spec L2 PySem.Calls PyProof.Rows
end Sw

set_option Elab.async false
set_option linter.all false
set_option maxRecDepth 100000
set_option maxHeartbeats 4000000
namespace Sw
open PySem PySem.Spec L2
section
variable {X : Cz} {K : FgX}
def strsD (ys : List Str) : List D := ys.map PyData.str
theorem at_strs {K : FgK} {F : Hp} : ∀ ys : List Str, AtAll K F (strsD ys) (ys.map V.str)
  | [] => AtAll.nil
  | y :: ys => AtAll.cons (by simp [At]) (at_strs ys)
def gSplit : D → List D → Option (List D)
  | .str a, [.str b] => if (b.length == 0) = false ∧ a.length + 2 ≤ sizeLine then some (strsD (Txt.split a b)) else none
  | _, _ => none
theorem l_split : LMF K (fun x xs H Q => ∃ a b, x = V.str a ∧ xs = [.str b] ∧ (b.length == 0) = false ∧ a.length + 2 ≤ sizeLine ∧ rNewStrs (Txt.split a b) H Q) gSplit := fun C σ H F env x xs dx ds es Q R a b e k => by
  unfold gSplit at e
  split at e
  · split at e
    · rename_i h
      cases e
      obtain ⟨y, rfl, w⟩ := b.one
      rw [a.str, w.str]
      refine ⟨_, _, rfl, rfl, h.1, h.2, fun p hp => ?_⟩
      obtain ⟨s, f, h0, n⟩ := R.alloc0 (o := .lst ((Txt.split _ _).map V.str)) hp
      exact k p _ F s f h0 n hp (at_strs _)
    · cases e
  · cases e
/-- x.partition(y) -/
def gPart : D → List D → Option D
  | .str a, [.str b] => if (b.length == 0) = false ∧ a.length ≤ sizeLine then some (.tuple (strsD [(Txt.partition a b).1, (Txt.partition a b).2.1, (Txt.partition a b).2.2])) else none
  | _, _ => none
theorem l_part : LMV K (fun x xs H Q => ∃ a b, x = V.str a ∧ xs = [.str b] ∧ (b.length == 0) = false ∧ a.length ≤ sizeLine ∧
    ∀ p, H p = none → Q (.ref p) (upd H p (.tup [.str (Txt.partition a b).1, .str (Txt.partition a b).2.1, .str (Txt.partition a b).2.2]))) gPart := fun C σ H F env x xs dx ds d Q R a b e k => by
  unfold gPart at e
  split at e
  · split at e
    · rename_i h
      cases e
      obtain ⟨y, rfl, w⟩ := b.one
      rw [a.str, w.str]
      refine ⟨_, _, rfl, rfl, h.1, h.2, fun p hp => ?_⟩
      exact k (.ref p) _ _ (R.alloc hp) (At.tup_of upd_same (at_strs [_, _, _]))
    · cases e
  · cases e
/-- int(a text of figures) -/
def gIntS : List D → Option D
  | [.str a] => if a.length ≤ 640 then (intText? a).map .int else none
  | _ => none
theorem l_intS : LC K (fun xs H Q => ∃ a n, xs = [V.str a] ∧ PySem.intText? a = some n ∧ a.length ≤ 640 ∧ Q (.int n) H) gIntS := fun C σ H F env xs ds d Q R a e k => by
  unfold gIntS at e
  split at e
  · split at e
    · rename_i h
      obtain ⟨n, hn, rfl⟩ := Option.map_eq_some_iff.mp e
      obtain ⟨x, rfl, w⟩ := a.one
      rw [w.str]
      exact ⟨_, n, rfl, hn, h, k _ H F (Stp.refl R) (by simp [At])⟩
    · cases e
  · cases e
/-- a >= b of data alike -/
def rGeD (K : FgK) : R2 := fun x y H Q => ∃ d e, Dp K H x d ∧ Dp K H y e ∧ cmpOk d e = true ∧ Q (.bl (!W.dataLt d e)) H
theorem op_geD (hu : X.A.units + 64 < cLine) : OpR X (compareOp .GtE) (rGeD X.fr) := by
  intro pins s σ H x y v u Q I rx ry h
  obtain ⟨d, e, hd, he, hc, q⟩ := h
  obtain ⟨h1, h2, h3, h4⟩ := cmpOk_spec hc
  obtain ⟨as, r1⟩ := Dp.reads I d x v hd rx
  obtain ⟨bs, r2⟩ := Dp.reads I e y u he ry
  have := okD_depth h1
  have := Nat.min_le_left d.depth e.depth
  exact W.ge_data r1 r2 h3 h4 (by omega) ⟨.bl _, H, I, rfl, q⟩
def gGeD (a b : D) : Option D := if cmpOk a b = true then some (.bool (!W.dataLt a b)) else none
theorem l_geD : LO2 K (rGeD K) gGeD := fun C σ H F env x y dx dy d Q R a b e k => by
  unfold gGeD at e
  split at e
  · rename_i h
    obtain ⟨h1, h2, _⟩ := cmpOk_spec h
    cases e
    exact ⟨dx, dy, a.dp R.frz (okD_plain h1), b.dp R.frz (okD_plain h2), h, k _ H F (Stp.refl R) (by simp [At])⟩
  · cases e
def numT (i : Int) : Str := Str.ofString (toString i)
/-- f"{a}c{b}", a and b numbers -/
def qFs3 (c : Str) (A B : PE') : PE' := fun env Q => A env fun o1 env1 => ∃ i, o1.rd env1 = some (.int i) ∧ i.natAbs.log2 < 1920 ∧ (Str.empty ++ numT i).length ≤ sizeLine ∧ (Str.empty ++ numT i ++ c).length ≤ sizeLine ∧
  B env1 fun o2 env2 => ∃ j, o2.rd env2 = some (.int j) ∧ j.natAbs.log2 < 1920 ∧ (Str.empty ++ numT i ++ c ++ numT j).length ≤ sizeLine ∧ Q (.dv (.str (Str.empty ++ numT i ++ c ++ numT j))) env2
theorem q_fs3 {a b : Expr} {c : Str} {A B : PE'} {k : Nat} {pa pb pc pos : Pos} (ha : EV X a A) (hb : EV X b B) : EV X (.JoinedStr [.FormattedValue a (-1) none pa, .Constant (.str c) k pc, .FormattedValue b (-1) none pb] pos) (qFs3 c A B) := by
  obtain ⟨ta, h1, l1⟩ := ha.ex
  obtain ⟨tb, h2, l2⟩ := hb.ex
  refine ⟨_, pe_joined (.cons (pe_fmt h1) (.cons pe_str (.cons (pe_fmt h2) .nil))), fun C σ H F env Q Qp R k q => ?_⟩
  refine l1 C σ H F env _ _ R (fun v1 H1 F1 env1 o1 s1 a1 q1 => ?_) q
  obtain ⟨i, e1, hi, z1, z2, q1⟩ := q1
  have w1 := (rd_vw s1.rel a1 e1).int
  subst w1
  refine .inr ⟨i, rfl, hi, _, rfl, z1, _, rfl, z2, ?_⟩
  refine l2 C σ H1 F1 env1 _ _ s1.rel (fun v2 H2 F2 env2 o2 s2 a2 q2 => ?_) q1
  obtain ⟨j, e2, hj, z3, q2⟩ := q2
  have w2 := (rd_vw s2.rel a2 e2).int
  subst w2
  exact .inr ⟨j, rfl, hj, _, rfl, z3, k (.str (Str.empty ++ numT i ++ c ++ numT j)) H2 F2 env2 (.dv (.str (Str.empty ++ numT i ++ c ++ numT j))) (s1.trans s2) (OvOk.of (by simp [At])) q2⟩
end
end Sw

set_option Elab.async false
set_option linter.all false
set_option maxRecDepth 100000
set_option maxHeartbeats 4000000
namespace Sw
open PySem PySem.Spec L2 PySem.Calls PyProof.Rows
end Sw

set_option Elab.async false
set_option linter.all false
set_option maxRecDepth 100000
set_option maxHeartbeats 4000000
namespace Sw
open PySem PySem.Spec L2 PySem.Calls PyProof.Rows
def rCountD (K : PySem.W.Frag) : V → List V → Hp → VK → Prop := fun x xs H Q => ∃ (a : Addr) (y : V) (d : PyData) (ds : List PyData), x = V.ref a ∧ xs = [y] ∧ Dp K H (V.ref a) (.list ds) ∧ Dp K H y d ∧
  SeqAt.shaped (.list ds) = true ∧ SeqAt.shaped d = true ∧ Q (.int (ds.countP fun z => PyData.eqv z d : Nat)) H
theorem mt_countD {X : L2.Cx} (hu : X.A.units + 65 < cLine) : MtR X "list.count" (rCountD X.K) := by
  intro pins s σ H x xs v us Q I rx rxs h
  obtain ⟨a, y, d, ds, rfl, rfl, hl, hy, sl, sd, q⟩ := h
  cases rx
  cases rxs with
  | cons ry rt =>
    rename_i uy ut
    cases rt
    obtain ⟨bs, r1⟩ := Dp.reads I d y uy hy ry
    have hxs : PyData.canLayAll0 ds = true := SeqAt.canLay_of_shaped sl
    have hroom : X.A.units + 1 + min (PyData.depthAll ds) d.depth < cLine := room_in_shaped sd hu
    cases hl with
    | lst hs ha =>
      obtain ⟨its, rv, ⟨⟨cls, dd, data, sls⟩, n, ho, hc, hdn, hdt⟩, hlen⟩ := I.list hs
      simp only at hc hdt
      subst hc hdt
      obtain ⟨as, h4⟩ := Dp.readsAll I ds _ its ha rv
      have hmap : its.map (SeqAt.readOf s.heap) = ds := SeqAt.readsAll_map ds its as hxs h4
      refine call_meets PySem.F.slot_list_count ⟨_, ho, rfl⟩ PySem.F.entry_list_count (PySem.F.args_list_count_2 _ _)
        (SeqAt.list_countAt a its.toArray n dd sls uy (fun u => PyData.eqv (SeqAt.readOf s.heap u) d)) ⟨ho, SeqAt.items_eqAt (vs := its.toArray) (show ReadsAll s.heap its.toArray.toList ds as from h4) r1 hxs (SeqAt.canLay_of_shaped sd) hroom, ?_⟩
      have ec : its.toArray.toList.countP (fun u => PyData.eqv (SeqAt.readOf s.heap u) d) = ds.countP fun z => PyData.eqv z d := by
        rw [← hmap, List.countP_map]
        rfl
      refine ⟨.int (ds.countP fun z => PyData.eqv z d : Nat), H, I.tok _, ⟨s.toks, ?_⟩, q⟩
      show Value.int _ s.toks = Value.int _ s.toks
      rw [ec]
section
variable {K : FgX}
def gCount : D → List D → Option D
  | .list ds, [d] => if SeqAt.shaped (.list ds) = true ∧ SeqAt.shaped d = true then some (.int (ds.countP fun z => PyData.eqv z d : Nat)) else none
  | _, _ => none
theorem gCount_1 {ds : List D} {d : D} (h : SeqAt.shaped (.list ds) = true ∧ SeqAt.shaped d = true) : gCount (.list ds) [d] = some (.int (ds.countP fun z => PyData.eqv z d : Nat)) := if_pos h
theorem l_count : LMV K (rCountD K) gCount := fun C σ H F env x xs dx ds d Q R a b e k => by
  unfold gCount at e
  split at e
  · rename_i es dd
    split at e
    · rename_i ho
      cases e
      obtain ⟨y, rfl, w⟩ := b.one
      obtain ⟨p, ys, rfl, e1, a2⟩ := a
      have hp1 : PyData.plainAll es = true := PyData.plainAll_of_canLay0 _ (SeqAt.canLay_of_shaped ho.1)
      have hp2 : dd.plain = true := PyData.plain_of_canLay0 _ (SeqAt.canLay_of_shaped ho.2)
      exact ⟨p, y, dd, es, rfl, rfl, .lst (SqL.of e1) (AtAll.dp _ _ hp1 (AtAll.mono R.frz _ _ a2)), w.dp R.frz hp2, ho.1, ho.2, k _ H F (Stp.refl R) (by simp [At])⟩
    · cases e
  · cases e
end
end Sw

set_option Elab.async false
set_option linter.all false
set_option maxRecDepth 100000

namespace Sw
open PySem PySem.Spec L2

def sRaise1 (Ep : XP) (n f : Str) (A : PE') : PS' := fun _ env => A env fun o env1 => ∃ d, o.rd env1 = some d ∧ (atomV d).isSome = true ∧ Ep ⟨n, some (f, d)⟩ env1
def sRaiseD (Ep : XP) (n f : Str) : PS' := fun _ env => Ep ⟨n, some (f, .none)⟩ env
def sRaise0 (Ep : XP) (n : Str) : PS' := fun _ env => Ep ⟨n, none⟩ env
end Sw

set_option Elab.async false
set_option linter.all false
set_option maxRecDepth 100000
namespace Sw
open PySem PySem.Spec L2

theorem RelB.keep {K : FgK} {C : Ec} {σ : L2.St} {H F H' : Hp} {env : List SV} (R : RelB K C σ H F env) (k : ∀ b o, H b = some o → H' b = some o) : RelB K C σ H' F env := by
  refine ⟨fun b o h => k b o (R.frz b o h), R.mono, R.new, fun b o h n => k b o (R.frame b o h n), fun a h => ?_, R.len, fun i sv e => ?_, R.dist⟩
  · obtain ⟨⟨xs, e⟩, f, g⟩ := R.la a h
    exact ⟨⟨xs, k _ _ e⟩, f, g⟩
  · have q := R.slot i sv e
    cases sv with
    | un => trivial
    | raw z => exact q
    | dat d => exact q
    | obj l ds =>
      obtain ⟨r, xs, e1, e2, e3⟩ := q
      exact ⟨r, xs, e1, k _ _ e2, e3⟩
def qCallX (Ep : XP) (sp : PSpX) (T : PA') : PE' := fun env Q => T env fun os env1 => ∃ ds env2, fzAll env1 os = some (ds, env2) ∧ sp ds (fun rv => Q (.dv rv.toD) env2) fun xv => Ep xv env2
def fCallX (Ep : XP) (sp : PSpX) (T : PA') : PF' := fun env Q => T env fun os env1 => ∃ ds env2, fzAll env1 os = some (ds, env2) ∧ sp ds (fun rv => ∃ es, rv = .fr es ∧ Q es env2) fun xv => Ep xv env2
end Sw


set_option Elab.async false
set_option linter.all false
set_option maxRecDepth 100000
namespace Sw
open PySem PySem.Spec L2

def sTry (cl : List Str) (Ep : XP) (B : XP → PS') (hs : List Cls') : PS' := fun Dp env => B (pHs cl Ep Dp hs) Dp env
theorem HOk.pl {X : Cz} {cl : List Str} {x : Str} {S' : Addr → XV → PS'} {b₀ : Stmt} {suite : List Stmt} {np pos' : Pos} {hds : List ExceptHandler} {l : List Cls'} (hg : Gl X x) (hdb : (x == ("__debug__" : Str)) = false) (hx : x ∈ cl)
      (hsu : ∀ (a : Addr) (oe : Obj) (cls : Value) (d : Option Addr) (pn : List (Addr × Obj)) (xv : XV), InS X cl cls d oe xv → EB (X.suit a oe pn d xv) (b₀ :: suite) (S' a xv)) (r : HOk X cl hds l) :
      HOk X cl (.ExceptHandler (some (.Name x np)) none (b₀ :: suite) pos' :: hds) (⟨x, none, S'⟩ :: l) := .plain hg hdb hx rfl rfl hsu r
section
variable {X : Cz} {cl fl : List Str} {a : Addr} {oe : Obj} {cls : Value} {d : Option Addr} {pn : List (Addr × Obj)} {xv : XV}
def qXf (a : Addr) (xv : XV) (i : Nat) (f : Str) : PE' := fun env Q => env[i]? = some (.raw (.ref a)) ∧ ∃ x, xv.f = some (f, x) ∧ Q (.dv x) env
def qXi (a : Addr) (xv : XV) (i : Nat) (m : Str) : PE' := fun env Q => env[i]? = some (.raw (.ref a)) ∧ Q (.dv (.bool (subX xv.c m))) env
def qXis (a : Addr) (xv : XV) (i : Nat) (ms : List Str) : PE' := fun env Q => env[i]? = some (.raw (.ref a)) ∧ Q (.dv (.bool (ms.any fun m => subX xv.c m))) env
end

end Sw

set_option Elab.async false
set_option linter.all false
set_option maxRecDepth 100000
namespace Sw
open PySem PySem.Spec L2
abbrev pE (Ep : XV → Prop) : XP := fun xv _ => Ep xv
end Sw
namespace Sw
open PySem PySem.Spec L2
theorem ex_fx {f : Str} {y : D} {P : D → Prop} : (∃ x, (some (f, y) : Option (Str × D)) = some (f, x) ∧ P x) ↔ P y := ⟨fun ⟨x, e, h⟩ => by cases e; exact h, fun h => ⟨y, rfl, h⟩⟩
theorem ex_rx {es : List D} {P : List D → Prop} : (∃ es', RV.fr es = RV.fr es' ∧ P es') ↔ P es := ⟨fun ⟨d, e, h⟩ => by cases e; exact h, fun h => ⟨es, rfl, h⟩⟩
end Sw

set_option Elab.async false
set_option linter.all false
set_option maxRecDepth 100000
namespace Sw
open PySem PySem.Spec L2 PySem.Calls PyProof.Rows
section
variable {X : Cz}
def qChainV (A : PE') (ls : List ((Int → Int → Bool) × PE')) : PE' := fun env Q => qChain A ls env fun b env1 => Q (.dv (.bool b)) env1
end
end Sw

set_option Elab.async false
set_option linter.all false
set_option maxRecDepth 100000
namespace Sw
open PySem PySem.Spec L2
def relS (scope sc0 : Scope) : Scope := { scope with names := scope.names.map fun (n, k) => if (k == NameKind.free && sc0.kind == .function && sc0.names.lookup n == some .cell) then (n, NameKind.cell) else (n, k) }
theorem blk2 {X : L2.Cx} {s : Shared} {H : Hp} {cl : List (Str × Addr)} {C : Addr} {fp : List Addr} {scope1 scope2 : Scope} {own : List (Str × Nat)} {N : List Str} {sc0 : Scope} (hN : X.N = N) (hs : X.env.scope = sc0) (h : blkC N (relS scope1 sc0) scope2 own = true) :
    BlkOk (of0 (X.blk s H scope1 (compEnvC scope1 cl C X.env) fp)).N (of0 (X.blk s H scope1 (compEnvC scope1 cl C X.env) fp)).env.scope scope2 own := by
  subst hN
  subst hs
  exact blkOk_by h
end Sw

set_option maxHeartbeats 2000000
set_option Elab.async false
set_option linter.all false
set_option maxRecDepth 100000
open PySem PySem.Spec L2 Sw
local macro_rules | `(tactic| walk_at "wp") => `(tactic| simp only [sSeq, sIf, sNil, sPass, sBreak, sCont, sRet, sRetF, sRetS, sDrop, sAsg, sAsgF, sSetIx, sAsgG, sFor, sRaise, sAsgD, sPutD, sFrzD, qDIn, qDGet, qDGetO, iKeysD, OV.dic, ex_pr, ex_pr0, ex_dic, ex_dic0, ex_kds, keyO_some, gListDic_1, gClear_0, qDisp1, qChain, qRest, tAnd', tOr', tNot', qTest, qAnd, qOr, qNot, qOp, qVar, qC, qF, qSl, qPn, qPs, qTup, fLst, qCB, fCB, qIsi, qJoin, fOp, qCons, qNil, qMO, qMO0, qAddD, qCall, qCallL, fCall, fCallL, qCallV, ex_dt, ex_fr, ex_frL, atom_b, atom_i, atom_s, atom_n, ex_tupv, ex_consv, eq_self, fLc, fLcR, restE, NoOwn, nob_d, nob_u, List.getD_cons_zero, List.getD_cons_succ, wipeE, iAny, iRg1, iRg2, iEnu, gN, gT, gsC, gsN, tYes', endsOf, LentE,
  svD, Ct.toD, OV.rd, OV.fz, rdAll, fzAll, bindS, mapS, ex_some, ex_fz, ex_fzs, ex_own, ex_own0, ex_ownF, ex_bool, ex_int, ex_lst, ex_strv, ex_svd, ex_svo, ex_if, ex_ifb, ex_som0, ex_fl, ex_flN, ex_ifp, true_and, and_true,
  List.getElem?_cons_zero, List.getElem?_cons_succ, List.set_cons_zero, List.set_cons_succ, List.length_cons, List.length_nil, List.append_nil, List.nil_append, List.cons_append, List.map_nil, List.map_cons, List.length_set,
  atI_lit, ixN_lit, gI_ii, gAdd_ii, gAdd_ss, gAdd_ll, gAdd_tt, gMul_ii, gMul_si, gLt_ii, gLt_ss, gIx_li, gIx_ti, gIx_si, gLen_l, gLen_t, gLen_s, gListF_l, gListF_t, gTuple_l, gTuple_t, gCatF_ll, gEq_ii, gNe_ii, gEq_ss, gNe_ss, gEq_bb, gNe_bb, gSl_l, gSl_t, gSl_s, gIsN_n, gNotN_n, gIsN_b, gIsN_i, gIsN_s, gIsN_l, gIsN_t, gIsN_d, ne_eq, not_true_eq_false, not_false_eq_true, gAppend_1, gExtend_l, gExtend_t, gRev_l, gRev_t, qRevA, RV.toD, seqOf_l, seqOf_t, itemsOf_l, itemsOf_t, itemsOf_s, gSortD_s, gIsB_bb, gNotB_bb, qNeg, qVM, fVM, fSortK, gJoin_s, gAll_b, gAny_b, gPopAt_1, isi_str, isi_int, isi_bool, isi_list, isi_tuple, isi_none, dSub, gDiv, gMod, gPow, gCmp,
  Bool.not_true, Bool.not_false, if_true, if_false, ite_true, ite_false, reduceIte, decide_eq_true_eq, beq_iff_eq, Bool.not_eq_true', beq_eq_false_iff_ne, Bool.false_eq_true, Nat.reduceLT, Nat.reduceAdd, Nat.reduceLeDiff, Nat.lt_add_one, Nat.zero_lt_succ, Nat.not_lt_zero])
namespace Sw
/-- a flow: the cells, the place, the digits left, the mix, the count -/
def FlOk (fd : List D) : Prop := ∃ (cs : List Int) (p b m n : Int), fd = [.list (cs.map .int), .int p, .int b, .int m, .int n] ∧ 0 ≤ p ∧ 0 ≤ b ∧ 0 ≤ m ∧ m < 2147483647 ∧ 0 ≤ n
def sp_law_pick : PSp := fun fl ds Q => ∃ fd many, fl = some fd ∧ FlOk fd ∧ ds = [.int many] ∧ 1 ≤ many ∧ many < 1073741824 ∧ ∀ d fd2, 0 ≤ d → d < many → FlOk fd2 → Q (.dt (.int d)) (some fd2)
abbrev N_law_pick : List Str := ["_law_flow_here", "_law_many", "_law_cell", "_law_digit"]
def T_law_pick : PS' := (sSeq (sIf (tAnd' (qTest (qOp (gEq false) (qOp gIx (qVar 0) (qC (.int 2))) (qC (.int 0)))) (qTest (qOp gLt (qOp gIx (qVar 0) (qC (.int 1))) (qCB gLen (qCons (qOp gIx (qVar 0) (qC (.int 0))) qNil))))) (sSeq (sAsg 2 (qOp gIx (qOp gIx (qVar 0) (qC (.int 0))) (qOp gIx (qVar 0) (qC (.int 1)))))
  (sSeq (sSetIx 0 (qOp gAdd (qOp gIx (qVar 0) (qC (.int 1))) (qC (.int 1))) (qC (.int 1)))
  (sIf (qTest (qOp (gI (gCmp fun i j => decide (j ≤ i))) (qVar 2) (qOp (gI gPow) (qC (.int 10)) (qC (.int 18))))) (sSetIx 0 (qVar 2) (qC (.int 2))) (sSetIx 0 (qOp (gI gMod) (qOp gAdd (qOp gAdd (qOp gMul (qOp gIx (qVar 0) (qC (.int 3))) (qC (.int 40013))) (qOp (gI gMod) (qVar 2) (qC (.int 1000003)))) (qC (.int 1))) (qC (.int 2147483647))) (qC (.int 3)))))) sNil)
  (sSeq (sIf (qTest (qOp (gI (gCmp fun i j => decide (j < i))) (qOp gIx (qVar 0) (qC (.int 2))) (qC (.int 0)))) (sSeq (sAsg 3 (qOp (gI gMod) (qOp gIx (qVar 0) (qC (.int 2))) (qVar 1)))
  (sSeq (sSetIx 0 (qOp (gI gDiv) (qOp gIx (qVar 0) (qC (.int 2))) (qVar 1)) (qC (.int 2)))
  (sRet (qVar 3)))) sNil)
  (sSeq (sSetIx 0 (qOp gAdd (qOp gIx (qVar 0) (qC (.int 4))) (qC (.int 1))) (qC (.int 4)))
  (sSeq (sSetIx 0 (qOp (gI gMod) (qOp gAdd (qOp gAdd (qOp gMul (qOp gIx (qVar 0) (qC (.int 3))) (qC (.int 48271))) (qC (.int 12820163))) (qOp gIx (qVar 0) (qC (.int 4)))) (qC (.int 2147483647))) (qC (.int 3)))
  (sRet (qOp (gI gMod) (qOp (gI gDiv) (qOp (gI gMod) (qOp gMul (qOp gAdd (qOp (gI gMod) (qOp gIx (qVar 0) (qC (.int 3))) (qC (.int 65521))) (qC (.int 1))) (qOp gAdd (qOp (gI gDiv) (qOp gIx (qVar 0) (qC (.int 3))) (qC (.int 65521))) (qC (.int 7919)))) (qC (.int 1000003))) (qC (.int 7))) (qVar 1)))))))
theorem pure_law_pick (fl : Option (List D)) (ds : List D) (Q : RV → Option (List D) → Prop) (_ : true = true ↔ fl ≠ none) (h : sp_law_pick fl ds Q) : T_law_pick (endsOf true Q) (startE true N_law_pick fl ds) := by
  obtain ⟨fd, many, rfl, ⟨cs, p, b, m, n, rfl, hp, hb, hm, hm2, hn⟩, rfl, h1, h2, k⟩ := h
  show T_law_pick _ [SV.own true _, SV.dat _, SV.un, SV.un]
  unfold T_law_pick
  refine cut_seq (fun env => ∃ p b m, 0 ≤ p ∧ 0 ≤ b ∧ 0 ≤ m ∧ m < 2147483647 ∧ ∃ y, env = [SV.own true [.list (cs.map .int), .int p, .int b, .int m, .int n], SV.dat (.int many), y, SV.un]) ?_ ?_
  · rintro env ⟨p, b, m, hp, hb, hm, hm2, y, rfl⟩
    walk_at "wp"
    split
    · exact ⟨by omega, ⟨by omega, h2⟩, k _ _ (Int.emod_nonneg _ (by omega)) (Int.emod_lt_of_pos _ (by omega)) ⟨cs, p, b / many, m, n, rfl, hp, Int.ediv_nonneg hb (by omega), hm, hm2, hn⟩⟩
    · have g1 : 0 ≤ (m * 48271 + 12820163 + (n + 1)) % 2147483647 := Int.emod_nonneg _ (by decide)
      have g2 : (m * 48271 + 12820163 + (n + 1)) % 2147483647 < 2147483647 := Int.emod_lt_of_pos _ (by decide)
      generalize (m * 48271 + 12820163 + (n + 1)) % 2147483647 = x at g1 g2 ⊢
      refine ⟨.inr ⟨by decide, by decide⟩, by decide, by decide, ⟨by decide, by decide⟩, .inl ⟨by omega, by omega⟩, by decide, ⟨by decide, by decide⟩, by omega, k _ _ (Int.emod_nonneg _ (by omega)) (Int.emod_lt_of_pos _ (by omega)) ⟨cs, p, b, x, n + 1, rfl, hp, hb, g1, g2, by omega⟩⟩
  · intro nx hnx
    walk_at "wp"
    split
    · split
      · rename_i hlt
        rw [List.length_map] at hlt
        rw [atI_at hp, List.getElem?_map, List.getElem?_eq_getElem (by omega : p.toNat < cs.length)]
        walk_at "wp"
        refine ⟨⟨by decide, by decide, by decide⟩, ?_⟩
        have e18 : (10 : Int) ^ Int.toNat 18 = 1000000000000000000 := by decide
        split
        · exact hnx _ ⟨p + 1, _, m, by omega, by omega, hm, hm2, _, rfl⟩
        · refine ⟨.inr ⟨by decide, by decide⟩, by decide, by decide, hnx _ ⟨p + 1, b, _, by omega, hb, Int.emod_nonneg _ (by decide), Int.emod_lt_of_pos _ (by decide), _, rfl⟩⟩
      · exact hnx _ ⟨p, b, m, hp, hb, hm, hm2, _, rfl⟩
    · exact hnx _ ⟨p, b, m, hp, hb, hm, hm2, _, rfl⟩

end Sw

open PySem PySem.Spec L2 Sw
namespace Sw
def abc : Str := Str.ofString "abcdefghijklmnopqrstuvwxyz"
theorem abc_tl : abc.cps.toList = List.range' 97 26 := by decide +kernel
theorem abc_ix {d : Int} (h0 : 0 ≤ d) (h1 : d < 26) : (if (Str.ofString "abcdefghijklmnopqrstuvwxyz").length ≤ sizeLine then Option.map (fun c => PyData.str ⟨#[c]⟩) (atI (Str.ofString "abcdefghijklmnopqrstuvwxyz").cps.toList d) else none) = some (.str ⟨#[97 + d.toNat]⟩) := by
  show (if abc.length ≤ sizeLine then (atI abc.cps.toList d).map fun c => PyData.str ⟨#[c]⟩ else none) = _
  rw [if_pos (by rw [len_tl, abc_tl, sizeLine_eq]; decide), abc_tl, atI_at h0, List.getElem?_range' (by omega)]
  simp
theorem sizeL {n : Nat} (h : n ≤ 16777216) : n ≤ sizeLine := by rw [sizeLine_eq]; exact h
theorem low1 {n : Nat} (h : n < 26) : Low ⟨#[97 + n]⟩ := fun c hc => by
  have : c = 97 + n := by simpa using hc
  omega
theorem sum_ones : ∀ {zs : List Str}, (∀ z ∈ zs, z.length = 1) → (zs.map (·.length)).sum = zs.length
  | [], _ => rfl
  | z :: r, h => by
    rw [List.map_cons, List.sum_cons, h z List.mem_cons_self, sum_ones fun y hy => h y (List.mem_cons_of_mem _ hy), List.length_cons]
    omega
theorem join_len (zs : List Str) : (Txt.join (Str.ofString "") zs).length = (zs.map (·.length)).sum := by
  rw [len_tl, joinE, List.length_flatten, List.map_map]
  rfl
theorem join_low {zs : List Str} (h : ∀ z ∈ zs, Low z) : Low (Txt.join (Str.ofString "") zs) := fun c hc => by
  rw [joinE] at hc
  obtain ⟨l, hl, hc⟩ := List.mem_flatten.mp hc
  obtain ⟨z, hz, rfl⟩ := List.mem_map.mp hl
  exact h z hz c hc
def sp_law_letters : PSp := fun fl ds Q => ∃ fd many, fl = some fd ∧ FlOk fd ∧ ds = [.int many] ∧ 0 ≤ many ∧ many ≤ 1000 ∧ ∀ z fd2, Low z → (z.length : Int) = many → FlOk fd2 → Q (.dt (.str z)) (some fd2)
abbrev N_law_letters : List Str := ["_law_flow_here", "_law_many", "_law_k"]
def T_law_letters : PS' := (sRet (qJoin (qC (.str "")) (qF (fLc (iRg1 (qVar 1)) (gN 2) tYes' (qOp gIx (qC (.str "abcdefghijklmnopqrstuvwxyz")) (qCallL sp_law_pick 0 (qAddD (qCons (qC (.int 26)) qNil) []))) [2]))))
theorem pure_law_letters (fl : Option (List D)) (ds : List D) (Q : RV → Option (List D) → Prop) (_ : true = true ↔ fl ≠ none) (h : sp_law_letters fl ds Q) : T_law_letters (endsOf true Q) (startE true N_law_letters fl ds) := by
  obtain ⟨fd, many, rfl, hf, rfl, h1, h2, k⟩ := h
  show T_law_letters _ [SV.own true _, SV.dat _, SV.un]
  unfold T_law_letters
  walk_at "wp"
  refine ⟨⟨by omega, by omega⟩, by rw [rgD_len]; omega, ?_⟩
  refine pLc_inv (fun i acc env => ∃ (zs : List Str) (fd : List D), acc = zs.map PyData.str ∧ zs.length = i ∧ (∀ z ∈ zs, Low z ∧ z.length = 1) ∧ FlOk fd ∧ env = [SV.own true fd, SV.dat (.int many), SV.un]) ⟨[], fd, rfl, rfl, by simp, hf, rfl⟩ ?_ ?_
  · rintro i d hd acc env ⟨zs, fd, rfl, rfl, hz, hf, rfl⟩ K hK
    obtain ⟨hi, rfl⟩ := rgD_get hd
    walk_at "wp"
    refine ⟨fd, 26, rfl, hf, rfl, by omega, by omega, fun d fd2 h0 h1 hf2 => ?_⟩
    walk_at "wp"
    rw [abc_ix h0 h1]
    walk_at "wp"
    refine hK _ _ ⟨zs ++ [⟨#[97 + d.toNat]⟩], fd2, by rw [List.map_append]; rfl, by simp, fun z hz' => ?_, hf2, rfl⟩
    rcases List.mem_append.mp hz' with e | e
    · exact hz z e
    · have e : z = ⟨#[97 + d.toNat]⟩ := by simpa using e
      subst e
      exact ⟨low1 (by omega), rfl⟩
  · rintro acc env ⟨zs, fd, rfl, hl, hz, hf, rfl⟩
    rw [rgD_len] at hl
    have hs := sum_ones fun z hz' => (hz z hz').2
    walk_at "wp"
    refine ⟨?_, k _ _ (join_low fun z hz' => (hz z hz').1) (by rw [join_len, hs, hl]; omega) hf⟩
    rw [hs, hl]
    have : (Str.ofString "").length = 0 := by decide +kernel
    rw [this]
    omega
def nmB (z : Str) : Bool := z.cps.toList.all (fun c => decide (97 ≤ c ∧ c ≤ 122)) && decide (1 ≤ z.length ∧ z.length ≤ 6)
theorem nmB_iff {z : Str} : nmB z = true ↔ Nm z := by
  unfold nmB Nm Low
  rw [Bool.and_eq_true, List.all_eq_true, decide_eq_true_eq]
  simp only [decide_eq_true_eq]
def lawWords : List Str := [Str.ofString "to", Str.ofString "turn", Str.ofString "turns", Str.ofString "ring", Str.ofString "rings", Str.ofString "odd", Str.ofString "ours", Str.ofString "row", Str.ofString "rows", Str.ofString "cuts", Str.ofString "knots", Str.ofString "cover", Str.ofString "change", Str.ofString "joins", Str.ofString "theirs", Str.ofString "one", Str.ofString "two", Str.ofString "home", Str.ofString "none", Str.ofString "open", Str.ofString "keep", Str.ofString "tox", Str.ofString "onex"]
theorem lawWords_ok : lawWords.all nmB = true := by decide +kernel
def sp_law_name : PSp := fun fl ds Q => ∃ fd stem, fl = some fd ∧ FlOk fd ∧ ds = [.str stem] ∧ Low stem ∧ stem.length ≤ 4 ∧ ∀ z fd2, Nm z → FlOk fd2 → Q (.dt (.str z)) (some fd2)
abbrev N_law_name : List Str := ["_law_flow_here", "_law_stem", "_law_words"]
def T_law_name : PS' := (sSeq (sIf (qTest (qOp (gEq true) (qVar 1) (qC (.str "")))) (sRet (qOp gAdd (qVar 1) (qCallL sp_law_letters 0 (qAddD (qCons (qOp gAdd (qC (.int 1)) (qCallL sp_law_pick 0 (qAddD (qCons (qC (.int 2)) qNil) []))) qNil) [])))) sNil)
  (sSeq (sIf (qTest (qOp (gEq false) (qCallL sp_law_pick 0 (qAddD (qCons (qC (.int 7)) qNil) [])) (qC (.int 0)))) (sSeq (sAsg 2 (qF (fLst (qCons (qC (.str "to")) (qCons (qC (.str "turn")) (qCons (qC (.str "turns")) (qCons (qC (.str "ring")) (qCons (qC (.str "rings")) (qCons (qC (.str "odd")) (qCons (qC (.str "ours")) (qCons (qC (.str "row")) (qCons (qC (.str "rows")) (qCons (qC (.str "cuts")) (qCons (qC (.str "knots")) (qCons (qC (.str "cover")) qNil)))))))))))))))
  (sSeq (sAsg 2 (qOp gAdd (qVar 2) (qF (fLst (qCons (qC (.str "change")) (qCons (qC (.str "joins")) (qCons (qC (.str "theirs")) (qCons (qC (.str "one")) (qCons (qC (.str "two")) (qCons (qC (.str "home")) (qCons (qC (.str "none")) (qCons (qC (.str "open")) (qCons (qC (.str "keep")) (qCons (qC (.str "tox")) (qCons (qC (.str "onex")) qNil)))))))))))))))
  (sRet (qOp gIx (qVar 2) (qCallL sp_law_pick 0 (qAddD (qCons (qC (.int 23)) qNil) [])))))) sNil)
  (sRet (qCallL sp_law_letters 0 (qAddD (qCons (qOp gAdd (qC (.int 1)) (qCallL sp_law_pick 0 (qAddD (qCons (qC (.int 6)) qNil) []))) qNil) [])))))
theorem pure_law_name (fl : Option (List D)) (ds : List D) (Q : RV → Option (List D) → Prop) (_ : true = true ↔ fl ≠ none) (h : sp_law_name fl ds Q) : T_law_name (endsOf true Q) (startE true N_law_name fl ds) := by
  obtain ⟨fd, stem, rfl, hf, rfl, h1, h2, k⟩ := h
  show T_law_name _ [SV.own true _, SV.dat _, SV.un]
  unfold T_law_name
  refine cut_seq (fun env => ∃ fd, FlOk fd ∧ env = [SV.own true fd, SV.dat (.str stem), SV.un]) ?_ fun nx hnx => ?_
  · rintro env ⟨fd, hf, rfl⟩
    walk_at "wp"
    refine ⟨fd, 7, rfl, hf, rfl, by omega, by omega, fun d fd2 h0 h7 hf2 => ?_⟩
    walk_at "wp"
    split
    · refine ⟨sizeL (by decide), sizeL (by decide), sizeL (by decide), fd2, 23, rfl, hf2, rfl, by omega, by omega, fun d fd3 g0 g1 hf3 => ?_⟩
      walk_at "wp"
      obtain ⟨w, e1, e2⟩ : ∃ w, lawWords[d.toNat]? = some w ∧ Nm w := by
        have hlt : d.toNat < lawWords.length := by
          show d.toNat < 23
          omega
        exact ⟨_, List.getElem?_eq_getElem hlt, nmB_iff.mp (List.all_eq_true.mp lawWords_ok _ (List.getElem_mem hlt))⟩
      have e3 : atI (lawWords.map PyData.str) d = some (.str w) := by
        rw [atI_at g0, List.getElem?_map, e1]
        rfl
      refine ⟨_, e3, k _ _ e2 hf3⟩
    · refine ⟨fd2, 6, rfl, hf2, rfl, by omega, by omega, fun d fd3 g0 g1 hf3 => ?_⟩
      walk_at "wp"
      refine ⟨fd3, 1 + d, rfl, hf3, rfl, by omega, by omega, fun z fd4 hz hl hf4 => ?_⟩
      walk_at "wp"
      exact k _ _ ⟨hz, by omega, by omega⟩ hf4
  · walk_at "wp"
    split
    · rename_i hne
      refine ⟨fd, 2, rfl, hf, rfl, by omega, by omega, fun d fd2 h0 h7 hf2 => ?_⟩
      walk_at "wp"
      refine ⟨fd2, 1 + d, rfl, hf2, rfl, by omega, by omega, fun z fd3 hz hl hf3 => ?_⟩
      walk_at "wp"
      have hs : 1 ≤ stem.length := by
        cases q : stem.length with
        | zero =>
          exfalso
          refine hne (ext_tl ?_)
          rw [List.eq_nil_of_length_eq_zero (show stem.cps.toList.length = 0 from q)]
          decide +kernel
        | succ n => omega
      exact ⟨sizeL (by omega), k _ _ ⟨h1.app hz, by rw [len_app]; omega, by rw [len_app]; omega⟩ hf3⟩
    · exact hnx _ ⟨fd, hf, rfl⟩

end Sw

open PySem PySem.Spec L2 Sw
namespace Sw
theorem mul_tl (z : Str) {n : Int} (h : 1 ≤ n) : (Txt.mul z n).cps.toList = (List.replicate n.toNat z.cps.toList).flatten := by
  unfold Txt.mul
  rw [if_neg (by omega)]
  split
  · rename_i h2
    rw [Bool.or_eq_true] at h2
    rcases h2 with h2 | h2
    · have : n = 1 := by simpa using h2
      subst this
      simp
    · have h3 : z.cps.toList.length = 0 := by
        have : z.length = 0 := by simpa using h2
        exact this
      have h4 : z.cps.toList = [] := List.eq_nil_of_length_eq_zero h3
      rw [h4]
      simp
  · have key : ∀ (k : Nat) (acc : Array Nat), ((List.replicate k z.cps).foldl (· ++ ·) acc).toList = acc.toList ++ (List.replicate k z.cps.toList).flatten := by
      intro k
      induction k with
      | zero => intro acc; simp
      | succ k ih =>
        intro acc
        rw [List.replicate_succ, List.foldl_cons, ih, List.replicate_succ, List.flatten_cons, Array.toList_append, List.append_assoc]
    show ((List.replicate n.toNat z.cps).foldl (· ++ ·) #[]).toList = _
    rw [key]
    simp
theorem nodup_len_le {α : Type} [DecidableEq α] : ∀ {l m : List α}, l.Nodup → (∀ x ∈ l, x ∈ m) → l.length ≤ m.length
  | [], _, _, _ => Nat.zero_le _
  | x :: r, m, h, hs => by
    have h' := List.nodup_cons.mp h
    have hx := hs x List.mem_cons_self
    have ih := nodup_len_le (l := r) (m := m.erase x) h'.2 fun y hy => by
      have hne : y ≠ x := by
        rintro rfl
        exact h'.1 hy
      exact (List.mem_erase_of_ne hne).mpr (hs y (List.mem_cons_of_mem _ hy))
    rw [List.length_erase_of_mem hx] at ih
    have : 0 < m.length := List.length_pos_of_mem hx
    rw [List.length_cons]
    omega
theorem tl_nil : (Str.ofString "").cps.toList = [] := by decide +kernel
theorem low_nil : Low (Str.ofString "") := fun c hc => by
  rw [tl_nil] at hc
  cases hc
/-- the spare names -/
def cand (s : Nat) : Str := Txt.mul ⟨#[97 + s % 26]⟩ (1 + (s / 26 : Nat))
theorem rep_one (k c : Nat) : (List.replicate k [c]).flatten = List.replicate k c := by
  induction k with
  | zero => rfl
  | succ k ih => rw [List.replicate_succ, List.flatten_cons, ih, List.replicate_succ]; rfl
theorem cand_tl (s : Nat) : (cand s).cps.toList = List.replicate (1 + s / 26) (97 + s % 26) := by
  unfold cand
  rw [mul_tl _ (by omega)]
  have : (1 + ((s / 26 : Nat) : Int)).toNat = 1 + s / 26 := by omega
  rw [this]
  exact rep_one _ _
theorem cand_inj {s t : Nat} (h : cand s = cand t) : s = t := by
  have e := congrArg (fun z : Str => z.cps.toList) h
  have e : (cand s).cps.toList = (cand t).cps.toList := e
  rw [cand_tl, cand_tl] at e
  have h1 : 1 + s / 26 = 1 + t / 26 := by
    have := congrArg List.length e
    simpa using this
  have h2 : 97 + s % 26 = 97 + t % 26 := by
    have := congrArg List.head? e
    rw [show 1 + s / 26 = (s / 26) + 1 by omega, show 1 + t / 26 = (t / 26) + 1 by omega, List.replicate_succ, List.replicate_succ] at this
    simpa using this
  omega
theorem cand_nm {s : Nat} (h : s < 156) : Nm (cand s) := by
  refine ⟨fun c hc => ?_, ?_, ?_⟩
  · rw [cand_tl] at hc
    have := List.eq_of_mem_replicate hc
    omega
  · rw [len_tl, cand_tl, List.length_replicate]
    omega
  · rw [len_tl, cand_tl, List.length_replicate]
    omega
theorem cand_few {ns : List Str} {s : Nat} (h : ∀ j, j < s → cand j ∈ ns) : s ≤ ns.length := by
  have nd : ((List.range s).map cand).Nodup := by
    rw [List.Nodup, List.pairwise_map]
    exact List.Pairwise.imp (fun hab e => hab (cand_inj e)) (List.nodup_range (n := s))
  have sub : ∀ x ∈ (List.range s).map cand, x ∈ ns := fun x hx => by
    obtain ⟨j, hj, rfl⟩ := List.mem_map.mp hx
    exact h j (List.mem_range.mp hj)
  have := nodup_len_le nd sub
  simpa using this
def sp_law_names : PSp := fun fl ds Q => ∃ fd many, fl = some fd ∧ FlOk fd ∧ ds = [.int many] ∧ 0 ≤ many ∧ many ≤ 80 ∧ ∀ (ns : List Str) fd2, ns.Nodup → (∀ z ∈ ns, Nm z) → (ns.length : Int) = many → FlOk fd2 → Q (.fr (ns.map PyData.str)) (some fd2)
abbrev N_law_names : List Str := ["_law_flow_here", "_law_many", "_law_stem", "_law_names_here", "_law_k", "_law_name_here", "_law_spare"]
def T_law_names : PS' := (sSeq (sAsg 2 (qC (.str "")))
  (sSeq (sIf (qTest (qOp (gEq false) (qCallL sp_law_pick 0 (qAddD (qCons (qC (.int 3)) qNil) [])) (qC (.int 0)))) (sAsg 2 (qCallL sp_law_letters 0 (qAddD (qCons (qOp gAdd (qC (.int 1)) (qCallL sp_law_pick 0 (qAddD (qCons (qC (.int 4)) qNil) []))) qNil) []))) sNil)
  (sSeq (sAsgF 3 (fLst (qNil)))
  (sSeq (sFor (iRg1 (qVar 1)) (gN 4) (sSeq (sAsg 5 (qCallL sp_law_name 0 (qAddD (qCons (qVar 2) qNil) [])))
  (sSeq (sAsg 6 (qC (.int 0)))
  (sSeq (sWh (qTest (qOp (gIn false) (qVar 5) (qVar 3))) (sSeq (sAsg 5 (qOp gMul (qOp gIx (qC (.str "abcdefghijklmnopqrstuvwxyz")) (qOp (gI gMod) (qVar 6) (qC (.int 26)))) (qOp gAdd (qC (.int 1)) (qOp (gI gDiv) (qVar 6) (qC (.int 26))))))
  (sAsg 6 (qOp gAdd (qVar 6) (qC (.int 1))))))
  (sDrop (qMO 3 gAppend (qCons (qVar 5) qNil)))))))
  (sRetS 3)))))
theorem pure_law_names (fl : Option (List D)) (ds : List D) (Q : RV → Option (List D) → Prop) (_ : true = true ↔ fl ≠ none) (h : sp_law_names fl ds Q) : T_law_names (endsOf true Q) (startE true N_law_names fl ds) := by
  obtain ⟨fd, many, rfl, hf, rfl, h1, h2, k⟩ := h
  show T_law_names _ [SV.own true _, SV.dat _, SV.un, SV.un, SV.un, SV.un, SV.un]
  unfold T_law_names
  refine cut_seq (fun env => FlOk fd ∧ env = [SV.own true fd, SV.dat (.int many), SV.dat (.str (Str.ofString "")), SV.un, SV.un, SV.un, SV.un]) ?_ fun nx hnx => ?_
  · rintro env ⟨hf, rfl⟩
    refine cut_seq (fun env => ∃ fd stem, FlOk fd ∧ Low stem ∧ stem.length ≤ 4 ∧ env = [SV.own true fd, SV.dat (.int many), SV.dat (.str stem), SV.un, SV.un, SV.un, SV.un]) ?_ fun nx hnx => ?_
    · rintro env ⟨fd, stem, hf, hs1, hs2, rfl⟩
      walk_at "wp"
      refine ⟨sizeL (by decide), ⟨by omega, by omega⟩, ?_⟩
      refine pFor_inv (fun i env => ∃ (ns : List Str) (fd : List D) (y1 y2 y3 : SV), ns.length = i ∧ ns.Nodup ∧ (∀ z ∈ ns, Nm z) ∧ FlOk fd ∧ env = [SV.own true fd, SV.dat (.int many), SV.dat (.str stem), SV.own false (ns.map PyData.str), y1, y2, y3]) ⟨[], fd, _, _, _, rfl, List.nodup_nil, by simp, hf, rfl⟩ ?_ ?_
      · rintro i d hd env ⟨ns, fd, y1, y2, y3, rfl, hn1, hn2, hf, rfl⟩ K hK
        obtain ⟨hi, rfl⟩ := rgD_get hd
        walk_at "wp"
        refine ⟨fd, stem, rfl, hf, rfl, hs1, hs2, fun z fd2 hz hf2 => ?_⟩
        walk_at "wp"
        refine pWh_inv (fun env => ∃ (s : Nat) (z : Str), Nm z ∧ s ≤ ns.length + 1 ∧ (∀ j, j + 1 < s → cand j ∈ ns) ∧ (0 < s → z = cand (s - 1)) ∧ env = [SV.own true fd2, SV.dat (.int many), SV.dat (.str stem), SV.own false (ns.map PyData.str), SV.dat (.int (0 + (ns.length : Int))), SV.dat (.str z), SV.dat (.int (s : Int))])
          (fun env : List SV => match env[6]? with | some (SV.dat (PyData.int s)) => (100 - s).toNat | _ => 0) ⟨0, z, hz, by omega, by omega, by omega, rfl⟩ ?_
        rintro env ⟨s, z, hz, hs, hc, hzc, rfl⟩ K2 hK2
        walk_at "wp"
        rw [gIn_strs]
        walk_at "wp"
        split
        · rename_i hin
          have hc2 : ∀ j, j < s → cand j ∈ ns := fun j hj => by
            by_cases e : j + 1 < s
            · exact hc j e
            · have e1 : j = s - 1 := by omega
              rw [e1, ← hzc (by omega)]
              exact hin
          have hfew := cand_few hc2
          have hmany : ns.length < 80 := by omega
          have e1 : ((s : Int) % 26) = ((s % 26 : Nat) : Int) := by omega
          have e2 : ((s : Int) / 26) = ((s / 26 : Nat) : Int) := by omega
          rw [abc_ix (by omega) (by omega)]
          walk_at "wp"
          refine ⟨by decide, ⟨by decide, by decide⟩, ⟨by omega, by omega, by show 1 ≤ 1000; decide⟩, ?_⟩
          have e3 : Txt.mul ⟨#[97 + ((s : Int) % 26).toNat]⟩ (1 + (s : Int) / 26) = cand s := by
            unfold cand
            rw [e1, e2]
            rfl
          rw [e3]
          refine hK2 _ ⟨s + 1, cand s, cand_nm (by omega), by omega, fun j hj => hc2 j (by omega), fun _ => rfl, rfl⟩ ?_
          show (100 - ((s : Int) + 1)).toNat < (100 - (s : Int)).toNat
          omega
        · rename_i hnin
          refine ⟨?_, hK _ ⟨ns ++ [z], fd2, _, _, _, by simp, ?_, fun y hy => ?_, hf2, by rw [List.map_append]; rfl⟩⟩
          · rw [List.length_map, sizeLine_eq]
            omega
          · rw [List.nodup_append]
            refine ⟨hn1, by simp, fun a ha b hb => ?_⟩
            have : b = z := by simpa using hb
            rintro rfl
            exact hnin (this ▸ ha)
          · rcases List.mem_append.mp hy with e | e
            · exact hn2 y e
            · have : y = z := by simpa using e
              exact this ▸ hz
      · rintro env ⟨ns, fd, y1, y2, y3, hl, hn1, hn2, hf, rfl⟩
        rw [rgD_len] at hl
        walk_at "wp"
        exact k ns fd hn1 hn2 (by omega) hf
    · walk_at "wp"
      refine ⟨fd, 3, rfl, hf, rfl, by omega, by omega, fun d fd2 g0 g1 hf2 => ?_⟩
      walk_at "wp"
      split
      · refine ⟨fd2, 4, rfl, hf2, rfl, by omega, by omega, fun d fd3 g0 g1 hf3 => ?_⟩
        walk_at "wp"
        refine ⟨fd3, 1 + d, rfl, hf3, rfl, by omega, by omega, fun z fd4 hz hl hf4 => ?_⟩
        walk_at "wp"
        exact hnx _ ⟨fd4, z, hf4, hz, by omega, rfl⟩
      · exact hnx _ ⟨fd2, _, hf2, low_nil, by decide +kernel, rfl⟩
  · walk_at "wp"
    exact hnx _ ⟨hf, rfl⟩

end Sw

open PySem PySem.Spec L2 Sw
namespace Sw
abbrev Bead := Bool × Str
def mirB (b : Bead) : Bead := (!b.1, b.2)
end Sw

open PySem PySem.Spec L2 Sw
namespace Sw
abbrev Strand := Bool × List Bead
def beadsOf (ss : List Strand) : List Bead := ss.flatMap Prod.snd
theorem beadsOf_app (a b : List Strand) : beadsOf (a ++ b) = beadsOf a ++ beadsOf b := List.flatMap_append
theorem beads_few (ss : List Strand) (h : ∀ s ∈ ss, s.2 ≠ []) : ss.length ≤ (beadsOf ss).length := by
  induction ss with
  | nil => exact Nat.le_refl _
  | cons s r ih =>
    have h1 := ih fun x hx => h x (List.mem_cons_of_mem _ hx)
    have h2 : 1 ≤ s.2.length := by
      have := h s List.mem_cons_self
      cases q : s.2 with
      | nil => exact absurd q this
      | cons a b => simp
    show r.length + 1 ≤ (s.2 ++ beadsOf r).length
    rw [List.length_append]
    omega
def okA : Nat → D → Prop
  | _, .none => True
  | _, .bool _ => True
  | _, .int _ => True
  | _, .str _ => True
  | n + 1, .list xs => xs.length ≤ 100000 ∧ ∀ x ∈ xs, okA n x
  | n + 1, .tuple xs => xs.length ≤ 100000 ∧ ∀ x ∈ xs, okA n x
  | _, _ => False
def spA : Nat → PSp
  | 0 => fun _ _ _ => False
  | n + 1 => fun fl ds Q => fl = none ∧ ∃ d, ds = [d, d] ∧ okA n d ∧ Q (.dt (.bool true)) none
def sp_law_alike : PSp := spA 12
abbrev N_law_alike : List Str := ["_law_found", "_law_due", "_law_k"]
def T_law_alike (sp_law_alike : PSp) : PS' := (sSeq (sIf (qTest (qOp (gIsN false) (qVar 1) (qC .none))) (sRet (qOp (gIsN false) (qVar 0) (qC .none))) sNil)
  (sSeq (sIf (tOr' (qTest (qIsi .bool (qVar 1))) (qTest (qIsi .bool (qVar 0)))) (sRet (qAnd (qIsi .bool (qVar 1)) (qAnd (qIsi .bool (qVar 0)) (qOp (gEq false) (qVar 0) (qVar 1))))) sNil)
  (sSeq (sIf (qTest (qIsi .int (qVar 1))) (sRet (qAnd (qIsi .int (qVar 0)) (qOp (gEq false) (qVar 0) (qVar 1)))) sNil)
  (sSeq (sIf (qTest (qIsi .str (qVar 1))) (sRet (qAnd (qIsi .str (qVar 0)) (qOp (gEq false) (qVar 0) (qVar 1)))) sNil)
  (sSeq (sIf (tOr' (qTest (qOp (gEq true) (qIsi .tuple (qVar 1)) (qIsi .tuple (qVar 0)))) (qTest (qOp (gEq true) (qIsi .list (qVar 1)) (qIsi .list (qVar 0))))) (sRet (qC (.bool false))) sNil)
  (sRet (qAnd (qOp (gEq false) (qCB gLen (qCons (qVar 0) qNil)) (qCB gLen (qCons (qVar 1) qNil))) (qCB gAll (qCons (qF (fLc (iRg1 (qCB gLen (qCons (qVar 1) qNil))) (gN 2) tYes' (qCall sp_law_alike (qAddD (qCons (qOp gIx (qVar 0) (qVar 2)) (qCons (qOp gIx (qVar 1) (qVar 2)) qNil)) [])) [2])) qNil)))))))))
theorem pure_law_alike (n : Nat) (fl : Option (List D)) (ds : List D) (Q : RV → Option (List D) → Prop) (_ : false = true ↔ fl ≠ none) (h : spA (n + 1) fl ds Q) : T_law_alike (spA n) (endsOf false Q) (startE false N_law_alike fl ds) := by
  obtain ⟨rfl, d, rfl, hd, k⟩ := h
  show T_law_alike _ _ [SV.dat d, SV.dat d, SV.un]
  unfold T_law_alike
  have seq : ∀ (c : D) (xs : List D), (∀ i : Int, gIx c (.int i) = atI xs i) → xs.length ≤ 100000 → (∀ x ∈ xs, ∃ m, n = m + 1 ∧ okA m x) →
      pLc (gN 2) tYes' (qCall (spA n) (qAddD (qCons (qOp gIx (qVar 0) (qVar 2)) (qCons (qOp gIx (qVar 1) (qVar 2)) qNil)) [])) [2] (fun ds env' => ∃ d, gAll [PyData.list ds] = some d ∧ Q (RV.dt d) none) (rgD 0 ((xs.length : Int)).toNat) [] [SV.dat c, SV.dat c, SV.un] := fun c xs hg hl hx => by
    refine pLc_inv (fun i acc env => ∃ bs : List Bool, acc = bs.map PyData.bool ∧ (∀ b ∈ bs, b = true) ∧ env = [SV.dat c, SV.dat c, SV.un]) ⟨[], rfl, by simp, rfl⟩ ?_ ?_
    · rintro i d hd acc env ⟨bs, rfl, hb, rfl⟩ K hK
      obtain ⟨hi, rfl⟩ := rgD_get hd
      have hlt : i < xs.length := by omega
      have e : atI xs (0 + (i : Int)) = some xs[i] := by
        rw [Int.zero_add]
        exact atI_nat (List.getElem?_eq_getElem hlt)
      obtain ⟨m, rfl, hm⟩ := hx xs[i] (List.getElem_mem hlt)
      walk_at "wp"
      rw [hg, e]
      walk_at "wp"
      refine ⟨rfl, xs[i], rfl, hm, ?_⟩
      walk_at "wp"
      refine hK _ _ ⟨bs ++ [true], by rw [List.map_append]; rfl, fun b hb' => ?_, rfl⟩
      rcases List.mem_append.mp hb' with e | e
      · exact hb b e
      · simpa using e
    · rintro acc env ⟨bs, rfl, hb, rfl⟩
      walk_at "wp"
      have : bs.all id = true := List.all_eq_true.mpr fun b h => hb b h
      rw [this]
      exact k
  cases d with
  | none => walk_at "wp"; exact k
  | bool b => walk_at "wp"; rw [beq_self_eq_true]; exact k
  | int i => walk_at "wp"; rw [beq_self_eq_true]; exact k
  | str z => walk_at "wp"; rw [beq_self_eq_true]; exact k
  | list xs =>
    have h' : xs.length ≤ 100000 ∧ ∀ x ∈ xs, ∃ m, n = m + 1 ∧ okA m x := by
      cases n with
      | zero => exact hd.elim
      | succ m => exact ⟨hd.1, fun x hx => ⟨m, rfl, hd.2 x hx⟩⟩
    walk_at "wp"
    exact ⟨⟨by omega, by omega⟩, by rw [rgD_len]; omega, seq _ xs (fun _ => rfl) h'.1 h'.2⟩
  | tuple xs =>
    have h' : xs.length ≤ 100000 ∧ ∀ x ∈ xs, ∃ m, n = m + 1 ∧ okA m x := by
      cases n with
      | zero => exact hd.elim
      | succ m => exact ⟨hd.1, fun x hx => ⟨m, rfl, hd.2 x hx⟩⟩
    walk_at "wp"
    exact ⟨⟨by omega, by omega⟩, by rw [rgD_len]; omega, seq _ xs (fun _ => rfl) h'.1 h'.2⟩
  | dict kds => cases n <;> exact hd.elim

end Sw

open PySem PySem.Spec L2 Sw
namespace Sw
def mirR (bs : List Bead) : List Bead := bs.reverse.map mirB
theorem mirR_mirR (bs : List Bead) : mirR (mirR bs) = bs := by
  unfold mirR
  rw [← List.map_reverse, List.reverse_reverse, List.map_map]
  have : mirB ∘ mirB = id := by
    funext ⟨t, z⟩
    simp [mirB]
  rw [this, List.map_id]
theorem mirR_len (bs : List Bead) : (mirR bs).length = bs.length := by simp [mirR]
theorem mirR_snd (bs : List Bead) : (mirR bs).map Prod.snd = (bs.map Prod.snd).reverse := by
  unfold mirR
  rw [List.map_map, List.map_reverse]
  rfl
/-- each item by a call that tells f of it -/
theorem map_comp {G : TG'} {TE : PE'} {vs : List Nat} {Q : List D → List SV → Prop} {α : Type} {xs : List α} {e : α → D} {f : α → D} {env : List SV}
    (hs : ∀ x ∈ xs, ∀ K : D → List SV → Prop, K (f x) env → G (e x) env fun env1 => TE env1 fun o env3 => ∃ y env4, o.fz env3 = some (y, env4) ∧ K y (wipeE env4 vs))
    (hd : Q (xs.map f) env) : pLc G tYes' TE vs Q (xs.map e) [] env := by
  refine pLc_inv (fun i acc env' => acc = (xs.take i).map f ∧ env' = env) ⟨rfl, rfl⟩ ?_ ?_
  · rintro i d hdd acc env' ⟨rfl, rfl⟩ K hK
    rw [List.getElem?_map] at hdd
    cases q : xs[i]? with
    | none => rw [q] at hdd; cases hdd
    | some x =>
      rw [q] at hdd
      cases hdd
      have := hs x (List.mem_of_getElem? q) (fun y env4 => K ((xs.take i).map f ++ [y]) env4) (hK _ _ ⟨by rw [List.take_add_one, q, List.map_append]; rfl, rfl⟩)
      simpa [tYes'] using this
  · rintro acc env' ⟨rfl, rfl⟩
    rw [List.length_map, List.take_length]
    exact hd
end Sw

open PySem PySem.Spec L2 Sw
namespace Sw
theorem okA_str (n : Nat) (z : Str) : okA n (.str z) := by cases n <;> trivial
theorem len_beadsOf {ss : List Strand} {s : Strand} (h : s ∈ ss) : s.2.length ≤ (beadsOf ss).length := by
  obtain ⟨a, b, rfl⟩ := List.append_of_mem h
  rw [beadsOf_app, List.length_append]
  show _ ≤ _ + (s.2 ++ beadsOf b).length
  rw [List.length_append]
  omega
theorem flOk0 (ns : List Int) : FlOk (flow0 ns) := ⟨ns, 0, 0, 1, 0, rfl, by omega, by omega, by omega, by omega, by omega⟩

end Sw

open PySem PySem.Spec L2 Sw
namespace Sw
def endD (z : Str) (s : Int) : D := .tuple [.str z, .int s]
def lE (b : Bead) : D := endD b.2 (if b.1 = true then 1 else 0)
def rE (b : Bead) : D := endD b.2 (if b.1 = true then 0 else 1)
/-- what is an end -/
def IsE (d : D) : Prop := ∃ z s, d = endD z s
theorem isE_l (b : Bead) : IsE (lE b) := ⟨_, _, rfl⟩
theorem isE_r (b : Bead) : IsE (rE b) := ⟨_, _, rfl⟩
theorem alike_E {x y : D} (h : IsE x) (g : IsE y) : W.alike x y = true := by
  obtain ⟨z, s, rfl⟩ := h
  obtain ⟨w, t, rfl⟩ := g
  rfl
theorem okI_E {x : D} (h : IsE x) : okI x := by
  obtain ⟨z, s, rfl⟩ := h
  exact ⟨rfl, by simp [endD, PyData.depth, PyData.depthAll]⟩
theorem okD_E {x : D} (h : IsE x) : okD x = true := okD_of (okI_E h)
/-- the joint of two ends -/
def jt (x y : D) : D := .tuple (srtD [x, y])
theorem alikeE {xs : List D} (h : ∀ x ∈ xs, IsE x) : W.AllAlike xs := fun x hx y hy => alike_E (h x hx) (h y hy)
theorem jt_comm {x y : D} (h : IsE x) (g : IsE y) : jt x y = jt y x := by
  unfold jt
  rw [srtD_congr (xs := [y, x]) (ys := [x, y]) (alikeE fun z hz => ?_) (List.Perm.swap _ _ _)]
  rcases List.mem_cons.mp hz with rfl | hz
  · exact g
  · rw [List.mem_singleton.mp hz]; exact h
def b0 : Bead := (false, Str.ofString "")
def firstB (bs : List Bead) : Bead := bs.headD b0
def lastB (bs : List Bead) : Bead := bs.getLastD b0
def adjJ (bs : List Bead) : List D := List.zipWith (fun a b => jt (rE a) (lE b)) bs bs.tail
def closeJ (s : Strand) : List D := if s.1 = true then [jt (rE (lastB s.2)) (lE (firstB s.2))] else [.tuple [lE (firstB s.2)], .tuple [rE (lastB s.2)]]
def strJ (s : Strand) : List D := adjJ s.2 ++ closeJ s
def jts (ss : List Strand) : List D := ss.flatMap strJ
/-- what is a joint, as it stands in a set's joints -/
def IsJ (d : D) : Prop := ∃ es : List D, d = .tuple es ∧ (∀ e ∈ es, IsE e) ∧ es ≠ [] ∧ es.length ≤ 2
theorem isJ_jt {x y : D} (h : IsE x) (g : IsE y) : IsJ (jt x y) := by
  refine ⟨_, rfl, fun e he => ?_, fun z => ?_, ?_⟩
  · rcases List.mem_cons.mp ((srtD_perm _).mem_iff.mp he) with rfl | he
    · exact h
    · rw [List.mem_singleton.mp he]; exact g
  · have := srtD_len [x, y]
    rw [z] at this
    cases this
  · rw [srtD_len]; exact Nat.le_refl _
theorem isJ_one {x : D} (h : IsE x) : IsJ (.tuple [x]) := ⟨_, rfl, fun e he => by rw [List.mem_singleton.mp he]; exact h, by simp, by simp⟩
theorem alikeAll_E : ∀ {xs ys : List D}, (∀ x ∈ xs, IsE x) → (∀ y ∈ ys, IsE y) → W.alikeAll xs ys = true
  | [], _, _, _ => by simp [W.alikeAll]
  | _ :: _, [], _, _ => by simp [W.alikeAll]
  | x :: xs, y :: ys, h, g => by
    simp only [W.alikeAll, Bool.and_eq_true]
    exact ⟨alike_E (h x List.mem_cons_self) (g y List.mem_cons_self), alikeAll_E (fun z hz => h z (List.mem_cons_of_mem _ hz)) fun z hz => g z (List.mem_cons_of_mem _ hz)⟩
theorem alike_J {x y : D} (h : IsJ x) (g : IsJ y) : W.alike x y = true := by
  obtain ⟨a, rfl, ha, _⟩ := h
  obtain ⟨b, rfl, hb, _⟩ := g
  simp only [W.alike]
  exact alikeAll_E ha hb
theorem okD_J {x : D} (h : IsJ x) : okD x = true := by
  obtain ⟨a, rfl, ha, _⟩ := h
  exact (okD_list fun z hz => okI_E (ha z hz)).2
theorem allAlikeJ {xs : List D} (h : ∀ x ∈ xs, IsJ x) : W.AllAlike xs := fun x hx y hy => alike_J (h x hx) (h y hy)
theorem okSort_of {xs : List D} (h1 : ∀ x ∈ xs, okD x = true) (h2 : W.AllAlike xs) (h3 : ∀ x ∈ xs, tup1 x = true) : okSort xs = true := by
  unfold okSort
  rw [List.all_eq_true.mpr h1, List.all_eq_true.mpr h3, Bool.true_or, Bool.and_true, Bool.true_and]
  exact List.all_eq_true.mpr fun x hx => List.all_eq_true.mpr fun y hy => h2 x hx y hy
theorem okSort_J {xs : List D} (h : ∀ x ∈ xs, IsJ x) : okSort xs = true := okSort_of (fun x hx => okD_J (h x hx)) (allAlikeJ h) fun x hx => by
  obtain ⟨a, rfl, _, ha, _⟩ := h x hx
  cases a with
  | nil => exact absurd rfl ha
  | cons y r => rfl
theorem okSort_E {xs : List D} (h : ∀ x ∈ xs, IsE x) : okSort xs = true := okSort_of (fun x hx => okD_E (h x hx)) (alikeE h) fun x hx => by
  obtain ⟨z, s, rfl⟩ := h x hx
  rfl
theorem gSortD_ok {ds : List D} (h : okSort ds = true) : gSortD [.list ds] = some (srtD ds) := by
  show (if okSort ds = true then some (srtD ds) else none) = _
  rw [if_pos h]
def GoodS (ss : List Strand) : Prop := (∀ s ∈ ss, s.2 ≠ []) ∧ (beadsOf ss).length ≤ 1000 ∧ ∀ b ∈ beadsOf ss, Nm b.2
theorem GoodS.len {ss : List Strand} (h : GoodS ss) {s : Strand} (hs : s ∈ ss) : s.2.length ≤ 1000 := by
  have := len_beadsOf hs
  have := h.2.1
  omega
end Sw

open PySem PySem.Spec L2 Sw
namespace Sw
theorem cutD_drop {ds : List D} {n : Nat} (h : n ≤ ds.length) : cutD ds (some (n : Int)) none = ds.drop n := by
  unfold cutD
  rw [HT.sIx_none, HT.sIx_nat, Nat.min_eq_left h]
  refine List.take_of_length_le ?_
  rw [List.length_drop]
  exact Nat.le_refl _
theorem cutD_take {ds : List D} {n : Nat} (h : n ≤ ds.length) : cutD ds none (some (n : Int)) = ds.take n := by
  unfold cutD
  rw [HT.sIx_none, HT.sIx_nat, Nat.min_eq_left h]
  show (ds.drop 0).take (n - 0) = _
  rw [List.drop_zero, Nat.sub_zero]
end Sw

open PySem PySem.Spec L2 Sw
namespace Sw

end Sw

open PySem PySem.Spec L2 Sw
namespace Sw
inductive All2 {α β : Type} (R : α → β → Prop) : List α → List β → Prop
  | nil : All2 R [] []
  | cons {a : α} {b : β} {as : List α} {bs : List β} : R a b → All2 R as bs → All2 R (a :: as) (b :: bs)
structure Rst (s t : Strand) : Prop where
  kind : t.1 = s.1
  beads : ∃ r, (r = s.2 ∨ (s.1 = true ∧ ∃ n, n ≤ s.2.length ∧ r = s.2.drop n ++ s.2.take n)) ∧ (t.2 = r ∨ t.2 = mirR r)
theorem adjJ_cons (a b : Bead) (r : List Bead) : adjJ (a :: b :: r) = jt (rE a) (lE b) :: adjJ (b :: r) := rfl
theorem first_app {A B : List Bead} (h : A ≠ []) : firstB (A ++ B) = firstB A := by
  cases A with
  | nil => exact absurd rfl h
  | cons a r => rfl
theorem last_app {A B : List Bead} (h : B ≠ []) : lastB (A ++ B) = lastB B := by
  unfold lastB
  rw [List.getLastD_eq_getLast?, List.getLastD_eq_getLast?, List.getLast?_append, List.getLast?_eq_some_getLast h]
  rfl
theorem last_cons {a : Bead} {r : List Bead} (h : r ≠ []) : lastB (a :: r) = lastB r := last_app (A := [a]) h
theorem adjJ_app : ∀ {A B : List Bead}, A ≠ [] → B ≠ [] → adjJ (A ++ B) = adjJ A ++ jt (rE (lastB A)) (lE (firstB B)) :: adjJ B
  | [], _, h, _ => absurd rfl h
  | [a], [], _, h => absurd rfl h
  | [a], b :: r, _, _ => rfl
  | a :: b :: r, B, _, h => by
    have ih := adjJ_app (A := b :: r) (B := B) (by simp) h
    show jt (rE a) (lE b) :: adjJ ((b :: r) ++ B) = _
    rw [ih, last_cons (a := a) (r := b :: r) (by simp)]
    rfl
theorem mirR_ne {bs : List Bead} (h : bs ≠ []) : mirR bs ≠ [] := fun e => h (by have := congrArg List.length e; rw [mirR_len] at this; exact List.eq_nil_of_length_eq_zero this)
theorem mirR_cons (a : Bead) (r : List Bead) : mirR (a :: r) = mirR r ++ [mirB a] := by simp [mirR]
theorem last_mir {bs : List Bead} (h : bs ≠ []) : lastB (mirR bs) = mirB (firstB bs) := by
  cases bs with
  | nil => exact absurd rfl h
  | cons a r =>
    rw [mirR_cons, last_app (by simp)]
    rfl
theorem first_mir : ∀ {bs : List Bead}, bs ≠ [] → firstB (mirR bs) = mirB (lastB bs)
  | [], h => absurd rfl h
  | [a], _ => rfl
  | a :: b :: r, _ => by
    rw [mirR_cons, first_app (mirR_ne (by simp)), first_mir (bs := b :: r) (by simp), last_cons (a := a) (r := b :: r) (by simp)]
theorem lE_mir (b : Bead) : lE (mirB b) = rE b := by
  obtain ⟨t, z⟩ := b
  cases t <;> rfl
theorem rE_mir (b : Bead) : rE (mirB b) = lE b := by
  obtain ⟨t, z⟩ := b
  cases t <;> rfl
theorem adjJ_mir : ∀ bs : List Bead, adjJ (mirR bs) = (adjJ bs).reverse
  | [] => rfl
  | [a] => rfl
  | a :: b :: r => by
    have ih := adjJ_mir (b :: r)
    rw [mirR_cons, adjJ_app (mirR_ne (by simp)) (by simp), ih, last_mir (by simp), adjJ_cons, List.reverse_cons]
    show _ ++ jt (rE (mirB b)) (lE (mirB a)) :: [] = _
    rw [rE_mir, lE_mir, jt_comm (isE_l b) (isE_r a)]
theorem strJ_mir {s : Strand} (h : s.2 ≠ []) : (strJ (s.1, mirR s.2)).Perm (strJ s) := by
  unfold strJ
  rw [adjJ_mir]
  refine List.Perm.append (List.reverse_perm _) ?_
  unfold closeJ
  show List.Perm (if s.1 = true then [jt (rE (lastB (mirR s.2))) (lE (firstB (mirR s.2)))] else [.tuple [lE (firstB (mirR s.2))], .tuple [rE (lastB (mirR s.2))]]) _
  rw [last_mir h, first_mir h, rE_mir, lE_mir, jt_comm (isE_l _) (isE_r _)]
  split
  · exact List.Perm.refl _
  · exact List.Perm.swap _ _ _
theorem strJ_rot {A B : List Bead} : (strJ (true, B ++ A)).Perm (strJ (true, A ++ B)) := by
  by_cases ha : A = []
  · subst ha
    rw [List.append_nil, List.nil_append]
  by_cases hb : B = []
  · subst hb
    rw [List.append_nil, List.nil_append]
  show List.Perm (adjJ (B ++ A) ++ [jt (rE (lastB (B ++ A))) (lE (firstB (B ++ A)))]) (adjJ (A ++ B) ++ [jt (rE (lastB (A ++ B))) (lE (firstB (A ++ B)))])
  rw [adjJ_app hb ha, adjJ_app ha hb, last_app ha, last_app hb, first_app ha, first_app hb]
  have e1 : ∀ (x y : D) (P Q : List D), (P ++ x :: Q ++ [y]) = (P ++ [x]) ++ (Q ++ [y]) := fun x y P Q => by simp
  rw [e1, e1]
  exact List.perm_append_comm
theorem Rst.perm {s t : Strand} (h : Rst s t) (hs : s.2 ≠ []) : (strJ t).Perm (strJ s) ∧ (t.2.map Prod.snd).Perm (s.2.map Prod.snd) := by
  obtain ⟨hk, r, hr, ht⟩ := h
  obtain ⟨k, bs⟩ := s
  obtain ⟨k2, cs⟩ := t
  have hk : k2 = k := hk
  subst hk
  have h1 : (strJ (k2, r)).Perm (strJ (k2, bs)) ∧ (r.map Prod.snd).Perm (bs.map Prod.snd) ∧ r ≠ [] := by
    rcases hr with rfl | ⟨hk, n, hn, rfl⟩
    · exact ⟨List.Perm.refl _, List.Perm.refl _, hs⟩
    · have hk : k2 = true := hk
      subst hk
      refine ⟨?_, ?_, fun e => hs ?_⟩
      · have := strJ_rot (A := bs.take n) (B := bs.drop n)
        rw [List.take_append_drop] at this
        exact this
      · refine List.Perm.map _ ?_
        have := List.perm_append_comm (l₁ := bs.drop n) (l₂ := bs.take n)
        rw [List.take_append_drop] at this
        exact this
      · have e : bs.drop n ++ bs.take n = [] := e
        have hn : n ≤ bs.length := hn
        have := congrArg List.length e
        rw [List.length_append, List.length_drop, List.length_take, List.length_nil] at this
        exact List.eq_nil_of_length_eq_zero (show bs.length = 0 by omega)
  have ht : cs = r ∨ cs = mirR r := ht
  rcases ht with rfl | rfl
  · exact ⟨h1.1, h1.2.1⟩
  · refine ⟨(strJ_mir (s := (k2, r)) h1.2.2).trans h1.1, ?_⟩
    show (List.map Prod.snd (mirR r)).Perm _
    rw [mirR_snd]
    exact (List.reverse_perm _).trans h1.2.1
theorem All2.len {α β : Type} {R : α → β → Prop} : ∀ {as : List α} {bs : List β}, All2 R as bs → as.length = bs.length
  | _, _, .nil => rfl
  | _, _, .cons _ r => by rw [List.length_cons, List.length_cons, r.len]
end Sw

open PySem PySem.Spec L2 Sw
namespace Sw
def Rot (c d : List Bead) : Prop := ∃ A B, c = A ++ B ∧ d = B ++ A
theorem Rot.refl (c : List Bead) : Rot c c := ⟨[], c, rfl, by simp⟩
theorem Rot.symm {c d : List Bead} (h : Rot c d) : Rot d c := by
  obtain ⟨A, B, rfl, rfl⟩ := h
  exact ⟨B, A, rfl, rfl⟩
theorem Rot.trans {c d e : List Bead} (h : Rot c d) (g : Rot d e) : Rot c e := by
  obtain ⟨A, B, rfl, rfl⟩ := h
  obtain ⟨C, D, h1, rfl⟩ := g
  rcases List.append_eq_append_iff.mp h1 with ⟨E, rfl, rfl⟩ | ⟨E, rfl, rfl⟩
  · exact ⟨E, D ++ B, by simp, by simp⟩
  · exact ⟨A ++ C, E, by simp, by simp⟩
theorem mirR_app (A B : List Bead) : mirR (A ++ B) = mirR B ++ mirR A := by simp [mirR]
theorem Rot.mir {c d : List Bead} (h : Rot c d) : Rot (mirR c) (mirR d) := by
  obtain ⟨A, B, rfl, rfl⟩ := h
  exact ⟨mirR B, mirR A, mirR_app A B, mirR_app B A⟩
theorem Rot.perm {c d : List Bead} (h : Rot c d) : d.Perm c := by
  obtain ⟨A, B, rfl, rfl⟩ := h
  exact List.perm_append_comm
/-- the same ring -/
def Cyc (c d : List Bead) : Prop := Rot c d ∨ Rot (mirR c) d
theorem Cyc.refl (c : List Bead) : Cyc c c := .inl (Rot.refl c)
theorem Cyc.symm {c d : List Bead} (h : Cyc c d) : Cyc d c := by
  rcases h with h | h
  · exact .inl h.symm
  · have := h.mir.symm
    rw [mirR_mirR] at this
    exact .inr this
theorem Cyc.trans {c d e : List Bead} (h : Cyc c d) (g : Cyc d e) : Cyc c e := by
  rcases h with h | h
  · rcases g with g | g
    · exact .inl (h.trans g)
    · exact .inr (h.mir.trans g)
  · rcases g with g | g
    · exact .inr (h.trans g)
    · have := h.mir.trans g
      rw [mirR_mirR] at this
      exact .inl this
theorem Cyc.names {c d : List Bead} (h : Cyc c d) : (d.map Prod.snd).Perm (c.map Prod.snd) := by
  rcases h with h | h
  · exact h.perm.map _
  · refine (h.perm.map _).trans ?_
    rw [mirR_snd]
    exact List.reverse_perm _
end Sw

open PySem PySem.Spec L2 Sw
namespace Sw
theorem shaped_str {z : Str} (h : Low z) : SeqAt.shaped (.str z) = true := by
  unfold SeqAt.shaped
  rw [Bool.and_eq_true]
  refine ⟨?_, by rw [decide_eq_true_eq]; simp [PyData.depth]⟩
  show (z.cps.all fun c => decide (c < 0x110000)) = true
  rw [← Array.all_toList, List.all_eq_true]
  intro c hc
  have := h c hc
  exact decide_eq_true (by omega)
end Sw

open PySem PySem.Spec L2 Sw
namespace Sw
structure EqS (s t : Strand) : Prop where
  kind : t.1 = s.1
  op : s.1 = false → t.2 = s.2 ∨ t.2 = mirR s.2
  ri : s.1 = true → Cyc s.2 t.2
theorem EqS.refl (s : Strand) : EqS s s := ⟨rfl, fun _ => .inl rfl, fun _ => Cyc.refl _⟩
theorem EqS.symm {s t : Strand} (h : EqS s t) : EqS t s := by
  refine ⟨h.kind.symm, fun e => ?_, fun e => (h.ri (h.kind ▸ e)).symm⟩
  rcases h.op (h.kind ▸ e) with q | q
  · exact .inl q.symm
  · refine .inr ?_
    rw [q, mirR_mirR]
theorem EqS.trans {s t u : Strand} (h : EqS s t) (g : EqS t u) : EqS s u := by
  refine ⟨g.kind.trans h.kind, fun e => ?_, fun e => (h.ri e).trans (g.ri (h.kind.trans e))⟩
  rcases h.op e with q | q
  · rcases g.op (h.kind.trans e) with r | r
    · exact .inl (r.trans q)
    · exact .inr (by rw [r, q])
  · rcases g.op (h.kind.trans e) with r | r
    · exact .inr (r.trans q)
    · exact .inl (by rw [r, q, mirR_mirR])
def Equ (ss ts : List Strand) : Prop := ∃ us, us.Perm ss ∧ All2 EqS us ts
theorem All2.mono {α β : Type} {R S : α → β → Prop} (h : ∀ a b, R a b → S a b) : ∀ {as : List α} {bs : List β}, All2 R as bs → All2 S as bs
  | _, _, .nil => .nil
  | _, _, .cons a r => .cons (h _ _ a) (r.mono h)
theorem All2.flip {α β : Type} {R : α → β → Prop} : ∀ {as : List α} {bs : List β}, All2 R as bs → All2 (fun b a => R a b) bs as
  | _, _, .nil => .nil
  | _, _, .cons a r => .cons a r.flip
theorem All2.comp {α β γ : Type} {R : α → β → Prop} {S : β → γ → Prop} {T : α → γ → Prop} (h : ∀ a b c, R a b → S b c → T a c) : ∀ {as : List α} {bs : List β} {cs : List γ}, All2 R as bs → All2 S bs cs → All2 T as cs
  | _, _, _, .nil, .nil => .nil
  | _, _, _, .cons a r, .cons b q => .cons (h _ _ _ a b) (r.comp h q)
theorem All2.app {α β : Type} {R : α → β → Prop} : ∀ {as as' : List α} {bs bs' : List β}, All2 R as bs → All2 R as' bs' → All2 R (as ++ as') (bs ++ bs')
  | _, _, _, _, .nil, q => q
  | _, _, _, _, .cons a r, q => .cons a (r.app q)
/-- the second row may be put in any order -/
theorem All2.perm {α β : Type} {R : α → β → Prop} {bs cs : List β} (p : bs.Perm cs) : ∀ {as : List α}, All2 R as bs → ∃ ds, ds.Perm as ∧ All2 R ds cs := by
  induction p with
  | nil => intro as h; exact ⟨as, List.Perm.refl _, h⟩
  | cons x p ih =>
    intro as h
    cases h with
    | cons a r =>
      obtain ⟨ds, h1, h2⟩ := ih r
      exact ⟨_ :: ds, h1.cons _, .cons a h2⟩
  | swap x y l =>
    intro as h
    cases h with
    | cons a r =>
      cases r with
      | cons b r => exact ⟨_ :: _ :: _, List.Perm.swap _ _ _, .cons b (.cons a r)⟩
  | trans p q ih1 ih2 =>
    intro as h
    obtain ⟨ds, h1, h2⟩ := ih1 h
    obtain ⟨es, h3, h4⟩ := ih2 h2
    exact ⟨es, h3.trans h1, h4⟩
theorem Equ.refl (ss : List Strand) : Equ ss ss := by
  refine ⟨ss, List.Perm.refl _, ?_⟩
  induction ss with
  | nil => exact .nil
  | cons s r ih => exact .cons (EqS.refl s) ih
theorem Equ.symm {ss ts : List Strand} (h : Equ ss ts) : Equ ts ss := by
  obtain ⟨us, p, h⟩ := h
  exact (h.flip.mono fun _ _ q => EqS.symm q).perm p
theorem Equ.trans {ss ts vs : List Strand} (h : Equ ss ts) (g : Equ ts vs) : Equ ss vs := by
  obtain ⟨us, p, h⟩ := h
  obtain ⟨ws, q, g⟩ := g
  obtain ⟨xs, h1, h2⟩ := h.perm q.symm
  exact ⟨xs, h1.trans p, All2.comp (R := EqS) (S := EqS) (T := EqS) (fun _ _ _ a b => a.trans b) h2 g⟩
theorem rot_rst {b : Bool} {c d : List Bead} (h : Rot c d) : Rst (true, c) (true, d) := by
  obtain ⟨A, B, rfl, rfl⟩ := h
  refine ⟨rfl, B ++ A, .inr ⟨rfl, A.length, ?_, ?_⟩, .inl rfl⟩
  · show A.length ≤ (A ++ B).length
    rw [List.length_append]; omega
  · show B ++ A = (A ++ B).drop A.length ++ (A ++ B).take A.length
    rw [List.drop_left, List.take_left]
theorem EqS.perm {s t : Strand} (h : EqS s t) (hs : s.2 ≠ []) : (strJ t).Perm (strJ s) ∧ (t.2.map Prod.snd).Perm (s.2.map Prod.snd) := by
  obtain ⟨k, bs⟩ := s
  obtain ⟨k2, cs⟩ := t
  have hk : k2 = k := h.kind
  subst hk
  cases k2 with
  | false => exact Rst.perm ⟨rfl, bs, .inl rfl, h.op rfl⟩ hs
  | true =>
    rcases h.ri rfl with q | q
    · exact (rot_rst (b := true) q).perm hs
    · have h1 := (rot_rst (b := true) q).perm (mirR_ne hs)
      have h2 : (strJ (true, mirR bs)).Perm (strJ (true, bs)) := strJ_mir (s := (true, bs)) hs
      refine ⟨h1.1.trans h2, h1.2.trans ?_⟩
      show ((mirR bs).map Prod.snd).Perm (bs.map Prod.snd)
      rw [mirR_snd]
      exact List.reverse_perm _
end Sw

open PySem PySem.Spec L2 Sw
namespace Sw
def FormO (bs : List Bead) : Prop := (bs.length = 1 → (firstB bs).1 = false) ∧ (1 < bs.length → ltS (lastB bs).2 (firstB bs).2 = false)
def FormR (bs : List Bead) : Prop := (firstB bs).1 = false ∧ ∀ b ∈ bs, leS (firstB bs).2 b.2
def FormS (s : Strand) : Prop := (s.1 = false → FormO s.2) ∧ (s.1 = true → FormR s.2)
end Sw

open PySem PySem.Spec L2 Sw
namespace Sw
def fnm (bs : List Bead) : Str := (firstB bs).2
def leK (s t : Strand) : Prop := (s.1 = false ∧ t.1 = true) ∨ (s.1 = t.1 ∧ leS (fnm s.2) (fnm t.2))
end Sw

open PySem PySem.Spec L2 Sw
namespace Sw

end Sw

open PySem PySem.Spec L2 Sw
namespace Sw

end Sw

open PySem PySem.Spec L2 Sw
namespace Sw

end Sw

open PySem PySem.Spec L2 Sw
namespace Sw

end Sw

open PySem PySem.Spec L2 Sw
namespace Sw
def tupE : D → List D
  | .tuple es => es
  | _ => []
def lr (b : Bead) : List D := [lE b, rE b]
theorem adj_ends : ∀ {bs : List Bead}, bs ≠ [] → (lE (firstB bs) :: ((adjJ bs).flatMap tupE ++ [rE (lastB bs)])).Perm (bs.flatMap lr)
  | [], h => absurd rfl h
  | [a], _ => List.Perm.refl _
  | a :: b :: r, _ => by
    have ih := adj_ends (bs := b :: r) (by simp)
    rw [adjJ_cons, last_cons (a := a) (r := b :: r) (by simp)]
    show (lE a :: (tupE (jt (rE a) (lE b)) ++ (adjJ (b :: r)).flatMap tupE ++ [rE (lastB (b :: r))])).Perm (lE a :: rE a :: (b :: r).flatMap lr)
    refine List.Perm.cons _ ?_
    have h1 : (tupE (jt (rE a) (lE b))).Perm [rE a, lE b] := srtD_perm _
    rw [List.append_assoc]
    exact (h1.append_right _).trans (ih.cons _)
theorem str_ends {s : Strand} (h : s.2 ≠ []) : ((strJ s).flatMap tupE).Perm (s.2.flatMap lr) := by
  refine List.Perm.trans ?_ (adj_ends h)
  unfold strJ
  rw [List.flatMap_append]
  have hc : ((closeJ s).flatMap tupE).Perm ([rE (lastB s.2)] ++ [lE (firstB s.2)]) := by
    unfold closeJ
    split
    · have h1 : (tupE (jt (rE (lastB s.2)) (lE (firstB s.2)))).Perm [rE (lastB s.2), lE (firstB s.2)] := srtD_perm _
      simpa using h1
    · exact List.Perm.swap _ _ _
  refine (hc.append_left _).trans ?_
  rw [← List.append_assoc]
  exact List.perm_append_comm
theorem jts_ends : ∀ {ss : List Strand}, (∀ s ∈ ss, s.2 ≠ []) → ((jts ss).flatMap tupE).Perm ((beadsOf ss).flatMap lr)
  | [], _ => List.Perm.refl _
  | s :: r, h => by
    show ((strJ s ++ jts r).flatMap tupE).Perm ((s.2 ++ beadsOf r).flatMap lr)
    rw [List.flatMap_append, List.flatMap_append]
    exact (str_ends (h s List.mem_cons_self)).append (jts_ends fun x hx => h x (List.mem_cons_of_mem _ hx))
theorem two_maps {α : Type} {f g : α → D} : ∀ xs : List α, (xs.flatMap fun x => [f x, g x]).Perm (xs.map f ++ xs.map g)
  | [] => List.Perm.refl _
  | x :: r => by
    show (f x :: g x :: r.flatMap fun x => [f x, g x]).Perm (f x :: (r.map f ++ g x :: r.map g))
    refine List.Perm.cons _ ?_
    refine ((two_maps r).cons _).trans ?_
    exact List.perm_middle.symm
theorem lr_ends : ∀ bs : List Bead, (bs.flatMap lr).Perm ((bs.map Prod.snd).flatMap fun z => [endD z 0, endD z 1])
  | [] => List.Perm.refl _
  | (t, z) :: r => by
    have ih := lr_ends r
    show (lr (t, z) ++ r.flatMap lr).Perm ([endD z 0, endD z 1] ++ _)
    refine List.Perm.append ?_ ih
    cases t with
    | false => exact List.Perm.refl _
    | true => exact List.Perm.swap _ _ _
theorem uniq_flat {f : D → List D} : ∀ {js : List D}, (js.flatMap f).Nodup → ∀ {i j : D}, i ∈ js → j ∈ js → ∀ {e : D}, e ∈ f i → e ∈ f j → i = j
  | [], _, _, _, h, _, _, _, _ => nomatch h
  | x :: r, h, i, j, hi, hj, e, h1, h2 => by
    have h : (f x ++ r.flatMap f).Nodup := h
    obtain ⟨_, h3, h4⟩ := List.nodup_append.mp h
    rcases List.mem_cons.mp hi with a | a
    · rcases List.mem_cons.mp hj with b | b
      · rw [a, b]
      · exfalso
        rw [a] at h1
        exact h4 e h1 e (List.mem_flatMap.mpr ⟨j, b, h2⟩) rfl
    · rcases List.mem_cons.mp hj with b | b
      · exfalso
        rw [b] at h2
        exact h4 e h2 e (List.mem_flatMap.mpr ⟨i, a, h1⟩) rfl
      · exact uniq_flat h3 a b h1 h2
theorem nodup_map_inj {α β : Type} {f : α → β} (hf : ∀ a b, f a = f b → a = b) : ∀ {xs : List α}, xs.Nodup → (xs.map f).Nodup
  | [], _ => List.nodup_nil
  | x :: r, h => by
    obtain ⟨h1, h2⟩ := List.nodup_cons.mp h
    rw [List.map_cons, List.nodup_cons]
    refine ⟨fun hm => ?_, nodup_map_inj hf h2⟩
    obtain ⟨y, hy, e⟩ := List.mem_map.mp hm
    exact h1 (hf _ _ e ▸ hy)
theorem endD_inj {z w : Str} {s t : Int} (h : endD z s = endD w t) : z = w ∧ s = t := by
  unfold endD at h
  injection h with h
  injection h with h1 h
  injection h1 with h1
  injection h with h2 _
  injection h2 with h2
  exact ⟨h1, h2⟩
theorem ends_nodup {ns : List Str} (h : ns.Nodup) : (ns.map (fun z => endD z 0) ++ ns.map fun z => endD z 1).Nodup := by
  refine List.nodup_append.mpr ⟨nodup_map_inj (fun a b e => (endD_inj e).1) h, nodup_map_inj (fun a b e => (endD_inj e).1) h, fun a ha b hb e => ?_⟩
  obtain ⟨z, _, rfl⟩ := List.mem_map.mp ha
  obtain ⟨w, _, rfl⟩ := List.mem_map.mp hb
  have := (endD_inj e).2
  omega
theorem all_ends' {ss : List Strand} {ns : List Str} (h : ∀ s ∈ ss, s.2 ≠ []) (p : ((beadsOf ss).map Prod.snd).Perm ns) : ((jts ss).flatMap tupE).Perm (ns.map (fun z => endD z 0) ++ ns.map fun z => endD z 1) :=
  (jts_ends h).trans ((lr_ends _).trans ((p.flatMap_right _).trans (two_maps ns)))
/-- two joints with one end are one -/
structure JN (J : D → Prop) : Prop where
  uniq : ∀ {i j e : D}, J i → J j → e ∈ tupE i → e ∈ tupE j → i = j
end Sw

open PySem PySem.Spec L2 Sw
namespace Sw

end Sw

open PySem PySem.Spec L2 Sw
namespace Sw
/-- texts, numbers, and tuples and lists of such, n deep -/
def Hn : Nat → D → Prop
  | _, .str _ => True
  | _, .int _ => True
  | n + 1, .tuple ds => ∀ d ∈ ds, Hn n d
  | n + 1, .list ds => ∀ d ∈ ds, Hn n d
  | _, _ => False
theorem eqvAll_of {n : Nat} (ih : ∀ a b, Hn n a → Hn n b → (PyData.eqv a b = true ↔ a = b)) : ∀ (xs ys : List D), (∀ d ∈ xs, Hn n d) → (∀ d ∈ ys, Hn n d) → (PyData.eqvAll xs ys = true ↔ xs = ys)
  | [], [], _, _ => by simp [PyData.eqvAll]
  | [], _ :: _, _, _ => by simp [PyData.eqvAll]
  | _ :: _, [], _, _ => by simp [PyData.eqvAll]
  | x :: xs, y :: ys, h, h' => by
    rw [PyData.eqvAll, Bool.and_eq_true, ih x y (h x List.mem_cons_self) (h' y List.mem_cons_self), eqvAll_of ih xs ys (fun d hd => h d (List.mem_cons_of_mem _ hd)) fun d hd => h' d (List.mem_cons_of_mem _ hd)]
    simp
theorem eqv_hn : ∀ (n : Nat) (a b : D), Hn n a → Hn n b → (PyData.eqv a b = true ↔ a = b) := fun n => by
  induction n with
  | zero =>
    intro a b ha hb
    cases a <;> first
      | exact ha.elim
      | (cases b <;> first
          | exact hb.elim
          | simp [PyData.eqv])
  | succ n ih =>
    intro a b ha hb
    cases a <;> first
      | exact ha.elim
      | (cases b <;> first
          | exact hb.elim
          | (rw [PyData.eqv, eqvAll_of ih _ _ ha hb]; simp; done)
          | simp [PyData.eqv])
theorem plain_all {n : Nat} : ∀ ys : List D, (∀ d ∈ ys, d.plain = true ∧ d.depth ≤ n) → PyData.plainAll ys = true ∧ PyData.depthAll ys ≤ n
  | [], _ => ⟨rfl, Nat.zero_le _⟩
  | y :: r, g => by
    obtain ⟨a, b⟩ := plain_all r fun d hd => g d (List.mem_cons_of_mem _ hd)
    obtain ⟨c, e⟩ := g y List.mem_cons_self
    refine ⟨by rw [PyData.plainAll, c, a]; rfl, ?_⟩
    rw [PyData.depthAll]
    omega
theorem Hn.plainD : ∀ (n : Nat) (d : D), Hn n d → d.plain = true ∧ d.depth ≤ n := fun n => by
  induction n with
  | zero => intro d h; cases d <;> first | exact h.elim | exact ⟨rfl, by simp [PyData.depth]⟩
  | succ n ih =>
    intro d h
    cases d <;> first
      | exact h.elim
      | exact ⟨rfl, by simp [PyData.depth]⟩
      | (obtain ⟨a, b⟩ := plain_all _ fun d hd => ih d (h d hd)
         refine ⟨a, ?_⟩
         rw [PyData.depth]
         omega)
theorem Hn.okD {n : Nat} {d : D} (h : Hn n d) (hn : n ≤ 39) : okD d = true := okD_of ⟨(Hn.plainD n d h).1, Nat.le_trans (Hn.plainD n d h).2 hn⟩
theorem gEq_hn {n : Nat} {a b : D} (neg : Bool) (ha : Hn n a) (hb : Hn n b) (hn : n ≤ 39) : gEq neg a b = some (.bool (if neg = true then !PyData.eqv a b else PyData.eqv a b)) := by
  unfold gEq
  rw [if_pos ⟨ha.okD hn, hb.okD hn⟩]
theorem eq_hn {n : Nat} {a b : D} {P : D → Prop} (ha : Hn n a) (hb : Hn n b) (hn : n ≤ 39) (h1 : a = b → P (.bool true)) (h2 : a ≠ b → P (.bool false)) : ∃ d, gEq false a b = some d ∧ P d := by
  refine ⟨_, gEq_hn false ha hb hn, ?_⟩
  rw [if_neg (by decide)]
  by_cases e : a = b
  · rw [(eqv_hn n a b ha hb).mpr e]; exact h1 e
  · have : PyData.eqv a b = false := by rw [← Bool.not_eq_true, eqv_hn n a b ha hb]; exact e
    rw [this]; exact h2 e
theorem ne_hn {n : Nat} {a b : D} {P : D → Prop} (ha : Hn n a) (hb : Hn n b) (hn : n ≤ 39) (h1 : a = b → P (.bool false)) (h2 : a ≠ b → P (.bool true)) : ∃ d, gEq true a b = some d ∧ P d := by
  refine ⟨_, gEq_hn true ha hb hn, ?_⟩
  rw [if_pos rfl]
  by_cases e : a = b
  · rw [(eqv_hn n a b ha hb).mpr e]; exact h1 e
  · have : PyData.eqv a b = false := by rw [← Bool.not_eq_true, eqv_hn n a b ha hb]; exact e
    rw [this]; exact h2 e
theorem hn_str (n : Nat) (z : Str) : Hn n (.str z) := by cases n <;> trivial
theorem hn_int (n : Nat) (z : Int) : Hn n (.int z) := by cases n <;> trivial
theorem hn_E {x : D} (h : IsE x) (n : Nat) : Hn (n + 1) x := by
  obtain ⟨z, s, rfl⟩ := h
  intro d hd
  rcases List.mem_cons.mp hd with rfl | hd
  · exact hn_str _ _
  · rw [List.mem_singleton.mp hd]
    exact hn_int _ _
theorem hn_J {x : D} (h : IsJ x) (n : Nat) : Hn (n + 2) x := by
  obtain ⟨es, rfl, h, _⟩ := h
  exact fun d hd => hn_E (h d hd) n
theorem srtD_mem {js : List D} {j : D} : j ∈ srtD js ↔ j ∈ js := (srtD_perm js).mem_iff
end Sw

open PySem PySem.Spec L2 Sw
namespace Sw
theorem atI_map {α : Type} {f : α → D} {xs : List α} {n : Nat} {x : α} (h : xs[n]? = some x) : atI (xs.map f) (n : Int) = some (f x) := by
  rw [atI_at (by omega), Int.toNat_natCast, List.getElem?_map, h]
  rfl
end Sw

open PySem PySem.Spec L2 Sw
namespace Sw
theorem cutD_mid {ds : List D} {n m : Nat} (h : n ≤ m) (h2 : m ≤ ds.length) : cutD ds (some (n : Int)) (some (m : Int)) = (ds.drop n).take (m - n) := by
  unfold cutD
  have e : ∀ (k dd : Nat), k ≤ ds.length → HT.sIx ds.length dd (some (k : Int)) = k := fun k dd hk => by
    simp only [HT.sIx]
    rw [if_neg (by omega)]
    omega
  rw [e n _ (by omega), e m _ h2]
/-- the strands in work: none without beads, the names those told -/
structure Near (rings : Bool) (ss us : List Strand) : Prop where
  ne : ∀ u ∈ us, u.2 ≠ []
  pm : ((beadsOf us).map Prod.snd).Perm ((beadsOf ss).map Prod.snd)
  op : rings = false → (∀ s ∈ ss, s.1 = false) → ∀ u ∈ us, u.1 = false
theorem bo_one (k : Bool) (bs : List Bead) : beadsOf [(k, bs)] = bs := by simp [beadsOf]
theorem near_perm {rings : Bool} {ss us vs : List Strand} (h : Near rings ss us) (p : vs.Perm us) : Near rings ss vs :=
  ⟨fun u hu => h.ne u (p.mem_iff.mp hu), ((p.flatMap_right _).map _).trans h.pm, fun a b u hu => h.op a b u (p.mem_iff.mp hu)⟩
theorem Near.len {rings : Bool} {ss us : List Strand} (h : Near rings ss us) (g : GoodS ss) : (beadsOf us).length ≤ 1000 ∧ us.length ≤ 1000 := by
  have hl := h.pm.length_eq
  rw [List.length_map, List.length_map] at hl
  have := beads_few us h.ne
  have := g.2.1
  omega
theorem Near.head {rings : Bool} {ss ws : List Strand} {k k' : Bool} {bs bs' : List Bead} (h : Near rings ss ((k, bs) :: ws)) (hne : bs' ≠ []) (hp : (bs'.map Prod.snd).Perm (bs.map Prod.snd)) (hk : rings = false → k = false → k' = false) : Near rings ss ((k', bs') :: ws) := by
  refine ⟨fun u hu => ?_, ?_, fun a b u hu => ?_⟩
  · rcases List.mem_cons.mp hu with rfl | hu
    · exact hne
    · exact h.ne u (List.mem_cons_of_mem _ hu)
  · have h1 : ((bs ++ beadsOf ws).map Prod.snd).Perm ((beadsOf ss).map Prod.snd) := h.pm
    show ((bs' ++ beadsOf ws).map Prod.snd).Perm _
    rw [List.map_append] at h1 ⊢
    exact (hp.append_right _).trans h1
  · rcases List.mem_cons.mp hu with rfl | hu
    · exact hk a (h.op a b _ List.mem_cons_self)
    · exact h.op a b u (List.mem_cons_of_mem _ hu)
theorem Near.cut {rings : Bool} {ss ws : List Strand} {k : Bool} {bs : List Bead} (h : Near rings ss ((k, bs) :: ws)) {m : Nat} (h0 : 0 < m) (h1 : m < bs.length) : Near rings ss ((false, bs.drop m) :: (ws ++ [(false, bs.take m)])) := by
  refine ⟨fun u hu => ?_, ?_, fun a b u hu => ?_⟩
  · rcases List.mem_cons.mp hu with rfl | hu
    · exact fun e => by
        have e : bs.drop m = [] := e
        have := congrArg List.length e
        rw [List.length_drop, List.length_nil] at this
        omega
    · rcases List.mem_append.mp hu with hu | hu
      · exact h.ne u (List.mem_cons_of_mem _ hu)
      · rw [List.mem_singleton.mp hu]
        exact fun e => by
          have e : bs.take m = [] := e
          have := congrArg List.length e
          rw [List.length_take, List.length_nil] at this
          omega
  · have h2 : ((bs ++ beadsOf ws).map Prod.snd).Perm ((beadsOf ss).map Prod.snd) := h.pm
    refine List.Perm.trans ?_ h2
    refine List.Perm.map _ ?_
    show (bs.drop m ++ beadsOf (ws ++ [(false, bs.take m)])).Perm _
    rw [beadsOf_app, bo_one]
    have e : bs.take m ++ bs.drop m = bs := List.take_append_drop m bs
    conv => rhs; rw [← e]
    have p1 : (bs.drop m ++ (beadsOf ws ++ bs.take m)).Perm ((beadsOf ws ++ bs.take m) ++ bs.drop m) := List.perm_append_comm
    refine p1.trans ?_
    rw [List.append_assoc, e]
    exact List.perm_append_comm
  · rcases List.mem_cons.mp hu with rfl | hu
    · rfl
    · rcases List.mem_append.mp hu with hu | hu
      · exact h.op a b u (List.mem_cons_of_mem _ hu)
      · rw [List.mem_singleton.mp hu]
theorem Near.join {rings : Bool} {ss ws vs : List Strand} {k : Bool} {bs : List Bead} {v : Strand} (h : Near rings ss ((k, bs) :: ws)) (p : (v :: vs).Perm ws) : Near rings ss ((k, bs ++ v.2) :: vs) := by
  have h' := near_perm h (p.cons (k, bs))
  refine ⟨fun u hu => ?_, ?_, fun a b u hu => ?_⟩
  · rcases List.mem_cons.mp hu with rfl | hu
    · exact fun e => h.ne _ List.mem_cons_self (List.append_eq_nil_iff.mp e).1
    · exact h'.ne u (List.mem_cons_of_mem _ (List.mem_cons_of_mem _ hu))
  · have h2 : ((bs ++ (v.2 ++ beadsOf vs)).map Prod.snd).Perm ((beadsOf ss).map Prod.snd) := h'.pm
    show (((bs ++ v.2) ++ beadsOf vs).map Prod.snd).Perm _
    rw [List.append_assoc]
    exact h2
  · rcases List.mem_cons.mp hu with rfl | hu
    · exact h'.op a b (k, bs) List.mem_cons_self
    · exact h'.op a b u (List.mem_cons_of_mem _ (List.mem_cons_of_mem _ hu))
end Sw

open PySem PySem.Spec L2 Sw
namespace Sw
theorem eqv_E {x y : D} (hx : IsE x) (hy : IsE y) : PyData.eqv x y = true ↔ x = y := eqv_hn 1 x y (hn_E hx 0) (hn_E hy 0)
/-- a joint of one end or of two -/
inductive Jt : D → Prop
  | one {x : D} (h : IsE x) : Jt (.tuple [x])
  | two {x y : D} (h : IsE x) (g : IsE y) : Jt (.tuple [x, y])
def jP : D → List (D × D)
  | .tuple [x] => [(x, .none)]
  | .tuple [x, y] => [(x, y), (y, x)]
  | _ => []
theorem jP_keys {j : D} (h : Jt j) : (jP j).map Prod.fst = tupE j := by cases h <;> rfl
theorem jP_isE {j : D} (h : Jt j) : ∀ p ∈ jP j, IsE p.1 := fun p hp => by
  cases h with
  | one h => rw [List.mem_singleton.mp hp]; exact h
  | two h g =>
    rcases List.mem_cons.mp hp with rfl | hp
    · exact h
    · rw [List.mem_singleton.mp hp]; exact g
theorem jPs_keys {js : List D} (h : ∀ j ∈ js, Jt j) : (js.flatMap jP).map Prod.fst = js.flatMap tupE := by
  induction js with
  | nil => rfl
  | cons j r ih =>
    show ((jP j ++ r.flatMap jP).map Prod.fst) = tupE j ++ r.flatMap tupE
    rw [List.map_append, jP_keys (h j List.mem_cons_self), ih fun x hx => h x (List.mem_cons_of_mem _ hx)]
theorem jPs_isE {js : List D} (h : ∀ j ∈ js, Jt j) : ∀ p ∈ js.flatMap jP, IsE p.1 := fun p hp => by
  obtain ⟨j, hj, hp⟩ := List.mem_flatMap.mp hp
  exact jP_isE (h j hj) p hp
end Sw

open PySem PySem.Spec L2 Sw
namespace Sw
abbrev En := Str × Bool
def eD (e : En) : D := endD e.1 (if e.2 = true then 1 else 0)
def bdE (e : En) : Bead := (e.2, e.1)
theorem isE_en (e : En) : IsE (eD e) := ⟨_, _, rfl⟩
def pvD : Option En → D
  | none => .none
  | some f => eD f
theorem sWh_abs {c : PT'} {B : PS'} {Dp : PEnds} {env : List SV} (h : ∀ B', B' = B → sWh c B' Dp env) : sWh c B Dp env := h B rfl
theorem sFor_abs {I : PI'} {G : TG'} {B : PS'} {Dp : PEnds} {env : List SV} (h : ∀ B', B' = B → sFor I G B' Dp env) : sFor I G B Dp env := h B rfl
theorem nodup_few {α : Type} [BEq α] [LawfulBEq α] : ∀ {xs ys : List α}, xs.Nodup → (∀ x ∈ xs, x ∈ ys) → xs.length ≤ ys.length
  | [], _, _, _ => Nat.zero_le _
  | x :: r, ys, h, hs => by
    obtain ⟨h1, h2⟩ := List.nodup_cons.mp h
    have hx := hs x List.mem_cons_self
    have ih := nodup_few (xs := r) (ys := ys.erase x) h2 fun y hy => (List.mem_erase_of_ne (fun e : y = x => h1 (e ▸ hy))).mpr (hs y (List.mem_cons_of_mem _ hy))
    rw [List.length_erase_of_mem hx] at ih
    have : 0 < ys.length := List.length_pos_of_mem hx
    rw [List.length_cons]
    omega
end Sw

open PySem PySem.Spec L2 Sw
namespace Sw
/-- joints, each sorted, in which each end of some names stands once -/
structure JsOk (ns : List Str) (js : List D) : Prop where
  form : ∀ j ∈ js, Jt j
  srt : ∀ j ∈ js, j = .tuple (srtD (tupE j))
  all : (js.flatMap tupE).Perm (ns.map (fun z => endD z 0) ++ ns.map fun z => endD z 1)
theorem JsOk.perm {ns : List Str} {js ks : List D} (h : JsOk ns js) (p : ks.Perm js) : JsOk ns ks :=
  ⟨fun j hj => h.form j (p.mem_iff.mp hj), fun j hj => h.srt j (p.mem_iff.mp hj), (p.flatMap_right _).trans h.all⟩
theorem JsOk.nod {ns : List Str} {js : List D} (h : JsOk ns js) (hn : ns.Nodup) : (js.flatMap tupE).Nodup := h.all.nodup_iff.mpr (ends_nodup hn)
theorem JsOk.mem {ns : List Str} {js : List D} (h : JsOk ns js) {x : D} : x ∈ js.flatMap tupE ↔ ∃ e : En, e.1 ∈ ns ∧ x = eD e := by
  rw [h.all.mem_iff, List.mem_append]
  constructor
  · rintro (hx | hx)
    · obtain ⟨z, hz, rfl⟩ := List.mem_map.mp hx
      exact ⟨(z, false), hz, rfl⟩
    · obtain ⟨z, hz, rfl⟩ := List.mem_map.mp hx
      exact ⟨(z, true), hz, rfl⟩
  · rintro ⟨⟨z, b⟩, hz, rfl⟩
    cases b with
    | false => exact .inl (List.mem_map_of_mem (f := fun z => endD z 0) hz)
    | true => exact .inr (List.mem_map_of_mem (f := fun z => endD z 1) hz)
theorem jP_mem {j x v : D} (hj : Jt j) : (x, v) ∈ jP j ↔ (j = .tuple [x] ∧ v = .none) ∨ j = .tuple [x, v] ∧ IsE v ∨ j = .tuple [v, x] ∧ IsE v := by
  cases hj with
  | @one a ha =>
    simp only [jP, List.mem_singleton, Prod.mk.injEq, PyData.tuple.injEq, List.cons.injEq, and_true]
    constructor
    · rintro ⟨rfl, rfl⟩; exact .inl ⟨rfl, rfl⟩
    · rintro (⟨rfl, rfl⟩ | ⟨⟨_, h⟩, _⟩ | ⟨⟨_, h⟩, _⟩)
      · exact ⟨rfl, rfl⟩
      · cases h
      · cases h
  | @two a b ha hb =>
    simp only [jP, List.mem_cons, List.mem_singleton, Prod.mk.injEq, PyData.tuple.injEq, List.cons.injEq, and_true, List.not_mem_nil, or_false]
    constructor
    · rintro (⟨rfl, rfl⟩ | ⟨rfl, rfl⟩)
      · exact .inr (.inl ⟨⟨rfl, rfl⟩, hb⟩)
      · exact .inr (.inr ⟨⟨rfl, rfl⟩, ha⟩)
    · rintro (⟨⟨_, h⟩, _⟩ | ⟨⟨rfl, rfl⟩, _⟩ | ⟨⟨rfl, rfl⟩, _⟩)
      · cases h
      · exact .inl ⟨rfl, rfl⟩
      · exact .inr ⟨rfl, rfl⟩
/-- a look-up among unlike ends -/
theorem lookE_iff {x v : D} (hx : IsE x) : ∀ {kds : List (D × D)}, (∀ p ∈ kds, IsE p.1) → (kds.map Prod.fst).Nodup → (lookD kds x = some v ↔ (x, v) ∈ kds)
  | [], _, _ => by simp [lookD_nil]
  | p :: r, hk, hn => by
    rw [List.map_cons, List.nodup_cons] at hn
    have ih := lookE_iff (v := v) hx (kds := r) (fun q hq => hk q (List.mem_cons_of_mem _ hq)) hn.2
    rw [lookD_cons]
    by_cases e : p.1 = x
    · rw [if_pos ((eqv_E (hk p List.mem_cons_self) hx).mpr e)]
      constructor
      · intro h
        cases h
        rw [← e]
        exact List.mem_cons_self
      · intro h
        rcases List.mem_cons.mp h with h | h
        · rw [← h]
        · exact absurd (by rw [e]; exact List.mem_map_of_mem (f := Prod.fst) h) hn.1
    · rw [if_neg (fun h => e ((eqv_E (hk p List.mem_cons_self) hx).mp h)), ih]
      constructor
      · exact fun h => List.mem_cons_of_mem _ h
      · intro h
        rcases List.mem_cons.mp h with h | h
        · exact absurd (by rw [← h]) e
        · exact h
def enOf : D → Option En
  | .tuple [.str z, .int s] => some (z, decide (s = 1))
  | _ => none
theorem enOf_eD (e : En) : enOf (eD e) = some e := by
  obtain ⟨z, b⟩ := e
  cases b <;> rfl
def pJ (js : List D) (e : En) : Option En := (lookD (js.flatMap jP) (eD e)).bind enOf
section
variable {ns : List Str} {js : List D}
theorem JsOk.look (h : JsOk ns js) (hn : ns.Nodup) {x v : D} (hx : IsE x) : lookD (js.flatMap jP) x = some v ↔ (x, v) ∈ js.flatMap jP :=
  lookE_iff hx (jPs_isE h.form) (by rw [jPs_keys h.form]; exact h.nod hn)
theorem JsOk.val (h : JsOk ns js) {x v : D} (hm : (x, v) ∈ js.flatMap jP) : v = .none ∨ ∃ f : En, f.1 ∈ ns ∧ v = eD f := by
  obtain ⟨j, hj, hp⟩ := List.mem_flatMap.mp hm
  rcases (jP_mem (h.form j hj)).mp hp with ⟨_, rfl⟩ | ⟨e, _⟩ | ⟨e, _⟩
  · exact .inl rfl
  · exact .inr (h.mem.mp (List.mem_flatMap.mpr ⟨j, hj, by rw [e]; simp [tupE]⟩))
  · exact .inr (h.mem.mp (List.mem_flatMap.mpr ⟨j, hj, by rw [e]; simp [tupE]⟩))
theorem JsOk.tot (h : JsOk ns js) (hn : ns.Nodup) {e : En} (he : e.1 ∈ ns) : lookD (js.flatMap jP) (eD e) = some (pvD (pJ js e)) := by
  have hk : eD e ∈ (js.flatMap jP).map Prod.fst := by rw [jPs_keys h.form]; exact h.mem.mpr ⟨e, he, rfl⟩
  obtain ⟨⟨x, v⟩, hm, e1⟩ := List.mem_map.mp hk
  have e1 : x = eD e := e1
  subst e1
  have hl := (h.look hn (isE_en e)).mpr hm
  have hp : pJ js e = enOf v := by unfold pJ; rw [hl]; rfl
  rw [hl, hp]
  rcases h.val hm with rfl | ⟨f, _, rfl⟩
  · rfl
  · rw [enOf_eD]; rfl
theorem JsOk.pj (h : JsOk ns js) (hn : ns.Nodup) {e f : En} (g : pJ js e = some f) : (eD e, eD f) ∈ js.flatMap jP ∧ f.1 ∈ ns := by
  unfold pJ at g
  cases q : lookD (js.flatMap jP) (eD e) with
  | none => rw [q] at g; cases g
  | some v =>
    rw [q] at g
    have hm := (h.look hn (isE_en e)).mp q
    rcases h.val hm with rfl | ⟨f', hf, rfl⟩
    · cases g
    · have g : enOf (eD f') = some f := g
      rw [enOf_eD] at g
      cases g
      exact ⟨hm, hf⟩
theorem JsOk.one (h : JsOk ns js) (hn : ns.Nodup) {e : En} (he : e.1 ∈ ns) (g : pJ js e = none) : .tuple [eD e] ∈ js := by
  have := h.tot hn he
  rw [g] at this
  obtain ⟨j, hj, hp⟩ := List.mem_flatMap.mp ((h.look hn (isE_en e)).mp this)
  rcases (jP_mem (h.form j hj)).mp hp with ⟨rfl, _⟩ | ⟨_, q⟩ | ⟨_, q⟩
  · exact hj
  · obtain ⟨_, _, q⟩ := q; cases q
  · obtain ⟨_, _, q⟩ := q; cases q
theorem JsOk.two (h : JsOk ns js) (hn : ns.Nodup) {e f : En} (g : pJ js e = some f) : jt (eD e) (eD f) ∈ js := by
  obtain ⟨hm, _⟩ := h.pj hn g
  obtain ⟨j, hj, hp⟩ := List.mem_flatMap.mp hm
  rcases (jP_mem (h.form j hj)).mp hp with ⟨_, e1⟩ | ⟨rfl, _⟩ | ⟨rfl, _⟩
  · cases e1
  · have := h.srt _ hj
    rw [this] at hj
    exact hj
  · have := h.srt _ hj
    rw [this] at hj
    rw [jt_comm (isE_en e) (isE_en f)]
    exact hj
theorem JsOk.uniq (h : JsOk ns js) (hn : ns.Nodup) : JN fun j => j ∈ js := ⟨fun hi hj h1 h2 => uniq_flat (h.nod hn) hi hj h1 h2⟩
/-- a set's own joints are such -/
theorem jsOk_jts {ss : List Strand} (h : ∀ s ∈ ss, s.2 ≠ []) (p : ((beadsOf ss).map Prod.snd).Perm ns) : JsOk ns (jts ss) := by
  have two : ∀ x y : D, IsE x → IsE y → Jt (jt x y) ∧ jt x y = .tuple (srtD (tupE (jt x y))) := fun x y hx hy => by
    have hp : (srtD [x, y]).Perm [x, y] := srtD_perm _
    have e : srtD (srtD [x, y]) = srtD [x, y] := srtD_congr (alikeE (xs := [x, y]) fun z hz => by
      rcases List.mem_cons.mp hz with rfl | hz
      · exact hx
      · rw [List.mem_singleton.mp hz]; exact hy) hp
    have hl : (srtD [x, y]).length = 2 := srtD_len _
    refine ⟨?_, congrArg PyData.tuple e.symm⟩
    unfold jt
    match q : srtD [x, y], hl with
    | [a, b], _ =>
      rw [q] at hp
      have m : ∀ z ∈ [a, b], IsE z := fun z hz => by
        rcases List.mem_cons.mp (hp.mem_iff.mp hz) with rfl | hz
        · exact hx
        · rw [List.mem_singleton.mp hz]; exact hy
      exact .two (m a (by simp)) (m b (by simp))
  have one : ∀ x : D, IsE x → Jt (.tuple [x]) ∧ PyData.tuple [x] = .tuple (srtD (tupE (.tuple [x]))) := fun x hx => ⟨.one hx, by
    show PyData.tuple [x] = .tuple (srtD [x])
    have := List.perm_singleton.mp (srtD_perm [x])
    rw [this]⟩
  have all : ∀ j ∈ jts ss, Jt j ∧ j = .tuple (srtD (tupE j)) := fun j hj => by
    obtain ⟨s, _, hj⟩ := List.mem_flatMap.mp hj
    rcases List.mem_append.mp hj with hj | hj
    · obtain ⟨i, hi⟩ := List.getElem?_of_mem hj
      unfold adjJ at hi
      rw [List.getElem?_zipWith] at hi
      cases q1 : s.2[i]? with
      | none => rw [q1] at hi; simp at hi
      | some a =>
        cases q2 : s.2.tail[i]? with
        | none => rw [q1, q2] at hi; simp at hi
        | some b =>
          rw [q1, q2] at hi
          cases hi
          exact two _ _ (isE_r a) (isE_l b)
    · unfold closeJ at hj
      split at hj
      · rw [List.mem_singleton.mp hj]
        exact two _ _ (isE_r _) (isE_l _)
      · rcases List.mem_cons.mp hj with rfl | hj
        · exact one _ (isE_l _)
        · rw [List.mem_singleton.mp hj]
          exact one _ (isE_r _)
  exact ⟨fun j hj => (all j hj).1, fun j hj => (all j hj).2, all_ends' h p⟩
end

end Sw

open PySem PySem.Spec L2 Sw
namespace Sw
/-- strands made so far -/
structure Made (ns : List Str) (js : List D) (ss : List Strand) : Prop where
  ne : ∀ s ∈ ss, s.2 ≠ []
  nd : ((beadsOf ss).map Prod.snd).Nodup
  inn : ∀ z ∈ (beadsOf ss).map Prod.snd, z ∈ ns
  jts : ∀ j ∈ jts ss, j ∈ js
/-- all names met: the joints are just those told -/
theorem Made.done {ns : List Str} {js : List D} {ss : List Strand} (J : JsOk ns js) (hn : ns.Nodup) (M : Made ns js ss) (ha : ∀ z ∈ ns, z ∈ (beadsOf ss).map Prod.snd) : ((beadsOf ss).map Prod.snd).Perm ns ∧ (Sw.jts ss).Perm js := by
  have hp : ((beadsOf ss).map Prod.snd).Perm ns := (List.perm_ext_iff_of_nodup M.nd hn).mpr fun z => ⟨M.inn z, ha z⟩
  have K := jsOk_jts (ns := ns) M.ne hp
  have nod : ∀ {ks : List D}, JsOk ns ks → ks.Nodup := fun {ks} h => by
    have hn' := h.nod hn
    have hf := h.form
    clear h
    induction ks with
    | nil => exact List.nodup_nil
    | cons k r ih =>
      have hn' : (tupE k ++ r.flatMap tupE).Nodup := hn'
      obtain ⟨h1, h2, h3⟩ := List.nodup_append.mp hn'
      refine List.nodup_cons.mpr ⟨fun hm => ?_, ih h2 fun j hj => hf j (List.mem_cons_of_mem _ hj)⟩
      obtain ⟨x, hx⟩ : ∃ x, x ∈ tupE k := by
        cases hf k List.mem_cons_self with
        | one => exact ⟨_, List.mem_cons_self⟩
        | two => exact ⟨_, List.mem_cons_self⟩
      exact h3 x hx x (List.mem_flatMap.mpr ⟨k, hm, hx⟩) rfl
  refine ⟨hp, (List.perm_ext_iff_of_nodup (nod K) (nod J)).mpr fun j => ⟨M.jts j, fun hj => ?_⟩⟩
  obtain ⟨x, hx⟩ : ∃ x, x ∈ tupE j := by
    cases J.form j hj with
    | one => exact ⟨_, List.mem_cons_self⟩
    | two => exact ⟨_, List.mem_cons_self⟩
  obtain ⟨e, he, rfl⟩ := J.mem.mp (List.mem_flatMap.mpr ⟨j, hj, hx⟩)
  obtain ⟨i, hi, hx'⟩ := List.mem_flatMap.mp (K.mem.mpr ⟨e, he, rfl⟩)
  rw [(J.uniq hn).uniq hj (M.jts i hi) hx hx']
  exact hi
def StrK (kds : List (D × D)) : Prop := ∀ p ∈ kds, ∃ z : Str, p.1 = .str z
end Sw

open PySem PySem.Spec L2 Sw
namespace Sw
theorem row_of {α β : Type} {f : α → β} {P : α → Prop} : ∀ {L : List β}, (∀ x ∈ L, ∃ e, P e ∧ x = f e) → ∃ es : List α, L = es.map f ∧ ∀ e ∈ es, P e
  | [], _ => ⟨[], rfl, fun _ h => nomatch h⟩
  | x :: r, h => by
    obtain ⟨e, he, rfl⟩ := h x List.mem_cons_self
    obtain ⟨es, rfl, h2⟩ := row_of (L := r) fun y hy => h y (List.mem_cons_of_mem _ hy)
    exact ⟨e :: es, rfl, fun y hy => by
      rcases List.mem_cons.mp hy with rfl | hy
      · exact he
      · exact h2 y hy⟩
theorem JsOk.few {ns : List Str} {js : List D} (J : JsOk ns js) : js.length ≤ 2 * ns.length := by
  have h1 : js.length ≤ (js.flatMap tupE).length := by
    have hf := J.form
    clear J
    induction js with
    | nil => exact Nat.zero_le _
    | cons j r ih =>
      have := ih fun x hx => hf x (List.mem_cons_of_mem _ hx)
      have h2 : 1 ≤ (tupE j).length := by cases hf j List.mem_cons_self <;> simp [tupE]
      show r.length + 1 ≤ (tupE j ++ r.flatMap tupE).length
      rw [List.length_append]
      omega
  have h2 := J.all.length_eq
  rw [List.length_append, List.length_map, List.length_map] at h2
  omega
end Sw

open PySem PySem.Spec L2 Sw
namespace Sw
theorem jt_form {x y : D} (hx : IsE x) (hy : IsE y) : Jt (jt x y) ∧ jt x y = .tuple (srtD (tupE (jt x y))) := by
  have hp : (srtD [x, y]).Perm [x, y] := srtD_perm _
  have e : srtD (srtD [x, y]) = srtD [x, y] := srtD_congr (alikeE (xs := [x, y]) fun z hz => by
    rcases List.mem_cons.mp hz with rfl | hz
    · exact hx
    · rw [List.mem_singleton.mp hz]; exact hy) hp
  have hl : (srtD [x, y]).length = 2 := srtD_len _
  refine ⟨?_, congrArg PyData.tuple e.symm⟩
  unfold jt
  match q : srtD [x, y], hl with
  | [a, b], _ =>
    rw [q] at hp
    have m : ∀ z ∈ [a, b], IsE z := fun z hz => by
      rcases List.mem_cons.mp (hp.mem_iff.mp hz) with rfl | hz
      · exact hx
      · rw [List.mem_singleton.mp hz]; exact hy
    exact .two (m a (by simp)) (m b (by simp))
end Sw

open PySem PySem.Spec L2 Sw
namespace Sw
def bE (j : D) : List (D × D) := (tupE j).map fun e => (e, j)
theorem bEs_keys (js : List D) : (js.flatMap bE).map Prod.fst = js.flatMap tupE := by
  induction js with
  | nil => rfl
  | cons j r ih =>
    show ((bE j ++ r.flatMap bE).map Prod.fst) = tupE j ++ r.flatMap tupE
    rw [List.map_append, ih, bE, List.map_map]
    congr 1
    exact List.map_id _
theorem Jt.isE {j : D} (h : Jt j) : ∀ e ∈ tupE j, IsE e := fun e he => by
  cases h with
  | one h => rw [List.mem_singleton.mp he]; exact h
  | two h g =>
    rcases List.mem_cons.mp he with rfl | he
    · exact h
    · rw [List.mem_singleton.mp he]; exact g
theorem Jt.tup {j : D} (h : Jt j) : j = .tuple (tupE j) := by cases h <;> rfl
theorem Jt.len {j : D} (h : Jt j) : 1 ≤ (tupE j).length ∧ (tupE j).length ≤ 2 := by cases h <;> simp [tupE]
theorem Jt.isJ {j : D} (h : Jt j) : IsJ j := by
  cases h with
  | one h => exact isJ_one h
  | two h g => exact ⟨_, rfl, fun e he => by
      rcases List.mem_cons.mp he with rfl | he
      · exact h
      · rw [List.mem_singleton.mp he]; exact g, by simp, by simp⟩
theorem bEs_isE {js : List D} (h : ∀ j ∈ js, Jt j) : ∀ p ∈ js.flatMap bE, IsE p.1 := fun p hp => by
  obtain ⟨j, hj, hp⟩ := List.mem_flatMap.mp hp
  obtain ⟨e, he, rfl⟩ := List.mem_map.mp hp
  exact (h j hj).isE e he
theorem lookE_some {kds : List (D × D)} {x : D} (hk : ∀ p ∈ kds, IsE p.1) (hn : (kds.map Prod.fst).Nodup) (hx : x ∈ kds.map Prod.fst) : ∃ v, lookD kds x = some v ∧ (x, v) ∈ kds := by
  obtain ⟨⟨y, v⟩, hm, e⟩ := List.mem_map.mp hx
  have e : y = x := e
  subst e
  exact ⟨v, (lookE_iff (hk _ hm) hk hn).mpr hm, hm⟩
end Sw

open PySem PySem.Spec L2 Sw
namespace Sw
def notB (B : List D) (j : D) : Bool := !(B.any fun z => PyData.eqv z j)
def onlyIn (A B : List D) : List D := A.filter fun j => decide ((tupE j).length = 2) && notB B j
theorem notB_iff {B : List D} {j : D} (hB : ∀ x ∈ B, IsJ x) (hj : IsJ j) : notB B j = true ↔ j ∉ B := by
  unfold notB
  rw [Bool.not_eq_true', ← Bool.not_eq_true, List.any_eq_true]
  constructor
  · exact fun h m => h ⟨j, m, (eqv_hn 2 j j (hn_J hj 0) (hn_J hj 0)).mpr rfl⟩
  · rintro h ⟨x, hx, e⟩
    exact h ((eqv_hn 2 x j (hn_J (hB x hx) 0) (hn_J hj 0)).mp e ▸ hx)
theorem only_iff {A B : List D} (hA : ∀ x ∈ A, IsJ x) (hB : ∀ x ∈ B, IsJ x) {j : D} : j ∈ onlyIn A B ↔ j ∈ A ∧ (tupE j).length = 2 ∧ j ∉ B := by
  unfold onlyIn
  rw [List.mem_filter, Bool.and_eq_true, decide_eq_true_eq]
  constructor
  · rintro ⟨a, b, c⟩
    exact ⟨a, b, (notB_iff hB (hA j a)).mp c⟩
  · rintro ⟨a, b, c⟩
    exact ⟨a, b, (notB_iff hB (hA j a)).mpr c⟩
theorem JsOk.isJ {ns : List Str} {js : List D} (h : JsOk ns js) : ∀ j ∈ js, IsJ j := fun j hj => (h.form j hj).isJ
theorem JsOk.nodJ {ns : List Str} {js : List D} (h : JsOk ns js) (hn : ns.Nodup) : js.Nodup := by
  have h1 := h.nod hn
  have h2 := h.form
  clear h
  induction js with
  | nil => exact List.nodup_nil
  | cons j r ih =>
    have e : (j :: r).flatMap tupE = tupE j ++ r.flatMap tupE := rfl
    rw [e] at h1
    obtain ⟨_, a2, a3⟩ := List.nodup_append.mp h1
    refine List.nodup_cons.mpr ⟨fun hm => ?_, ih a2 fun x hx => h2 x (List.mem_cons_of_mem _ hx)⟩
    have hl := (h2 j List.mem_cons_self).len.1
    cases q : tupE j with
    | nil => rw [q] at hl; simp at hl
    | cons x s =>
      have hx : x ∈ tupE j := by rw [q]; exact List.mem_cons_self
      exact a3 x hx x (List.mem_flatMap.mpr ⟨j, hm, hx⟩) rfl
end Sw

open PySem PySem.Spec L2 Sw
namespace Sw
def Hl : Nat → D → Prop
  | _, .str z => Low z
  | _, .int _ => True
  | n + 1, .tuple ds => ∀ d ∈ ds, Hl n d
  | n + 1, .list ds => ∀ d ∈ ds, Hl n d
  | _, _ => False
theorem Hl.hn : ∀ {n : Nat} {d : D}, Hl n d → Hn n d := fun {n} => by
  induction n with
  | zero => intro d h; cases d <;> first | exact h.elim | trivial
  | succ n ih =>
    intro d h
    cases d <;> first
      | exact h.elim
      | trivial
      | exact fun x hx => ih (h x hx)
theorem canLay_all : ∀ ys : List D, (∀ y ∈ ys, PyData.canLay0 y = true) → PyData.canLayAll0 ys = true
  | [], _ => rfl
  | y :: r, h => by
    rw [PyData.canLayAll0, h y List.mem_cons_self, canLay_all r fun z hz => h z (List.mem_cons_of_mem _ hz)]
    rfl
theorem Hl.lay : ∀ {n : Nat} {d : D}, Hl n d → PyData.canLay0 d = true := fun {n} => by
  induction n with
  | zero =>
    intro d h
    cases d <;> first
      | exact h.elim
      | rfl
      | exact SeqAt.canLay_of_shaped (shaped_str h)
  | succ n ih =>
    intro d h
    cases d <;> first
      | exact h.elim
      | rfl
      | exact SeqAt.canLay_of_shaped (shaped_str h)
      | exact canLay_all _ fun x hx => ih (h x hx)
theorem Hl.shaped {n : Nat} {d : D} (h : Hl n d) (hn : n ≤ 39) : SeqAt.shaped d = true := by
  unfold SeqAt.shaped
  rw [h.lay, Bool.true_and, decide_eq_true_eq]
  have := (Hn.plainD n d h.hn).2
  omega
theorem gIn_hn {n : Nat} {xs : List D} {x : D} (neg : Bool) (h : ∀ d ∈ xs, Hn n d) (hx : Hn n x) (hn : n ≤ 38) : ∃ b : Bool, (b = true ↔ x ∈ xs) ∧ inB neg x xs = .bool (if neg = true then !b else b) ∧ okD x = true ∧ okD (.list xs) = true := by
  refine ⟨xs.any fun z => PyData.eqv z x, ?_, by unfold inB; rfl, hx.okD (by omega), Hn.okD (n := n + 1) h (by omega)⟩
  rw [List.any_eq_true]
  constructor
  · rintro ⟨z, hz, e⟩
    exact (eqv_hn n z x (h z hz) hx).mp e ▸ hz
  · exact fun hm => ⟨x, hm, (eqv_hn n x x hx hx).mpr rfl⟩
def cutJ : D → D
  | .tuple [x, y] => .tuple [.tuple [.tuple [x, y]], .tuple [.tuple [x], .tuple [y]]]
  | _ => .none
def joinJ : D → D
  | .tuple [x, y] => .tuple [.tuple [.tuple [x], .tuple [y]], .tuple [.tuple [x, y]]]
  | _ => .none
def rowOne (A B : List D) : List D := (onlyIn A B).map cutJ ++ (onlyIn B A).map joinJ
theorem Jt.one_of {j : D} (h : Jt j) (hl : (tupE j).length ≠ 2) : ∃ x, j = .tuple [x] ∧ IsE x := by
  cases h with
  | one h => exact ⟨_, rfl, h⟩
  | two h g => simp [tupE] at hl
/-- a list of joints with no joint twice, that holds just what P tells -/
structure Sg (S : List D) (P : D → Prop) : Prop where
  nod : S.Nodup
  iff : ∀ j, j ∈ S ↔ P j
def afterC (A C : List D) : D → Prop := fun j => (j ∈ A ∧ j ∉ C) ∨ ∃ c ∈ C, ∃ x ∈ tupE c, j = .tuple [x]
def afterJ (P : D → Prop) (E : List D) : D → Prop := fun j => (P j ∧ ¬∃ d ∈ E, ∃ x ∈ tupE d, j = .tuple [x]) ∨ j ∈ E
section
variable {ns : List Str} {A B : List D}
theorem JsOk.one_is (hA : JsOk ns A) (hn : ns.Nodup) {i j x : D} (hi : i ∈ A) (hj : j ∈ A) (h1 : x ∈ tupE i) (h2 : x ∈ tupE j) : i = j := uniq_flat (hA.nod hn) hi hj h1 h2
theorem JsOk.also (hA : JsOk ns A) (hB : JsOk ns B) {j x : D} (hj : j ∈ A) (hx : x ∈ tupE j) : ∃ i ∈ B, x ∈ tupE i := by
  have h1 := hA.mem.mp (List.mem_flatMap.mpr ⟨j, hj, hx⟩)
  exact List.mem_flatMap.mp (hB.mem.mpr h1)
theorem all_done {S : List D} (hA : JsOk ns A) (hB : JsOk ns B) (hn : ns.Nodup) (hS : Sg S (afterJ (afterC A (onlyIn A B)) (onlyIn B A))) : ∀ j, j ∈ S ↔ j ∈ B := fun j => by
  rw [hS.iff j]
  have oA := fun {j : D} => only_iff (j := j) hA.isJ hB.isJ
  have oB := fun {j : D} => only_iff (j := j) hB.isJ hA.isJ
  have single : ∀ x i, i ∈ A → x ∈ tupE i → (¬∃ d ∈ onlyIn B A, ∃ z ∈ tupE d, PyData.tuple [x] = .tuple [z]) → i ∉ B ∨ (tupE i).length ≠ 2 → .tuple [x] ∈ B := fun x i hi hx hno hor => by
    obtain ⟨b, hb, hxb⟩ := hA.also hB hi hx
    by_cases hl : (tupE b).length = 2
    · by_cases hbA : b ∈ A
      · have := hA.one_is hn hbA hi hxb hx
        subst this
        rcases hor with h | h
        · exact absurd hb h
        · exact absurd hl h
      · exact absurd ⟨b, oB.mpr ⟨hb, hl, hbA⟩, x, hxb, rfl⟩ hno
    · obtain ⟨x', rfl, _⟩ := (hB.form b hb).one_of hl
      rw [List.mem_singleton.mp hxb]
      exact hb
  constructor
  · rintro (⟨⟨h1, h2⟩ | ⟨c, hc, z, hz, rfl⟩, h3⟩ | h)
    · by_cases hl : (tupE j).length = 2
      · by_cases hb : j ∈ B
        · exact hb
        · exact absurd (oA.mpr ⟨h1, hl, hb⟩) h2
      · obtain ⟨x, rfl, _⟩ := (hA.form j h1).one_of hl
        exact single x _ h1 (by simp [tupE]) h3 (.inr hl)
    · have hc := oA.mp hc
      exact single z c hc.1 hz h3 (.inl hc.2.2)
    · exact (oB.mp h).1
  · intro hb
    by_cases hl : (tupE j).length = 2
    · by_cases ha : j ∈ A
      · refine .inl ⟨.inl ⟨ha, fun h => (oA.mp h).2.2 hb⟩, ?_⟩
        rintro ⟨d, _, z, _, rfl⟩
        simp [tupE] at hl
      · exact .inr (oB.mpr ⟨hb, hl, ha⟩)
    · obtain ⟨x, rfl, _⟩ := (hB.form j hb).one_of hl
      refine .inl ⟨?_, ?_⟩
      · obtain ⟨a, ha, hxa⟩ := hB.also hA hb (x := x) (by simp [tupE])
        by_cases hla : (tupE a).length = 2
        · refine .inr ⟨a, oA.mpr ⟨ha, hla, fun hab => ?_⟩, x, hxa, rfl⟩
          have := hB.one_is hn hab hb hxa (by simp [tupE])
          rw [this] at hla
          exact hl hla
        · obtain ⟨x', rfl, _⟩ := (hA.form a ha).one_of hla
          rw [List.mem_singleton.mp hxa]
          exact .inl ⟨ha, fun h => hla (oA.mp h).2.1⟩
      · rintro ⟨d, hd, z, hz, e⟩
        cases e
        have hd := oB.mp hd
        have := hB.one_is hn hd.1 hb hz (by simp [tupE])
        rw [this] at hd
        exact hl hd.2.1
end

end Sw

open PySem PySem.Spec L2 Sw
namespace Sw

end Sw

open PySem PySem.Spec L2 Sw
namespace Sw
/-- a joint of low names -/
structure Lj (j : D) : Prop where
  jt : Jt j
  lo : ∀ x ∈ tupE j, ∀ n, Hl (n + 1) x
theorem Lj.hl {j : D} (h : Lj j) (n : Nat) : Hl (n + 2) j := by
  rw [h.jt.tup]
  exact fun x hx => h.lo x hx n
theorem Lj.one {j : D} (h : Lj j) {x : D} (hx : x ∈ tupE j) : Lj (.tuple [x]) := ⟨.one (h.jt.isE x hx), fun y hy n => by
  rw [List.mem_singleton.mp hy]
  exact h.lo x hx n⟩
theorem okA_E {x : D} (h : IsE x) (n : Nat) : okA (n + 1) x := by
  obtain ⟨z, s, rfl⟩ := h
  refine ⟨by simp, fun d hd => ?_⟩
  rcases List.mem_cons.mp hd with rfl | hd
  · exact okA_str _ _
  · rw [List.mem_singleton.mp hd]
    cases n <;> trivial
structure RI (A B : List D) (i : Nat) (S : List D) : Prop where
  srt : S = srtD S
  sg : Sg S (afterJ (afterC A ((onlyIn A B).take i)) ((onlyIn B A).take (i - (onlyIn A B).length)))
  len : S.length ≤ A.length + 2 * i
section
variable {ns : List Str} {A B : List D}
theorem RI.zero (hA : JsOk ns A) (hn : ns.Nodup) (hs : A = srtD A) : RI A B 0 A := ⟨hs, ⟨hA.nodJ hn, fun j => by simp [afterJ, afterC]⟩, by omega⟩
theorem RI.fin (hA : JsOk ns A) (hB : JsOk ns B) (hn : ns.Nodup) (hb : B = srtD B) {S : List D} (h : RI A B (rowOne A B).length S) : S = B := by
  have hl : (rowOne A B).length = (onlyIn A B).length + (onlyIn B A).length := by unfold rowOne; rw [List.length_append, List.length_map, List.length_map]
  have hS := h.sg
  rw [hl, List.take_of_length_le (by omega), List.take_of_length_le (by omega)] at hS
  have hp : S.Perm B := (List.perm_ext_iff_of_nodup hS.nod (hB.nodJ hn)).mpr (all_done hA hB hn hS)
  rw [h.srt, hb]
  exact srtD_congr (allAlikeJ hB.isJ) hp
end

end Sw

open PySem PySem.Spec L2 Sw
namespace Sw

end Sw

open PySem PySem.Spec L2 Sw
namespace Sw
/-- a deed: what goes, what comes -/
structure Dx (d : D) (gone come : List D) : Prop where
  eq : d = .tuple [.tuple gone, .tuple come]
  g : ∀ x ∈ gone, Jt x
  c : ∀ x ∈ come, Jt x
  g1 : gone ≠ []
  c1 : come ≠ []
  lg : gone.length ≤ 2
  lc : come.length ≤ 2
theorem flat_len {α : Type} {f : α → List D} : ∀ {xs : List α}, (∀ x ∈ xs, (f x).length ≤ 2) → (xs.flatMap f).length ≤ 2 * xs.length
  | [], _ => by simp
  | x :: r, h => by
    have h1 := flat_len (xs := r) fun z hz => h z (List.mem_cons_of_mem _ hz)
    have h2 := h x List.mem_cons_self
    show (f x ++ r.flatMap f).length ≤ _
    rw [List.length_append, List.length_cons]
    omega
end Sw

open PySem PySem.Spec L2 Sw
namespace Sw
theorem str_assoc (a b c : Str) : a ++ b ++ c = a ++ (b ++ c) := ext_tl (by rw [tl_app, tl_app, tl_app, tl_app, List.append_assoc])
theorem join1 (y x : Str) : Txt.join y [x] = x := by rw [TL.join_eq]; rfl
theorem join2 (y x z : Str) (r : List Str) : Txt.join y (x :: z :: r) = x ++ y ++ Txt.join y (z :: r) := by rw [TL.join_eq, TL.join_eq]; rfl
theorem join_bound (y : Str) : ∀ ps : List Str, (Txt.join y ps).length ≤ (ps.map (·.length)).sum + ps.length * y.length
  | [] => by rw [TL.join_eq]; exact Nat.zero_le _
  | [x] => by rw [join1]; simp
  | x :: z :: r => by
    have h := join_bound y (z :: r)
    rw [join2, len_app, len_app]
    simp only [List.map_cons, List.sum_cons, List.length_cons, Nat.add_mul, Nat.one_mul] at h ⊢
    omega
def spT : Str := Str.ofString " "
/-- an end with a short name -/
def Es (x : D) : Prop := ∃ z s, x = endD z s ∧ z.length ≤ 6
def endT : D → Str
  | .tuple [.str z, .int s] => if s = 0 then Str.ofString "<" ++ z else z ++ Str.ofString ">"
  | _ => Str.ofString ""
theorem endT_len {x : D} (h : Es x) : (endT x).length ≤ 7 := by
  obtain ⟨z, s, rfl, hz⟩ := h
  show (if s = 0 then Str.ofString "<" ++ z else z ++ Str.ofString ">").length ≤ 7
  have e1 : (Str.ofString "<").length = 1 := by decide
  have e2 : (Str.ofString ">").length = 1 := by decide
  split <;> rw [len_app] <;> omega
def jointT (j : D) : Str := Txt.join (Str.ofString "~") ((tupE j).map endT)
/-- a joint with short names -/
structure Sj (j : D) : Prop where
  jt : Jt j
  es : ∀ x ∈ tupE j, Es x
theorem sum_le {α : Type} {f : α → Nat} {n : Nat} : ∀ {xs : List α}, (∀ x ∈ xs, f x ≤ n) → (xs.map f).sum ≤ xs.length * n
  | [], _ => by simp
  | x :: r, h => by
    have h1 := sum_le (xs := r) fun z hz => h z (List.mem_cons_of_mem _ hz)
    have h2 := h x List.mem_cons_self
    rw [List.map_cons, List.sum_cons, List.length_cons, Nat.add_mul, Nat.one_mul]
    omega
theorem joins_le {α : Type} {f : α → Str} {n m : Nat} (y : Str) {xs : List α} (h : ∀ x ∈ xs, (f x).length ≤ n) (hm : y.length ≤ m) : ((xs.map f).map (·.length)).sum + (xs.map f).length * y.length ≤ xs.length * n + xs.length * m := by
  have h1 := sum_le (f := fun x => (f x).length) h
  rw [List.map_map, List.length_map]
  have e : ((xs.map ((fun x : Str => x.length) ∘ f)).sum) = (xs.map fun x => (f x).length).sum := rfl
  rw [e]
  exact Nat.add_le_add h1 (Nat.mul_le_mul_left _ hm)
theorem jointT_len {j : D} (h : Sj j) : (jointT j).length ≤ 16 := by
  have h1 := joins_le (n := 7) (m := 1) (f := endT) (Str.ofString "~") (xs := tupE j) (fun x hx => endT_len (h.es x hx)) (by decide)
  have h2 := join_bound (Str.ofString "~") ((tupE j).map endT)
  have h3 := h.jt.len.2
  unfold jointT
  omega
def digT (i : Int) : Str := Str.ofString (toString i)
def partT : D → Str
  | .str z => z
  | .int i => digT i
  | _ => Str.ofString ""
def toT : Str := Str.ofString " to "
def sp_show_end : PSp := fun fl ds Q => fl = none ∧ ∃ x, ds = [x] ∧ Es x ∧ Q (.dt (.str (endT x))) none
abbrev N_show_end : List Str := ["end"]
def T_show_end : PS' := (sSeq (sIf (qTest (qOp (gEq false) (qOp gIx (qVar 0) (qC (.int 1))) (qC (.int 0)))) (sRet (qOp gAdd (qC (.str "<")) (qOp gIx (qVar 0) (qC (.int 0))))) sNil)
  (sRet (qOp gAdd (qOp gIx (qVar 0) (qC (.int 0))) (qC (.str ">")))))
theorem pure_show_end (fl : Option (List D)) (ds : List D) (Q : RV → Option (List D) → Prop) (_ : false = true ↔ fl ≠ none) (h : sp_show_end fl ds Q) : T_show_end (endsOf false Q) (startE false N_show_end fl ds) := by
  obtain ⟨rfl, x, rfl, ⟨z, s, rfl, hz⟩, k⟩ := h
  show T_show_end _ [SV.dat (.tuple [.str z, .int s])]
  unfold T_show_end
  have e1 : (Str.ofString "<").length = 1 := by decide
  have e2 : (Str.ofString ">").length = 1 := by decide
  have k : Q (.dt (.str (if s = 0 then Str.ofString "<" ++ z else z ++ Str.ofString ">"))) none := k
  walk_at "wp"
  split
  · rw [if_pos ‹_›] at k
    exact ⟨sizeL (by omega), k⟩
  · rw [if_neg ‹_›] at k
    exact ⟨sizeL (by omega), k⟩
def sp_law_end_text : PSp := fun fl ds Q => fl = none ∧ ∃ x, ds = [x] ∧ Es x ∧ Q (.dt (.str (endT x))) none
abbrev N_law_end_text : List Str := ["_law_end"]
def T_law_end_text : PS' := (sSeq (sIf (qTest (qOp (gEq false) (qOp gIx (qVar 0) (qC (.int 1))) (qC (.int 0)))) (sRet (qOp gAdd (qC (.str "<")) (qOp gIx (qVar 0) (qC (.int 0))))) sNil)
  (sRet (qOp gAdd (qOp gIx (qVar 0) (qC (.int 0))) (qC (.str ">")))))
theorem pure_law_end_text (fl : Option (List D)) (ds : List D) (Q : RV → Option (List D) → Prop) (hx : false = true ↔ fl ≠ none) (h : sp_law_end_text fl ds Q) : T_law_end_text (endsOf false Q) (startE false N_law_end_text fl ds) := pure_show_end fl ds Q hx h
def sp_show_joint : PSp := fun fl ds Q => fl = none ∧ ∃ j, ds = [j] ∧ Sj j ∧ Q (.dt (.str (jointT j))) none
abbrev N_show_joint : List Str := ["joint", "end"]
def T_show_joint : PS' := (sRet (qJoin (qC (.str "~")) (qF (fLc (iAny (qVar 0)) (gN 1) tYes' (qCall sp_show_end (qAddD (qCons (qVar 1) qNil) [])) [1]))))
theorem pure_show_joint (fl : Option (List D)) (ds : List D) (Q : RV → Option (List D) → Prop) (_ : false = true ↔ fl ≠ none) (h : sp_show_joint fl ds Q) : T_show_joint (endsOf false Q) (startE false N_show_joint fl ds) := by
  obtain ⟨rfl, j, rfl, hj, k⟩ := h
  show T_show_joint _ [SV.dat j, SV.un]
  unfold T_show_joint
  have hl := hj.jt.len.2
  have h1 := joins_le (n := 7) (m := 1) (f := endT) (Str.ofString "~") (xs := tupE j) (fun x hx => endT_len (hj.es x hx)) (by decide)
  have hes := hj.es
  have k : Q (.dt (.str (Txt.join (Str.ofString "~") ((tupE j).map endT)))) none := k
  rw [hj.jt.tup]
  generalize tupE j = es at *
  walk_at "wp"
  refine ⟨by omega, ?_⟩
  have e0 : es = es.map id := (List.map_id es).symm
  conv => arg 6; rw [e0]
  refine map_comp (f := fun x => PyData.str (endT x)) (fun x hx K hK => ?_) ?_
  · walk_at "wp"
    refine ⟨rfl, x, rfl, hes x hx, ?_⟩
    walk_at "wp"
    exact hK
  have e2 : es.map (fun x => PyData.str (endT x)) = (es.map endT).map PyData.str := by rw [List.map_map]; rfl
  rw [e2]
  walk_at "wp"
  exact ⟨by omega, k⟩
end Sw

open PySem PySem.Spec L2 Sw
namespace Sw
theorem gEq_no {n : Nat} {a b : D} {P : D → Prop} (ha : Hn n a) (hb : Hn n b) (hn : n ≤ 39) (h : a ≠ b) (h2 : P (.bool false)) : ∃ d, gEq false a b = some d ∧ P d := eq_hn ha hb hn (fun e => absurd e h) fun _ => h2
end Sw

open PySem PySem.Spec L2 Sw
namespace Sw

end Sw

open PySem PySem.Spec L2 Sw
namespace Sw
theorem srt_srt {js : List D} (h : ∀ j ∈ js, IsJ j) : srtD js = srtD (srtD js) := (srtD_congr (allAlikeJ h) (srtD_perm _)).symm
end Sw

open PySem PySem.Spec L2 Sw
namespace Sw
theorem leD_one {x y : D} (hx : IsE x) (hy : IsE y) : leD (.tuple [x]) (.tuple [y]) = leD x y := by
  unfold leD
  rw [W.dataLt_tuple]
  by_cases e : PyData.eqv y x = true
  · rw [W.dataLt_all_yes (alike_E hy hx) e]
    have : y = x := (eqv_E hy hx).mp e
    subst this
    rw [show W.dataLt y y = false by have := (leD_total.total y y).elim id id; simpa [leD] using this]
    rfl
  · rw [W.dataLt_all_no (alike_E hy hx) (by simpa using e)]
def three : D → Bool
  | .tuple [.tuple gone, .tuple come] => decide (gone.length + come.length = 3)
  | _ => false
end Sw

open PySem PySem.Spec L2 Sw
namespace Sw

end Sw

open PySem PySem.Spec L2 Sw
namespace Sw

end Sw

open PySem PySem.Spec L2 Sw
namespace Sw
def turnD (i j : Nat) : D := .tuple [.str (Str.ofString "turn"), .int i, .int j]
def changeD (i j k l : Nat) : D := .tuple [.str (Str.ofString "change"), .int i, .int j, .int k, .int l]
end Sw

open PySem PySem.Spec L2 Sw
namespace Sw

end Sw

open PySem PySem.Spec L2 Sw
namespace Sw
def turnB (bs : List Bead) (i j : Nat) : List Bead := bs.take i ++ mirR ((bs.drop i).take (j - i)) ++ bs.drop j
def changeB (bs : List Bead) (i j k l : Nat) : List Bead := bs.take i ++ (bs.drop k).take (l - k) ++ (bs.drop j).take (k - j) ++ (bs.drop i).take (j - i) ++ bs.drop l
theorem changeB_len {bs : List Bead} {i j k l : Nat} (h1 : i < j) (h2 : j ≤ k) (h3 : k < l) (h4 : l ≤ bs.length) : (changeB bs i j k l).length = bs.length := by
  unfold changeB
  simp only [List.length_append, List.length_take, List.length_drop]
  omega
theorem turnB_len {bs : List Bead} {i j : Nat} (h1 : i < j) (h4 : j ≤ bs.length) : (turnB bs i j).length = bs.length := by
  unfold turnB
  simp only [List.length_append, mirR_len, List.length_take, List.length_drop]
  omega
/-- a deed of a line of n beads, and what it does -/
inductive LDx (n : Nat) : D → (List Bead → List Bead) → Prop
  | turn (i j : Nat) (h1 : i < j) (h2 : j ≤ n) : LDx n (turnD i j) (fun bs => turnB bs i j)
  | change (i j k l : Nat) (h1 : i < j) (h2 : j ≤ k) (h3 : k < l) (h4 : l ≤ n) : LDx n (changeD i j k l) (fun bs => changeB bs i j k l)
theorem LDx.len {n : Nat} {d : D} {f : List Bead → List Bead} (h : LDx n d f) {bs : List Bead} (hl : bs.length = n) : (f bs).length = n := by
  cases h with
  | turn i j h1 h2 => show (turnB bs i j).length = n; rw [turnB_len h1 (by omega)]; exact hl
  | change i j k l h1 h2 h3 h4 => show (changeB bs i j k l).length = n; rw [changeB_len h1 h2 h3 (by omega)]; exact hl
end Sw

open PySem PySem.Spec L2 Sw
namespace Sw
def isNmB : D → Bool
  | .str z => nmB z
  | _ => false
/-- whatever is asked: a text is short -/
def ok1 (d : D) : Prop := ∀ z, d = .str z → z.length ≤ 1000
theorem isi_no {d : D} (h : ∀ z, d ≠ .str z) : isi .str d = false := by
  cases d <;> first | rfl | exact absurd rfl (h _)
theorem abc_mem {c : Nat} : c ∈ (Str.ofString "abcdefghijklmnopqrstuvwxyz").cps.toList ↔ 97 ≤ c ∧ c ≤ 122 := by
  have e : (Str.ofString "abcdefghijklmnopqrstuvwxyz").cps.toList = List.range' 97 26 := by decide +kernel
  rw [e, List.mem_range'_1]
  omega
theorem gIn_abc (c : Nat) : gIn false (signD c) (.str (Str.ofString "abcdefghijklmnopqrstuvwxyz")) = some (.bool (decide (97 ≤ c ∧ c ≤ 122))) := by
  show (if (1 : Nat) = 1 then some (PyData.bool (if false = true then _ else decide (c ∈ (Str.ofString "abcdefghijklmnopqrstuvwxyz").cps.toList))) else none) = _
  rw [if_pos rfl, if_neg (by decide), decide_eq_decide.mpr abc_mem]
theorem nmB_eq (z : Str) : nmB z = (z.cps.toList.all (fun c => decide (97 ≤ c ∧ c ≤ 122)) && decide (1 ≤ z.length ∧ z.length ≤ 6)) := rfl
def sp_is_name : PSp := fun fl ds Q => fl = none ∧ ∃ d, ds = [d] ∧ ok1 d ∧ Q (.dt (.bool (isNmB d))) none
abbrev N_is_name : List Str := ["thing", "sign"]
def T_is_name : PS' := (sSeq (sIf (tOr' (tNot' (qTest (qIsi .str (qVar 0)))) (tOr' (qTest (qOp gLt (qCB gLen (qCons (qVar 0) qNil)) (qC (.int 1)))) (qTest (qOp (gI (gCmp fun i j => decide (j < i))) (qCB gLen (qCons (qVar 0) qNil)) (qC (.int 6)))))) (sRet (qC (.bool false))) sNil)
  (sRet (qCB gAll (qCons (qF (fLc (iAny (qVar 0)) (gN 1) tYes' (qOp (gIn false) (qVar 1) (qC (.str "abcdefghijklmnopqrstuvwxyz"))) [1])) qNil))))
theorem pure_is_name (fl : Option (List D)) (ds : List D) (Q : RV → Option (List D) → Prop) (_ : false = true ↔ fl ≠ none) (h : sp_is_name fl ds Q) : T_is_name (endsOf false Q) (startE false N_is_name fl ds) := by
  obtain ⟨rfl, d, rfl, ho, k⟩ := h
  show T_is_name _ [SV.dat d, SV.un]
  unfold T_is_name
  by_cases hs : ∃ z, d = .str z
  · obtain ⟨z, rfl⟩ := hs
    have hz := ho z rfl
    have k : Q (.dt (.bool (nmB z))) none := k
    rw [nmB_eq] at k
    refine sSeq_abs fun R hR => ?_
    walk_at "wp"
    try rw [if_neg (by decide)]
    refine ⟨sizeL (by omega), ?_⟩
    split
    · rw [show decide (1 ≤ z.length ∧ z.length ≤ 6) = false from decide_eq_false (by omega), Bool.and_false] at k
      exact k
    refine ⟨sizeL (by omega), ?_⟩
    split
    · rw [show decide (1 ≤ z.length ∧ z.length ≤ 6) = false from decide_eq_false (by omega), Bool.and_false] at k
      exact k
    subst hR
    rw [show decide (1 ≤ z.length ∧ z.length ≤ 6) = true from decide_eq_true (by omega), Bool.and_true] at k
    walk_at "wp"
    refine ⟨by rw [List.length_map, Array.length_toList]; show z.length ≤ _; omega, ?_⟩
    refine map_comp (f := fun c => PyData.bool (decide (97 ≤ c ∧ c ≤ 122))) (fun c hc K hK => ?_) ?_
    · walk_at "wp"
      exact ⟨_, gIn_abc c, hK⟩
    have e2 : z.cps.toList.map (fun c => PyData.bool (decide (97 ≤ c ∧ c ≤ 122))) = (z.cps.toList.map fun c => decide (97 ≤ c ∧ c ≤ 122)).map PyData.bool := by rw [List.map_map]; rfl
    rw [e2]
    walk_at "wp"
    have e3 : (z.cps.toList.map fun c => decide (97 ≤ c ∧ c ≤ 122)).all id = z.cps.toList.all fun c => decide (97 ≤ c ∧ c ≤ 122) := by rw [List.all_map]; rfl
    rw [e3]
    exact k
  · have hn : ∀ z, d ≠ .str z := fun z e => hs ⟨z, e⟩
    have hi := isi_no hn
    have e : isNmB d = false := by cases d <;> first | rfl | exact absurd rfl (hn _)
    rw [e] at k
    walk_at "wp"
    rw [if_pos hi]
    exact k
end Sw

open PySem PySem.Spec L2 Sw
namespace Sw
theorem len2 {es : List D} (h : es.length = 2) : ∃ a b, es = [a, b] := by
  match es, h with
  | [a, b], _ => exact ⟨a, b, rfl⟩
def isEndB : D → Bool
  | .tuple [a, .int i] => isNmB a && (i == 0 || i == 1)
  | _ => false
/-- texts within are short, tuples not too long -/
def OkN : Nat → D → Prop
  | 0, d => ok1 d
  | n + 1, d => ok1 d ∧ ∀ ds, d = .tuple ds → ds.length ≤ 100000 ∧ ∀ x ∈ ds, OkN n x
theorem OkN.ok1 {n : Nat} {d : D} (h : OkN n d) : ok1 d := by
  cases n with
  | zero => exact h
  | succ n => exact h.1
theorem OkN.mem {n : Nat} {ds : List D} (h : OkN (n + 1) (.tuple ds)) {x : D} (hx : x ∈ ds) : OkN n x := (h.2 ds rfl).2 x hx
theorem OkN.len {n : Nat} {ds : List D} (h : OkN (n + 1) (.tuple ds)) : ds.length ≤ 100000 := (h.2 ds rfl).1
theorem tup_or (d : D) : (∃ ds, d = .tuple ds) ∨ ∀ ds, d ≠ .tuple ds := by
  cases d with
  | tuple ds => exact .inl ⟨ds, rfl⟩
  | _ => exact .inr fun ds e => nomatch e
theorem isi_noT {d : D} (h : ∀ ds, d ≠ .tuple ds) : isi .tuple d = false := by
  cases d <;> first | rfl | exact absurd rfl (h _)
theorem endB_noT {d : D} (h : ∀ ds, d ≠ .tuple ds) : isEndB d = false := by
  cases d <;> first | rfl | exact absurd rfl (h _)
theorem gIn01 (i : Int) : gIn false (.int i) (.tuple [.int 0, .int 1]) = some (.bool (i == 0 || i == 1)) := by
  have e : okD (.int i) = true ∧ okD (.list [.int 0, .int 1]) = true := ⟨Hn.okD (n := 0) (d := .int i) trivial (by omega), by decide⟩
  show (if okD (.int i) = true ∧ okD (.list [.int 0, .int 1]) = true then some (inB false (.int i) [.int 0, .int 1]) else none) = _
  rw [if_pos e]
  unfold inB
  simp only [Bool.false_eq_true, if_false, List.any_cons, List.any_nil, Bool.or_false, PyData.eqv]
  by_cases h0 : i = 0
  · subst h0; rfl
  · by_cases h1 : i = 1
    · subst h1; rfl
    · have a : (0 == i) = false := by simpa using fun z : 0 = i => h0 z.symm
      have b : (1 == i) = false := by simpa using fun z : 1 = i => h1 z.symm
      simp [h0, h1, a, b]
theorem isi_dict {T : Ty} {z : List (D × D)} : isi T (.dict z) = match T with | .dict => true | _ => false := by cases T <;> rfl
theorem gIn12 (i : Int) : gIn true (.int i) (.tuple [.int 1, .int 2]) = some (.bool (!(i == 1 || i == 2))) := by
  have e : okD (.int i) = true ∧ okD (.list [.int 1, .int 2]) = true := ⟨Hn.okD (n := 0) (d := .int i) trivial (by omega), by decide⟩
  show (if okD (.int i) = true ∧ okD (.list [.int 1, .int 2]) = true then some (inB true (.int i) [.int 1, .int 2]) else none) = _
  rw [if_pos e]
  unfold inB
  simp only [if_true, List.any_cons, List.any_nil, Bool.or_false, PyData.eqv]
  by_cases h0 : i = 1
  · subst h0; rfl
  · by_cases h1 : i = 2
    · subst h1; rfl
    · have a : (1 == i) = false := by simpa using fun z : 1 = i => h0 z.symm
      have b : (2 == i) = false := by simpa using fun z : 2 = i => h1 z.symm
      simp [h0, h1, a, b]
def sp_is_end : PSp := fun fl ds Q => fl = none ∧ ∃ d, ds = [d] ∧ OkN 1 d ∧ Q (.dt (.bool (isEndB d))) none
abbrev N_is_end : List Str := ["thing"]
def T_is_end : PS' := (sSeq (sIf (tOr' (tNot' (qTest (qIsi .tuple (qVar 0)))) (tOr' (qTest (qOp (gEq true) (qCB gLen (qCons (qVar 0) qNil)) (qC (.int 2)))) (tNot' (qTest (qCall sp_is_name (qAddD (qCons (qOp gIx (qVar 0) (qC (.int 0))) qNil) [])))))) (sRet (qC (.bool false))) sNil)
  (sRet (qAnd (qIsi .int (qOp gIx (qVar 0) (qC (.int 1)))) (qAnd (qNot (qIsi .bool (qOp gIx (qVar 0) (qC (.int 1))))) (qOp (gIn false) (qOp gIx (qVar 0) (qC (.int 1))) (qTup (qCons (qC (.int 0)) (qCons (qC (.int 1)) qNil))))))))
theorem pure_is_end (fl : Option (List D)) (ds : List D) (Q : RV → Option (List D) → Prop) (_ : false = true ↔ fl ≠ none) (h : sp_is_end fl ds Q) : T_is_end (endsOf false Q) (startE false N_is_end fl ds) := by
  obtain ⟨rfl, d, rfl, ho, k⟩ := h
  show T_is_end _ [SV.dat d]
  unfold T_is_end
  rcases tup_or d with ⟨es, rfl⟩ | hn
  · refine sSeq_abs fun R hR => ?_
    walk_at "wp"
    by_cases hl : es.length = 2
    · obtain ⟨a, b, rfl⟩ := len2 hl
      have ha : ok1 a := (ho.mem List.mem_cons_self).ok1
      walk_at "wp"
      try rw [if_neg (by decide)]
      refine ⟨rfl, a, rfl, ha, ?_⟩
      walk_at "wp"
      cases hna : isNmB a with
      | false =>
        have e : isEndB (.tuple [a, b]) = false := by cases b <;> simp [isEndB, hna]
        rw [e] at k
        walk_at "wp"
        exact k
      | true =>
        rw [if_neg (by decide)]
        subst hR
        walk_at "wp"
        cases b with
        | int i =>
          walk_at "wp"
          refine ⟨sizeL (by decide), _, gIn01 i, ?_⟩
          have e : isEndB (.tuple [a, .int i]) = (i == 0 || i == 1) := by simp [isEndB, hna]
          rw [e] at k
          exact k
        | bool c =>
          have e : isEndB (.tuple [a, .bool c]) = false := rfl
          rw [e] at k
          walk_at "wp"
          exact k
        | _ =>
          first
          | (walk_at "wp"; exact k)
          | (simp only [isi_dict]; walk_at "wp"; exact k)
    · have e : isEndB (.tuple es) = false := by
        cases es with
        | nil => rfl
        | cons a r =>
          cases r with
          | nil => rfl
          | cons b r =>
            cases r with
            | nil => exact absurd rfl hl
            | cons c r => cases b <;> rfl
      rw [e] at k
      have e2 : ¬ (es.length : Int) = 2 := by omega
      simp only [e2]
      walk_at "wp"
      try simp only [e2]
      try walk_at "wp"
      exact k
  · rw [endB_noT hn] at k
    refine sSeq_abs fun R hR => ?_
    walk_at "wp"
    rw [if_pos (isi_noT hn)]
    exact k

end Sw

open PySem PySem.Spec L2 Sw
namespace Sw
theorem endB_is {x : D} (h : isEndB x = true) : ∃ z i, x = endD z i ∧ Nm z ∧ (i = 0 ∨ i = 1) := by
  unfold isEndB at h
  split at h
  · rename_i a i
    rw [Bool.and_eq_true, Bool.or_eq_true, beq_iff_eq, beq_iff_eq] at h
    obtain ⟨h1, h2⟩ := h
    cases a with
    | str z => exact ⟨z, i, rfl, nmB_iff.mp h1, h2⟩
    | _ => cases h1
  · cases h
theorem endB_E {x : D} (h : isEndB x = true) : IsE x := by
  obtain ⟨z, i, e, _⟩ := endB_is h
  exact ⟨z, i, e⟩
def isJointB : D → Bool
  | .tuple es => (es.length == 1 || es.length == 2) && (es.all isEndB && PyData.eqv (.list es) (.list (srtD es)))
  | _ => false
theorem jointB_noT {d : D} (h : ∀ ds, d ≠ .tuple ds) : isJointB d = false := by
  cases d <;> first | rfl | exact absurd rfl (h _)
def isHalfB : D → Bool
  | .tuple es => (es.length == 1 || es.length == 2) && (es.all isJointB && PyData.eqv (.list es) (.list (srtD es)))
  | _ => false
theorem halfB_noT {d : D} (h : ∀ ds, d ≠ .tuple ds) : isHalfB d = false := by
  cases d <;> first | rfl | exact absurd rfl (h _)
theorem all_compB {G : TG'} {TE : PE'} {vs : List Nat} {Q : D → List SV → Prop} {xs : List D} {p : D → Bool} {env : List SV}
    (hs : ∀ x ∈ xs, ∀ K : D → List SV → Prop, K (.bool (p x)) env → G x env fun env1 => TE env1 fun o env3 => ∃ y env4, o.fz env3 = some (y, env4) ∧ K y (wipeE env4 vs))
    (hd : Q (.bool (xs.all p)) env) : pLc G tYes' TE vs (fun ds env' => ∃ d, gAll [PyData.list ds] = some d ∧ Q d env') xs [] env := by
  have e0 : xs = xs.map id := (List.map_id _).symm
  have h := map_comp (f := fun x => PyData.bool (p x)) (G := G) (TE := TE) (vs := vs) (Q := fun ds env' => ∃ d, gAll [PyData.list ds] = some d ∧ Q d env') (xs := xs) (e := id) (env := env) (fun x hx K hK => hs x hx K hK) ?_
  · rw [← e0] at h
    exact h
  · have : xs.map (fun x => PyData.bool (p x)) = (xs.map p).map PyData.bool := by rw [List.map_map]; rfl
    rw [this, gAll_b]
    have e : (xs.map p).all id = xs.all p := by rw [List.all_map]; rfl
    exact ⟨_, by rw [e], hd⟩
theorem jointB_J {d : D} (h : isJointB d = true) : Jt d ∧ d = .tuple (srtD (tupE d)) ∧ ∀ x ∈ tupE d, isEndB x = true := by
  unfold isJointB at h
  split at h
  · rename_i es
    rw [Bool.and_eq_true, Bool.and_eq_true, Bool.or_eq_true, beq_iff_eq, beq_iff_eq, List.all_eq_true] at h
    obtain ⟨h1, h2, h3⟩ := h
    have hE : ∀ x ∈ es, IsE x := fun x hx => endB_E (h2 x hx)
    have e : es = srtD es := by
      have := (eqv_hn 2 (.list es) (.list (srtD es)) (fun x hx => hn_E (hE x hx) 0) fun x hx => hn_E (hE x (srtD_mem.mp hx)) 0).mp h3
      injection this
    refine ⟨?_, by show _ = PyData.tuple (srtD es); rw [← e], h2⟩
    rcases h1 with h1 | h1
    · match es, h1 with
      | [a], _ => exact .one (hE a (by simp))
    · match es, h1 with
      | [a, b], _ => exact .two (hE a (by simp)) (hE b (by simp))
  · cases h
def sp_is_joint : PSp := fun fl ds Q => fl = none ∧ ∃ d, ds = [d] ∧ OkN 2 d ∧ Q (.dt (.bool (isJointB d))) none
abbrev N_is_joint : List Str := ["thing", "end"]
def T_is_joint : PS' := (sSeq (sIf (tOr' (tNot' (qTest (qIsi .tuple (qVar 0)))) (qTest (qOp (gIn true) (qCB gLen (qCons (qVar 0) qNil)) (qTup (qCons (qC (.int 1)) (qCons (qC (.int 2)) qNil)))))) (sRet (qC (.bool false))) sNil)
  (sRet (qAnd (qCB gAll (qCons (qF (fLc (iAny (qVar 0)) (gN 1) tYes' (qCall sp_is_end (qAddD (qCons (qVar 1) qNil) [])) [1])) qNil)) (qOp (gEq false) (qF (fCB gListF (qCons (qVar 0) qNil))) (qF (fCB gSortT (qCons (qVar 0) qNil)))))))
theorem pure_is_joint (fl : Option (List D)) (ds : List D) (Q : RV → Option (List D) → Prop) (_ : false = true ↔ fl ≠ none) (h : sp_is_joint fl ds Q) : T_is_joint (endsOf false Q) (startE false N_is_joint fl ds) := by
  obtain ⟨rfl, d, rfl, ho, k⟩ := h
  show T_is_joint _ [SV.dat d, SV.un]
  unfold T_is_joint
  rcases tup_or d with ⟨es, rfl⟩ | hn
  · refine sSeq_abs fun R hR => ?_
    walk_at "wp"
    rw [gIn12]
    walk_at "wp"
    refine ⟨sizeL (by decide), ?_⟩
    by_cases hl : es.length = 1 ∨ es.length = 2
    · have e1 : (es.length == 1 || es.length == 2) = true := by simpa using hl
      have e2 : ((es.length : Int) == 1 || (es.length : Int) == 2) = true := by simp; omega
      rw [e2]
      try rw [if_neg (by decide)]
      subst hR
      walk_at "wp"
      refine ⟨by have := ho.len; omega, ?_⟩
      refine all_compB (p := isEndB) (fun x hx K hK => ?_) ?_
      · walk_at "wp"
        exact ⟨rfl, x, rfl, ho.mem hx, hK⟩
      have k : Q (.dt (.bool ((es.length == 1 || es.length == 2) && (es.all isEndB && PyData.eqv (.list es) (.list (srtD es)))))) none := k
      rw [e1] at k
      cases ha : es.all isEndB with
      | false =>
        rw [ha] at k
        walk_at "wp"
        exact k
      | true =>
        rw [ha] at k
        have hE : ∀ x ∈ es, IsE x := fun x hx => endB_E (List.all_eq_true.mp ha x hx)
        walk_at "wp"
        rw [gSortT_ok (okSort_E hE)]
        walk_at "wp"
        rw [gEq_hn (n := 2) (a := .list es) (b := .list (srtD es)) false (fun x hx => hn_E (hE x hx) 0) (fun x hx => hn_E (hE x (srtD_mem.mp hx)) 0) (by omega)]
        walk_at "wp"
        exact k
    · have e1 : (es.length == 1 || es.length == 2) = false := by simp; omega
      have e2 : ((es.length : Int) == 1 || (es.length : Int) == 2) = false := by simp; omega
      have k : Q (.dt (.bool ((es.length == 1 || es.length == 2) && (es.all isEndB && PyData.eqv (.list es) (.list (srtD es)))))) none := k
      rw [e1] at k
      rw [e2]
      walk_at "wp"
      exact k
  · rw [jointB_noT hn] at k
    refine sSeq_abs fun R hR => ?_
    walk_at "wp"
    rw [if_pos (isi_noT hn)]
    exact k
def sp_is_half : PSp := fun fl ds Q => fl = none ∧ ∃ d, ds = [d] ∧ OkN 3 d ∧ Q (.dt (.bool (isHalfB d))) none
abbrev N_is_half : List Str := ["thing", "joint"]
def T_is_half : PS' := (sSeq (sIf (tOr' (tNot' (qTest (qIsi .tuple (qVar 0)))) (qTest (qOp (gIn true) (qCB gLen (qCons (qVar 0) qNil)) (qTup (qCons (qC (.int 1)) (qCons (qC (.int 2)) qNil)))))) (sRet (qC (.bool false))) sNil)
  (sRet (qAnd (qCB gAll (qCons (qF (fLc (iAny (qVar 0)) (gN 1) tYes' (qCall sp_is_joint (qAddD (qCons (qVar 1) qNil) [])) [1])) qNil)) (qOp (gEq false) (qF (fCB gListF (qCons (qVar 0) qNil))) (qF (fCB gSortT (qCons (qVar 0) qNil)))))))
theorem pure_is_half (fl : Option (List D)) (ds : List D) (Q : RV → Option (List D) → Prop) (_ : false = true ↔ fl ≠ none) (h : sp_is_half fl ds Q) : T_is_half (endsOf false Q) (startE false N_is_half fl ds) := by
  obtain ⟨rfl, d, rfl, ho, k⟩ := h
  show T_is_half _ [SV.dat d, SV.un]
  unfold T_is_half
  rcases tup_or d with ⟨es, rfl⟩ | hn
  · refine sSeq_abs fun R hR => ?_
    walk_at "wp"
    rw [gIn12]
    walk_at "wp"
    refine ⟨sizeL (by decide), ?_⟩
    by_cases hl : es.length = 1 ∨ es.length = 2
    · have e1 : (es.length == 1 || es.length == 2) = true := by simpa using hl
      have e2 : ((es.length : Int) == 1 || (es.length : Int) == 2) = true := by simp; omega
      rw [e2]
      try rw [if_neg (by decide)]
      subst hR
      walk_at "wp"
      refine ⟨by have := ho.len; omega, ?_⟩
      refine all_compB (p := isJointB) (fun x hx K hK => ?_) ?_
      · walk_at "wp"
        exact ⟨rfl, x, rfl, ho.mem hx, hK⟩
      have k : Q (.dt (.bool ((es.length == 1 || es.length == 2) && (es.all isJointB && PyData.eqv (.list es) (.list (srtD es)))))) none := k
      rw [e1] at k
      cases ha : es.all isJointB with
      | false =>
        rw [ha] at k
        walk_at "wp"
        exact k
      | true =>
        rw [ha] at k
        have hE : ∀ x ∈ es, IsJ x := fun x hx => (jointB_J (List.all_eq_true.mp ha x hx)).1.isJ
        walk_at "wp"
        rw [gSortT_ok (okSort_J hE)]
        walk_at "wp"
        rw [gEq_hn (n := 3) (a := .list es) (b := .list (srtD es)) false (fun x hx => hn_J (hE x hx) 0) (fun x hx => hn_J (hE x (srtD_mem.mp hx)) 0) (by omega)]
        walk_at "wp"
        exact k
    · have e1 : (es.length == 1 || es.length == 2) = false := by simp; omega
      have e2 : ((es.length : Int) == 1 || (es.length : Int) == 2) = false := by simp; omega
      have k : Q (.dt (.bool ((es.length == 1 || es.length == 2) && (es.all isJointB && PyData.eqv (.list es) (.list (srtD es)))))) none := k
      rw [e1] at k
      rw [e2]
      walk_at "wp"
      exact k
  · rw [halfB_noT hn] at k
    refine sSeq_abs fun R hR => ?_
    walk_at "wp"
    rw [if_pos (isi_noT hn)]
    exact k

end Sw

open PySem PySem.Spec L2 Sw
namespace Sw
theorem setLen_E {xs : List D} (h : ∀ x ∈ xs, IsE x) (hl : xs.length ≤ 4) : SetLen xs (cntA xs) := by
  obtain ⟨ns, rfl, hk⟩ := row_of (f := nkD) (P := fun k => (∃ z, k = .tup z) ∧ k.depth ≤ 8) (L := xs) fun x hx => by
    obtain ⟨z, s, rfl⟩ := h x hx
    exact ⟨.tup [.text z, .num s], ⟨⟨_, rfl⟩, by simp [NestedKey.depth, NestedKey.depthAll]⟩, rfl⟩
  refine .inr ⟨ns, rfl, hk, by rw [List.length_map] at hl; exact hl, cntA_map (fun a b e => ?_) ns⟩
  have := eqv_nk a b
  rw [e, eqv_nk b b, decide_eq_true (Eq.refl b)] at this
  exact of_decide_eq_true this.symm
def sp_ends_in : PSp := fun fl ds Q => fl = none ∧ ∃ js, ds = [.tuple js] ∧ (∀ j ∈ js, Jt j) ∧ js.length ≤ 1000 ∧ Q (.fr (srtD (js.flatMap tupE))) none
abbrev N_ends_in : List Str := ["joints", "found", "joint"]
def T_ends_in : PS' := (sSeq (sAsgF 1 (fLst (qNil)))
  (sSeq (sFor (iAny (qVar 0)) (gN 2) (sDrop (qMO 1 gExtend (qCons (qVar 2) qNil))))
  (sRetF (fCB gSortD (qCons (qVar 1) qNil)))))
theorem flat_jt {js : List D} (h : ∀ j ∈ js, Jt j) : (js.flatMap tupE).length ≤ 2 * js.length := flat_len fun j hj => (h j hj).len.2
theorem flat_isE {js : List D} (h : ∀ j ∈ js, Jt j) : ∀ x ∈ js.flatMap tupE, IsE x := fun x hx => by
  obtain ⟨j, hj, hx⟩ := List.mem_flatMap.mp hx
  exact (h j hj).isE x hx
theorem pure_ends_in (fl : Option (List D)) (ds : List D) (Q : RV → Option (List D) → Prop) (_ : false = true ↔ fl ≠ none) (h : sp_ends_in fl ds Q) : T_ends_in (endsOf false Q) (startE false N_ends_in fl ds) := by
  obtain ⟨rfl, js, rfl, hJ, hl, k⟩ := h
  show T_ends_in _ [SV.dat (.tuple js), SV.un, SV.un]
  unfold T_ends_in
  refine sSeq_abs fun R hR => ?_
  walk_at "wp"
  refine ⟨sizeL (by decide), ?_⟩
  subst hR
  refine cut_seq (fun env => ∃ y, env = [SV.dat (.tuple js), SV.own false (js.flatMap tupE), y]) ?_ fun nx hnx => ?_
  · rintro env ⟨y, rfl⟩
    walk_at "wp"
    rw [gSortD_ok (okSort_E (flat_isE hJ))]
    walk_at "wp"
    exact k
  refine sFor_abs fun BB hBB => ?_
  walk_at "wp"
  refine pFor_inv (fun i env => ∃ y, env = [SV.dat (.tuple js), SV.own false ((js.take i).flatMap tupE), y]) ⟨_, rfl⟩ ?_ (fun env h => hnx env (by rw [List.take_length] at h; exact h))
  rintro i j hd env ⟨z, rfl⟩ K hK
  have hj := hJ j (List.mem_of_getElem? hd)
  have hil := (List.getElem?_eq_some_iff.mp hd).1
  have hf := flat_jt (js := js.take i) fun x hx => hJ x (List.mem_of_mem_take hx)
  have ht : (js.take i).length ≤ i := by rw [List.length_take]; omega
  have hjl := hj.len
  have ej := hj.tup
  subst hBB
  have nxt : (js.take (i + 1)).flatMap tupE = (js.take i).flatMap tupE ++ tupE j := by
    rw [List.take_add_one, hd, List.flatMap_append]
    simp
  walk_at "wp"
  rw [ej]
  walk_at "wp"
  refine ⟨sizeL (by omega), hK _ ⟨SV.dat (.tuple (tupE j)), ?_⟩⟩
  rw [nxt]
noncomputable def isDeedB : D → Bool
  | .tuple [.tuple g, .tuple c] => isHalfB (.tuple g) && (isHalfB (.tuple c) && (!(PyData.eqv (.tuple g) (.tuple c)) && (PyData.eqv (.list (srtD (g.flatMap tupE))) (.list (srtD (c.flatMap tupE))) && (cntA (srtD (g.flatMap tupE)) == (srtD (g.flatMap tupE)).length))))
  | _ => false
theorem halfB_js {g : List D} (h : isHalfB (.tuple g) = true) : (g.length = 1 ∨ g.length = 2) ∧ (∀ j ∈ g, Jt j ∧ j = .tuple (srtD (tupE j)) ∧ ∀ x ∈ tupE j, isEndB x = true) ∧ g = srtD g := by
  unfold isHalfB at h
  rw [Bool.and_eq_true, Bool.and_eq_true, Bool.or_eq_true, beq_iff_eq, beq_iff_eq, List.all_eq_true] at h
  obtain ⟨h1, h2, h3⟩ := h
  have hj := fun j hj => jointB_J (h2 j hj)
  refine ⟨h1, hj, ?_⟩
  have := (eqv_hn 3 (.list g) (.list (srtD g)) (fun x hx => hn_J (hj x hx).1.isJ 0) fun x hx => hn_J (hj x (srtD_mem.mp hx)).1.isJ 0).mp h3
  injection this
def sp_is_deed : PSp := fun fl ds Q => fl = none ∧ ∃ d, ds = [d] ∧ OkN 4 d ∧ Q (.dt (.bool (isDeedB d))) none
abbrev N_is_deed : List Str := ["thing", "gone", "come", "ends"]
def T_is_deed : PS' := (sSeq (sIf (tOr' (tNot' (qTest (qIsi .tuple (qVar 0)))) (qTest (qOp (gEq true) (qCB gLen (qCons (qVar 0) qNil)) (qC (.int 2))))) (sRet (qC (.bool false))) sNil)
  (sSeq (sAsgG (qVar 0) (gT 2 (gsC (gN 1) (gsC (gN 2) gsN))))
  (sSeq (sIf (tOr' (tNot' (qTest (qCall sp_is_half (qAddD (qCons (qVar 1) qNil) [])))) (tOr' (tNot' (qTest (qCall sp_is_half (qAddD (qCons (qVar 2) qNil) [])))) (qTest (qOp (gEq false) (qVar 1) (qVar 2))))) (sRet (qC (.bool false))) sNil)
  (sSeq (sAsg 3 (qCall sp_ends_in (qAddD (qCons (qVar 1) qNil) [])))
  (sRet (qAnd (qOp (gEq false) (qVar 3) (qCall sp_ends_in (qAddD (qCons (qVar 2) qNil) []))) (qOp (gEq false) (qLenSet (qVar 3)) (qCB gLen (qCons (qVar 3) qNil)))))))))
theorem pure_is_deed (fl : Option (List D)) (ds : List D) (Q : RV → Option (List D) → Prop) (_ : false = true ↔ fl ≠ none) (h : sp_is_deed fl ds Q) : T_is_deed (endsOf false Q) (startE false N_is_deed fl ds) := by
  obtain ⟨rfl, d, rfl, ho, k⟩ := h
  show T_is_deed _ [SV.dat d, SV.un, SV.un, SV.un]
  unfold T_is_deed
  rcases tup_or d with ⟨es, rfl⟩ | hn
  · refine sSeq_abs fun R hR => ?_
    walk_at "wp"
    by_cases hl : es.length = 2
    · obtain ⟨a, b, rfl⟩ := len2 hl
      walk_at "wp"
      rw [if_neg (by decide)]
      split
      · rename_i h
        exact absurd rfl h
      subst hR
      refine sSeq_abs fun R hR => ?_
      walk_at "wp"
      subst hR
      refine sSeq_abs fun R hR => ?_
      walk_at "wp"
      refine ⟨rfl, a, rfl, ho.mem (by simp), ?_⟩
      walk_at "wp"
      by_cases hg : ∃ g, a = .tuple g ∧ isHalfB a = true
      rotate_left
      · have e1 : isHalfB a = false := by
          rcases tup_or a with ⟨g, e⟩ | hna
          · exact Bool.not_eq_true _ ▸ fun z => hg ⟨g, e, z⟩
          · exact halfB_noT hna
        have e2 : isDeedB (.tuple [a, b]) = false := by
          unfold isDeedB
          split
          · rename_i g c e
            cases e
            rw [e1]; rfl
          · rfl
        rw [e1]
        rw [e2] at k
        walk_at "wp"
        exact k
      obtain ⟨g, rfl, hgB⟩ := hg
      rw [hgB]
      try rw [if_neg (by decide)]
      refine ⟨rfl, b, rfl, ho.mem (by simp), ?_⟩
      walk_at "wp"
      by_cases hc : ∃ c, b = .tuple c ∧ isHalfB b = true
      rotate_left
      · have e1 : isHalfB b = false := by
          rcases tup_or b with ⟨g, e⟩ | hna
          · exact Bool.not_eq_true _ ▸ fun z => hc ⟨g, e, z⟩
          · exact halfB_noT hna
        have e2 : isDeedB (.tuple [.tuple g, b]) = false := by
          unfold isDeedB
          split
          · rename_i g c e
            cases e
            rw [e1, Bool.false_and, Bool.and_false]
          · rfl
        rw [e1]
        rw [e2] at k
        walk_at "wp"
        exact k
      obtain ⟨c, rfl, hcB⟩ := hc
      rw [hcB]
      try rw [if_neg (by decide)]
      obtain ⟨g1, g2, g3⟩ := halfB_js hgB
      obtain ⟨c1, c2, c3⟩ := halfB_js hcB
      have gJ : ∀ j ∈ g, Jt j := fun j hj => (g2 j hj).1
      have cJ : ∀ j ∈ c, Jt j := fun j hj => (c2 j hj).1
      have k : Q (.dt (.bool (isHalfB (.tuple g) && (isHalfB (.tuple c) && (!(PyData.eqv (.tuple g) (.tuple c)) && (PyData.eqv (.list (srtD (g.flatMap tupE))) (.list (srtD (c.flatMap tupE))) && (cntA (srtD (g.flatMap tupE)) == (srtD (g.flatMap tupE)).length))))))) none := k
      rw [hgB, hcB, Bool.true_and, Bool.true_and] at k
      rw [gEq_hn (n := 3) (a := .tuple g) (b := .tuple c) false (fun x hx => hn_J (gJ x hx).isJ 0) (fun x hx => hn_J (cJ x hx).isJ 0) (by omega)]
      cases he : PyData.eqv (.tuple g) (.tuple c) with
      | true =>
        rw [he] at k
        walk_at "wp"
        exact k
      | false =>
        rw [he] at k
        walk_at "wp"
        subst hR
        refine sSeq_abs fun R hR => ?_
        walk_at "wp"
        refine ⟨rfl, g, rfl, gJ, by omega, ?_⟩
        walk_at "wp"
        subst hR
        walk_at "wp"
        refine ⟨rfl, c, rfl, cJ, by omega, ?_⟩
        walk_at "wp"
        have gE := flat_isE gJ
        have cE := flat_isE cJ
        rw [gEq_hn (n := 2) (a := .list (srtD (g.flatMap tupE))) (b := .list (srtD (c.flatMap tupE))) false (fun x hx => hn_E (gE x (srtD_mem.mp hx)) 0) (fun x hx => hn_E (cE x (srtD_mem.mp hx)) 0) (by omega)]
        have k : Q (.dt (.bool ((PyData.eqv (.list (srtD (g.flatMap tupE))) (.list (srtD (c.flatMap tupE))) && (cntA (srtD (g.flatMap tupE)) == (srtD (g.flatMap tupE)).length))))) none := k
        cases hq : PyData.eqv (.list (srtD (g.flatMap tupE))) (.list (srtD (c.flatMap tupE))) with
        | false =>
          rw [hq] at k
          walk_at "wp"
          exact k
        | true =>
          rw [hq] at k
          walk_at "wp"
          simp only [qLenSet]
          walk_at "wp"
          have fl := flat_jt gJ
          have e3 : ((cntA (srtD (g.flatMap tupE)) : Int) == ((srtD (g.flatMap tupE)).length : Int)) = (cntA (srtD (g.flatMap tupE)) == (srtD (g.flatMap tupE)).length) := by
            rw [Bool.eq_iff_iff, beq_iff_eq, beq_iff_eq]
            omega
          refine ⟨_, setLen_E (fun x hx => gE x (srtD_mem.mp hx)) (by rw [srtD_len]; omega), ?_⟩
          rw [e3]
          exact k
    · have e : isDeedB (.tuple es) = false := by
        unfold isDeedB
        split
        · rename_i g c e
          cases e
          exact absurd rfl hl
        · rfl
      rw [e] at k
      have e2 : ¬ (es.length : Int) = 2 := by omega
      simp only [e2]
      walk_at "wp"
      exact k
  · have e : isDeedB d = false := by
      unfold isDeedB
      split
      · exact absurd rfl (hn _)
      · rfl
    rw [e] at k
    refine sSeq_abs fun R hR => ?_
    walk_at "wp"
    rw [if_pos (isi_noT hn)]
    exact k

end Sw

open PySem PySem.Spec L2 Sw
namespace Sw
theorem ok1_no {d : D} (h : ∀ z, d ≠ .str z) (n : Nat) (h2 : ∀ ds, d ≠ .tuple ds) : OkN n d := by
  cases n with
  | zero => exact fun z e => absurd e (h z)
  | succ n => exact ⟨fun z e => absurd e (h z), fun ds e => absurd e (h2 ds)⟩
theorem okN_tup {n : Nat} {ds : List D} (hl : ds.length ≤ 100000) (h : ∀ x ∈ ds, OkN n x) : OkN (n + 1) (.tuple ds) := ⟨fun z e => (nomatch e), fun es e => (by cases e; exact ⟨hl, h⟩)⟩
theorem okN_end {x : D} (h : isEndB x = true) (n : Nat) : OkN (n + 1) x := by
  obtain ⟨z, i, rfl, hz, _⟩ := endB_is h
  refine okN_tup (by simp) fun y hy => ?_
  rcases List.mem_cons.mp hy with rfl | hy
  · have hs : ok1 (.str z) := fun w e => by cases e; have := hz.2.2; omega
    cases n with
    | zero => exact hs
    | succ n => exact ⟨hs, fun ds e => (nomatch e)⟩
  · rw [List.mem_singleton.mp hy]
    exact ok1_no (d := .int i) (fun z e => by cases e) n (fun ds e => by cases e)
theorem okN_joint {j : D} (h : isJointB j = true) (n : Nat) : OkN (n + 2) j := by
  obtain ⟨h1, h2, h3⟩ := jointB_J h
  rw [h1.tup]
  exact okN_tup (by have := h1.len; omega) fun x hx => okN_end (h3 x hx) n
/-- what stands in a deed -/
structure DF (g c : List D) : Prop where
  gl : g.length = 1 ∨ g.length = 2
  cl : c.length = 1 ∨ c.length = 2
  gj : ∀ j ∈ g, isJointB j = true
  cj : ∀ j ∈ c, isJointB j = true
  gs : g = srtD g
  cs : c = srtD c
  ne : g ≠ c
  pe : (g.flatMap tupE).Perm (c.flatMap tupE)
  nd : (g.flatMap tupE).Nodup
theorem half_of {g : List D} (gl : g.length = 1 ∨ g.length = 2) (gj : ∀ j ∈ g, isJointB j = true) (gs : g = srtD g) : isHalfB (.tuple g) = true := by
  have e1 : (g.length == 1 || g.length == 2) = true := by simpa using gl
  show ((g.length == 1 || g.length == 2) && (g.all isJointB && PyData.eqv (.list g) (.list (srtD g)))) = true
  rw [e1, List.all_eq_true.mpr gj, ← gs]
  exact (eqv_hn 3 (.list g) (.list g) (fun x hx => hn_J (jointB_J (gj x hx)).1.isJ 0) fun x hx => hn_J (jointB_J (gj x hx)).1.isJ 0).mpr rfl
theorem deedB_iff {g c : List D} : isDeedB (.tuple [.tuple g, .tuple c]) = true ↔ DF g c := by
  have un : isDeedB (.tuple [.tuple g, .tuple c]) = (isHalfB (.tuple g) && (isHalfB (.tuple c) && (!(PyData.eqv (.tuple g) (.tuple c)) && (PyData.eqv (.list (srtD (g.flatMap tupE))) (.list (srtD (c.flatMap tupE))) && (cntA (srtD (g.flatMap tupE)) == (srtD (g.flatMap tupE)).length))))) := rfl
  rw [un]
  constructor
  · intro h
    rw [Bool.and_eq_true, Bool.and_eq_true, Bool.and_eq_true, Bool.and_eq_true, Bool.not_eq_true', beq_iff_eq] at h
    obtain ⟨h1, h2, h3, h4, h5⟩ := h
    obtain ⟨g1, g2, g3⟩ := halfB_js h1
    obtain ⟨c1, c2, c3⟩ := halfB_js h2
    have gE := flat_isE fun j hj => (g2 j hj).1
    have cE := flat_isE fun j hj => (c2 j hj).1
    have he := (eqv_hn 2 (.list (srtD (g.flatMap tupE))) (.list (srtD (c.flatMap tupE))) (fun x hx => hn_E (gE x (srtD_mem.mp hx)) 0) fun x hx => hn_E (cE x (srtD_mem.mp hx)) 0).mp h4
    injection he with he
    have hgj : ∀ j ∈ g, isJointB j = true := by
      unfold isHalfB at h1
      rw [Bool.and_eq_true, Bool.and_eq_true, List.all_eq_true] at h1
      exact h1.2.1
    have hcj : ∀ j ∈ c, isJointB j = true := by
      unfold isHalfB at h2
      rw [Bool.and_eq_true, Bool.and_eq_true, List.all_eq_true] at h2
      exact h2.2.1
    refine ⟨g1, c1, hgj, hcj, g3, c3, fun e => ?_, ?_, ?_⟩
    · subst e
      rw [(eqv_hn 3 (.tuple g) (.tuple g) (fun x hx => hn_J (g2 x hx).1.isJ 0) fun x hx => hn_J (g2 x hx).1.isJ 0).mpr rfl] at h3
      cases h3
    · exact (srtD_perm _).symm.trans (he ▸ srtD_perm _)
    · exact (srtD_perm _).nodup_iff.mp ((cntA_iff _).mp h5)
  · intro h
    have gJ := fun j hj => (jointB_J (h.gj j hj)).1
    have cJ := fun j hj => (jointB_J (h.cj j hj)).1
    have gE := flat_isE gJ
    have cE := flat_isE cJ
    have e3 : PyData.eqv (.tuple g) (.tuple c) = false := by
      rw [← Bool.not_eq_true, eqv_hn 3 (.tuple g) (.tuple c) (fun x hx => hn_J (gJ x hx).isJ 0) fun x hx => hn_J (cJ x hx).isJ 0]
      exact fun e => h.ne (by injection e)
    have e4 : srtD (g.flatMap tupE) = srtD (c.flatMap tupE) := srtD_congr (alikeE cE) h.pe
    have e5 : PyData.eqv (.list (srtD (g.flatMap tupE))) (.list (srtD (c.flatMap tupE))) = true :=
      (eqv_hn 2 (.list (srtD (g.flatMap tupE))) (.list (srtD (c.flatMap tupE))) (fun x hx => hn_E (gE x (srtD_mem.mp hx)) 0) fun x hx => hn_E (cE x (srtD_mem.mp hx)) 0).mpr (by rw [e4])
    rw [half_of h.gl h.gj h.gs, half_of h.cl h.cj h.cs, e3, e5, (cntA_iff _).mpr ((srtD_perm _).nodup_iff.mpr h.nd)]
    simp
theorem DF.dx {g c : List D} (h : DF g c) : Dx (.tuple [.tuple g, .tuple c]) g c where
  eq := rfl
  g := fun j hj => (jointB_J (h.gj j hj)).1
  c := fun j hj => (jointB_J (h.cj j hj)).1
  g1 := fun e => by have := h.gl; rw [e] at this; simp at this
  c1 := fun e => by have := h.cl; rw [e] at this; simp at this
  lg := by rcases h.gl with e | e <;> omega
  lc := by rcases h.cl with e | e <;> omega
theorem DF.back {g c : List D} (h : DF g c) : DF c g := ⟨h.cl, h.gl, h.cj, h.gj, h.cs, h.gs, h.ne.symm, h.pe.symm, h.pe.nodup_iff.mp h.nd⟩
end Sw

open PySem PySem.Spec L2 Sw
namespace Sw

end Sw

open PySem PySem.Spec L2 Sw
namespace Sw
theorem jointB_of {j : D} (h : Jt j) (hs : j = .tuple (srtD (tupE j))) (he : ∀ x ∈ tupE j, isEndB x = true) : isJointB j = true := by
  have e1 : tupE j = srtD (tupE j) := by
    have := h.tup
    rw [hs] at this
    injection this with this
    rw [← hs] at this
    exact this.symm
  have hl := h.len
  rw [h.tup]
  show (((tupE j).length == 1 || (tupE j).length == 2) && ((tupE j).all isEndB && PyData.eqv (.list (tupE j)) (.list (srtD (tupE j))))) = true
  rw [← e1, List.all_eq_true.mpr he, (eqv_hn 2 (.list (tupE j)) (.list (tupE j)) (fun x hx => hn_E (h.isE x hx) 0) fun x hx => hn_E (h.isE x hx) 0).mpr rfl]
  have e2 : ((tupE j).length == 1 || (tupE j).length == 2) = true := by simp; omega
  rw [e2]
  rfl
theorem srt_pair {j k : D} (hj : IsJ j) (hk : IsJ k) (h : leD j k = true) : [j, k] = srtD [j, k] := srtD_eq (allAlikeJ fun z hz => by
    rcases List.mem_cons.mp hz with rfl | hz
    · exact hj
    · rw [List.mem_singleton.mp hz]; exact hk) (List.Perm.refl _) (by simp [h])
theorem srt_pairS (x y : D) (hx : IsJ x) (hy : IsJ y) : srtD [x, y] = srtD (srtD [x, y]) := srt_srt fun j hj => by
  rcases List.mem_cons.mp hj with rfl | hj
  · exact hx
  · rw [List.mem_singleton.mp hj]; exact hy
theorem srt_one (x : D) : [x] = srtD [x] := by
  have := srtD_perm [x]
  exact (List.perm_singleton.mp this).symm
/-- the deed that takes j and k away -/
theorem dd_DF {j k x y : D} (hj : isJointB j = true) (hk : isJointB k = true) (hx : isJointB x = true) (hy : isJointB y = true) (hle : leD j k = true) (hxj : x ≠ j) (hxk : x ≠ k) (hnd : (tupE j ++ tupE k).Nodup) (hp : (tupE j ++ tupE k).Perm (tupE x ++ tupE y)) : DF [j, k] (srtD [x, y]) where
  gl := .inr rfl
  cl := .inr (srtD_len _)
  gj := fun i hi => by
    rcases List.mem_cons.mp hi with rfl | hi
    · exact hj
    · rw [List.mem_singleton.mp hi]; exact hk
  cj := fun i hi => by
    have hi := srtD_mem.mp hi
    rcases List.mem_cons.mp hi with rfl | hi
    · exact hx
    · rw [List.mem_singleton.mp hi]; exact hy
  gs := srt_pair (jointB_J hj).1.isJ (jointB_J hk).1.isJ hle
  cs := srt_pairS x y (jointB_J hx).1.isJ (jointB_J hy).1.isJ
  ne := fun e => by
    have hm : x ∈ [j, k] := by rw [e]; exact srtD_mem.mpr List.mem_cons_self
    rcases List.mem_cons.mp hm with z | z
    · exact hxj z
    · exact hxk (List.mem_singleton.mp z)
  pe := by
    have e1 : [j, k].flatMap tupE = tupE j ++ tupE k := by simp
    have e2 : [x, y].flatMap tupE = tupE x ++ tupE y := by simp
    rw [e1]
    exact hp.trans (e2 ▸ ((srtD_perm [x, y]).flatMap_right tupE).symm)
  nd := by
    have e1 : [j, k].flatMap tupE = tupE j ++ tupE k := by simp
    rw [e1]
    exact hnd
end Sw

open PySem PySem.Spec L2 Sw
namespace Sw
section
variable {ns : List Str} {js : List D}
theorem JsOk.stand (J : JsOk ns js) (hn : ns.Nodup) {e : En} (he : e.1 ∈ ns) : ∃ j ∈ js, lookD (js.flatMap bE) (eD e) = some j ∧ ((j = .tuple [eD e] ∧ pJ js e = none) ∨ ∃ f, pJ js e = some f ∧ f.1 ∈ ns ∧ (j = .tuple [eD e, eD f] ∨ j = .tuple [eD f, eD e])) := by
  have hk : eD e ∈ (js.flatMap bE).map Prod.fst := by rw [bEs_keys]; exact J.mem.mpr ⟨e, he, rfl⟩
  obtain ⟨j, hl, hm⟩ := lookE_some (bEs_isE J.form) (by rw [bEs_keys]; exact J.nod hn) hk
  obtain ⟨j', hj', hm⟩ := List.mem_flatMap.mp hm
  obtain ⟨x, hx, e1⟩ := List.mem_map.mp hm
  injection e1 with e1 e2
  subst e1 e2
  refine ⟨j', hj', hl, ?_⟩
  obtain ⟨i, hi, hp⟩ := List.mem_flatMap.mp ((J.look hn (isE_en e)).mp (J.tot hn he))
  have hin : eD e ∈ tupE i := by
    have := jP_keys (J.form i hi)
    rw [← this]
    exact List.mem_map_of_mem hp
  have ei : i = j' := J.one_is hn hi hj' hin hx
  subst ei
  cases q : pJ js e with
  | none =>
    rw [q] at hp
    rcases (jP_mem (J.form i hi)).mp hp with ⟨z, _⟩ | ⟨_, z⟩ | ⟨_, z⟩
    · exact .inl ⟨z, rfl⟩
    · obtain ⟨_, _, z⟩ := z; cases z
    · obtain ⟨_, _, z⟩ := z; cases z
  | some f =>
    rw [q] at hp
    refine .inr ⟨f, rfl, (J.pj hn q).2, ?_⟩
    rcases (jP_mem (J.form i hi)).mp hp with ⟨_, z⟩ | ⟨z, _⟩ | ⟨z, _⟩
    · cases z
    · exact .inl z
    · exact .inr z
end
end Sw

open PySem PySem.Spec L2 Sw
namespace Sw
/-- where the work stands -/
structure CanI (ns : List Str) (js : List D) (F1 L : List En) (i : Nat) (ss : List Strand) (sk : List (D × D)) : Prop where
  made : Made ns js ss
  sks : StrK sk
  see : ∀ z : Str, (lookD sk (.str z)).isSome = true ↔ z ∈ (beadsOf ss).map Prod.snd
  len : sk.length ≤ (beadsOf ss).length
  past : ∀ k e, k < i → L[k]? = some e → e.1 ∈ (beadsOf ss).map Prod.snd
  form : ∀ s ∈ ss, FormS s
  row : ss.Pairwise leK
  beg : ∀ s ∈ ss, ∃ m e, m < i ∧ L[m]? = some e ∧ firstB s.2 = bdE e ∧ (s.1 = true ↔ F1.length ≤ m)
section
variable {ns : List Str} {js : List D} {F1 F2 : List En} {i : Nat} {ss : List Strand} {sk : List (D × D)}
theorem CanI.on (C : CanI ns js F1 (F1 ++ F2) i ss sk) {e : En} (h : (F1 ++ F2)[i]? = some e) (hs : e.1 ∈ (beadsOf ss).map Prod.snd) : CanI ns js F1 (F1 ++ F2) (i + 1) ss sk where
  made := C.made
  sks := C.sks
  see := C.see
  len := C.len
  past := fun k f hk hf => by
    by_cases q : k = i
    · subst q
      rw [h] at hf
      cases hf
      exact hs
    · exact C.past k f (by omega) hf
  form := C.form
  row := C.row
  beg := fun s hs => by
    obtain ⟨m, e, h1, h2⟩ := C.beg s hs
    exact ⟨m, e, by omega, h2⟩
end

end Sw

open PySem PySem.Spec L2 Sw
namespace Sw
theorem sp_S : spT = SX.S [32] := by decide +kernel
theorem nl_S : Str.ofString "\n" = SX.S [10] := by decide +kernel
theorem ti_S : Str.ofString "~" = SX.S [126] := by decide +kernel
theorem da_S : Str.ofString "-" = SX.S [45] := by decide +kernel
theorem split_join {c : Nat} (hc : c < 256) {ws : List Str} (h0 : ws ≠ []) (h : ∀ w ∈ ws, c ∉ w.cps.toList) : Txt.split (Txt.join (SX.S [c]) ws) (SX.S [c]) = ws := by
  obtain ⟨ls, rfl⟩ : ∃ ls : List (List Nat), ws = ls.map SX.S := ⟨ws.map fun w => w.cps.toList, by
    rw [List.map_map]
    conv => lhs; rw [← List.map_id ws]
    exact List.map_congr_left fun w _ => (SX.S_tl w).symm⟩
  rw [SX.join_S, SX.split_S (by simp) (by simpa using hc), SX.spl_join (by simpa using h0) fun p hp => h _ (List.mem_map_of_mem hp)]
theorem gSplit_join {c : Nat} (hc : c < 256) {ws : List Str} (h0 : ws ≠ []) (h : ∀ w ∈ ws, c ∉ w.cps.toList) (hl : (Txt.join (SX.S [c]) ws).length + 2 ≤ sizeLine) : gSplit (.str (Txt.join (SX.S [c]) ws)) [.str (SX.S [c])] = some (strsD ws) := by
  show (if _ then _ else _) = _
  rw [if_pos ⟨rfl, hl⟩, split_join hc h0 h]
/-- a whole number of at most four figures -/
theorem num_tl (n : Nat) : (digT (n : Int)).cps.toList = TL.numL n := TL.tl_num n
theorem num_len {n k : Nat} (hk : 0 < k) (h : n < 10 ^ k) : (digT (n : Int)).length ≤ k := by
  rw [len_tl, num_tl]
  exact TL.numL_len hk h
theorem numL_head : ∀ n : Nat, 1 ≤ n → ∃ c r, TL.numL n = c :: r ∧ 49 ≤ c ∧ c ≤ 57 := fun n => by
  induction n using Nat.strongRecOn with
  | _ n ih =>
    intro h1
    by_cases h : n < 10
    · exact ⟨48 + n, [], TL.numL_lt h, by omega, by omega⟩
    · obtain ⟨c, r, e, g1, g2⟩ := ih (n / 10) (by omega) (by omega)
      exact ⟨c, r ++ [48 + n % 10], by rw [TL.numL_step (by omega), e]; rfl, g1, g2⟩
theorem gInt_num {n : Nat} (h : n < 10000) : gIntS [.str (digT (n : Int))] = some (.int (n : Nat)) := by
  have hl := num_len (k := 4) (by decide) h
  show (if _ then _ else _) = _
  rw [if_pos (by omega)]
  have : intText? (digT (n : Int)) = some (n : Int) := TL.int_num (by have := TL.numL_len (k := 4) (by decide) h; omega)
  rw [this]
  rfl
theorem fig_S : (Str.ofString "0123456789").cps.toList = [48, 49, 50, 51, 52, 53, 54, 55, 56, 57] := by decide +kernel
theorem gIn_fig {c : Nat} (h1 : 48 ≤ c) (h2 : c ≤ 57) : gIn true (signD c) (.str (Str.ofString "0123456789")) = some (.bool false) := by
  show (if (1 : Nat) = 1 then some (PyData.bool (if true = true then !decide (c ∈ (Str.ofString "0123456789").cps.toList) else _)) else none) = _
  rw [if_pos rfl, if_pos rfl, fig_S]
  have : c ∈ [48, 49, 50, 51, 52, 53, 54, 55, 56, 57] := by
    simp only [List.mem_cons, List.not_mem_nil, or_false]
    omega
  rw [decide_eq_true this]
  rfl
theorem sign_num {n : Nat} {c : Nat} (h : c ∈ (digT (n : Int)).cps.toList) : 48 ≤ c ∧ c ≤ 57 := by
  rw [num_tl] at h
  exact TL.numL_digits n c h

end Sw

open PySem PySem.Spec L2 Sw
namespace Sw
theorem cut_head (z : Str) : (cutS z none (some 1)).cps.toList = z.cps.toList.take 1 := by
  unfold cutS
  show (z.cps.toList.drop _).take _ = _
  rw [HT.sIx_none, show (some (1 : Int)) = some ((1 : Nat) : Int) from rfl, HT.sIx_nat]
  rw [List.drop_zero, Nat.sub_zero, len_tl]
  by_cases h : 1 ≤ z.cps.toList.length
  · rw [show min 1 z.cps.toList.length = 1 by omega]
  · have : z.cps.toList = [] := List.length_eq_zero_iff.mp (by omega)
    rw [this]
    rfl
theorem cut_rest (z : Str) : (cutS z (some 1) none).cps.toList = z.cps.toList.drop 1 := by
  unfold cutS
  show (z.cps.toList.drop _).take _ = _
  rw [HT.sIx_none, show (some (1 : Int)) = some ((1 : Nat) : Int) from rfl, HT.sIx_nat, len_tl]
  by_cases h : 1 ≤ z.cps.toList.length
  · rw [show min 1 z.cps.toList.length = 1 by omega]
    exact List.take_of_length_le (by rw [List.length_drop]; exact Nat.le_refl _)
  · have : z.cps.toList = [] := List.length_eq_zero_iff.mp (by omega)
    rw [this]
    rfl
end Sw

open PySem PySem.Spec L2 Sw
namespace Sw
def sp_read_number_2 : PSp := fun fl ds Q => fl = none ∧ ∃ n : Nat, ds = [.str (digT (n : Int))] ∧ n < 10000 ∧ Q (.dt (.int (n : Nat))) none
abbrev N_read_number_2 : List Str := ["word", "sign"]
def T_read_number_2 : PS' := (sSeq (sFor (iAny (qVar 0)) (gN 1) (sIf (qTest (qOp (gIn true) (qVar 1) (qC (.str "0123456789")))) (sRaise) sNil))
  (sSeq (sIf (tOr' (qTest (qOp (gEq false) (qVar 0) (qC (.str "")))) (tOr' (qTest (qOp (gI (gCmp fun i j => decide (j < i))) (qCB gLen (qCons (qVar 0) qNil)) (qC (.int 4)))) (tAnd' (qTest (qOp (gEq false) (qOp gIx (qVar 0) (qC (.int 0))) (qC (.str "0")))) (qTest (qOp (gI (gCmp fun i j => decide (j < i))) (qCB gLen (qCons (qVar 0) qNil)) (qC (.int 1))))))) (sRaise) sNil)
  (sRet (qCB gIntS (qCons (qVar 0) qNil)))))
theorem pure_read_number_2 (fl : Option (List D)) (ds : List D) (Q : RV → Option (List D) → Prop) (_ : false = true ↔ fl ≠ none) (h : sp_read_number_2 fl ds Q) : T_read_number_2 (endsOf false Q) (startE false N_read_number_2 fl ds) := by
  obtain ⟨rfl, n, rfl, hn, k⟩ := h
  have gi := gInt_num hn
  have hl := num_len (k := 4) (by decide) hn
  have sg := fun c h => sign_num (n := n) (c := c) h
  have ln := len_tl (digT (n : Int))
  have tl := num_tl n
  have hd : (digT (n : Int)).cps.toList ≠ [] := by rw [tl]; exact TL.numL_ne n
  have h0 : 1 < (digT (n : Int)).length → ∃ c r, (digT (n : Int)).cps.toList = c :: r ∧ 49 ≤ c := fun h => by
    rw [tl]
    obtain ⟨c, r, e, g, _⟩ := numL_head n (Nat.one_le_iff_ne_zero.mpr fun e => by
      subst e
      rw [ln, tl, TL.numL_lt (by decide)] at h
      simp at h)
    exact ⟨c, r, e, g⟩
  generalize digT (n : Int) = w at *
  show T_read_number_2 _ [SV.dat (.str w), SV.un]
  unfold T_read_number_2
  refine sSeq_abs fun R hR => ?_
  walk_at "wp"
  refine pFor_inv (fun i env => ∃ y, env = [SV.dat (.str w), y]) ⟨_, rfl⟩ ?_ ?_
  · rintro i d hd env ⟨y, rfl⟩ K hK
    rw [List.getElem?_map] at hd
    obtain ⟨c, hc, rfl⟩ := Option.map_eq_some_iff.mp hd
    obtain ⟨g1, g2⟩ := sg c (List.mem_of_getElem? hc)
    walk_at "wp"
    refine ⟨_, gIn_fig g1 g2, ?_⟩
    walk_at "wp"
    exact hK _ ⟨_, rfl⟩
  rintro env ⟨y, rfl⟩
  subst hR
  walk_at "wp"
  obtain ⟨c, r, e⟩ : ∃ c r, w.cps.toList = c :: r := by
    cases q : w.cps.toList with
    | nil => exact absurd q hd
    | cons c r => exact ⟨c, r, rfl⟩
  rw [if_neg (fun e => hd (by rw [e]; rfl))]
  refine ⟨sizeL (by omega), ?_⟩
  rw [if_neg (by omega), e]
  refine ⟨PyData.str ⟨#[c]⟩, if_pos (sizeL (by omega)), ?_⟩
  refine eq_hn (n := 0) (hn_str _ _) (hn_str _ _) (by omega) (fun e1 => ⟨_, rfl, ?_⟩) (fun e1 => ⟨_, rfl, ?_⟩)
  · rw [if_pos rfl]
    refine ⟨sizeL (by omega), ?_⟩
    rw [if_neg (fun h1 => ?_)]
    · exact ⟨_, gi, k⟩
    · obtain ⟨c', r', e2, g⟩ := h0 (by omega)
      rw [e] at e2
      cases e2
      injection e1 with e1
      have := congrArg (fun z : Str => z.cps.toList) e1
      rw [show (Str.ofString "0").cps.toList = [48] by decide +kernel] at this
      simp at this
      omega
  · rw [if_neg (by decide)]
    exact ⟨_, gi, k⟩
def sp_read_number : PSp := fun fl ds Q => fl = none ∧ ∃ n : Nat, ds = [.str (digT (n : Int))] ∧ n < 1000 ∧ Q (.dt (.int (n : Nat))) none
abbrev N_read_number : List Str := ["word", "sign"]
def T_read_number : PS' := (sSeq (sFor (iAny (qVar 0)) (gN 1) (sIf (qTest (qOp (gIn true) (qVar 1) (qC (.str "0123456789")))) (sRaise) sNil))
  (sSeq (sIf (tOr' (qTest (qOp (gIn true) (qCB gLen (qCons (qVar 0) qNil)) (qTup (qCons (qC (.int 1)) (qCons (qC (.int 2)) (qCons (qC (.int 3)) qNil)))))) (tAnd' (qTest (qOp (gEq false) (qOp gIx (qVar 0) (qC (.int 0))) (qC (.str "0")))) (qTest (qOp (gI (gCmp fun i j => decide (j < i))) (qCB gLen (qCons (qVar 0) qNil)) (qC (.int 1)))))) (sRaise) sNil)
  (sRet (qCB gIntS (qCons (qVar 0) qNil)))))
theorem pure_read_number (fl : Option (List D)) (ds : List D) (Q : RV → Option (List D) → Prop) (_ : false = true ↔ fl ≠ none) (h : sp_read_number fl ds Q) : T_read_number (endsOf false Q) (startE false N_read_number fl ds) := by
  obtain ⟨rfl, n, rfl, hn, k⟩ := h
  have gi := gInt_num (n := n) (by omega)
  have hl := num_len (k := 3) (by decide) hn
  have sg := fun c h => sign_num (n := n) (c := c) h
  have ln := len_tl (digT (n : Int))
  have tl := num_tl n
  have hd : (digT (n : Int)).cps.toList ≠ [] := by rw [tl]; exact TL.numL_ne n
  have h0 : 1 < (digT (n : Int)).length → ∃ c r, (digT (n : Int)).cps.toList = c :: r ∧ 49 ≤ c := fun h => by
    rw [tl]
    obtain ⟨c, r, e, g, _⟩ := numL_head n (Nat.one_le_iff_ne_zero.mpr fun e => by
      subst e
      rw [ln, tl, TL.numL_lt (by decide)] at h
      simp at h)
    exact ⟨c, r, e, g⟩
  generalize digT (n : Int) = w at *
  show T_read_number _ [SV.dat (.str w), SV.un]
  unfold T_read_number
  refine sSeq_abs fun R hR => ?_
  walk_at "wp"
  refine pFor_inv (fun i env => ∃ y, env = [SV.dat (.str w), y]) ⟨_, rfl⟩ ?_ ?_
  · rintro i d hd env ⟨y, rfl⟩ K hK
    rw [List.getElem?_map] at hd
    obtain ⟨c, hc, rfl⟩ := Option.map_eq_some_iff.mp hd
    obtain ⟨g1, g2⟩ := sg c (List.mem_of_getElem? hc)
    walk_at "wp"
    refine ⟨_, gIn_fig g1 g2, ?_⟩
    walk_at "wp"
    exact hK _ ⟨_, rfl⟩
  rintro env ⟨y, rfl⟩
  subst hR
  walk_at "wp"
  obtain ⟨c, r, e⟩ : ∃ c r, w.cps.toList = c :: r := by
    cases q : w.cps.toList with
    | nil => exact absurd q hd
    | cons c r => exact ⟨c, r, rfl⟩
  have g3 : gIn true (.int (w.length : Nat)) (.tuple [.int 1, .int 2, .int 3]) = some (.bool false) := by
    have h1 : 1 ≤ w.length := by rw [ln, e]; simp
    have : w.length = 1 ∨ w.length = 2 ∨ w.length = 3 := by omega
    rcases this with h | h | h <;> rw [h] <;> rfl
  refine ⟨sizeL (by omega), sizeL (by decide), _, g3, _, rfl, ?_⟩
  rw [if_neg (by decide), e]
  refine ⟨PyData.str ⟨#[c]⟩, if_pos (sizeL (by omega)), ?_⟩
  refine eq_hn (n := 0) (hn_str _ _) (hn_str _ _) (by omega) (fun e1 => ⟨_, rfl, ?_⟩) (fun e1 => ⟨_, rfl, ?_⟩)
  · rw [if_pos rfl]
    refine ⟨sizeL (by omega), ?_⟩
    rw [if_neg (fun h1 => ?_)]
    · exact ⟨_, gi, k⟩
    · obtain ⟨c', r', e2, g⟩ := h0 (by omega)
      rw [e] at e2
      cases e2
      injection e1 with e1
      have := congrArg (fun z : Str => z.cps.toList) e1
      rw [show (Str.ofString "0").cps.toList = [48] by decide +kernel] at this
      simp at this
      omega
  · rw [if_neg (by decide)]
    exact ⟨_, gi, k⟩
/-- an end of a bead -/
def Ez (x : D) : Prop := ∃ z s, x = endD z s ∧ Nm z ∧ (s = 0 ∨ s = 1)
theorem app_S (a b : Str) : a ++ b = SX.S (a.cps.toList ++ b.cps.toList) := by rw [← SX.S_cat, SX.S_tl, SX.S_tl]
theorem cut_to1 {a b : Str} (h : a.length = 1) : cutS (a ++ b) none (some 1) = a := by
  refine ext_tl ?_
  rw [cut_head, tl_app]
  rw [len_tl] at h
  exact List.take_left' h
theorem cut_from1 {a b : Str} (h : a.length = 1) : cutS (a ++ b) (some 1) none = b := by
  refine ext_tl ?_
  rw [cut_rest, tl_app]
  rw [len_tl] at h
  exact List.drop_left' h
theorem gt_S : (Str.ofString ">").cps.toList = [62] := by decide +kernel
theorem lt_S : (Str.ofString "<").cps.toList = [60] := by decide +kernel
theorem sIx_m1 (n d : Nat) : HT.sIx (n + 1) d (some (-1)) = n := by
  simp only [HT.sIx]
  rw [if_pos (by decide)]
  omega
theorem cut_last (z : Str) : cutS (z ++ Str.ofString ">") (some (-1)) none = Str.ofString ">" := by
  refine ext_tl ?_
  have hl : (z ++ Str.ofString ">").length = z.cps.toList.length + 1 := by rw [len_tl, tl_app, gt_S]; simp
  unfold cutS
  show (List.drop _ _).take _ = _
  rw [hl, tl_app, gt_S, sIx_m1]
  rw [List.drop_left]
  show List.take (z.cps.toList.length + 1 - z.cps.toList.length) [62] = _
  rw [show z.cps.toList.length + 1 - z.cps.toList.length = 1 by omega]
  rfl
theorem cut_but (z : Str) : cutS (z ++ Str.ofString ">") none (some (-1)) = z := by
  refine ext_tl ?_
  have hl : (z ++ Str.ofString ">").length = z.cps.toList.length + 1 := by rw [len_tl, tl_app, gt_S]; simp
  unfold cutS
  show (List.drop _ _).take _ = _
  rw [hl, tl_app, gt_S, sIx_m1]
  show List.take (z.cps.toList.length - 0) (List.drop 0 _) = _
  rw [Nat.sub_zero, List.drop_zero, List.take_left]
theorem Nm.head {z : Str} (h : Nm z) : ∃ c r, z = SX.S (c :: r) ∧ 97 ≤ c ∧ c ≤ 122 := by
  obtain ⟨h1, h2, _⟩ := h
  cases q : z.cps.toList with
  | nil => rw [len_tl, q] at h2; cases h2
  | cons c r =>
    have := h1 c (by rw [q]; exact List.mem_cons_self)
    exact ⟨c, r, by rw [← q, SX.S_tl], this.1, this.2⟩
theorem nm_yes {z : Str} (h : Nm z) : isNmB (.str z) = true := nmB_iff.mpr h
def sp_read_end : PSp := fun fl ds Q => fl = none ∧ ∃ x, ds = [.str (endT x)] ∧ Ez x ∧ Q (.dt x) none
abbrev N_read_end : List Str := ["word"]
def T_read_end : PS' := (sSeq (sIf (tAnd' (qTest (qOp (gEq false) (qSl (qVar 0) qPn (qPs (qC (.int 1)))) (qC (.str "<")))) (qTest (qCall sp_is_name (qAddD (qCons (qSl (qVar 0) (qPs (qC (.int 1))) qPn) qNil) [])))) (sRet (qTup (qCons (qSl (qVar 0) (qPs (qC (.int 1))) qPn) (qCons (qC (.int 0)) qNil)))) sNil)
  (sSeq (sIf (tAnd' (qTest (qOp (gEq false) (qSl (qVar 0) (qPs (qNeg (qC (.int 1)))) qPn) (qC (.str ">")))) (qTest (qCall sp_is_name (qAddD (qCons (qSl (qVar 0) qPn (qPs (qNeg (qC (.int 1))))) qNil) [])))) (sRet (qTup (qCons (qSl (qVar 0) qPn (qPs (qNeg (qC (.int 1))))) (qCons (qC (.int 1)) qNil)))) sNil)
  (sRaise)))
theorem pure_read_end (fl : Option (List D)) (ds : List D) (Q : RV → Option (List D) → Prop) (_ : false = true ↔ fl ≠ none) (h : sp_read_end fl ds Q) : T_read_end (endsOf false Q) (startE false N_read_end fl ds) := by
  obtain ⟨rfl, x, rfl, ⟨z, s, rfl, hz, hs⟩, k⟩ := h
  show T_read_end _ [SV.dat _]
  unfold T_read_end
  rcases hs with rfl | rfl
  · have e : endT (endD z 0) = Str.ofString "<" ++ z := rfl
    rw [e]
    walk_at "wp"
    rw [cut_to1 (by decide), cut_from1 (by decide), if_pos rfl]
    have e1 : (Str.ofString "<").length = 1 := by decide +kernel
    have hl : (Str.ofString "<" ++ z).length ≤ sizeLine := sizeL (by
      rw [len_app, e1]
      have := hz.2.2
      omega)
    refine ⟨hl, hl, rfl, _, rfl, fun y e => ?_, ?_⟩
    · cases e
      have := hz.2.2
      omega
    rw [nm_yes hz]
    refine ⟨true, rfl, ?_⟩
    rw [if_pos rfl]
    exact ⟨hl, sizeL (by decide), k⟩
  · have e : endT (endD z 1) = z ++ Str.ofString ">" := rfl
    rw [e]
    walk_at "wp"
    have e1 : (Str.ofString ">").length = 1 := by decide +kernel
    have hl : (z ++ Str.ofString ">").length ≤ sizeLine := sizeL (by
      rw [len_app, e1]
      have := hz.2.2
      omega)
    rw [cut_last, cut_but, if_pos rfl, if_neg (fun e => ?_)]
    · refine ⟨hl, hl, hl, rfl, _, rfl, fun y e => ?_, ?_⟩
      · cases e
        have := hz.2.2
        omega
      rw [nm_yes hz]
      refine ⟨true, rfl, ?_⟩
      rw [if_pos rfl]
      exact ⟨hl, sizeL (by decide), k⟩
    · obtain ⟨c, r, ez, g1, g2⟩ := hz.head
      have e1 : z ++ Str.ofString ">" = SX.S [c] ++ SX.S (r ++ [62]) := by
        rw [SX.S_cat, app_S, ez, gt_S]
        rfl
      rw [e1, cut_to1 (by rfl)] at e
      have := congrArg (fun z : Str => z.cps.toList) e
      rw [lt_S] at this
      simp at this
      omega

end Sw

open PySem PySem.Spec L2 Sw
namespace Sw
structure Jz (j : D) : Prop where
  jt : Jt j
  ez : ∀ x ∈ tupE j, Ez x
  sr : tupE j = srtD (tupE j)
  nd : (tupE j).Nodup
theorem Ez.es {x : D} (h : Ez x) : Es x := by
  obtain ⟨z, s, e, hz, _⟩ := h
  exact ⟨z, s, e, hz.2.2⟩
theorem Jz.sj {j : D} (h : Jz j) : Sj j := ⟨h.jt, fun x hx => (h.ez x hx).es⟩
theorem Jz.ne {j : D} (h : Jz j) : tupE j ≠ [] := by
  obtain ⟨h, _⟩ := h
  cases h <;> simp [tupE]
theorem Jz.eq {j : D} (h : Jz j) : j = .tuple (tupE j) := by
  obtain ⟨h, _⟩ := h
  cases h <;> rfl
/-- the signs of an end, of a joint -/
def isEs (c : Nat) : Prop := (97 ≤ c ∧ c ≤ 122) ∨ c = 60 ∨ c = 62
theorem endT_signs {x : D} (h : Ez x) : ∀ c ∈ (endT x).cps.toList, isEs c := fun c hc => by
  obtain ⟨z, s, rfl, hz, hs⟩ := h
  have hc : c ∈ (if s = 0 then Str.ofString "<" ++ z else z ++ Str.ofString ">").cps.toList := hc
  split at hc
  · rw [tl_app, lt_S] at hc
    rcases List.mem_append.mp hc with hc | hc
    · exact .inr (.inl (List.mem_singleton.mp hc))
    · exact .inl (hz.1 c hc)
  · rw [tl_app, gt_S] at hc
    rcases List.mem_append.mp hc with hc | hc
    · exact .inl (hz.1 c hc)
    · exact .inr (.inr (List.mem_singleton.mp hc))
theorem endT_mark {x : D} (h : Ez x) : 60 ∈ (endT x).cps.toList ∨ 62 ∈ (endT x).cps.toList := by
  obtain ⟨z, s, rfl, hz, hs⟩ := h
  show 60 ∈ (if s = 0 then Str.ofString "<" ++ z else z ++ Str.ofString ">").cps.toList ∨ 62 ∈ (if s = 0 then Str.ofString "<" ++ z else z ++ Str.ofString ">").cps.toList
  split
  · rw [tl_app, lt_S]; exact .inl (by simp)
  · rw [tl_app, gt_S]; exact .inr (by simp)
theorem join_signs {P : Nat → Prop} {y : Str} (hy : ∀ c ∈ y.cps.toList, P c) : ∀ {ws : List Str}, (∀ w ∈ ws, ∀ c ∈ w.cps.toList, P c) → ∀ c ∈ (Txt.join y ws).cps.toList, P c
  | [], _, c, hc => by rw [TL.join_eq] at hc; cases hc
  | [w], h, c, hc => by rw [join1] at hc; exact h w List.mem_cons_self c hc
  | w :: v :: r, h, c, hc => by
    rw [join2, tl_app, tl_app] at hc
    rcases List.mem_append.mp hc with hc | hc
    · rcases List.mem_append.mp hc with hc | hc
      · exact h w List.mem_cons_self c hc
      · exact hy c hc
    · exact join_signs hy (fun w hw => h w (List.mem_cons_of_mem _ hw)) c hc
theorem join_has {c : Nat} {y : Str} : ∀ {ws : List Str} {w : Str}, w ∈ ws → c ∈ w.cps.toList → c ∈ (Txt.join y ws).cps.toList
  | [], w, h, _ => nomatch h
  | [v], w, h, hc => by rw [join1]; rw [List.mem_singleton.mp h] at hc; exact hc
  | v :: u :: r, w, h, hc => by
    rw [join2, tl_app, tl_app]
    rcases List.mem_cons.mp h with rfl | h
    · exact List.mem_append_left _ (List.mem_append_left _ hc)
    · exact List.mem_append_right _ (join_has h hc)
def isJs (c : Nat) : Prop := isEs c ∨ c = 126
theorem jointT_signs {j : D} (h : Jz j) : ∀ c ∈ (jointT j).cps.toList, isJs c := by
  unfold jointT
  refine join_signs (fun c hc => ?_) (fun w hw c hc => ?_)
  · rw [ti_S] at hc
    exact .inr (by simpa using hc)
  · obtain ⟨x, hx, rfl⟩ := List.mem_map.mp hw
    exact .inl (endT_signs (h.ez x hx) c hc)
theorem jointT_mark {j : D} (h : Jz j) : 60 ∈ (jointT j).cps.toList ∨ 62 ∈ (jointT j).cps.toList := by
  obtain ⟨x, hx⟩ := List.exists_mem_of_ne_nil _ h.ne
  have hm : endT x ∈ (tupE j).map endT := List.mem_map_of_mem hx
  rcases endT_mark (h.ez x hx) with g | g
  · exact .inl (join_has hm g)
  · exact .inr (join_has hm g)
theorem splitJ {j : D} (h : Jz j) : gSplit (.str (jointT j)) [.str (Str.ofString "~")] = some (strsD ((tupE j).map endT)) := by
  have hl := jointT_len h.sj
  unfold jointT at hl ⊢
  rw [ti_S] at hl ⊢
  refine gSplit_join (by decide) (by simpa using h.ne) (fun w hw hc => ?_) (sizeL (by omega))
  obtain ⟨x, hx, rfl⟩ := List.mem_map.mp hw
  rcases endT_signs (h.ez x hx) _ hc with g | g | g <;> omega
def sp_read_joint : PSp := fun fl ds Q => fl = none ∧ ∃ j, ds = [.str (jointT j)] ∧ Jz j ∧ Q (.dt j) none
abbrev N_read_joint : List Str := ["word", "part"]
def T_read_joint : PS' := (sRet (qCB gTuple (qCons (qF (fLc (iAny (qF (fVM "str" gSplit (qVar 0) (qCons (qC (.str "~")) qNil)))) (gN 1) tYes' (qCall sp_read_end (qAddD (qCons (qVar 1) qNil) [])) [1])) qNil)))
theorem pure_read_joint (fl : Option (List D)) (ds : List D) (Q : RV → Option (List D) → Prop) (_ : false = true ↔ fl ≠ none) (h : sp_read_joint fl ds Q) : T_read_joint (endsOf false Q) (startE false N_read_joint fl ds) := by
  obtain ⟨rfl, j, rfl, hj, k⟩ := h
  show T_read_joint _ [SV.dat _, SV.un]
  unfold T_read_joint
  have gs := splitJ hj
  walk_at "wp"
  have hl2 := hj.jt.len.2
  refine ⟨rfl, _, gs, by unfold strsD; rw [List.length_map, List.length_map]; omega, ?_⟩
  have e1 : strsD ((tupE j).map endT) = (tupE j).map fun x => PyData.str (endT x) := by unfold strsD; rw [List.map_map]; rfl
  rw [e1]
  refine map_comp (f := id) (fun x hx K hK => ?_) ?_
  · walk_at "wp"
    refine ⟨rfl, x, rfl, hj.ez x hx, ?_⟩
    walk_at "wp"
    exact hK
  rw [List.map_id, ← hj.eq]
  exact k
theorem lt_pair {x y : D} (hx : Ez x) (hy : Ez y) (hs : [x, y] = srtD [x, y]) (ne : x ≠ y) : gGeD x y = some (.bool false) := by
  have ex : IsE x := by obtain ⟨z, s, e, _⟩ := hx; exact ⟨z, s, e⟩
  have ey : IsE y := by obtain ⟨z, s, e, _⟩ := hy; exact ⟨z, s, e⟩
  have al : W.alike x y = true := by
    obtain ⟨z, s, rfl⟩ := ex
    obtain ⟨w, t, rfl⟩ := ey
    rfl
  have al2 : W.alike y x = true := by
    obtain ⟨z, s, rfl⟩ := ex
    obtain ⟨w, t, rfl⟩ := ey
    rfl
  have ok : cmpOk x y = true := by
    unfold cmpOk
    rw [(hn_E ex 0).okD (by omega), (hn_E ey 0).okD (by omega), al]
    obtain ⟨z, s, rfl⟩ := ex
    rfl
  have hle : leD x y = true := by
    have := srtD_pw [x, y]
    rw [← hs] at this
    exact (List.pairwise_cons.mp this).1 y (by simp)
  have : W.dataLt x y = true := by
    cases q : W.dataLt x y with
    | true => rfl
    | false => exact absurd (leD_anti al hle (by unfold leD; rw [q]; rfl)) ne
  unfold gGeD
  rw [if_pos ok, this]
  rfl
def sp_read_joint_2 : PSp := fun fl ds Q => fl = none ∧ ∃ j, ds = [.str (jointT j)] ∧ Jz j ∧ Q (.dt j) none
abbrev N_read_joint_2 : List Str := ["word", "joint", "part"]
def T_read_joint_2 : PS' := (sSeq (sAsg 1 (qCB gTuple (qCons (qF (fLc (iAny (qF (fVM "str" gSplit (qVar 0) (qCons (qC (.str "~")) qNil)))) (gN 2) tYes' (qCall sp_read_end (qAddD (qCons (qVar 2) qNil) [])) [2])) qNil)))
  (sSeq (sIf (tOr' (qTest (qOp (gI (gCmp fun i j => decide (j < i))) (qCB gLen (qCons (qVar 1) qNil)) (qC (.int 2)))) (tAnd' (qTest (qOp (gEq false) (qCB gLen (qCons (qVar 1) qNil)) (qC (.int 2)))) (qTest (qOp gGeD (qOp gIx (qVar 1) (qC (.int 0))) (qOp gIx (qVar 1) (qC (.int 1))))))) (sRaise) sNil)
  (sRet (qVar 1))))
theorem pure_read_joint_2 (fl : Option (List D)) (ds : List D) (Q : RV → Option (List D) → Prop) (_ : false = true ↔ fl ≠ none) (h : sp_read_joint_2 fl ds Q) : T_read_joint_2 (endsOf false Q) (startE false N_read_joint_2 fl ds) := by
  obtain ⟨rfl, j, rfl, hj, k⟩ := h
  show T_read_joint_2 _ [SV.dat _, SV.un, SV.un]
  unfold T_read_joint_2
  have gs := splitJ hj
  have hl2 := hj.jt.len.2
  refine sSeq_abs fun R hR => ?_
  walk_at "wp"
  refine ⟨rfl, _, gs, by unfold strsD; rw [List.length_map, List.length_map]; omega, ?_⟩
  have e1 : strsD ((tupE j).map endT) = (tupE j).map fun x => PyData.str (endT x) := by unfold strsD; rw [List.map_map]; rfl
  rw [e1]
  refine map_comp (f := id) (fun x hx K hK => ?_) ?_
  · walk_at "wp"
    refine ⟨rfl, x, rfl, hj.ez x hx, ?_⟩
    walk_at "wp"
    exact hK
  rw [List.map_id]
  walk_at "wp"
  subst hR
  have hz := hj.ez
  have sr := hj.sr
  have nd := hj.nd
  have jt := hj.jt
  cases jt with
  | @one a ha =>
    walk_at "wp"
    rw [if_neg (by show ¬ (2 : Int) < ((1 : Nat) : Int); decide), if_neg (by show ¬ ((1 : Nat) : Int) = 2; decide)]
    exact k
  | @two a b ha hb =>
    walk_at "wp"
    rw [if_neg (by show ¬ (2 : Int) < ((2 : Nat) : Int); decide), if_pos (by rfl)]
    refine ⟨a, rfl, b, rfl, _, lt_pair (hz a (by simp [tupE])) (hz b (by simp [tupE])) sr (fun e => ?_), _, rfl, ?_⟩
    · have nd : [a, b].Nodup := nd
      rw [e] at nd
      simp at nd
    · rw [if_neg (by decide)]
      exact k
def sp_read_joints : PSp := fun fl ds Q => fl = none ∧ ∃ js, ds = [.list (strsD (js.map jointT))] ∧ (∀ j ∈ js, Jz j) ∧ js.length ≤ 1000 ∧ Q (.dt (.tuple js)) none
abbrev N_read_joints : List Str := ["words", "word"]
def T_read_joints : PS' := (sRet (qCB gTuple (qCons (qF (fLc (iAny (qVar 0)) (gN 1) tYes' (qCall sp_read_joint_2 (qAddD (qCons (qVar 1) qNil) [])) [1])) qNil)))
theorem pure_read_joints (fl : Option (List D)) (ds : List D) (Q : RV → Option (List D) → Prop) (_ : false = true ↔ fl ≠ none) (h : sp_read_joints fl ds Q) : T_read_joints (endsOf false Q) (startE false N_read_joints fl ds) := by
  obtain ⟨rfl, js, rfl, hj, hl, k⟩ := h
  show T_read_joints _ [SV.dat _, SV.un]
  unfold T_read_joints
  have e1 : strsD (js.map jointT) = js.map fun x => PyData.str (jointT x) := by unfold strsD; rw [List.map_map]; rfl
  rw [e1]
  walk_at "wp"
  refine ⟨by rw [List.length_map]; omega, ?_⟩
  refine map_comp (f := id) (fun x hx K hK => ?_) ?_
  · walk_at "wp"
    refine ⟨rfl, x, rfl, hj x hx, ?_⟩
    walk_at "wp"
    exact hK
  rw [List.map_id]
  exact k
theorem splitW {ws : List Str} (h0 : ws ≠ []) (h : ∀ w ∈ ws, 32 ∉ w.cps.toList) (hl : (Txt.join spT ws).length ≤ 1000000) : gSplit (.str (Txt.join spT ws)) [.str (Str.ofString " ")] = some (strsD ws) := by
  have e : Str.ofString " " = SX.S [32] := sp_S
  rw [e]
  rw [sp_S] at hl ⊢
  exact gSplit_join (by decide) h0 h (sizeL (by omega))
def sp_words_behind : PSp := fun fl ds Q => fl = none ∧ ∃ w ws, ds = [.str (Txt.join spT (w :: ws)), .str w] ∧ (∀ v ∈ w :: ws, 32 ∉ v.cps.toList) ∧ (Txt.join spT (w :: ws)).length ≤ 1000000 ∧ Q (.dt (.list (strsD ws))) none
abbrev N_words_behind : List Str := ["line", "word", "words"]
def T_words_behind : PS' := (sSeq (sAsg 2 (qF (fVM "str" gSplit (qVar 0) (qCons (qC (.str " ")) qNil))))
  (sSeq (sIf (qTest (qOp (gEq true) (qOp gIx (qVar 2) (qC (.int 0))) (qVar 1))) (sRaise) sNil)
  (sRet (qSl (qVar 2) (qPs (qC (.int 1))) qPn))))
theorem pure_words_behind (fl : Option (List D)) (ds : List D) (Q : RV → Option (List D) → Prop) (_ : false = true ↔ fl ≠ none) (h : sp_words_behind fl ds Q) : T_words_behind (endsOf false Q) (startE false N_words_behind fl ds) := by
  obtain ⟨rfl, w, ws, rfl, hw, hl, k⟩ := h
  show T_words_behind _ [SV.dat _, SV.dat _, SV.un]
  unfold T_words_behind
  have gs := splitW (ws := w :: ws) (by simp) hw hl
  refine sSeq_abs fun R hR => ?_
  walk_at "wp"
  refine ⟨rfl, _, gs, ?_⟩
  subst hR
  walk_at "wp"
  refine ⟨.str w, rfl, ?_⟩
  refine ne_hn (n := 0) (hn_str _ _) (hn_str _ _) (by omega) (fun _ => ⟨_, rfl, ?_⟩) (fun e => absurd rfl e)
  rw [if_neg (by decide)]
  have e : cutD (strsD (w :: ws)) (some 1) none = strsD ws := cutD_drop (n := 1) (by unfold strsD; simp)
  rw [e]
  exact k
theorem num32 {n : Nat} : 32 ∉ (digT (n : Int)).cps.toList := fun h => by have := sign_num h; omega
theorem joinW_len {n : Nat} {w : Str} {ws : List Str} (hw : w.length ≤ 10) (h : ∀ v ∈ ws, v.length ≤ n) : (Txt.join spT (w :: ws)).length ≤ 11 + ws.length * (n + 1) := by
  have h1 := join_bound spT (w :: ws)
  have h2 := sum_le (f := fun v : Str => v.length) h
  have e1 : spT.length = 1 := by decide
  rw [List.map_cons, List.sum_cons, List.length_cons, e1] at h1
  rw [Nat.mul_add]
  omega
def numsT (ns : List Nat) : List Str := ns.map fun n : Nat => digT (n : Int)
def natsZ (ns : List Nat) : List D := ns.map fun n : Nat => PyData.int (n : Int)
def ringW : Str := Str.ofString "ring"
theorem hn_strs (ws : List Str) : Hn 1 (.list (strsD ws)) := fun d hd => by
  obtain ⟨w, _, rfl⟩ := List.mem_map.mp hd
  exact hn_str _ _
def sp_read_ring : PSp := fun fl ds Q => fl = none ∧ ∃ ns : List Nat, ds = [.str (Txt.join spT (ringW :: numsT ns))] ∧ ns ≠ [] ∧ ns.length ≤ 1000 ∧ (∀ n ∈ ns, n < 10000) ∧ Q (.dt (.tuple (natsZ ns))) none
abbrev N_read_ring : List Str := ["line", "words", "word"]
def T_read_ring : PS' := (sSeq (sAsg 1 (qCall sp_words_behind (qAddD (qCons (qVar 0) (qCons (qC (.str "ring")) qNil)) [])))
  (sSeq (sIf (qTest (qOp (gEq false) (qVar 1) (qF (fLst (qNil))))) (sRaise) sNil)
  (sRet (qCB gTuple (qCons (qF (fLc (iAny (qVar 1)) (gN 2) tYes' (qCall sp_read_number_2 (qAddD (qCons (qVar 2) qNil) [])) [2])) qNil)))))
theorem pure_read_ring (fl : Option (List D)) (ds : List D) (Q : RV → Option (List D) → Prop) (_ : false = true ↔ fl ≠ none) (h : sp_read_ring fl ds Q) : T_read_ring (endsOf false Q) (startE false N_read_ring fl ds) := by
  obtain ⟨rfl, ns, rfl, n0, hl, hn, k⟩ := h
  show T_read_ring _ [SV.dat _, SV.un, SV.un]
  unfold T_read_ring
  have h32 : ∀ v ∈ ringW :: numsT ns, 32 ∉ v.cps.toList := fun v hv => by
    rcases List.mem_cons.mp hv with rfl | hv
    · decide +kernel
    · obtain ⟨n, _, rfl⟩ := List.mem_map.mp hv
      exact num32
  have ll := joinW_len (n := 4) (w := ringW) (ws := numsT ns) (by decide) fun v hv => by
    obtain ⟨n, h, rfl⟩ := List.mem_map.mp hv
    exact num_len (by decide) (hn n h)
  have le : (numsT ns).length = ns.length := by unfold numsT; rw [List.length_map]
  refine sSeq_abs fun R hR => ?_
  walk_at "wp"
  refine ⟨rfl, ringW, numsT ns, rfl, h32, by omega, ?_⟩
  walk_at "wp"
  subst hR
  walk_at "wp"
  refine ⟨Nat.zero_le _, ?_⟩
  refine gEq_no (n := 1) (hn_strs _) (fun d hd => (nomatch hd)) (by omega) (fun e => ?_) ⟨_, rfl, ?_⟩
  · injection e with e
    cases ns with
    | nil => exact n0 rfl
    | cons n r => cases e
  rw [if_neg (by decide)]
  refine ⟨by unfold strsD; rw [List.length_map]; omega, ?_⟩
  have e1 : strsD (numsT ns) = ns.map fun n : Nat => PyData.str (digT (n : Int)) := by unfold strsD numsT; rw [List.map_map]; rfl
  rw [e1]
  refine map_comp (f := fun n : Nat => PyData.int (n : Int)) (fun x hx K hK => ?_) ?_
  · walk_at "wp"
    refine ⟨rfl, x, rfl, hn x hx, ?_⟩
    walk_at "wp"
    exact hK
  exact k
/-- a pair of places -/
def knotT (p : Nat × Nat) : Str := digT (p.1 : Int) ++ Str.ofString "-" ++ digT (p.2 : Int)
def knotD (p : Nat × Nat) : D := .tuple [.int (p.1 : Int), .int (p.2 : Int)]
theorem part_knot (p : Nat × Nat) : Txt.partition (knotT p) (Str.ofString "-") = (digT (p.1 : Int), Str.ofString "-", digT (p.2 : Int)) := by
  have h1 : 45 ∉ (digT (p.1 : Int)).cps.toList := fun h => by have := sign_num h; omega
  have e : knotT p = SX.S ((digT (p.1 : Int)).cps.toList ++ ([45] ++ (digT (p.2 : Int)).cps.toList)) := by
    unfold knotT
    rw [da_S, app_S, tl_app, List.append_assoc]
  rw [e, da_S, SX.partition_some (by simp) (SX.par_head _ h1), SX.S_tl, SX.S_tl]
theorem knotT_len {p : Nat × Nat} (h1 : p.1 < 10000) (h2 : p.2 < 10000) : (knotT p).length ≤ 9 := by
  have a := num_len (k := 4) (by decide) h1
  have b := num_len (k := 4) (by decide) h2
  have e1 : (Str.ofString "-").length = 1 := by decide +kernel
  unfold knotT
  rw [len_app, len_app, e1]
  omega
def sp_read_knot : PSp := fun fl ds Q => fl = none ∧ ∃ p : Nat × Nat, ds = [.str (knotT p)] ∧ p.1 < 10000 ∧ p.2 < 10000 ∧ Q (.dt (knotD p)) none
abbrev N_read_knot : List Str := ["word", "s", "stroke", "e"]
def T_read_knot : PS' := (sSeq (sAsgG (qVM "str" gPart (qVar 0) (qCons (qC (.str "-")) qNil)) (gT 3 (gsC (gN 1) (gsC (gN 2) (gsC (gN 3) gsN)))))
  (sRet (qTup (qCons (qCall sp_read_number_2 (qAddD (qCons (qVar 1) qNil) [])) (qCons (qCall sp_read_number_2 (qAddD (qCons (qVar 3) qNil) [])) qNil)))))
theorem pure_read_knot (fl : Option (List D)) (ds : List D) (Q : RV → Option (List D) → Prop) (_ : false = true ↔ fl ≠ none) (h : sp_read_knot fl ds Q) : T_read_knot (endsOf false Q) (startE false N_read_knot fl ds) := by
  obtain ⟨rfl, p, rfl, h1, h2, k⟩ := h
  show T_read_knot _ [SV.dat _, SV.un, SV.un, SV.un]
  unfold T_read_knot
  have hl := knotT_len h1 h2
  have gp : gPart (.str (knotT p)) [.str (Str.ofString "-")] = some (.tuple (strsD [digT (p.1 : Int), Str.ofString "-", digT (p.2 : Int)])) := by
    show (if _ then _ else _) = _
    rw [if_pos ⟨by decide +kernel, sizeL (by omega)⟩, part_knot]
  refine sSeq_abs fun R hR => ?_
  walk_at "wp"
  refine ⟨rfl, _, gp, _, rfl, rfl, _, _, rfl, _, _, rfl, _, _, rfl, rfl, ?_⟩
  subst hR
  walk_at "wp"
  refine ⟨rfl, p.1, rfl, h1, ?_⟩
  walk_at "wp"
  refine ⟨rfl, p.2, rfl, h2, ?_⟩
  walk_at "wp"
  exact ⟨sizeL (by decide), k⟩
/-- the kinds -/
def KindW (w : Str) : Prop := w = Str.ofString "ring" ∨ w = Str.ofString "odd" ∨ w = Str.ofString "ours" ∨ w = Str.ofString "theirs"
abbrev Part := Str × List D × List D
structure PartOk (p : Part) : Prop where
  kd : KindW p.1
  o : ∀ j ∈ p.2.1, Jz j
  t : ∀ j ∈ p.2.2, Jz j
  o0 : p.2.1 ≠ []
  t0 : p.2.2 ≠ []
  ol : p.2.1.length ≤ 100
  tl : p.2.2.length ≤ 100
def slT : Str := Str.ofString "/"
def partWs (p : Part) : List Str := p.1 :: (p.2.1.map jointT ++ slT :: p.2.2.map jointT)
def partL (p : Part) : Str := Txt.join spT (partWs p)
def partDz (p : Part) : D := .tuple [.str p.1, .tuple p.2.1, .tuple p.2.2]
theorem KindW.len {w : Str} (h : KindW w) : w.length ≤ 6 := by rcases h with rfl | rfl | rfl | rfl <;> decide +kernel
theorem KindW.sg {w : Str} (h : KindW w) : ∀ c ∈ w.cps.toList, 97 ≤ c ∧ c ≤ 122 := by
  have key : ∀ z : Str, z.cps.toList.all (fun c => decide (97 ≤ c) && decide (c ≤ 122)) = true → ∀ c ∈ z.cps.toList, 97 ≤ c ∧ c ≤ 122 := fun z h c hc => by
    have := List.all_eq_true.mp h c hc
    rw [Bool.and_eq_true, decide_eq_true_eq, decide_eq_true_eq] at this
    exact this
  rcases h with rfl | rfl | rfl | rfl <;> exact key _ (by decide +kernel)
theorem jz_no {j : D} (h : Jz j) {c : Nat} (hc : c = 32 ∨ c = 47 ∨ c = 10) : c ∉ (jointT j).cps.toList := fun g => by
  rcases jointT_signs h c g with (g | g | g) | g <;> omega
theorem joint_ne {j : D} (h : Jz j) {w : Str} (hw : ∀ c ∈ w.cps.toList, c ≠ 60 ∧ c ≠ 62) : jointT j ≠ w := fun e => by
  rcases jointT_mark h with g | g <;> rw [e] at g <;> have := hw _ g <;> omega
theorem slT_sg : slT.cps.toList = [47] := by decide +kernel
theorem part32 {p : Part} (h : PartOk p) : ∀ w ∈ partWs p, 32 ∉ w.cps.toList := fun w hw hc => by
  rcases List.mem_cons.mp hw with rfl | hw
  · have := h.kd.sg _ hc
    omega
  · rcases List.mem_append.mp hw with hw | hw
    · obtain ⟨j, hj, rfl⟩ := List.mem_map.mp hw
      exact jz_no (h.o j hj) (.inl rfl) hc
    · rcases List.mem_cons.mp hw with rfl | hw
      · rw [slT_sg] at hc
        simp at hc
      · obtain ⟨j, hj, rfl⟩ := List.mem_map.mp hw
        exact jz_no (h.t j hj) (.inl rfl) hc
theorem partL_len {p : Part} (h : PartOk p) : (partL p).length ≤ 4000 := by
  have h1 := joinW_len (n := 16) (w := p.1) (ws := p.2.1.map jointT ++ slT :: p.2.2.map jointT) (by have := h.kd.len; omega) fun v hv => by
    rcases List.mem_append.mp hv with hv | hv
    · obtain ⟨j, hj, rfl⟩ := List.mem_map.mp hv
      exact jointT_len (h.o j hj).sj
    · rcases List.mem_cons.mp hv with rfl | hv
      · decide +kernel
      · obtain ⟨j, hj, rfl⟩ := List.mem_map.mp hv
        exact jointT_len (h.t j hj).sj
  have := h.ol
  have := h.tl
  rw [List.length_append, List.length_cons, List.length_map, List.length_map] at h1
  unfold partL partWs
  omega
/-- a word that stands once -/
def SgT (z : Str) : Prop := ∀ c ∈ z.cps.toList, c < 256
theorem lay_sg {z : Str} (h : SgT z) : PyData.canLay0 (.str z) = true := by
  show (z.cps.all fun c => decide (c < 0x110000)) = true
  rw [← Array.all_toList, List.all_eq_true]
  intro c hc
  have := h c hc
  exact decide_eq_true (by omega)
theorem shaped_sg {z : Str} (h : SgT z) : SeqAt.shaped (.str z) = true := by
  unfold SeqAt.shaped
  rw [lay_sg h, Bool.true_and, decide_eq_true_eq]
  simp [PyData.depth]
theorem shaped_sgs {ys : List Str} (h : ∀ y ∈ ys, SgT y) : SeqAt.shaped (.list (strsD ys)) = true := by
  unfold SeqAt.shaped
  rw [Bool.and_eq_true]
  refine ⟨canLay_all _ fun d hd => ?_, ?_⟩
  · obtain ⟨y, hy, rfl⟩ := List.mem_map.mp hd
    exact lay_sg (h y hy)
  · rw [decide_eq_true_eq]
    have := (Hn.plainD 1 _ (hn_strs ys)).2
    omega
theorem eqv_str (v w : Str) : PyData.eqv (.str v) (.str w) = decide (v = w) := by
  have h := eqv_hn 0 (.str v) (.str w) (hn_str _ _) (hn_str _ _)
  by_cases e : v = w
  · subst e
    rw [h.mpr rfl]
    simp
  · have : PyData.eqv (.str v) (.str w) = false := by
      rw [← Bool.not_eq_true, h]
      exact fun z => e (by injection z)
    rw [this]
    simp [e]
theorem cnt_one {xs ys : List Str} {w : Str} (h1 : w ∉ xs) (h2 : w ∉ ys) (hs : ∀ v ∈ xs ++ w :: ys, SgT v) : gCount (.list (strsD (xs ++ w :: ys))) [.str w] = some (.int 1) := by
  rw [gCount_1 ⟨shaped_sgs hs, shaped_sg (hs w (by simp))⟩]
  have e : (strsD (xs ++ w :: ys)).countP (fun z => PyData.eqv z (.str w)) = 1 := by
    unfold strsD
    rw [List.countP_map, List.countP_append, List.countP_cons]
    have z : ∀ l : List Str, w ∉ l → l.countP ((fun z => PyData.eqv z (.str w)) ∘ PyData.str) = 0 := fun l hl => by
      rw [List.countP_eq_zero]
      intro v hv
      show ¬ PyData.eqv (.str v) (.str w) = true
      rw [eqv_str, decide_eq_true_eq]
      rintro rfl
      exact hl hv
    rw [z _ h1, z _ h2]
    show 0 + (0 + if PyData.eqv (.str w) (.str w) = true then 1 else 0) = 1
    rw [eqv_str, if_pos (by simp)]
  rw [e]
  rfl
theorem idx_one {xs ys : List Str} {w : Str} (h1 : w ∉ xs) (hs : ∀ v ∈ xs ++ w :: ys, SgT v) : gIndex (.list (strsD (xs ++ w :: ys))) [.str w] = some (.int (xs.length : Nat)) := by
  show (if SeqAt.shaped (.list (strsD (xs ++ w :: ys))) = true ∧ SeqAt.shaped (.str w) = true then _ else none) = _
  rw [if_pos ⟨shaped_sgs hs, shaped_sg (hs w (by simp))⟩]
  have e : (strsD (xs ++ w :: ys)).findIdx? (fun z => PyData.eqv z (.str w)) = some xs.length := by
    unfold strsD
    rw [List.map_append, List.findIdx?_append]
    have : (xs.map PyData.str).findIdx? (fun z => PyData.eqv z (.str w)) = none := by
      rw [List.findIdx?_eq_none_iff]
      intro d hd
      obtain ⟨v, hv, rfl⟩ := List.mem_map.mp hd
      rw [eqv_str]
      exact decide_eq_false fun e => h1 (e ▸ hv)
    rw [this, List.map_cons, List.findIdx?_cons, eqv_str]
    simp
  rw [e]
  rfl

end Sw

open PySem PySem.Spec L2 Sw
namespace Sw
theorem cutD_midN {α : Type} {xs : List α} {i j : Nat} (h : i ≤ j) (hj : j ≤ xs.length) : cutD xs (some (i : Int)) (some (j : Int)) = (xs.drop i).take (j - i) := by
  unfold cutD
  rw [HT.sIx_nat, HT.sIx_nat, Nat.min_eq_left hj, Nat.min_eq_left (Nat.le_trans h hj)]
theorem strsD_app (a b : List Str) : strsD (a ++ b) = strsD a ++ strsD b := by unfold strsD; exact List.map_append
theorem strsD_len (a : List Str) : (strsD a).length = a.length := by unfold strsD; exact List.length_map ..
theorem sg_joint {j : D} (h : Jz j) : SgT (jointT j) := fun c hc => by
  rcases jointT_signs h c hc with (g | g | g) | g <;> omega
theorem part_sg {p : Part} (h : PartOk p) : ∀ v ∈ partWs p, SgT v := fun v hv => by
  rcases List.mem_cons.mp hv with rfl | hv
  · exact fun c hc => by have := h.kd.sg c hc; omega
  · rcases List.mem_append.mp hv with hv | hv
    · obtain ⟨j, hj, rfl⟩ := List.mem_map.mp hv
      exact sg_joint (h.o j hj)
    · rcases List.mem_cons.mp hv with rfl | hv
      · exact fun c hc => by rw [slT_sg] at hc; simp at hc; omega
      · obtain ⟨j, hj, rfl⟩ := List.mem_map.mp hv
        exact sg_joint (h.t j hj)
theorem kind_in {w : Str} (h : KindW w) : gIn true (.str w) (.tuple [.str (Str.ofString "ring"), .str (Str.ofString "odd"), .str (Str.ofString "ours"), .str (Str.ofString "theirs")]) = some (.bool false) := by
  rcases h with rfl | rfl | rfl | rfl <;> rfl
def sp_read_part : PSp := fun fl ds Q => fl = none ∧ ∃ p, ds = [.str (partL p)] ∧ PartOk p ∧ Q (.dt (partDz p)) none
abbrev N_read_part : List Str := ["line", "words", "at", "ours", "theirs"]
def T_read_part : PS' := (sSeq (sAsg 1 (qF (fVM "str" gSplit (qVar 0) (qCons (qC (.str " ")) qNil))))
  (sSeq (sIf (tOr' (qTest (qOp (gIn true) (qOp gIx (qVar 1) (qC (.int 0))) (qC (.tuple [.str "ring", .str "odd", .str "ours", .str "theirs"])))) (qTest (qOp (gEq true) (qVM "list" gCount (qVar 1) (qCons (qC (.str "/")) qNil)) (qC (.int 1))))) (sRaise) sNil)
  (sSeq (sAsg 2 (qVM "list" gIndex (qVar 1) (qCons (qC (.str "/")) qNil)))
  (sSeq (sAsg 3 (qCall sp_read_joints (qAddD (qCons (qSl (qVar 1) (qPs (qC (.int 1))) (qPs (qVar 2))) qNil) [])))
  (sSeq (sAsg 4 (qCall sp_read_joints (qAddD (qCons (qSl (qVar 1) (qPs (qOp gAdd (qVar 2) (qC (.int 1)))) qPn) qNil) [])))
  (sSeq (sIf (tOr' (qTest (qOp (gEq false) (qCB gLen (qCons (qVar 3) qNil)) (qC (.int 0)))) (qTest (qOp (gEq false) (qCB gLen (qCons (qVar 4) qNil)) (qC (.int 0))))) (sRaise) sNil)
  (sRet (qTup (qCons (qOp gIx (qVar 1) (qC (.int 0))) (qCons (qVar 3) (qCons (qVar 4) qNil)))))))))))
theorem pure_read_part (fl : Option (List D)) (ds : List D) (Q : RV → Option (List D) → Prop) (_ : false = true ↔ fl ≠ none) (h : sp_read_part fl ds Q) : T_read_part (endsOf false Q) (startE false N_read_part fl ds) := by
  obtain ⟨rfl, p, rfl, hp, k⟩ := h
  show T_read_part _ [SV.dat _, SV.un, SV.un, SV.un, SV.un]
  unfold T_read_part
  have gs := splitW (ws := partWs p) (by simp [partWs]) (part32 hp) (by have := partL_len hp; unfold partL at this; omega)
  have e0 : partWs p = (p.1 :: p.2.1.map jointT) ++ slT :: p.2.2.map jointT := by simp [partWs]
  have sg := part_sg hp
  have n1 : slT ∉ p.1 :: p.2.1.map jointT := fun h => by
    rcases List.mem_cons.mp h with h | h
    · have := hp.kd.sg 47 (by rw [← h, slT_sg]; simp)
      omega
    · obtain ⟨j, hj, e⟩ := List.mem_map.mp h
      exact joint_ne (hp.o j hj) (fun c hc => by rw [slT_sg] at hc; simp at hc; omega) e
  have n2 : slT ∉ p.2.2.map jointT := fun h => by
    obtain ⟨j, hj, e⟩ := List.mem_map.mp h
    exact joint_ne (hp.t j hj) (fun c hc => by rw [slT_sg] at hc; simp at hc; omega) e
  rw [e0] at sg
  have gc := cnt_one n1 n2 sg
  have gi := idx_one n1 sg
  rw [← e0] at gc gi
  have hol := hp.ol
  have htl := hp.tl
  have el : (partWs p).length = p.2.1.length + p.2.2.length + 2 := by unfold partWs; simp; omega
  have c1 : cutD (strsD (partWs p)) (some 1) (some (((p.1 :: p.2.1.map jointT).length : Nat) : Int)) = strsD (p.2.1.map jointT) := by
    rw [show (some (1 : Int)) = some ((1 : Nat) : Int) from rfl, cutD_midN (by simp) (by rw [strsD_len, el]; simp; omega), e0, strsD_app]
    show List.take _ (strsD (p.2.1.map jointT) ++ _) = _
    rw [show (p.1 :: p.2.1.map jointT).length - 1 = (strsD (p.2.1.map jointT)).length by rw [strsD_len]; simp]
    exact List.take_left
  have c2 : cutD (strsD (partWs p)) (some (((p.1 :: p.2.1.map jointT).length : Nat) + 1 : Int)) none = strsD (p.2.2.map jointT) := by
    rw [show ((((p.1 :: p.2.1.map jointT).length : Nat) : Int) + 1) = (((p.1 :: p.2.1.map jointT).length + 1 : Nat) : Int) by omega, cutD_drop (by rw [strsD_len, el]; simp), e0]
    have : strsD ((p.1 :: p.2.1.map jointT) ++ slT :: p.2.2.map jointT) = strsD ((p.1 :: p.2.1.map jointT) ++ [slT]) ++ strsD (p.2.2.map jointT) := by rw [← strsD_app]; simp
    rw [this]
    exact List.drop_left' (by rw [strsD_len]; simp)
  obtain ⟨n, hnn⟩ : ∃ n, (p.1 :: p.2.1.map jointT).length = n := ⟨_, rfl⟩
  rw [hnn] at gi c1 c2
  refine sSeq_abs fun R hR => ?_
  walk_at "wp"
  refine ⟨rfl, _, gs, ?_⟩
  subst hR
  refine sSeq_abs fun R hR => ?_
  walk_at "wp"
  refine ⟨.str p.1, rfl, _, kind_in hp.kd, _, rfl, ?_⟩
  rw [if_neg (by decide)]
  refine ⟨rfl, _, gc, _, rfl, _, rfl, ?_⟩
  rw [if_neg (by decide)]
  subst hR
  refine sSeq_abs fun R hR => ?_
  walk_at "wp"
  refine ⟨rfl, _, gi, ?_⟩
  subst hR
  refine sSeq_abs fun R hR => ?_
  walk_at "wp"
  rw [c1]
  refine ⟨rfl, p.2.1, rfl, hp.o, by omega, ?_⟩
  walk_at "wp"
  subst hR
  refine sSeq_abs fun R hR => ?_
  walk_at "wp"
  rw [c2]
  refine ⟨rfl, p.2.2, rfl, hp.t, by omega, ?_⟩
  walk_at "wp"
  subst hR
  refine sSeq_abs fun R hR => ?_
  walk_at "wp"
  have o0 := List.length_pos_iff.mpr hp.o0
  have t0 := List.length_pos_iff.mpr hp.t0
  rw [if_neg (by omega), if_neg (by omega)]
  subst hR
  walk_at "wp"
  exact ⟨.str p.1, rfl, sizeL (by decide), k⟩
end Sw

open PySem PySem.Spec L2 Sw
namespace Sw
theorem join_app (y : Str) : ∀ {a b : List Str}, a ≠ [] → b ≠ [] → Txt.join y (a ++ b) = Txt.join y a ++ y ++ Txt.join y b
  | [], _, h, _ => absurd rfl h
  | [x], [], _, h => absurd rfl h
  | [x], z :: r, _, _ => by show Txt.join y (x :: z :: r) = _; rw [join2, join1]
  | x :: w :: r, b, _, hb => by
    show Txt.join y (x :: w :: (r ++ b)) = _
    rw [join2, show w :: (r ++ b) = (w :: r) ++ b from rfl, join_app y (a := w :: r) (by simp) hb, join2]
    simp only [str_assoc]
def toW : Str := Str.ofString "to"
theorem toT_is : toT = spT ++ (toW ++ spT) := by decide +kernel
theorem toW_sg : toW.cps.toList = [116, 111] := by decide +kernel
def turnW : Str := Str.ofString "turn"
def changeW : Str := Str.ofString "change"
def LineW (w : Str) (n : Nat) : Prop := (w = turnW ∧ n = 2) ∨ (w = changeW ∧ n = 4)
/-- a deed, its words -/
inductive DkL : D → List Str → Prop
  | deed {g c : List D} (h : DF g c) (hg : ∀ j ∈ g, Jz j) (hc : ∀ j ∈ c, Jz j) : DkL (.tuple [.tuple g, .tuple c]) (g.map jointT ++ toW :: c.map jointT)
  | line {w : Str} {ns : List Nat} (hw : LineW w ns.length) (hn : ∀ n ∈ ns, n < 1000) : DkL (.tuple (.str w :: natsZ ns)) (w :: numsT ns)
theorem LineW.fact {w : Str} {n : Nat} (h : LineW w n) : w.length ≤ 6 ∧ n ≤ 4 ∧ ∀ c ∈ w.cps.toList, 97 ≤ c ∧ c ≤ 122 := by
  have key : ∀ z : Str, z.cps.toList.all (fun c => decide (97 ≤ c) && decide (c ≤ 122)) = true → ∀ c ∈ z.cps.toList, 97 ≤ c ∧ c ≤ 122 := fun z h c hc => by
    have := List.all_eq_true.mp h c hc
    rw [Bool.and_eq_true, decide_eq_true_eq, decide_eq_true_eq] at this
    exact this
  rcases h with ⟨rfl, rfl⟩ | ⟨rfl, rfl⟩
  · exact ⟨by decide +kernel, by decide, key _ (by decide +kernel)⟩
  · exact ⟨by decide +kernel, by decide, key _ (by decide +kernel)⟩
theorem DF.g0 {g c : List D} (h : DF g c) : g ≠ [] ∧ c ≠ [] ∧ g.length ≤ 2 ∧ c.length ≤ 2 := by
  have h1 := h.gl
  have h2 := h.cl
  refine ⟨fun e => by rw [e] at h1; simp at h1, fun e => by rw [e] at h2; simp at h2, by omega, by omega⟩
theorem DkL.facts {d : D} {ws : List Str} (h : DkL d ws) : ws ≠ [] ∧ ws.length ≤ 5 ∧ (∀ w ∈ ws, w.length ≤ 16 ∧ SgT w ∧ ∀ c : Nat, c = 32 ∨ c = 10 → c ∉ w.cps.toList) ∧ ∃ c, c ∈ (Txt.join spT ws).cps.toList := by
  have fin : ws ≠ [] ∧ ws.length ≤ 5 ∧ (∀ w ∈ ws, w.length ≤ 16 ∧ SgT w ∧ ∀ c : Nat, c = 32 ∨ c = 10 → c ∉ w.cps.toList) ∧ ∃ w ∈ ws, w.cps.toList ≠ [] := by
    cases h with
    | deed h hg hc =>
      obtain ⟨g0, c0, gl, cl⟩ := h.g0
      have jw : ∀ j, Jz j → (jointT j).length ≤ 16 ∧ SgT (jointT j) ∧ ∀ c : Nat, c = 32 ∨ c = 10 → c ∉ (jointT j).cps.toList := fun j hj => ⟨jointT_len hj.sj, sg_joint hj, fun c hc => jz_no hj (by omega)⟩
      refine ⟨by simp, by simp; omega, fun w hw => ?_, toW, by simp, by rw [toW_sg]; simp⟩
      rcases List.mem_append.mp hw with hw | hw
      · obtain ⟨j, hj, rfl⟩ := List.mem_map.mp hw
        exact jw j (hg j hj)
      · rcases List.mem_cons.mp hw with rfl | hw
        · refine ⟨by decide +kernel, fun c hc => ?_, fun c hc g => ?_⟩
          · rw [toW_sg] at hc; simp at hc; omega
          · rw [toW_sg] at g; simp at g; omega
        · obtain ⟨j, hj, rfl⟩ := List.mem_map.mp hw
          exact jw j (hc j hj)
    | @line w ns hw hn =>
      obtain ⟨wl, nl, ws⟩ := hw.fact
      refine ⟨by simp, by unfold numsT; simp; omega, fun v hv => ?_, w, by simp, ?_⟩
      · rcases List.mem_cons.mp hv with rfl | hv
        · exact ⟨by omega, fun c hc => by have := ws c hc; omega, fun c hc g => by have := ws c g; omega⟩
        · obtain ⟨n, h, rfl⟩ := List.mem_map.mp hv
          have := num_len (k := 3) (by decide) (hn n h)
          exact ⟨by omega, fun c hc => by have := sign_num hc; omega, fun c hc g => by have := sign_num g; omega⟩
      · rcases hw with ⟨rfl, _⟩ | ⟨rfl, _⟩ <;> decide +kernel
  obtain ⟨f1, f2, f3, w, hw, hc⟩ := fin
  refine ⟨f1, f2, f3, ?_⟩
  obtain ⟨c, hc⟩ := List.exists_mem_of_ne_nil _ hc
  exact ⟨c, join_has hw hc⟩
theorem DkL.len {d : D} {ws : List Str} (h : DkL d ws) : (Txt.join spT ws).length ≤ 100 := by
  obtain ⟨h0, hl, hw, _⟩ := h.facts
  have h1 := join_bound spT ws
  have h2 := sum_le (f := fun v : Str => v.length) (n := 16) fun v hv => (hw v hv).1
  have e1 : spT.length = 1 := by decide
  rw [e1] at h1
  omega
theorem gIn_tup {n : Nat} {xs : List D} {x : D} (h : ∀ d ∈ xs, Hn n d) (hx : Hn n x) (hn : n ≤ 38) : ∃ b : Bool, (b = true ↔ x ∈ xs) ∧ gIn false x (.tuple xs) = some (.bool b) := by
  obtain ⟨b, h1, h2, h3, h4⟩ := gIn_hn false h hx hn
  refine ⟨b, h1, ?_⟩
  show (if okD x = true ∧ okD (.list xs) = true then some (inB false x xs) else none) = _
  rw [if_pos ⟨h3, h4⟩, h2]
  rfl
theorem turn_in (w : Str) (n : Nat) : ∃ b : Bool, (b = true ↔ (w = turnW ∧ n = 3) ∨ (w = changeW ∧ n = 5)) ∧ gIn false (.tuple [.str w, .int (n : Nat)]) (.tuple [.tuple [.str turnW, .int 3], .tuple [.str changeW, .int 5]]) = some (.bool b) := by
  have hp : ∀ (v : Str) (i : Int), Hn 1 (.tuple [.str v, .int i]) := fun v i d hd => by
    rcases List.mem_cons.mp hd with rfl | hd
    · exact hn_str _ _
    · rw [List.mem_singleton.mp hd]; exact hn_int _ _
  obtain ⟨b, h1, h2⟩ := gIn_tup (n := 1) (xs := [.tuple [.str turnW, .int 3], .tuple [.str changeW, .int 5]]) (x := .tuple [.str w, .int (n : Nat)]) (fun d hd => by
    rcases List.mem_cons.mp hd with rfl | hd
    · exact hp _ _
    · rw [List.mem_singleton.mp hd]; exact hp _ _) (hp _ _) (by omega)
  refine ⟨b, h1.trans ?_, h2⟩
  simp only [List.mem_cons, List.not_mem_nil, or_false, PyData.tuple.injEq, List.cons.injEq, PyData.str.injEq, PyData.int.injEq, and_true]
  constructor
  · rintro (⟨a, b⟩ | ⟨a, b⟩)
    · exact .inl ⟨a, by omega⟩
    · exact .inr ⟨a, by omega⟩
  · rintro (⟨a, b⟩ | ⟨a, b⟩)
    · exact .inl ⟨a, by omega⟩
    · exact .inr ⟨a, by omega⟩
def sp_read_deed : PSp := fun fl ds Q => fl = none ∧ ∃ d ws, ds = [.str (Txt.join spT ws)] ∧ DkL d ws ∧ Q (.dt d) none
abbrev N_read_deed : List Str := ["text", "words", "at", "gone", "come", "word"]
def T_read_deed : PS' := (sSeq (sAsg 1 (qF (fVM "str" gSplit (qVar 0) (qCons (qC (.str " ")) qNil))))
  (sSeq (sIf (qTest (qOp (gIn false) (qTup (qCons (qOp gIx (qVar 1) (qC (.int 0))) (qCons (qCB gLen (qCons (qVar 1) qNil)) qNil))) (qTup (qCons (qTup (qCons (qC (.str "turn")) (qCons (qC (.int 3)) qNil))) (qCons (qTup (qCons (qC (.str "change")) (qCons (qC (.int 5)) qNil))) qNil))))) (sRet (qOp gAdd (qTup (qCons (qOp gIx (qVar 1) (qC (.int 0))) qNil)) (qCB gTuple (qCons (qF (fLc (iAny (qSl (qVar 1) (qPs (qC (.int 1))) qPn)) (gN 5) tYes' (qCall sp_read_number (qAddD (qCons (qVar 5) qNil) [])) [5])) qNil)))) sNil)
  (sSeq (sIf (qTest (qOp (gEq true) (qVM "list" gCount (qVar 1) (qCons (qC (.str "to")) qNil)) (qC (.int 1)))) (sRaise) sNil)
  (sSeq (sAsg 2 (qVM "list" gIndex (qVar 1) (qCons (qC (.str "to")) qNil)))
  (sSeq (sAsg 3 (qCB gTuple (qCons (qF (fLc (iAny (qSl (qVar 1) qPn (qPs (qVar 2)))) (gN 5) tYes' (qCall sp_read_joint (qAddD (qCons (qVar 5) qNil) [])) [5])) qNil)))
  (sSeq (sAsg 4 (qCB gTuple (qCons (qF (fLc (iAny (qSl (qVar 1) (qPs (qOp gAdd (qVar 2) (qC (.int 1)))) qPn)) (gN 5) tYes' (qCall sp_read_joint (qAddD (qCons (qVar 5) qNil) [])) [5])) qNil)))
  (sSeq (sIf (tNot' (qTest (qCall sp_is_deed (qAddD (qCons (qTup (qCons (qVar 3) (qCons (qVar 4) qNil))) qNil) [])))) (sRaise) sNil)
  (sRet (qTup (qCons (qVar 3) (qCons (qVar 4) qNil)))))))))))
theorem pure_read_deed (fl : Option (List D)) (ds : List D) (Q : RV → Option (List D) → Prop) (_ : false = true ↔ fl ≠ none) (h : sp_read_deed fl ds Q) : T_read_deed (endsOf false Q) (startE false N_read_deed fl ds) := by
  obtain ⟨rfl, d, ws, rfl, hd, k⟩ := h
  show T_read_deed _ [SV.dat _, SV.un, SV.un, SV.un, SV.un, SV.un]
  unfold T_read_deed
  obtain ⟨w0, wl, hw, _⟩ := hd.facts
  have gs := splitW w0 (fun w h => (hw w h).2.2 32 (.inl rfl)) (by have := hd.len; omega)
  refine sSeq_abs fun R hR => ?_
  walk_at "wp"
  refine ⟨rfl, _, gs, ?_⟩
  subst hR
  refine sSeq_abs fun R hR => ?_
  walk_at "wp"
  rw [strsD_len]
  cases hd with
  | @line w ns hlw hn =>
    obtain ⟨b, hb, gb⟩ := turn_in w (w :: numsT ns).length
    have nl : (numsT ns).length = ns.length := by unfold numsT; rw [List.length_map]
    have hbt : b = true := hb.mpr (by
      rw [List.length_cons, nl]
      rcases hlw with ⟨a, e⟩ | ⟨a, e⟩
      · exact .inl ⟨a, by omega⟩
      · exact .inr ⟨a, by omega⟩)
    subst hbt
    refine ⟨.str w, rfl, sizeL (by decide), sizeL (by decide), sizeL (by decide), sizeL (by decide), _, gb, _, rfl, ?_⟩
    rw [if_pos rfl]
    have ec : cutD (strsD (w :: numsT ns)) (some 1) none = ns.map fun n : Nat => PyData.str (digT (n : Int)) := by
      have := cutD_drop (n := 1) (ds := strsD (w :: numsT ns)) (by rw [strsD_len]; simp)
      refine this.trans ?_
      show strsD (numsT ns) = _
      unfold strsD numsT
      rw [List.map_map]
      rfl
    rw [ec]
    have := hlw.fact.2.1
    refine ⟨.str w, rfl, sizeL (by decide), by rw [List.length_map]; omega, ?_⟩
    refine map_comp (f := fun n : Nat => PyData.int (n : Int)) (fun x hx K hK => ?_) ?_
    · walk_at "wp"
      refine ⟨rfl, x, rfl, hn x hx, ?_⟩
      walk_at "wp"
      exact hK
    exact ⟨sizeL (by rw [List.length_map]; omega), k⟩
  | @deed g c hD hg hc =>
    obtain ⟨g0, c0, gl, cl⟩ := hD.g0
    have sgw : ∀ v ∈ g.map jointT ++ toW :: c.map jointT, SgT v := fun v hv => (hw v hv).2.1
    have tsg : ∀ c ∈ toW.cps.toList, c ≠ 60 ∧ c ≠ 62 := fun c hc => by rw [toW_sg] at hc; simp at hc; omega
    have n1 : toW ∉ g.map jointT := fun h => by
      obtain ⟨j, hj, e⟩ := List.mem_map.mp h
      exact joint_ne (hg j hj) tsg e
    have n2 : toW ∉ c.map jointT := fun h => by
      obtain ⟨j, hj, e⟩ := List.mem_map.mp h
      exact joint_ne (hc j hj) tsg e
    have gc := cnt_one n1 n2 sgw
    have gi := idx_one n1 sgw
    rw [List.length_map] at gi
    have el : (g.map jointT ++ toW :: c.map jointT).length = g.length + c.length + 1 := by simp; omega
    have c1 : cutD (strsD (g.map jointT ++ toW :: c.map jointT)) none (some ((g.length : Nat) : Int)) = g.map fun j => PyData.str (jointT j) := by
      unfold cutD
      rw [HT.sIx_none, HT.sIx_nat, strsD_len, el, Nat.min_eq_left (by omega), Nat.sub_zero, List.drop_zero, strsD_app]
      rw [List.take_left' (by rw [strsD_len, List.length_map])]
      unfold strsD
      rw [List.map_map]
      rfl
    have c2 : cutD (strsD (g.map jointT ++ toW :: c.map jointT)) (some (((g.length : Nat) : Int) + 1)) none = c.map fun j => PyData.str (jointT j) := by
      rw [show (((g.length : Nat) : Int) + 1) = ((g.length + 1 : Nat) : Int) by omega, cutD_drop (by rw [strsD_len, el]; omega)]
      have : strsD (g.map jointT ++ toW :: c.map jointT) = strsD (g.map jointT ++ [toW]) ++ strsD (c.map jointT) := by rw [← strsD_app]; simp
      rw [this, List.drop_left' (by rw [strsD_len]; simp)]
      unfold strsD
      rw [List.map_map]
      rfl
    obtain ⟨j0, gr, eg⟩ : ∃ j0 gr, g = j0 :: gr := by
      cases g with
      | nil => exact absurd rfl g0
      | cons a r => exact ⟨a, r, rfl⟩
    have hj0 := hg j0 (by rw [eg]; simp)
    have e00 : (strsD (g.map jointT ++ toW :: c.map jointT))[0]? = some (.str (jointT j0)) := by rw [eg]; rfl
    obtain ⟨b, hb, gb⟩ := turn_in (jointT j0) (g.map jointT ++ toW :: c.map jointT).length
    have hbf : b = false := by
      cases b with
      | false => rfl
      | true =>
        have key : ∀ z : Str, z.cps.toList.all (fun c => decide (97 ≤ c) && decide (c ≤ 122)) = true → jointT j0 ≠ z := fun z h => joint_ne hj0 fun c hc => by
          have := List.all_eq_true.mp h c hc
          rw [Bool.and_eq_true, decide_eq_true_eq, decide_eq_true_eq] at this
          omega
        rcases hb.mp rfl with ⟨e, _⟩ | ⟨e, _⟩
        · exact absurd e (key turnW (by decide +kernel))
        · exact absurd e (key changeW (by decide +kernel))
    subst hbf
    generalize g.map jointT ++ toW :: c.map jointT = ws at *
    refine ⟨_, e00, sizeL (by decide), sizeL (by decide), sizeL (by decide), sizeL (by decide), _, gb, _, rfl, ?_⟩
    rw [if_neg (by decide)]
    subst hR
    refine sSeq_abs fun R hR => ?_
    walk_at "wp"
    refine ⟨rfl, _, gc, _, rfl, _, rfl, ?_⟩
    rw [if_neg (by decide)]
    subst hR
    refine sSeq_abs fun R hR => ?_
    walk_at "wp"
    refine ⟨rfl, _, gi, ?_⟩
    subst hR
    refine sSeq_abs fun R hR => ?_
    walk_at "wp"
    rw [c1]
    refine ⟨by rw [List.length_map]; omega, ?_⟩
    refine map_comp (f := id) (fun x hx K hK => ?_) ?_
    · walk_at "wp"
      refine ⟨rfl, x, rfl, hg x hx, ?_⟩
      walk_at "wp"
      exact hK
    rw [List.map_id]
    walk_at "wp"
    subst hR
    refine sSeq_abs fun R hR => ?_
    walk_at "wp"
    rw [c2]
    refine ⟨by rw [List.length_map]; omega, ?_⟩
    refine map_comp (f := id) (fun x hx K hK => ?_) ?_
    · walk_at "wp"
      refine ⟨rfl, x, rfl, hc x hx, ?_⟩
      walk_at "wp"
      exact hK
    rw [List.map_id]
    walk_at "wp"
    subst hR
    refine sSeq_abs fun R hR => ?_
    walk_at "wp"
    have ok : OkN 4 (.tuple [.tuple g, .tuple c]) := okN_tup (by simp) fun x hx => by
      rcases List.mem_cons.mp hx with rfl | hx
      · exact okN_tup (by omega) fun j hj => okN_joint (hD.gj j hj) 0
      · rw [List.mem_singleton.mp hx]
        exact okN_tup (by omega) fun j hj => okN_joint (hD.cj j hj) 0
    refine ⟨sizeL (by decide), rfl, _, rfl, ok, ?_⟩
    rw [deedB_iff.mpr hD]
    walk_at "wp"
    subst hR
    walk_at "wp"
    exact ⟨sizeL (by decide), k⟩
def nlT : Str := Str.ofString "\n"
theorem splitL {ls : List Str} (h0 : ls ≠ []) (h : ∀ w ∈ ls, 10 ∉ w.cps.toList) (hl : (Txt.join nlT ls).length ≤ 1000000) : gSplit (.str (Txt.join nlT ls)) [.str (Str.ofString "\n")] = some (strsD ls) := by
  have e : nlT = SX.S [10] := nl_S
  rw [show Str.ofString "\n" = SX.S [10] from nl_S]
  rw [e] at hl ⊢
  exact gSplit_join (by decide) h0 h (sizeL (by omega))
/-- deeds, their lines -/
def DkLs (ds : List D) (ls : List Str) : Prop := ∃ es : List (D × List Str), (∀ p ∈ es, DkL p.1 p.2) ∧ ds = es.map (·.1) ∧ ls = es.map fun p => Txt.join spT p.2
theorem DkL.no10 {d : D} {ws : List Str} (h : DkL d ws) : 10 ∉ (Txt.join spT ws).cps.toList := fun g => by
  have := join_signs (P := fun c => c ≠ 10) (y := spT) (fun c hc => by rw [sp_S] at hc; simp at hc; omega) (ws := ws) (fun w hw c hc e => by subst e; exact (h.facts.2.2.1 w hw).2.2 10 (.inr rfl) hc) 10 g
  exact this rfl
theorem lines_len {ls : List Str} {n : Nat} (h : ∀ l ∈ ls, l.length ≤ n) : (Txt.join nlT ls).length ≤ ls.length * (n + 1) := by
  have h1 := join_bound nlT ls
  have h2 := sum_le (f := fun v : Str => v.length) h
  have e1 : nlT.length = 1 := by decide +kernel
  rw [e1] at h1
  rw [Nat.mul_add]
  omega
def sp_read_row : PSp := fun fl ds Q => fl = none ∧ ∃ dd ls, ds = [.str (Txt.join nlT ls)] ∧ DkLs dd ls ∧ ls.length ≤ 1000 ∧ Q (.fr dd) none
abbrev N_read_row : List Str := ["text", "line"]
def T_read_row : PS' := (sSeq (sIf (tNot' (qTest (qIsi .str (qVar 0)))) (sRaise) sNil)
  (sSeq (sIf (qTest (qOp (gEq false) (qVar 0) (qC (.str "")))) (sRetF (fLst (qNil))) sNil)
  (sRetF (fLc (iAny (qF (fVM "str" gSplit (qVar 0) (qCons (qC (.str "\n")) qNil)))) (gN 1) tYes' (qCall sp_read_deed (qAddD (qCons (qVar 1) qNil) [])) [1]))))
theorem pure_read_row (fl : Option (List D)) (ds : List D) (Q : RV → Option (List D) → Prop) (_ : false = true ↔ fl ≠ none) (h : sp_read_row fl ds Q) : T_read_row (endsOf false Q) (startE false N_read_row fl ds) := by
  obtain ⟨rfl, dd, ls, rfl, ⟨es, he, rfl, rfl⟩, hl, k⟩ := h
  show T_read_row _ [SV.dat _, SV.un]
  unfold T_read_row
  have lb : ∀ l ∈ es.map (fun p => Txt.join spT p.2), l.length ≤ 100 := fun l hl => by
    obtain ⟨p, hp, rfl⟩ := List.mem_map.mp hl
    exact (he p hp).len
  have ll := lines_len lb
  rw [List.length_map] at ll hl
  have n10 : ∀ l ∈ es.map (fun p => Txt.join spT p.2), 10 ∉ l.cps.toList := fun l hl => by
    obtain ⟨p, hp, rfl⟩ := List.mem_map.mp hl
    exact (he p hp).no10
  cases es with
  | nil =>
    have e : Txt.join nlT (([] : List (D × List Str)).map fun p => Txt.join spT p.2) = Str.ofString "" := by rw [List.map_nil, TL.join_eq]; rfl
    rw [e]
    walk_at "wp"
    rw [if_neg (by decide)]
    exact ⟨Nat.zero_le _, k⟩
  | cons p r =>
    have ne : Txt.join nlT ((p :: r).map fun p => Txt.join spT p.2) ≠ Str.ofString "" := fun e => by
      obtain ⟨c, hc⟩ := (he p List.mem_cons_self).facts.2.2.2
      have := join_has (y := nlT) (ws := (p :: r).map fun p => Txt.join spT p.2) (w := Txt.join spT p.2) (by simp) hc
      rw [e] at this
      cases this
    have gs := splitL (ls := (p :: r).map fun p => Txt.join spT p.2) (by simp) n10 (by omega)
    generalize hes : p :: r = es at *
    walk_at "wp"
    rw [if_neg (by decide), if_neg ne]
    refine ⟨rfl, _, gs, by rw [strsD_len, List.length_map]; omega, ?_⟩
    have e1 : strsD (es.map fun p => Txt.join spT p.2) = es.map fun p => PyData.str (Txt.join spT p.2) := by unfold strsD; rw [List.map_map]; rfl
    rw [e1]
    refine map_comp (f := fun p => p.1) (fun x hx K hK => ?_) ?_
    · walk_at "wp"
      refine ⟨rfl, x.1, x.2, rfl, he x hx, ?_⟩
      walk_at "wp"
      exact hK
    exact k
theorem gJoin_lines {ls : List Str} {n : Nat} (h : ∀ l ∈ ls, l.length ≤ n) (hl : ls.length * (n + 1) ≤ 16777216) : gJoin (Str.ofString "\n") (strsD ls) = some (.str (Txt.join nlT ls)) := by
  have h2 := sum_le (f := fun v : Str => v.length) h
  have e1 : (Str.ofString "\n").length = 1 := by decide +kernel
  have := gJoin_s (z := Str.ofString "\n") (ys := ls)
  rw [if_pos (by rw [e1]; rw [Nat.mul_add] at hl; omega)] at this
  exact this
def sp_read_deeds : PSp := fun fl ds Q => fl = none ∧ ∃ dd ls, ds = [.list (strsD ls)] ∧ DkLs dd ls ∧ ls.length ≤ 1000 ∧ Q (.dt (.tuple dd)) none
abbrev N_read_deeds : List Str := ["lines"]
def T_read_deeds : PS' := (sSeq (sIf (qTest (qOp (gIn false) (qC (.str "")) (qVar 0))) (sRaise) sNil)
  (sRet (qCB gTuple (qCons (qCall sp_read_row (qAddD (qCons (qJoin (qC (.str "\n")) (qVar 0)) qNil) [])) qNil))))
theorem pure_read_deeds (fl : Option (List D)) (ds : List D) (Q : RV → Option (List D) → Prop) (_ : false = true ↔ fl ≠ none) (h : sp_read_deeds fl ds Q) : T_read_deeds (endsOf false Q) (startE false N_read_deeds fl ds) := by
  obtain ⟨rfl, dd, ls, rfl, hd, hl, k⟩ := h
  show T_read_deeds _ [SV.dat _]
  unfold T_read_deeds
  have hd' := hd
  obtain ⟨es, he, e1, e2⟩ := hd'
  have ni : Str.ofString "" ∉ ls := fun h => by
    rw [e2] at h
    obtain ⟨p, hp, e⟩ := List.mem_map.mp h
    obtain ⟨c, hc⟩ := (he p hp).facts.2.2.2
    rw [e] at hc
    cases hc
  have lb : ∀ l ∈ ls, l.length ≤ 100 := fun l hl => by
    rw [e2] at hl
    obtain ⟨p, hp, rfl⟩ := List.mem_map.mp hl
    exact (he p hp).len
  have ll := lines_len lb
  have gi : gIn false (.str (Str.ofString "")) (.list (strsD ls)) = some (.bool false) := by
    have := gIn_strs (neg := false) (z := Str.ofString "") (ys := ls)
    rw [decide_eq_false ni] at this
    exact this
  refine sSeq_abs fun R hR => ?_
  walk_at "wp"
  refine ⟨_, gi, _, rfl, ?_⟩
  rw [if_neg (by decide)]
  subst hR
  walk_at "wp"
  have gj := gJoin_lines (ls := ls) (n := 100) lb (by omega)
  exact ⟨_, gj, rfl, dd, ls, rfl, hd, hl, ⟨_, rfl, k⟩⟩

end Sw

open PySem PySem.Spec L2 Sw
namespace Sw
def rowW : Str := Str.ofString "row"
def cutsW : Str := Str.ofString "cuts"
def joinsW : Str := Str.ofString "joins"
def knotsW : Str := Str.ofString "knots"
def coverW : Str := Str.ofString "cover"
def oneW : Str := Str.ofString "one"
def twoW : Str := Str.ofString "two"
def homeW : Str := Str.ofString "home"
def turnsW : Str := Str.ofString "turns"
def changesW : Str := Str.ofString "changes"
def ringD (r : List Nat) : D := .tuple (natsZ r)
def ringL' (r : List Nat) : Str := Txt.join spT (ringW :: numsT r)
structure RingOk' (r : List Nat) : Prop where
  ne : r ≠ []
  len : r.length ≤ 100
  lt : ∀ n ∈ r, n < 10000
/-- a book, the parts of a paper of it, their lines -/
inductive PpL : Str → D → List Str → Prop
  | one {cs js : List D} (hc : ∀ j ∈ cs, Jz j) (hj : ∀ j ∈ js, Jz j) (cl : cs.length ≤ 100) (jl : js.length ≤ 100) : PpL oneW (.tuple [.tuple cs, .tuple js]) [Txt.join spT (cutsW :: cs.map jointT), Txt.join spT (joinsW :: js.map jointT)]
  | two {b : Str} {ps : List Part} (hb : b = twoW ∨ b = homeW) (hp : ∀ p ∈ ps, PartOk p) (pl : ps.length ≤ 100) : PpL b (.tuple (ps.map partDz)) (ps.map partL)
  | changes {rs : List (List Nat)} (hr : ∀ r ∈ rs, RingOk' r) (rl : rs.length ≤ 100) : PpL changesW (.tuple [.tuple (rs.map ringD)]) (rs.map ringL')
  | turns {rs : List (List Nat)} {ks : List (Nat × Nat)} {n : Nat} (hr : ∀ r ∈ rs, RingOk' r) (rl : rs.length ≤ 100) (hk : ∀ k ∈ ks, k.1 < 10000 ∧ k.2 < 10000) (kl : ks.length ≤ 100) (hn : n < 10000) :
      PpL turnsW (.tuple [.tuple (rs.map ringD), .tuple (ks.map knotD), .int (n : Nat)]) (rs.map ringL' ++ [Txt.join spT (knotsW :: ks.map knotT), Txt.join spT [coverW, digT (n : Int)]])
/-- what is asked of a line -/
def LnOk (l : Str) : Prop := 10 ∉ l.cps.toList ∧ l ≠ rowW ∧ l.length ≤ 4000 ∧ SgT l
theorem sp_sg : spT.cps.toList = [32] := by rw [sp_S]
theorem two_words {w v : Str} {r : List Str} : Txt.join spT (w :: v :: r) ≠ rowW := fun e => by
  have : 32 ∈ (Txt.join spT (w :: v :: r)).cps.toList := by
    rw [join2, tl_app, tl_app, sp_sg]
    exact List.mem_append_left _ (List.mem_append_right _ (by simp))
  rw [e] at this
  exact absurd this (by decide +kernel)
theorem word_join {ws : List Str} (h : ∀ w ∈ ws, (∀ c ∈ w.cps.toList, c ≠ 10 ∧ c < 256)) : 10 ∉ (Txt.join spT ws).cps.toList ∧ SgT (Txt.join spT ws) := by
  have := join_signs (P := fun c => c ≠ 10 ∧ c < 256) (y := spT) (fun c hc => by rw [sp_sg] at hc; simp at hc; omega) (ws := ws) h
  exact ⟨fun g => (this 10 g).1 rfl, fun c hc => (this c hc).2⟩
theorem lowW {w : Str} (h : w.cps.toList.all (fun c => decide (33 ≤ c) && decide (c ≤ 126)) = true) : ∀ c ∈ w.cps.toList, 33 ≤ c ∧ c ≤ 126 := fun c hc => by
  have := List.all_eq_true.mp h c hc
  rw [Bool.and_eq_true, decide_eq_true_eq, decide_eq_true_eq] at this
  exact this
/-- a line of words -/
theorem line_ok {w : Str} {ws : List Str} (hw : ∀ c ∈ w.cps.toList, 33 ≤ c ∧ c ≤ 126) (wl : w.length ≤ 10) (h : ∀ v ∈ ws, (∀ c ∈ v.cps.toList, 33 ≤ c ∧ c ≤ 126) ∧ v.length ≤ 16) (hl : ws.length ≤ 210) (hr : ws = [] → w ≠ rowW) :
    LnOk (Txt.join spT (w :: ws)) ∧ ∀ v ∈ w :: ws, 32 ∉ v.cps.toList := by
  have hv : ∀ v ∈ w :: ws, ∀ c ∈ v.cps.toList, 33 ≤ c ∧ c ≤ 126 := fun v hv => by
    rcases List.mem_cons.mp hv with rfl | hv
    · exact hw
    · exact (h v hv).1
  obtain ⟨a, b⟩ := word_join (ws := w :: ws) fun v m c hc => by have := hv v m c hc; omega
  have l := joinW_len (n := 16) wl fun v m => (h v m).2
  refine ⟨⟨a, ?_, by omega, b⟩, fun v m g => by have := hv v m 32 g; omega⟩
  cases ws with
  | nil => rw [join1]; exact hr rfl
  | cons v r => exact two_words
theorem joint_low {j : D} (h : Jz j) : (∀ c ∈ (jointT j).cps.toList, 33 ≤ c ∧ c ≤ 126) ∧ (jointT j).length ≤ 16 := ⟨fun c hc => by rcases jointT_signs h c hc with (g | g | g) | g <;> omega, jointT_len h.sj⟩
theorem num_low {n : Nat} (h : n < 10000) : (∀ c ∈ (digT (n : Int)).cps.toList, 33 ≤ c ∧ c ≤ 126) ∧ (digT (n : Int)).length ≤ 16 := ⟨fun c hc => by have := sign_num hc; omega, by have := num_len (k := 4) (by decide) h; omega⟩
theorem knot_low {k : Nat × Nat} (h1 : k.1 < 10000) (h2 : k.2 < 10000) : (∀ c ∈ (knotT k).cps.toList, 33 ≤ c ∧ c ≤ 126) ∧ (knotT k).length ≤ 16 := ⟨fun c hc => by
  unfold knotT at hc
  rw [tl_app, tl_app, da_S] at hc
  rcases List.mem_append.mp hc with hc | hc
  · rcases List.mem_append.mp hc with hc | hc
    · have := sign_num hc; omega
    · simp at hc; omega
  · have := sign_num hc; omega, by have := knotT_len h1 h2; omega⟩
theorem joints_ok {w : Str} {js : List D} (hw : ∀ c ∈ w.cps.toList, 33 ≤ c ∧ c ≤ 126) (wl : w.length ≤ 10) (wr : w ≠ rowW) (h : ∀ j ∈ js, Jz j) (hl : js.length ≤ 100) : LnOk (Txt.join spT (w :: js.map jointT)) ∧ ∀ v ∈ w :: js.map jointT, 32 ∉ v.cps.toList :=
  line_ok hw wl (fun v hv => by obtain ⟨j, hj, rfl⟩ := List.mem_map.mp hv; exact joint_low (h j hj)) (by rw [List.length_map]; omega) fun _ => wr
theorem ring_ok {r : List Nat} (h : RingOk' r) : LnOk (ringL' r) := (line_ok (lowW (by decide +kernel)) (by decide +kernel) (fun v hv => by
  obtain ⟨n, hn, rfl⟩ := List.mem_map.mp hv
  exact num_low (h.lt n hn)) (by have := h.len; unfold numsT; rw [List.length_map]; omega) fun e => absurd e (by have := h.ne; unfold numsT; simpa using this)).1
theorem part_ok {p : Part} (h : PartOk p) : LnOk (partL p) := by
  unfold partL partWs
  refine (line_ok (fun c hc => by have := h.kd.sg c hc; omega) (by have := h.kd.len; omega) (fun v hv => ?_) (by have := h.ol; have := h.tl; simp; omega) fun e => by simp at e).1
  rcases List.mem_append.mp hv with hv | hv
  · obtain ⟨j, hj, rfl⟩ := List.mem_map.mp hv
    exact joint_low (h.o j hj)
  · rcases List.mem_cons.mp hv with rfl | hv
    · exact ⟨lowW (by decide +kernel), by decide +kernel⟩
    · obtain ⟨j, hj, rfl⟩ := List.mem_map.mp hv
      exact joint_low (h.t j hj)
theorem PpL.lines {b : Str} {d : D} {ls : List Str} (h : PpL b d ls) : (∀ l ∈ ls, LnOk l) ∧ ls.length ≤ 102 := by
  cases h with
  | one hc hj cl jl =>
    refine ⟨fun l hl => ?_, by simp⟩
    rcases List.mem_cons.mp hl with rfl | hl
    · exact (joints_ok (lowW (by decide +kernel)) (by decide +kernel) (by decide +kernel) hc cl).1
    · rw [List.mem_singleton.mp hl]
      exact (joints_ok (lowW (by decide +kernel)) (by decide +kernel) (by decide +kernel) hj jl).1
  | two hb hp pl =>
    refine ⟨fun l hl => ?_, by rw [List.length_map]; omega⟩
    obtain ⟨p, h, rfl⟩ := List.mem_map.mp hl
    exact part_ok (hp p h)
  | changes hr rl =>
    refine ⟨fun l hl => ?_, by rw [List.length_map]; omega⟩
    obtain ⟨r, h, rfl⟩ := List.mem_map.mp hl
    exact ring_ok (hr r h)
  | turns hr rl hk kl hn =>
    refine ⟨fun l hl => ?_, by simp; omega⟩
    rcases List.mem_append.mp hl with hl | hl
    · obtain ⟨r, h, rfl⟩ := List.mem_map.mp hl
      exact ring_ok (hr r h)
    · rcases List.mem_cons.mp hl with rfl | hl
      · exact (line_ok (lowW (by decide +kernel)) (by decide +kernel) (fun v hv => by obtain ⟨k, h, rfl⟩ := List.mem_map.mp hv; exact knot_low (hk k h).1 (hk k h).2) (by rw [List.length_map]; omega) fun _ => by decide +kernel).1
      · rw [List.mem_singleton.mp hl]
        exact (line_ok (lowW (by decide +kernel)) (by decide +kernel) (fun v hv => by rw [List.mem_singleton.mp hv]; exact num_low hn) (by simp) fun e => by simp at e).1

end Sw

open PySem PySem.Spec L2 Sw
namespace Sw
theorem words_ok {w : Str} {ws : List Str} (h : LnOk (Txt.join spT (w :: ws)) ∧ ∀ v ∈ w :: ws, 32 ∉ v.cps.toList) : (∀ v ∈ w :: ws, 32 ∉ v.cps.toList) ∧ (Txt.join spT (w :: ws)).length ≤ 1000000 := ⟨h.2, by have := h.1.2.2.1; omega⟩
theorem cover_ok {n : Nat} (hn : n < 10000) : LnOk (Txt.join spT [coverW, digT (n : Int)]) ∧ ∀ v ∈ [coverW, digT (n : Int)], 32 ∉ v.cps.toList :=
  line_ok (lowW (by decide +kernel)) (by decide +kernel) (fun v hv => by rw [List.mem_singleton.mp hv]; exact num_low hn) (by simp) fun e => by simp at e
theorem knots_ok {ks : List (Nat × Nat)} (hk : ∀ k ∈ ks, k.1 < 10000 ∧ k.2 < 10000) (kl : ks.length ≤ 100) : LnOk (Txt.join spT (knotsW :: ks.map knotT)) ∧ ∀ v ∈ knotsW :: ks.map knotT, 32 ∉ v.cps.toList :=
  line_ok (lowW (by decide +kernel)) (by decide +kernel) (fun v hv => by obtain ⟨k, h, rfl⟩ := List.mem_map.mp hv; exact knot_low (hk k h).1 (hk k h).2) (by rw [List.length_map]; omega) fun _ => by decide +kernel
theorem strsD_map {α : Type} (xs : List α) (f : α → Str) : strsD (xs.map f) = xs.map fun x => PyData.str (f x) := by unfold strsD; rw [List.map_map]; rfl
theorem atI_m2 {α : Type} (xs : List α) (a b : α) : atI (xs ++ [a, b]) (-2) = some a := by
  unfold atI ixN
  have hl : (xs ++ [a, b]).length = xs.length + 2 := by simp
  rw [hl, if_neg (by decide), if_pos (by omega)]
  have e : ((-2 : Int) + ((xs.length + 2 : Nat) : Int)).toNat = xs.length := by omega
  show (xs ++ [a, b])[((-2 : Int) + ((xs.length + 2 : Nat) : Int)).toNat]? = some a
  rw [e, List.getElem?_append_right (Nat.le_refl _), Nat.sub_self]
  rfl
def sp_read_parts : PSp := fun fl ds Q => fl = none ∧ ∃ b d ls, ds = [.str b, .list (strsD ls)] ∧ PpL b d ls ∧ Q (.dt d) none
abbrev N_read_parts : List Str := ["book", "lines", "rings", "knots", "last", "line", "word"]
def T_read_parts : PS' := (sSeq (sIf (tOr' (qTest (qOp (gEq false) (qVar 0) (qC (.str "two")))) (qTest (qOp (gEq false) (qVar 0) (qC (.str "home"))))) (sRet (qCB gTuple (qCons (qF (fLc (iAny (qVar 1)) (gN 5) tYes' (qCall sp_read_part (qAddD (qCons (qVar 5) qNil) [])) [5])) qNil))) sNil)
  (sSeq (sIf (qTest (qOp (gEq false) (qVar 0) (qC (.str "changes")))) (sRet (qTup (qCons (qCB gTuple (qCons (qF (fLc (iAny (qVar 1)) (gN 5) tYes' (qCall sp_read_ring (qAddD (qCons (qVar 5) qNil) [])) [5])) qNil)) qNil))) sNil)
  (sSeq (sIf (tOr' (qTest (qOp gLt (qCB gLen (qCons (qVar 1) qNil)) (qC (.int 2)))) (tAnd' (qTest (qOp (gEq false) (qVar 0) (qC (.str "one")))) (qTest (qOp (gI (gCmp fun i j => decide (j < i))) (qCB gLen (qCons (qVar 1) qNil)) (qC (.int 2)))))) (sRaise) sNil)
  (sSeq (sIf (qTest (qOp (gEq false) (qVar 0) (qC (.str "one")))) (sRet (qTup (qCons (qCall sp_read_joints (qAddD (qCons (qCall sp_words_behind (qAddD (qCons (qOp gIx (qVar 1) (qC (.int 0))) (qCons (qC (.str "cuts")) qNil)) [])) qNil) [])) (qCons (qCall sp_read_joints (qAddD (qCons (qCall sp_words_behind (qAddD (qCons (qOp gIx (qVar 1) (qC (.int 1))) (qCons (qC (.str "joins")) qNil)) [])) qNil) [])) qNil)))) sNil)
  (sSeq (sAsg 2 (qCB gTuple (qCons (qF (fLc (iAny (qSl (qVar 1) qPn (qPs (qNeg (qC (.int 2)))))) (gN 5) tYes' (qCall sp_read_ring (qAddD (qCons (qVar 5) qNil) [])) [5])) qNil)))
  (sSeq (sAsg 3 (qCB gTuple (qCons (qF (fLc (iAny (qCall sp_words_behind (qAddD (qCons (qOp gIx (qVar 1) (qNeg (qC (.int 2)))) (qCons (qC (.str "knots")) qNil)) []))) (gN 6) tYes' (qCall sp_read_knot (qAddD (qCons (qVar 6) qNil) [])) [6])) qNil)))
  (sSeq (sAsg 4 (qCall sp_words_behind (qAddD (qCons (qOp gIx (qVar 1) (qNeg (qC (.int 1)))) (qCons (qC (.str "cover")) qNil)) [])))
  (sSeq (sIf (qTest (qOp (gEq true) (qCB gLen (qCons (qVar 4) qNil)) (qC (.int 1)))) (sRaise) sNil)
  (sRet (qTup (qCons (qVar 2) (qCons (qVar 3) (qCons (qCall sp_read_number_2 (qAddD (qCons (qOp gIx (qVar 4) (qC (.int 0))) qNil) [])) qNil)))))))))))))
theorem pure_read_parts (fl : Option (List D)) (ds : List D) (Q : RV → Option (List D) → Prop) (_ : false = true ↔ fl ≠ none) (h : sp_read_parts fl ds Q) : T_read_parts (endsOf false Q) (startE false N_read_parts fl ds) := by
  obtain ⟨rfl, b, d, ls, rfl, hp, k⟩ := h
  show T_read_parts _ [SV.dat _, SV.dat _, SV.un, SV.un, SV.un, SV.un, SV.un]
  unfold T_read_parts
  cases hp with
  | @two b ps hb hp pl =>
    refine sSeq_abs fun R hR => ?_
    rw [strsD_map]
    rcases hb with rfl | rfl
    · walk_at "wp"
      rw [if_pos (by rfl)]
      refine ⟨by rw [List.length_map]; omega, ?_⟩
      refine map_comp (f := partDz) (fun x hx K hK => ?_) ?_
      · walk_at "wp"
        refine ⟨rfl, x, rfl, hp x hx, ?_⟩
        walk_at "wp"
        exact hK
      exact k
    · walk_at "wp"
      rw [if_neg (by decide +kernel), if_pos (by rfl)]
      refine ⟨by rw [List.length_map]; omega, ?_⟩
      refine map_comp (f := partDz) (fun x hx K hK => ?_) ?_
      · walk_at "wp"
        refine ⟨rfl, x, rfl, hp x hx, ?_⟩
        walk_at "wp"
        exact hK
      exact k
  | @changes rs hr rl =>
    rw [strsD_map]
    walk_at "wp"
    rw [if_neg (by decide +kernel), if_neg (by decide +kernel), if_pos (by rfl)]
    refine ⟨by rw [List.length_map]; omega, ?_⟩
    refine map_comp (f := ringD) (fun x hx K hK => ?_) ?_
    · walk_at "wp"
      have h := hr x hx
      refine ⟨rfl, x, rfl, h.ne, by have := h.len; omega, h.lt, ?_⟩
      walk_at "wp"
      exact hK
    exact ⟨sizeL (by decide), k⟩
  | @one cs js hc hj cl jl =>
    have o1 := words_ok (joints_ok (w := cutsW) (lowW (by decide +kernel)) (by decide +kernel) (by decide +kernel) hc cl)
    have o2 := words_ok (joints_ok (w := joinsW) (lowW (by decide +kernel)) (by decide +kernel) (by decide +kernel) hj jl)
    refine sSeq_abs fun R hR => ?_
    walk_at "wp"
    rw [if_neg (by decide +kernel), if_neg (by decide +kernel)]
    subst hR
    refine sSeq_abs fun R hR => ?_
    walk_at "wp"
    rw [if_neg (by decide +kernel)]
    subst hR
    refine sSeq_abs fun R hR => ?_
    walk_at "wp"
    rw [strsD_len, if_neg (by simp), if_pos (by rfl), if_neg (by simp)]
    subst hR
    refine sSeq_abs fun R hR => ?_
    walk_at "wp"
    rw [if_pos (by rfl)]
    refine ⟨_, rfl, rfl, cutsW, cs.map jointT, rfl, o1.1, o1.2, rfl, cs, rfl, hc, by omega, ?_⟩
    refine ⟨_, rfl, rfl, joinsW, js.map jointT, rfl, o2.1, o2.2, rfl, js, rfl, hj, by omega, ?_⟩
    exact ⟨sizeL (by decide), k⟩
  | @turns rs ks n hr rl hk kl hn =>
    have o1 := words_ok (knots_ok hk kl)
    have o2 := words_ok (cover_ok hn)
    have hlen : (rs.map ringL' ++ [Txt.join spT (knotsW :: ks.map knotT), Txt.join spT [coverW, digT (n : Int)]]).length = rs.length + 2 := by simp
    have c2 : cutD (strsD (rs.map ringL' ++ [Txt.join spT (knotsW :: ks.map knotT), Txt.join spT [coverW, digT (n : Int)]])) none (some (-2)) = rs.map fun r => PyData.str (ringL' r) := by
      unfold cutD
      have e : HT.sIx (strsD (rs.map ringL' ++ [Txt.join spT (knotsW :: ks.map knotT), Txt.join spT [coverW, digT (n : Int)]])).length (strsD (rs.map ringL' ++ [Txt.join spT (knotsW :: ks.map knotT), Txt.join spT [coverW, digT (n : Int)]])).length (some (-2)) = rs.length := by
        rw [strsD_len, hlen]
        simp only [HT.sIx]
        rw [if_pos (by decide)]
        omega
      rw [e, HT.sIx_none, Nat.sub_zero, List.drop_zero, strsD_app, List.take_left' (by rw [strsD_len, List.length_map]), strsD_map]
    have i2 : atI (strsD (rs.map ringL' ++ [Txt.join spT (knotsW :: ks.map knotT), Txt.join spT [coverW, digT (n : Int)]])) (-2) = some (.str (Txt.join spT (knotsW :: ks.map knotT))) := by
      rw [strsD_app]
      exact atI_m2 _ _ _
    have i1 : atI (strsD (rs.map ringL' ++ [Txt.join spT (knotsW :: ks.map knotT), Txt.join spT [coverW, digT (n : Int)]])) (-1) = some (.str (Txt.join spT [coverW, digT (n : Int)])) := by
      rw [strsD_app]
      exact atI_neg1 (by simp [strsD])
    refine sSeq_abs fun R hR => ?_
    walk_at "wp"
    rw [if_neg (by decide +kernel), if_neg (by decide +kernel)]
    subst hR
    refine sSeq_abs fun R hR => ?_
    walk_at "wp"
    rw [if_neg (by decide +kernel)]
    subst hR
    refine sSeq_abs fun R hR => ?_
    walk_at "wp"
    rw [strsD_len, hlen, if_neg (by omega), if_neg (by decide +kernel)]
    subst hR
    refine sSeq_abs fun R hR => ?_
    walk_at "wp"
    rw [if_neg (by decide +kernel)]
    subst hR
    refine sSeq_abs fun R hR => ?_
    walk_at "wp"
    rw [c2]
    refine ⟨by rw [List.length_map]; omega, ?_⟩
    refine map_comp (f := ringD) (fun x hx K hK => ?_) ?_
    · walk_at "wp"
      have h := hr x hx
      refine ⟨rfl, x, rfl, h.ne, by have := h.len; omega, h.lt, ?_⟩
      walk_at "wp"
      exact hK
    walk_at "wp"
    subst hR
    refine sSeq_abs fun R hR => ?_
    walk_at "wp"
    refine ⟨_, i2, rfl, knotsW, ks.map knotT, rfl, o1.1, o1.2, ?_⟩
    rw [strsD_map]
    refine ⟨_, rfl, by rw [List.length_map]; omega, ?_⟩
    refine map_comp (f := knotD) (fun x hx K hK => ?_) ?_
    · walk_at "wp"
      refine ⟨rfl, x, rfl, (hk x hx).1, (hk x hx).2, ?_⟩
      walk_at "wp"
      exact hK
    walk_at "wp"
    subst hR
    refine sSeq_abs fun R hR => ?_
    walk_at "wp"
    refine ⟨_, i1, rfl, coverW, [digT (n : Int)], rfl, o2.1, o2.2, ?_⟩
    walk_at "wp"
    subst hR
    walk_at "wp"
    rw [if_neg (by show ¬ ¬ ((1 : Nat) : Int) = 1; simp)]
    exact ⟨_, rfl, rfl, n, rfl, hn, sizeL (by decide), k⟩
/-- its lines -/
def paperLs (b : Str) (t : Nat) (pl dl : List Str) : List Str := Txt.join spT [b, digT (t : Int)] :: (pl ++ rowW :: dl)
def BookW (b : Str) : Prop := b = oneW ∨ b = twoW ∨ b = homeW ∨ b = turnsW ∨ b = changesW
theorem PpL.book {b : Str} {d : D} {ls : List Str} (h : PpL b d ls) : BookW b := by
  cases h with
  | one => exact .inl rfl
  | two hb => exact hb.elim (fun h => .inr (.inl h)) fun h => .inr (.inr (.inl h))
  | changes => exact .inr (.inr (.inr (.inr rfl)))
  | turns => exact .inr (.inr (.inr (.inl rfl)))
theorem BookW.low {b : Str} (h : BookW b) : (∀ c ∈ b.cps.toList, 33 ≤ c ∧ c ≤ 126) ∧ b.length ≤ 10 := by
  rcases h with rfl | rfl | rfl | rfl | rfl <;> exact ⟨lowW (by decide +kernel), by decide +kernel⟩
theorem book_in {b : Str} (h : BookW b) : gIn true (.str b) (.tuple [.str (Str.ofString "one"), .str (Str.ofString "two"), .str (Str.ofString "home"), .str (Str.ofString "turns"), .str (Str.ofString "changes")]) = some (.bool false) := by
  rcases h with rfl | rfl | rfl | rfl | rfl <;> rfl
theorem DkLs.lines {dd : List D} {ls : List Str} (h : DkLs dd ls) : ∀ l ∈ ls, 10 ∉ l.cps.toList ∧ l.length ≤ 100 ∧ SgT l := fun l hl => by
  obtain ⟨es, he, rfl, rfl⟩ := h
  obtain ⟨p, hp, rfl⟩ := List.mem_map.mp hl
  refine ⟨(he p hp).no10, (he p hp).len, ?_⟩
  exact join_signs (P := fun c => c < 256) (fun c hc => by rw [sp_sg] at hc; simp at hc; omega) fun w hw c hc => ((he p hp).facts.2.2.1 w hw).2.1 c hc
theorem head_ok {b : Str} {t : Nat} (h : BookW b) (ht : t < 10000) : LnOk (Txt.join spT [b, digT (t : Int)]) ∧ ∀ v ∈ [b, digT (t : Int)], 32 ∉ v.cps.toList :=
  line_ok h.low.1 h.low.2 (fun v hv => by rw [List.mem_singleton.mp hv]; exact num_low ht) (by simp) fun e => by simp at e
theorem row_low : (∀ c ∈ rowW.cps.toList, 33 ≤ c ∧ c ≤ 126) ∧ rowW.length ≤ 10 := ⟨lowW (by decide +kernel), by decide +kernel⟩
theorem paper_facts {b : Str} {d : D} {pl dl : List Str} {dd : List D} {t : Nat} (hp : PpL b d pl) (hd : DkLs dd dl) (ht : t < 10000) (hl : dl.length ≤ 100) :
    (∀ l ∈ paperLs b t pl dl, 10 ∉ l.cps.toList ∧ l.length ≤ 4000 ∧ SgT l) ∧ rowW ∉ Txt.join spT [b, digT (t : Int)] :: pl ∧ (paperLs b t pl dl).length ≤ 204 := by
  have h0 := (head_ok hp.book ht).1
  obtain ⟨pls, pll⟩ := hp.lines
  have dls := hd.lines
  refine ⟨fun l hl => ?_, fun h => ?_, by unfold paperLs; simp; omega⟩
  · rcases List.mem_cons.mp hl with rfl | hl
    · exact ⟨h0.1, h0.2.2.1, h0.2.2.2⟩
    · rcases List.mem_append.mp hl with hl | hl
      · have := pls l hl
        exact ⟨this.1, this.2.2.1, this.2.2.2⟩
      · rcases List.mem_cons.mp hl with rfl | hl
        · exact ⟨fun g => by have := row_low.1 10 g; omega, by have := row_low.2; omega, fun c hc => by have := row_low.1 c hc; omega⟩
        · have := dls l hl
          exact ⟨this.1, by omega, this.2.2⟩
  · rcases List.mem_cons.mp h with h | h
    · exact h0.2.1 h.symm
    · exact (pls _ h).2.1 rfl
def sp_read_paper : PSp := fun fl ds Q => fl = none ∧ ∃ b d pl t dd dl, ds = [.str (Txt.join nlT (paperLs b t pl dl))] ∧ PpL b d pl ∧ DkLs dd dl ∧ t < 10000 ∧ dl.length ≤ 100 ∧ Q (.dt (.tuple [.str b, .tuple [d, .int (t : Nat), .tuple dd]])) none
abbrev N_read_paper : List Str := ["text", "lines", "words", "at", "total"]
def T_read_paper : PS' := (sSeq (sIf (tNot' (qTest (qIsi .str (qVar 0)))) (sRaise) sNil)
  (sSeq (sAsg 1 (qF (fVM "str" gSplit (qVar 0) (qCons (qC (.str "\n")) qNil))))
  (sSeq (sAsg 2 (qF (fVM "str" gSplit (qOp gIx (qVar 1) (qC (.int 0))) (qCons (qC (.str " ")) qNil))))
  (sSeq (sIf (tOr' (qTest (qOp (gEq true) (qCB gLen (qCons (qVar 2) qNil)) (qC (.int 2)))) (tOr' (qTest (qOp (gIn true) (qOp gIx (qVar 2) (qC (.int 0))) (qC (.tuple [.str "one", .str "two", .str "home", .str "turns", .str "changes"])))) (qTest (qOp (gIn true) (qC (.str "row")) (qVar 1))))) (sRaise) sNil)
  (sSeq (sAsg 3 (qVM "list" gIndex (qVar 1) (qCons (qC (.str "row")) qNil)))
  (sSeq (sAsg 4 (qCall sp_read_number_2 (qAddD (qCons (qOp gIx (qVar 2) (qC (.int 1))) qNil) [])))
  (sRet (qTup (qCons (qOp gIx (qVar 2) (qC (.int 0))) (qCons (qTup (qCons (qCall sp_read_parts (qAddD (qCons (qOp gIx (qVar 2) (qC (.int 0))) (qCons (qSl (qVar 1) (qPs (qC (.int 1))) (qPs (qVar 3))) qNil)) [])) (qCons (qVar 4) (qCons (qCall sp_read_deeds (qAddD (qCons (qSl (qVar 1) (qPs (qOp gAdd (qVar 3) (qC (.int 1)))) qPn) qNil) [])) qNil)))) qNil))))))))))
theorem pure_read_paper (fl : Option (List D)) (ds : List D) (Q : RV → Option (List D) → Prop) (_ : false = true ↔ fl ≠ none) (h : sp_read_paper fl ds Q) : T_read_paper (endsOf false Q) (startE false N_read_paper fl ds) := by
  obtain ⟨rfl, b, d, pl, t, dd, dl, rfl, hp, hd, ht, hl, k⟩ := h
  show T_read_paper _ [SV.dat _, SV.un, SV.un, SV.un, SV.un]
  unfold T_read_paper
  obtain ⟨f1, f2, f3⟩ := paper_facts hp hd ht hl
  have ll := lines_len fun l h => (f1 l h).2.1
  have gs := splitL (ls := paperLs b t pl dl) (by simp [paperLs]) (fun l h => (f1 l h).1) (by omega)
  have gw := splitW (ws := [b, digT (t : Int)]) (by simp) (head_ok hp.book ht).2 (by have := (head_ok hp.book ht).1.2.2.1; omega)
  have ep : paperLs b t pl dl = (Txt.join spT [b, digT (t : Int)] :: pl) ++ rowW :: dl := rfl
  have sg : ∀ v ∈ (Txt.join spT [b, digT (t : Int)] :: pl) ++ rowW :: dl, SgT v := fun v hv => (f1 v hv).2.2
  have gi := idx_one f2 sg
  rw [← ep] at gi
  have gr : gIn true (.str rowW) (.list (strsD (paperLs b t pl dl))) = some (.bool false) := by
    have := gIn_strs (neg := true) (z := rowW) (ys := paperLs b t pl dl)
    rw [decide_eq_true (by unfold paperLs; simp)] at this
    exact this
  have el : (paperLs b t pl dl).length = pl.length + dl.length + 2 := by unfold paperLs; simp; omega
  obtain ⟨n, hn⟩ : ∃ n, (Txt.join spT [b, digT (t : Int)] :: pl).length = n := ⟨_, rfl⟩
  have hn' : n = pl.length + 1 := by rw [← hn]; simp
  rw [hn] at gi
  have c1 : cutD (strsD (paperLs b t pl dl)) (some 1) (some (n : Int)) = strsD pl := by
    rw [show (some (1 : Int)) = some ((1 : Nat) : Int) from rfl, cutD_midN (by omega) (by rw [strsD_len, el]; omega), ep, strsD_app]
    show List.take _ (strsD pl ++ _) = _
    exact List.take_left' (by rw [strsD_len]; omega)
  have c2 : cutD (strsD (paperLs b t pl dl)) (some ((n : Int) + 1)) none = strsD dl := by
    rw [show ((n : Int) + 1) = ((n + 1 : Nat) : Int) by omega, cutD_drop (by rw [strsD_len, el]; omega), ep]
    have : strsD ((Txt.join spT [b, digT (t : Int)] :: pl) ++ rowW :: dl) = strsD ((Txt.join spT [b, digT (t : Int)] :: pl) ++ [rowW]) ++ strsD dl := by rw [← strsD_app]; simp
    rw [this]
    exact List.drop_left' (by rw [strsD_len]; simp; omega)
  have h00 : (strsD (paperLs b t pl dl))[0]? = some (.str (Txt.join spT [b, digT (t : Int)])) := rfl
  generalize paperLs b t pl dl = L at *
  refine sSeq_abs fun R hR => ?_
  walk_at "wp"
  rw [if_neg (by decide)]
  subst hR
  refine sSeq_abs fun R hR => ?_
  walk_at "wp"
  refine ⟨rfl, _, gs, ?_⟩
  subst hR
  refine sSeq_abs fun R hR => ?_
  walk_at "wp"
  refine ⟨_, h00, rfl, _, gw, ?_⟩
  subst hR
  refine sSeq_abs fun R hR => ?_
  walk_at "wp"
  rw [if_neg (by show ¬ ¬ ((2 : Nat) : Int) = 2; simp)]
  refine ⟨_, rfl, _, book_in hp.book, _, rfl, ?_⟩
  rw [if_neg (by decide)]
  refine ⟨_, gr, _, rfl, ?_⟩
  rw [if_neg (by decide)]
  subst hR
  refine sSeq_abs fun R hR => ?_
  walk_at "wp"
  refine ⟨rfl, _, gi, ?_⟩
  subst hR
  refine sSeq_abs fun R hR => ?_
  walk_at "wp"
  refine ⟨_, rfl, rfl, t, rfl, ht, ?_⟩
  walk_at "wp"
  subst hR
  walk_at "wp"
  rw [c1, c2]
  exact ⟨_, rfl, _, rfl, rfl, b, d, pl, rfl, hp, rfl, dd, dl, rfl, hd, by omega, sizeL (by decide), sizeL (by decide), k⟩

end Sw

open PySem PySem.Spec L2 Sw
namespace Sw
def sp_show_deedN : PSp := fun fl ds Q => fl = none ∧ ∃ d ws, ds = [d] ∧ DkL d ws ∧ Q (.dt (.str (Txt.join spT ws))) none
abbrev N_show_deedN : List Str := ["deed", "gone", "come", "part", "joint"]
def T_show_deedN : PS' := (sSeq (sIf (qTest (qIsi .str (qOp gIx (qVar 0) (qC (.int 0))))) (sRet (qJoin (qC (.str " ")) (qF (fLc (iAny (qVar 0)) (gN 3) tYes' (qCB gStrI (qCons (qVar 3) qNil)) [3])))) sNil)
  (sSeq (sAsg 1 (qJoin (qC (.str " ")) (qF (fLc (iAny (qOp gIx (qVar 0) (qC (.int 0)))) (gN 4) tYes' (qCall sp_show_joint (qAddD (qCons (qVar 4) qNil) [])) [4]))))
  (sSeq (sAsg 2 (qJoin (qC (.str " ")) (qF (fLc (iAny (qOp gIx (qVar 0) (qC (.int 1)))) (gN 4) tYes' (qCall sp_show_joint (qAddD (qCons (qVar 4) qNil) [])) [4]))))
  (sRet (qOp gAdd (qOp gAdd (qVar 1) (qC (.str " to "))) (qVar 2))))))
theorem joinS_len {ws : List Str} {n : Nat} (h : ∀ w ∈ ws, w.length ≤ n) : (ws.map (·.length)).sum + ws.length * spT.length ≤ ws.length * (n + 1) ∧ (Txt.join spT ws).length ≤ ws.length * (n + 1) := by
  have h1 := join_bound spT ws
  have h2 := sum_le (f := fun v : Str => v.length) h
  have e1 : spT.length = 1 := by decide
  rw [e1] at h1 ⊢
  rw [Nat.mul_add]
  omega
theorem gJoinW {ws : List Str} {n : Nat} (h : ∀ w ∈ ws, w.length ≤ n) (hl : ws.length * (n + 1) ≤ 16777216) : gJoin (Str.ofString " ") (strsD ws) = some (.str (Txt.join spT ws)) := by
  have := gJoin_s (z := spT) (ys := ws)
  rw [if_pos (by have := (joinS_len h).1; omega)] at this
  exact this
theorem pure_show_deedN (fl : Option (List D)) (ds : List D) (Q : RV → Option (List D) → Prop) (_ : false = true ↔ fl ≠ none) (h : sp_show_deedN fl ds Q) : T_show_deedN (endsOf false Q) (startE false N_show_deedN fl ds) := by
  obtain ⟨rfl, d, ws, rfl, hd, k⟩ := h
  have hf := hd.facts
  cases hd with
  | @line w ns hw hn =>
    show T_show_deedN _ [SV.dat (.tuple (.str w :: natsZ ns)), SV.un, SV.un, SV.un, SV.un]
    unfold T_show_deedN
    have wl := hw.fact
    refine sSeq_abs fun R hR => ?_
    walk_at "wp"
    refine ⟨by unfold natsZ; rw [List.length_map]; omega, ?_⟩
    have em : PyData.str w :: natsZ ns = (PyData.str w :: natsZ ns).map id := (List.map_id _).symm
    conv => arg 6; rw [em]
    refine map_comp (f := fun p => PyData.str (partT p)) (fun x hx K hK => ?_) ?_
    · rcases List.mem_cons.mp hx with rfl | hx
      · walk_at "wp"
        exact ⟨_, gStrI_s, hK⟩
      · obtain ⟨i, h, rfl⟩ := List.mem_map.mp hx
        have := hn i h
        walk_at "wp"
        exact ⟨_, gStrI_i (by omega), hK⟩
    have e2 : (PyData.str w :: natsZ ns).map (fun p => PyData.str (partT p)) = strsD (w :: numsT ns) := by
      unfold natsZ strsD numsT
      rw [List.map_cons, List.map_cons, List.map_map, List.map_map]
      rfl
    rw [e2]
    exact ⟨_, gJoinW (n := 16) (fun v hv => (hf.2.2.1 v hv).1) (by have := hf.2.1; omega), k⟩
  | @deed g c hD hg hc =>
    show T_show_deedN _ [SV.dat (.tuple [.tuple g, .tuple c]), SV.un, SV.un, SV.un, SV.un]
    unfold T_show_deedN
    obtain ⟨g0, c0, gl, cl⟩ := hD.g0
    have jl : ∀ (js : List D), (∀ j ∈ js, Jz j) → ∀ w ∈ js.map jointT, w.length ≤ 16 := fun js h w hw => by
      obtain ⟨j, hj, rfl⟩ := List.mem_map.mp hw
      exact jointT_len (h j hj).sj
    have gg := gJoinW (n := 16) (jl g hg) (by rw [List.length_map]; omega)
    have gc := gJoinW (n := 16) (jl c hc) (by rw [List.length_map]; omega)
    have lg := (joinS_len (jl g hg)).2
    have lc := (joinS_len (jl c hc)).2
    rw [List.length_map] at lg lc
    rw [join_app spT (by simpa using g0) (by simp)] at k
    have e3 : Txt.join spT (toW :: c.map jointT) = toW ++ spT ++ Txt.join spT (c.map jointT) := by
      cases c with
      | nil => exact absurd rfl c0
      | cons j r => rw [List.map_cons, join2]
    have e4 : Txt.join spT (g.map jointT) ++ spT ++ Txt.join spT (toW :: c.map jointT) = Txt.join spT (g.map jointT) ++ toT ++ Txt.join spT (c.map jointT) := by
      rw [e3, toT_is]
      simp only [str_assoc]
    rw [e4] at k
    have l3 : toT.length = 4 := by decide
    refine sSeq_abs fun R hR => ?_
    walk_at "wp"
    subst hR
    refine sSeq_abs fun R hR => ?_
    walk_at "wp"
    refine ⟨by omega, ?_⟩
    conv => arg 6; rw [(List.map_id g).symm]
    refine map_comp (f := fun x => PyData.str (jointT x)) (fun x hx K hK => ?_) ?_
    · walk_at "wp"
      refine ⟨rfl, x, rfl, (hg x hx).sj, ?_⟩
      walk_at "wp"
      exact hK
    rw [← strsD_map]
    refine ⟨_, gg, ?_⟩
    walk_at "wp"
    subst hR
    refine sSeq_abs fun R hR => ?_
    walk_at "wp"
    refine ⟨by omega, ?_⟩
    conv => arg 6; rw [(List.map_id c).symm]
    refine map_comp (f := fun x => PyData.str (jointT x)) (fun x hx K hK => ?_) ?_
    · walk_at "wp"
      refine ⟨rfl, x, rfl, (hc x hx).sj, ?_⟩
      walk_at "wp"
      exact hK
    rw [← strsD_map]
    refine ⟨_, gc, ?_⟩
    walk_at "wp"
    subst hR
    walk_at "wp"
    refine ⟨sizeL ?_, sizeL ?_, k⟩
    · show (Txt.join spT (g.map jointT)).length + toT.length ≤ _
      omega
    · show (Txt.join spT (g.map jointT) ++ toT).length + (Txt.join spT (c.map jointT)).length ≤ _
      rw [len_app]
      omega
def sp_show_joints : PSp := fun fl ds Q => fl = none ∧ ∃ w js, ds = [.str w, .tuple js] ∧ w.length ≤ 16 ∧ (∀ j ∈ js, Jz j) ∧ js.length ≤ 1000 ∧ Q (.dt (.str (Txt.join spT (w :: js.map jointT)))) none
abbrev N_show_joints : List Str := ["word", "joints", "joint"]
def T_show_joints : PS' := (sRet (qJoin (qC (.str " ")) (qOp gAdd (qF (fLst (qCons (qVar 0) qNil))) (qF (fLc (iAny (qVar 1)) (gN 2) tYes' (qCall sp_show_joint (qAddD (qCons (qVar 2) qNil) [])) [2])))))
theorem wj_len {w : Str} {js : List D} (wl : w.length ≤ 16) (h : ∀ j ∈ js, Jz j) : ∀ v ∈ w :: js.map jointT, v.length ≤ 16 := fun v hv => by
  rcases List.mem_cons.mp hv with rfl | hv
  · exact wl
  · obtain ⟨j, hj, rfl⟩ := List.mem_map.mp hv
    exact jointT_len (h j hj).sj
theorem pure_show_joints (fl : Option (List D)) (ds : List D) (Q : RV → Option (List D) → Prop) (_ : false = true ↔ fl ≠ none) (h : sp_show_joints fl ds Q) : T_show_joints (endsOf false Q) (startE false N_show_joints fl ds) := by
  obtain ⟨rfl, w, js, rfl, wl, hj, hl, k⟩ := h
  show T_show_joints _ [SV.dat _, SV.dat _, SV.un]
  unfold T_show_joints
  walk_at "wp"
  refine ⟨sizeL (by decide), by omega, ?_⟩
  conv => arg 6; rw [(List.map_id js).symm]
  refine map_comp (f := fun x => PyData.str (jointT x)) (fun x hx K hK => ?_) ?_
  · walk_at "wp"
    refine ⟨rfl, x, rfl, (hj x hx).sj, ?_⟩
    walk_at "wp"
    exact hK
  rw [← strsD_map]
  refine ⟨sizeL (by rw [strsD_len, List.length_map]; omega), _, gJoinW (ws := w :: js.map jointT) (wj_len wl hj) (by rw [List.length_cons, List.length_map]; omega), k⟩
def sp_show_rings : PSp := fun fl ds Q => fl = none ∧ ∃ rs : List (List Nat), ds = [.tuple (rs.map ringD)] ∧ (∀ r ∈ rs, RingOk' r) ∧ rs.length ≤ 1000 ∧ Q (.fr (strsD (rs.map ringL'))) none
abbrev N_show_rings : List Str := ["rings", "ring", "point"]
def T_show_rings : PS' := (sRetF (fLc (iAny (qVar 0)) (gN 1) tYes' (qJoin (qC (.str " ")) (qOp gAdd (qF (fLst (qCons (qC (.str "ring")) qNil))) (qF (fLc (iAny (qVar 1)) (gN 2) tYes' (qCB gStrI (qCons (qVar 2) qNil)) [2])))) [1]))
theorem pure_show_rings (fl : Option (List D)) (ds : List D) (Q : RV → Option (List D) → Prop) (_ : false = true ↔ fl ≠ none) (h : sp_show_rings fl ds Q) : T_show_rings (endsOf false Q) (startE false N_show_rings fl ds) := by
  obtain ⟨rfl, rs, rfl, hr, hl, k⟩ := h
  show T_show_rings _ [SV.dat _, SV.un, SV.un]
  unfold T_show_rings
  walk_at "wp"
  refine ⟨by rw [List.length_map]; omega, ?_⟩
  refine map_comp (f := fun x => PyData.str (ringL' x)) (fun x hx K hK => ?_) ?_
  · have h := hr x hx
    have hl := h.len
    unfold ringD
    walk_at "wp"
    refine ⟨sizeL (by decide), by unfold natsZ; rw [List.length_map]; omega, ?_⟩
    unfold natsZ
    refine map_comp (f := fun n : Nat => PyData.str (digT (n : Int))) (fun y hy K2 hK2 => ?_) ?_
    · have := h.lt y hy
      walk_at "wp"
      exact ⟨_, gStrI_i (by omega), hK2⟩
    have e : x.map (fun n : Nat => PyData.str (digT (n : Int))) = strsD (numsT x) := by unfold numsT; rw [strsD_map]
    rw [e]
    refine ⟨sizeL (by rw [strsD_len]; unfold numsT; rw [List.length_map]; omega), _, gJoinW (ws := ringW :: numsT x) (n := 10) (fun v hv => ?_) (by unfold numsT; rw [List.length_cons, List.length_map]; omega), hK⟩
    rcases List.mem_cons.mp hv with rfl | hv
    · decide +kernel
    · obtain ⟨m, hm, rfl⟩ := List.mem_map.mp hv
      have := num_len (k := 4) (by decide) (h.lt m hm)
      omega
  rw [← strsD_map]
  exact k
def sp_show_parts : PSp := fun fl ds Q => fl = none ∧ ∃ b d ls, ds = [.str b, d] ∧ PpL b d ls ∧ Q (.fr (strsD ls)) none
abbrev N_show_parts : List Str := ["book", "parts", "knots", "s", "e", "kind", "ours", "theirs"]
def T_show_parts : PS' := (sSeq (sIf (qTest (qOp (gEq false) (qVar 0) (qC (.str "one")))) (sRetF (fLst (qCons (qCall sp_show_joints (qAddD (qCons (qC (.str "cuts")) (qCons (qOp gIx (qVar 1) (qC (.int 0))) qNil)) [])) (qCons (qCall sp_show_joints (qAddD (qCons (qC (.str "joins")) (qCons (qOp gIx (qVar 1) (qC (.int 1))) qNil)) [])) qNil)))) sNil)
  (sSeq (sIf (qTest (qOp (gEq false) (qVar 0) (qC (.str "changes")))) (sRetF (fCall sp_show_rings (qAddD (qCons (qOp gIx (qVar 1) (qC (.int 0))) qNil) []))) sNil)
  (sSeq (sIf (qTest (qOp (gEq false) (qVar 0) (qC (.str "turns")))) (sSeq (sAsg 2 (qJoin (qC (.str " ")) (qOp gAdd (qF (fLst (qCons (qC (.str "knots")) qNil))) (qF (fLc (iAny (qOp gIx (qVar 1) (qC (.int 1)))) (gT 2 (gsC (gN 3) (gsC (gN 4) gsN))) tYes' (qFs3 "-" (qVar 3) (qVar 4)) [3, 4])))))
  (sRetF (fOp gCatF (qCall sp_show_rings (qAddD (qCons (qOp gIx (qVar 1) (qC (.int 0))) qNil) [])) (qF (fLst (qCons (qVar 2) (qCons (qOp gAdd (qC (.str "cover ")) (qCB gStrI (qCons (qOp gIx (qVar 1) (qC (.int 2))) qNil))) qNil))))))) sNil)
  (sRetF (fLc (iAny (qVar 1)) (gT 3 (gsC (gN 5) (gsC (gN 6) (gsC (gN 7) gsN)))) tYes' (qOp gAdd (qOp gAdd (qCall sp_show_joints (qAddD (qCons (qVar 5) (qCons (qVar 6) qNil)) [])) (qC (.str " "))) (qCall sp_show_joints (qAddD (qCons (qC (.str "/")) (qCons (qVar 7) qNil)) []))) [5, 6, 7])))))
theorem log_few {n : Nat} (h : n < 10000) : ((n : Nat) : Int).natAbs.log2 < 1920 := by
  rw [Int.natAbs_natCast]
  by_cases e : n = 0
  · subst e; decide
  · exact (Nat.log2_lt e).mpr (Nat.lt_of_lt_of_le h (by decide))
theorem numT_is (i : Int) : Str.empty ++ numT i = digT i := ext_tl (by rw [tl_app]; rfl)
theorem coverT (n : Int) : Str.ofString "cover " ++ digT n = Txt.join spT [coverW, digT n] := by
  rw [join2, join1]
  have : Str.ofString "cover " = coverW ++ spT := by decide +kernel
  rw [this]
theorem partT_is (p : Part) (h : PartOk p) : Txt.join spT (p.1 :: p.2.1.map jointT) ++ spT ++ Txt.join spT (slT :: p.2.2.map jointT) = partL p := by
  unfold partL partWs
  rw [← join_app spT (by simp) (by simp)]
  rfl
theorem pure_show_parts (fl : Option (List D)) (ds : List D) (Q : RV → Option (List D) → Prop) (_ : false = true ↔ fl ≠ none) (h : sp_show_parts fl ds Q) : T_show_parts (endsOf false Q) (startE false N_show_parts fl ds) := by
  obtain ⟨rfl, b, d, ls, rfl, hp, k⟩ := h
  show T_show_parts _ [SV.dat _, SV.dat _, SV.un, SV.un, SV.un, SV.un, SV.un, SV.un]
  unfold T_show_parts
  cases hp with
  | @one cs js hc hj cl jl =>
    refine sSeq_abs fun R hR => ?_
    walk_at "wp"
    rw [if_pos (by rfl)]
    refine ⟨rfl, cutsW, cs, rfl, by decide +kernel, hc, by omega, ?_⟩
    refine ⟨rfl, joinsW, js, rfl, by decide +kernel, hj, by omega, ?_⟩
    exact ⟨sizeL (by decide), k⟩
  | @changes rs hr rl =>
    refine sSeq_abs fun R hR => ?_
    walk_at "wp"
    rw [if_neg (by decide +kernel)]
    subst hR
    refine sSeq_abs fun R hR => ?_
    walk_at "wp"
    rw [if_pos (by rfl)]
    exact ⟨rfl, rs, rfl, hr, by omega, _, rfl, k⟩
  | @turns rs ks n hr rl hk kl hn =>
    refine sSeq_abs fun R hR => ?_
    walk_at "wp"
    rw [if_neg (by decide +kernel)]
    subst hR
    refine sSeq_abs fun R hR => ?_
    walk_at "wp"
    rw [if_neg (by decide +kernel)]
    subst hR
    refine sSeq_abs fun R hR => ?_
    refine sIf_abs fun S Z hS hZ => ?_
    walk_at "wp"
    rw [if_pos (by rfl)]
    subst hS
    refine sSeq_abs fun R2 hR2 => ?_
    walk_at "wp"
    refine ⟨sizeL (by decide), by rw [List.length_map]; omega, ?_⟩
    refine map_comp (f := fun x => PyData.str (knotT x)) (fun x hx K hK => ?_) ?_
    · have h := hk x hx
      have l1 := num_len (k := 4) (by decide) h.1
      have l2 := num_len (k := 4) (by decide) h.2
      have e1 : (Str.ofString "-").length = 1 := by decide +kernel
      unfold knotD
      simp only [qFs3]
      walk_at "wp"
      simp only [numT_is]
      refine ⟨log_few h.1, sizeL (by omega), sizeL (by rw [len_app, e1]; omega), log_few h.2, sizeL ?_, hK⟩
      rw [len_app, len_app, e1]
      show _ + (digT ((x.2 : Nat) : Int)).length ≤ _
      omega
    rw [← strsD_map]
    walk_at "wp"
    have kn := gJoinW (ws := knotsW :: ks.map knotT) (n := 10) (fun v hv => by
      rcases List.mem_cons.mp hv with rfl | hv
      · decide +kernel
      · obtain ⟨m, hm, rfl⟩ := List.mem_map.mp hv
        have := knotT_len (hk m hm).1 (hk m hm).2
        omega) (by rw [List.length_cons, List.length_map]; omega)
    refine ⟨sizeL (by rw [strsD_len, List.length_map]; omega), _, kn, ?_⟩
    subst hR2
    have ln := num_len (k := 4) (by decide) hn
    have lc : (Str.ofString "cover ").length = 6 := by decide +kernel
    have ct := coverT (n : Int)
    walk_at "wp"
    refine ⟨rfl, rs, rfl, hr, by omega, ?_⟩
    walk_at "wp"
    have ga : gAdd (.str (Str.ofString "cover ")) (.str (digT (n : Int))) = some (.str (Txt.join spT [coverW, digT (n : Int)])) := by
      rw [← ct]
      show (if _ then _ else _) = _
      rw [if_pos (sizeL (by omega))]
    rw [strsD_app] at k
    exact ⟨_, gStrI_i (by omega), _, ga, sizeL (by decide), sizeL (by rw [strsD_len, List.length_map]; omega), k⟩
  | @two b ps hb hp pl =>
    have b1 : b ≠ Str.ofString "one" := by rcases hb with rfl | rfl <;> decide +kernel
    have b2 : b ≠ Str.ofString "changes" := by rcases hb with rfl | rfl <;> decide +kernel
    have b3 : b ≠ Str.ofString "turns" := by rcases hb with rfl | rfl <;> decide +kernel
    refine sSeq_abs fun R hR => ?_
    walk_at "wp"
    rw [if_neg b1]
    subst hR
    refine sSeq_abs fun R hR => ?_
    walk_at "wp"
    rw [if_neg b2]
    subst hR
    refine sSeq_abs fun R hR => ?_
    walk_at "wp"
    rw [if_neg b3]
    subst hR
    walk_at "wp"
    refine ⟨by rw [List.length_map]; omega, ?_⟩
    refine map_comp (f := fun x => PyData.str (partL x)) (fun x hx K hK => ?_) ?_
    · have h := hp x hx
      have ol := h.ol
      have tl := h.tl
      have l1 := (joinS_len (wj_len (w := x.1) (by have := h.kd.len; omega) h.o)).2
      have l2 := (joinS_len (wj_len (w := slT) (by decide +kernel) h.t)).2
      rw [List.length_cons, List.length_map] at l1 l2
      have e1 : spT.length = 1 := by decide
      have pe := partT_is x h
      unfold partDz
      walk_at "wp"
      refine ⟨rfl, x.1, x.2.1, rfl, by have := h.kd.len; omega, h.o, by omega, ?_⟩
      walk_at "wp"
      refine ⟨sizeL (by show _ + spT.length ≤ _; omega), rfl, slT, x.2.2, rfl, by decide +kernel, h.t, by omega, ?_⟩
      walk_at "wp"
      refine ⟨sizeL (by rw [len_app]; show _ + spT.length + _ ≤ _; omega), ?_⟩
      rw [← pe] at hK
      exact hK
    rw [← strsD_map]
    exact k
def sp_show_paper : PSp := fun fl ds Q => fl = none ∧ ∃ b d pl t dd dl, ds = [.str b, .tuple [d, .int (t : Nat), .tuple dd]] ∧ PpL b d pl ∧ DkLs dd dl ∧ t < 10000 ∧ dl.length ≤ 100 ∧ Q (.dt (.str (Txt.join nlT (paperLs b t pl dl)))) none
abbrev N_show_paper : List Str := ["book", "paper", "parts", "total", "deeds", "lines", "deed"]
def T_show_paper : PS' := (sSeq (sAsgG (qVar 1) (gT 3 (gsC (gN 2) (gsC (gN 3) (gsC (gN 4) gsN)))))
  (sSeq (sAsg 5 (qOp gAdd (qOp gAdd (qF (fLst (qCons (qOp gAdd (qOp gAdd (qVar 0) (qC (.str " "))) (qCB gStrI (qCons (qVar 3) qNil))) qNil))) (qCall sp_show_parts (qAddD (qCons (qVar 0) (qCons (qVar 2) qNil)) []))) (qF (fLst (qCons (qC (.str "row")) qNil)))))
  (sRet (qJoin (qC (.str "\n")) (qOp gAdd (qVar 5) (qF (fLc (iAny (qVar 4)) (gN 6) tYes' (qCall sp_show_deedN (qAddD (qCons (qVar 6) qNil) [])) [6])))))))
theorem pure_show_paper (fl : Option (List D)) (ds : List D) (Q : RV → Option (List D) → Prop) (_ : false = true ↔ fl ≠ none) (h : sp_show_paper fl ds Q) : T_show_paper (endsOf false Q) (startE false N_show_paper fl ds) := by
  obtain ⟨rfl, b, d, pl, t, dd, dl, rfl, hp, hd, ht, hl, k⟩ := h
  show T_show_paper _ [SV.dat _, SV.dat _, SV.un, SV.un, SV.un, SV.un, SV.un]
  unfold T_show_paper
  obtain ⟨f1, f2, f3⟩ := paper_facts hp hd ht hl
  have bl := hp.book.low.2
  have tl := num_len (k := 4) (by decide) ht
  have pll := hp.lines.2
  have hd' := hd
  obtain ⟨es, he, e1, e2⟩ := hd'
  have e1' : spT.length = 1 := by decide
  have bt : b ++ Str.ofString " " ++ digT (t : Int) = Txt.join spT [b, digT (t : Int)] := by rw [join2, join1]; rfl
  have gj := gJoin_lines (ls := paperLs b t pl dl) (n := 4000) (fun l h => (f1 l h).2.1) (by omega)
  refine sSeq_abs fun R hR => ?_
  walk_at "wp"
  subst hR
  refine sSeq_abs fun R hR => ?_
  walk_at "wp"
  refine ⟨sizeL (by show _ + spT.length ≤ _; omega), _, gStrI_i (by omega), .str (Txt.join spT [b, digT (t : Int)]), ?_, sizeL (by decide), rfl, b, d, pl, rfl, hp, ?_⟩
  · rw [← bt]
    show (if _ then _ else _) = _
    rw [if_pos (sizeL (by rw [len_app]; show _ + spT.length + (digT (t : Int)).length ≤ _; omega))]
    rfl
  have a1 : gAdd (.list [.str (Txt.join spT [b, digT (t : Int)])]) (.list (strsD pl)) = some (.list (.str (Txt.join spT [b, digT (t : Int)]) :: strsD pl)) := by
    show (if _ then _ else _) = _
    rw [if_pos (sizeL (by rw [strsD_len]; simp; omega))]
    rfl
  have a2 : gAdd (.list (.str (Txt.join spT [b, digT (t : Int)]) :: strsD pl)) (.list [.str (Str.ofString "row")]) = some (.list (strsD ((Txt.join spT [b, digT (t : Int)] :: pl) ++ [rowW]))) := by
    show (if _ then _ else _) = _
    rw [if_pos (sizeL (by simp [strsD]; omega)), strsD_app]
    rfl
  refine ⟨_, a1, sizeL (by decide), _, a2, ?_⟩
  subst hR
  have ld : dd.length = dl.length := by rw [e1, e2, List.length_map, List.length_map]
  walk_at "wp"
  refine ⟨by omega, ?_⟩
  rw [e1]
  refine map_comp (f := fun p => PyData.str (Txt.join spT p.2)) (fun x hx K hK => ?_) ?_
  · walk_at "wp"
    refine ⟨rfl, x.1, x.2, rfl, he x hx, ?_⟩
    walk_at "wp"
    exact hK
  have e3 : es.map (fun p => PyData.str (Txt.join spT p.2)) = strsD dl := by rw [e2, strsD_map]
  rw [e3]
  have e4 : strsD ((Txt.join spT [b, digT (t : Int)] :: pl) ++ [rowW]) ++ strsD dl = strsD (paperLs b t pl dl) := by
    rw [← strsD_app]
    unfold paperLs
    simp
  have a3 : gAdd (.list (strsD (Txt.join spT [b, digT (t : Int)] :: (pl ++ [rowW])))) (.list (strsD dl)) = some (.list (strsD (paperLs b t pl dl))) := by
    show (if _ then _ else _) = _
    rw [if_pos (sizeL (by rw [strsD_len, strsD_len]; simp; omega)), ← e4]
    rfl
  exact ⟨_, rfl, _, a3, _, rfl, _, gj, k⟩

end Sw

open PySem PySem.Spec L2 Sw
namespace Sw
def sp_law_joints_text : PSp := fun fl ds Q => fl = none ∧ ∃ js, ds = [.tuple js] ∧ (∀ j ∈ js, Jz j) ∧ js.length ≤ 1000 ∧ Q (.dt (.str (Txt.join spT (js.map jointT)))) none
abbrev N_law_joints_text : List Str := ["_law_joints", "_law_texts", "_law_joint", "_law_end"]
def T_law_joints_text : PS' := (sSeq (sAsgF 1 (fLst (qNil)))
  (sSeq (sFor (iAny (qVar 0)) (gN 2) (sDrop (qMO 1 gAppend (qCons (qJoin (qC (.str "~")) (qF (fLc (iAny (qVar 2)) (gN 3) tYes' (qCall sp_law_end_text (qAddD (qCons (qVar 3) qNil) [])) [3]))) qNil))))
  (sRet (qJoin (qC (.str " ")) (qVar 1)))))
theorem jl_len {js : List D} (h : ∀ j ∈ js, Jz j) : ∀ w ∈ js.map jointT, w.length ≤ 16 := fun w hw => by
  obtain ⟨j, hj, rfl⟩ := List.mem_map.mp hw
  exact jointT_len (h j hj).sj
theorem pure_law_joints_text (fl : Option (List D)) (ds : List D) (Q : RV → Option (List D) → Prop) (_ : false = true ↔ fl ≠ none) (h : sp_law_joints_text fl ds Q) : T_law_joints_text (endsOf false Q) (startE false N_law_joints_text fl ds) := by
  obtain ⟨rfl, js, rfl, hj, hl, k⟩ := h
  show T_law_joints_text _ [SV.dat _, SV.un, SV.un, SV.un]
  unfold T_law_joints_text
  refine sSeq_abs fun R hR => ?_
  walk_at "wp"
  refine ⟨sizeL (by decide), ?_⟩
  subst hR
  refine sSeq_abs fun R hR => ?_
  walk_at "wp"
  refine pFor_inv (fun i env => ∃ y2, env = [SV.dat (.tuple js), SV.own false (strsD ((js.take i).map jointT)), y2, SV.un]) ⟨_, rfl⟩ ?_ ?_
  · rintro i j hd env ⟨y2, rfl⟩ K hK
    have h := hj j (List.mem_of_getElem? hd)
    have h1 := joins_le (n := 7) (m := 1) (f := endT) (Str.ofString "~") (xs := tupE j) (fun x hx => endT_len (h.ez x hx).es) (by decide)
    have h2 := h.jt.len.2
    have hi := (List.getElem?_eq_some_iff.mp hd).1
    have gj : gJoin (Str.ofString "~") (strsD ((tupE j).map endT)) = some (.str (jointT j)) := by
      have := gJoin_s (z := Str.ofString "~") (ys := (tupE j).map endT)
      rw [if_pos (by omega)] at this
      exact this
    have nx : strsD ((js.take (i + 1)).map jointT) = strsD ((js.take i).map jointT) ++ [.str (jointT j)] := by
      rw [List.take_add_one, hd, List.map_append, strsD_app]
      rfl
    have lt : (strsD ((js.take i).map jointT)).length ≤ 1000 := by rw [strsD_len, List.length_map, List.length_take]; omega
    have ez := h.ez
    have hK' := hK [SV.dat (.tuple js), SV.own false (strsD ((js.take (i + 1)).map jointT)), SV.dat (.tuple (tupE j)), SV.un] ⟨_, rfl⟩
    rw [nx] at hK'
    rw [h.eq]
    generalize hT : jointT j = t at *
    generalize tupE j = es at *
    generalize strsD ((js.take i).map jointT) = acc at *
    walk_at "wp"
    refine ⟨by omega, ?_⟩
    conv => arg 6; rw [(List.map_id es).symm]
    refine map_comp (f := fun x => PyData.str (endT x)) (fun x hx K hK => ?_) ?_
    · walk_at "wp"
      refine ⟨rfl, x, rfl, (ez x hx).es, ?_⟩
      walk_at "wp"
      exact hK
    rw [← strsD_map]
    refine ⟨_, gj, ?_⟩
    walk_at "wp"
    exact ⟨sizeL (by omega), hK'⟩
  · rintro env ⟨y2, rfl⟩
    rw [List.take_length]
    subst hR
    walk_at "wp"
    refine ⟨_, gJoinW (n := 16) (jl_len hj) (by rw [List.length_map]; omega), k⟩
def sp_law_deed_text_2 : PSp := fun fl ds Q => fl = none ∧ ∃ d ws, ds = [d] ∧ DkL d ws ∧ Q (.dt (.str (Txt.join spT ws))) none
abbrev N_law_deed_text_2 : List Str := ["_law_deed", "_law_part"]
def T_law_deed_text_2 : PS' := (sSeq (sIf (qTest (qIsi .str (qOp gIx (qVar 0) (qC (.int 0))))) (sRet (qJoin (qC (.str " ")) (qF (fLc (iAny (qVar 0)) (gN 1) tYes' (qCB gStrI (qCons (qVar 1) qNil)) [1])))) sNil)
  (sRet (qOp gAdd (qOp gAdd (qCall sp_law_joints_text (qAddD (qCons (qOp gIx (qVar 0) (qC (.int 0))) qNil) [])) (qC (.str " to "))) (qCall sp_law_joints_text (qAddD (qCons (qOp gIx (qVar 0) (qC (.int 1))) qNil) [])))))
theorem pure_law_deed_text_2 (fl : Option (List D)) (ds : List D) (Q : RV → Option (List D) → Prop) (_ : false = true ↔ fl ≠ none) (h : sp_law_deed_text_2 fl ds Q) : T_law_deed_text_2 (endsOf false Q) (startE false N_law_deed_text_2 fl ds) := by
  obtain ⟨rfl, d, ws, rfl, hd, k⟩ := h
  have hf := hd.facts
  cases hd with
  | @line w ns hw hn =>
    show T_law_deed_text_2 _ [SV.dat (.tuple (.str w :: natsZ ns)), SV.un]
    unfold T_law_deed_text_2
    have wl := hw.fact
    refine sSeq_abs fun R hR => ?_
    walk_at "wp"
    refine ⟨by unfold natsZ; rw [List.length_map]; omega, ?_⟩
    have em : PyData.str w :: natsZ ns = (PyData.str w :: natsZ ns).map id := (List.map_id _).symm
    conv => arg 6; rw [em]
    refine map_comp (f := fun p => PyData.str (partT p)) (fun x hx K hK => ?_) ?_
    · rcases List.mem_cons.mp hx with rfl | hx
      · walk_at "wp"
        exact ⟨_, gStrI_s, hK⟩
      · obtain ⟨i, h, rfl⟩ := List.mem_map.mp hx
        have := hn i h
        walk_at "wp"
        exact ⟨_, gStrI_i (by omega), hK⟩
    have e2 : (PyData.str w :: natsZ ns).map (fun p => PyData.str (partT p)) = strsD (w :: numsT ns) := by
      unfold natsZ strsD numsT
      rw [List.map_cons, List.map_cons, List.map_map, List.map_map]
      rfl
    rw [e2]
    exact ⟨_, gJoinW (n := 16) (fun v hv => (hf.2.2.1 v hv).1) (by have := hf.2.1; omega), k⟩
  | @deed g c hD hg hc =>
    show T_law_deed_text_2 _ [SV.dat (.tuple [.tuple g, .tuple c]), SV.un]
    unfold T_law_deed_text_2
    obtain ⟨g0, c0, gl, cl⟩ := hD.g0
    have lg := (joinS_len (jl_len hg)).2
    have lc := (joinS_len (jl_len hc)).2
    rw [List.length_map] at lg lc
    rw [join_app spT (by simpa using g0) (by simp)] at k
    have e3 : Txt.join spT (toW :: c.map jointT) = toW ++ spT ++ Txt.join spT (c.map jointT) := by
      cases c with
      | nil => exact absurd rfl c0
      | cons j r => rw [List.map_cons, join2]
    have e4 : Txt.join spT (g.map jointT) ++ spT ++ Txt.join spT (toW :: c.map jointT) = Txt.join spT (g.map jointT) ++ toT ++ Txt.join spT (c.map jointT) := by
      rw [e3, toT_is]
      simp only [str_assoc]
    rw [e4] at k
    have l3 : toT.length = 4 := by decide
    refine sSeq_abs fun R hR => ?_
    walk_at "wp"
    subst hR
    walk_at "wp"
    refine ⟨rfl, g, rfl, hg, by omega, ?_⟩
    walk_at "wp"
    refine ⟨sizeL (by show _ + toT.length ≤ _; omega), rfl, c, rfl, hc, by omega, ?_⟩
    walk_at "wp"
    refine ⟨sizeL ?_, k⟩
    show (Txt.join spT (g.map jointT) ++ toT).length + (Txt.join spT (c.map jointT)).length ≤ _
    rw [len_app]
    omega
def sp_law_with : PSp := fun fl ds Q => fl = none ∧ ∃ w ws n, ds = [.str w, .str (Txt.join spT ws)] ∧ w.length ≤ 16 ∧ (∀ v ∈ ws, v ≠ Str.ofString "" ∧ v.length ≤ n) ∧ ws.length * (n + 1) ≤ 1000000 ∧ Q (.dt (.str (Txt.join spT (w :: ws)))) none
abbrev N_law_with : List Str := ["_law_word", "_law_text_here"]
def T_law_with : PS' := (sSeq (sIf (qTest (qOp (gEq false) (qVar 1) (qC (.str "")))) (sRet (qVar 0)) sNil)
  (sRet (qOp gAdd (qOp gAdd (qVar 0) (qC (.str " "))) (qVar 1))))
theorem pure_law_with (fl : Option (List D)) (ds : List D) (Q : RV → Option (List D) → Prop) (_ : false = true ↔ fl ≠ none) (h : sp_law_with fl ds Q) : T_law_with (endsOf false Q) (startE false N_law_with fl ds) := by
  obtain ⟨rfl, w, ws, n, rfl, wl, hw, hl, k⟩ := h
  show T_law_with _ [SV.dat _, SV.dat _]
  unfold T_law_with
  have ll := (joinS_len fun v hv => (hw v hv).2).2
  cases ws with
  | nil =>
    have e : Txt.join spT [] = Str.ofString "" := by rw [TL.join_eq]; rfl
    rw [e]
    rw [join1] at k
    walk_at "wp"
    exact k
  | cons v r =>
    have ne : Txt.join spT (v :: r) ≠ Str.ofString "" := fun e => by
      obtain ⟨c, hc⟩ : ∃ c, c ∈ v.cps.toList := List.exists_mem_of_ne_nil _ fun e2 => (hw v List.mem_cons_self).1 (ext_tl (by rw [e2]; rfl))
      have := join_has (y := spT) (ws := v :: r) (w := v) (by simp) hc
      rw [e] at this
      cases this
    have e1 : spT.length = 1 := by decide
    rw [join2] at k
    generalize hJ : Txt.join spT (v :: r) = J at *
    walk_at "wp"
    rw [if_neg ne]
    exact ⟨sizeL (by show _ + spT.length ≤ _; omega), sizeL (by rw [len_app]; show _ + spT.length + _ ≤ _; omega), k⟩
def sp_law_ring_lines : PSp := fun fl ds Q => fl = none ∧ ∃ rs : List (List Nat), ds = [.tuple (rs.map ringD)] ∧ (∀ r ∈ rs, RingOk' r) ∧ rs.length ≤ 1000 ∧ Q (.fr (strsD (rs.map ringL'))) none
abbrev N_law_ring_lines : List Str := ["_law_rings", "_law_ring", "_law_point"]
def T_law_ring_lines : PS' := (sRetF (fLc (iAny (qVar 0)) (gN 1) tYes' (qOp gAdd (qC (.str "ring ")) (qJoin (qC (.str " ")) (qF (fLc (iAny (qVar 1)) (gN 2) tYes' (qCB gStrI (qCons (qVar 2) qNil)) [2])))) [1]))
theorem ringT_is {r : List Nat} (h : r ≠ []) : Str.ofString "ring " ++ Txt.join spT (numsT r) = ringL' r := by
  have e : Str.ofString "ring " = ringW ++ spT := by decide +kernel
  cases r with
  | nil => exact absurd rfl h
  | cons n r =>
    unfold ringL' numsT
    rw [List.map_cons, join2, e]
theorem nums_len {r : List Nat} (h : ∀ n ∈ r, n < 10000) : ∀ v ∈ numsT r, v.length ≤ 4 := fun v hv => by
  obtain ⟨m, hm, rfl⟩ := List.mem_map.mp hv
  exact num_len (k := 4) (by decide) (h m hm)
theorem pure_law_ring_lines (fl : Option (List D)) (ds : List D) (Q : RV → Option (List D) → Prop) (_ : false = true ↔ fl ≠ none) (h : sp_law_ring_lines fl ds Q) : T_law_ring_lines (endsOf false Q) (startE false N_law_ring_lines fl ds) := by
  obtain ⟨rfl, rs, rfl, hr, hl, k⟩ := h
  show T_law_ring_lines _ [SV.dat _, SV.un, SV.un]
  unfold T_law_ring_lines
  walk_at "wp"
  refine ⟨by rw [List.length_map]; omega, ?_⟩
  refine map_comp (f := fun x => PyData.str (ringL' x)) (fun x hx K hK => ?_) ?_
  · have h := hr x hx
    have hl := h.len
    have jl := (joinS_len (nums_len h.lt)).2
    have nl : (numsT x).length = x.length := by unfold numsT; rw [List.length_map]
    have rt := ringT_is h.ne
    have e1 : (Str.ofString "ring ").length = 5 := by decide +kernel
    unfold ringD
    walk_at "wp"
    refine ⟨by unfold natsZ; rw [List.length_map]; omega, ?_⟩
    unfold natsZ
    refine map_comp (f := fun n : Nat => PyData.str (digT (n : Int))) (fun y hy K2 hK2 => ?_) ?_
    · have := h.lt y hy
      walk_at "wp"
      exact ⟨_, gStrI_i (by omega), hK2⟩
    have e : x.map (fun n : Nat => PyData.str (digT (n : Int))) = strsD (numsT x) := by unfold numsT; rw [strsD_map]
    rw [e]
    refine ⟨_, gJoinW (n := 4) (nums_len h.lt) (by rw [nl]; omega), .str (ringL' x), ?_, hK⟩
    rw [← rt]
    show (if _ then _ else _) = _
    rw [if_pos (sizeL (by omega))]
  rw [← strsD_map]
  exact k
def sp_law_part_lines : PSp := fun fl ds Q => fl = none ∧ ∃ b d ls, ds = [.str b, d] ∧ PpL b d ls ∧ Q (.fr (strsD ls)) none
abbrev N_law_part_lines : List Str := ["_law_book", "_law_parts", "_law_knots", "_law_s", "_law_e", "_law_kind", "_law_mine", "_law_others"]
def T_law_part_lines : PS' := (sSeq (sIf (qTest (qOp (gEq false) (qVar 0) (qC (.str "one")))) (sRetF (fLst (qCons (qCall sp_law_with (qAddD (qCons (qC (.str "cuts")) (qCons (qCall sp_law_joints_text (qAddD (qCons (qOp gIx (qVar 1) (qC (.int 0))) qNil) [])) qNil)) [])) (qCons (qCall sp_law_with (qAddD (qCons (qC (.str "joins")) (qCons (qCall sp_law_joints_text (qAddD (qCons (qOp gIx (qVar 1) (qC (.int 1))) qNil) [])) qNil)) [])) qNil)))) sNil)
  (sSeq (sIf (qTest (qOp (gEq false) (qVar 0) (qC (.str "changes")))) (sRetF (fCall sp_law_ring_lines (qAddD (qCons (qOp gIx (qVar 1) (qC (.int 0))) qNil) []))) sNil)
  (sSeq (sIf (qTest (qOp (gEq false) (qVar 0) (qC (.str "turns")))) (sSeq (sAsg 2 (qCall sp_law_with (qAddD (qCons (qC (.str "knots")) (qCons (qJoin (qC (.str " ")) (qF (fLc (iAny (qOp gIx (qVar 1) (qC (.int 1)))) (gT 2 (gsC (gN 3) (gsC (gN 4) gsN))) tYes' (qOp gAdd (qOp gAdd (qCB gStrI (qCons (qVar 3) qNil)) (qC (.str "-"))) (qCB gStrI (qCons (qVar 4) qNil))) [3, 4]))) qNil)) [])))
  (sRetF (fOp gCatF (qCall sp_law_ring_lines (qAddD (qCons (qOp gIx (qVar 1) (qC (.int 0))) qNil) [])) (qF (fLst (qCons (qVar 2) (qCons (qOp gAdd (qC (.str "cover ")) (qCB gStrI (qCons (qOp gIx (qVar 1) (qC (.int 2))) qNil))) qNil))))))) sNil)
  (sRetF (fLc (iAny (qVar 1)) (gT 3 (gsC (gN 5) (gsC (gN 6) (gsC (gN 7) gsN)))) tYes' (qOp gAdd (qOp gAdd (qOp gAdd (qOp gAdd (qVar 5) (qC (.str " "))) (qCall sp_law_joints_text (qAddD (qCons (qVar 6) qNil) []))) (qC (.str " / "))) (qCall sp_law_joints_text (qAddD (qCons (qVar 7) qNil) []))) [5, 6, 7])))))
theorem jw_ok {js : List D} (h : ∀ j ∈ js, Jz j) : ∀ v ∈ js.map jointT, v ≠ Str.ofString "" ∧ v.length ≤ 16 := fun v hv => by
  obtain ⟨j, hj, rfl⟩ := List.mem_map.mp hv
  refine ⟨fun e => ?_, jointT_len (h j hj).sj⟩
  rcases jointT_mark (h j hj) with g | g <;> rw [e] at g <;> cases g
theorem partT2_is (p : Part) (h : PartOk p) : p.1 ++ spT ++ Txt.join spT (p.2.1.map jointT) ++ Str.ofString " / " ++ Txt.join spT (p.2.2.map jointT) = partL p := by
  rw [← partT_is p h]
  have e : Str.ofString " / " = spT ++ (slT ++ spT) := by decide +kernel
  have e1 : Txt.join spT (p.1 :: p.2.1.map jointT) = p.1 ++ spT ++ Txt.join spT (p.2.1.map jointT) := by
    have := h.o0
    cases q : p.2.1 with
    | nil => exact absurd q this
    | cons j r => rw [List.map_cons, join2]
  have e2 : Txt.join spT (slT :: p.2.2.map jointT) = slT ++ spT ++ Txt.join spT (p.2.2.map jointT) := by
    have := h.t0
    cases q : p.2.2 with
    | nil => exact absurd q this
    | cons j r => rw [List.map_cons, join2]
  rw [e, e1, e2]
  simp only [str_assoc]
theorem pure_law_part_lines (fl : Option (List D)) (ds : List D) (Q : RV → Option (List D) → Prop) (_ : false = true ↔ fl ≠ none) (h : sp_law_part_lines fl ds Q) : T_law_part_lines (endsOf false Q) (startE false N_law_part_lines fl ds) := by
  obtain ⟨rfl, b, d, ls, rfl, hp, k⟩ := h
  show T_law_part_lines _ [SV.dat _, SV.dat _, SV.un, SV.un, SV.un, SV.un, SV.un, SV.un]
  unfold T_law_part_lines
  cases hp with
  | @one cs js hc hj cl jl =>
    refine sSeq_abs fun R hR => ?_
    walk_at "wp"
    rw [if_pos (by rfl)]
    refine ⟨rfl, cs, rfl, hc, by omega, ?_⟩
    walk_at "wp"
    refine ⟨rfl, cutsW, cs.map jointT, 16, rfl, by decide +kernel, jw_ok hc, by rw [List.length_map]; omega, ?_⟩
    walk_at "wp"
    refine ⟨rfl, js, rfl, hj, by omega, ?_⟩
    walk_at "wp"
    refine ⟨rfl, joinsW, js.map jointT, 16, rfl, by decide +kernel, jw_ok hj, by rw [List.length_map]; omega, ?_⟩
    exact ⟨sizeL (by decide), k⟩
  | @changes rs hr rl =>
    refine sSeq_abs fun R hR => ?_
    walk_at "wp"
    rw [if_neg (by decide +kernel)]
    subst hR
    refine sSeq_abs fun R hR => ?_
    walk_at "wp"
    rw [if_pos (by rfl)]
    exact ⟨rfl, rs, rfl, hr, by omega, _, rfl, k⟩
  | @turns rs ks n hr rl hk kl hn =>
    refine sSeq_abs fun R hR => ?_
    walk_at "wp"
    rw [if_neg (by decide +kernel)]
    subst hR
    refine sSeq_abs fun R hR => ?_
    walk_at "wp"
    rw [if_neg (by decide +kernel)]
    subst hR
    refine sSeq_abs fun R hR => ?_
    refine sIf_abs fun S Z hS hZ => ?_
    walk_at "wp"
    rw [if_pos (by rfl)]
    subst hS
    refine sSeq_abs fun R2 hR2 => ?_
    walk_at "wp"
    refine ⟨by rw [List.length_map]; omega, ?_⟩
    refine map_comp (f := fun x => PyData.str (knotT x)) (fun x hx K hK => ?_) ?_
    · have h := hk x hx
      have l1 := num_len (k := 4) (by decide) h.1
      have l2 := num_len (k := 4) (by decide) h.2
      have e1 : (Str.ofString "-").length = 1 := by decide +kernel
      unfold knotD
      walk_at "wp"
      refine ⟨_, gStrI_i (by omega), ?_⟩
      walk_at "wp"
      refine ⟨sizeL (by rw [e1]; show (digT ((x.1 : Nat) : Int)).length + 1 ≤ _; omega), _, gStrI_i (by omega), .str (knotT x), ?_, hK⟩
      show (if _ then _ else _) = _
      rw [if_pos (sizeL (by
        rw [len_app, e1]
        show (digT ((x.1 : Nat) : Int)).length + 1 + (digT ((x.2 : Nat) : Int)).length ≤ _
        omega))]
      rfl
    rw [← strsD_map]
    walk_at "wp"
    have kl2 : ∀ v ∈ ks.map knotT, v ≠ Str.ofString "" ∧ v.length ≤ 9 := fun v hv => by
      obtain ⟨m, hm, rfl⟩ := List.mem_map.mp hv
      refine ⟨fun e => ?_, knotT_len (hk m hm).1 (hk m hm).2⟩
      have : 45 ∈ (knotT m).cps.toList := by
        unfold knotT
        rw [tl_app, tl_app, da_S]
        simp
      rw [e] at this
      cases this
    refine ⟨_, gJoinW (n := 9) (fun v hv => (kl2 v hv).2) (by rw [List.length_map]; omega), ?_⟩
    refine ⟨rfl, knotsW, ks.map knotT, 9, rfl, by decide +kernel, kl2, by rw [List.length_map]; omega, ?_⟩
    subst hR2
    have ln := num_len (k := 4) (by decide) hn
    have lc : (Str.ofString "cover ").length = 6 := by decide +kernel
    have ct := coverT (n : Int)
    walk_at "wp"
    refine ⟨rfl, rs, rfl, hr, by omega, ?_⟩
    walk_at "wp"
    have ga : gAdd (.str (Str.ofString "cover ")) (.str (digT (n : Int))) = some (.str (Txt.join spT [coverW, digT (n : Int)])) := by
      rw [← ct]
      show (if _ then _ else _) = _
      rw [if_pos (sizeL (by omega))]
    rw [strsD_app] at k
    exact ⟨_, gStrI_i (by omega), _, ga, sizeL (by decide), sizeL (by rw [strsD_len, List.length_map]; omega), k⟩
  | @two b ps hb hp pl =>
    have b1 : b ≠ Str.ofString "one" := by rcases hb with rfl | rfl <;> decide +kernel
    have b2 : b ≠ Str.ofString "changes" := by rcases hb with rfl | rfl <;> decide +kernel
    have b3 : b ≠ Str.ofString "turns" := by rcases hb with rfl | rfl <;> decide +kernel
    refine sSeq_abs fun R hR => ?_
    walk_at "wp"
    rw [if_neg b1]
    subst hR
    refine sSeq_abs fun R hR => ?_
    walk_at "wp"
    rw [if_neg b2]
    subst hR
    refine sSeq_abs fun R hR => ?_
    walk_at "wp"
    rw [if_neg b3]
    subst hR
    walk_at "wp"
    refine ⟨by rw [List.length_map]; omega, ?_⟩
    refine map_comp (f := fun x => PyData.str (partL x)) (fun x hx K hK => ?_) ?_
    · have h := hp x hx
      have ol := h.ol
      have tl := h.tl
      have l1 := (joinS_len (jl_len h.o)).2
      have l2 := (joinS_len (jl_len h.t)).2
      rw [List.length_map] at l1 l2
      have e1 : spT.length = 1 := by decide
      have e2 : (Str.ofString " / ").length = 3 := by decide +kernel
      have kd := h.kd.len
      have pe := partT2_is x h
      unfold partDz
      walk_at "wp"
      refine ⟨sizeL (by show _ + spT.length ≤ _; omega), rfl, x.2.1, rfl, h.o, by omega, ?_⟩
      walk_at "wp"
      refine ⟨sizeL (by rw [len_app]; show _ + spT.length + _ ≤ _; omega), sizeL (by rw [len_app, len_app, e2]; show _ + spT.length + _ + _ ≤ _; omega), rfl, x.2.2, rfl, h.t, by omega, ?_⟩
      refine ⟨.str (partL x), ?_, hK⟩
      rw [← pe]
      show (if _ then _ else _) = _
      rw [if_pos (sizeL (by rw [len_app, len_app, len_app, e2]; show _ + spT.length + _ + _ + _ ≤ _; omega))]
      rfl
    rw [← strsD_map]
    exact k
def sp_law_text : PSp := fun fl ds Q => fl = none ∧ ∃ b d pl t dd dl, ds = [.str b, .tuple [d, .int (t : Nat), .tuple dd]] ∧ PpL b d pl ∧ DkLs dd dl ∧ t < 10000 ∧ dl.length ≤ 100 ∧ Q (.dt (.str (Txt.join nlT (paperLs b t pl dl)))) none
abbrev N_law_text : List Str := ["_law_book", "_law_told", "_law_lines", "_law_deed"]
def T_law_text : PS' := (sSeq (sAsg 2 (qOp gAdd (qOp gAdd (qF (fLst (qCons (qOp gAdd (qOp gAdd (qVar 0) (qC (.str " "))) (qCB gStrI (qCons (qOp gIx (qVar 1) (qC (.int 1))) qNil))) qNil))) (qCall sp_law_part_lines (qAddD (qCons (qVar 0) (qCons (qOp gIx (qVar 1) (qC (.int 0))) qNil)) []))) (qF (fLst (qCons (qC (.str "row")) qNil)))))
  (sRet (qJoin (qC (.str "\n")) (qOp gAdd (qVar 2) (qF (fLc (iAny (qOp gIx (qVar 1) (qC (.int 2)))) (gN 3) tYes' (qCall sp_law_deed_text_2 (qAddD (qCons (qVar 3) qNil) [])) [3]))))))
theorem pure_law_text (fl : Option (List D)) (ds : List D) (Q : RV → Option (List D) → Prop) (_ : false = true ↔ fl ≠ none) (h : sp_law_text fl ds Q) : T_law_text (endsOf false Q) (startE false N_law_text fl ds) := by
  obtain ⟨rfl, b, d, pl, t, dd, dl, rfl, hp, hd, ht, hl, k⟩ := h
  show T_law_text _ [SV.dat _, SV.dat _, SV.un, SV.un]
  unfold T_law_text
  obtain ⟨f1, f2, f3⟩ := paper_facts hp hd ht hl
  have bl := hp.book.low.2
  have tl := num_len (k := 4) (by decide) ht
  have pll := hp.lines.2
  have hd' := hd
  obtain ⟨es, he, e1, e2⟩ := hd'
  have e1' : spT.length = 1 := by decide
  have bt : b ++ Str.ofString " " ++ digT (t : Int) = Txt.join spT [b, digT (t : Int)] := by rw [join2, join1]; rfl
  have gj := gJoin_lines (ls := paperLs b t pl dl) (n := 4000) (fun l h => (f1 l h).2.1) (by omega)
  refine sSeq_abs fun R hR => ?_
  walk_at "wp"
  refine ⟨sizeL (by show _ + spT.length ≤ _; omega), _, gStrI_i (by omega), .str (Txt.join spT [b, digT (t : Int)]), ?_, sizeL (by decide), rfl, b, d, pl, rfl, hp, ?_⟩
  · rw [← bt]
    show (if _ then _ else _) = _
    rw [if_pos (sizeL (by rw [len_app]; show _ + spT.length + (digT (t : Int)).length ≤ _; omega))]
    rfl
  have a1 : gAdd (.list [.str (Txt.join spT [b, digT (t : Int)])]) (.list (strsD pl)) = some (.list (.str (Txt.join spT [b, digT (t : Int)]) :: strsD pl)) := by
    show (if _ then _ else _) = _
    rw [if_pos (sizeL (by rw [strsD_len]; simp; omega))]
    rfl
  have a2 : gAdd (.list (.str (Txt.join spT [b, digT (t : Int)]) :: strsD pl)) (.list [.str (Str.ofString "row")]) = some (.list (strsD ((Txt.join spT [b, digT (t : Int)] :: pl) ++ [rowW]))) := by
    show (if _ then _ else _) = _
    rw [if_pos (sizeL (by simp [strsD]; omega)), strsD_app]
    rfl
  refine ⟨_, a1, sizeL (by decide), _, a2, ?_⟩
  subst hR
  have ld : dd.length = dl.length := by rw [e1, e2, List.length_map, List.length_map]
  walk_at "wp"
  refine ⟨by omega, ?_⟩
  rw [e1]
  refine map_comp (f := fun p => PyData.str (Txt.join spT p.2)) (fun x hx K hK => ?_) ?_
  · walk_at "wp"
    refine ⟨rfl, x.1, x.2, rfl, he x hx, ?_⟩
    walk_at "wp"
    exact hK
  have e3 : es.map (fun p => PyData.str (Txt.join spT p.2)) = strsD dl := by rw [e2, strsD_map]
  rw [e3]
  have e4 : strsD ((Txt.join spT [b, digT (t : Int)] :: pl) ++ [rowW]) ++ strsD dl = strsD (paperLs b t pl dl) := by
    rw [← strsD_app]
    unfold paperLs
    simp
  have a3 : gAdd (.list (strsD (Txt.join spT [b, digT (t : Int)] :: (pl ++ [rowW])))) (.list (strsD dl)) = some (.list (strsD (paperLs b t pl dl))) := by
    show (if _ then _ else _) = _
    rw [if_pos (sizeL (by rw [strsD_len, strsD_len]; simp; omega)), ← e4]
    rfl
  exact ⟨_, rfl, _, a3, _, rfl, _, gj, k⟩

end Sw

open PySem PySem.Spec L2 Sw
namespace Sw
theorem pWh_fuel3 {c : PT'} {B : PS'} {Dp : PEnds} {env : List SV} (I : Nat → List SV → Prop) (n : Nat) (h0 : I n env)
    (hs : ∀ m env, I m env → ∀ K : List SV → Prop, (∀ m' env', m' < m → I m' env' → K env') → c env fun b env1 => if b = true then B { Dp with nx := K, ct := K, bk := Dp.nx } env1 else Dp.nx env1) : sWh c B Dp env := by
  have key : ∀ (k m : Nat) (env : List SV), I m env → m < k → pWh c B Dp k env := by
    intro k
    induction k with
    | zero => intro m env _ h; omega
    | succ k ih =>
      intro m env hi hm
      exact hs m env hi (fun env' => pWh c B Dp k env') fun m' env' hm' h' => ih m' env' h' (by omega)
  exact ⟨n + 1, key (n + 1) n env h0 (Nat.lt_succ_self _)⟩
def sp_law_number : PSp := fun fl ds Q => ∃ fd f lim, fl = some fd ∧ FlOk fd ∧ ds = [.int f] ∧ ((f = 3 ∧ lim = 1000) ∨ (f = 4 ∧ lim = 10000)) ∧ ∀ (n : Nat) fd2, n < lim → FlOk fd2 → Q (.dt (.int (n : Int))) (some fd2)
abbrev N_law_number : List Str := ["_law_flow_here", "_law_figures"]
def T_law_number : PS' := (sRet (qCallL sp_law_pick 0 (qAddD (qCons (qOp gIx (qF (fLst (qCons (qC (.int 2)) (qCons (qC (.int 10)) (qCons (qC (.int 100)) (qCons (qC (.int 1000)) (qCons (qC (.int 10000)) qNil))))))) (qCallL sp_law_pick 0 (qAddD (qCons (qOp gAdd (qVar 1) (qC (.int 1))) qNil) []))) qNil) [])))
theorem pure_law_number (fl : Option (List D)) (ds : List D) (Q : RV → Option (List D) → Prop) (_ : true = true ↔ fl ≠ none) (h : sp_law_number fl ds Q) : T_law_number (endsOf true Q) (startE true N_law_number fl ds) := by
  obtain ⟨fd, f, lim, rfl, hf, rfl, hlim, k⟩ := h
  show T_law_number _ [SV.own true _, SV.dat (.int f)]
  unfold T_law_number
  walk_at "wp"
  refine ⟨sizeL (by decide), fd, f + 1, rfl, hf, rfl, by omega, by omega, fun d fd2 d0 d1 hf2 => ?_⟩
  walk_at "wp"
  have fin : ∀ m : Int, 1 ≤ m → m ≤ lim → m < 1073741824 → sp_law_pick (some fd2) [.int m] fun rv fl' => ∃ fd', fl' = some fd' ∧ Q (.dt rv.toD) (some fd') := fun m h1 h2 h3 => by
    refine ⟨fd2, m, rfl, hf2, rfl, h1, h3, fun d' fd3 e0 e1 hf3 => ⟨fd3, rfl, ?_⟩⟩
    obtain ⟨n, rfl⟩ : ∃ n : Nat, d' = n := ⟨d'.toNat, by omega⟩
    exact k n fd3 (by omega) hf3
  have h4 : d = 4 → lim = 10000 := fun e => by omega
  have h3 : 1000 ≤ lim := by omega
  have : d = 0 ∨ d = 1 ∨ d = 2 ∨ d = 3 ∨ d = 4 := by omega
  rcases this with rfl | rfl | rfl | rfl | rfl
  · exact ⟨_, rfl, fin 2 (by omega) (by omega) (by omega)⟩
  · exact ⟨_, rfl, fin 10 (by omega) (by omega) (by omega)⟩
  · exact ⟨_, rfl, fin 100 (by omega) (by omega) (by omega)⟩
  · exact ⟨_, rfl, fin 1000 (by omega) (by omega) (by omega)⟩
  · exact ⟨_, rfl, fin 10000 (by omega) (by have := h4 rfl; omega) (by omega)⟩
def sp_law_many_3 : PSp := fun fl ds Q => ∃ fd, fl = some fd ∧ FlOk fd ∧ ds = [] ∧ ∀ (n : Nat) fd2, n ≤ 12 → FlOk fd2 → Q (.dt (.int (n : Int))) (some fd2)
abbrev N_law_many_3 : List Str := ["_law_flow_here", "_law_many_here"]
def T_law_many_3 : PS' := (sSeq (sAsg 1 (qCallL sp_law_pick 0 (qAddD (qCons (qC (.int 6)) qNil) [])))
  (sSeq (sIf (qTest (qOp (gEq false) (qCallL sp_law_pick 0 (qAddD (qCons (qC (.int 8)) qNil) [])) (qC (.int 7)))) (sAsg 1 (qOp gAdd (qC (.int 6)) (qCallL sp_law_pick 0 (qAddD (qCons (qC (.int 7)) qNil) [])))) sNil)
  (sRet (qVar 1))))
theorem pure_law_many_3 (fl : Option (List D)) (ds : List D) (Q : RV → Option (List D) → Prop) (_ : true = true ↔ fl ≠ none) (h : sp_law_many_3 fl ds Q) : T_law_many_3 (endsOf true Q) (startE true N_law_many_3 fl ds) := by
  obtain ⟨fd, rfl, hf, rfl, k⟩ := h
  show T_law_many_3 _ [SV.own true _, SV.un]
  unfold T_law_many_3
  refine sSeq_abs fun R hR => ?_
  walk_at "wp"
  refine ⟨fd, 6, rfl, hf, rfl, by omega, by omega, fun m fd2 m0 m1 hf2 => ?_⟩
  walk_at "wp"
  subst hR
  refine sSeq_abs fun R hR => ?_
  walk_at "wp"
  refine ⟨fd2, 8, rfl, hf2, rfl, by omega, by omega, fun d fd3 d0 d1 hf3 => ?_⟩
  walk_at "wp"
  split
  · refine ⟨fd3, 7, rfl, hf3, rfl, by omega, by omega, fun e fd4 e0 e1 hf4 => ?_⟩
    walk_at "wp"
    subst hR
    walk_at "wp"
    obtain ⟨n, hn⟩ : ∃ n : Nat, 6 + e = n := ⟨(6 + e).toNat, by omega⟩
    rw [hn]
    exact k n fd4 (by omega) hf4
  · subst hR
    walk_at "wp"
    obtain ⟨n, hn⟩ : ∃ n : Nat, m = n := ⟨m.toNat, by omega⟩
    rw [hn]
    exact k n fd3 (by omega) hf3
theorem Ez.hn {x : D} (h : Ez x) : Hn 1 x := by
  obtain ⟨z, s, rfl, _⟩ := h
  intro d hd
  have hd : d ∈ [PyData.str z, .int s] := hd
  rcases List.mem_cons.mp hd with rfl | hd
  · trivial
  · rw [List.mem_singleton.mp hd]; trivial
theorem gIn_lst {n : Nat} {xs : List D} {x : D} (h : ∀ d ∈ xs, Hn n d) (hx : Hn n x) (hn : n ≤ 38) : ∃ b : Bool, (b = true ↔ x ∈ xs) ∧ gIn false x (.list xs) = some (.bool b) := by
  obtain ⟨b, h1, h2, h3, h4⟩ := gIn_hn false h hx hn
  refine ⟨b, h1, ?_⟩
  show (if okD x = true ∧ okD (.list xs) = true then some (inB false x xs) else none) = _
  rw [if_pos ⟨h3, h4⟩, h2]
  rfl
/-- the i-th end of these names -/
def endAt (ns : List Str) (i : Nat) : D := endD (ns.getD (i / 2) Str.empty) ((i % 2 : Nat) : Int)
theorem endAt_inj {ns : List Str} (hn : ns.Nodup) {i j : Nat} (hi : i < 2 * ns.length) (hj : j < 2 * ns.length) (h : endAt ns i = endAt ns j) : i = j := by
  unfold endAt endD at h
  injection h with h
  injection h with h1 h
  injection h with h2 _
  injection h1 with h1
  injection h2 with h2
  rw [List.getD_eq_getElem?_getD, List.getD_eq_getElem?_getD, List.getElem?_eq_getElem (show i / 2 < ns.length by omega), List.getElem?_eq_getElem (show j / 2 < ns.length by omega)] at h1
  have h1 : ns[i / 2]'(by omega) = ns[j / 2]'(by omega) := h1
  have := (List.getElem_inj hn).mp h1
  omega
theorem endAt_ez {ns : List Str} (hm : ∀ z ∈ ns, Nm z) {i : Nat} (hi : i < 2 * ns.length) : Ez (endAt ns i) := by
  refine ⟨_, _, rfl, ?_, by omega⟩
  rw [List.getD_eq_getElem?_getD, List.getElem?_eq_getElem (show i / 2 < ns.length by omega)]
  exact hm _ (List.getElem_mem _)
theorem free_end {ns : List Str} (hn : ns.Nodup) {es : List D} (hl : es.length < 2 * ns.length) : ∃ i, i < 2 * ns.length ∧ endAt ns i ∉ es := by
  refine Classical.byContradiction fun h => ?_
  have all : ∀ i, i < 2 * ns.length → endAt ns i ∈ es := fun i hi => Classical.byContradiction fun k => h ⟨i, hi, k⟩
  have nd : ((List.range (2 * ns.length)).map (endAt ns)).Nodup := by
    refine List.pairwise_map.mpr (List.Pairwise.imp_of_mem (fun {a b} ha hb ne e => ne (endAt_inj hn (List.mem_range.mp ha) (List.mem_range.mp hb) e)) (List.nodup_range (n := 2 * ns.length)))
  haveI : DecidableEq D := fun a b => Classical.propDecidable _
  have := nodup_few nd (ys := es) fun x hx => by
    obtain ⟨i, hi, rfl⟩ := List.mem_map.mp hx
    exact all i (List.mem_range.mp hi)
  rw [List.length_map, List.length_range] at this
  omega
def sp_law_some_ends : PSp := fun fl ds Q => ∃ fd ns many, fl = some fd ∧ FlOk fd ∧ ds = [.list (strsD ns), .int ((many : Nat) : Int)] ∧ ns.Nodup ∧ (∀ z ∈ ns, Nm z) ∧ ns.length ≤ 100 ∧ many ≤ 2 * ns.length ∧ 1 ≤ ns.length ∧ ∀ (es : List D) fd2, es.length = many → es.Nodup → (∀ x ∈ es, Ez x) → FlOk fd2 → Q (.fr es) (some fd2)
abbrev N_law_some_ends : List Str := ["_law_flow_here", "_law_names_here", "_law_many_here", "_law_ends", "_law_at"]
def T_law_some_ends : PS' := (sSeq (sAsgF 3 (fLst (qNil)))
  (sSeq (sWh (qTest (qOp gLt (qCB gLen (qCons (qVar 3) qNil)) (qVar 2))) (sSeq (sAsg 4 (qCallL sp_law_pick 0 (qAddD (qCons (qOp gMul (qC (.int 2)) (qCB gLen (qCons (qVar 1) qNil))) qNil) [])))
  (sSeq (sWh (qTest (qOp (gIn false) (qTup (qCons (qOp gIx (qVar 1) (qOp (gI gDiv) (qVar 4) (qC (.int 2)))) (qCons (qOp (gI gMod) (qVar 4) (qC (.int 2))) qNil))) (qVar 3))) (sAsg 4 (qOp (gI gMod) (qOp gAdd (qVar 4) (qC (.int 1))) (qOp gMul (qC (.int 2)) (qCB gLen (qCons (qVar 1) qNil))))))
  (sDrop (qMO 3 gAppend (qCons (qTup (qCons (qOp gIx (qVar 1) (qOp (gI gDiv) (qVar 4) (qC (.int 2)))) (qCons (qOp (gI gMod) (qVar 4) (qC (.int 2))) qNil))) qNil))))))
  (sRetS 3)))
theorem pure_law_some_ends (fl : Option (List D)) (ds : List D) (Q : RV → Option (List D) → Prop) (_ : true = true ↔ fl ≠ none) (h : sp_law_some_ends fl ds Q) : T_law_some_ends (endsOf true Q) (startE true N_law_some_ends fl ds) := by
  obtain ⟨fd, ns, many, rfl, hf, rfl, hnd, hnm, hnl, hml, hn1, k⟩ := h
  show T_law_some_ends _ [SV.own true _, SV.dat _, SV.dat _, SV.un, SV.un]
  unfold T_law_some_ends
  refine sSeq_abs fun R hR => ?_
  walk_at "wp"
  refine ⟨sizeL (by decide), ?_⟩
  subst hR
  refine cut_seq (fun env => ∃ (es : List D) (fd : List D) (y4 : SV), es.length = many ∧ es.Nodup ∧ (∀ x ∈ es, Ez x) ∧ FlOk fd ∧ env = [SV.own true fd, SV.dat (.list (strsD ns)), SV.dat (.int ((many : Nat) : Int)), SV.own false es, y4]) ?_ fun nx hnx => ?_
  · rintro env ⟨es, fd, y4, h1, h2, h3, h4, rfl⟩
    walk_at "wp"
    exact k es fd h1 h2 h3 h4
  refine sWh_abs fun B hB => ?_
  refine pWh_fuel3 (fun m env => ∃ (es : List D) (fd : List D) (y4 : SV), es.length + m = many ∧ es.Nodup ∧ (∀ x ∈ es, Ez x) ∧ FlOk fd ∧ env = [SV.own true fd, SV.dat (.list (strsD ns)), SV.dat (.int ((many : Nat) : Int)), SV.own false es, y4]) many ⟨[], fd, _, by simp, List.nodup_nil, fun x h => (nomatch h), hf, rfl⟩ ?_
  rintro m env ⟨es, fd, y4, h1, h2, h3, h4, rfl⟩ K hK
  walk_at "wp"
  split
  · subst hB
    refine sSeq_abs fun R hR => ?_
    walk_at "wp"
    rw [strsD_len]
    refine ⟨.inl (by omega), fd, _, rfl, h4, rfl, by omega, by omega, fun d fd2 d0 d1 hf2 => ⟨fd2, rfl, ?_⟩⟩
    obtain ⟨a, rfl⟩ : ∃ a : Nat, d = a := ⟨d.toNat, by omega⟩
    obtain ⟨i, hi, hfree⟩ := free_end hnd (es := es) (by omega)
    have hk : ∃ k, k ≤ 2 * ns.length ∧ endAt ns ((a + k) % (2 * ns.length)) ∉ es := by
      refine ⟨if a ≤ i then i - a else i + 2 * ns.length - a, by split <;> omega, ?_⟩
      have : (a + if a ≤ i then i - a else i + 2 * ns.length - a) % (2 * ns.length) = i := by
        split
        · rw [show a + (i - a) = i by omega, Nat.mod_eq_of_lt hi]
        · rw [show a + (i + 2 * ns.length - a) = i + 2 * ns.length by omega, Nat.add_mod_right, Nat.mod_eq_of_lt hi]
      rw [this]
      exact hfree
    obtain ⟨k0, hk0, hkf⟩ := hk
    subst hR
    have at_get : ∀ a : Nat, a < 2 * ns.length → atI (strsD ns) (((a : Nat) : Int) / 2) = some (.str (ns.getD (a / 2) Str.empty)) := fun a ha => by
      rw [show ((a : Nat) : Int) / 2 = ((a / 2 : Nat) : Int) by omega]
      refine atI_map ?_
      rw [List.getD_eq_getElem?_getD, List.getElem?_eq_getElem (show a / 2 < ns.length by omega)]
      rfl
    refine cut_seq (fun env => ∃ a : Nat, a < 2 * ns.length ∧ endAt ns a ∉ es ∧ env = [SV.own true fd2, SV.dat (.list (strsD ns)), SV.dat (.int ((many : Nat) : Int)), SV.own false es, SV.dat (.int ((a : Nat) : Int))]) ?_ fun nx2 hnx2 => ?_
    · rintro env ⟨a, ha, hq, rfl⟩
      walk_at "wp"
      refine ⟨by omega, _, at_get a ha, by omega, sizeL (by decide), sizeL (by omega), ?_⟩
      rw [show ((a : Nat) : Int) % 2 = ((a % 2 : Nat) : Int) by omega]
      refine hK (m - 1) _ (by omega) ⟨es ++ [endAt ns a], fd2, _, by rw [List.length_append, List.length_singleton]; omega, ?_, ?_, hf2, rfl⟩
      · exact List.nodup_append.mpr ⟨h2, by simp, fun x hx y hy e => by rw [List.mem_singleton.mp hy] at e; exact hq (e ▸ hx)⟩
      · intro x hx
        rcases List.mem_append.mp hx with hx | hx
        · exact h3 x hx
        · rw [List.mem_singleton.mp hx]
          exact endAt_ez hnm ha
    refine sWh_abs fun B2 hB2 => ?_
    refine pWh_fuel3 (fun m env => ∃ a : Nat, a < 2 * ns.length ∧ endAt ns ((a + m) % (2 * ns.length)) ∉ es ∧ env = [SV.own true fd2, SV.dat (.list (strsD ns)), SV.dat (.int ((many : Nat) : Int)), SV.own false es, SV.dat (.int ((a : Nat) : Int))]) k0 ⟨a, by omega, hkf, rfl⟩ ?_
    rintro m2 env ⟨a, ha, hq, rfl⟩ K2 hK2
    walk_at "wp"
    refine ⟨by omega, _, at_get a ha, by omega, sizeL (by decide), ?_⟩
    rw [show ((a : Nat) : Int) % 2 = ((a % 2 : Nat) : Int) by omega]
    obtain ⟨b, hb, eb⟩ := gIn_lst (n := 1) (xs := es) (x := endAt ns a) (fun d hd => (h3 d hd).hn) (endAt_ez hnm ha).hn (by omega)
    refine ⟨_, eb, b, rfl, ?_⟩
    cases b with
    | false =>
      rw [if_neg (by decide)]
      exact hnx2 _ ⟨a, ha, fun h => Bool.noConfusion (hb.mpr h), rfl⟩
    | true =>
      rw [if_pos rfl]
      have hin := hb.mp rfl
      cases m2 with
      | zero =>
        rw [Nat.add_zero, Nat.mod_eq_of_lt ha] at hq
        exact absurd hin hq
      | succ m2 =>
        subst hB2
        walk_at "wp"
        rw [strsD_len]
        refine ⟨.inl (by omega), by omega, ?_⟩
        rw [show (((a : Nat) : Int) + 1) % (2 * ((ns.length : Nat) : Int)) = (((a + 1) % (2 * ns.length) : Nat) : Int) by rw [Int.natCast_emod, Int.natCast_add, Int.natCast_mul]; rfl]
        refine hK2 m2 _ (Nat.lt_succ_self _) ⟨(a + 1) % (2 * ns.length), Nat.mod_lt _ (by omega), ?_, rfl⟩
        rw [Nat.mod_add_mod, show a + 1 + m2 = a + (m2 + 1) by omega]
        exact hq
  · exact hnx _ ⟨es, fd, y4, by omega, h2, h3, h4, rfl⟩

end Sw

open PySem PySem.Spec L2 Sw
namespace Sw
theorem len_two {xs : List D} (h : xs.length = 2) : ∃ x y, xs = [x, y] := by
  match xs, h with
  | [x, y], _ => exact ⟨x, y, rfl⟩
theorem Ez.endB {x : D} (h : Ez x) : isEndB x = true := by
  obtain ⟨z, s, rfl, hz, hs⟩ := h
  have h1 : isNmB (.str z) = true := nmB_iff.mpr hz
  show (isNmB (.str z) && (s == 0 || s == 1)) = true
  rw [h1]
  rcases hs with rfl | rfl <;> rfl
theorem Ez.isE {x : D} (h : Ez x) : IsE x := endB_E h.endB
theorem jz_srt {es : List D} (he : ∀ x ∈ es, Ez x) (nd : es.Nodup) (hl : es.length = 1 ∨ es.length = 2) : Jz (.tuple (srtD es)) := by
  have hf : Jt (.tuple (srtD es)) ∧ PyData.tuple (srtD es) = .tuple (srtD (srtD es)) := by
    rcases hl with hl | hl
    · obtain ⟨x, rfl⟩ := List.length_eq_one_iff.mp hl
      rw [← srt_one x]
      exact ⟨.one (he x List.mem_cons_self).isE, by rw [← srt_one x]⟩
    · obtain ⟨x, y, rfl⟩ := len_two hl
      exact jt_form (he x List.mem_cons_self).isE (he y (by simp)).isE
  refine ⟨hf.1, fun x hx => he x (srtD_mem.mp hx), ?_, ?_⟩
  · have := hf.2
    injection this
  · exact (srtD_perm es).nodup_iff.mpr nd
theorem Jz.jointB {j : D} (h : Jz j) : isJointB j = true := jointB_of h.jt (by rw [← h.sr]; exact h.eq) fun x hx => (h.ez x hx).endB
theorem srt_two {j k : D} : (srtD [j, k] = [j, k] ∧ leD j k = true) ∨ (srtD [j, k] = [k, j] ∧ leD k j = true) := by
  have hp := srtD_perm [j, k]
  have hw := srtD_pw [j, k]
  obtain ⟨u, v, e⟩ := len_two (srtD_len [j, k])
  rw [e] at hp hw
  have hw : leD u v = true := by simpa using hw
  have hu : u = j ∨ u = k := by simpa using hp.mem_iff.mp (List.mem_cons_self (a := u) (l := [v]))
  rcases hu with rfl | rfl
  · have := List.perm_singleton.mp ((List.perm_cons u).mp hp)
    injection this with this
    subst this
    exact .inl ⟨e, hw⟩
  · have := List.perm_singleton.mp ((List.perm_cons u).mp (hp.trans (List.Perm.swap _ _ _)))
    injection this with this
    subst this
    exact .inr ⟨e, hw⟩
theorem dd_two {j k x y : D} (hj : Jz j) (hk : Jz k) (hx : Jz x) (hy : Jz y) (hxj : x ≠ j) (hxk : x ≠ k) (hnd : (tupE j ++ tupE k).Nodup) (hp : (tupE j ++ tupE k).Perm (tupE x ++ tupE y)) : DF (srtD [j, k]) (srtD [x, y]) := by
  rcases srt_two (j := j) (k := k) with ⟨e, l⟩ | ⟨e, l⟩
  · rw [e]
    exact dd_DF hj.jointB hk.jointB hx.jointB hy.jointB l hxj hxk hnd hp
  · rw [e]
    exact dd_DF hk.jointB hj.jointB hx.jointB hy.jointB l hxk hxj (List.perm_append_comm.nodup_iff.mp hnd) (List.perm_append_comm.trans hp)
theorem jz_two {j k : D} (hj : Jz j) (hk : Jz k) : ∀ i ∈ srtD [j, k], Jz i := fun i hi => by
  rcases List.mem_cons.mp (srtD_mem.mp hi) with rfl | hi
  · exact hj
  · rw [List.mem_singleton.mp hi]; exact hk
theorem dk_two {a b c : D} {l : List D} (he : ∀ x ∈ a :: b :: c :: l, Ez x) (nd : (a :: b :: c :: l).Nodup) (hl : l.length ≤ 1) : ∃ ws, DkL (.tuple [.tuple (srtD [.tuple (srtD [a, b]), .tuple (srtD (c :: l))]), .tuple (srtD [.tuple (srtD [a, c]), .tuple (srtD (b :: l))])]) ws := by
  obtain ⟨n1, nd1⟩ := List.nodup_cons.mp nd
  obtain ⟨n2, nd2⟩ := List.nodup_cons.mp nd1
  obtain ⟨n3, nd3⟩ := List.nodup_cons.mp nd2
  have ab : a ≠ b := fun e => n1 (e ▸ List.mem_cons_self)
  have ac : a ≠ c := fun e => n1 (by rw [e]; simp)
  have bc : b ≠ c := fun e => n2 (by rw [e]; simp)
  have al : a ∉ l := fun e => n1 (by simp [e])
  have bl : b ∉ l := fun e => n2 (by simp [e])
  have ea := he a (by simp)
  have eb := he b (by simp)
  have ec := he c (by simp)
  have el : ∀ x ∈ l, Ez x := fun x hx => he x (by simp [hx])
  have j1 : Jz (.tuple (srtD [a, b])) := jz_srt (fun x hx => by simp at hx; rcases hx with rfl | rfl <;> assumption) (by simp [ab]) (.inr rfl)
  have j2 : Jz (.tuple (srtD (c :: l))) := jz_srt (fun x hx => by rcases List.mem_cons.mp hx with rfl | hx; exact ec; exact el x hx) (List.nodup_cons.mpr ⟨n3, nd3⟩) (by rw [List.length_cons]; omega)
  have j3 : Jz (.tuple (srtD [a, c])) := jz_srt (fun x hx => by simp at hx; rcases hx with rfl | rfl <;> assumption) (by simp [ac]) (.inr rfl)
  have j4 : Jz (.tuple (srtD (b :: l))) := jz_srt (fun x hx => by rcases List.mem_cons.mp hx with rfl | hx; exact eb; exact el x hx) (List.nodup_cons.mpr ⟨bl, nd3⟩) (by rw [List.length_cons]; omega)
  have p1 : (srtD [a, b] ++ srtD (c :: l)).Perm (a :: b :: c :: l) := (srtD_perm [a, b]).append (srtD_perm (c :: l))
  have p2 : (srtD [a, c] ++ srtD (b :: l)).Perm (a :: c :: b :: l) := (srtD_perm [a, c]).append (srtD_perm (b :: l))
  refine ⟨_, .deed (dd_two j1 j2 j3 j4 ?_ ?_ (p1.nodup_iff.mpr nd) (p1.trans (((List.Perm.swap _ _ _).cons a).trans p2.symm))) (jz_two j1 j2) (jz_two j3 j4)⟩
  · intro e
    injection e with e
    have : c ∈ srtD [a, b] := e ▸ srtD_mem.mpr (by simp)
    have := srtD_mem.mp this
    simp at this
    rcases this with h | h
    · exact ac h.symm
    · exact bc h.symm
  · intro e
    injection e with e
    have : a ∈ srtD (c :: l) := e ▸ srtD_mem.mpr (by simp)
    rcases List.mem_cons.mp (srtD_mem.mp this) with h | h
    · exact ac h
    · exact al h
theorem DkL.of_DF {g c : List D} (h : DF g c) (hg : ∀ j ∈ g, Jz j) (hc : ∀ j ∈ c, Jz j) : ∃ ws, DkL (.tuple [.tuple g, .tuple c]) ws := ⟨_, .deed h hg hc⟩
theorem dk_cut {a b : D} (ha : Ez a) (hb : Ez b) (hn : a ≠ b) : ∃ x y, srtD [a, b] = [x, y] ∧ (∃ ws, DkL (.tuple [.tuple [.tuple [x, y]], .tuple [.tuple [x], .tuple [y]]]) ws) ∧ ∃ ws, DkL (.tuple [.tuple [.tuple [x], .tuple [y]], .tuple [.tuple [x, y]]]) ws := by
  obtain ⟨x, y, e⟩ := len_two (srtD_len [a, b])
  have hJ : Jz (.tuple (srtD [a, b])) := jz_srt (fun x hx => by simp at hx; rcases hx with rfl | rfl <;> assumption) (by simp [hn]) (.inr rfl)
  have hw := srtD_pw [a, b]
  rw [e] at hJ hw
  have hw : leD x y = true := by simpa using hw
  have ex : Ez x := hJ.ez x (by simp [tupE])
  have ey : Ez y := hJ.ez y (by simp [tupE])
  have jx : Jz (.tuple [x]) := by
    have := jz_srt (es := [x]) (fun z hz => by rw [List.mem_singleton.mp hz]; exact ex) (by simp) (.inl rfl)
    rwa [← srt_one x] at this
  have jy : Jz (.tuple [y]) := by
    have := jz_srt (es := [y]) (fun z hz => by rw [List.mem_singleton.mp hz]; exact ey) (by simp) (.inl rfl)
    rwa [← srt_one y] at this
  have hg : ∀ j ∈ [PyData.tuple [x, y]], Jz j := fun j hj => by rw [List.mem_singleton.mp hj]; exact hJ
  have hc : ∀ j ∈ [PyData.tuple [x], PyData.tuple [y]], Jz j := fun j hj => by
    rcases List.mem_cons.mp hj with rfl | hj
    · exact jx
    · rw [List.mem_singleton.mp hj]; exact jy
  have hD : DF [.tuple [x, y]] [.tuple [x], .tuple [y]] := ⟨.inl rfl, .inr rfl, fun i hi => (hg i hi).jointB, fun i hi => (hc i hi).jointB, srt_one _, srt_pair (isJ_one ex.isE) (isJ_one ey.isE) (by rw [leD_one ex.isE ey.isE]; exact hw), fun e => by simp at e, List.Perm.refl _, by
    have := hJ.nd
    simpa [tupE] using this⟩
  exact ⟨x, y, e, DkL.of_DF hD hg hc, DkL.of_DF hD.back hc hg⟩
def sp_law_some_joints : PSp := fun fl ds Q => ∃ fd ns least, fl = some fd ∧ FlOk fd ∧ ds = [.list (strsD ns), .int ((least : Nat) : Int)] ∧ ns.Nodup ∧ (∀ z ∈ ns, Nm z) ∧ ns.length ≤ 100 ∧ 1 ≤ ns.length ∧ least ≤ 10 ∧ ∀ (js : List D) fd2, (∀ j ∈ js, Jz j) → least ≤ js.length → js.length ≤ least + 5 → FlOk fd2 → Q (.dt (.tuple js)) (some fd2)
abbrev N_law_some_joints : List Str := ["_law_flow_here", "_law_names_here", "_law_least", "_law_found", "_law_k"]
def T_law_some_joints : PS' := (sSeq (sAsgF 3 (fLst (qNil)))
  (sSeq (sFor (iRg1 (qOp gAdd (qVar 2) (qCallL sp_law_pick 0 (qAddD (qCons (qC (.int 6)) qNil) [])))) (gN 4) (sDrop (qMO 3 gAppend (qCons (qCB gTuple (qCons (qF (fCB gSortD (qCons (qCallL sp_law_some_ends 0 (qAddD (qCons (qVar 1) (qCons (qOp gAdd (qC (.int 1)) (qCallL sp_law_pick 0 (qAddD (qCons (qC (.int 2)) qNil) []))) qNil)) [])) qNil))) qNil)) qNil))))
  (sRet (qCB gTuple (qCons (qVar 3) qNil)))))
theorem pure_law_some_joints (fl : Option (List D)) (ds : List D) (Q : RV → Option (List D) → Prop) (_ : true = true ↔ fl ≠ none) (h : sp_law_some_joints fl ds Q) : T_law_some_joints (endsOf true Q) (startE true N_law_some_joints fl ds) := by
  obtain ⟨fd, ns, least, rfl, hf, rfl, hnd, hnm, hnl, hn1, hle, k⟩ := h
  show T_law_some_joints _ [SV.own true _, SV.dat _, SV.dat _, SV.un, SV.un]
  unfold T_law_some_joints
  refine sSeq_abs fun R hR => ?_
  walk_at "wp"
  refine ⟨sizeL (by decide), ?_⟩
  subst hR
  refine cut_seq (fun env => ∃ (fd js : List D) (y4 : SV), FlOk fd ∧ (∀ j ∈ js, Jz j) ∧ least ≤ js.length ∧ js.length ≤ least + 5 ∧ env = [SV.own true fd, SV.dat (.list (strsD ns)), SV.dat (.int ((least : Nat) : Int)), SV.own false js, y4]) ?_ fun nx hnx => ?_
  · rintro env ⟨fd, js, y4, h1, h2, h3, h4, rfl⟩
    walk_at "wp"
    exact k js fd h2 h3 h4 h1
  refine sFor_abs fun B hB => ?_
  walk_at "wp"
  refine ⟨fd, 6, rfl, hf, rfl, by omega, by omega, fun m fd2 m0 m1 hf2 => ?_⟩
  walk_at "wp"
  refine ⟨by omega, ?_⟩
  obtain ⟨q, hq⟩ : ∃ q : Nat, ((least : Nat) : Int) + m = q := ⟨(((least : Nat) : Int) + m).toNat, by omega⟩
  rw [hq, Int.toNat_natCast]
  refine pFor_inv (fun i env => ∃ (fd js : List D) (y4 : SV), FlOk fd ∧ (∀ j ∈ js, Jz j) ∧ js.length = i ∧ i ≤ q ∧ env = [SV.own true fd, SV.dat (.list (strsD ns)), SV.dat (.int ((least : Nat) : Int)), SV.own false js, y4]) ⟨fd2, [], _, hf2, fun j h => (nomatch h), rfl, by omega, rfl⟩ ?_ ?_
  · rintro i d hd env ⟨fd, js, y4, h1, h2, h3, h4, rfl⟩ K hK
    have hi := (rgD_get hd).1
    subst hB
    walk_at "wp"
    refine ⟨fd, 2, rfl, h1, rfl, by omega, by omega, fun t fd2 t0 t1 hf2 => ⟨fd2, rfl, .int (1 + t), rfl, ?_⟩⟩
    obtain ⟨u, hu⟩ : ∃ u : Nat, 1 + t = u := ⟨(1 + t).toNat, by omega⟩
    rw [hu]
    refine ⟨fd2, ns, u, rfl, hf2, rfl, hnd, hnm, hnl, by omega, hn1, fun es fd3 el end' ez hf3 => ⟨fd3, rfl, srtD es, gSortD_ok (okSort_E fun x hx => (ez x hx).isE), sizeL (by omega), ?_⟩⟩
    refine hK _ ⟨fd3, js ++ [.tuple (srtD es)], _, hf3, fun j hj => ?_, by rw [List.length_append, h3]; rfl, by omega, rfl⟩
    rcases List.mem_append.mp hj with hj | hj
    · exact h2 j hj
    · rw [List.mem_singleton.mp hj]
      exact jz_srt ez end' (by omega)
  · rintro env ⟨fd, js, y4, h1, h2, h3, h4, rfl⟩
    rw [rgD_len] at h3
    exact hnx _ ⟨fd, js, y4, h1, h2, by omega, by omega, rfl⟩
def sp_law_some_deed : PSp := fun fl ds Q => ∃ fd ns, fl = some fd ∧ FlOk fd ∧ ds = [.list (strsD ns)] ∧ ns.Nodup ∧ (∀ z ∈ ns, Nm z) ∧ ns.length ≤ 100 ∧ 2 ≤ ns.length ∧ ∀ (d : D) (ws : List Str) fd2, DkL d ws → FlOk fd2 → Q (.dt d) (some fd2)
abbrev N_law_some_deed : List Str := ["_law_flow_here", "_law_names_here", "_law_way", "_law_ends", "_law_pair", "_law_gone", "_law_come", "_law_k"]
def T_law_some_deed : PS' := (sSeq (sAsg 2 (qCallL sp_law_pick 0 (qAddD (qCons (qC (.int 6)) qNil) [])))
  (sSeq (sIf (qTest (qOp (gEq false) (qVar 2) (qC (.int 4)))) (sRet (qTup (qCons (qC (.str "turn")) (qCons (qCallL sp_law_number 0 (qAddD (qCons (qC (.int 3)) qNil) [])) (qCons (qCallL sp_law_number 0 (qAddD (qCons (qC (.int 3)) qNil) [])) qNil))))) sNil)
  (sSeq (sIf (qTest (qOp (gEq false) (qVar 2) (qC (.int 5)))) (sRet (qOp gAdd (qTup (qCons (qC (.str "change")) qNil)) (qCB gTuple (qCons (qF (fLc (iRg1 (qC (.int 4))) (gN 7) tYes' (qCallL sp_law_number 0 (qAddD (qCons (qC (.int 3)) qNil) [])) [7])) qNil)))) sNil)
  (sSeq (sAsg 3 (qCallL sp_law_some_ends 0 (qAddD (qCons (qVar 1) (qCons (qOp gIx (qF (fLst (qCons (qC (.int 2)) (qCons (qC (.int 2)) (qCons (qC (.int 3)) (qCons (qC (.int 4)) qNil)))))) (qVar 2)) qNil)) [])))
  (sSeq (sAsg 4 (qCB gTuple (qCons (qF (fCB gSortD (qCons (qSl (qVar 3) qPn (qPs (qC (.int 2)))) qNil))) qNil)))
  (sSeq (sIf (qTest (qOp (gEq false) (qVar 2) (qC (.int 0)))) (sRet (qTup (qCons (qTup (qCons (qVar 4) qNil)) (qCons (qTup (qCons (qSl (qVar 4) qPn (qPs (qC (.int 1)))) (qCons (qSl (qVar 4) (qPs (qC (.int 1))) qPn) qNil))) qNil)))) sNil)
  (sSeq (sIf (qTest (qOp (gEq false) (qVar 2) (qC (.int 1)))) (sRet (qTup (qCons (qTup (qCons (qSl (qVar 4) qPn (qPs (qC (.int 1)))) (qCons (qSl (qVar 4) (qPs (qC (.int 1))) qPn) qNil))) (qCons (qTup (qCons (qVar 4) qNil)) qNil)))) sNil)
  (sSeq (sAsg 5 (qCB gTuple (qCons (qF (fCB gSortD (qCons (qF (fLst (qCons (qVar 4) (qCons (qCB gTuple (qCons (qF (fCB gSortD (qCons (qSl (qVar 3) (qPs (qC (.int 2))) qPn) qNil))) qNil)) qNil)))) qNil))) qNil)))
  (sSeq (sAsg 6 (qF (fLst (qCons (qCB gTuple (qCons (qF (fCB gSortD (qCons (qF (fLst (qCons (qOp gIx (qVar 3) (qC (.int 0))) (qCons (qOp gIx (qVar 3) (qC (.int 2))) qNil)))) qNil))) qNil)) (qCons (qCB gTuple (qCons (qF (fCB gSortD (qCons (qOp gAdd (qSl (qVar 3) (qPs (qC (.int 1))) (qPs (qC (.int 2)))) (qSl (qVar 3) (qPs (qC (.int 3))) qPn)) qNil))) qNil)) qNil)))))
  (sRet (qTup (qCons (qVar 5) (qCons (qCB gTuple (qCons (qF (fCB gSortD (qCons (qVar 6) qNil))) qNil)) qNil)))))))))))))
theorem pure_law_some_deed (fl : Option (List D)) (ds : List D) (Q : RV → Option (List D) → Prop) (_ : true = true ↔ fl ≠ none) (h : sp_law_some_deed fl ds Q) : T_law_some_deed (endsOf true Q) (startE true N_law_some_deed fl ds) := by
  obtain ⟨fd, ns, rfl, hf, rfl, hnd, hnm, hnl, hn2, k⟩ := h
  unfold T_law_some_deed
  refine sSeq_abs fun R hR => ?_
  show sSeq _ _ _ [SV.own true _, SV.dat _, SV.un, SV.un, SV.un, SV.un, SV.un, SV.un]
  walk_at "wp"
  refine ⟨fd, 6, rfl, hf, rfl, by omega, by omega, fun m fd2 m0 m1 hf2 => ⟨fd2, rfl, ?_⟩⟩
  subst hR
  refine sSeq_abs fun R hR => ?_
  walk_at "wp"
  by_cases w4 : m = 4
  · subst w4
    rw [if_pos rfl]
    refine ⟨fd2, 3, 1000, rfl, hf2, rfl, .inl ⟨rfl, rfl⟩, fun n1 fd3 l1 hf3 => ⟨fd3, rfl, fd3, 3, 1000, rfl, hf3, rfl, .inl ⟨rfl, rfl⟩, fun n2 fd4 l2 hf4 => ⟨fd4, rfl, sizeL (by decide), ?_⟩⟩⟩
    exact k _ _ fd4 (DkL.line (w := turnW) (ns := [n1, n2]) (.inl ⟨rfl, rfl⟩) fun n hn => by simp at hn; rcases hn with rfl | rfl <;> assumption) hf4
  rw [if_neg w4]
  subst hR
  refine sSeq_abs fun R hR => ?_
  walk_at "wp"
  by_cases w5 : m = 5
  · subst w5
    rw [if_pos rfl]
    refine ⟨sizeL (by decide), by omega, by rw [rgD_len]; decide, ?_⟩
    refine pLc_inv (fun i acc env => ∃ (nn : List Nat) (fd : List D), acc = natsZ nn ∧ nn.length = i ∧ (∀ n ∈ nn, n < 1000) ∧ FlOk fd ∧ env = [SV.own true fd, SV.dat (PyData.list (strsD ns)), SV.dat (PyData.int 5), SV.un, SV.un, SV.un, SV.un, SV.un]) ⟨[], fd2, rfl, rfl, by simp, hf2, rfl⟩ ?_ ?_
    · rintro i d hd acc env ⟨nn, fd, rfl, rfl, hz, hf, rfl⟩ K hK
      obtain ⟨hi, rfl⟩ := rgD_get hd
      walk_at "wp"
      refine ⟨fd, 3, 1000, rfl, hf, rfl, .inl ⟨rfl, rfl⟩, fun n1 fd3 l1 hf3 => ?_⟩
      exact ⟨fd3, rfl, hK _ _ ⟨nn ++ [n1], fd3, by unfold natsZ; rw [List.map_append]; rfl, by simp, fun n hn => by
        rcases List.mem_append.mp hn with hn | hn
        · exact hz n hn
        · rw [List.mem_singleton.mp hn]; exact l1, hf3, rfl⟩⟩
    · rintro acc env ⟨nn, fd, rfl, hl, hz, hf, rfl⟩
      rw [rgD_len] at hl
      refine ⟨sizeL (by unfold natsZ; rw [List.length_map, hl]; decide), _, ⟨_, rfl, rfl⟩, ?_⟩
      exact k _ _ fd (DkL.line (w := changeW) (ns := nn) (.inr ⟨rfl, hl⟩) hz) hf
  rw [if_neg w5]
  subst hR
  refine sSeq_abs fun R hR => ?_
  walk_at "wp"
  refine ⟨sizeL (by decide), ?_⟩
  have wm : ∃ (q : Nat), atI [PyData.int 2, PyData.int 2, PyData.int 3, PyData.int 4] m = some (.int ((q : Nat) : Int)) ∧ ((m = 0 ∧ q = 2) ∨ (m = 1 ∧ q = 2) ∨ (m = 2 ∧ q = 3) ∨ (m = 3 ∧ q = 4)) := by
    have : m = 0 ∨ m = 1 ∨ m = 2 ∨ m = 3 := by omega
    rcases this with rfl | rfl | rfl | rfl
    · exact ⟨2, rfl, by simp⟩
    · exact ⟨2, rfl, by simp⟩
    · exact ⟨3, rfl, by simp⟩
    · exact ⟨4, rfl, by simp⟩
  obtain ⟨q, eq, hq⟩ := wm
  refine ⟨_, eq, fd2, ns, q, rfl, hf2, rfl, hnd, hnm, hnl, by omega, by omega, fun es fd3 el end' ez hf3 => ⟨fd3, rfl, ?_⟩⟩
  subst hR
  refine sSeq_abs fun R hR => ?_
  walk_at "wp"
  have form : ∃ a b l, es = a :: b :: l ∧ ((m = 0 ∨ m = 1) ∧ l = [] ∨ m = 2 ∧ (∃ c, l = [c]) ∨ m = 3 ∧ ∃ c d, l = [c, d]) := by
    rcases hq with ⟨rfl, rfl⟩ | ⟨rfl, rfl⟩ | ⟨rfl, rfl⟩ | ⟨rfl, rfl⟩
    · obtain ⟨a, b, rfl⟩ := len_two el
      exact ⟨a, b, _, rfl, .inl ⟨.inl rfl, rfl⟩⟩
    · obtain ⟨a, b, rfl⟩ := len_two el
      exact ⟨a, b, _, rfl, .inl ⟨.inr rfl, rfl⟩⟩
    · match es, el with
      | [a, b, c], _ => exact ⟨a, b, _, rfl, .inr (.inl ⟨rfl, c, rfl⟩)⟩
    · match es, el with
      | [a, b, c, d], _ => exact ⟨a, b, _, rfl, .inr (.inr ⟨rfl, c, d, rfl⟩)⟩
  obtain ⟨a, b, l, rfl, form⟩ := form
  have ea := ez a (by simp)
  have eb := ez b (by simp)
  have hab : a ≠ b := fun e => (List.nodup_cons.mp end').1 (e ▸ List.mem_cons_self)
  refine ⟨srtD [a, b], by rw [show cutD (a :: b :: l) none (some 2) = [a, b] by rw [show (some (2 : Int)) = some ((2 : Nat) : Int) from rfl, cutD_take (by simp)]; rfl]; exact gSortD_ok (okSort_E fun x hx => by simp at hx; rcases hx with rfl | rfl; exact ea.isE; exact eb.isE), ?_⟩
  obtain ⟨x, y, exy, ⟨w1, d1⟩, w2, d2⟩ := dk_cut ea eb hab
  subst hR
  refine sSeq_abs fun R hR => ?_
  walk_at "wp"
  by_cases w0 : m = 0
  · subst w0
    rw [if_pos rfl]
    rw [exy]
    have c1 : cutD [x, y] none (some 1) = [x] := by rw [show (some (1 : Int)) = some ((1 : Nat) : Int) from rfl, cutD_take (by simp)]; rfl
    have c2 : cutD [x, y] (some 1) none = [y] := by rw [show (some (1 : Int)) = some ((1 : Nat) : Int) from rfl, cutD_drop (by simp)]; rfl
    rw [c1, c2]
    exact ⟨sizeL (by decide), sizeL (by decide), sizeL (by decide), k _ _ fd3 d1 hf3⟩
  rw [if_neg w0]
  subst hR
  refine sSeq_abs fun R hR => ?_
  walk_at "wp"
  by_cases w0 : m = 1
  · subst w0
    rw [if_pos rfl]
    rw [exy]
    have c1 : cutD [x, y] none (some 1) = [x] := by rw [show (some (1 : Int)) = some ((1 : Nat) : Int) from rfl, cutD_take (by simp)]; rfl
    have c2 : cutD [x, y] (some 1) none = [y] := by rw [show (some (1 : Int)) = some ((1 : Nat) : Int) from rfl, cutD_drop (by simp)]; rfl
    rw [c1, c2]
    exact ⟨sizeL (by decide), sizeL (by decide), sizeL (by decide), k _ _ fd3 d2 hf3⟩
  rw [if_neg w0]
  subst hR
  have form : ∃ c r, l = c :: r ∧ r.length ≤ 1 := by
    rcases form with ⟨h, _⟩ | ⟨_, c, rfl⟩ | ⟨_, c, d, rfl⟩
    · omega
    · exact ⟨c, [], rfl, by simp⟩
    · exact ⟨c, [d], rfl, by simp⟩
  obtain ⟨c, r, rfl, hr⟩ := form
  obtain ⟨ws, hd⟩ := dk_two ez end' hr
  refine sSeq_abs fun R hR => ?_
  walk_at "wp"
  have ec := ez c (by simp)
  have er : ∀ x ∈ r, Ez x := fun x hx => ez x (by simp [hx])
  have pE : ∀ {x y : D}, Ez x → Ez y → ∀ z ∈ [x, y], IsE z := fun hx hy z hz => by
    simp at hz
    rcases hz with rfl | rfl
    · exact hx.isE
    · exact hy.isE
  have rE : ∀ {x : D}, Ez x → ∀ z ∈ x :: r, IsE z := fun hx z hz => by
    rcases List.mem_cons.mp hz with rfl | hz
    · exact hx.isE
    · exact (er z hz).isE
  have isr : ∀ {x : D}, Ez x → x ∉ r → IsJ (.tuple (srtD (x :: r))) := fun hx hn => (jz_srt (es := _ :: r) (fun z hz => by
    rcases List.mem_cons.mp hz with rfl | hz
    · exact hx
    · exact er z hz) (List.nodup_cons.mpr ⟨hn, (List.nodup_cons.mp (List.nodup_cons.mp (List.nodup_cons.mp end').2).2).2⟩) (by rw [List.length_cons]; omega)).jt.isJ
  have n1 := (List.nodup_cons.mp end').1
  have n2 := (List.nodup_cons.mp (List.nodup_cons.mp end').2).1
  have n3 := (List.nodup_cons.mp (List.nodup_cons.mp (List.nodup_cons.mp end').2).2).1
  have okJ : ∀ {j k : D}, IsJ j → IsJ k → gSortD [.list [j, k]] = some (srtD [j, k]) := fun hj hk => gSortD_ok (okSort_J fun z hz => by
    simp at hz
    rcases hz with rfl | rfl
    · exact hj
    · exact hk)
  refine ⟨srtD (c :: r), by rw [show cutD (a :: b :: c :: r) (some 2) none = c :: r by rw [show (some (2 : Int)) = some ((2 : Nat) : Int) from rfl, cutD_drop (by simp)]; rfl]; exact gSortD_ok (okSort_E (rE ec)), sizeL (by decide), ?_⟩
  refine ⟨_, okJ (isJ_jt ea.isE eb.isE) (isr ec n3), ?_⟩
  subst hR
  walk_at "wp"
  have c1 : cutD (a :: b :: c :: r) (some 1) (some 2) = [b] := by rw [show (some (1 : Int)) = some ((1 : Nat) : Int) from rfl, show (some (2 : Int)) = some ((2 : Nat) : Int) from rfl, cutD_mid (by decide) (by simp)]; rfl
  have c2 : cutD (a :: b :: c :: r) (some 3) none = r := by rw [show (some (3 : Int)) = some ((3 : Nat) : Int) from rfl, cutD_drop (by simp)]; rfl
  rw [c1, c2]
  exact ⟨sizeL (by decide), srtD [a, c], gSortD_ok (okSort_E (pE ea ec)), sizeL (by simp; omega), srtD (b :: r), gSortD_ok (okSort_E (rE eb)), sizeL (by decide), _, okJ (isJ_jt ea.isE ec.isE) (isr eb fun h => n2 (by simp [h])), sizeL (by decide), k _ ws fd3 hd hf3⟩

end Sw

open PySem PySem.Spec L2 Sw
namespace Sw
def sp_law_some_rings : PSp := fun fl ds Q => ∃ fd, fl = some fd ∧ FlOk fd ∧ ds = [] ∧ ∀ (rs : List (List Nat)) fd2, (∀ r ∈ rs, RingOk' r) → rs.length ≤ 12 → FlOk fd2 → Q (.dt (.tuple (rs.map ringD))) (some fd2)
abbrev N_law_some_rings : List Str := ["_law_flow_here", "_law_found", "_law_k", "_law_at"]
def T_law_some_rings : PS' := (sSeq (sAsgF 1 (fLst (qNil)))
  (sSeq (sFor (iRg1 (qCallL sp_law_many_3 0 (qAddD (qNil) []))) (gN 2) (sDrop (qMO 1 gAppend (qCons (qCB gTuple (qCons (qF (fLc (iRg1 (qOp gAdd (qC (.int 1)) (qCallL sp_law_pick 0 (qAddD (qCons (qC (.int 6)) qNil) [])))) (gN 3) tYes' (qCallL sp_law_number 0 (qAddD (qCons (qC (.int 4)) qNil) [])) [3])) qNil)) qNil))))
  (sRet (qCB gTuple (qCons (qVar 1) qNil)))))
theorem pure_law_some_rings (fl : Option (List D)) (ds : List D) (Q : RV → Option (List D) → Prop) (_ : true = true ↔ fl ≠ none) (h : sp_law_some_rings fl ds Q) : T_law_some_rings (endsOf true Q) (startE true N_law_some_rings fl ds) := by
  obtain ⟨fd, rfl, hf, rfl, k⟩ := h
  show T_law_some_rings _ [SV.own true _, SV.un, SV.un, SV.un]
  unfold T_law_some_rings
  refine sSeq_abs fun R hR => ?_
  walk_at "wp"
  refine ⟨sizeL (by decide), ?_⟩
  subst hR
  refine cut_seq (fun env => ∃ (fd : List D) (rs : List (List Nat)) (y2 : SV), FlOk fd ∧ (∀ r ∈ rs, RingOk' r) ∧ rs.length ≤ 12 ∧ env = [SV.own true fd, SV.own false (rs.map ringD), y2, SV.un]) ?_ fun nx hnx => ?_
  · rintro env ⟨fd, rs, y2, h1, h2, h3, rfl⟩
    walk_at "wp"
    exact k rs fd h2 h3 h1
  refine sFor_abs fun B hB => ?_
  walk_at "wp"
  refine ⟨fd, rfl, hf, rfl, fun q fd2 hq hf2 => ?_⟩
  walk_at "wp"
  refine ⟨by omega, ?_⟩
  rw [Int.toNat_natCast]
  refine pFor_inv (fun i env => ∃ (fd : List D) (rs : List (List Nat)) (y2 : SV), FlOk fd ∧ (∀ r ∈ rs, RingOk' r) ∧ rs.length = i ∧ i ≤ q ∧ env = [SV.own true fd, SV.own false (rs.map ringD), y2, SV.un]) ⟨fd2, [], _, hf2, fun j h => (nomatch h), rfl, by omega, rfl⟩ ?_ ?_
  · rintro i d hd env ⟨fd, rs, y2, h1, h2, h3, h4, rfl⟩ K hK
    have hi := (rgD_get hd).1
    subst hB
    walk_at "wp"
    refine ⟨fd, 6, rfl, h1, rfl, by omega, by omega, fun t fd2 t0 t1 hf2 => ⟨fd2, rfl, .int (1 + t), rfl, ?_⟩⟩
    obtain ⟨u, hu⟩ : ∃ u : Nat, 1 + t = u := ⟨(1 + t).toNat, by omega⟩
    rw [hu]
    refine ⟨_, rfl, by omega, ?_⟩
    refine ⟨by rw [rgD_len]; omega, ?_⟩
    rw [Int.toNat_natCast]
    refine pLc_inv (fun i acc env => ∃ (fd : List D) (nn : List Nat), acc = natsZ nn ∧ nn.length = i ∧ (∀ n ∈ nn, n < 10000) ∧ FlOk fd ∧ env = [SV.own true fd, SV.own false (rs.map ringD), SV.dat d, SV.un]) ⟨fd2, [], rfl, rfl, by simp, hf2, rfl⟩ ?_ ?_
    · rintro i d' hd acc env ⟨fd, nn, rfl, rfl, hz, hf, rfl⟩ K2 hK2
      obtain ⟨hi, rfl⟩ := rgD_get hd
      walk_at "wp"
      refine ⟨fd, 4, 10000, rfl, hf, rfl, .inr ⟨rfl, rfl⟩, fun n1 fd3 l1 hf3 => ⟨fd3, rfl, hK2 _ _ ⟨fd3, nn ++ [n1], by unfold natsZ; rw [List.map_append]; rfl, by simp, fun n hn => ?_, hf3, rfl⟩⟩⟩
      rcases List.mem_append.mp hn with hn | hn
      · exact hz n hn
      · rw [List.mem_singleton.mp hn]; exact l1
    · rintro acc env ⟨fd3, nn, rfl, hl, hz, hf3, rfl⟩
      rw [rgD_len] at hl
      refine ⟨_, _, rfl, sizeL (by rw [List.length_map]; omega), hK _ ⟨fd3, rs ++ [nn], _, hf3, fun r hr => ?_, by rw [List.length_append, h3]; rfl, by omega, by rw [List.map_append]; rfl⟩⟩
      rcases List.mem_append.mp hr with hr | hr
      · exact h2 r hr
      · rw [List.mem_singleton.mp hr]
        exact ⟨fun e => by rw [e] at hl; simp at hl; omega, by omega, hz⟩
  · rintro env ⟨fd, rs, y2, h1, h2, h3, h4, rfl⟩
    rw [rgD_len] at h3
    exact hnx _ ⟨fd, rs, y2, h1, h2, by omega, rfl⟩
def sp_law_some_parts : PSp := fun fl ds Q => ∃ fd b ns, fl = some fd ∧ FlOk fd ∧ ds = [.str b, .list (strsD ns)] ∧ BookW b ∧ ns.Nodup ∧ (∀ z ∈ ns, Nm z) ∧ ns.length ≤ 100 ∧ 2 ≤ ns.length ∧ ∀ (d : D) (pl : List Str) fd2, PpL b d pl → FlOk fd2 → Q (.dt d) (some fd2)
abbrev N_law_some_parts : List Str := ["_law_flow_here", "_law_book", "_law_names_here", "_law_knots", "_law_parts", "_law_k", "_law_kind"]
def T_law_some_parts : PS' := (sSeq (sIf (qTest (qOp (gEq false) (qVar 1) (qC (.str "one")))) (sRet (qTup (qCons (qCallL sp_law_some_joints 0 (qAddD (qCons (qVar 2) (qCons (qC (.int 0)) qNil)) [])) (qCons (qCallL sp_law_some_joints 0 (qAddD (qCons (qVar 2) (qCons (qC (.int 0)) qNil)) [])) qNil)))) sNil)
  (sSeq (sIf (qTest (qOp (gEq false) (qVar 1) (qC (.str "changes")))) (sRet (qTup (qCons (qCallL sp_law_some_rings 0 (qAddD (qNil) [])) qNil))) sNil)
  (sSeq (sIf (qTest (qOp (gEq false) (qVar 1) (qC (.str "turns")))) (sSeq (sAsg 3 (qF (fLcR (iRg1 (qCallL sp_law_many_3 0 (qAddD (qNil) []))) (gN 5) tYes' (qTup (qCons (qCallL sp_law_number 0 (qAddD (qCons (qC (.int 4)) qNil) [])) (qCons (qCallL sp_law_number 0 (qAddD (qCons (qC (.int 4)) qNil) [])) qNil))) [5])))
  (sRet (qTup (qCons (qCallL sp_law_some_rings 0 (qAddD (qNil) [])) (qCons (qCB gTuple (qCons (qVar 3) qNil)) (qCons (qCallL sp_law_number 0 (qAddD (qCons (qC (.int 4)) qNil) [])) qNil)))))) sNil)
  (sSeq (sAsgF 4 (fLst (qNil)))
  (sSeq (sFor (iRg1 (qCallL sp_law_many_3 0 (qAddD (qNil) []))) (gN 5) (sSeq (sAsg 6 (qOp gIx (qF (fLst (qCons (qC (.str "ring")) (qCons (qC (.str "odd")) (qCons (qC (.str "ours")) (qCons (qC (.str "theirs")) qNil)))))) (qCallL sp_law_pick 0 (qAddD (qCons (qC (.int 4)) qNil) []))))
  (sDrop (qMO 4 gAppend (qCons (qTup (qCons (qVar 6) (qCons (qCallL sp_law_some_joints 0 (qAddD (qCons (qVar 2) (qCons (qC (.int 1)) qNil)) [])) (qCons (qCallL sp_law_some_joints 0 (qAddD (qCons (qVar 2) (qCons (qC (.int 1)) qNil)) [])) qNil)))) qNil)))))
  (sRet (qCB gTuple (qCons (qVar 4) qNil))))))))
theorem pure_law_some_parts (fl : Option (List D)) (ds : List D) (Q : RV → Option (List D) → Prop) (_ : true = true ↔ fl ≠ none) (h : sp_law_some_parts fl ds Q) : T_law_some_parts (endsOf true Q) (startE true N_law_some_parts fl ds) := by
  obtain ⟨fd, b, ns, rfl, hf, rfl, hb, hnd, hnm, hnl, hn2, k⟩ := h
  unfold T_law_some_parts
  refine sSeq_abs fun R hR => ?_
  show sSeq _ _ _ [SV.own true _, SV.dat _, SV.dat _, SV.un, SV.un, SV.un, SV.un]
  walk_at "wp"
  by_cases wb : b = Str.ofString "one"
  · subst wb
    rw [if_pos rfl]
    refine ⟨fd, ns, 0, rfl, hf, rfl, hnd, hnm, hnl, by omega, by omega, fun cs fd2 hc _ cl hf2 => ⟨fd2, rfl, fd2, ns, 0, rfl, hf2, rfl, hnd, hnm, hnl, by omega, by omega, fun js fd3 hj _ jl hf3 => ⟨fd3, rfl, sizeL (by decide), ?_⟩⟩⟩
    exact k _ _ fd3 (PpL.one hc hj (by omega) (by omega)) hf3
  rw [if_neg wb]
  subst hR
  refine sSeq_abs fun R hR => ?_
  walk_at "wp"
  by_cases wc : b = Str.ofString "changes"
  · subst wc
    rw [if_pos rfl]
    refine ⟨fd, rfl, hf, rfl, fun rs fd2 hr rl hf2 => ⟨fd2, rfl, sizeL (by decide), ?_⟩⟩
    exact k _ _ fd2 (PpL.changes hr (by omega)) hf2
  rw [if_neg wc]
  subst hR
  refine sSeq_abs fun R hR => ?_
  by_cases wt : b = Str.ofString "turns"
  · subst wt
    walk_at "wp"
    refine ⟨fd, rfl, hf, rfl, fun q fd2 hq hf2 => ⟨fd2, rfl, _, rfl, by omega, by rw [rgD_len]; omega, ?_⟩⟩
    rw [Int.toNat_natCast]
    refine pLc_inv (fun i acc env => ∃ (fd : List D) (ks : List (Nat × Nat)), acc = ks.map knotD ∧ ks.length = i ∧ (∀ k ∈ ks, k.1 < 10000 ∧ k.2 < 10000) ∧ FlOk fd ∧ env = [SV.own true fd, SV.dat (PyData.str (Str.ofString "turns")), SV.dat (PyData.list (strsD ns)), SV.un, SV.un, SV.un, SV.un]) ⟨fd2, [], rfl, rfl, by simp, hf2, rfl⟩ ?_ ?_
    · rintro i d' hd acc env ⟨fd, ks, rfl, rfl, hz, hf, rfl⟩ K2 hK2
      obtain ⟨hi, rfl⟩ := rgD_get hd
      walk_at "wp"
      refine ⟨fd, 4, 10000, rfl, hf, rfl, .inr ⟨rfl, rfl⟩, fun n1 fd3 l1 hf3 => ⟨fd3, rfl, fd3, 4, 10000, rfl, hf3, rfl, .inr ⟨rfl, rfl⟩, fun n2 fd4 l2 hf4 => ⟨fd4, rfl, sizeL (by decide), hK2 _ _ ⟨fd4, ks ++ [(n1, n2)], by rw [List.map_append]; rfl, by simp, fun n hn => ?_, hf4, rfl⟩⟩⟩⟩
      rcases List.mem_append.mp hn with hn | hn
      · exact hz n hn
      · rw [List.mem_singleton.mp hn]; exact ⟨l1, l2⟩
    · rintro acc env ⟨fd3, ks, rfl, hl, hz, hf3, rfl⟩
      rw [rgD_len] at hl
      refine ⟨by show 3 < 7; decide, ⟨_, _, rfl⟩, _, _, rfl, fd3, rfl, hf3, rfl, fun rs fd4 hr rl hf4 => ⟨fd4, rfl, ⟨_, rfl⟩, _, rfl, _, rfl, ⟨_, _, rfl⟩, _, _, rfl, fd4, 4, 10000, rfl, hf4, rfl, .inr ⟨rfl, rfl⟩, fun n fd5 hn hf5 => ⟨fd5, rfl, sizeL (by decide), _, ⟨_, rfl, rfl⟩, ?_⟩⟩⟩
      exact k _ _ fd5 (PpL.turns hr (by omega) hz (by omega) hn) hf5
  have h2 : b = twoW ∨ b = homeW := by
    rcases hb with h | h | h | h | h
    · exact absurd h wb
    · exact .inl h
    · exact .inr h
    · exact absurd h wt
    · exact absurd h wc
  walk_at "wp"
  rw [if_neg wt]
  subst hR
  refine sSeq_abs fun R hR => ?_
  walk_at "wp"
  refine ⟨sizeL (by decide), ?_⟩
  subst hR
  refine cut_seq (fun env => ∃ (fd : List D) (ps : List Part) (y5 y6 : SV), FlOk fd ∧ (∀ p ∈ ps, PartOk p) ∧ ps.length ≤ 12 ∧ env = [SV.own true fd, SV.dat (.str b), SV.dat (.list (strsD ns)), SV.un, SV.own false (ps.map partDz), y5, y6]) ?_ fun nx hnx => ?_
  · rintro env ⟨fd, ps, y5, y6, h3, h4, h5, rfl⟩
    walk_at "wp"
    exact k _ _ fd (PpL.two h2 h4 (by omega)) h3
  refine sFor_abs fun B hB => ?_
  walk_at "wp"
  refine ⟨fd, rfl, hf, rfl, fun q fd2 hq hf2 => ?_⟩
  walk_at "wp"
  refine ⟨by omega, ?_⟩
  rw [Int.toNat_natCast]
  refine pFor_inv (fun i env => ∃ (fd : List D) (ps : List Part) (y5 y6 : SV), FlOk fd ∧ (∀ p ∈ ps, PartOk p) ∧ ps.length = i ∧ i ≤ q ∧ env = [SV.own true fd, SV.dat (.str b), SV.dat (.list (strsD ns)), SV.un, SV.own false (ps.map partDz), y5, y6]) ⟨fd2, [], _, _, hf2, fun j h => (nomatch h), rfl, by omega, rfl⟩ ?_ ?_
  · rintro i d hd env ⟨fd, ps, y5, y6, h3, h4, h5, h6, rfl⟩ K hK
    have hi := (rgD_get hd).1
    subst hB
    walk_at "wp"
    refine ⟨sizeL (by decide), fd, 4, rfl, h3, rfl, by omega, by omega, fun m fd2 m0 m1 hf2 => ⟨fd2, rfl, ?_⟩⟩
    have wm : ∃ w, gIx (.list [.str (Str.ofString "ring"), .str (Str.ofString "odd"), .str (Str.ofString "ours"), .str (Str.ofString "theirs")]) (.int m) = some (.str w) ∧ KindW w := by
      have : m = 0 ∨ m = 1 ∨ m = 2 ∨ m = 3 := by omega
      rcases this with rfl | rfl | rfl | rfl
      · exact ⟨_, rfl, .inl rfl⟩
      · exact ⟨_, rfl, .inr (.inl rfl)⟩
      · exact ⟨_, rfl, .inr (.inr (.inl rfl))⟩
      · exact ⟨_, rfl, .inr (.inr (.inr rfl))⟩
    obtain ⟨w, ew, hw⟩ := wm
    refine ⟨_, ew, fd2, ns, 1, rfl, hf2, rfl, hnd, hnm, hnl, by omega, by omega, fun os fd3 o1 o2 o3 hf3 => ⟨fd3, rfl, fd3, ns, 1, rfl, hf3, rfl, hnd, hnm, hnl, by omega, by omega, fun ts fd4 t1 t2 t3 hf4 => ⟨fd4, rfl, sizeL (by decide), sizeL (by rw [List.length_map]; omega), ?_⟩⟩⟩
    refine hK _ ⟨fd4, ps ++ [(w, os, ts)], _, _, hf4, fun p hp => ?_, by rw [List.length_append, h5]; rfl, by omega, by rw [List.map_append]; rfl⟩
    rcases List.mem_append.mp hp with hp | hp
    · exact h4 p hp
    · rw [List.mem_singleton.mp hp]
      exact ⟨hw, o1, t1, fun e => by have : os.length = 0 := congrArg List.length e; omega, fun e => by have : ts.length = 0 := congrArg List.length e; omega, show os.length ≤ 100 by omega, show ts.length ≤ 100 by omega⟩
  · rintro env ⟨fd, ps, y5, y6, h3, h4, h5, h6, rfl⟩
    rw [rgD_len] at h5
    exact hnx _ ⟨fd, ps, y5, y6, h3, h4, by omega, rfl⟩
def sp_law_some_paper : PSp := fun fl ds Q => ∃ fd b, fl = some fd ∧ FlOk fd ∧ ds = [.str b] ∧ BookW b ∧ ∀ (d : D) (pl : List Str) (t : Nat) (dd : List D) (dl : List Str) fd2, PpL b d pl → DkLs dd dl → t < 10000 → dl.length ≤ 100 → FlOk fd2 → Q (.dt (.tuple [d, .int (t : Nat), .tuple dd])) (some fd2)
abbrev N_law_some_paper : List Str := ["_law_flow_here", "_law_book", "_law_names_here", "_law_parts", "_law_total", "_law_k"]
def T_law_some_paper : PS' := (sSeq (sAsg 2 (qCallL sp_law_names 0 (qAddD (qCons (qOp gAdd (qC (.int 2)) (qCallL sp_law_pick 0 (qAddD (qCons (qC (.int 5)) qNil) []))) qNil) [])))
  (sSeq (sAsg 3 (qCallL sp_law_some_parts 0 (qAddD (qCons (qVar 1) (qCons (qVar 2) qNil)) [])))
  (sSeq (sAsg 4 (qCallL sp_law_number 0 (qAddD (qCons (qC (.int 4)) qNil) [])))
  (sRet (qTup (qCons (qVar 3) (qCons (qVar 4) (qCons (qCB gTuple (qCons (qF (fLc (iRg1 (qCallL sp_law_many_3 0 (qAddD (qNil) []))) (gN 5) tYes' (qCallL sp_law_some_deed 0 (qAddD (qCons (qVar 2) qNil) [])) [5])) qNil)) qNil))))))))
theorem pure_law_some_paper (fl : Option (List D)) (ds : List D) (Q : RV → Option (List D) → Prop) (_ : true = true ↔ fl ≠ none) (h : sp_law_some_paper fl ds Q) : T_law_some_paper (endsOf true Q) (startE true N_law_some_paper fl ds) := by
  obtain ⟨fd, b, rfl, hf, rfl, hb, k⟩ := h
  unfold T_law_some_paper
  refine sSeq_abs fun R hR => ?_
  show sSeq _ _ _ [SV.own true _, SV.dat _, SV.un, SV.un, SV.un, SV.un]
  walk_at "wp"
  refine ⟨fd, 5, rfl, hf, rfl, by omega, by omega, fun m fd2 m0 m1 hf2 => ⟨fd2, rfl, .int (2 + m), rfl, ?_⟩⟩
  refine ⟨fd2, 2 + m, rfl, hf2, rfl, by omega, by omega, fun ns fd3 hnd hnm hl hf3 => ⟨fd3, rfl, ?_⟩⟩
  subst hR
  refine sSeq_abs fun R hR => ?_
  walk_at "wp"
  refine ⟨fd3, b, ns, rfl, hf3, rfl, hb, hnd, hnm, by omega, by omega, fun d pl fd4 hp hf4 => ⟨fd4, rfl, ?_⟩⟩
  subst hR
  refine sSeq_abs fun R hR => ?_
  walk_at "wp"
  refine ⟨fd4, 4, 10000, rfl, hf4, rfl, .inr ⟨rfl, rfl⟩, fun t fd5 ht hf5 => ⟨fd5, rfl, ?_⟩⟩
  subst hR
  walk_at "wp"
  refine ⟨fd5, rfl, hf5, rfl, fun q fd6 hq hf6 => ?_⟩
  walk_at "wp"
  refine ⟨by omega, by rw [rgD_len]; omega, ?_⟩
  rw [Int.toNat_natCast]
  refine pLc_inv (fun i acc env => ∃ (fd : List D) (es : List (D × List Str)), acc = es.map (·.1) ∧ es.length = i ∧ (∀ p ∈ es, DkL p.1 p.2) ∧ FlOk fd ∧ env = [SV.own true fd, SV.dat (PyData.str b), SV.dat (PyData.list (strsD ns)), SV.dat d, SV.dat (PyData.int t), SV.un]) ⟨fd6, [], rfl, rfl, by simp, hf6, rfl⟩ ?_ ?_
  · rintro i d' hd acc env ⟨fd, es, rfl, rfl, hz, hf, rfl⟩ K2 hK2
    obtain ⟨hi, rfl⟩ := rgD_get hd
    walk_at "wp"
    refine ⟨fd, ns, rfl, hf, rfl, hnd, hnm, by omega, by omega, fun d1 ws fd3 l1 hf3 => ⟨fd3, rfl, hK2 _ _ ⟨fd3, es ++ [(d1, ws)], by rw [List.map_append]; rfl, by simp, fun p hp => ?_, hf3, rfl⟩⟩⟩
    rcases List.mem_append.mp hp with hp | hp
    · exact hz p hp
    · rw [List.mem_singleton.mp hp]; exact l1
  · rintro acc env ⟨fd7, es, rfl, hl, hz, hf7, rfl⟩
    rw [rgD_len] at hl
    exact ⟨_, _, rfl, sizeL (by show 3 ≤ 16777216; decide), _, ⟨_, rfl, rfl⟩, k d pl t _ _ fd7 hp ⟨es, hz, rfl, rfl⟩ ht (by rw [List.length_map]; omega) hf7⟩

end Sw

open PySem PySem.Spec L2 Sw
namespace Sw
/-! ### the law of k65 -/
theorem okA_J65 {x : D} (n : Nat) (h : IsJ x) : okA (n + 2) x := by
  obtain ⟨es, rfl, he, _, hl⟩ := h
  exact ⟨by omega, fun y hy => okA_E (he y hy) n⟩
theorem okA_int (n : Nat) (i : Int) : okA n (.int i) := by cases n <;> trivial
theorem okA_jz {j : D} (h : Jz j) (n : Nat) : okA (n + 2) j := okA_J65 n h.jt.isJ
theorem okA_jzs {js : List D} (h : ∀ j ∈ js, Jz j) (hl : js.length ≤ 100000) (n : Nat) : okA (n + 3) (.tuple js) := ⟨hl, fun j hj => okA_jz (h j hj) n⟩
theorem okA_natsZ {ns : List Nat} (hl : ns.length ≤ 100000) (n : Nat) : okA (n + 1) (.tuple (natsZ ns)) := ⟨by unfold natsZ; rw [List.length_map]; exact hl, fun x hx => by
  obtain ⟨i, _, rfl⟩ := List.mem_map.mp hx
  exact okA_int _ _⟩
theorem okA_two {n : Nat} {x y : D} (hx : okA n x) (hy : okA n y) : okA (n + 1) (.tuple [x, y]) := ⟨by simp, fun z hz => by
  rcases List.mem_cons.mp hz with rfl | hz
  · exact hx
  · rw [List.mem_singleton.mp hz]; exact hy⟩
theorem okA_three {n : Nat} {x y v : D} (hx : okA n x) (hy : okA n y) (hv : okA n v) : okA (n + 1) (.tuple [x, y, v]) := ⟨by simp, fun z hz => by
  rcases List.mem_cons.mp hz with rfl | hz
  · exact hx
  rcases List.mem_cons.mp hz with rfl | hz
  · exact hy
  · rw [List.mem_singleton.mp hz]; exact hv⟩
theorem okA_rings {rs : List (List Nat)} (h : ∀ r ∈ rs, RingOk' r) (hl : rs.length ≤ 100) (n : Nat) : okA (n + 2) (.tuple (rs.map ringD)) := ⟨by rw [List.length_map]; omega, fun x hx => by
  obtain ⟨r, hr, rfl⟩ := List.mem_map.mp hx
  exact okA_natsZ (by have := (h r hr).len; omega) n⟩
theorem okA_PpL {b : Str} {d : D} {ls : List Str} (h : PpL b d ls) (n : Nat) : okA (n + 5) d := by
  cases h with
  | one hc hj cl jl => exact okA_two (okA_jzs hc (by omega) _) (okA_jzs hj (by omega) _)
  | two hb hp pl =>
    refine ⟨by rw [List.length_map]; omega, fun x hx => ?_⟩
    obtain ⟨p, hm, rfl⟩ := List.mem_map.mp hx
    have := hp p hm
    exact okA_three (okA_str _ _) (okA_jzs this.o (by have := this.ol; omega) _) (okA_jzs this.t (by have := this.tl; omega) _)
  | changes hr rl => exact ⟨by simp, fun x hx => by rw [List.mem_singleton.mp hx]; exact okA_rings hr rl _⟩
  | turns hr rl hk kl hn =>
    refine okA_three (okA_rings hr rl _) ⟨by rw [List.length_map]; omega, fun x hx => ?_⟩ (okA_int _ _)
    obtain ⟨p, hm, rfl⟩ := List.mem_map.mp hx
    exact okA_two (okA_int _ _) (okA_int _ _)
theorem okA_DkL {d : D} {ws : List Str} (h : DkL d ws) (n : Nat) : okA (n + 4) d := by
  cases h with
  | deed h hg hc =>
    obtain ⟨_, _, l1, l2⟩ := h.g0
    exact okA_two (okA_jzs hg (by omega) _) (okA_jzs hc (by omega) _)
  | line hw hn =>
    have := hw.fact.2.1
    refine ⟨by unfold natsZ; simp; omega, fun x hx => ?_⟩
    rcases List.mem_cons.mp hx with rfl | hx
    · exact okA_str _ _
    · obtain ⟨i, _, rfl⟩ := List.mem_map.mp hx
      exact okA_int _ _
theorem okA_paper {b : Str} {d : D} {pl : List Str} {t : Nat} {dd : List D} {dl : List Str} (hp : PpL b d pl) (hd : DkLs dd dl) (hl : dl.length ≤ 100) : okA 11 (.tuple [.str b, .tuple [d, .int (t : Nat), .tuple dd]]) := by
  refine okA_two (okA_str _ _) (okA_three (okA_PpL hp 4) (okA_int _ _) ?_)
  obtain ⟨es, he, rfl, rfl⟩ := hd
  rw [List.length_map] at hl
  refine ⟨by rw [List.length_map]; omega, fun x hx => ?_⟩
  obtain ⟨p, hm, rfl⟩ := List.mem_map.mp hx
  exact okA_DkL (he p hm) 4
def sp_law_holds_3 : PSp := fun fl ds Q => fl = none ∧ ∃ b d pl t dd dl, ds = [.str b, .tuple [d, .int (t : Nat), .tuple dd]] ∧ PpL b d pl ∧ DkLs dd dl ∧ t < 10000 ∧ dl.length ≤ 100 ∧ Q (.dt (.bool true)) none
/-! law_holds_3 level 14 -/
abbrev N_law_holds_3 : List Str := ["_law_book", "_law_told", "_law_text_here", "_law_found", "_law_again"]
def T_law_holds_3 : PS' := (sSeq (sAsg 2 (qCall sp_law_text (qAddD (qCons (qVar 0) (qCons (qVar 1) qNil)) [])))
  (sSeq (sAsg 3 (qCall sp_read_paper (qAddD (qCons (qVar 2) qNil) [])))
  (sSeq (sIf (tNot' (qTest (qCall sp_law_alike (qAddD (qCons (qVar 3) (qCons (qTup (qCons (qVar 0) (qCons (qVar 1) qNil))) qNil)) [])))) (sRet (qC (.bool false))) sNil)
  (sSeq (sAsg 4 (qCall sp_show_paper (qAddD (qCons (qOp gIx (qVar 3) (qC (.int 0))) (qCons (qOp gIx (qVar 3) (qC (.int 1))) qNil)) [])))
  (sRet (qAnd (qIsi .str (qVar 4)) (qAnd (qOp (gEq false) (qVar 4) (qVar 2)) (qCall sp_law_alike (qAddD (qCons (qVar 3) (qCons (qTup (qCons (qVar 0) (qCons (qVar 1) qNil))) qNil)) [])))))))))
theorem pure_law_holds_3 (fl : Option (List D)) (ds : List D) (Q : RV → Option (List D) → Prop) (_ : false = true ↔ fl ≠ none) (h : sp_law_holds_3 fl ds Q) : T_law_holds_3 (endsOf false Q) (startE false N_law_holds_3 fl ds) := by
  obtain ⟨rfl, b, d, pl, t, dd, dl, rfl, hp, hd, ht, hl, k⟩ := h
  have ok := okA_paper (t := t) hp hd hl
  show T_law_holds_3 _ [SV.dat _, SV.dat _, SV.un, SV.un, SV.un]
  unfold T_law_holds_3
  refine sSeq_abs fun R hR => ?_
  walk_at "wp"
  refine ⟨rfl, b, d, pl, t, dd, dl, rfl, hp, hd, ht, hl, ?_⟩
  subst hR
  refine sSeq_abs fun R hR => ?_
  walk_at "wp"
  refine ⟨rfl, b, d, pl, t, dd, dl, rfl, hp, hd, ht, hl, ?_⟩
  subst hR
  refine sSeq_abs fun R hR => ?_
  walk_at "wp"
  refine ⟨sizeL (by decide), rfl, _, rfl, ok, true, rfl, ?_⟩
  rw [if_neg (by decide)]
  subst hR
  refine sSeq_abs fun R hR => ?_
  walk_at "wp"
  refine ⟨rfl, b, d, pl, t, dd, dl, rfl, hp, hd, ht, hl, ?_⟩
  subst hR
  walk_at "wp"
  exact ⟨sizeL (by decide), rfl, _, rfl, ok, k⟩
/-! law_65 level 15 -/
abbrev N_law_65 : List Str := ["_law_script", "_law_flow_here", "_law_books", "_law_book", "_law_told", "_law_other"]
def T_law_65 : PS' := (sSeq (sAsg 2 (qF (fLst (qCons (qC (.str "one")) (qCons (qC (.str "two")) (qCons (qC (.str "home")) (qCons (qC (.str "turns")) (qCons (qC (.str "changes")) qNil))))))))
  (sSeq (sAsg 3 (qOp gIx (qVar 2) (qCallL sp_law_pick 1 (qAddD (qCons (qC (.int 5)) qNil) []))))
  (sSeq (sAsg 4 (qCallL sp_law_some_paper 1 (qAddD (qCons (qVar 3) qNil) [])))
  (sSeq (sIf (tNot' (qTest (qCall sp_law_holds_3 (qAddD (qCons (qVar 3) (qCons (qVar 4) qNil)) [])))) (sRet (qC (.bool false))) sNil)
  (sSeq (sAsg 5 (qOp gIx (qVar 2) (qCallL sp_law_pick 1 (qAddD (qCons (qC (.int 5)) qNil) []))))
  (sRet (qAnd (qCall sp_law_holds_3 (qAddD (qCons (qVar 5) (qCons (qCallL sp_law_some_paper 1 (qAddD (qCons (qVar 5) qNil) [])) qNil)) [])) (qCall sp_law_holds_3 (qAddD (qCons (qVar 3) (qCons (qVar 4) qNil)) [])))))))))
theorem pure_law_65 (ns : List Int) (_ : ns.length ≤ 63) : T_law_65 (endsOf false fun rv _ => rv = .dt (.bool true)) (SV.un :: SV.own false (flow0 ns) :: List.replicate (N_law_65.length - 2) SV.un) := by
  have hf := flOk0 ns
  generalize flow0 ns = fd at hf
  show T_law_65 _ [SV.un, SV.own false fd, SV.un, SV.un, SV.un, SV.un]
  unfold T_law_65
  refine sSeq_abs fun R hR => ?_
  walk_at "wp"
  refine ⟨sizeL (by decide), ?_⟩
  subst hR
  have book : ∀ m : Int, 0 ≤ m → m < 5 → ∃ b, gIx (.list [.str (Str.ofString "one"), .str (Str.ofString "two"), .str (Str.ofString "home"), .str (Str.ofString "turns"), .str (Str.ofString "changes")]) (.int m) = some (.str b) ∧ BookW b := fun m m0 m1 => by
    have : m = 0 ∨ m = 1 ∨ m = 2 ∨ m = 3 ∨ m = 4 := by omega
    rcases this with rfl | rfl | rfl | rfl | rfl
    · exact ⟨_, rfl, .inl rfl⟩
    · exact ⟨_, rfl, .inr (.inl rfl)⟩
    · exact ⟨_, rfl, .inr (.inr (.inl rfl))⟩
    · exact ⟨_, rfl, .inr (.inr (.inr (.inl rfl)))⟩
    · exact ⟨_, rfl, .inr (.inr (.inr (.inr rfl)))⟩
  refine sSeq_abs fun R hR => ?_
  walk_at "wp"
  refine ⟨fd, 5, rfl, hf, rfl, by omega, by omega, fun m fd2 m0 m1 hf2 => ⟨fd2, rfl, ?_⟩⟩
  obtain ⟨b, eb, hb⟩ := book m m0 m1
  refine ⟨_, eb, ?_⟩
  subst hR
  refine sSeq_abs fun R hR => ?_
  walk_at "wp"
  refine ⟨fd2, b, rfl, hf2, rfl, hb, fun d pl t dd dl fd3 hp hd ht hl hf3 => ⟨fd3, rfl, ?_⟩⟩
  subst hR
  refine sSeq_abs fun R hR => ?_
  walk_at "wp"
  refine ⟨rfl, b, d, pl, t, dd, dl, rfl, hp, hd, ht, hl, true, rfl, ?_⟩
  rw [if_neg (by decide)]
  subst hR
  refine sSeq_abs fun R hR => ?_
  walk_at "wp"
  refine ⟨fd3, 5, rfl, hf3, rfl, by omega, by omega, fun m fd4 m0 m1 hf4 => ⟨fd4, rfl, ?_⟩⟩
  obtain ⟨b', eb', hb'⟩ := book m m0 m1
  refine ⟨_, eb', ?_⟩
  subst hR
  walk_at "wp"
  refine ⟨fd4, b', rfl, hf4, rfl, hb', fun d' pl' t' dd' dl' fd5 hp' hd' ht' hl' hf5 => ⟨fd5, rfl, ?_⟩⟩
  refine ⟨rfl, b', d', pl', t', dd', dl', rfl, hp', hd', ht', hl', ?_⟩
  refine ⟨true, rfl, ?_⟩
  rw [if_pos rfl]
  exact ⟨rfl, b, d, pl, t, dd, dl, rfl, hp, hd, ht, hl, rfl⟩

end Sw

set_option maxHeartbeats 0
namespace SwLaw
open PySem PySem.Spec PyProof.Rows L2 Sw
section
variable {P : Program} {w : World} {K : PySem.W.Frag} {mg : Str → Option Value} {base : Heap} {f : Addr} {fd : FuncData}
abbrev M_is_name : List Str := ["thing", "sign"]
theorem sc_is_name : FnScope M_is_name ["thing"] (defScope s_is_name) := ⟨rfl, rfl, rfl, by decide +kernel, rfl, by decide +kernel, by decide +kernel⟩
theorem len_is_name : ∀ fl ds Q, sp_is_name fl ds Q → ds.length + (if false = true then 1 else 0) = 1 := by
  intro fl ds Q h
  unfold sp_is_name at h
  grind
theorem ok_is_name (bt : Bt mg) {t_LETTERS : Tok} (c_LETTERS : mg "LETTERS" = some (.str "abcdefghijklmnopqrstuvwxyz" t_LETTERS)) (F : FunD K "is_name" "is_name" (defArgs s_is_name) (defBody s_is_name) (defScope s_is_name) [] [] f fd) : FnOk P w K mg base CX0 1 f fd ["thing"] (spOf ⟨K, P, w⟩ false sp_is_name) :=
  defD_ok false F sc_is_name len_is_name (by decide) fun cdv A outer s H E hr => ⟨T_is_name, (s_cons (s_if (EW.et (w_or (t_not (t_val (q_isi .str (qv 0) (by rfl) (bt "isinstance" (by decide)) (by rfl) (bt "str" (by decide)) (by decide +kernel)))) (w_or (t_cmp op_ltA l_lt (q_callB l_len call_len (by rfl) (bt "len" (by decide)) (by decide +kernel) (qa_cons (qv 0) qa_nil)) (q_int) (nomark _)) (w_or1 (t_cmp op_gt l_cmp (q_callB l_len call_len (by rfl) (bt "len" (by decide)) (by decide +kernel) (qa_cons (qv 0) qa_nil)) (q_int) (nomark _)))))) (s_one (s_ret (q_bl))) s_nil)
    (s_one (s_ret (q_callB l_all (cr_all rfl) (by rfl) (bt "all" (by decide)) (by decide +kernel) (qa_cons (EF.ev (f_lc (own := [("sign", 1)]) (S := [1]) rfl sc_is_name.nd (blkOk_by (N := M_is_name) (sc := defScope s_is_name) (by decide +kernel)) (i_any (qv 0)) (fun _ _ _ _ _ => g_name sc_is_name.nd rfl (by first | exact Or.inl rfl | exact Or.inr rfl)) (fun _ _ _ _ _ => ts_nil) (fun _ _ _ _ _ => q_cmp (op_inA hr.units) l_in (qv 1) (q_gstr (by rfl) c_LETTERS) (by rfl)))) qa_nil))))), pure_ren rfl pure_is_name⟩
theorem cal_is_name (bt : Bt mg) {t_LETTERS : Tok} (c_LETTERS : mg "LETTERS" = some (.str "abcdefghijklmnopqrstuvwxyz" t_LETTERS)) (hm : mg "is_name" = some (.ref f)) (F : FunD K "is_name" "is_name" (defArgs s_is_name) (defBody s_is_name) (defScope s_is_name) [] [] f fd) : Cal P w K mg base 1 "is_name" false ["thing"] [] sp_is_name := ⟨f, fd, [], [], ok_is_name bt c_LETTERS F, hm, F.kp, F.bindsN (ps := ["thing"]) fun _ _ _ _ _ _ us hl => match us, hl with | [_], _ => rfl, .nil, consts_nil⟩
abbrev M_is_end : List Str := ["thing"]
theorem sc_is_end : FnScope M_is_end ["thing"] (defScope s_is_end) := ⟨rfl, rfl, rfl, by decide +kernel, rfl, by decide +kernel, by decide +kernel⟩
theorem len_is_end : ∀ fl ds Q, sp_is_end fl ds Q → ds.length + (if false = true then 1 else 0) = 1 := by
  intro fl ds Q h
  unfold sp_is_end at h
  grind
theorem ok_is_end (bt : Bt mg) (c_is_name : Cal P w K mg base 1 "is_name" false ["thing"] [] sp_is_name) (F : FunD K "is_end" "is_end" (defArgs s_is_end) (defBody s_is_end) (defScope s_is_end) [] [] f fd) : FnOk P w K mg base CX0 2 f fd ["thing"] (spOf ⟨K, P, w⟩ false sp_is_end) :=
  defD_ok false F sc_is_end len_is_end (by decide) fun cdv A outer s H E hr => ⟨T_is_end, (s_cons (s_if (EW.et (w_or (t_not (t_val (q_isi .tuple (qv 0) (by rfl) (bt "isinstance" (by decide)) (by rfl) (bt "tuple" (by decide)) (by decide +kernel)))) (w_or (t_cmp (op_neP hr.units) l_eq (q_callB l_len call_len (by rfl) (bt "len" (by decide)) (by decide +kernel) (qa_cons (qv 0) qa_nil)) (q_int) (nomark _)) (w_or1 (t_not (t_val (q_cal c_is_name hr (by first | decide | exact Nat.le_refl _ | (simp only [Nat.add_eq]; omega)) (by rfl) (qa_cons (q_ix (qv 0) (q_int)) qa_nil)))))))) (s_one (s_ret (q_bl))) s_nil)
    (s_one (s_ret (q_and (q_isi .int (q_ix (qv 0) (q_int)) (by rfl) (bt "isinstance" (by decide)) (by rfl) (bt "int" (by decide)) (by decide +kernel)) (q_and (q_not (q_isi .bool (q_ix (qv 0) (q_int)) (by rfl) (bt "isinstance" (by decide)) (by rfl) (bt "bool" (by decide)) (by decide +kernel))) (q_one (q_cmp (op_inA hr.units) l_in (q_ix (qv 0) (q_int)) (q_tup (qa_cons (q_int) (qa_cons (q_int) qa_nil))) (by rfl)))))))), pure_ren rfl pure_is_end⟩
theorem cal_is_end (bt : Bt mg) (c_is_name : Cal P w K mg base 1 "is_name" false ["thing"] [] sp_is_name) (hm : mg "is_end" = some (.ref f)) (F : FunD K "is_end" "is_end" (defArgs s_is_end) (defBody s_is_end) (defScope s_is_end) [] [] f fd) : Cal P w K mg base 2 "is_end" false ["thing"] [] sp_is_end := ⟨f, fd, [], [], ok_is_end bt c_is_name F, hm, F.kp, F.bindsN (ps := ["thing"]) fun _ _ _ _ _ _ us hl => match us, hl with | [_], _ => rfl, .nil, consts_nil⟩
abbrev M_is_joint : List Str := ["thing", "end"]
theorem sc_is_joint : FnScope M_is_joint ["thing"] (defScope s_is_joint) := ⟨rfl, rfl, rfl, by decide +kernel, rfl, by decide +kernel, by decide +kernel⟩
theorem len_is_joint : ∀ fl ds Q, sp_is_joint fl ds Q → ds.length + (if false = true then 1 else 0) = 1 := by
  intro fl ds Q h
  unfold sp_is_joint at h
  grind
theorem ok_is_joint (bt : Bt mg) (c_is_end : Cal P w K mg base 2 "is_end" false ["thing"] [] sp_is_end) (F : FunD K "is_joint" "is_joint" (defArgs s_is_joint) (defBody s_is_joint) (defScope s_is_joint) [] [] f fd) : FnOk P w K mg base CX0 3 f fd ["thing"] (spOf ⟨K, P, w⟩ false sp_is_joint) :=
  defD_ok false F sc_is_joint len_is_joint (by decide) fun cdv A outer s H E hr => ⟨T_is_joint, (s_cons (s_if (EW.et (w_or (t_not (t_val (q_isi .tuple (qv 0) (by rfl) (bt "isinstance" (by decide)) (by rfl) (bt "tuple" (by decide)) (by decide +kernel)))) (w_or1 (t_cmp (op_ninA hr.units) l_nin (q_callB l_len call_len (by rfl) (bt "len" (by decide)) (by decide +kernel) (qa_cons (qv 0) qa_nil)) (q_tup (qa_cons (q_int) (qa_cons (q_int) qa_nil))) (by rfl))))) (s_one (s_ret (q_bl))) s_nil)
    (s_one (s_ret (q_and (q_callB l_all (cr_all rfl) (by rfl) (bt "all" (by decide)) (by decide +kernel) (qa_cons (EF.ev (f_lc (own := [("end", 1)]) (S := [1]) rfl sc_is_joint.nd (blkOk_by (N := M_is_joint) (sc := defScope s_is_joint) (by decide +kernel)) (i_any (qv 0)) (fun _ _ _ _ _ => g_name sc_is_joint.nd rfl (by first | exact Or.inl rfl | exact Or.inr rfl)) (fun _ _ _ _ _ => ts_nil) (fun _ _ _ _ _ => q_cal c_is_end hr (by first | decide | exact Nat.le_refl _ | (simp only [Nat.add_eq]; omega)) (by rfl) (qa_cons (qv 1) qa_nil)))) qa_nil)) (q_one (q_cmp (op_eqP hr.units) l_eq (EF.ev (f_callTy l_listF call_list_of (by rfl) (bt "list" (by decide)) (by decide +kernel) (qa_cons (qv 0) qa_nil))) (EF.ev (f_callB l_sortT (cr_sortedT hr.units) (by rfl) (bt "sorted" (by decide)) (by decide +kernel) (qa_cons (qv 0) qa_nil))) (nomark _))))))), pure_ren rfl pure_is_joint⟩
theorem cal_is_joint (bt : Bt mg) (c_is_end : Cal P w K mg base 2 "is_end" false ["thing"] [] sp_is_end) (hm : mg "is_joint" = some (.ref f)) (F : FunD K "is_joint" "is_joint" (defArgs s_is_joint) (defBody s_is_joint) (defScope s_is_joint) [] [] f fd) : Cal P w K mg base 3 "is_joint" false ["thing"] [] sp_is_joint := ⟨f, fd, [], [], ok_is_joint bt c_is_end F, hm, F.kp, F.bindsN (ps := ["thing"]) fun _ _ _ _ _ _ us hl => match us, hl with | [_], _ => rfl, .nil, consts_nil⟩
abbrev M_is_half : List Str := ["thing", "joint"]
theorem sc_is_half : FnScope M_is_half ["thing"] (defScope s_is_half) := ⟨rfl, rfl, rfl, by decide +kernel, rfl, by decide +kernel, by decide +kernel⟩
theorem len_is_half : ∀ fl ds Q, sp_is_half fl ds Q → ds.length + (if false = true then 1 else 0) = 1 := by
  intro fl ds Q h
  unfold sp_is_half at h
  grind
theorem ok_is_half (bt : Bt mg) (c_is_joint : Cal P w K mg base 3 "is_joint" false ["thing"] [] sp_is_joint) (F : FunD K "is_half" "is_half" (defArgs s_is_half) (defBody s_is_half) (defScope s_is_half) [] [] f fd) : FnOk P w K mg base CX0 4 f fd ["thing"] (spOf ⟨K, P, w⟩ false sp_is_half) :=
  defD_ok false F sc_is_half len_is_half (by decide) fun cdv A outer s H E hr => ⟨T_is_half, (s_cons (s_if (EW.et (w_or (t_not (t_val (q_isi .tuple (qv 0) (by rfl) (bt "isinstance" (by decide)) (by rfl) (bt "tuple" (by decide)) (by decide +kernel)))) (w_or1 (t_cmp (op_ninA hr.units) l_nin (q_callB l_len call_len (by rfl) (bt "len" (by decide)) (by decide +kernel) (qa_cons (qv 0) qa_nil)) (q_tup (qa_cons (q_int) (qa_cons (q_int) qa_nil))) (by rfl))))) (s_one (s_ret (q_bl))) s_nil)
    (s_one (s_ret (q_and (q_callB l_all (cr_all rfl) (by rfl) (bt "all" (by decide)) (by decide +kernel) (qa_cons (EF.ev (f_lc (own := [("joint", 1)]) (S := [1]) rfl sc_is_half.nd (blkOk_by (N := M_is_half) (sc := defScope s_is_half) (by decide +kernel)) (i_any (qv 0)) (fun _ _ _ _ _ => g_name sc_is_half.nd rfl (by first | exact Or.inl rfl | exact Or.inr rfl)) (fun _ _ _ _ _ => ts_nil) (fun _ _ _ _ _ => q_cal c_is_joint hr (by first | decide | exact Nat.le_refl _ | (simp only [Nat.add_eq]; omega)) (by rfl) (qa_cons (qv 1) qa_nil)))) qa_nil)) (q_one (q_cmp (op_eqP hr.units) l_eq (EF.ev (f_callTy l_listF call_list_of (by rfl) (bt "list" (by decide)) (by decide +kernel) (qa_cons (qv 0) qa_nil))) (EF.ev (f_callB l_sortT (cr_sortedT hr.units) (by rfl) (bt "sorted" (by decide)) (by decide +kernel) (qa_cons (qv 0) qa_nil))) (nomark _))))))), pure_ren rfl pure_is_half⟩
theorem cal_is_half (bt : Bt mg) (c_is_joint : Cal P w K mg base 3 "is_joint" false ["thing"] [] sp_is_joint) (hm : mg "is_half" = some (.ref f)) (F : FunD K "is_half" "is_half" (defArgs s_is_half) (defBody s_is_half) (defScope s_is_half) [] [] f fd) : Cal P w K mg base 4 "is_half" false ["thing"] [] sp_is_half := ⟨f, fd, [], [], ok_is_half bt c_is_joint F, hm, F.kp, F.bindsN (ps := ["thing"]) fun _ _ _ _ _ _ us hl => match us, hl with | [_], _ => rfl, .nil, consts_nil⟩
abbrev M_ends_in : List Str := ["joints", "found", "joint"]
theorem sc_ends_in : FnScope M_ends_in ["joints"] (defScope s_ends_in) := ⟨rfl, rfl, rfl, by decide +kernel, rfl, by decide +kernel, by decide +kernel⟩
theorem len_ends_in : ∀ fl ds Q, sp_ends_in fl ds Q → ds.length + (if false = true then 1 else 0) = 1 := by
  intro fl ds Q h
  unfold sp_ends_in at h
  grind
theorem ok_ends_in (bt : Bt mg) (F : FunD K "ends_in" "ends_in" (defArgs s_ends_in) (defBody s_ends_in) (defScope s_ends_in) [] [] f fd) : FnOk P w K mg base CX0 1 f fd ["joints"] (spOf ⟨K, P, w⟩ false sp_ends_in) :=
  defD_ok false F sc_ends_in len_ends_in (by decide) fun cdv A outer s H E hr => ⟨T_ends_in, (s_cons (s_setF (i := 1) sc_ends_in.nd rfl (by first | exact Or.inl rfl | exact Or.inr rfl) (f_lst (qa_nil)))
    (s_cons (s_for PassesOwn.never rfl (i_any (qv 0)) (g_name sc_ends_in.nd rfl (by first | exact Or.inl rfl | exact Or.inr rfl)) (s_one (s_expr (q_moE 1 rfl (qa_cons (qv 2) qa_nil)))))
    (s_one (s_retF (f_callB l_sortD (cr_sortedD hr.units) (by rfl) (bt "sorted" (by decide)) (by decide +kernel) (qa_cons (qv 1) qa_nil)))))), pure_ren rfl pure_ends_in⟩
theorem cal_ends_in (bt : Bt mg) (hm : mg "ends_in" = some (.ref f)) (F : FunD K "ends_in" "ends_in" (defArgs s_ends_in) (defBody s_ends_in) (defScope s_ends_in) [] [] f fd) : Cal P w K mg base 1 "ends_in" false ["joints"] [] sp_ends_in := ⟨f, fd, [], [], ok_ends_in bt F, hm, F.kp, F.bindsN (ps := ["joints"]) fun _ _ _ _ _ _ us hl => match us, hl with | [_], _ => rfl, .nil, consts_nil⟩
abbrev M_is_deed : List Str := ["thing", "gone", "come", "ends"]
theorem sc_is_deed : FnScope M_is_deed ["thing"] (defScope s_is_deed) := ⟨rfl, rfl, rfl, by decide +kernel, rfl, by decide +kernel, by decide +kernel⟩
theorem len_is_deed : ∀ fl ds Q, sp_is_deed fl ds Q → ds.length + (if false = true then 1 else 0) = 1 := by
  intro fl ds Q h
  unfold sp_is_deed at h
  grind
theorem ok_is_deed (bt : Bt mg) (c_is_half : Cal P w K mg base 4 "is_half" false ["thing"] [] sp_is_half) (c_ends_in : Cal P w K mg base 1 "ends_in" false ["joints"] [] sp_ends_in) (F : FunD K "is_deed" "is_deed" (defArgs s_is_deed) (defBody s_is_deed) (defScope s_is_deed) [] [] f fd) : FnOk P w K mg base CX0 5 f fd ["thing"] (spOf ⟨K, P, w⟩ false sp_is_deed) :=
  defD_ok false F sc_is_deed len_is_deed (by decide) fun cdv A outer s H E hr => ⟨T_is_deed, (s_cons (s_if (EW.et (w_or (t_not (t_val (q_isi .tuple (qv 0) (by rfl) (bt "isinstance" (by decide)) (by rfl) (bt "tuple" (by decide)) (by decide +kernel)))) (w_or1 (t_cmp (op_neP hr.units) l_eq (q_callB l_len call_len (by rfl) (bt "len" (by decide)) (by decide +kernel) (qa_cons (qv 0) qa_nil)) (q_int) (nomark _))))) (s_one (s_ret (q_bl))) s_nil)
    (s_cons (s_asg (qv 0) (g_tup rfl (gs_cons (g_name sc_is_deed.nd rfl (by first | exact Or.inl rfl | exact Or.inr rfl)) (gs_cons (g_name sc_is_deed.nd rfl (by first | exact Or.inl rfl | exact Or.inr rfl)) gs_nil))))
    (s_cons (s_if (EW.et (w_or (t_not (t_val (q_cal c_is_half hr (by first | decide | exact Nat.le_refl _ | (simp only [Nat.add_eq]; omega)) (by rfl) (qa_cons (qv 1) qa_nil)))) (w_or (t_not (t_val (q_cal c_is_half hr (by first | decide | exact Nat.le_refl _ | (simp only [Nat.add_eq]; omega)) (by rfl) (qa_cons (qv 2) qa_nil)))) (w_or1 (t_cmp (op_eqP hr.units) l_eq (qv 1) (qv 2) (nomark _)))))) (s_one (s_ret (q_bl))) s_nil)
    (s_cons (s_set (i := 3) sc_is_deed.nd rfl (by first | exact Or.inl rfl | exact Or.inr rfl) (q_cal c_ends_in hr (by first | decide | exact Nat.le_refl _ | (simp only [Nat.add_eq]; omega)) (by rfl) (qa_cons (qv 1) qa_nil)))
    (s_one (s_ret (q_and (q_cmp (op_eqP hr.units) l_eq (qv 3) (q_cal c_ends_in hr (by first | decide | exact Nat.le_refl _ | (simp only [Nat.add_eq]; omega)) (by rfl) (qa_cons (qv 2) qa_nil)) (nomark _)) (q_one (q_cmp (op_eqP hr.units) l_eq (q_lenSet hr.units rfl (by rfl) (bt "len" (by decide)) (by rfl) (bt "set" (by decide)) (qv 3)) (q_callB l_len call_len (by rfl) (bt "len" (by decide)) (by decide +kernel) (qa_cons (qv 3) qa_nil)) (nomark _)))))))))), pure_ren rfl pure_is_deed⟩
theorem cal_is_deed (bt : Bt mg) (c_is_half : Cal P w K mg base 4 "is_half" false ["thing"] [] sp_is_half) (c_ends_in : Cal P w K mg base 1 "ends_in" false ["joints"] [] sp_ends_in) (hm : mg "is_deed" = some (.ref f)) (F : FunD K "is_deed" "is_deed" (defArgs s_is_deed) (defBody s_is_deed) (defScope s_is_deed) [] [] f fd) : Cal P w K mg base 5 "is_deed" false ["thing"] [] sp_is_deed := ⟨f, fd, [], [], ok_is_deed bt c_is_half c_ends_in F, hm, F.kp, F.bindsN (ps := ["thing"]) fun _ _ _ _ _ _ us hl => match us, hl with | [_], _ => rfl, .nil, consts_nil⟩
abbrev M_show_end : List Str := ["end"]
theorem sc_show_end : FnScope M_show_end ["end"] (defScope s_show_end) := ⟨rfl, rfl, rfl, by decide +kernel, rfl, by decide +kernel, by decide +kernel⟩
theorem len_show_end : ∀ fl ds Q, sp_show_end fl ds Q → ds.length + (if false = true then 1 else 0) = 1 := by
  intro fl ds Q h
  unfold sp_show_end at h
  grind
theorem ok_show_end (bt : Bt mg) (F : FunD K "show_end" "show_end" (defArgs s_show_end) (defBody s_show_end) (defScope s_show_end) [] [] f fd) : FnOk P w K mg base CX0 1 f fd ["end"] (spOf ⟨K, P, w⟩ false sp_show_end) :=
  defD_ok false F sc_show_end len_show_end (by decide) fun cdv A outer s H E hr => ⟨T_show_end, (s_cons (s_if (t_cmp (op_eqP hr.units) l_eq (q_ix (qv 0) (q_int)) (q_int) (nomark _)) (s_one (s_ret (q_op op_addA l_add (q_str) (q_ix (qv 0) (q_int))))) s_nil)
    (s_one (s_ret (q_op op_addA l_add (q_ix (qv 0) (q_int)) (q_str))))), pure_ren rfl pure_show_end⟩
theorem cal_show_end (bt : Bt mg) (hm : mg "show_end" = some (.ref f)) (F : FunD K "show_end" "show_end" (defArgs s_show_end) (defBody s_show_end) (defScope s_show_end) [] [] f fd) : Cal P w K mg base 1 "show_end" false ["end"] [] sp_show_end := ⟨f, fd, [], [], ok_show_end bt F, hm, F.kp, F.bindsN (ps := ["end"]) fun _ _ _ _ _ _ us hl => match us, hl with | [_], _ => rfl, .nil, consts_nil⟩
abbrev M_show_joint : List Str := ["joint", "end"]
theorem sc_show_joint : FnScope M_show_joint ["joint"] (defScope s_show_joint) := ⟨rfl, rfl, rfl, by decide +kernel, rfl, by decide +kernel, by decide +kernel⟩
theorem len_show_joint : ∀ fl ds Q, sp_show_joint fl ds Q → ds.length + (if false = true then 1 else 0) = 1 := by
  intro fl ds Q h
  unfold sp_show_joint at h
  grind
theorem ok_show_joint (bt : Bt mg) (c_show_end : Cal P w K mg base 1 "show_end" false ["end"] [] sp_show_end) (F : FunD K "show_joint" "show_joint" (defArgs s_show_joint) (defBody s_show_joint) (defScope s_show_joint) [] [] f fd) : FnOk P w K mg base CX0 2 f fd ["joint"] (spOf ⟨K, P, w⟩ false sp_show_joint) :=
  defD_ok false F sc_show_joint len_show_joint (by decide) fun cdv A outer s H E hr => ⟨T_show_joint, (s_one (s_ret (q_join (q_str) (EF.ev (f_lc (own := [("end", 1)]) (S := [1]) rfl sc_show_joint.nd (blkOk_by (N := M_show_joint) (sc := defScope s_show_joint) (by decide +kernel)) (i_any (qv 0)) (fun _ _ _ _ _ => g_name sc_show_joint.nd rfl (by first | exact Or.inl rfl | exact Or.inr rfl)) (fun _ _ _ _ _ => ts_nil) (fun _ _ _ _ _ => q_cal c_show_end hr (by first | decide | exact Nat.le_refl _ | (simp only [Nat.add_eq]; omega)) (by rfl) (qa_cons (qv 1) qa_nil))))))), pure_ren rfl pure_show_joint⟩
theorem cal_show_joint (bt : Bt mg) (c_show_end : Cal P w K mg base 1 "show_end" false ["end"] [] sp_show_end) (hm : mg "show_joint" = some (.ref f)) (F : FunD K "show_joint" "show_joint" (defArgs s_show_joint) (defBody s_show_joint) (defScope s_show_joint) [] [] f fd) : Cal P w K mg base 2 "show_joint" false ["joint"] [] sp_show_joint := ⟨f, fd, [], [], ok_show_joint bt c_show_end F, hm, F.kp, F.bindsN (ps := ["joint"]) fun _ _ _ _ _ _ us hl => match us, hl with | [_], _ => rfl, .nil, consts_nil⟩
abbrev M_show_deedN : List Str := ["deed", "gone", "come", "part", "joint"]
theorem sc_show_deedN : FnScope M_show_deedN ["deed"] (defScope s_show_deedN) := ⟨rfl, rfl, rfl, by decide +kernel, rfl, by decide +kernel, by decide +kernel⟩
theorem len_show_deedN : ∀ fl ds Q, sp_show_deedN fl ds Q → ds.length + (if false = true then 1 else 0) = 1 := by
  intro fl ds Q h
  unfold sp_show_deedN at h
  grind
theorem ok_show_deedN (bt : Bt mg) (c_show_joint : Cal P w K mg base 2 "show_joint" false ["joint"] [] sp_show_joint) (F : FunD K "show_deed" "show_deed" (defArgs s_show_deedN) (defBody s_show_deedN) (defScope s_show_deedN) [] [] f fd) : FnOk P w K mg base CX0 3 f fd ["deed"] (spOf ⟨K, P, w⟩ false sp_show_deedN) :=
  defD_ok false F sc_show_deedN len_show_deedN (by decide) fun cdv A outer s H E hr => ⟨T_show_deedN, (s_cons (s_if (t_val (q_isi .str (q_ix (qv 0) (q_int)) (by rfl) (bt "isinstance" (by decide)) (by rfl) (bt "str" (by decide)) (by decide +kernel))) (s_one (s_ret (q_join (q_str) (EF.ev (f_lc (own := [("part", 3)]) (S := [3]) rfl sc_show_deedN.nd (blkOk_by (N := M_show_deedN) (sc := defScope s_show_deedN) (by decide +kernel)) (i_any (qv 0)) (fun _ _ _ _ _ => g_name sc_show_deedN.nd rfl (by first | exact Or.inl rfl | exact Or.inr rfl)) (fun _ _ _ _ _ => ts_nil) (fun _ _ _ _ _ => q_callTy l_strI call_strA (by rfl) (bt "str" (by decide)) (by decide +kernel) (qa_cons (qv 3) qa_nil))))))) s_nil)
    (s_cons (s_set (i := 1) sc_show_deedN.nd rfl (by first | exact Or.inl rfl | exact Or.inr rfl) (q_join (q_str) (EF.ev (f_lc (own := [("joint", 4)]) (S := [4]) rfl sc_show_deedN.nd (blkOk_by (N := M_show_deedN) (sc := defScope s_show_deedN) (by decide +kernel)) (i_any (q_ix (qv 0) (q_int))) (fun _ _ _ _ _ => g_name sc_show_deedN.nd rfl (by first | exact Or.inl rfl | exact Or.inr rfl)) (fun _ _ _ _ _ => ts_nil) (fun _ _ _ _ _ => q_cal c_show_joint hr (by first | decide | exact Nat.le_refl _ | (simp only [Nat.add_eq]; omega)) (by rfl) (qa_cons (qv 4) qa_nil))))))
    (s_cons (s_set (i := 2) sc_show_deedN.nd rfl (by first | exact Or.inl rfl | exact Or.inr rfl) (q_join (q_str) (EF.ev (f_lc (own := [("joint", 4)]) (S := [4]) rfl sc_show_deedN.nd (blkOk_by (N := M_show_deedN) (sc := defScope s_show_deedN) (by decide +kernel)) (i_any (q_ix (qv 0) (q_int))) (fun _ _ _ _ _ => g_name sc_show_deedN.nd rfl (by first | exact Or.inl rfl | exact Or.inr rfl)) (fun _ _ _ _ _ => ts_nil) (fun _ _ _ _ _ => q_cal c_show_joint hr (by first | decide | exact Nat.le_refl _ | (simp only [Nat.add_eq]; omega)) (by rfl) (qa_cons (qv 4) qa_nil))))))
    (s_one (s_ret (q_op op_addA l_add (q_op op_addA l_add (qv 1) (q_str)) (qv 2))))))), pure_ren rfl pure_show_deedN⟩
theorem cal_show_deedN (bt : Bt mg) (c_show_joint : Cal P w K mg base 2 "show_joint" false ["joint"] [] sp_show_joint) (hm : mg "show_deed" = some (.ref f)) (F : FunD K "show_deed" "show_deed" (defArgs s_show_deedN) (defBody s_show_deedN) (defScope s_show_deedN) [] [] f fd) : Cal P w K mg base 3 "show_deed" false ["deed"] [] sp_show_deedN := ⟨f, fd, [], [], ok_show_deedN bt c_show_joint F, hm, F.kp, F.bindsN (ps := ["deed"]) fun _ _ _ _ _ _ us hl => match us, hl with | [_], _ => rfl, .nil, consts_nil⟩
abbrev M_read_number : List Str := ["word", "sign"]
theorem sc_read_number : FnScope M_read_number ["word"] (defScope s_read_number) := ⟨rfl, rfl, rfl, by decide +kernel, rfl, by decide +kernel, by decide +kernel⟩
theorem len_read_number : ∀ fl ds Q, sp_read_number fl ds Q → ds.length + (if false = true then 1 else 0) = 1 := by
  intro fl ds Q h
  unfold sp_read_number at h
  grind
theorem ok_read_number (bt : Bt mg) {t_FIGURES_deedtexts : Tok} (c_FIGURES_deedtexts : mg "FIGURES_deedtexts" = some (.str "0123456789" t_FIGURES_deedtexts)) (F : FunD K "read_number" "read_number" (defArgs s_read_number) (defBody s_read_number) (defScope s_read_number) [] [] f fd) : FnOk P w K mg base CX0 1 f fd ["word"] (spOf ⟨K, P, w⟩ false sp_read_number) :=
  defD_ok false F sc_read_number len_read_number (by decide) fun cdv A outer s H E hr => ⟨T_read_number, (s_cons (s_for PassesOwn.never rfl (i_any (qv 0)) (g_name sc_read_number.nd rfl (by first | exact Or.inl rfl | exact Or.inr rfl)) (s_one (s_if (t_cmp (op_ninA hr.units) l_nin (qv 1) (q_gstr (by rfl) c_FIGURES_deedtexts) (by rfl)) (s_one (s_raise)) s_nil)))
    (s_cons (s_if (EW.et (w_or (t_cmp (op_ninA hr.units) l_nin (q_callB l_len call_len (by rfl) (bt "len" (by decide)) (by decide +kernel) (qa_cons (qv 0) qa_nil)) (q_tup (qa_cons (q_int) (qa_cons (q_int) (qa_cons (q_int) qa_nil)))) (by rfl)) (w_or1 (EW.et (w_and (t_cmp (op_eqP hr.units) l_eq (q_ix (qv 0) (q_int)) (q_str) (nomark _)) (w_and1 (t_cmp op_gt l_cmp (q_callB l_len call_len (by rfl) (bt "len" (by decide)) (by decide +kernel) (qa_cons (qv 0) qa_nil)) (q_int) (nomark _)))))))) (s_one (s_raise)) s_nil)
    (s_one (s_ret (q_callTy l_intS call_int_str (by rfl) (bt "int" (by decide)) (by decide +kernel) (qa_cons (qv 0) qa_nil)))))), pure_ren rfl pure_read_number⟩
theorem cal_read_number (bt : Bt mg) {t_FIGURES_deedtexts : Tok} (c_FIGURES_deedtexts : mg "FIGURES_deedtexts" = some (.str "0123456789" t_FIGURES_deedtexts)) (hm : mg "read_number_deedtexts" = some (.ref f)) (F : FunD K "read_number" "read_number" (defArgs s_read_number) (defBody s_read_number) (defScope s_read_number) [] [] f fd) : Cal P w K mg base 1 "read_number_deedtexts" false ["word"] [] sp_read_number := ⟨f, fd, [], [], ok_read_number bt c_FIGURES_deedtexts F, hm, F.kp, F.bindsN (ps := ["word"]) fun _ _ _ _ _ _ us hl => match us, hl with | [_], _ => rfl, .nil, consts_nil⟩
abbrev M_read_end : List Str := ["word"]
theorem sc_read_end : FnScope M_read_end ["word"] (defScope s_read_end) := ⟨rfl, rfl, rfl, by decide +kernel, rfl, by decide +kernel, by decide +kernel⟩
theorem len_read_end : ∀ fl ds Q, sp_read_end fl ds Q → ds.length + (if false = true then 1 else 0) = 1 := by
  intro fl ds Q h
  unfold sp_read_end at h
  grind
theorem ok_read_end (bt : Bt mg) (c_is_name : Cal P w K mg base 1 "is_name" false ["thing"] [] sp_is_name) (F : FunD K "read_end" "read_end" (defArgs s_read_end) (defBody s_read_end) (defScope s_read_end) [] [] f fd) : FnOk P w K mg base CX0 2 f fd ["word"] (spOf ⟨K, P, w⟩ false sp_read_end) :=
  defD_ok false F sc_read_end len_read_end (by decide) fun cdv A outer s H E hr => ⟨T_read_end, (s_cons (s_if (EW.et (w_and (t_cmp (op_eqP hr.units) l_eq (q_sl (qv 0) o_none (o_some (q_int))) (q_str) (nomark _)) (w_and1 (t_val (q_cal c_is_name hr (by first | decide | exact Nat.le_refl _ | (simp only [Nat.add_eq]; omega)) (by rfl) (qa_cons (q_sl (qv 0) (o_some (q_int)) o_none) qa_nil)))))) (s_one (s_ret (q_tup (qa_cons (q_sl (qv 0) (o_some (q_int)) o_none) (qa_cons (q_int) qa_nil))))) s_nil)
    (s_cons (s_if (EW.et (w_and (t_cmp (op_eqP hr.units) l_eq (q_sl (qv 0) (o_some (q_neg (q_int))) o_none) (q_str) (nomark _)) (w_and1 (t_val (q_cal c_is_name hr (by first | decide | exact Nat.le_refl _ | (simp only [Nat.add_eq]; omega)) (by rfl) (qa_cons (q_sl (qv 0) o_none (o_some (q_neg (q_int)))) qa_nil)))))) (s_one (s_ret (q_tup (qa_cons (q_sl (qv 0) o_none (o_some (q_neg (q_int)))) (qa_cons (q_int) qa_nil))))) s_nil)
    (s_one (s_raise)))), pure_ren rfl pure_read_end⟩
theorem cal_read_end (bt : Bt mg) (c_is_name : Cal P w K mg base 1 "is_name" false ["thing"] [] sp_is_name) (hm : mg "read_end" = some (.ref f)) (F : FunD K "read_end" "read_end" (defArgs s_read_end) (defBody s_read_end) (defScope s_read_end) [] [] f fd) : Cal P w K mg base 2 "read_end" false ["word"] [] sp_read_end := ⟨f, fd, [], [], ok_read_end bt c_is_name F, hm, F.kp, F.bindsN (ps := ["word"]) fun _ _ _ _ _ _ us hl => match us, hl with | [_], _ => rfl, .nil, consts_nil⟩
abbrev M_read_joint : List Str := ["word", "part"]
theorem sc_read_joint : FnScope M_read_joint ["word"] (defScope s_read_joint) := ⟨rfl, rfl, rfl, by decide +kernel, rfl, by decide +kernel, by decide +kernel⟩
theorem len_read_joint : ∀ fl ds Q, sp_read_joint fl ds Q → ds.length + (if false = true then 1 else 0) = 1 := by
  intro fl ds Q h
  unfold sp_read_joint at h
  grind
theorem ok_read_joint (bt : Bt mg) (c_read_end : Cal P w K mg base 2 "read_end" false ["word"] [] sp_read_end) (F : FunD K "read_joint" "read_joint" (defArgs s_read_joint) (defBody s_read_joint) (defScope s_read_joint) [] [] f fd) : FnOk P w K mg base CX0 3 f fd ["word"] (spOf ⟨K, P, w⟩ false sp_read_joint) :=
  defD_ok false F sc_read_joint len_read_joint (by decide) fun cdv A outer s H E hr => ⟨T_read_joint, (s_one (s_ret (q_callTy l_tuple call_tuple_of (by rfl) (bt "tuple" (by decide)) (by decide +kernel) (qa_cons (EF.ev (f_lc (own := [("part", 1)]) (S := [1]) rfl sc_read_joint.nd (blkOk_by (N := M_read_joint) (sc := defScope s_read_joint) (by decide +kernel)) (i_any (EF.ev (f_vm l_split PySem.F.plainAttrs_str PySem.F.slot_str_split PySem.F.type_str_split mt_split (qv 0) (qa_cons (q_str) qa_nil)))) (fun _ _ _ _ _ => g_name sc_read_joint.nd rfl (by first | exact Or.inl rfl | exact Or.inr rfl)) (fun _ _ _ _ _ => ts_nil) (fun _ _ _ _ _ => q_cal c_read_end hr (by first | decide | exact Nat.le_refl _ | (simp only [Nat.add_eq]; omega)) (by rfl) (qa_cons (qv 1) qa_nil)))) qa_nil)))), pure_ren rfl pure_read_joint⟩
theorem cal_read_joint (bt : Bt mg) (c_read_end : Cal P w K mg base 2 "read_end" false ["word"] [] sp_read_end) (hm : mg "read_joint_deedtexts" = some (.ref f)) (F : FunD K "read_joint" "read_joint" (defArgs s_read_joint) (defBody s_read_joint) (defScope s_read_joint) [] [] f fd) : Cal P w K mg base 3 "read_joint_deedtexts" false ["word"] [] sp_read_joint := ⟨f, fd, [], [], ok_read_joint bt c_read_end F, hm, F.kp, F.bindsN (ps := ["word"]) fun _ _ _ _ _ _ us hl => match us, hl with | [_], _ => rfl, .nil, consts_nil⟩
abbrev M_read_deed : List Str := ["text", "words", "at", "gone", "come", "word"]
theorem sc_read_deed : FnScope M_read_deed ["text"] (defScope s_read_deed) := ⟨rfl, rfl, rfl, by decide +kernel, rfl, by decide +kernel, by decide +kernel⟩
theorem len_read_deed : ∀ fl ds Q, sp_read_deed fl ds Q → ds.length + (if false = true then 1 else 0) = 1 := by
  intro fl ds Q h
  unfold sp_read_deed at h
  grind
theorem ok_read_deed (bt : Bt mg) (c_read_number : Cal P w K mg base 1 "read_number_deedtexts" false ["word"] [] sp_read_number) (c_read_joint : Cal P w K mg base 3 "read_joint_deedtexts" false ["word"] [] sp_read_joint) (c_is_deed : Cal P w K mg base 5 "is_deed" false ["thing"] [] sp_is_deed) (F : FunD K "read_deed" "read_deed" (defArgs s_read_deed) (defBody s_read_deed) (defScope s_read_deed) [] [] f fd) : FnOk P w K mg base CX0 6 f fd ["text"] (spOf ⟨K, P, w⟩ false sp_read_deed) :=
  defD_ok false F sc_read_deed len_read_deed (by decide) fun cdv A outer s H E hr => ⟨T_read_deed, (s_cons (s_set (i := 1) sc_read_deed.nd rfl (by first | exact Or.inl rfl | exact Or.inr rfl) (EF.ev (f_vm l_split PySem.F.plainAttrs_str PySem.F.slot_str_split PySem.F.type_str_split mt_split (qv 0) (qa_cons (q_str) qa_nil))))
    (s_cons (s_if (t_cmp (op_inA hr.units) l_in (q_tup (qa_cons (q_ix (qv 1) (q_int)) (qa_cons (q_callB l_len call_len (by rfl) (bt "len" (by decide)) (by decide +kernel) (qa_cons (qv 1) qa_nil)) qa_nil))) (q_tup (qa_cons (q_tup (qa_cons (q_str) (qa_cons (q_int) qa_nil))) (qa_cons (q_tup (qa_cons (q_str) (qa_cons (q_int) qa_nil))) qa_nil))) (by rfl)) (s_one (s_ret (q_op op_addA l_add (q_tup (qa_cons (q_ix (qv 1) (q_int)) qa_nil)) (q_callTy l_tuple call_tuple_of (by rfl) (bt "tuple" (by decide)) (by decide +kernel) (qa_cons (EF.ev (f_lc (own := [("word", 5)]) (S := [5]) rfl sc_read_deed.nd (blkOk_by (N := M_read_deed) (sc := defScope s_read_deed) (by decide +kernel)) (i_any (q_sl (qv 1) (o_some (q_int)) o_none)) (fun _ _ _ _ _ => g_name sc_read_deed.nd rfl (by first | exact Or.inl rfl | exact Or.inr rfl)) (fun _ _ _ _ _ => ts_nil) (fun _ _ _ _ _ => q_cal c_read_number hr (by first | decide | exact Nat.le_refl _ | (simp only [Nat.add_eq]; omega)) (by rfl) (qa_cons (qv 5) qa_nil)))) qa_nil))))) s_nil)
    (s_cons (s_if (t_cmp (op_neP hr.units) l_eq (q_vm l_count PySem.F.plainAttrs_list PySem.F.slot_list_count PySem.F.type_list_count (mt_countD (roomU hr)) (qv 1) (qa_cons (q_str) qa_nil)) (q_int) (nomark _)) (s_one (s_raise)) s_nil)
    (s_cons (s_set (i := 2) sc_read_deed.nd rfl (by first | exact Or.inl rfl | exact Or.inr rfl) (q_vm l_index PySem.F.plainAttrs_list PySem.F.slot_list_index PySem.F.type_list_index (mt_indexD (roomU hr)) (qv 1) (qa_cons (q_str) qa_nil)))
    (s_cons (s_set (i := 3) sc_read_deed.nd rfl (by first | exact Or.inl rfl | exact Or.inr rfl) (q_callTy l_tuple call_tuple_of (by rfl) (bt "tuple" (by decide)) (by decide +kernel) (qa_cons (EF.ev (f_lc (own := [("word", 5)]) (S := [5]) rfl sc_read_deed.nd (blkOk_by (N := M_read_deed) (sc := defScope s_read_deed) (by decide +kernel)) (i_any (q_sl (qv 1) o_none (o_some (qv 2)))) (fun _ _ _ _ _ => g_name sc_read_deed.nd rfl (by first | exact Or.inl rfl | exact Or.inr rfl)) (fun _ _ _ _ _ => ts_nil) (fun _ _ _ _ _ => q_cal c_read_joint hr (by first | decide | exact Nat.le_refl _ | (simp only [Nat.add_eq]; omega)) (by rfl) (qa_cons (qv 5) qa_nil)))) qa_nil)))
    (s_cons (s_set (i := 4) sc_read_deed.nd rfl (by first | exact Or.inl rfl | exact Or.inr rfl) (q_callTy l_tuple call_tuple_of (by rfl) (bt "tuple" (by decide)) (by decide +kernel) (qa_cons (EF.ev (f_lc (own := [("word", 5)]) (S := [5]) rfl sc_read_deed.nd (blkOk_by (N := M_read_deed) (sc := defScope s_read_deed) (by decide +kernel)) (i_any (q_sl (qv 1) (o_some (q_op op_addA l_add (qv 2) (q_int))) o_none)) (fun _ _ _ _ _ => g_name sc_read_deed.nd rfl (by first | exact Or.inl rfl | exact Or.inr rfl)) (fun _ _ _ _ _ => ts_nil) (fun _ _ _ _ _ => q_cal c_read_joint hr (by first | decide | exact Nat.le_refl _ | (simp only [Nat.add_eq]; omega)) (by rfl) (qa_cons (qv 5) qa_nil)))) qa_nil)))
    (s_cons (s_if (t_not (t_val (q_cal c_is_deed hr (by first | decide | exact Nat.le_refl _ | (simp only [Nat.add_eq]; omega)) (by rfl) (qa_cons (q_tup (qa_cons (qv 3) (qa_cons (qv 4) qa_nil))) qa_nil)))) (s_one (s_raise)) s_nil)
    (s_one (s_ret (q_tup (qa_cons (qv 3) (qa_cons (qv 4) qa_nil)))))))))))), pure_ren rfl pure_read_deed⟩
theorem cal_read_deed (bt : Bt mg) (c_read_number : Cal P w K mg base 1 "read_number_deedtexts" false ["word"] [] sp_read_number) (c_read_joint : Cal P w K mg base 3 "read_joint_deedtexts" false ["word"] [] sp_read_joint) (c_is_deed : Cal P w K mg base 5 "is_deed" false ["thing"] [] sp_is_deed) (hm : mg "read_deed" = some (.ref f)) (F : FunD K "read_deed" "read_deed" (defArgs s_read_deed) (defBody s_read_deed) (defScope s_read_deed) [] [] f fd) : Cal P w K mg base 6 "read_deed" false ["text"] [] sp_read_deed := ⟨f, fd, [], [], ok_read_deed bt c_read_number c_read_joint c_is_deed F, hm, F.kp, F.bindsN (ps := ["text"]) fun _ _ _ _ _ _ us hl => match us, hl with | [_], _ => rfl, .nil, consts_nil⟩
abbrev M_read_row : List Str := ["text", "line"]
theorem sc_read_row : FnScope M_read_row ["text"] (defScope s_read_row) := ⟨rfl, rfl, rfl, by decide +kernel, rfl, by decide +kernel, by decide +kernel⟩
theorem len_read_row : ∀ fl ds Q, sp_read_row fl ds Q → ds.length + (if false = true then 1 else 0) = 1 := by
  intro fl ds Q h
  unfold sp_read_row at h
  grind
theorem ok_read_row (bt : Bt mg) (c_read_deed : Cal P w K mg base 6 "read_deed" false ["text"] [] sp_read_deed) (F : FunD K "read_row" "read_row" (defArgs s_read_row) (defBody s_read_row) (defScope s_read_row) [] [] f fd) : FnOk P w K mg base CX0 7 f fd ["text"] (spOf ⟨K, P, w⟩ false sp_read_row) :=
  defD_ok false F sc_read_row len_read_row (by decide) fun cdv A outer s H E hr => ⟨T_read_row, (s_cons (s_if (t_not (t_val (q_isi .str (qv 0) (by rfl) (bt "isinstance" (by decide)) (by rfl) (bt "str" (by decide)) (by decide +kernel)))) (s_one (s_raise)) s_nil)
    (s_cons (s_if (t_cmp (op_eqP hr.units) l_eq (qv 0) (q_str) (nomark _)) (s_one (s_retF (f_lst (qa_nil)))) s_nil)
    (s_one (s_retF (f_lc (own := [("line", 1)]) (S := [1]) rfl sc_read_row.nd (blkOk_by (N := M_read_row) (sc := defScope s_read_row) (by decide +kernel)) (i_any (EF.ev (f_vm l_split PySem.F.plainAttrs_str PySem.F.slot_str_split PySem.F.type_str_split mt_split (qv 0) (qa_cons (q_str) qa_nil)))) (fun _ _ _ _ _ => g_name sc_read_row.nd rfl (by first | exact Or.inl rfl | exact Or.inr rfl)) (fun _ _ _ _ _ => ts_nil) (fun _ _ _ _ _ => q_cal c_read_deed hr (by first | decide | exact Nat.le_refl _ | (simp only [Nat.add_eq]; omega)) (by rfl) (qa_cons (qv 1) qa_nil))))))), pure_ren rfl pure_read_row⟩
theorem cal_read_row (bt : Bt mg) (c_read_deed : Cal P w K mg base 6 "read_deed" false ["text"] [] sp_read_deed) (hm : mg "read_row" = some (.ref f)) (F : FunD K "read_row" "read_row" (defArgs s_read_row) (defBody s_read_row) (defScope s_read_row) [] [] f fd) : Cal P w K mg base 7 "read_row" false ["text"] [] sp_read_row := ⟨f, fd, [], [], ok_read_row bt c_read_deed F, hm, F.kp, F.bindsN (ps := ["text"]) fun _ _ _ _ _ _ us hl => match us, hl with | [_], _ => rfl, .nil, consts_nil⟩
abbrev M_show_joints : List Str := ["word", "joints", "joint"]
theorem sc_show_joints : FnScope M_show_joints ["word", "joints"] (defScope s_show_joints) := ⟨rfl, rfl, rfl, by decide +kernel, rfl, by decide +kernel, by decide +kernel⟩
theorem len_show_joints : ∀ fl ds Q, sp_show_joints fl ds Q → ds.length + (if false = true then 1 else 0) = 2 := by
  intro fl ds Q h
  unfold sp_show_joints at h
  grind
theorem ok_show_joints (bt : Bt mg) (c_show_joint : Cal P w K mg base 2 "show_joint" false ["joint"] [] sp_show_joint) (F : FunD K "show_joints" "show_joints" (defArgs s_show_joints) (defBody s_show_joints) (defScope s_show_joints) [] [] f fd) : FnOk P w K mg base CX0 3 f fd ["word", "joints"] (spOf ⟨K, P, w⟩ false sp_show_joints) :=
  defD_ok false F sc_show_joints len_show_joints (by decide) fun cdv A outer s H E hr => ⟨T_show_joints, (s_one (s_ret (q_join (q_str) (q_op op_addA l_add (EF.ev (f_lst (qa_cons (qv 0) qa_nil))) (EF.ev (f_lc (own := [("joint", 2)]) (S := [2]) rfl sc_show_joints.nd (blkOk_by (N := M_show_joints) (sc := defScope s_show_joints) (by decide +kernel)) (i_any (qv 1)) (fun _ _ _ _ _ => g_name sc_show_joints.nd rfl (by first | exact Or.inl rfl | exact Or.inr rfl)) (fun _ _ _ _ _ => ts_nil) (fun _ _ _ _ _ => q_cal c_show_joint hr (by first | decide | exact Nat.le_refl _ | (simp only [Nat.add_eq]; omega)) (by rfl) (qa_cons (qv 2) qa_nil)))))))), pure_ren rfl pure_show_joints⟩
theorem cal_show_joints (bt : Bt mg) (c_show_joint : Cal P w K mg base 2 "show_joint" false ["joint"] [] sp_show_joint) (hm : mg "show_joints" = some (.ref f)) (F : FunD K "show_joints" "show_joints" (defArgs s_show_joints) (defBody s_show_joints) (defScope s_show_joints) [] [] f fd) : Cal P w K mg base 3 "show_joints" false ["word", "joints"] [] sp_show_joints := ⟨f, fd, [], [], ok_show_joints bt c_show_joint F, hm, F.kp, F.bindsN (ps := ["word", "joints"]) fun _ _ _ _ _ _ us hl => match us, hl with | [_, _], _ => rfl, .nil, consts_nil⟩
abbrev M_show_rings : List Str := ["rings", "ring", "point"]
theorem sc_show_rings : FnScope M_show_rings ["rings"] (defScope s_show_rings) := ⟨rfl, rfl, rfl, by decide +kernel, rfl, by decide +kernel, by decide +kernel⟩
theorem len_show_rings : ∀ fl ds Q, sp_show_rings fl ds Q → ds.length + (if false = true then 1 else 0) = 1 := by
  intro fl ds Q h
  unfold sp_show_rings at h
  grind
theorem ok_show_rings (bt : Bt mg) (F : FunD K "show_rings" "show_rings" (defArgs s_show_rings) (defBody s_show_rings) (defScope s_show_rings) [] [] f fd) : FnOk P w K mg base CX0 1 f fd ["rings"] (spOf ⟨K, P, w⟩ false sp_show_rings) :=
  defD_ok false F sc_show_rings len_show_rings (by decide) fun cdv A outer s H E hr => ⟨T_show_rings, (s_one (s_retF (f_lc (own := [("ring", 1)]) (S := [1]) rfl sc_show_rings.nd (blkOk_by (N := M_show_rings) (sc := defScope s_show_rings) (by decide +kernel)) (i_any (qv 0)) (fun _ _ _ _ _ => g_name sc_show_rings.nd rfl (by first | exact Or.inl rfl | exact Or.inr rfl)) (fun _ _ _ _ _ => ts_nil) (fun _ _ _ _ _ => q_join (q_str) (q_op op_addA l_add (EF.ev (f_lst (qa_cons (q_str) qa_nil))) (EF.ev (f_lc (own := [("point", 2)]) (S := [2]) rfl sc_show_rings.nd (blk2 (N := M_show_rings) (sc0 := defScope s_show_rings) rfl rfl (by decide +kernel)) (i_any (qv 1)) (fun _ _ _ _ _ => g_name sc_show_rings.nd rfl (by first | exact Or.inl rfl | exact Or.inr rfl)) (fun _ _ _ _ _ => ts_nil) (fun _ _ _ _ _ => q_callTy l_strI call_strA (by rfl) (bt "str" (by decide)) (by decide +kernel) (qa_cons (qv 2) qa_nil))))))))), pure_ren rfl pure_show_rings⟩
theorem cal_show_rings (bt : Bt mg) (hm : mg "show_rings" = some (.ref f)) (F : FunD K "show_rings" "show_rings" (defArgs s_show_rings) (defBody s_show_rings) (defScope s_show_rings) [] [] f fd) : Cal P w K mg base 1 "show_rings" false ["rings"] [] sp_show_rings := ⟨f, fd, [], [], ok_show_rings bt F, hm, F.kp, F.bindsN (ps := ["rings"]) fun _ _ _ _ _ _ us hl => match us, hl with | [_], _ => rfl, .nil, consts_nil⟩
abbrev M_show_parts : List Str := ["book", "parts", "knots", "s", "e", "kind", "ours", "theirs"]
theorem sc_show_parts : FnScope M_show_parts ["book", "parts"] (defScope s_show_parts) := ⟨rfl, rfl, rfl, by decide +kernel, rfl, by decide +kernel, by decide +kernel⟩
theorem len_show_parts : ∀ fl ds Q, sp_show_parts fl ds Q → ds.length + (if false = true then 1 else 0) = 2 := by
  intro fl ds Q h
  unfold sp_show_parts at h
  grind
theorem ok_show_parts (bt : Bt mg) (c_show_joints : Cal P w K mg base 3 "show_joints" false ["word", "joints"] [] sp_show_joints) (c_show_rings : Cal P w K mg base 1 "show_rings" false ["rings"] [] sp_show_rings) (F : FunD K "show_parts" "show_parts" (defArgs s_show_parts) (defBody s_show_parts) (defScope s_show_parts) [] [] f fd) : FnOk P w K mg base CX0 4 f fd ["book", "parts"] (spOf ⟨K, P, w⟩ false sp_show_parts) :=
  defD_ok false F sc_show_parts len_show_parts (by decide) fun cdv A outer s H E hr => ⟨T_show_parts, (s_cons (s_if (t_cmp (op_eqP hr.units) l_eq (qv 0) (q_str) (nomark _)) (s_one (s_retF (f_lst (qa_cons (q_cal c_show_joints hr (by first | decide | exact Nat.le_refl _ | (simp only [Nat.add_eq]; omega)) (by rfl) (qa_cons (q_str) (qa_cons (q_ix (qv 1) (q_int)) qa_nil))) (qa_cons (q_cal c_show_joints hr (by first | decide | exact Nat.le_refl _ | (simp only [Nat.add_eq]; omega)) (by rfl) (qa_cons (q_str) (qa_cons (q_ix (qv 1) (q_int)) qa_nil))) qa_nil))))) s_nil)
    (s_cons (s_if (t_cmp (op_eqP hr.units) l_eq (qv 0) (q_str) (nomark _)) (s_one (s_retF (f_cal c_show_rings hr (by first | decide | exact Nat.le_refl _ | (simp only [Nat.add_eq]; omega)) (by rfl) (qa_cons (q_ix (qv 1) (q_int)) qa_nil)))) s_nil)
    (s_cons (s_if (t_cmp (op_eqP hr.units) l_eq (qv 0) (q_str) (nomark _)) (s_cons (s_set (i := 2) sc_show_parts.nd rfl (by first | exact Or.inl rfl | exact Or.inr rfl) (q_join (q_str) (q_op op_addA l_add (EF.ev (f_lst (qa_cons (q_str) qa_nil))) (EF.ev (f_lc (own := [("s", 3), ("e", 4)]) (S := [3, 4]) rfl sc_show_parts.nd (blkOk_by (N := M_show_parts) (sc := defScope s_show_parts) (by decide +kernel)) (i_any (q_ix (qv 1) (q_int))) (fun _ _ _ _ _ => g_tup rfl (gs_cons (g_name sc_show_parts.nd rfl (by first | exact Or.inl rfl | exact Or.inr rfl)) (gs_cons (g_name sc_show_parts.nd rfl (by first | exact Or.inl rfl | exact Or.inr rfl)) gs_nil))) (fun _ _ _ _ _ => ts_nil) (fun _ _ _ _ _ => q_fs3 (qv 3) (qv 4)))))))
    (s_one (s_retF (f_add (q_cal c_show_rings hr (by first | decide | exact Nat.le_refl _ | (simp only [Nat.add_eq]; omega)) (by rfl) (qa_cons (q_ix (qv 1) (q_int)) qa_nil)) (EF.ev (f_lst (qa_cons (qv 2) (qa_cons (q_op op_addA l_add (q_str) (q_callTy l_strI call_strA (by rfl) (bt "str" (by decide)) (by decide +kernel) (qa_cons (q_ix (qv 1) (q_int)) qa_nil))) qa_nil)))))))) s_nil)
    (s_one (s_retF (f_lc (own := [("kind", 5), ("ours", 6), ("theirs", 7)]) (S := [5, 6, 7]) rfl sc_show_parts.nd (blkOk_by (N := M_show_parts) (sc := defScope s_show_parts) (by decide +kernel)) (i_any (qv 1)) (fun _ _ _ _ _ => g_tup rfl (gs_cons (g_name sc_show_parts.nd rfl (by first | exact Or.inl rfl | exact Or.inr rfl)) (gs_cons (g_name sc_show_parts.nd rfl (by first | exact Or.inl rfl | exact Or.inr rfl)) (gs_cons (g_name sc_show_parts.nd rfl (by first | exact Or.inl rfl | exact Or.inr rfl)) gs_nil)))) (fun _ _ _ _ _ => ts_nil) (fun _ _ _ _ _ => q_op op_addA l_add (q_op op_addA l_add (q_cal c_show_joints hr (by first | decide | exact Nat.le_refl _ | (simp only [Nat.add_eq]; omega)) (by rfl) (qa_cons (qv 5) (qa_cons (qv 6) qa_nil))) (q_str)) (q_cal c_show_joints hr (by first | decide | exact Nat.le_refl _ | (simp only [Nat.add_eq]; omega)) (by rfl) (qa_cons (q_str) (qa_cons (qv 7) qa_nil)))))))))), pure_ren rfl pure_show_parts⟩
theorem cal_show_parts (bt : Bt mg) (c_show_joints : Cal P w K mg base 3 "show_joints" false ["word", "joints"] [] sp_show_joints) (c_show_rings : Cal P w K mg base 1 "show_rings" false ["rings"] [] sp_show_rings) (hm : mg "show_parts" = some (.ref f)) (F : FunD K "show_parts" "show_parts" (defArgs s_show_parts) (defBody s_show_parts) (defScope s_show_parts) [] [] f fd) : Cal P w K mg base 4 "show_parts" false ["book", "parts"] [] sp_show_parts := ⟨f, fd, [], [], ok_show_parts bt c_show_joints c_show_rings F, hm, F.kp, F.bindsN (ps := ["book", "parts"]) fun _ _ _ _ _ _ us hl => match us, hl with | [_, _], _ => rfl, .nil, consts_nil⟩
abbrev M_show_paper : List Str := ["book", "paper", "parts", "total", "deeds", "lines", "deed"]
theorem sc_show_paper : FnScope M_show_paper ["book", "paper"] (defScope s_show_paper) := ⟨rfl, rfl, rfl, by decide +kernel, rfl, by decide +kernel, by decide +kernel⟩
theorem len_show_paper : ∀ fl ds Q, sp_show_paper fl ds Q → ds.length + (if false = true then 1 else 0) = 2 := by
  intro fl ds Q h
  unfold sp_show_paper at h
  grind
theorem ok_show_paper (bt : Bt mg) (c_show_parts : Cal P w K mg base 4 "show_parts" false ["book", "parts"] [] sp_show_parts) (c_show_deedN : Cal P w K mg base 3 "show_deed" false ["deed"] [] sp_show_deedN) (F : FunD K "show_paper" "show_paper" (defArgs s_show_paper) (defBody s_show_paper) (defScope s_show_paper) [] [] f fd) : FnOk P w K mg base CX0 5 f fd ["book", "paper"] (spOf ⟨K, P, w⟩ false sp_show_paper) :=
  defD_ok false F sc_show_paper len_show_paper (by decide) fun cdv A outer s H E hr => ⟨T_show_paper, (s_cons (s_asg (qv 1) (g_tup rfl (gs_cons (g_name sc_show_paper.nd rfl (by first | exact Or.inl rfl | exact Or.inr rfl)) (gs_cons (g_name sc_show_paper.nd rfl (by first | exact Or.inl rfl | exact Or.inr rfl)) (gs_cons (g_name sc_show_paper.nd rfl (by first | exact Or.inl rfl | exact Or.inr rfl)) gs_nil)))))
    (s_cons (s_set (i := 5) sc_show_paper.nd rfl (by first | exact Or.inl rfl | exact Or.inr rfl) (q_op op_addA l_add (q_op op_addA l_add (EF.ev (f_lst (qa_cons (q_op op_addA l_add (q_op op_addA l_add (qv 0) (q_str)) (q_callTy l_strI call_strA (by rfl) (bt "str" (by decide)) (by decide +kernel) (qa_cons (qv 3) qa_nil))) qa_nil))) (q_cal c_show_parts hr (by first | decide | exact Nat.le_refl _ | (simp only [Nat.add_eq]; omega)) (by rfl) (qa_cons (qv 0) (qa_cons (qv 2) qa_nil)))) (EF.ev (f_lst (qa_cons (q_str) qa_nil)))))
    (s_one (s_ret (q_join (q_str) (q_op op_addA l_add (qv 5) (EF.ev (f_lc (own := [("deed", 6)]) (S := [6]) rfl sc_show_paper.nd (blkOk_by (N := M_show_paper) (sc := defScope s_show_paper) (by decide +kernel)) (i_any (qv 4)) (fun _ _ _ _ _ => g_name sc_show_paper.nd rfl (by first | exact Or.inl rfl | exact Or.inr rfl)) (fun _ _ _ _ _ => ts_nil) (fun _ _ _ _ _ => q_cal c_show_deedN hr (by first | decide | exact Nat.le_refl _ | (simp only [Nat.add_eq]; omega)) (by rfl) (qa_cons (qv 6) qa_nil)))))))))), pure_ren rfl pure_show_paper⟩
theorem cal_show_paper (bt : Bt mg) (c_show_parts : Cal P w K mg base 4 "show_parts" false ["book", "parts"] [] sp_show_parts) (c_show_deedN : Cal P w K mg base 3 "show_deed" false ["deed"] [] sp_show_deedN) (hm : mg "show_paper" = some (.ref f)) (F : FunD K "show_paper" "show_paper" (defArgs s_show_paper) (defBody s_show_paper) (defScope s_show_paper) [] [] f fd) : Cal P w K mg base 5 "show_paper" false ["book", "paper"] [] sp_show_paper := ⟨f, fd, [], [], ok_show_paper bt c_show_parts c_show_deedN F, hm, F.kp, F.bindsN (ps := ["book", "paper"]) fun _ _ _ _ _ _ us hl => match us, hl with | [_, _], _ => rfl, .nil, consts_nil⟩
abbrev M_read_number_2 : List Str := ["word", "sign"]
theorem sc_read_number_2 : FnScope M_read_number_2 ["word"] (defScope s_read_number_2) := ⟨rfl, rfl, rfl, by decide +kernel, rfl, by decide +kernel, by decide +kernel⟩
theorem len_read_number_2 : ∀ fl ds Q, sp_read_number_2 fl ds Q → ds.length + (if false = true then 1 else 0) = 1 := by
  intro fl ds Q h
  unfold sp_read_number_2 at h
  grind
theorem ok_read_number_2 (bt : Bt mg) {t_FIGURES_papertexts : Tok} (c_FIGURES_papertexts : mg "FIGURES_papertexts" = some (.str "0123456789" t_FIGURES_papertexts)) (F : FunD K "read_number" "read_number" (defArgs s_read_number_2) (defBody s_read_number_2) (defScope s_read_number_2) [] [] f fd) : FnOk P w K mg base CX0 1 f fd ["word"] (spOf ⟨K, P, w⟩ false sp_read_number_2) :=
  defD_ok false F sc_read_number_2 len_read_number_2 (by decide) fun cdv A outer s H E hr => ⟨T_read_number_2, (s_cons (s_for PassesOwn.never rfl (i_any (qv 0)) (g_name sc_read_number_2.nd rfl (by first | exact Or.inl rfl | exact Or.inr rfl)) (s_one (s_if (t_cmp (op_ninA hr.units) l_nin (qv 1) (q_gstr (by rfl) c_FIGURES_papertexts) (by rfl)) (s_one (s_raise)) s_nil)))
    (s_cons (s_if (EW.et (w_or (t_cmp (op_eqP hr.units) l_eq (qv 0) (q_str) (nomark _)) (w_or (t_cmp op_gt l_cmp (q_callB l_len call_len (by rfl) (bt "len" (by decide)) (by decide +kernel) (qa_cons (qv 0) qa_nil)) (q_int) (nomark _)) (w_or1 (EW.et (w_and (t_cmp (op_eqP hr.units) l_eq (q_ix (qv 0) (q_int)) (q_str) (nomark _)) (w_and1 (t_cmp op_gt l_cmp (q_callB l_len call_len (by rfl) (bt "len" (by decide)) (by decide +kernel) (qa_cons (qv 0) qa_nil)) (q_int) (nomark _))))))))) (s_one (s_raise)) s_nil)
    (s_one (s_ret (q_callTy l_intS call_int_str (by rfl) (bt "int" (by decide)) (by decide +kernel) (qa_cons (qv 0) qa_nil)))))), pure_ren rfl pure_read_number_2⟩
theorem cal_read_number_2 (bt : Bt mg) {t_FIGURES_papertexts : Tok} (c_FIGURES_papertexts : mg "FIGURES_papertexts" = some (.str "0123456789" t_FIGURES_papertexts)) (hm : mg "read_number_papertexts" = some (.ref f)) (F : FunD K "read_number" "read_number" (defArgs s_read_number_2) (defBody s_read_number_2) (defScope s_read_number_2) [] [] f fd) : Cal P w K mg base 1 "read_number_papertexts" false ["word"] [] sp_read_number_2 := ⟨f, fd, [], [], ok_read_number_2 bt c_FIGURES_papertexts F, hm, F.kp, F.bindsN (ps := ["word"]) fun _ _ _ _ _ _ us hl => match us, hl with | [_], _ => rfl, .nil, consts_nil⟩
abbrev M_read_joint_2 : List Str := ["word", "joint", "part"]
theorem sc_read_joint_2 : FnScope M_read_joint_2 ["word"] (defScope s_read_joint_2) := ⟨rfl, rfl, rfl, by decide +kernel, rfl, by decide +kernel, by decide +kernel⟩
theorem len_read_joint_2 : ∀ fl ds Q, sp_read_joint_2 fl ds Q → ds.length + (if false = true then 1 else 0) = 1 := by
  intro fl ds Q h
  unfold sp_read_joint_2 at h
  grind
theorem ok_read_joint_2 (bt : Bt mg) (c_read_end : Cal P w K mg base 2 "read_end" false ["word"] [] sp_read_end) (F : FunD K "read_joint" "read_joint" (defArgs s_read_joint_2) (defBody s_read_joint_2) (defScope s_read_joint_2) [] [] f fd) : FnOk P w K mg base CX0 3 f fd ["word"] (spOf ⟨K, P, w⟩ false sp_read_joint_2) :=
  defD_ok false F sc_read_joint_2 len_read_joint_2 (by decide) fun cdv A outer s H E hr => ⟨T_read_joint_2, (s_cons (s_set (i := 1) sc_read_joint_2.nd rfl (by first | exact Or.inl rfl | exact Or.inr rfl) (q_callTy l_tuple call_tuple_of (by rfl) (bt "tuple" (by decide)) (by decide +kernel) (qa_cons (EF.ev (f_lc (own := [("part", 2)]) (S := [2]) rfl sc_read_joint_2.nd (blkOk_by (N := M_read_joint_2) (sc := defScope s_read_joint_2) (by decide +kernel)) (i_any (EF.ev (f_vm l_split PySem.F.plainAttrs_str PySem.F.slot_str_split PySem.F.type_str_split mt_split (qv 0) (qa_cons (q_str) qa_nil)))) (fun _ _ _ _ _ => g_name sc_read_joint_2.nd rfl (by first | exact Or.inl rfl | exact Or.inr rfl)) (fun _ _ _ _ _ => ts_nil) (fun _ _ _ _ _ => q_cal c_read_end hr (by first | decide | exact Nat.le_refl _ | (simp only [Nat.add_eq]; omega)) (by rfl) (qa_cons (qv 2) qa_nil)))) qa_nil)))
    (s_cons (s_if (EW.et (w_or (t_cmp op_gt l_cmp (q_callB l_len call_len (by rfl) (bt "len" (by decide)) (by decide +kernel) (qa_cons (qv 1) qa_nil)) (q_int) (nomark _)) (w_or1 (EW.et (w_and (t_cmp (op_eqP hr.units) l_eq (q_callB l_len call_len (by rfl) (bt "len" (by decide)) (by decide +kernel) (qa_cons (qv 1) qa_nil)) (q_int) (nomark _)) (w_and1 (t_cmp (op_geD hr.units) l_geD (q_ix (qv 1) (q_int)) (q_ix (qv 1) (q_int)) (nomark _)))))))) (s_one (s_raise)) s_nil)
    (s_one (s_ret (qv 1))))), pure_ren rfl pure_read_joint_2⟩
theorem cal_read_joint_2 (bt : Bt mg) (c_read_end : Cal P w K mg base 2 "read_end" false ["word"] [] sp_read_end) (hm : mg "read_joint_papertexts" = some (.ref f)) (F : FunD K "read_joint" "read_joint" (defArgs s_read_joint_2) (defBody s_read_joint_2) (defScope s_read_joint_2) [] [] f fd) : Cal P w K mg base 3 "read_joint_papertexts" false ["word"] [] sp_read_joint_2 := ⟨f, fd, [], [], ok_read_joint_2 bt c_read_end F, hm, F.kp, F.bindsN (ps := ["word"]) fun _ _ _ _ _ _ us hl => match us, hl with | [_], _ => rfl, .nil, consts_nil⟩
abbrev M_words_behind : List Str := ["line", "word", "words"]
theorem sc_words_behind : FnScope M_words_behind ["line", "word"] (defScope s_words_behind) := ⟨rfl, rfl, rfl, by decide +kernel, rfl, by decide +kernel, by decide +kernel⟩
theorem len_words_behind : ∀ fl ds Q, sp_words_behind fl ds Q → ds.length + (if false = true then 1 else 0) = 2 := by
  intro fl ds Q h
  unfold sp_words_behind at h
  grind
theorem ok_words_behind (bt : Bt mg) (F : FunD K "words_behind" "words_behind" (defArgs s_words_behind) (defBody s_words_behind) (defScope s_words_behind) [] [] f fd) : FnOk P w K mg base CX0 1 f fd ["line", "word"] (spOf ⟨K, P, w⟩ false sp_words_behind) :=
  defD_ok false F sc_words_behind len_words_behind (by decide) fun cdv A outer s H E hr => ⟨T_words_behind, (s_cons (s_set (i := 2) sc_words_behind.nd rfl (by first | exact Or.inl rfl | exact Or.inr rfl) (EF.ev (f_vm l_split PySem.F.plainAttrs_str PySem.F.slot_str_split PySem.F.type_str_split mt_split (qv 0) (qa_cons (q_str) qa_nil))))
    (s_cons (s_if (t_cmp (op_neP hr.units) l_eq (q_ix (qv 2) (q_int)) (qv 1) (nomark _)) (s_one (s_raise)) s_nil)
    (s_one (s_ret (q_sl (qv 2) (o_some (q_int)) o_none))))), pure_ren rfl pure_words_behind⟩
theorem cal_words_behind (bt : Bt mg) (hm : mg "words_behind" = some (.ref f)) (F : FunD K "words_behind" "words_behind" (defArgs s_words_behind) (defBody s_words_behind) (defScope s_words_behind) [] [] f fd) : Cal P w K mg base 1 "words_behind" false ["line", "word"] [] sp_words_behind := ⟨f, fd, [], [], ok_words_behind bt F, hm, F.kp, F.bindsN (ps := ["line", "word"]) fun _ _ _ _ _ _ us hl => match us, hl with | [_, _], _ => rfl, .nil, consts_nil⟩
abbrev M_read_joints : List Str := ["words", "word"]
theorem sc_read_joints : FnScope M_read_joints ["words"] (defScope s_read_joints) := ⟨rfl, rfl, rfl, by decide +kernel, rfl, by decide +kernel, by decide +kernel⟩
theorem len_read_joints : ∀ fl ds Q, sp_read_joints fl ds Q → ds.length + (if false = true then 1 else 0) = 1 := by
  intro fl ds Q h
  unfold sp_read_joints at h
  grind
theorem ok_read_joints (bt : Bt mg) (c_read_joint_2 : Cal P w K mg base 3 "read_joint_papertexts" false ["word"] [] sp_read_joint_2) (F : FunD K "read_joints" "read_joints" (defArgs s_read_joints) (defBody s_read_joints) (defScope s_read_joints) [] [] f fd) : FnOk P w K mg base CX0 4 f fd ["words"] (spOf ⟨K, P, w⟩ false sp_read_joints) :=
  defD_ok false F sc_read_joints len_read_joints (by decide) fun cdv A outer s H E hr => ⟨T_read_joints, (s_one (s_ret (q_callTy l_tuple call_tuple_of (by rfl) (bt "tuple" (by decide)) (by decide +kernel) (qa_cons (EF.ev (f_lc (own := [("word", 1)]) (S := [1]) rfl sc_read_joints.nd (blkOk_by (N := M_read_joints) (sc := defScope s_read_joints) (by decide +kernel)) (i_any (qv 0)) (fun _ _ _ _ _ => g_name sc_read_joints.nd rfl (by first | exact Or.inl rfl | exact Or.inr rfl)) (fun _ _ _ _ _ => ts_nil) (fun _ _ _ _ _ => q_cal c_read_joint_2 hr (by first | decide | exact Nat.le_refl _ | (simp only [Nat.add_eq]; omega)) (by rfl) (qa_cons (qv 1) qa_nil)))) qa_nil)))), pure_ren rfl pure_read_joints⟩
theorem cal_read_joints (bt : Bt mg) (c_read_joint_2 : Cal P w K mg base 3 "read_joint_papertexts" false ["word"] [] sp_read_joint_2) (hm : mg "read_joints" = some (.ref f)) (F : FunD K "read_joints" "read_joints" (defArgs s_read_joints) (defBody s_read_joints) (defScope s_read_joints) [] [] f fd) : Cal P w K mg base 4 "read_joints" false ["words"] [] sp_read_joints := ⟨f, fd, [], [], ok_read_joints bt c_read_joint_2 F, hm, F.kp, F.bindsN (ps := ["words"]) fun _ _ _ _ _ _ us hl => match us, hl with | [_], _ => rfl, .nil, consts_nil⟩
abbrev M_read_part : List Str := ["line", "words", "at", "ours", "theirs"]
theorem sc_read_part : FnScope M_read_part ["line"] (defScope s_read_part) := ⟨rfl, rfl, rfl, by decide +kernel, rfl, by decide +kernel, by decide +kernel⟩
theorem len_read_part : ∀ fl ds Q, sp_read_part fl ds Q → ds.length + (if false = true then 1 else 0) = 1 := by
  intro fl ds Q h
  unfold sp_read_part at h
  grind
theorem ok_read_part (bt : Bt mg) (tc_KINDS : TCon K mg "KINDS" (.tuple [.str "ring", .str "odd", .str "ours", .str "theirs"])) (c_read_joints : Cal P w K mg base 4 "read_joints" false ["words"] [] sp_read_joints) (F : FunD K "read_part" "read_part" (defArgs s_read_part) (defBody s_read_part) (defScope s_read_part) [] [] f fd) : FnOk P w K mg base CX0 5 f fd ["line"] (spOf ⟨K, P, w⟩ false sp_read_part) :=
  defD_ok false F sc_read_part len_read_part (by decide) fun cdv A outer s H E hr => ⟨T_read_part, (s_cons (s_set (i := 1) sc_read_part.nd rfl (by first | exact Or.inl rfl | exact Or.inr rfl) (EF.ev (f_vm l_split PySem.F.plainAttrs_str PySem.F.slot_str_split PySem.F.type_str_split mt_split (qv 0) (qa_cons (q_str) qa_nil))))
    (s_cons (s_if (EW.et (w_or (t_cmp (op_ninA hr.units) l_nin (q_ix (qv 1) (q_int)) (q_gtup tc_KINDS (by rfl)) (by rfl)) (w_or1 (t_cmp (op_neP hr.units) l_eq (q_vm l_count PySem.F.plainAttrs_list PySem.F.slot_list_count PySem.F.type_list_count (mt_countD (roomU hr)) (qv 1) (qa_cons (q_str) qa_nil)) (q_int) (nomark _))))) (s_one (s_raise)) s_nil)
    (s_cons (s_set (i := 2) sc_read_part.nd rfl (by first | exact Or.inl rfl | exact Or.inr rfl) (q_vm l_index PySem.F.plainAttrs_list PySem.F.slot_list_index PySem.F.type_list_index (mt_indexD (roomU hr)) (qv 1) (qa_cons (q_str) qa_nil)))
    (s_cons (s_set (i := 3) sc_read_part.nd rfl (by first | exact Or.inl rfl | exact Or.inr rfl) (q_cal c_read_joints hr (by first | decide | exact Nat.le_refl _ | (simp only [Nat.add_eq]; omega)) (by rfl) (qa_cons (q_sl (qv 1) (o_some (q_int)) (o_some (qv 2))) qa_nil)))
    (s_cons (s_set (i := 4) sc_read_part.nd rfl (by first | exact Or.inl rfl | exact Or.inr rfl) (q_cal c_read_joints hr (by first | decide | exact Nat.le_refl _ | (simp only [Nat.add_eq]; omega)) (by rfl) (qa_cons (q_sl (qv 1) (o_some (q_op op_addA l_add (qv 2) (q_int))) o_none) qa_nil)))
    (s_cons (s_if (EW.et (w_or (t_cmp (op_eqP hr.units) l_eq (q_callB l_len call_len (by rfl) (bt "len" (by decide)) (by decide +kernel) (qa_cons (qv 3) qa_nil)) (q_int) (nomark _)) (w_or1 (t_cmp (op_eqP hr.units) l_eq (q_callB l_len call_len (by rfl) (bt "len" (by decide)) (by decide +kernel) (qa_cons (qv 4) qa_nil)) (q_int) (nomark _))))) (s_one (s_raise)) s_nil)
    (s_one (s_ret (q_tup (qa_cons (q_ix (qv 1) (q_int)) (qa_cons (qv 3) (qa_cons (qv 4) qa_nil)))))))))))), pure_ren rfl pure_read_part⟩
theorem cal_read_part (bt : Bt mg) (tc_KINDS : TCon K mg "KINDS" (.tuple [.str "ring", .str "odd", .str "ours", .str "theirs"])) (c_read_joints : Cal P w K mg base 4 "read_joints" false ["words"] [] sp_read_joints) (hm : mg "read_part" = some (.ref f)) (F : FunD K "read_part" "read_part" (defArgs s_read_part) (defBody s_read_part) (defScope s_read_part) [] [] f fd) : Cal P w K mg base 5 "read_part" false ["line"] [] sp_read_part := ⟨f, fd, [], [], ok_read_part bt tc_KINDS c_read_joints F, hm, F.kp, F.bindsN (ps := ["line"]) fun _ _ _ _ _ _ us hl => match us, hl with | [_], _ => rfl, .nil, consts_nil⟩
abbrev M_read_ring : List Str := ["line", "words", "word"]
theorem sc_read_ring : FnScope M_read_ring ["line"] (defScope s_read_ring) := ⟨rfl, rfl, rfl, by decide +kernel, rfl, by decide +kernel, by decide +kernel⟩
theorem len_read_ring : ∀ fl ds Q, sp_read_ring fl ds Q → ds.length + (if false = true then 1 else 0) = 1 := by
  intro fl ds Q h
  unfold sp_read_ring at h
  grind
theorem ok_read_ring (bt : Bt mg) (c_words_behind : Cal P w K mg base 1 "words_behind" false ["line", "word"] [] sp_words_behind) (c_read_number_2 : Cal P w K mg base 1 "read_number_papertexts" false ["word"] [] sp_read_number_2) (F : FunD K "read_ring" "read_ring" (defArgs s_read_ring) (defBody s_read_ring) (defScope s_read_ring) [] [] f fd) : FnOk P w K mg base CX0 2 f fd ["line"] (spOf ⟨K, P, w⟩ false sp_read_ring) :=
  defD_ok false F sc_read_ring len_read_ring (by decide) fun cdv A outer s H E hr => ⟨T_read_ring, (s_cons (s_set (i := 1) sc_read_ring.nd rfl (by first | exact Or.inl rfl | exact Or.inr rfl) (q_cal c_words_behind hr (by first | decide | exact Nat.le_refl _ | (simp only [Nat.add_eq]; omega)) (by rfl) (qa_cons (qv 0) (qa_cons (q_str) qa_nil))))
    (s_cons (s_if (t_cmp (op_eqP hr.units) l_eq (qv 1) (EF.ev (f_lst (qa_nil))) (nomark _)) (s_one (s_raise)) s_nil)
    (s_one (s_ret (q_callTy l_tuple call_tuple_of (by rfl) (bt "tuple" (by decide)) (by decide +kernel) (qa_cons (EF.ev (f_lc (own := [("word", 2)]) (S := [2]) rfl sc_read_ring.nd (blkOk_by (N := M_read_ring) (sc := defScope s_read_ring) (by decide +kernel)) (i_any (qv 1)) (fun _ _ _ _ _ => g_name sc_read_ring.nd rfl (by first | exact Or.inl rfl | exact Or.inr rfl)) (fun _ _ _ _ _ => ts_nil) (fun _ _ _ _ _ => q_cal c_read_number_2 hr (by first | decide | exact Nat.le_refl _ | (simp only [Nat.add_eq]; omega)) (by rfl) (qa_cons (qv 2) qa_nil)))) qa_nil)))))), pure_ren rfl pure_read_ring⟩
theorem cal_read_ring (bt : Bt mg) (c_words_behind : Cal P w K mg base 1 "words_behind" false ["line", "word"] [] sp_words_behind) (c_read_number_2 : Cal P w K mg base 1 "read_number_papertexts" false ["word"] [] sp_read_number_2) (hm : mg "read_ring" = some (.ref f)) (F : FunD K "read_ring" "read_ring" (defArgs s_read_ring) (defBody s_read_ring) (defScope s_read_ring) [] [] f fd) : Cal P w K mg base 2 "read_ring" false ["line"] [] sp_read_ring := ⟨f, fd, [], [], ok_read_ring bt c_words_behind c_read_number_2 F, hm, F.kp, F.bindsN (ps := ["line"]) fun _ _ _ _ _ _ us hl => match us, hl with | [_], _ => rfl, .nil, consts_nil⟩
abbrev M_read_knot : List Str := ["word", "s", "stroke", "e"]
theorem sc_read_knot : FnScope M_read_knot ["word"] (defScope s_read_knot) := ⟨rfl, rfl, rfl, by decide +kernel, rfl, by decide +kernel, by decide +kernel⟩
theorem len_read_knot : ∀ fl ds Q, sp_read_knot fl ds Q → ds.length + (if false = true then 1 else 0) = 1 := by
  intro fl ds Q h
  unfold sp_read_knot at h
  grind
theorem ok_read_knot (bt : Bt mg) (c_read_number_2 : Cal P w K mg base 1 "read_number_papertexts" false ["word"] [] sp_read_number_2) (F : FunD K "read_knot" "read_knot" (defArgs s_read_knot) (defBody s_read_knot) (defScope s_read_knot) [] [] f fd) : FnOk P w K mg base CX0 2 f fd ["word"] (spOf ⟨K, P, w⟩ false sp_read_knot) :=
  defD_ok false F sc_read_knot len_read_knot (by decide) fun cdv A outer s H E hr => ⟨T_read_knot, (s_cons (s_asg (q_vm l_part PySem.F.plainAttrs_str PySem.F.slot_str_partition PySem.F.type_str_partition mt_partition (qv 0) (qa_cons (q_str) qa_nil)) (g_tup rfl (gs_cons (g_name sc_read_knot.nd rfl (by first | exact Or.inl rfl | exact Or.inr rfl)) (gs_cons (g_name sc_read_knot.nd rfl (by first | exact Or.inl rfl | exact Or.inr rfl)) (gs_cons (g_name sc_read_knot.nd rfl (by first | exact Or.inl rfl | exact Or.inr rfl)) gs_nil)))))
    (s_one (s_ret (q_tup (qa_cons (q_cal c_read_number_2 hr (by first | decide | exact Nat.le_refl _ | (simp only [Nat.add_eq]; omega)) (by rfl) (qa_cons (qv 1) qa_nil)) (qa_cons (q_cal c_read_number_2 hr (by first | decide | exact Nat.le_refl _ | (simp only [Nat.add_eq]; omega)) (by rfl) (qa_cons (qv 3) qa_nil)) qa_nil)))))), pure_ren rfl pure_read_knot⟩
theorem cal_read_knot (bt : Bt mg) (c_read_number_2 : Cal P w K mg base 1 "read_number_papertexts" false ["word"] [] sp_read_number_2) (hm : mg "read_knot" = some (.ref f)) (F : FunD K "read_knot" "read_knot" (defArgs s_read_knot) (defBody s_read_knot) (defScope s_read_knot) [] [] f fd) : Cal P w K mg base 2 "read_knot" false ["word"] [] sp_read_knot := ⟨f, fd, [], [], ok_read_knot bt c_read_number_2 F, hm, F.kp, F.bindsN (ps := ["word"]) fun _ _ _ _ _ _ us hl => match us, hl with | [_], _ => rfl, .nil, consts_nil⟩
abbrev M_read_parts : List Str := ["book", "lines", "rings", "knots", "last", "line", "word"]
theorem sc_read_parts : FnScope M_read_parts ["book", "lines"] (defScope s_read_parts) := ⟨rfl, rfl, rfl, by decide +kernel, rfl, by decide +kernel, by decide +kernel⟩
theorem len_read_parts : ∀ fl ds Q, sp_read_parts fl ds Q → ds.length + (if false = true then 1 else 0) = 2 := by
  intro fl ds Q h
  unfold sp_read_parts at h
  grind
theorem ok_read_parts (bt : Bt mg) (c_read_part : Cal P w K mg base 5 "read_part" false ["line"] [] sp_read_part) (c_read_ring : Cal P w K mg base 2 "read_ring" false ["line"] [] sp_read_ring) (c_read_joints : Cal P w K mg base 4 "read_joints" false ["words"] [] sp_read_joints) (c_words_behind : Cal P w K mg base 1 "words_behind" false ["line", "word"] [] sp_words_behind) (c_read_knot : Cal P w K mg base 2 "read_knot" false ["word"] [] sp_read_knot) (c_read_number_2 : Cal P w K mg base 1 "read_number_papertexts" false ["word"] [] sp_read_number_2) (F : FunD K "read_parts" "read_parts" (defArgs s_read_parts) (defBody s_read_parts) (defScope s_read_parts) [] [] f fd) : FnOk P w K mg base CX0 6 f fd ["book", "lines"] (spOf ⟨K, P, w⟩ false sp_read_parts) :=
  defD_ok false F sc_read_parts len_read_parts (by decide) fun cdv A outer s H E hr => ⟨T_read_parts, (s_cons (s_if (EW.et (w_or (t_cmp (op_eqP hr.units) l_eq (qv 0) (q_str) (nomark _)) (w_or1 (t_cmp (op_eqP hr.units) l_eq (qv 0) (q_str) (nomark _))))) (s_one (s_ret (q_callTy l_tuple call_tuple_of (by rfl) (bt "tuple" (by decide)) (by decide +kernel) (qa_cons (EF.ev (f_lc (own := [("line", 5)]) (S := [5]) rfl sc_read_parts.nd (blkOk_by (N := M_read_parts) (sc := defScope s_read_parts) (by decide +kernel)) (i_any (qv 1)) (fun _ _ _ _ _ => g_name sc_read_parts.nd rfl (by first | exact Or.inl rfl | exact Or.inr rfl)) (fun _ _ _ _ _ => ts_nil) (fun _ _ _ _ _ => q_cal c_read_part hr (by first | decide | exact Nat.le_refl _ | (simp only [Nat.add_eq]; omega)) (by rfl) (qa_cons (qv 5) qa_nil)))) qa_nil)))) s_nil)
    (s_cons (s_if (t_cmp (op_eqP hr.units) l_eq (qv 0) (q_str) (nomark _)) (s_one (s_ret (q_tup (qa_cons (q_callTy l_tuple call_tuple_of (by rfl) (bt "tuple" (by decide)) (by decide +kernel) (qa_cons (EF.ev (f_lc (own := [("line", 5)]) (S := [5]) rfl sc_read_parts.nd (blkOk_by (N := M_read_parts) (sc := defScope s_read_parts) (by decide +kernel)) (i_any (qv 1)) (fun _ _ _ _ _ => g_name sc_read_parts.nd rfl (by first | exact Or.inl rfl | exact Or.inr rfl)) (fun _ _ _ _ _ => ts_nil) (fun _ _ _ _ _ => q_cal c_read_ring hr (by first | decide | exact Nat.le_refl _ | (simp only [Nat.add_eq]; omega)) (by rfl) (qa_cons (qv 5) qa_nil)))) qa_nil)) qa_nil)))) s_nil)
    (s_cons (s_if (EW.et (w_or (t_cmp op_ltA l_lt (q_callB l_len call_len (by rfl) (bt "len" (by decide)) (by decide +kernel) (qa_cons (qv 1) qa_nil)) (q_int) (nomark _)) (w_or1 (EW.et (w_and (t_cmp (op_eqP hr.units) l_eq (qv 0) (q_str) (nomark _)) (w_and1 (t_cmp op_gt l_cmp (q_callB l_len call_len (by rfl) (bt "len" (by decide)) (by decide +kernel) (qa_cons (qv 1) qa_nil)) (q_int) (nomark _)))))))) (s_one (s_raise)) s_nil)
    (s_cons (s_if (t_cmp (op_eqP hr.units) l_eq (qv 0) (q_str) (nomark _)) (s_one (s_ret (q_tup (qa_cons (q_cal c_read_joints hr (by first | decide | exact Nat.le_refl _ | (simp only [Nat.add_eq]; omega)) (by rfl) (qa_cons (q_cal c_words_behind hr (by first | decide | exact Nat.le_refl _ | (simp only [Nat.add_eq]; omega)) (by rfl) (qa_cons (q_ix (qv 1) (q_int)) (qa_cons (q_str) qa_nil))) qa_nil)) (qa_cons (q_cal c_read_joints hr (by first | decide | exact Nat.le_refl _ | (simp only [Nat.add_eq]; omega)) (by rfl) (qa_cons (q_cal c_words_behind hr (by first | decide | exact Nat.le_refl _ | (simp only [Nat.add_eq]; omega)) (by rfl) (qa_cons (q_ix (qv 1) (q_int)) (qa_cons (q_str) qa_nil))) qa_nil)) qa_nil))))) s_nil)
    (s_cons (s_set (i := 2) sc_read_parts.nd rfl (by first | exact Or.inl rfl | exact Or.inr rfl) (q_callTy l_tuple call_tuple_of (by rfl) (bt "tuple" (by decide)) (by decide +kernel) (qa_cons (EF.ev (f_lc (own := [("line", 5)]) (S := [5]) rfl sc_read_parts.nd (blkOk_by (N := M_read_parts) (sc := defScope s_read_parts) (by decide +kernel)) (i_any (q_sl (qv 1) o_none (o_some (q_neg (q_int))))) (fun _ _ _ _ _ => g_name sc_read_parts.nd rfl (by first | exact Or.inl rfl | exact Or.inr rfl)) (fun _ _ _ _ _ => ts_nil) (fun _ _ _ _ _ => q_cal c_read_ring hr (by first | decide | exact Nat.le_refl _ | (simp only [Nat.add_eq]; omega)) (by rfl) (qa_cons (qv 5) qa_nil)))) qa_nil)))
    (s_cons (s_set (i := 3) sc_read_parts.nd rfl (by first | exact Or.inl rfl | exact Or.inr rfl) (q_callTy l_tuple call_tuple_of (by rfl) (bt "tuple" (by decide)) (by decide +kernel) (qa_cons (EF.ev (f_lc (own := [("word", 6)]) (S := [6]) rfl sc_read_parts.nd (blkOk_by (N := M_read_parts) (sc := defScope s_read_parts) (by decide +kernel)) (i_any (q_cal c_words_behind hr (by first | decide | exact Nat.le_refl _ | (simp only [Nat.add_eq]; omega)) (by rfl) (qa_cons (q_ix (qv 1) (q_neg (q_int))) (qa_cons (q_str) qa_nil)))) (fun _ _ _ _ _ => g_name sc_read_parts.nd rfl (by first | exact Or.inl rfl | exact Or.inr rfl)) (fun _ _ _ _ _ => ts_nil) (fun _ _ _ _ _ => q_cal c_read_knot hr (by first | decide | exact Nat.le_refl _ | (simp only [Nat.add_eq]; omega)) (by rfl) (qa_cons (qv 6) qa_nil)))) qa_nil)))
    (s_cons (s_set (i := 4) sc_read_parts.nd rfl (by first | exact Or.inl rfl | exact Or.inr rfl) (q_cal c_words_behind hr (by first | decide | exact Nat.le_refl _ | (simp only [Nat.add_eq]; omega)) (by rfl) (qa_cons (q_ix (qv 1) (q_neg (q_int))) (qa_cons (q_str) qa_nil))))
    (s_cons (s_if (t_cmp (op_neP hr.units) l_eq (q_callB l_len call_len (by rfl) (bt "len" (by decide)) (by decide +kernel) (qa_cons (qv 4) qa_nil)) (q_int) (nomark _)) (s_one (s_raise)) s_nil)
    (s_one (s_ret (q_tup (qa_cons (qv 2) (qa_cons (qv 3) (qa_cons (q_cal c_read_number_2 hr (by first | decide | exact Nat.le_refl _ | (simp only [Nat.add_eq]; omega)) (by rfl) (qa_cons (q_ix (qv 4) (q_int)) qa_nil)) qa_nil)))))))))))))), pure_ren rfl pure_read_parts⟩
theorem cal_read_parts (bt : Bt mg) (c_read_part : Cal P w K mg base 5 "read_part" false ["line"] [] sp_read_part) (c_read_ring : Cal P w K mg base 2 "read_ring" false ["line"] [] sp_read_ring) (c_read_joints : Cal P w K mg base 4 "read_joints" false ["words"] [] sp_read_joints) (c_words_behind : Cal P w K mg base 1 "words_behind" false ["line", "word"] [] sp_words_behind) (c_read_knot : Cal P w K mg base 2 "read_knot" false ["word"] [] sp_read_knot) (c_read_number_2 : Cal P w K mg base 1 "read_number_papertexts" false ["word"] [] sp_read_number_2) (hm : mg "read_parts" = some (.ref f)) (F : FunD K "read_parts" "read_parts" (defArgs s_read_parts) (defBody s_read_parts) (defScope s_read_parts) [] [] f fd) : Cal P w K mg base 6 "read_parts" false ["book", "lines"] [] sp_read_parts := ⟨f, fd, [], [], ok_read_parts bt c_read_part c_read_ring c_read_joints c_words_behind c_read_knot c_read_number_2 F, hm, F.kp, F.bindsN (ps := ["book", "lines"]) fun _ _ _ _ _ _ us hl => match us, hl with | [_, _], _ => rfl, .nil, consts_nil⟩
abbrev M_read_deeds : List Str := ["lines"]
theorem sc_read_deeds : FnScope M_read_deeds ["lines"] (defScope s_read_deeds) := ⟨rfl, rfl, rfl, by decide +kernel, rfl, by decide +kernel, by decide +kernel⟩
theorem len_read_deeds : ∀ fl ds Q, sp_read_deeds fl ds Q → ds.length + (if false = true then 1 else 0) = 1 := by
  intro fl ds Q h
  unfold sp_read_deeds at h
  grind
theorem ok_read_deeds (bt : Bt mg) (c_read_row : Cal P w K mg base 7 "read_row" false ["text"] [] sp_read_row) (F : FunD K "read_deeds" "read_deeds" (defArgs s_read_deeds) (defBody s_read_deeds) (defScope s_read_deeds) [] [] f fd) : FnOk P w K mg base CX0 8 f fd ["lines"] (spOf ⟨K, P, w⟩ false sp_read_deeds) :=
  defD_ok false F sc_read_deeds len_read_deeds (by decide) fun cdv A outer s H E hr => ⟨T_read_deeds, (s_cons (s_if (t_cmp (op_inA hr.units) l_in (q_str) (qv 0) (by rfl)) (s_one (s_raise)) s_nil)
    (s_one (s_ret (q_callTy l_tuple call_tuple_of (by rfl) (bt "tuple" (by decide)) (by decide +kernel) (qa_cons (q_cal c_read_row hr (by first | decide | exact Nat.le_refl _ | (simp only [Nat.add_eq]; omega)) (by rfl) (qa_cons (q_join (q_str) (qv 0)) qa_nil)) qa_nil))))), pure_ren rfl pure_read_deeds⟩
theorem cal_read_deeds (bt : Bt mg) (c_read_row : Cal P w K mg base 7 "read_row" false ["text"] [] sp_read_row) (hm : mg "read_deeds" = some (.ref f)) (F : FunD K "read_deeds" "read_deeds" (defArgs s_read_deeds) (defBody s_read_deeds) (defScope s_read_deeds) [] [] f fd) : Cal P w K mg base 8 "read_deeds" false ["lines"] [] sp_read_deeds := ⟨f, fd, [], [], ok_read_deeds bt c_read_row F, hm, F.kp, F.bindsN (ps := ["lines"]) fun _ _ _ _ _ _ us hl => match us, hl with | [_], _ => rfl, .nil, consts_nil⟩
abbrev M_read_paper : List Str := ["text", "lines", "words", "at", "total"]
theorem sc_read_paper : FnScope M_read_paper ["text"] (defScope s_read_paper) := ⟨rfl, rfl, rfl, by decide +kernel, rfl, by decide +kernel, by decide +kernel⟩
theorem len_read_paper : ∀ fl ds Q, sp_read_paper fl ds Q → ds.length + (if false = true then 1 else 0) = 1 := by
  intro fl ds Q h
  unfold sp_read_paper at h
  grind
theorem ok_read_paper (bt : Bt mg) (tc_BOOKS : TCon K mg "BOOKS" (.tuple [.str "one", .str "two", .str "home", .str "turns", .str "changes"])) (c_read_number_2 : Cal P w K mg base 1 "read_number_papertexts" false ["word"] [] sp_read_number_2) (c_read_deeds : Cal P w K mg base 8 "read_deeds" false ["lines"] [] sp_read_deeds) (c_read_parts : Cal P w K mg base 6 "read_parts" false ["book", "lines"] [] sp_read_parts) (F : FunD K "read_paper" "read_paper" (defArgs s_read_paper) (defBody s_read_paper) (defScope s_read_paper) [] [] f fd) : FnOk P w K mg base CX0 9 f fd ["text"] (spOf ⟨K, P, w⟩ false sp_read_paper) :=
  defD_ok false F sc_read_paper len_read_paper (by decide) fun cdv A outer s H E hr => ⟨T_read_paper, (s_cons (s_if (t_not (t_val (q_isi .str (qv 0) (by rfl) (bt "isinstance" (by decide)) (by rfl) (bt "str" (by decide)) (by decide +kernel)))) (s_one (s_raise)) s_nil)
    (s_cons (s_set (i := 1) sc_read_paper.nd rfl (by first | exact Or.inl rfl | exact Or.inr rfl) (EF.ev (f_vm l_split PySem.F.plainAttrs_str PySem.F.slot_str_split PySem.F.type_str_split mt_split (qv 0) (qa_cons (q_str) qa_nil))))
    (s_cons (s_set (i := 2) sc_read_paper.nd rfl (by first | exact Or.inl rfl | exact Or.inr rfl) (EF.ev (f_vm l_split PySem.F.plainAttrs_str PySem.F.slot_str_split PySem.F.type_str_split mt_split (q_ix (qv 1) (q_int)) (qa_cons (q_str) qa_nil))))
    (s_cons (s_if (EW.et (w_or (t_cmp (op_neP hr.units) l_eq (q_callB l_len call_len (by rfl) (bt "len" (by decide)) (by decide +kernel) (qa_cons (qv 2) qa_nil)) (q_int) (nomark _)) (w_or (t_cmp (op_ninA hr.units) l_nin (q_ix (qv 2) (q_int)) (q_gtup tc_BOOKS (by rfl)) (by rfl)) (w_or1 (t_cmp (op_ninA hr.units) l_nin (q_str) (qv 1) (by rfl)))))) (s_one (s_raise)) s_nil)
    (s_cons (s_set (i := 3) sc_read_paper.nd rfl (by first | exact Or.inl rfl | exact Or.inr rfl) (q_vm l_index PySem.F.plainAttrs_list PySem.F.slot_list_index PySem.F.type_list_index (mt_indexD (roomU hr)) (qv 1) (qa_cons (q_str) qa_nil)))
    (s_cons (s_set (i := 4) sc_read_paper.nd rfl (by first | exact Or.inl rfl | exact Or.inr rfl) (q_cal c_read_number_2 hr (by first | decide | exact Nat.le_refl _ | (simp only [Nat.add_eq]; omega)) (by rfl) (qa_cons (q_ix (qv 2) (q_int)) qa_nil)))
    (s_one (s_ret (q_tup (qa_cons (q_ix (qv 2) (q_int)) (qa_cons (q_tup (qa_cons (q_cal c_read_parts hr (by first | decide | exact Nat.le_refl _ | (simp only [Nat.add_eq]; omega)) (by rfl) (qa_cons (q_ix (qv 2) (q_int)) (qa_cons (q_sl (qv 1) (o_some (q_int)) (o_some (qv 3))) qa_nil))) (qa_cons (qv 4) (qa_cons (q_cal c_read_deeds hr (by first | decide | exact Nat.le_refl _ | (simp only [Nat.add_eq]; omega)) (by rfl) (qa_cons (q_sl (qv 1) (o_some (q_op op_addA l_add (qv 3) (q_int))) o_none) qa_nil)) qa_nil)))) qa_nil))))))))))), pure_ren rfl pure_read_paper⟩
theorem cal_read_paper (bt : Bt mg) (tc_BOOKS : TCon K mg "BOOKS" (.tuple [.str "one", .str "two", .str "home", .str "turns", .str "changes"])) (c_read_number_2 : Cal P w K mg base 1 "read_number_papertexts" false ["word"] [] sp_read_number_2) (c_read_deeds : Cal P w K mg base 8 "read_deeds" false ["lines"] [] sp_read_deeds) (c_read_parts : Cal P w K mg base 6 "read_parts" false ["book", "lines"] [] sp_read_parts) (hm : mg "read_paper" = some (.ref f)) (F : FunD K "read_paper" "read_paper" (defArgs s_read_paper) (defBody s_read_paper) (defScope s_read_paper) [] [] f fd) : Cal P w K mg base 9 "read_paper" false ["text"] [] sp_read_paper := ⟨f, fd, [], [], ok_read_paper bt tc_BOOKS c_read_number_2 c_read_deeds c_read_parts F, hm, F.kp, F.bindsN (ps := ["text"]) fun _ _ _ _ _ _ us hl => match us, hl with | [_], _ => rfl, .nil, consts_nil⟩
abbrev M_law_pick : List Str := ["_law_flow_here", "_law_many_here", "_law_cell", "_law_digit"]
theorem sc_law_pick : FnScope M_law_pick ["_law_flow_here", "_law_many_here"] (defScope s_law_pick) := ⟨rfl, rfl, rfl, by decide +kernel, rfl, by decide +kernel, by decide +kernel⟩
theorem len_law_pick : ∀ fl ds Q, sp_law_pick fl ds Q → ds.length + (if true = true then 1 else 0) = 2 := by
  intro fl ds Q h
  unfold sp_law_pick at h
  grind
theorem ok_law_pick (bt : Bt mg) (F : FunD K "_law_pick" "_law_pick" (defArgs s_law_pick) (defBody s_law_pick) (defScope s_law_pick) [] [] f fd) : FnOk P w K mg base CX0 1 f fd ["_law_flow_here", "_law_many_here"] (spOf ⟨K, P, w⟩ true sp_law_pick) :=
  defD_ok true F sc_law_pick len_law_pick (by decide) fun cdv A outer s H E hr => ⟨T_law_pick, (s_cons (s_if (EW.et (w_and (t_cmp (op_eqP hr.units) l_eq (q_ix (qv 0) (q_int)) (q_int) (nomark _)) (w_and1 (t_cmp op_ltA l_lt (q_ix (qv 0) (q_int)) (q_callB l_len call_len (by rfl) (bt "len" (by decide)) (by decide +kernel) (qa_cons (q_ix (qv 0) (q_int)) qa_nil)) (nomark _))))) (s_cons (s_set (i := 2) sc_law_pick.nd rfl (by first | exact Or.inl rfl | exact Or.inr rfl) (q_ix (q_ix (qv 0) (q_int)) (q_ix (qv 0) (q_int))))
    (s_cons (s_setIx 0 (q_op op_addA l_add (q_ix (qv 0) (q_int)) (q_int)) (q_int))
    (s_one (s_if (t_cmp op_ge l_cmp (qv 2) (q_op op_pow l_pow (q_int) (q_int)) (nomark _)) (s_one (s_setIx 0 (qv 2) (q_int))) (s_one (s_setIx 0 (q_op op_mod l_mod (q_op op_addA l_add (q_op op_addA l_add (q_op op_mulA l_mul (q_ix (qv 0) (q_int)) (q_int)) (q_op op_mod l_mod (qv 2) (q_int))) (q_int)) (q_int)) (q_int))))))) s_nil)
    (s_cons (s_if (t_cmp op_gt l_cmp (q_ix (qv 0) (q_int)) (q_int) (nomark _)) (s_cons (s_set (i := 3) sc_law_pick.nd rfl (by first | exact Or.inl rfl | exact Or.inr rfl) (q_op op_mod l_mod (q_ix (qv 0) (q_int)) (qv 1)))
    (s_cons (s_setIx 0 (q_op op_fdiv l_div (q_ix (qv 0) (q_int)) (qv 1)) (q_int))
    (s_one (s_ret (qv 3))))) s_nil)
    (s_cons (s_setIx 0 (q_op op_addA l_add (q_ix (qv 0) (q_int)) (q_int)) (q_int))
    (s_cons (s_setIx 0 (q_op op_mod l_mod (q_op op_addA l_add (q_op op_addA l_add (q_op op_mulA l_mul (q_ix (qv 0) (q_int)) (q_int)) (q_int)) (q_ix (qv 0) (q_int))) (q_int)) (q_int))
    (s_one (s_ret (q_op op_mod l_mod (q_op op_fdiv l_div (q_op op_mod l_mod (q_op op_mulA l_mul (q_op op_addA l_add (q_op op_mod l_mod (q_ix (qv 0) (q_int)) (q_int)) (q_int)) (q_op op_addA l_add (q_op op_fdiv l_div (q_ix (qv 0) (q_int)) (q_int)) (q_int))) (q_int)) (q_int)) (qv 1)))))))), pure_ren rfl pure_law_pick⟩
theorem cal_law_pick (bt : Bt mg) (hm : mg "_law_pick" = some (.ref f)) (F : FunD K "_law_pick" "_law_pick" (defArgs s_law_pick) (defBody s_law_pick) (defScope s_law_pick) [] [] f fd) : Cal P w K mg base 1 "_law_pick" true ["_law_flow_here", "_law_many_here"] [] sp_law_pick := ⟨f, fd, [], [], ok_law_pick bt F, hm, F.kp, F.bindsN (ps := ["_law_flow_here", "_law_many_here"]) fun _ _ _ _ _ _ us hl => match us, hl with | [_, _], _ => rfl, .nil, consts_nil⟩
abbrev M_law_letters : List Str := ["_law_flow_here", "_law_many_here", "_law_k"]
theorem sc_law_letters : FnScope M_law_letters ["_law_flow_here", "_law_many_here"] (defScope s_law_letters) := ⟨rfl, rfl, rfl, by decide +kernel, rfl, by decide +kernel, by decide +kernel⟩
theorem len_law_letters : ∀ fl ds Q, sp_law_letters fl ds Q → ds.length + (if true = true then 1 else 0) = 2 := by
  intro fl ds Q h
  unfold sp_law_letters at h
  grind
theorem ok_law_letters (bt : Bt mg) (c_law_pick : Cal P w K mg base 1 "_law_pick" true ["_law_flow_here", "_law_many_here"] [] sp_law_pick) (F : FunD K "_law_letters" "_law_letters" (defArgs s_law_letters) (defBody s_law_letters) (defScope s_law_letters) [] [] f fd) : FnOk P w K mg base CX0 2 f fd ["_law_flow_here", "_law_many_here"] (spOf ⟨K, P, w⟩ true sp_law_letters) :=
  defD_ok true F sc_law_letters len_law_letters (by decide) fun cdv A outer s H E hr => ⟨T_law_letters, (s_one (s_ret (q_join (q_str) (EF.ev (f_lc (own := [("_law_k", 2)]) (S := [2]) rfl sc_law_letters.nd (blkOk_by (N := M_law_letters) (sc := defScope s_law_letters) (by decide +kernel)) (i_rg1 (qv 1) (by rfl) (bt "range" (by decide))) (fun _ _ _ _ _ => g_name sc_law_letters.nd rfl (by first | exact Or.inl rfl | exact Or.inr rfl)) (fun _ _ _ _ _ => ts_nil) (fun _ _ _ _ _ => q_ix (q_str) (q_calL 0 c_law_pick hr (by first | decide | exact Nat.le_refl _ | (simp only [Nat.add_eq]; omega)) (by rfl) (qa_cons (q_int) qa_nil)))))))), pure_ren rfl pure_law_letters⟩
theorem cal_law_letters (bt : Bt mg) (c_law_pick : Cal P w K mg base 1 "_law_pick" true ["_law_flow_here", "_law_many_here"] [] sp_law_pick) (hm : mg "_law_letters" = some (.ref f)) (F : FunD K "_law_letters" "_law_letters" (defArgs s_law_letters) (defBody s_law_letters) (defScope s_law_letters) [] [] f fd) : Cal P w K mg base 2 "_law_letters" true ["_law_flow_here", "_law_many_here"] [] sp_law_letters := ⟨f, fd, [], [], ok_law_letters bt c_law_pick F, hm, F.kp, F.bindsN (ps := ["_law_flow_here", "_law_many_here"]) fun _ _ _ _ _ _ us hl => match us, hl with | [_, _], _ => rfl, .nil, consts_nil⟩
abbrev M_law_name : List Str := ["_law_flow_here", "_law_stem", "_law_words"]
theorem sc_law_name : FnScope M_law_name ["_law_flow_here", "_law_stem"] (defScope s_law_name) := ⟨rfl, rfl, rfl, by decide +kernel, rfl, by decide +kernel, by decide +kernel⟩
theorem len_law_name : ∀ fl ds Q, sp_law_name fl ds Q → ds.length + (if true = true then 1 else 0) = 2 := by
  intro fl ds Q h
  unfold sp_law_name at h
  grind
theorem ok_law_name (bt : Bt mg) (c_law_letters : Cal P w K mg base 2 "_law_letters" true ["_law_flow_here", "_law_many_here"] [] sp_law_letters) (c_law_pick : Cal P w K mg base 1 "_law_pick" true ["_law_flow_here", "_law_many_here"] [] sp_law_pick) (F : FunD K "_law_name" "_law_name" (defArgs s_law_name) (defBody s_law_name) (defScope s_law_name) [] [] f fd) : FnOk P w K mg base CX0 3 f fd ["_law_flow_here", "_law_stem"] (spOf ⟨K, P, w⟩ true sp_law_name) :=
  defD_ok true F sc_law_name len_law_name (by decide) fun cdv A outer s H E hr => ⟨T_law_name, (s_cons (s_if (t_cmp (op_neP hr.units) l_eq (qv 1) (q_str) (nomark _)) (s_one (s_ret (q_op op_addA l_add (qv 1) (q_calL 0 c_law_letters hr (by first | decide | exact Nat.le_refl _ | (simp only [Nat.add_eq]; omega)) (by rfl) (qa_cons (q_op op_addA l_add (q_int) (q_calL 0 c_law_pick hr (by first | decide | exact Nat.le_refl _ | (simp only [Nat.add_eq]; omega)) (by rfl) (qa_cons (q_int) qa_nil))) qa_nil))))) s_nil)
    (s_cons (s_if (t_cmp (op_eqP hr.units) l_eq (q_calL 0 c_law_pick hr (by first | decide | exact Nat.le_refl _ | (simp only [Nat.add_eq]; omega)) (by rfl) (qa_cons (q_int) qa_nil)) (q_int) (nomark _)) (s_cons (s_set (i := 2) sc_law_name.nd rfl (by first | exact Or.inl rfl | exact Or.inr rfl) (EF.ev (f_lst (qa_cons (q_str) (qa_cons (q_str) (qa_cons (q_str) (qa_cons (q_str) (qa_cons (q_str) (qa_cons (q_str) (qa_cons (q_str) (qa_cons (q_str) (qa_cons (q_str) (qa_cons (q_str) (qa_cons (q_str) (qa_cons (q_str) qa_nil)))))))))))))))
    (s_cons (s_set (i := 2) sc_law_name.nd rfl (by first | exact Or.inl rfl | exact Or.inr rfl) (q_op op_addA l_add (qv 2) (EF.ev (f_lst (qa_cons (q_str) (qa_cons (q_str) (qa_cons (q_str) (qa_cons (q_str) (qa_cons (q_str) (qa_cons (q_str) (qa_cons (q_str) (qa_cons (q_str) (qa_cons (q_str) (qa_cons (q_str) (qa_cons (q_str) qa_nil)))))))))))))))
    (s_one (s_ret (q_ix (qv 2) (q_calL 0 c_law_pick hr (by first | decide | exact Nat.le_refl _ | (simp only [Nat.add_eq]; omega)) (by rfl) (qa_cons (q_int) qa_nil))))))) s_nil)
    (s_one (s_ret (q_calL 0 c_law_letters hr (by first | decide | exact Nat.le_refl _ | (simp only [Nat.add_eq]; omega)) (by rfl) (qa_cons (q_op op_addA l_add (q_int) (q_calL 0 c_law_pick hr (by first | decide | exact Nat.le_refl _ | (simp only [Nat.add_eq]; omega)) (by rfl) (qa_cons (q_int) qa_nil))) qa_nil)))))), pure_ren rfl pure_law_name⟩
theorem cal_law_name (bt : Bt mg) (c_law_letters : Cal P w K mg base 2 "_law_letters" true ["_law_flow_here", "_law_many_here"] [] sp_law_letters) (c_law_pick : Cal P w K mg base 1 "_law_pick" true ["_law_flow_here", "_law_many_here"] [] sp_law_pick) (hm : mg "_law_name" = some (.ref f)) (F : FunD K "_law_name" "_law_name" (defArgs s_law_name) (defBody s_law_name) (defScope s_law_name) [] [] f fd) : Cal P w K mg base 3 "_law_name" true ["_law_flow_here", "_law_stem"] [] sp_law_name := ⟨f, fd, [], [], ok_law_name bt c_law_letters c_law_pick F, hm, F.kp, F.bindsN (ps := ["_law_flow_here", "_law_stem"]) fun _ _ _ _ _ _ us hl => match us, hl with | [_, _], _ => rfl, .nil, consts_nil⟩
abbrev M_law_names : List Str := ["_law_flow_here", "_law_many_here", "_law_stem", "_law_names_here", "_law_k", "_law_name_here", "_law_spare"]
theorem sc_law_names : FnScope M_law_names ["_law_flow_here", "_law_many_here"] (defScope s_law_names) := ⟨rfl, rfl, rfl, by decide +kernel, rfl, by decide +kernel, by decide +kernel⟩
theorem len_law_names : ∀ fl ds Q, sp_law_names fl ds Q → ds.length + (if true = true then 1 else 0) = 2 := by
  intro fl ds Q h
  unfold sp_law_names at h
  grind
theorem ok_law_names (bt : Bt mg) (c_law_pick : Cal P w K mg base 1 "_law_pick" true ["_law_flow_here", "_law_many_here"] [] sp_law_pick) (c_law_letters : Cal P w K mg base 2 "_law_letters" true ["_law_flow_here", "_law_many_here"] [] sp_law_letters) (c_law_name : Cal P w K mg base 3 "_law_name" true ["_law_flow_here", "_law_stem"] [] sp_law_name) (F : FunD K "_law_names" "_law_names" (defArgs s_law_names) (defBody s_law_names) (defScope s_law_names) [] [] f fd) : FnOk P w K mg base CX0 4 f fd ["_law_flow_here", "_law_many_here"] (spOf ⟨K, P, w⟩ true sp_law_names) :=
  defD_ok true F sc_law_names len_law_names (by decide) fun cdv A outer s H E hr => ⟨T_law_names, (s_cons (s_set (i := 2) sc_law_names.nd rfl (by first | exact Or.inl rfl | exact Or.inr rfl) (q_str))
    (s_cons (s_if (t_cmp (op_eqP hr.units) l_eq (q_calL 0 c_law_pick hr (by first | decide | exact Nat.le_refl _ | (simp only [Nat.add_eq]; omega)) (by rfl) (qa_cons (q_int) qa_nil)) (q_int) (nomark _)) (s_one (s_set (i := 2) sc_law_names.nd rfl (by first | exact Or.inl rfl | exact Or.inr rfl) (q_calL 0 c_law_letters hr (by first | decide | exact Nat.le_refl _ | (simp only [Nat.add_eq]; omega)) (by rfl) (qa_cons (q_op op_addA l_add (q_int) (q_calL 0 c_law_pick hr (by first | decide | exact Nat.le_refl _ | (simp only [Nat.add_eq]; omega)) (by rfl) (qa_cons (q_int) qa_nil))) qa_nil)))) s_nil)
    (s_cons (s_setF (i := 3) sc_law_names.nd rfl (by first | exact Or.inl rfl | exact Or.inr rfl) (f_lst (qa_nil)))
    (s_cons (s_for PassesOwn.never rfl (i_rg1 (qv 1) (by rfl) (bt "range" (by decide))) (g_name sc_law_names.nd rfl (by first | exact Or.inl rfl | exact Or.inr rfl)) (s_cons (s_set (i := 5) sc_law_names.nd rfl (by first | exact Or.inl rfl | exact Or.inr rfl) (q_calL 0 c_law_name hr (by first | decide | exact Nat.le_refl _ | (simp only [Nat.add_eq]; omega)) (by rfl) (qa_cons (qv 2) qa_nil)))
    (s_cons (s_set (i := 6) sc_law_names.nd rfl (by first | exact Or.inl rfl | exact Or.inr rfl) (q_int))
    (s_cons (s_while PassesOwn.never (t_cmp (op_inA hr.units) l_in (qv 5) (qv 3) (by rfl)) (s_cons (s_set (i := 5) sc_law_names.nd rfl (by first | exact Or.inl rfl | exact Or.inr rfl) (q_op op_mulA l_mul (q_ix (q_str) (q_op op_mod l_mod (qv 6) (q_int))) (q_op op_addA l_add (q_int) (q_op op_fdiv l_div (qv 6) (q_int)))))
    (s_one (s_set (i := 6) sc_law_names.nd rfl (by first | exact Or.inl rfl | exact Or.inr rfl) (q_op op_addA l_add (qv 6) (q_int))))))
    (s_one (s_expr (q_mo 3 l_append PySem.F.slot_list_append PySem.F.type_list_append mt_append (qa_cons (qv 5) qa_nil))))))))
    (s_one (s_retS 3)))))), pure_ren rfl pure_law_names⟩
theorem cal_law_names (bt : Bt mg) (c_law_pick : Cal P w K mg base 1 "_law_pick" true ["_law_flow_here", "_law_many_here"] [] sp_law_pick) (c_law_letters : Cal P w K mg base 2 "_law_letters" true ["_law_flow_here", "_law_many_here"] [] sp_law_letters) (c_law_name : Cal P w K mg base 3 "_law_name" true ["_law_flow_here", "_law_stem"] [] sp_law_name) (hm : mg "_law_names" = some (.ref f)) (F : FunD K "_law_names" "_law_names" (defArgs s_law_names) (defBody s_law_names) (defScope s_law_names) [] [] f fd) : Cal P w K mg base 4 "_law_names" true ["_law_flow_here", "_law_many_here"] [] sp_law_names := ⟨f, fd, [], [], ok_law_names bt c_law_pick c_law_letters c_law_name F, hm, F.kp, F.bindsN (ps := ["_law_flow_here", "_law_many_here"]) fun _ _ _ _ _ _ us hl => match us, hl with | [_, _], _ => rfl, .nil, consts_nil⟩
abbrev M_law_alike : List Str := ["_law_found", "_law_due", "_law_k"]
theorem sc_law_alike : FnScope M_law_alike ["_law_found", "_law_due"] (defScope s_law_alike) := ⟨rfl, rfl, rfl, by decide +kernel, rfl, by decide +kernel, by decide +kernel⟩
theorem okr_law_alike (bt : Bt mg) (hm : mg "_law_alike" = some (.ref f)) (F : FunD K "_law_alike" "_law_alike" (defArgs s_law_alike) (defBody s_law_alike) (defScope s_law_alike) [] [] f fd) : ∀ n : Nat, Cal P w K mg base (1 + n) "_law_alike" false ["_law_found", "_law_due"] [] (spA n)
  | 0 => ⟨f, fd, [], [], ⟨fun vs H Q E h => by obtain ⟨_, _, _, _, _, _, _, _, _, hp, _⟩ := h; exact hp.elim, fun A outer s H args us vs Q E hr he hb hv h => by obtain ⟨_, _, _, _, _, _, _, _, _, hp, _⟩ := h; exact hp.elim⟩, hm, F.kp, F.bindsN (ps := ["_law_found", "_law_due"]) fun _ _ _ _ _ _ us hl => match us, hl with | [_, _], _ => rfl, .nil, consts_nil⟩
  | n + 1 => by
    have c_law_alike := okr_law_alike bt hm F n
    exact ⟨f, fd, [], [], defD_ok false F sc_law_alike (fun fl ds Q h => by obtain ⟨rfl, d, rfl, _⟩ := h; rfl) (by decide) fun cdv A outer s H E hr => ⟨T_law_alike (spA n), (s_cons (s_if (t_cmp op_isN l_isN (qv 1) (q_non) (nomark _)) (s_one (s_ret (q_cmp op_isN l_isN (qv 0) (q_non) (nomark _)))) s_nil)
    (s_cons (s_if (EW.et (w_or (t_val (q_isi .bool (qv 1) (by rfl) (bt "isinstance" (by decide)) (by rfl) (bt "bool" (by decide)) (by decide +kernel))) (w_or1 (t_val (q_isi .bool (qv 0) (by rfl) (bt "isinstance" (by decide)) (by rfl) (bt "bool" (by decide)) (by decide +kernel)))))) (s_one (s_ret (q_and (q_isi .bool (qv 1) (by rfl) (bt "isinstance" (by decide)) (by rfl) (bt "bool" (by decide)) (by decide +kernel)) (q_and (q_isi .bool (qv 0) (by rfl) (bt "isinstance" (by decide)) (by rfl) (bt "bool" (by decide)) (by decide +kernel)) (q_one (q_cmp (op_eqP hr.units) l_eq (qv 0) (qv 1) (nomark _))))))) s_nil)
    (s_cons (s_if (t_val (q_isi .int (qv 1) (by rfl) (bt "isinstance" (by decide)) (by rfl) (bt "int" (by decide)) (by decide +kernel))) (s_one (s_ret (q_and (q_isi .int (qv 0) (by rfl) (bt "isinstance" (by decide)) (by rfl) (bt "int" (by decide)) (by decide +kernel)) (q_one (q_cmp (op_eqP hr.units) l_eq (qv 0) (qv 1) (nomark _)))))) s_nil)
    (s_cons (s_if (t_val (q_isi .str (qv 1) (by rfl) (bt "isinstance" (by decide)) (by rfl) (bt "str" (by decide)) (by decide +kernel))) (s_one (s_ret (q_and (q_isi .str (qv 0) (by rfl) (bt "isinstance" (by decide)) (by rfl) (bt "str" (by decide)) (by decide +kernel)) (q_one (q_cmp (op_eqP hr.units) l_eq (qv 0) (qv 1) (nomark _)))))) s_nil)
    (s_cons (s_if (EW.et (w_or (t_cmp (op_neP hr.units) l_eq (q_isi .tuple (qv 1) (by rfl) (bt "isinstance" (by decide)) (by rfl) (bt "tuple" (by decide)) (by decide +kernel)) (q_isi .tuple (qv 0) (by rfl) (bt "isinstance" (by decide)) (by rfl) (bt "tuple" (by decide)) (by decide +kernel)) (nomark _)) (w_or1 (t_cmp (op_neP hr.units) l_eq (q_isi .list (qv 1) (by rfl) (bt "isinstance" (by decide)) (by rfl) (bt "list" (by decide)) (by decide +kernel)) (q_isi .list (qv 0) (by rfl) (bt "isinstance" (by decide)) (by rfl) (bt "list" (by decide)) (by decide +kernel)) (nomark _))))) (s_one (s_ret (q_bl))) s_nil)
    (s_one (s_ret (q_and (q_cmp (op_eqP hr.units) l_eq (q_callB l_len call_len (by rfl) (bt "len" (by decide)) (by decide +kernel) (qa_cons (qv 0) qa_nil)) (q_callB l_len call_len (by rfl) (bt "len" (by decide)) (by decide +kernel) (qa_cons (qv 1) qa_nil)) (nomark _)) (q_one (q_callB l_all (cr_all rfl) (by rfl) (bt "all" (by decide)) (by decide +kernel) (qa_cons (EF.ev (f_lc (own := [("_law_k", 2)]) (S := [2]) rfl sc_law_alike.nd (blkOk_by (N := M_law_alike) (sc := defScope s_law_alike) (by decide +kernel)) (i_rg1 (q_callB l_len call_len (by rfl) (bt "len" (by decide)) (by decide +kernel) (qa_cons (qv 1) qa_nil)) (by rfl) (bt "range" (by decide))) (fun _ _ _ _ _ => g_name sc_law_alike.nd rfl (by first | exact Or.inl rfl | exact Or.inr rfl)) (fun _ _ _ _ _ => ts_nil) (fun _ _ _ _ _ => q_cal c_law_alike hr (by first | decide | exact Nat.le_refl _ | (simp only [Nat.add_eq]; omega)) (by rfl) (qa_cons (q_ix (qv 0) (qv 2)) (qa_cons (q_ix (qv 1) (qv 2)) qa_nil))))) qa_nil))))))))))), pure_ren rfl (pure_law_alike n)⟩, hm, F.kp, F.bindsN (ps := ["_law_found", "_law_due"]) fun _ _ _ _ _ _ us hl => match us, hl with | [_, _], _ => rfl, .nil, consts_nil⟩
theorem cal_law_alike (bt : Bt mg) (hm : mg "_law_alike" = some (.ref f)) (F : FunD K "_law_alike" "_law_alike" (defArgs s_law_alike) (defBody s_law_alike) (defScope s_law_alike) [] [] f fd) : Cal P w K mg base 13 "_law_alike" false ["_law_found", "_law_due"] [] sp_law_alike := (okr_law_alike bt hm F 12).mono (by decide)
abbrev M_law_end_text : List Str := ["_law_end"]
theorem sc_law_end_text : FnScope M_law_end_text ["_law_end"] (defScope s_law_end_text) := ⟨rfl, rfl, rfl, by decide +kernel, rfl, by decide +kernel, by decide +kernel⟩
theorem len_law_end_text : ∀ fl ds Q, sp_law_end_text fl ds Q → ds.length + (if false = true then 1 else 0) = 1 := by
  intro fl ds Q h
  unfold sp_law_end_text at h
  grind
theorem ok_law_end_text (bt : Bt mg) (F : FunD K "_law_end_text" "_law_end_text" (defArgs s_law_end_text) (defBody s_law_end_text) (defScope s_law_end_text) [] [] f fd) : FnOk P w K mg base CX0 1 f fd ["_law_end"] (spOf ⟨K, P, w⟩ false sp_law_end_text) :=
  defD_ok false F sc_law_end_text len_law_end_text (by decide) fun cdv A outer s H E hr => ⟨T_law_end_text, (s_cons (s_if (t_cmp (op_eqP hr.units) l_eq (q_ix (qv 0) (q_int)) (q_int) (nomark _)) (s_one (s_ret (q_op op_addA l_add (q_str) (q_ix (qv 0) (q_int))))) s_nil)
    (s_one (s_ret (q_op op_addA l_add (q_ix (qv 0) (q_int)) (q_str))))), pure_ren rfl pure_law_end_text⟩
theorem cal_law_end_text (bt : Bt mg) (hm : mg "_law_end_text" = some (.ref f)) (F : FunD K "_law_end_text" "_law_end_text" (defArgs s_law_end_text) (defBody s_law_end_text) (defScope s_law_end_text) [] [] f fd) : Cal P w K mg base 1 "_law_end_text" false ["_law_end"] [] sp_law_end_text := ⟨f, fd, [], [], ok_law_end_text bt F, hm, F.kp, F.bindsN (ps := ["_law_end"]) fun _ _ _ _ _ _ us hl => match us, hl with | [_], _ => rfl, .nil, consts_nil⟩
abbrev M_law_joints_text : List Str := ["_law_joints", "_law_texts", "_law_joint", "_law_end"]
theorem sc_law_joints_text : FnScope M_law_joints_text ["_law_joints"] (defScope s_law_joints_text) := ⟨rfl, rfl, rfl, by decide +kernel, rfl, by decide +kernel, by decide +kernel⟩
theorem len_law_joints_text : ∀ fl ds Q, sp_law_joints_text fl ds Q → ds.length + (if false = true then 1 else 0) = 1 := by
  intro fl ds Q h
  unfold sp_law_joints_text at h
  grind
theorem ok_law_joints_text (bt : Bt mg) (c_law_end_text : Cal P w K mg base 1 "_law_end_text" false ["_law_end"] [] sp_law_end_text) (F : FunD K "_law_joints_text" "_law_joints_text" (defArgs s_law_joints_text) (defBody s_law_joints_text) (defScope s_law_joints_text) [] [] f fd) : FnOk P w K mg base CX0 2 f fd ["_law_joints"] (spOf ⟨K, P, w⟩ false sp_law_joints_text) :=
  defD_ok false F sc_law_joints_text len_law_joints_text (by decide) fun cdv A outer s H E hr => ⟨T_law_joints_text, (s_cons (s_setF (i := 1) sc_law_joints_text.nd rfl (by first | exact Or.inl rfl | exact Or.inr rfl) (f_lst (qa_nil)))
    (s_cons (s_for PassesOwn.never rfl (i_any (qv 0)) (g_name sc_law_joints_text.nd rfl (by first | exact Or.inl rfl | exact Or.inr rfl)) (s_one (s_expr (q_mo 1 l_append PySem.F.slot_list_append PySem.F.type_list_append mt_append (qa_cons (q_join (q_str) (EF.ev (f_lc (own := [("_law_end", 3)]) (S := [3]) rfl sc_law_joints_text.nd (blkOk_by (N := M_law_joints_text) (sc := defScope s_law_joints_text) (by decide +kernel)) (i_any (qv 2)) (fun _ _ _ _ _ => g_name sc_law_joints_text.nd rfl (by first | exact Or.inl rfl | exact Or.inr rfl)) (fun _ _ _ _ _ => ts_nil) (fun _ _ _ _ _ => q_cal c_law_end_text hr (by first | decide | exact Nat.le_refl _ | (simp only [Nat.add_eq]; omega)) (by rfl) (qa_cons (qv 3) qa_nil))))) qa_nil)))))
    (s_one (s_ret (q_join (q_str) (qv 1)))))), pure_ren rfl pure_law_joints_text⟩
theorem cal_law_joints_text (bt : Bt mg) (c_law_end_text : Cal P w K mg base 1 "_law_end_text" false ["_law_end"] [] sp_law_end_text) (hm : mg "_law_joints_text" = some (.ref f)) (F : FunD K "_law_joints_text" "_law_joints_text" (defArgs s_law_joints_text) (defBody s_law_joints_text) (defScope s_law_joints_text) [] [] f fd) : Cal P w K mg base 2 "_law_joints_text" false ["_law_joints"] [] sp_law_joints_text := ⟨f, fd, [], [], ok_law_joints_text bt c_law_end_text F, hm, F.kp, F.bindsN (ps := ["_law_joints"]) fun _ _ _ _ _ _ us hl => match us, hl with | [_], _ => rfl, .nil, consts_nil⟩
abbrev M_law_deed_text_2 : List Str := ["_law_deed", "_law_part"]
theorem sc_law_deed_text_2 : FnScope M_law_deed_text_2 ["_law_deed"] (defScope s_law_deed_text_2) := ⟨rfl, rfl, rfl, by decide +kernel, rfl, by decide +kernel, by decide +kernel⟩
theorem len_law_deed_text_2 : ∀ fl ds Q, sp_law_deed_text_2 fl ds Q → ds.length + (if false = true then 1 else 0) = 1 := by
  intro fl ds Q h
  unfold sp_law_deed_text_2 at h
  grind
theorem ok_law_deed_text_2 (bt : Bt mg) (c_law_joints_text : Cal P w K mg base 2 "_law_joints_text" false ["_law_joints"] [] sp_law_joints_text) (F : FunD K "_law_deed_text" "_law_deed_text" (defArgs s_law_deed_text_2) (defBody s_law_deed_text_2) (defScope s_law_deed_text_2) [] [] f fd) : FnOk P w K mg base CX0 3 f fd ["_law_deed"] (spOf ⟨K, P, w⟩ false sp_law_deed_text_2) :=
  defD_ok false F sc_law_deed_text_2 len_law_deed_text_2 (by decide) fun cdv A outer s H E hr => ⟨T_law_deed_text_2, (s_cons (s_if (t_val (q_isi .str (q_ix (qv 0) (q_int)) (by rfl) (bt "isinstance" (by decide)) (by rfl) (bt "str" (by decide)) (by decide +kernel))) (s_one (s_ret (q_join (q_str) (EF.ev (f_lc (own := [("_law_part", 1)]) (S := [1]) rfl sc_law_deed_text_2.nd (blkOk_by (N := M_law_deed_text_2) (sc := defScope s_law_deed_text_2) (by decide +kernel)) (i_any (qv 0)) (fun _ _ _ _ _ => g_name sc_law_deed_text_2.nd rfl (by first | exact Or.inl rfl | exact Or.inr rfl)) (fun _ _ _ _ _ => ts_nil) (fun _ _ _ _ _ => q_callTy l_strI call_strA (by rfl) (bt "str" (by decide)) (by decide +kernel) (qa_cons (qv 1) qa_nil))))))) s_nil)
    (s_one (s_ret (q_op op_addA l_add (q_op op_addA l_add (q_cal c_law_joints_text hr (by first | decide | exact Nat.le_refl _ | (simp only [Nat.add_eq]; omega)) (by rfl) (qa_cons (q_ix (qv 0) (q_int)) qa_nil)) (q_str)) (q_cal c_law_joints_text hr (by first | decide | exact Nat.le_refl _ | (simp only [Nat.add_eq]; omega)) (by rfl) (qa_cons (q_ix (qv 0) (q_int)) qa_nil)))))), pure_ren rfl pure_law_deed_text_2⟩
theorem cal_law_deed_text_2 (bt : Bt mg) (c_law_joints_text : Cal P w K mg base 2 "_law_joints_text" false ["_law_joints"] [] sp_law_joints_text) (hm : mg "_law_deed_text" = some (.ref f)) (F : FunD K "_law_deed_text" "_law_deed_text" (defArgs s_law_deed_text_2) (defBody s_law_deed_text_2) (defScope s_law_deed_text_2) [] [] f fd) : Cal P w K mg base 3 "_law_deed_text" false ["_law_deed"] [] sp_law_deed_text_2 := ⟨f, fd, [], [], ok_law_deed_text_2 bt c_law_joints_text F, hm, F.kp, F.bindsN (ps := ["_law_deed"]) fun _ _ _ _ _ _ us hl => match us, hl with | [_], _ => rfl, .nil, consts_nil⟩
abbrev M_law_with : List Str := ["_law_word", "_law_text_here"]
theorem sc_law_with : FnScope M_law_with ["_law_word", "_law_text_here"] (defScope s_law_with) := ⟨rfl, rfl, rfl, by decide +kernel, rfl, by decide +kernel, by decide +kernel⟩
theorem len_law_with : ∀ fl ds Q, sp_law_with fl ds Q → ds.length + (if false = true then 1 else 0) = 2 := by
  intro fl ds Q h
  unfold sp_law_with at h
  grind
theorem ok_law_with (bt : Bt mg) (F : FunD K "_law_with" "_law_with" (defArgs s_law_with) (defBody s_law_with) (defScope s_law_with) [] [] f fd) : FnOk P w K mg base CX0 1 f fd ["_law_word", "_law_text_here"] (spOf ⟨K, P, w⟩ false sp_law_with) :=
  defD_ok false F sc_law_with len_law_with (by decide) fun cdv A outer s H E hr => ⟨T_law_with, (s_cons (s_if (t_cmp (op_eqP hr.units) l_eq (qv 1) (q_str) (nomark _)) (s_one (s_ret (qv 0))) s_nil)
    (s_one (s_ret (q_op op_addA l_add (q_op op_addA l_add (qv 0) (q_str)) (qv 1))))), pure_ren rfl pure_law_with⟩
theorem cal_law_with (bt : Bt mg) (hm : mg "_law_with" = some (.ref f)) (F : FunD K "_law_with" "_law_with" (defArgs s_law_with) (defBody s_law_with) (defScope s_law_with) [] [] f fd) : Cal P w K mg base 1 "_law_with" false ["_law_word", "_law_text_here"] [] sp_law_with := ⟨f, fd, [], [], ok_law_with bt F, hm, F.kp, F.bindsN (ps := ["_law_word", "_law_text_here"]) fun _ _ _ _ _ _ us hl => match us, hl with | [_, _], _ => rfl, .nil, consts_nil⟩
abbrev M_law_ring_lines : List Str := ["_law_rings", "_law_ring", "_law_point"]
theorem sc_law_ring_lines : FnScope M_law_ring_lines ["_law_rings"] (defScope s_law_ring_lines) := ⟨rfl, rfl, rfl, by decide +kernel, rfl, by decide +kernel, by decide +kernel⟩
theorem len_law_ring_lines : ∀ fl ds Q, sp_law_ring_lines fl ds Q → ds.length + (if false = true then 1 else 0) = 1 := by
  intro fl ds Q h
  unfold sp_law_ring_lines at h
  grind
theorem ok_law_ring_lines (bt : Bt mg) (F : FunD K "_law_ring_lines" "_law_ring_lines" (defArgs s_law_ring_lines) (defBody s_law_ring_lines) (defScope s_law_ring_lines) [] [] f fd) : FnOk P w K mg base CX0 1 f fd ["_law_rings"] (spOf ⟨K, P, w⟩ false sp_law_ring_lines) :=
  defD_ok false F sc_law_ring_lines len_law_ring_lines (by decide) fun cdv A outer s H E hr => ⟨T_law_ring_lines, (s_one (s_retF (f_lc (own := [("_law_ring", 1)]) (S := [1]) rfl sc_law_ring_lines.nd (blkOk_by (N := M_law_ring_lines) (sc := defScope s_law_ring_lines) (by decide +kernel)) (i_any (qv 0)) (fun _ _ _ _ _ => g_name sc_law_ring_lines.nd rfl (by first | exact Or.inl rfl | exact Or.inr rfl)) (fun _ _ _ _ _ => ts_nil) (fun _ _ _ _ _ => q_op op_addA l_add (q_str) (q_join (q_str) (EF.ev (f_lc (own := [("_law_point", 2)]) (S := [2]) rfl sc_law_ring_lines.nd (blk2 (N := M_law_ring_lines) (sc0 := defScope s_law_ring_lines) rfl rfl (by decide +kernel)) (i_any (qv 1)) (fun _ _ _ _ _ => g_name sc_law_ring_lines.nd rfl (by first | exact Or.inl rfl | exact Or.inr rfl)) (fun _ _ _ _ _ => ts_nil) (fun _ _ _ _ _ => q_callTy l_strI call_strA (by rfl) (bt "str" (by decide)) (by decide +kernel) (qa_cons (qv 2) qa_nil))))))))), pure_ren rfl pure_law_ring_lines⟩
theorem cal_law_ring_lines (bt : Bt mg) (hm : mg "_law_ring_lines" = some (.ref f)) (F : FunD K "_law_ring_lines" "_law_ring_lines" (defArgs s_law_ring_lines) (defBody s_law_ring_lines) (defScope s_law_ring_lines) [] [] f fd) : Cal P w K mg base 1 "_law_ring_lines" false ["_law_rings"] [] sp_law_ring_lines := ⟨f, fd, [], [], ok_law_ring_lines bt F, hm, F.kp, F.bindsN (ps := ["_law_rings"]) fun _ _ _ _ _ _ us hl => match us, hl with | [_], _ => rfl, .nil, consts_nil⟩
abbrev M_law_part_lines : List Str := ["_law_book", "_law_parts", "_law_knots", "_law_s", "_law_e", "_law_kind", "_law_mine", "_law_others"]
theorem sc_law_part_lines : FnScope M_law_part_lines ["_law_book", "_law_parts"] (defScope s_law_part_lines) := ⟨rfl, rfl, rfl, by decide +kernel, rfl, by decide +kernel, by decide +kernel⟩
theorem len_law_part_lines : ∀ fl ds Q, sp_law_part_lines fl ds Q → ds.length + (if false = true then 1 else 0) = 2 := by
  intro fl ds Q h
  unfold sp_law_part_lines at h
  grind
theorem ok_law_part_lines (bt : Bt mg) (c_law_with : Cal P w K mg base 1 "_law_with" false ["_law_word", "_law_text_here"] [] sp_law_with) (c_law_joints_text : Cal P w K mg base 2 "_law_joints_text" false ["_law_joints"] [] sp_law_joints_text) (c_law_ring_lines : Cal P w K mg base 1 "_law_ring_lines" false ["_law_rings"] [] sp_law_ring_lines) (F : FunD K "_law_part_lines" "_law_part_lines" (defArgs s_law_part_lines) (defBody s_law_part_lines) (defScope s_law_part_lines) [] [] f fd) : FnOk P w K mg base CX0 3 f fd ["_law_book", "_law_parts"] (spOf ⟨K, P, w⟩ false sp_law_part_lines) :=
  defD_ok false F sc_law_part_lines len_law_part_lines (by decide) fun cdv A outer s H E hr => ⟨T_law_part_lines, (s_cons (s_if (t_cmp (op_eqP hr.units) l_eq (qv 0) (q_str) (nomark _)) (s_one (s_retF (f_lst (qa_cons (q_cal c_law_with hr (by first | decide | exact Nat.le_refl _ | (simp only [Nat.add_eq]; omega)) (by rfl) (qa_cons (q_str) (qa_cons (q_cal c_law_joints_text hr (by first | decide | exact Nat.le_refl _ | (simp only [Nat.add_eq]; omega)) (by rfl) (qa_cons (q_ix (qv 1) (q_int)) qa_nil)) qa_nil))) (qa_cons (q_cal c_law_with hr (by first | decide | exact Nat.le_refl _ | (simp only [Nat.add_eq]; omega)) (by rfl) (qa_cons (q_str) (qa_cons (q_cal c_law_joints_text hr (by first | decide | exact Nat.le_refl _ | (simp only [Nat.add_eq]; omega)) (by rfl) (qa_cons (q_ix (qv 1) (q_int)) qa_nil)) qa_nil))) qa_nil))))) s_nil)
    (s_cons (s_if (t_cmp (op_eqP hr.units) l_eq (qv 0) (q_str) (nomark _)) (s_one (s_retF (f_cal c_law_ring_lines hr (by first | decide | exact Nat.le_refl _ | (simp only [Nat.add_eq]; omega)) (by rfl) (qa_cons (q_ix (qv 1) (q_int)) qa_nil)))) s_nil)
    (s_cons (s_if (t_cmp (op_eqP hr.units) l_eq (qv 0) (q_str) (nomark _)) (s_cons (s_set (i := 2) sc_law_part_lines.nd rfl (by first | exact Or.inl rfl | exact Or.inr rfl) (q_cal c_law_with hr (by first | decide | exact Nat.le_refl _ | (simp only [Nat.add_eq]; omega)) (by rfl) (qa_cons (q_str) (qa_cons (q_join (q_str) (EF.ev (f_lc (own := [("_law_s", 3), ("_law_e", 4)]) (S := [3, 4]) rfl sc_law_part_lines.nd (blkOk_by (N := M_law_part_lines) (sc := defScope s_law_part_lines) (by decide +kernel)) (i_any (q_ix (qv 1) (q_int))) (fun _ _ _ _ _ => g_tup rfl (gs_cons (g_name sc_law_part_lines.nd rfl (by first | exact Or.inl rfl | exact Or.inr rfl)) (gs_cons (g_name sc_law_part_lines.nd rfl (by first | exact Or.inl rfl | exact Or.inr rfl)) gs_nil))) (fun _ _ _ _ _ => ts_nil) (fun _ _ _ _ _ => q_op op_addA l_add (q_op op_addA l_add (q_callTy l_strI call_strA (by rfl) (bt "str" (by decide)) (by decide +kernel) (qa_cons (qv 3) qa_nil)) (q_str)) (q_callTy l_strI call_strA (by rfl) (bt "str" (by decide)) (by decide +kernel) (qa_cons (qv 4) qa_nil)))))) qa_nil))))
    (s_one (s_retF (f_add (q_cal c_law_ring_lines hr (by first | decide | exact Nat.le_refl _ | (simp only [Nat.add_eq]; omega)) (by rfl) (qa_cons (q_ix (qv 1) (q_int)) qa_nil)) (EF.ev (f_lst (qa_cons (qv 2) (qa_cons (q_op op_addA l_add (q_str) (q_callTy l_strI call_strA (by rfl) (bt "str" (by decide)) (by decide +kernel) (qa_cons (q_ix (qv 1) (q_int)) qa_nil))) qa_nil)))))))) s_nil)
    (s_one (s_retF (f_lc (own := [("_law_kind", 5), ("_law_mine", 6), ("_law_others", 7)]) (S := [5, 6, 7]) rfl sc_law_part_lines.nd (blkOk_by (N := M_law_part_lines) (sc := defScope s_law_part_lines) (by decide +kernel)) (i_any (qv 1)) (fun _ _ _ _ _ => g_tup rfl (gs_cons (g_name sc_law_part_lines.nd rfl (by first | exact Or.inl rfl | exact Or.inr rfl)) (gs_cons (g_name sc_law_part_lines.nd rfl (by first | exact Or.inl rfl | exact Or.inr rfl)) (gs_cons (g_name sc_law_part_lines.nd rfl (by first | exact Or.inl rfl | exact Or.inr rfl)) gs_nil)))) (fun _ _ _ _ _ => ts_nil) (fun _ _ _ _ _ => q_op op_addA l_add (q_op op_addA l_add (q_op op_addA l_add (q_op op_addA l_add (qv 5) (q_str)) (q_cal c_law_joints_text hr (by first | decide | exact Nat.le_refl _ | (simp only [Nat.add_eq]; omega)) (by rfl) (qa_cons (qv 6) qa_nil))) (q_str)) (q_cal c_law_joints_text hr (by first | decide | exact Nat.le_refl _ | (simp only [Nat.add_eq]; omega)) (by rfl) (qa_cons (qv 7) qa_nil))))))))), pure_ren rfl pure_law_part_lines⟩
theorem cal_law_part_lines (bt : Bt mg) (c_law_with : Cal P w K mg base 1 "_law_with" false ["_law_word", "_law_text_here"] [] sp_law_with) (c_law_joints_text : Cal P w K mg base 2 "_law_joints_text" false ["_law_joints"] [] sp_law_joints_text) (c_law_ring_lines : Cal P w K mg base 1 "_law_ring_lines" false ["_law_rings"] [] sp_law_ring_lines) (hm : mg "_law_part_lines" = some (.ref f)) (F : FunD K "_law_part_lines" "_law_part_lines" (defArgs s_law_part_lines) (defBody s_law_part_lines) (defScope s_law_part_lines) [] [] f fd) : Cal P w K mg base 3 "_law_part_lines" false ["_law_book", "_law_parts"] [] sp_law_part_lines := ⟨f, fd, [], [], ok_law_part_lines bt c_law_with c_law_joints_text c_law_ring_lines F, hm, F.kp, F.bindsN (ps := ["_law_book", "_law_parts"]) fun _ _ _ _ _ _ us hl => match us, hl with | [_, _], _ => rfl, .nil, consts_nil⟩
abbrev M_law_text : List Str := ["_law_book", "_law_told", "_law_lines", "_law_deed"]
theorem sc_law_text : FnScope M_law_text ["_law_book", "_law_told"] (defScope s_law_text) := ⟨rfl, rfl, rfl, by decide +kernel, rfl, by decide +kernel, by decide +kernel⟩
theorem len_law_text : ∀ fl ds Q, sp_law_text fl ds Q → ds.length + (if false = true then 1 else 0) = 2 := by
  intro fl ds Q h
  unfold sp_law_text at h
  grind
theorem ok_law_text (bt : Bt mg) (c_law_part_lines : Cal P w K mg base 3 "_law_part_lines" false ["_law_book", "_law_parts"] [] sp_law_part_lines) (c_law_deed_text_2 : Cal P w K mg base 3 "_law_deed_text" false ["_law_deed"] [] sp_law_deed_text_2) (F : FunD K "_law_text" "_law_text" (defArgs s_law_text) (defBody s_law_text) (defScope s_law_text) [] [] f fd) : FnOk P w K mg base CX0 4 f fd ["_law_book", "_law_told"] (spOf ⟨K, P, w⟩ false sp_law_text) :=
  defD_ok false F sc_law_text len_law_text (by decide) fun cdv A outer s H E hr => ⟨T_law_text, (s_cons (s_set (i := 2) sc_law_text.nd rfl (by first | exact Or.inl rfl | exact Or.inr rfl) (q_op op_addA l_add (q_op op_addA l_add (EF.ev (f_lst (qa_cons (q_op op_addA l_add (q_op op_addA l_add (qv 0) (q_str)) (q_callTy l_strI call_strA (by rfl) (bt "str" (by decide)) (by decide +kernel) (qa_cons (q_ix (qv 1) (q_int)) qa_nil))) qa_nil))) (q_cal c_law_part_lines hr (by first | decide | exact Nat.le_refl _ | (simp only [Nat.add_eq]; omega)) (by rfl) (qa_cons (qv 0) (qa_cons (q_ix (qv 1) (q_int)) qa_nil)))) (EF.ev (f_lst (qa_cons (q_str) qa_nil)))))
    (s_one (s_ret (q_join (q_str) (q_op op_addA l_add (qv 2) (EF.ev (f_lc (own := [("_law_deed", 3)]) (S := [3]) rfl sc_law_text.nd (blkOk_by (N := M_law_text) (sc := defScope s_law_text) (by decide +kernel)) (i_any (q_ix (qv 1) (q_int))) (fun _ _ _ _ _ => g_name sc_law_text.nd rfl (by first | exact Or.inl rfl | exact Or.inr rfl)) (fun _ _ _ _ _ => ts_nil) (fun _ _ _ _ _ => q_cal c_law_deed_text_2 hr (by first | decide | exact Nat.le_refl _ | (simp only [Nat.add_eq]; omega)) (by rfl) (qa_cons (qv 3) qa_nil))))))))), pure_ren rfl pure_law_text⟩
theorem cal_law_text (bt : Bt mg) (c_law_part_lines : Cal P w K mg base 3 "_law_part_lines" false ["_law_book", "_law_parts"] [] sp_law_part_lines) (c_law_deed_text_2 : Cal P w K mg base 3 "_law_deed_text" false ["_law_deed"] [] sp_law_deed_text_2) (hm : mg "_law_text" = some (.ref f)) (F : FunD K "_law_text" "_law_text" (defArgs s_law_text) (defBody s_law_text) (defScope s_law_text) [] [] f fd) : Cal P w K mg base 4 "_law_text" false ["_law_book", "_law_told"] [] sp_law_text := ⟨f, fd, [], [], ok_law_text bt c_law_part_lines c_law_deed_text_2 F, hm, F.kp, F.bindsN (ps := ["_law_book", "_law_told"]) fun _ _ _ _ _ _ us hl => match us, hl with | [_, _], _ => rfl, .nil, consts_nil⟩
abbrev M_law_number : List Str := ["_law_flow_here", "_law_figures"]
theorem sc_law_number : FnScope M_law_number ["_law_flow_here", "_law_figures"] (defScope s_law_number) := ⟨rfl, rfl, rfl, by decide +kernel, rfl, by decide +kernel, by decide +kernel⟩
theorem len_law_number : ∀ fl ds Q, sp_law_number fl ds Q → ds.length + (if true = true then 1 else 0) = 2 := by
  intro fl ds Q h
  unfold sp_law_number at h
  grind
theorem ok_law_number (bt : Bt mg) (c_law_pick : Cal P w K mg base 1 "_law_pick" true ["_law_flow_here", "_law_many_here"] [] sp_law_pick) (F : FunD K "_law_number" "_law_number" (defArgs s_law_number) (defBody s_law_number) (defScope s_law_number) [] [] f fd) : FnOk P w K mg base CX0 2 f fd ["_law_flow_here", "_law_figures"] (spOf ⟨K, P, w⟩ true sp_law_number) :=
  defD_ok true F sc_law_number len_law_number (by decide) fun cdv A outer s H E hr => ⟨T_law_number, (s_one (s_ret (q_calL 0 c_law_pick hr (by first | decide | exact Nat.le_refl _ | (simp only [Nat.add_eq]; omega)) (by rfl) (qa_cons (q_ix (EF.ev (f_lst (qa_cons (q_int) (qa_cons (q_int) (qa_cons (q_int) (qa_cons (q_int) (qa_cons (q_int) qa_nil))))))) (q_calL 0 c_law_pick hr (by first | decide | exact Nat.le_refl _ | (simp only [Nat.add_eq]; omega)) (by rfl) (qa_cons (q_op op_addA l_add (qv 1) (q_int)) qa_nil))) qa_nil)))), pure_ren rfl pure_law_number⟩
theorem cal_law_number (bt : Bt mg) (c_law_pick : Cal P w K mg base 1 "_law_pick" true ["_law_flow_here", "_law_many_here"] [] sp_law_pick) (hm : mg "_law_number" = some (.ref f)) (F : FunD K "_law_number" "_law_number" (defArgs s_law_number) (defBody s_law_number) (defScope s_law_number) [] [] f fd) : Cal P w K mg base 2 "_law_number" true ["_law_flow_here", "_law_figures"] [] sp_law_number := ⟨f, fd, [], [], ok_law_number bt c_law_pick F, hm, F.kp, F.bindsN (ps := ["_law_flow_here", "_law_figures"]) fun _ _ _ _ _ _ us hl => match us, hl with | [_, _], _ => rfl, .nil, consts_nil⟩
abbrev M_law_some_ends : List Str := ["_law_flow_here", "_law_names_here", "_law_many_here", "_law_ends", "_law_at"]
theorem sc_law_some_ends : FnScope M_law_some_ends ["_law_flow_here", "_law_names_here", "_law_many_here"] (defScope s_law_some_ends) := ⟨rfl, rfl, rfl, by decide +kernel, rfl, by decide +kernel, by decide +kernel⟩
theorem len_law_some_ends : ∀ fl ds Q, sp_law_some_ends fl ds Q → ds.length + (if true = true then 1 else 0) = 3 := by
  intro fl ds Q h
  unfold sp_law_some_ends at h
  grind
theorem ok_law_some_ends (bt : Bt mg) (c_law_pick : Cal P w K mg base 1 "_law_pick" true ["_law_flow_here", "_law_many_here"] [] sp_law_pick) (F : FunD K "_law_some_ends" "_law_some_ends" (defArgs s_law_some_ends) (defBody s_law_some_ends) (defScope s_law_some_ends) [] [] f fd) : FnOk P w K mg base CX0 2 f fd ["_law_flow_here", "_law_names_here", "_law_many_here"] (spOf ⟨K, P, w⟩ true sp_law_some_ends) :=
  defD_ok true F sc_law_some_ends len_law_some_ends (by decide) fun cdv A outer s H E hr => ⟨T_law_some_ends, (s_cons (s_setF (i := 3) sc_law_some_ends.nd rfl (by first | exact Or.inl rfl | exact Or.inr rfl) (f_lst (qa_nil)))
    (s_cons (s_while PassesOwn.never (t_cmp op_ltA l_lt (q_callB l_len call_len (by rfl) (bt "len" (by decide)) (by decide +kernel) (qa_cons (qv 3) qa_nil)) (qv 2) (nomark _)) (s_cons (s_set (i := 4) sc_law_some_ends.nd rfl (by first | exact Or.inl rfl | exact Or.inr rfl) (q_calL 0 c_law_pick hr (by first | decide | exact Nat.le_refl _ | (simp only [Nat.add_eq]; omega)) (by rfl) (qa_cons (q_op op_mulA l_mul (q_int) (q_callB l_len call_len (by rfl) (bt "len" (by decide)) (by decide +kernel) (qa_cons (qv 1) qa_nil))) qa_nil)))
    (s_cons (s_while PassesOwn.never (t_cmp (op_inA hr.units) l_in (q_tup (qa_cons (q_ix (qv 1) (q_op op_fdiv l_div (qv 4) (q_int))) (qa_cons (q_op op_mod l_mod (qv 4) (q_int)) qa_nil))) (qv 3) (by rfl)) (s_one (s_set (i := 4) sc_law_some_ends.nd rfl (by first | exact Or.inl rfl | exact Or.inr rfl) (q_op op_mod l_mod (q_op op_addA l_add (qv 4) (q_int)) (q_op op_mulA l_mul (q_int) (q_callB l_len call_len (by rfl) (bt "len" (by decide)) (by decide +kernel) (qa_cons (qv 1) qa_nil)))))))
    (s_one (s_expr (q_mo 3 l_append PySem.F.slot_list_append PySem.F.type_list_append mt_append (qa_cons (q_tup (qa_cons (q_ix (qv 1) (q_op op_fdiv l_div (qv 4) (q_int))) (qa_cons (q_op op_mod l_mod (qv 4) (q_int)) qa_nil))) qa_nil)))))))
    (s_one (s_retS 3)))), pure_ren rfl pure_law_some_ends⟩
theorem cal_law_some_ends (bt : Bt mg) (c_law_pick : Cal P w K mg base 1 "_law_pick" true ["_law_flow_here", "_law_many_here"] [] sp_law_pick) (hm : mg "_law_some_ends" = some (.ref f)) (F : FunD K "_law_some_ends" "_law_some_ends" (defArgs s_law_some_ends) (defBody s_law_some_ends) (defScope s_law_some_ends) [] [] f fd) : Cal P w K mg base 2 "_law_some_ends" true ["_law_flow_here", "_law_names_here", "_law_many_here"] [] sp_law_some_ends := ⟨f, fd, [], [], ok_law_some_ends bt c_law_pick F, hm, F.kp, F.bindsN (ps := ["_law_flow_here", "_law_names_here", "_law_many_here"]) fun _ _ _ _ _ _ us hl => match us, hl with | [_, _, _], _ => rfl, .nil, consts_nil⟩
abbrev M_law_some_joints : List Str := ["_law_flow_here", "_law_names_here", "_law_least", "_law_found", "_law_k"]
theorem sc_law_some_joints : FnScope M_law_some_joints ["_law_flow_here", "_law_names_here", "_law_least"] (defScope s_law_some_joints) := ⟨rfl, rfl, rfl, by decide +kernel, rfl, by decide +kernel, by decide +kernel⟩
theorem len_law_some_joints : ∀ fl ds Q, sp_law_some_joints fl ds Q → ds.length + (if true = true then 1 else 0) = 3 := by
  intro fl ds Q h
  unfold sp_law_some_joints at h
  grind
theorem ok_law_some_joints (bt : Bt mg) (c_law_pick : Cal P w K mg base 1 "_law_pick" true ["_law_flow_here", "_law_many_here"] [] sp_law_pick) (c_law_some_ends : Cal P w K mg base 2 "_law_some_ends" true ["_law_flow_here", "_law_names_here", "_law_many_here"] [] sp_law_some_ends) (F : FunD K "_law_some_joints" "_law_some_joints" (defArgs s_law_some_joints) (defBody s_law_some_joints) (defScope s_law_some_joints) [] [] f fd) : FnOk P w K mg base CX0 3 f fd ["_law_flow_here", "_law_names_here", "_law_least"] (spOf ⟨K, P, w⟩ true sp_law_some_joints) :=
  defD_ok true F sc_law_some_joints len_law_some_joints (by decide) fun cdv A outer s H E hr => ⟨T_law_some_joints, (s_cons (s_setF (i := 3) sc_law_some_joints.nd rfl (by first | exact Or.inl rfl | exact Or.inr rfl) (f_lst (qa_nil)))
    (s_cons (s_for PassesOwn.never rfl (i_rg1 (q_op op_addA l_add (qv 2) (q_calL 0 c_law_pick hr (by first | decide | exact Nat.le_refl _ | (simp only [Nat.add_eq]; omega)) (by rfl) (qa_cons (q_int) qa_nil))) (by rfl) (bt "range" (by decide))) (g_name sc_law_some_joints.nd rfl (by first | exact Or.inl rfl | exact Or.inr rfl)) (s_one (s_expr (q_mo 3 l_append PySem.F.slot_list_append PySem.F.type_list_append mt_append (qa_cons (q_callTy l_tuple call_tuple_of (by rfl) (bt "tuple" (by decide)) (by decide +kernel) (qa_cons (EF.ev (f_callB l_sortD (cr_sortedD hr.units) (by rfl) (bt "sorted" (by decide)) (by decide +kernel) (qa_cons (q_calL 0 c_law_some_ends hr (by first | decide | exact Nat.le_refl _ | (simp only [Nat.add_eq]; omega)) (by rfl) (qa_cons (qv 1) (qa_cons (q_op op_addA l_add (q_int) (q_calL 0 c_law_pick hr (by first | decide | exact Nat.le_refl _ | (simp only [Nat.add_eq]; omega)) (by rfl) (qa_cons (q_int) qa_nil))) qa_nil))) qa_nil))) qa_nil)) qa_nil)))))
    (s_one (s_ret (q_callTy l_tuple call_tuple_of (by rfl) (bt "tuple" (by decide)) (by decide +kernel) (qa_cons (qv 3) qa_nil)))))), pure_ren rfl pure_law_some_joints⟩
theorem cal_law_some_joints (bt : Bt mg) (c_law_pick : Cal P w K mg base 1 "_law_pick" true ["_law_flow_here", "_law_many_here"] [] sp_law_pick) (c_law_some_ends : Cal P w K mg base 2 "_law_some_ends" true ["_law_flow_here", "_law_names_here", "_law_many_here"] [] sp_law_some_ends) (hm : mg "_law_some_joints" = some (.ref f)) (F : FunD K "_law_some_joints" "_law_some_joints" (defArgs s_law_some_joints) (defBody s_law_some_joints) (defScope s_law_some_joints) [] [] f fd) : Cal P w K mg base 3 "_law_some_joints" true ["_law_flow_here", "_law_names_here", "_law_least"] [] sp_law_some_joints := ⟨f, fd, [], [], ok_law_some_joints bt c_law_pick c_law_some_ends F, hm, F.kp, F.bindsN (ps := ["_law_flow_here", "_law_names_here", "_law_least"]) fun _ _ _ _ _ _ us hl => match us, hl with | [_, _, _], _ => rfl, .nil, consts_nil⟩
abbrev M_law_some_deed : List Str := ["_law_flow_here", "_law_names_here", "_law_way", "_law_ends", "_law_pair", "_law_gone", "_law_come", "_law_k"]
theorem sc_law_some_deed : FnScope M_law_some_deed ["_law_flow_here", "_law_names_here"] (defScope s_law_some_deed) := ⟨rfl, rfl, rfl, by decide +kernel, rfl, by decide +kernel, by decide +kernel⟩
theorem len_law_some_deed : ∀ fl ds Q, sp_law_some_deed fl ds Q → ds.length + (if true = true then 1 else 0) = 2 := by
  intro fl ds Q h
  unfold sp_law_some_deed at h
  grind
theorem ok_law_some_deed (bt : Bt mg) (c_law_pick : Cal P w K mg base 1 "_law_pick" true ["_law_flow_here", "_law_many_here"] [] sp_law_pick) (c_law_number : Cal P w K mg base 2 "_law_number" true ["_law_flow_here", "_law_figures"] [] sp_law_number) (c_law_some_ends : Cal P w K mg base 2 "_law_some_ends" true ["_law_flow_here", "_law_names_here", "_law_many_here"] [] sp_law_some_ends) (F : FunD K "_law_some_deed" "_law_some_deed" (defArgs s_law_some_deed) (defBody s_law_some_deed) (defScope s_law_some_deed) [] [] f fd) : FnOk P w K mg base CX0 3 f fd ["_law_flow_here", "_law_names_here"] (spOf ⟨K, P, w⟩ true sp_law_some_deed) :=
  defD_ok true F sc_law_some_deed len_law_some_deed (by decide) fun cdv A outer s H E hr => ⟨T_law_some_deed, (s_cons (s_set (i := 2) sc_law_some_deed.nd rfl (by first | exact Or.inl rfl | exact Or.inr rfl) (q_calL 0 c_law_pick hr (by first | decide | exact Nat.le_refl _ | (simp only [Nat.add_eq]; omega)) (by rfl) (qa_cons (q_int) qa_nil)))
    (s_cons (s_if (t_cmp (op_eqP hr.units) l_eq (qv 2) (q_int) (nomark _)) (s_one (s_ret (q_tup (qa_cons (q_str) (qa_cons (q_calL 0 c_law_number hr (by first | decide | exact Nat.le_refl _ | (simp only [Nat.add_eq]; omega)) (by rfl) (qa_cons (q_int) qa_nil)) (qa_cons (q_calL 0 c_law_number hr (by first | decide | exact Nat.le_refl _ | (simp only [Nat.add_eq]; omega)) (by rfl) (qa_cons (q_int) qa_nil)) qa_nil)))))) s_nil)
    (s_cons (s_if (t_cmp (op_eqP hr.units) l_eq (qv 2) (q_int) (nomark _)) (s_one (s_ret (q_op op_addA l_add (q_tup (qa_cons (q_str) qa_nil)) (q_callTy l_tuple call_tuple_of (by rfl) (bt "tuple" (by decide)) (by decide +kernel) (qa_cons (EF.ev (f_lc (own := [("_law_k", 7)]) (S := [7]) rfl sc_law_some_deed.nd (blkOk_by (N := M_law_some_deed) (sc := defScope s_law_some_deed) (by decide +kernel)) (i_rg1 (q_int) (by rfl) (bt "range" (by decide))) (fun _ _ _ _ _ => g_name sc_law_some_deed.nd rfl (by first | exact Or.inl rfl | exact Or.inr rfl)) (fun _ _ _ _ _ => ts_nil) (fun _ _ _ _ _ => q_calL 0 c_law_number hr (by first | decide | exact Nat.le_refl _ | (simp only [Nat.add_eq]; omega)) (by rfl) (qa_cons (q_int) qa_nil)))) qa_nil))))) s_nil)
    (s_cons (s_set (i := 3) sc_law_some_deed.nd rfl (by first | exact Or.inl rfl | exact Or.inr rfl) (q_calL 0 c_law_some_ends hr (by first | decide | exact Nat.le_refl _ | (simp only [Nat.add_eq]; omega)) (by rfl) (qa_cons (qv 1) (qa_cons (q_ix (EF.ev (f_lst (qa_cons (q_int) (qa_cons (q_int) (qa_cons (q_int) (qa_cons (q_int) qa_nil)))))) (qv 2)) qa_nil))))
    (s_cons (s_set (i := 4) sc_law_some_deed.nd rfl (by first | exact Or.inl rfl | exact Or.inr rfl) (q_callTy l_tuple call_tuple_of (by rfl) (bt "tuple" (by decide)) (by decide +kernel) (qa_cons (EF.ev (f_callB l_sortD (cr_sortedD hr.units) (by rfl) (bt "sorted" (by decide)) (by decide +kernel) (qa_cons (q_sl (qv 3) o_none (o_some (q_int))) qa_nil))) qa_nil)))
    (s_cons (s_if (t_cmp (op_eqP hr.units) l_eq (qv 2) (q_int) (nomark _)) (s_one (s_ret (q_tup (qa_cons (q_tup (qa_cons (qv 4) qa_nil)) (qa_cons (q_tup (qa_cons (q_sl (qv 4) o_none (o_some (q_int))) (qa_cons (q_sl (qv 4) (o_some (q_int)) o_none) qa_nil))) qa_nil))))) s_nil)
    (s_cons (s_if (t_cmp (op_eqP hr.units) l_eq (qv 2) (q_int) (nomark _)) (s_one (s_ret (q_tup (qa_cons (q_tup (qa_cons (q_sl (qv 4) o_none (o_some (q_int))) (qa_cons (q_sl (qv 4) (o_some (q_int)) o_none) qa_nil))) (qa_cons (q_tup (qa_cons (qv 4) qa_nil)) qa_nil))))) s_nil)
    (s_cons (s_set (i := 5) sc_law_some_deed.nd rfl (by first | exact Or.inl rfl | exact Or.inr rfl) (q_callTy l_tuple call_tuple_of (by rfl) (bt "tuple" (by decide)) (by decide +kernel) (qa_cons (EF.ev (f_callB l_sortD (cr_sortedD hr.units) (by rfl) (bt "sorted" (by decide)) (by decide +kernel) (qa_cons (EF.ev (f_lst (qa_cons (qv 4) (qa_cons (q_callTy l_tuple call_tuple_of (by rfl) (bt "tuple" (by decide)) (by decide +kernel) (qa_cons (EF.ev (f_callB l_sortD (cr_sortedD hr.units) (by rfl) (bt "sorted" (by decide)) (by decide +kernel) (qa_cons (q_sl (qv 3) (o_some (q_int)) o_none) qa_nil))) qa_nil)) qa_nil)))) qa_nil))) qa_nil)))
    (s_cons (s_set (i := 6) sc_law_some_deed.nd rfl (by first | exact Or.inl rfl | exact Or.inr rfl) (EF.ev (f_lst (qa_cons (q_callTy l_tuple call_tuple_of (by rfl) (bt "tuple" (by decide)) (by decide +kernel) (qa_cons (EF.ev (f_callB l_sortD (cr_sortedD hr.units) (by rfl) (bt "sorted" (by decide)) (by decide +kernel) (qa_cons (EF.ev (f_lst (qa_cons (q_ix (qv 3) (q_int)) (qa_cons (q_ix (qv 3) (q_int)) qa_nil)))) qa_nil))) qa_nil)) (qa_cons (q_callTy l_tuple call_tuple_of (by rfl) (bt "tuple" (by decide)) (by decide +kernel) (qa_cons (EF.ev (f_callB l_sortD (cr_sortedD hr.units) (by rfl) (bt "sorted" (by decide)) (by decide +kernel) (qa_cons (q_op op_addA l_add (q_sl (qv 3) (o_some (q_int)) (o_some (q_int))) (q_sl (qv 3) (o_some (q_int)) o_none)) qa_nil))) qa_nil)) qa_nil)))))
    (s_one (s_ret (q_tup (qa_cons (qv 5) (qa_cons (q_callTy l_tuple call_tuple_of (by rfl) (bt "tuple" (by decide)) (by decide +kernel) (qa_cons (EF.ev (f_callB l_sortD (cr_sortedD hr.units) (by rfl) (bt "sorted" (by decide)) (by decide +kernel) (qa_cons (qv 6) qa_nil))) qa_nil)) qa_nil)))))))))))))), pure_ren rfl pure_law_some_deed⟩
theorem cal_law_some_deed (bt : Bt mg) (c_law_pick : Cal P w K mg base 1 "_law_pick" true ["_law_flow_here", "_law_many_here"] [] sp_law_pick) (c_law_number : Cal P w K mg base 2 "_law_number" true ["_law_flow_here", "_law_figures"] [] sp_law_number) (c_law_some_ends : Cal P w K mg base 2 "_law_some_ends" true ["_law_flow_here", "_law_names_here", "_law_many_here"] [] sp_law_some_ends) (hm : mg "_law_some_deed" = some (.ref f)) (F : FunD K "_law_some_deed" "_law_some_deed" (defArgs s_law_some_deed) (defBody s_law_some_deed) (defScope s_law_some_deed) [] [] f fd) : Cal P w K mg base 3 "_law_some_deed" true ["_law_flow_here", "_law_names_here"] [] sp_law_some_deed := ⟨f, fd, [], [], ok_law_some_deed bt c_law_pick c_law_number c_law_some_ends F, hm, F.kp, F.bindsN (ps := ["_law_flow_here", "_law_names_here"]) fun _ _ _ _ _ _ us hl => match us, hl with | [_, _], _ => rfl, .nil, consts_nil⟩
abbrev M_law_many_3 : List Str := ["_law_flow_here", "_law_many_here"]
theorem sc_law_many_3 : FnScope M_law_many_3 ["_law_flow_here"] (defScope s_law_many_3) := ⟨rfl, rfl, rfl, by decide +kernel, rfl, by decide +kernel, by decide +kernel⟩
theorem len_law_many_3 : ∀ fl ds Q, sp_law_many_3 fl ds Q → ds.length + (if true = true then 1 else 0) = 1 := by
  intro fl ds Q h
  unfold sp_law_many_3 at h
  grind
theorem ok_law_many_3 (bt : Bt mg) (c_law_pick : Cal P w K mg base 1 "_law_pick" true ["_law_flow_here", "_law_many_here"] [] sp_law_pick) (F : FunD K "_law_many" "_law_many" (defArgs s_law_many_3) (defBody s_law_many_3) (defScope s_law_many_3) [] [] f fd) : FnOk P w K mg base CX0 2 f fd ["_law_flow_here"] (spOf ⟨K, P, w⟩ true sp_law_many_3) :=
  defD_ok true F sc_law_many_3 len_law_many_3 (by decide) fun cdv A outer s H E hr => ⟨T_law_many_3, (s_cons (s_set (i := 1) sc_law_many_3.nd rfl (by first | exact Or.inl rfl | exact Or.inr rfl) (q_calL 0 c_law_pick hr (by first | decide | exact Nat.le_refl _ | (simp only [Nat.add_eq]; omega)) (by rfl) (qa_cons (q_int) qa_nil)))
    (s_cons (s_if (t_cmp (op_eqP hr.units) l_eq (q_calL 0 c_law_pick hr (by first | decide | exact Nat.le_refl _ | (simp only [Nat.add_eq]; omega)) (by rfl) (qa_cons (q_int) qa_nil)) (q_int) (nomark _)) (s_one (s_set (i := 1) sc_law_many_3.nd rfl (by first | exact Or.inl rfl | exact Or.inr rfl) (q_op op_addA l_add (q_int) (q_calL 0 c_law_pick hr (by first | decide | exact Nat.le_refl _ | (simp only [Nat.add_eq]; omega)) (by rfl) (qa_cons (q_int) qa_nil))))) s_nil)
    (s_one (s_ret (qv 1))))), pure_ren rfl pure_law_many_3⟩
theorem cal_law_many_3 (bt : Bt mg) (c_law_pick : Cal P w K mg base 1 "_law_pick" true ["_law_flow_here", "_law_many_here"] [] sp_law_pick) (hm : mg "_law_many" = some (.ref f)) (F : FunD K "_law_many" "_law_many" (defArgs s_law_many_3) (defBody s_law_many_3) (defScope s_law_many_3) [] [] f fd) : Cal P w K mg base 2 "_law_many" true ["_law_flow_here"] [] sp_law_many_3 := ⟨f, fd, [], [], ok_law_many_3 bt c_law_pick F, hm, F.kp, F.bindsN (ps := ["_law_flow_here"]) fun _ _ _ _ _ _ us hl => match us, hl with | [_], _ => rfl, .nil, consts_nil⟩
abbrev M_law_some_rings : List Str := ["_law_flow_here", "_law_found", "_law_k", "_law_at"]
theorem sc_law_some_rings : FnScope M_law_some_rings ["_law_flow_here"] (defScope s_law_some_rings) := ⟨rfl, rfl, rfl, by decide +kernel, rfl, by decide +kernel, by decide +kernel⟩
theorem len_law_some_rings : ∀ fl ds Q, sp_law_some_rings fl ds Q → ds.length + (if true = true then 1 else 0) = 1 := by
  intro fl ds Q h
  unfold sp_law_some_rings at h
  grind
theorem ok_law_some_rings (bt : Bt mg) (c_law_many_3 : Cal P w K mg base 2 "_law_many" true ["_law_flow_here"] [] sp_law_many_3) (c_law_pick : Cal P w K mg base 1 "_law_pick" true ["_law_flow_here", "_law_many_here"] [] sp_law_pick) (c_law_number : Cal P w K mg base 2 "_law_number" true ["_law_flow_here", "_law_figures"] [] sp_law_number) (F : FunD K "_law_some_rings" "_law_some_rings" (defArgs s_law_some_rings) (defBody s_law_some_rings) (defScope s_law_some_rings) [] [] f fd) : FnOk P w K mg base CX0 3 f fd ["_law_flow_here"] (spOf ⟨K, P, w⟩ true sp_law_some_rings) :=
  defD_ok true F sc_law_some_rings len_law_some_rings (by decide) fun cdv A outer s H E hr => ⟨T_law_some_rings, (s_cons (s_setF (i := 1) sc_law_some_rings.nd rfl (by first | exact Or.inl rfl | exact Or.inr rfl) (f_lst (qa_nil)))
    (s_cons (s_for PassesOwn.never rfl (i_rg1 (q_calL 0 c_law_many_3 hr (by first | decide | exact Nat.le_refl _ | (simp only [Nat.add_eq]; omega)) (by rfl) (qa_nil)) (by rfl) (bt "range" (by decide))) (g_name sc_law_some_rings.nd rfl (by first | exact Or.inl rfl | exact Or.inr rfl)) (s_one (s_expr (q_mo 1 l_append PySem.F.slot_list_append PySem.F.type_list_append mt_append (qa_cons (q_callTy l_tuple call_tuple_of (by rfl) (bt "tuple" (by decide)) (by decide +kernel) (qa_cons (EF.ev (f_lc (own := [("_law_at", 3)]) (S := [3]) rfl sc_law_some_rings.nd (blkOk_by (N := M_law_some_rings) (sc := defScope s_law_some_rings) (by decide +kernel)) (i_rg1 (q_op op_addA l_add (q_int) (q_calL 0 c_law_pick hr (by first | decide | exact Nat.le_refl _ | (simp only [Nat.add_eq]; omega)) (by rfl) (qa_cons (q_int) qa_nil))) (by rfl) (bt "range" (by decide))) (fun _ _ _ _ _ => g_name sc_law_some_rings.nd rfl (by first | exact Or.inl rfl | exact Or.inr rfl)) (fun _ _ _ _ _ => ts_nil) (fun _ _ _ _ _ => q_calL 0 c_law_number hr (by first | decide | exact Nat.le_refl _ | (simp only [Nat.add_eq]; omega)) (by rfl) (qa_cons (q_int) qa_nil)))) qa_nil)) qa_nil)))))
    (s_one (s_ret (q_callTy l_tuple call_tuple_of (by rfl) (bt "tuple" (by decide)) (by decide +kernel) (qa_cons (qv 1) qa_nil)))))), pure_ren rfl pure_law_some_rings⟩
theorem cal_law_some_rings (bt : Bt mg) (c_law_many_3 : Cal P w K mg base 2 "_law_many" true ["_law_flow_here"] [] sp_law_many_3) (c_law_pick : Cal P w K mg base 1 "_law_pick" true ["_law_flow_here", "_law_many_here"] [] sp_law_pick) (c_law_number : Cal P w K mg base 2 "_law_number" true ["_law_flow_here", "_law_figures"] [] sp_law_number) (hm : mg "_law_some_rings" = some (.ref f)) (F : FunD K "_law_some_rings" "_law_some_rings" (defArgs s_law_some_rings) (defBody s_law_some_rings) (defScope s_law_some_rings) [] [] f fd) : Cal P w K mg base 3 "_law_some_rings" true ["_law_flow_here"] [] sp_law_some_rings := ⟨f, fd, [], [], ok_law_some_rings bt c_law_many_3 c_law_pick c_law_number F, hm, F.kp, F.bindsN (ps := ["_law_flow_here"]) fun _ _ _ _ _ _ us hl => match us, hl with | [_], _ => rfl, .nil, consts_nil⟩
abbrev M_law_some_parts : List Str := ["_law_flow_here", "_law_book", "_law_names_here", "_law_knots", "_law_parts", "_law_k", "_law_kind"]
theorem sc_law_some_parts : FnScope M_law_some_parts ["_law_flow_here", "_law_book", "_law_names_here"] (defScope s_law_some_parts) := ⟨rfl, rfl, rfl, by decide +kernel, rfl, by decide +kernel, by decide +kernel⟩
theorem len_law_some_parts : ∀ fl ds Q, sp_law_some_parts fl ds Q → ds.length + (if true = true then 1 else 0) = 3 := by
  intro fl ds Q h
  unfold sp_law_some_parts at h
  grind
theorem ok_law_some_parts (bt : Bt mg) (c_law_some_joints : Cal P w K mg base 3 "_law_some_joints" true ["_law_flow_here", "_law_names_here", "_law_least"] [] sp_law_some_joints) (c_law_some_rings : Cal P w K mg base 3 "_law_some_rings" true ["_law_flow_here"] [] sp_law_some_rings) (c_law_many_3 : Cal P w K mg base 2 "_law_many" true ["_law_flow_here"] [] sp_law_many_3) (c_law_number : Cal P w K mg base 2 "_law_number" true ["_law_flow_here", "_law_figures"] [] sp_law_number) (c_law_pick : Cal P w K mg base 1 "_law_pick" true ["_law_flow_here", "_law_many_here"] [] sp_law_pick) (F : FunD K "_law_some_parts" "_law_some_parts" (defArgs s_law_some_parts) (defBody s_law_some_parts) (defScope s_law_some_parts) [] [] f fd) : FnOk P w K mg base CX0 4 f fd ["_law_flow_here", "_law_book", "_law_names_here"] (spOf ⟨K, P, w⟩ true sp_law_some_parts) :=
  defD_ok true F sc_law_some_parts len_law_some_parts (by decide) fun cdv A outer s H E hr => ⟨T_law_some_parts, (s_cons (s_if (t_cmp (op_eqP hr.units) l_eq (qv 1) (q_str) (nomark _)) (s_one (s_ret (q_tup (qa_cons (q_calL 0 c_law_some_joints hr (by first | decide | exact Nat.le_refl _ | (simp only [Nat.add_eq]; omega)) (by rfl) (qa_cons (qv 2) (qa_cons (q_int) qa_nil))) (qa_cons (q_calL 0 c_law_some_joints hr (by first | decide | exact Nat.le_refl _ | (simp only [Nat.add_eq]; omega)) (by rfl) (qa_cons (qv 2) (qa_cons (q_int) qa_nil))) qa_nil))))) s_nil)
    (s_cons (s_if (t_cmp (op_eqP hr.units) l_eq (qv 1) (q_str) (nomark _)) (s_one (s_ret (q_tup (qa_cons (q_calL 0 c_law_some_rings hr (by first | decide | exact Nat.le_refl _ | (simp only [Nat.add_eq]; omega)) (by rfl) (qa_nil)) qa_nil)))) s_nil)
    (s_cons (s_if (t_cmp (op_eqP hr.units) l_eq (qv 1) (q_str) (nomark _)) (s_cons (s_setLcR (i := 3) (own := [("_law_k", 5)]) (S := [5]) rfl sc_law_some_parts.nd rfl rfl (sw_true rfl rfl rfl (by decide +kernel)) (blkOk_by (N := M_law_some_parts) (sc := defScope s_law_some_parts) (by decide +kernel)) (i_rg1 (q_calL 0 c_law_many_3 hr (by first | decide | exact Nat.le_refl _ | (simp only [Nat.add_eq]; omega)) (by rfl) (qa_nil)) (by rfl) (bt "range" (by decide))) (fun _ _ _ _ _ => g_name sc_law_some_parts.nd rfl (by first | exact Or.inl rfl | exact Or.inr rfl)) (fun _ _ _ _ _ => ts_nil) (fun _ _ _ _ _ => q_tup (qa_cons (q_calL 0 c_law_number hr (by first | decide | exact Nat.le_refl _ | (simp only [Nat.add_eq]; omega)) (by rfl) (qa_cons (q_int) qa_nil)) (qa_cons (q_calL 0 c_law_number hr (by first | decide | exact Nat.le_refl _ | (simp only [Nat.add_eq]; omega)) (by rfl) (qa_cons (q_int) qa_nil)) qa_nil))))
    (s_one (s_ret (q_tup (qa_cons (q_calL 0 c_law_some_rings hr (by first | decide | exact Nat.le_refl _ | (simp only [Nat.add_eq]; omega)) (by rfl) (qa_nil)) (qa_cons (q_callTy l_tuple call_tuple_of (by rfl) (bt "tuple" (by decide)) (by decide +kernel) (qa_cons (qv 3) qa_nil)) (qa_cons (q_calL 0 c_law_number hr (by first | decide | exact Nat.le_refl _ | (simp only [Nat.add_eq]; omega)) (by rfl) (qa_cons (q_int) qa_nil)) qa_nil))))))) s_nil)
    (s_cons (s_setF (i := 4) sc_law_some_parts.nd rfl (by first | exact Or.inl rfl | exact Or.inr rfl) (f_lst (qa_nil)))
    (s_cons (s_for PassesOwn.never rfl (i_rg1 (q_calL 0 c_law_many_3 hr (by first | decide | exact Nat.le_refl _ | (simp only [Nat.add_eq]; omega)) (by rfl) (qa_nil)) (by rfl) (bt "range" (by decide))) (g_name sc_law_some_parts.nd rfl (by first | exact Or.inl rfl | exact Or.inr rfl)) (s_cons (s_set (i := 6) sc_law_some_parts.nd rfl (by first | exact Or.inl rfl | exact Or.inr rfl) (q_ix (EF.ev (f_lst (qa_cons (q_str) (qa_cons (q_str) (qa_cons (q_str) (qa_cons (q_str) qa_nil)))))) (q_calL 0 c_law_pick hr (by first | decide | exact Nat.le_refl _ | (simp only [Nat.add_eq]; omega)) (by rfl) (qa_cons (q_int) qa_nil))))
    (s_one (s_expr (q_mo 4 l_append PySem.F.slot_list_append PySem.F.type_list_append mt_append (qa_cons (q_tup (qa_cons (qv 6) (qa_cons (q_calL 0 c_law_some_joints hr (by first | decide | exact Nat.le_refl _ | (simp only [Nat.add_eq]; omega)) (by rfl) (qa_cons (qv 2) (qa_cons (q_int) qa_nil))) (qa_cons (q_calL 0 c_law_some_joints hr (by first | decide | exact Nat.le_refl _ | (simp only [Nat.add_eq]; omega)) (by rfl) (qa_cons (qv 2) (qa_cons (q_int) qa_nil))) qa_nil)))) qa_nil))))))
    (s_one (s_ret (q_callTy l_tuple call_tuple_of (by rfl) (bt "tuple" (by decide)) (by decide +kernel) (qa_cons (qv 4) qa_nil))))))))), pure_ren rfl pure_law_some_parts⟩
theorem cal_law_some_parts (bt : Bt mg) (c_law_some_joints : Cal P w K mg base 3 "_law_some_joints" true ["_law_flow_here", "_law_names_here", "_law_least"] [] sp_law_some_joints) (c_law_some_rings : Cal P w K mg base 3 "_law_some_rings" true ["_law_flow_here"] [] sp_law_some_rings) (c_law_many_3 : Cal P w K mg base 2 "_law_many" true ["_law_flow_here"] [] sp_law_many_3) (c_law_number : Cal P w K mg base 2 "_law_number" true ["_law_flow_here", "_law_figures"] [] sp_law_number) (c_law_pick : Cal P w K mg base 1 "_law_pick" true ["_law_flow_here", "_law_many_here"] [] sp_law_pick) (hm : mg "_law_some_parts" = some (.ref f)) (F : FunD K "_law_some_parts" "_law_some_parts" (defArgs s_law_some_parts) (defBody s_law_some_parts) (defScope s_law_some_parts) [] [] f fd) : Cal P w K mg base 4 "_law_some_parts" true ["_law_flow_here", "_law_book", "_law_names_here"] [] sp_law_some_parts := ⟨f, fd, [], [], ok_law_some_parts bt c_law_some_joints c_law_some_rings c_law_many_3 c_law_number c_law_pick F, hm, F.kp, F.bindsN (ps := ["_law_flow_here", "_law_book", "_law_names_here"]) fun _ _ _ _ _ _ us hl => match us, hl with | [_, _, _], _ => rfl, .nil, consts_nil⟩
abbrev M_law_some_paper : List Str := ["_law_flow_here", "_law_book", "_law_names_here", "_law_parts", "_law_total", "_law_k"]
theorem sc_law_some_paper : FnScope M_law_some_paper ["_law_flow_here", "_law_book"] (defScope s_law_some_paper) := ⟨rfl, rfl, rfl, by decide +kernel, rfl, by decide +kernel, by decide +kernel⟩
theorem len_law_some_paper : ∀ fl ds Q, sp_law_some_paper fl ds Q → ds.length + (if true = true then 1 else 0) = 2 := by
  intro fl ds Q h
  unfold sp_law_some_paper at h
  grind
theorem ok_law_some_paper (bt : Bt mg) (c_law_names : Cal P w K mg base 4 "_law_names" true ["_law_flow_here", "_law_many_here"] [] sp_law_names) (c_law_pick : Cal P w K mg base 1 "_law_pick" true ["_law_flow_here", "_law_many_here"] [] sp_law_pick) (c_law_some_parts : Cal P w K mg base 4 "_law_some_parts" true ["_law_flow_here", "_law_book", "_law_names_here"] [] sp_law_some_parts) (c_law_number : Cal P w K mg base 2 "_law_number" true ["_law_flow_here", "_law_figures"] [] sp_law_number) (c_law_many_3 : Cal P w K mg base 2 "_law_many" true ["_law_flow_here"] [] sp_law_many_3) (c_law_some_deed : Cal P w K mg base 3 "_law_some_deed" true ["_law_flow_here", "_law_names_here"] [] sp_law_some_deed) (F : FunD K "_law_some_paper" "_law_some_paper" (defArgs s_law_some_paper) (defBody s_law_some_paper) (defScope s_law_some_paper) [] [] f fd) : FnOk P w K mg base CX0 5 f fd ["_law_flow_here", "_law_book"] (spOf ⟨K, P, w⟩ true sp_law_some_paper) :=
  defD_ok true F sc_law_some_paper len_law_some_paper (by decide) fun cdv A outer s H E hr => ⟨T_law_some_paper, (s_cons (s_set (i := 2) sc_law_some_paper.nd rfl (by first | exact Or.inl rfl | exact Or.inr rfl) (q_calL 0 c_law_names hr (by first | decide | exact Nat.le_refl _ | (simp only [Nat.add_eq]; omega)) (by rfl) (qa_cons (q_op op_addA l_add (q_int) (q_calL 0 c_law_pick hr (by first | decide | exact Nat.le_refl _ | (simp only [Nat.add_eq]; omega)) (by rfl) (qa_cons (q_int) qa_nil))) qa_nil)))
    (s_cons (s_set (i := 3) sc_law_some_paper.nd rfl (by first | exact Or.inl rfl | exact Or.inr rfl) (q_calL 0 c_law_some_parts hr (by first | decide | exact Nat.le_refl _ | (simp only [Nat.add_eq]; omega)) (by rfl) (qa_cons (qv 1) (qa_cons (qv 2) qa_nil))))
    (s_cons (s_set (i := 4) sc_law_some_paper.nd rfl (by first | exact Or.inl rfl | exact Or.inr rfl) (q_calL 0 c_law_number hr (by first | decide | exact Nat.le_refl _ | (simp only [Nat.add_eq]; omega)) (by rfl) (qa_cons (q_int) qa_nil)))
    (s_one (s_ret (q_tup (qa_cons (qv 3) (qa_cons (qv 4) (qa_cons (q_callTy l_tuple call_tuple_of (by rfl) (bt "tuple" (by decide)) (by decide +kernel) (qa_cons (EF.ev (f_lc (own := [("_law_k", 5)]) (S := [5]) rfl sc_law_some_paper.nd (blkOk_by (N := M_law_some_paper) (sc := defScope s_law_some_paper) (by decide +kernel)) (i_rg1 (q_calL 0 c_law_many_3 hr (by first | decide | exact Nat.le_refl _ | (simp only [Nat.add_eq]; omega)) (by rfl) (qa_nil)) (by rfl) (bt "range" (by decide))) (fun _ _ _ _ _ => g_name sc_law_some_paper.nd rfl (by first | exact Or.inl rfl | exact Or.inr rfl)) (fun _ _ _ _ _ => ts_nil) (fun _ _ _ _ _ => q_calL 0 c_law_some_deed hr (by first | decide | exact Nat.le_refl _ | (simp only [Nat.add_eq]; omega)) (by rfl) (qa_cons (qv 2) qa_nil)))) qa_nil)) qa_nil))))))))), pure_ren rfl pure_law_some_paper⟩
theorem cal_law_some_paper (bt : Bt mg) (c_law_names : Cal P w K mg base 4 "_law_names" true ["_law_flow_here", "_law_many_here"] [] sp_law_names) (c_law_pick : Cal P w K mg base 1 "_law_pick" true ["_law_flow_here", "_law_many_here"] [] sp_law_pick) (c_law_some_parts : Cal P w K mg base 4 "_law_some_parts" true ["_law_flow_here", "_law_book", "_law_names_here"] [] sp_law_some_parts) (c_law_number : Cal P w K mg base 2 "_law_number" true ["_law_flow_here", "_law_figures"] [] sp_law_number) (c_law_many_3 : Cal P w K mg base 2 "_law_many" true ["_law_flow_here"] [] sp_law_many_3) (c_law_some_deed : Cal P w K mg base 3 "_law_some_deed" true ["_law_flow_here", "_law_names_here"] [] sp_law_some_deed) (hm : mg "_law_some_paper" = some (.ref f)) (F : FunD K "_law_some_paper" "_law_some_paper" (defArgs s_law_some_paper) (defBody s_law_some_paper) (defScope s_law_some_paper) [] [] f fd) : Cal P w K mg base 5 "_law_some_paper" true ["_law_flow_here", "_law_book"] [] sp_law_some_paper := ⟨f, fd, [], [], ok_law_some_paper bt c_law_names c_law_pick c_law_some_parts c_law_number c_law_many_3 c_law_some_deed F, hm, F.kp, F.bindsN (ps := ["_law_flow_here", "_law_book"]) fun _ _ _ _ _ _ us hl => match us, hl with | [_, _], _ => rfl, .nil, consts_nil⟩
abbrev M_law_holds_3 : List Str := ["_law_book", "_law_told", "_law_text_here", "_law_found", "_law_again"]
theorem sc_law_holds_3 : FnScope M_law_holds_3 ["_law_book", "_law_told"] (defScope s_law_holds_3) := ⟨rfl, rfl, rfl, by decide +kernel, rfl, by decide +kernel, by decide +kernel⟩
theorem len_law_holds_3 : ∀ fl ds Q, sp_law_holds_3 fl ds Q → ds.length + (if false = true then 1 else 0) = 2 := by
  intro fl ds Q h
  unfold sp_law_holds_3 at h
  grind
theorem ok_law_holds_3 (bt : Bt mg) (c_law_text : Cal P w K mg base 4 "_law_text" false ["_law_book", "_law_told"] [] sp_law_text) (c_read_paper : Cal P w K mg base 9 "read_paper" false ["text"] [] sp_read_paper) (c_law_alike : Cal P w K mg base 13 "_law_alike" false ["_law_found", "_law_due"] [] sp_law_alike) (c_show_paper : Cal P w K mg base 5 "show_paper" false ["book", "paper"] [] sp_show_paper) (F : FunD K "_law_holds" "_law_holds" (defArgs s_law_holds_3) (defBody s_law_holds_3) (defScope s_law_holds_3) [] [] f fd) : FnOk P w K mg base CX0 14 f fd ["_law_book", "_law_told"] (spOf ⟨K, P, w⟩ false sp_law_holds_3) :=
  defD_ok false F sc_law_holds_3 len_law_holds_3 (by decide) fun cdv A outer s H E hr => ⟨T_law_holds_3, (s_cons (s_set (i := 2) sc_law_holds_3.nd rfl (by first | exact Or.inl rfl | exact Or.inr rfl) (q_cal c_law_text hr (by first | decide | exact Nat.le_refl _ | (simp only [Nat.add_eq]; omega)) (by rfl) (qa_cons (qv 0) (qa_cons (qv 1) qa_nil))))
    (s_cons (s_set (i := 3) sc_law_holds_3.nd rfl (by first | exact Or.inl rfl | exact Or.inr rfl) (q_cal c_read_paper hr (by first | decide | exact Nat.le_refl _ | (simp only [Nat.add_eq]; omega)) (by rfl) (qa_cons (qv 2) qa_nil)))
    (s_cons (s_if (t_not (t_val (q_cal c_law_alike hr (by first | decide | exact Nat.le_refl _ | (simp only [Nat.add_eq]; omega)) (by rfl) (qa_cons (qv 3) (qa_cons (q_tup (qa_cons (qv 0) (qa_cons (qv 1) qa_nil))) qa_nil))))) (s_one (s_ret (q_bl))) s_nil)
    (s_cons (s_set (i := 4) sc_law_holds_3.nd rfl (by first | exact Or.inl rfl | exact Or.inr rfl) (q_cal c_show_paper hr (by first | decide | exact Nat.le_refl _ | (simp only [Nat.add_eq]; omega)) (by rfl) (qa_cons (q_ix (qv 3) (q_int)) (qa_cons (q_ix (qv 3) (q_int)) qa_nil))))
    (s_one (s_ret (q_and (q_isi .str (qv 4) (by rfl) (bt "isinstance" (by decide)) (by rfl) (bt "str" (by decide)) (by decide +kernel)) (q_and (q_cmp (op_eqP hr.units) l_eq (qv 4) (qv 2) (nomark _)) (q_one (q_cal c_law_alike hr (by first | decide | exact Nat.le_refl _ | (simp only [Nat.add_eq]; omega)) (by rfl) (qa_cons (qv 3) (qa_cons (q_tup (qa_cons (qv 0) (qa_cons (qv 1) qa_nil))) qa_nil)))))))))))), pure_ren rfl pure_law_holds_3⟩
theorem cal_law_holds_3 (bt : Bt mg) (c_law_text : Cal P w K mg base 4 "_law_text" false ["_law_book", "_law_told"] [] sp_law_text) (c_read_paper : Cal P w K mg base 9 "read_paper" false ["text"] [] sp_read_paper) (c_law_alike : Cal P w K mg base 13 "_law_alike" false ["_law_found", "_law_due"] [] sp_law_alike) (c_show_paper : Cal P w K mg base 5 "show_paper" false ["book", "paper"] [] sp_show_paper) (hm : mg "_law_holds" = some (.ref f)) (F : FunD K "_law_holds" "_law_holds" (defArgs s_law_holds_3) (defBody s_law_holds_3) (defScope s_law_holds_3) [] [] f fd) : Cal P w K mg base 14 "_law_holds" false ["_law_book", "_law_told"] [] sp_law_holds_3 := ⟨f, fd, [], [], ok_law_holds_3 bt c_law_text c_read_paper c_law_alike c_show_paper F, hm, F.kp, F.bindsN (ps := ["_law_book", "_law_told"]) fun _ _ _ _ _ _ us hl => match us, hl with | [_, _], _ => rfl, .nil, consts_nil⟩
abbrev M_law_65 : List Str := ["_law_script", "_law_flow_here", "_law_books", "_law_book", "_law_told", "_law_other"]
theorem sc_law_65 : FnScope M_law_65 ["_law_script"] (defScope s_law_65) := ⟨rfl, rfl, rfl, by decide +kernel, rfl, by decide +kernel, by decide +kernel⟩
theorem sc_law_flow : FnScope ["_law_script"] ["_law_script"] (defScope s_law_flow) := ⟨rfl, rfl, rfl, by decide +kernel, rfl, by decide +kernel, by decide +kernel⟩
theorem ok_law_flow (bt : Bt mg) (F : FunD K "_law_flow" "_law_flow" (defArgs s_law_flow) (defBody s_law_flow) (defScope s_law_flow) [] [] f fd) : FnOk P w K mg base CX0 1 f fd ["_law_script"] (spFlow ⟨K, P, w⟩) := F.ok sc_law_flow len_flow fun cdv A outer s H vs Q E hr h => ⟨t_flow ⟨K, P, w⟩, PSs.nox (pss_one (ps_ret (pe_lst (pa_cons (pe_callTy call_list_of (by rfl) (bt "list" (by decide)) (by decide +kernel) (pa_cons (pv 0) pa_nil)) (pa_cons pe_int (pa_cons pe_int (pa_cons pe_int (pa_cons pe_int pa_nil)))))))), pure_flow vs H Q E h⟩
theorem ok_law_65 {fF : Addr} {fdF : FuncData} (bt : Bt mg) (c_law_pick : Cal P w K mg base 1 "_law_pick" true ["_law_flow_here", "_law_many_here"] [] sp_law_pick) (c_law_some_paper : Cal P w K mg base 5 "_law_some_paper" true ["_law_flow_here", "_law_book"] [] sp_law_some_paper) (c_law_holds_3 : Cal P w K mg base 14 "_law_holds" false ["_law_book", "_law_told"] [] sp_law_holds_3) (FF : FunD K "_law_flow" "_law_flow" (defArgs s_law_flow) (defBody s_law_flow) (defScope s_law_flow) [] [] fF fdF) (gF : mg "_law_flow" = some (.ref fF)) (F : FunD K "law" "law" (defArgs s_law_65) (defBody s_law_65) (defScope s_law_65) [] [] f fd) : FnOk P w K mg base CX0 15 f fd ["_law_script"] (spLaw ⟨K, P, w⟩) :=
  law_ok F sc_law_65 (by decide) (T := T_law_65) (fun cdv A outer s H E hr => ⟨ps_set (i := 1) sc_law_65.nd rfl (by first | exact Or.inl rfl | exact Or.inr rfl) (pe_call (ok_law_flow bt FF) (hr.mono (by decide)) (by rfl) gF FF.kp (FF.bindsN (ps := ["_law_script"]) fun _ _ _ _ _ _ us hl => match us, hl with | [_], _ => rfl) .nil pass0 (pa_cons (pv 0) pa_nil)), (s_cons (s_set (i := 2) sc_law_65.nd rfl (by first | exact Or.inl rfl | exact Or.inr rfl) (EF.ev (f_lst (qa_cons (q_str) (qa_cons (q_str) (qa_cons (q_str) (qa_cons (q_str) (qa_cons (q_str) qa_nil))))))))
    (s_cons (s_set (i := 3) sc_law_65.nd rfl (by first | exact Or.inl rfl | exact Or.inr rfl) (q_ix (qv 2) (q_calL 1 c_law_pick hr (by first | decide | exact Nat.le_refl _ | (simp only [Nat.add_eq]; omega)) (by rfl) (qa_cons (q_int) qa_nil))))
    (s_cons (s_set (i := 4) sc_law_65.nd rfl (by first | exact Or.inl rfl | exact Or.inr rfl) (q_calL 1 c_law_some_paper hr (by first | decide | exact Nat.le_refl _ | (simp only [Nat.add_eq]; omega)) (by rfl) (qa_cons (qv 3) qa_nil)))
    (s_cons (s_if (t_not (t_val (q_cal c_law_holds_3 hr (by first | decide | exact Nat.le_refl _ | (simp only [Nat.add_eq]; omega)) (by rfl) (qa_cons (qv 3) (qa_cons (qv 4) qa_nil))))) (s_one (s_ret (q_bl))) s_nil)
    (s_cons (s_set (i := 5) sc_law_65.nd rfl (by first | exact Or.inl rfl | exact Or.inr rfl) (q_ix (qv 2) (q_calL 1 c_law_pick hr (by first | decide | exact Nat.le_refl _ | (simp only [Nat.add_eq]; omega)) (by rfl) (qa_cons (q_int) qa_nil))))
    (s_one (s_ret (q_and (q_cal c_law_holds_3 hr (by first | decide | exact Nat.le_refl _ | (simp only [Nat.add_eq]; omega)) (by rfl) (qa_cons (qv 5) (qa_cons (q_calL 1 c_law_some_paper hr (by first | decide | exact Nat.le_refl _ | (simp only [Nat.add_eq]; omega)) (by rfl) (qa_cons (qv 5) qa_nil)) qa_nil))) (q_one (q_cal c_law_holds_3 hr (by first | decide | exact Nat.le_refl _ | (simp only [Nat.add_eq]; omega)) (by rfl) (qa_cons (qv 3) (qa_cons (qv 4) qa_nil))))))))))))⟩) pure_law_65
end
theorem bt_of {h : Heap} {mg : Str → Option Value} {K : PySem.W.Frag} (X : K.In h) (G : h.Ns mainGlobals mg) (c : He.SaysD faL fnL K) : Bt mg := fun x hx => by
  have m : He.Fa.free x ∈ faL := by
    have e : faL = Bts.map He.Fa.free ++ faL.drop 21 := rfl
    rw [e]
    exact List.mem_append_left _ (List.mem_map_of_mem hx)
  obtain ⟨i, hi⟩ := List.getElem?_of_mem m
  exact He.free_ok X G (c.fact i hi)
theorem facts {P : Program} {w : World} {K : PySem.W.Frag} {h : Heap} {mg : Str → Option Value} {f : Addr} (X : K.In h) (G : h.Ns mainGlobals mg) (hfa : mg ("law" : Str) = some (.ref f)) (cF : SaysF faL fnL exB tsL w K) :
    ∃ fd : FuncData, (∀ (s : Shared) (v : Value), BindsTo s fd ⟨[v], []⟩ [("_law_script", v)]) ∧ ∀ base : Heap, K.In base → base.Ns mainGlobals mg → FnOk P w K mg base CX0 15 f fd ["_law_script"] (spLaw ⟨K, P, w⟩) := by
  have cE := cF.e
  have c := cE.d
  obtain ⟨fd0, F0⟩ := c.def_ 0 (d := d_is_name) rfl
  obtain ⟨fd1, F1⟩ := c.def_ 1 (d := d_is_end) rfl
  obtain ⟨fd2, F2⟩ := c.def_ 2 (d := d_is_joint) rfl
  obtain ⟨fd3, F3⟩ := c.def_ 3 (d := d_is_half) rfl
  obtain ⟨fd4, F4⟩ := c.def_ 4 (d := d_ends_in) rfl
  obtain ⟨fd5, F5⟩ := c.def_ 5 (d := d_is_deed) rfl
  obtain ⟨fd6, F6⟩ := c.def_ 6 (d := d_show_end) rfl
  obtain ⟨fd7, F7⟩ := c.def_ 7 (d := d_show_joint) rfl
  obtain ⟨fd8, F8⟩ := c.def_ 8 (d := d_show_deedN) rfl
  obtain ⟨fd9, F9⟩ := c.def_ 9 (d := d_read_number) rfl
  obtain ⟨fd10, F10⟩ := c.def_ 10 (d := d_read_end) rfl
  obtain ⟨fd11, F11⟩ := c.def_ 11 (d := d_read_joint) rfl
  obtain ⟨fd12, F12⟩ := c.def_ 12 (d := d_read_deed) rfl
  obtain ⟨fd13, F13⟩ := c.def_ 13 (d := d_read_row) rfl
  obtain ⟨fd14, F14⟩ := c.def_ 14 (d := d_show_joints) rfl
  obtain ⟨fd15, F15⟩ := c.def_ 15 (d := d_show_rings) rfl
  obtain ⟨fd16, F16⟩ := c.def_ 16 (d := d_show_parts) rfl
  obtain ⟨fd17, F17⟩ := c.def_ 17 (d := d_show_paper) rfl
  obtain ⟨fd18, F18⟩ := c.def_ 18 (d := d_read_number_2) rfl
  obtain ⟨fd19, F19⟩ := c.def_ 19 (d := d_read_joint_2) rfl
  obtain ⟨fd20, F20⟩ := c.def_ 20 (d := d_words_behind) rfl
  obtain ⟨fd21, F21⟩ := c.def_ 21 (d := d_read_joints) rfl
  obtain ⟨fd22, F22⟩ := c.def_ 22 (d := d_read_part) rfl
  obtain ⟨fd23, F23⟩ := c.def_ 23 (d := d_read_ring) rfl
  obtain ⟨fd24, F24⟩ := c.def_ 24 (d := d_read_knot) rfl
  obtain ⟨fd25, F25⟩ := c.def_ 25 (d := d_read_parts) rfl
  obtain ⟨fd26, F26⟩ := c.def_ 26 (d := d_read_deeds) rfl
  obtain ⟨fd27, F27⟩ := c.def_ 27 (d := d_read_paper) rfl
  obtain ⟨fd28, F28⟩ := c.def_ 28 (d := d_law_pick) rfl
  obtain ⟨fd29, F29⟩ := c.def_ 29 (d := d_law_letters) rfl
  obtain ⟨fd30, F30⟩ := c.def_ 30 (d := d_law_name) rfl
  obtain ⟨fd31, F31⟩ := c.def_ 31 (d := d_law_names) rfl
  obtain ⟨fd32, F32⟩ := c.def_ 32 (d := d_law_alike) rfl
  obtain ⟨fd33, F33⟩ := c.def_ 33 (d := d_law_end_text) rfl
  obtain ⟨fd34, F34⟩ := c.def_ 34 (d := d_law_joints_text) rfl
  obtain ⟨fd35, F35⟩ := c.def_ 35 (d := d_law_deed_text_2) rfl
  obtain ⟨fd36, F36⟩ := c.def_ 36 (d := d_law_with) rfl
  obtain ⟨fd37, F37⟩ := c.def_ 37 (d := d_law_ring_lines) rfl
  obtain ⟨fd38, F38⟩ := c.def_ 38 (d := d_law_part_lines) rfl
  obtain ⟨fd39, F39⟩ := c.def_ 39 (d := d_law_text) rfl
  obtain ⟨fd40, F40⟩ := c.def_ 40 (d := d_law_number) rfl
  obtain ⟨fd41, F41⟩ := c.def_ 41 (d := d_law_some_ends) rfl
  obtain ⟨fd42, F42⟩ := c.def_ 42 (d := d_law_some_joints) rfl
  obtain ⟨fd43, F43⟩ := c.def_ 43 (d := d_law_some_deed) rfl
  obtain ⟨fd44, F44⟩ := c.def_ 44 (d := d_law_many_3) rfl
  obtain ⟨fd45, F45⟩ := c.def_ 45 (d := d_law_some_rings) rfl
  obtain ⟨fd46, F46⟩ := c.def_ 46 (d := d_law_some_parts) rfl
  obtain ⟨fd47, F47⟩ := c.def_ 47 (d := d_law_some_paper) rfl
  obtain ⟨fd48, F48⟩ := c.def_ 48 (d := d_law_holds_3) rfl
  obtain ⟨fd49, F49⟩ := c.def_ 49 (d := d_law_flow) rfl
  obtain ⟨fd50, F50⟩ := c.def_ 50 (d := d_law_65) rfl
  have g0 := He.glo_ok X G (x := "is_name") (c.fact 21 rfl)
  have g1 := He.glo_ok X G (x := "is_end") (c.fact 22 rfl)
  have g2 := He.glo_ok X G (x := "is_joint") (c.fact 23 rfl)
  have g3 := He.glo_ok X G (x := "is_half") (c.fact 24 rfl)
  have g4 := He.glo_ok X G (x := "ends_in") (c.fact 25 rfl)
  have g5 := He.glo_ok X G (x := "is_deed") (c.fact 26 rfl)
  have g6 := He.glo_ok X G (x := "show_end") (c.fact 27 rfl)
  have g7 := He.glo_ok X G (x := "show_joint") (c.fact 28 rfl)
  have g8 := He.glo_ok X G (x := "show_deed") (c.fact 29 rfl)
  have g9 := He.glo_ok X G (x := "read_number_deedtexts") (c.fact 30 rfl)
  have g10 := He.glo_ok X G (x := "read_end") (c.fact 31 rfl)
  have g11 := He.glo_ok X G (x := "read_joint_deedtexts") (c.fact 32 rfl)
  have g12 := He.glo_ok X G (x := "read_deed") (c.fact 33 rfl)
  have g13 := He.glo_ok X G (x := "read_row") (c.fact 34 rfl)
  have g14 := He.glo_ok X G (x := "show_joints") (c.fact 35 rfl)
  have g15 := He.glo_ok X G (x := "show_rings") (c.fact 36 rfl)
  have g16 := He.glo_ok X G (x := "show_parts") (c.fact 37 rfl)
  have g17 := He.glo_ok X G (x := "show_paper") (c.fact 38 rfl)
  have g18 := He.glo_ok X G (x := "read_number_papertexts") (c.fact 39 rfl)
  have g19 := He.glo_ok X G (x := "read_joint_papertexts") (c.fact 40 rfl)
  have g20 := He.glo_ok X G (x := "words_behind") (c.fact 41 rfl)
  have g21 := He.glo_ok X G (x := "read_joints") (c.fact 42 rfl)
  have g22 := He.glo_ok X G (x := "read_part") (c.fact 43 rfl)
  have g23 := He.glo_ok X G (x := "read_ring") (c.fact 44 rfl)
  have g24 := He.glo_ok X G (x := "read_knot") (c.fact 45 rfl)
  have g25 := He.glo_ok X G (x := "read_parts") (c.fact 46 rfl)
  have g26 := He.glo_ok X G (x := "read_deeds") (c.fact 47 rfl)
  have g27 := He.glo_ok X G (x := "read_paper") (c.fact 48 rfl)
  have g28 := He.glo_ok X G (x := "_law_pick") (c.fact 49 rfl)
  have g29 := He.glo_ok X G (x := "_law_letters") (c.fact 50 rfl)
  have g30 := He.glo_ok X G (x := "_law_name") (c.fact 51 rfl)
  have g31 := He.glo_ok X G (x := "_law_names") (c.fact 52 rfl)
  have g32 := He.glo_ok X G (x := "_law_alike") (c.fact 53 rfl)
  have g33 := He.glo_ok X G (x := "_law_end_text") (c.fact 54 rfl)
  have g34 := He.glo_ok X G (x := "_law_joints_text") (c.fact 55 rfl)
  have g35 := He.glo_ok X G (x := "_law_deed_text") (c.fact 56 rfl)
  have g36 := He.glo_ok X G (x := "_law_with") (c.fact 57 rfl)
  have g37 := He.glo_ok X G (x := "_law_ring_lines") (c.fact 58 rfl)
  have g38 := He.glo_ok X G (x := "_law_part_lines") (c.fact 59 rfl)
  have g39 := He.glo_ok X G (x := "_law_text") (c.fact 60 rfl)
  have g40 := He.glo_ok X G (x := "_law_number") (c.fact 61 rfl)
  have g41 := He.glo_ok X G (x := "_law_some_ends") (c.fact 62 rfl)
  have g42 := He.glo_ok X G (x := "_law_some_joints") (c.fact 63 rfl)
  have g43 := He.glo_ok X G (x := "_law_some_deed") (c.fact 64 rfl)
  have g44 := He.glo_ok X G (x := "_law_many") (c.fact 65 rfl)
  have g45 := He.glo_ok X G (x := "_law_some_rings") (c.fact 66 rfl)
  have g46 := He.glo_ok X G (x := "_law_some_parts") (c.fact 67 rfl)
  have g47 := He.glo_ok X G (x := "_law_some_paper") (c.fact 68 rfl)
  have g48 := He.glo_ok X G (x := "_law_holds") (c.fact 69 rfl)
  have g49 := He.glo_ok X G (x := "_law_flow") (c.fact 70 rfl)
  obtain ⟨t_LETTERS, c_LETTERS⟩ := He.str_ok X G (x := "LETTERS") (c.fact 72 rfl)
  obtain ⟨t_FIGURES_deedtexts, c_FIGURES_deedtexts⟩ := He.str_ok X G (x := "FIGURES_deedtexts") (c.fact 73 rfl)
  obtain ⟨t_FIGURES_papertexts, c_FIGURES_papertexts⟩ := He.str_ok X G (x := "FIGURES_papertexts") (c.fact 74 rfl)
  have hdc : dcE K = true := cE.ex
  have tc_BOOKS := tcon_ok (He.glo_ok X G (x := "BOOKS") (c.fact 76 rfl)) (Bool.and_eq_true_iff.mp hdc).2
  have tc_KINDS := tcon_ok (He.glo_ok X G (x := "KINDS") (c.fact 75 rfl)) (Bool.and_eq_true_iff.mp (Bool.and_eq_true_iff.mp hdc).1).2
  have e := hfa.symm.trans (He.glo_ok X G (x := "law") (c.fact 71 rfl))
  cases e
  have b := FunD.bindsA (ps := ["_law_script"]) F50 fun _ _ _ _ _ _ us hl => match us, hl with | [_], _ => rfl
  refine ⟨fd50, fun s v => b s [v] rfl, fun base _ _ => ?_⟩
  have bt := bt_of X G c
  have c_is_name := cal_is_name (P := P) (w := w) (base := base) bt c_LETTERS g0 F0
  have c_is_end := cal_is_end (P := P) (w := w) (base := base) bt c_is_name g1 F1
  have c_is_joint := cal_is_joint (P := P) (w := w) (base := base) bt c_is_end g2 F2
  have c_is_half := cal_is_half (P := P) (w := w) (base := base) bt c_is_joint g3 F3
  have c_ends_in := cal_ends_in (P := P) (w := w) (base := base) bt g4 F4
  have c_is_deed := cal_is_deed (P := P) (w := w) (base := base) bt c_is_half c_ends_in g5 F5
  have c_show_end := cal_show_end (P := P) (w := w) (base := base) bt g6 F6
  have c_show_joint := cal_show_joint (P := P) (w := w) (base := base) bt c_show_end g7 F7
  have c_show_deedN := cal_show_deedN (P := P) (w := w) (base := base) bt c_show_joint g8 F8
  have c_read_number := cal_read_number (P := P) (w := w) (base := base) bt c_FIGURES_deedtexts g9 F9
  have c_read_end := cal_read_end (P := P) (w := w) (base := base) bt c_is_name g10 F10
  have c_read_joint := cal_read_joint (P := P) (w := w) (base := base) bt c_read_end g11 F11
  have c_read_deed := cal_read_deed (P := P) (w := w) (base := base) bt c_read_number c_read_joint c_is_deed g12 F12
  have c_read_row := cal_read_row (P := P) (w := w) (base := base) bt c_read_deed g13 F13
  have c_show_joints := cal_show_joints (P := P) (w := w) (base := base) bt c_show_joint g14 F14
  have c_show_rings := cal_show_rings (P := P) (w := w) (base := base) bt g15 F15
  have c_show_parts := cal_show_parts (P := P) (w := w) (base := base) bt c_show_joints c_show_rings g16 F16
  have c_show_paper := cal_show_paper (P := P) (w := w) (base := base) bt c_show_parts c_show_deedN g17 F17
  have c_read_number_2 := cal_read_number_2 (P := P) (w := w) (base := base) bt c_FIGURES_papertexts g18 F18
  have c_read_joint_2 := cal_read_joint_2 (P := P) (w := w) (base := base) bt c_read_end g19 F19
  have c_words_behind := cal_words_behind (P := P) (w := w) (base := base) bt g20 F20
  have c_read_joints := cal_read_joints (P := P) (w := w) (base := base) bt c_read_joint_2 g21 F21
  have c_read_part := cal_read_part (P := P) (w := w) (base := base) bt tc_KINDS c_read_joints g22 F22
  have c_read_ring := cal_read_ring (P := P) (w := w) (base := base) bt c_words_behind c_read_number_2 g23 F23
  have c_read_knot := cal_read_knot (P := P) (w := w) (base := base) bt c_read_number_2 g24 F24
  have c_read_parts := cal_read_parts (P := P) (w := w) (base := base) bt c_read_part c_read_ring c_read_joints c_words_behind c_read_knot c_read_number_2 g25 F25
  have c_read_deeds := cal_read_deeds (P := P) (w := w) (base := base) bt c_read_row g26 F26
  have c_read_paper := cal_read_paper (P := P) (w := w) (base := base) bt tc_BOOKS c_read_number_2 c_read_deeds c_read_parts g27 F27
  have c_law_pick := cal_law_pick (P := P) (w := w) (base := base) bt g28 F28
  have c_law_letters := cal_law_letters (P := P) (w := w) (base := base) bt c_law_pick g29 F29
  have c_law_name := cal_law_name (P := P) (w := w) (base := base) bt c_law_letters c_law_pick g30 F30
  have c_law_names := cal_law_names (P := P) (w := w) (base := base) bt c_law_pick c_law_letters c_law_name g31 F31
  have c_law_alike := cal_law_alike (P := P) (w := w) (base := base) bt g32 F32
  have c_law_end_text := cal_law_end_text (P := P) (w := w) (base := base) bt g33 F33
  have c_law_joints_text := cal_law_joints_text (P := P) (w := w) (base := base) bt c_law_end_text g34 F34
  have c_law_deed_text_2 := cal_law_deed_text_2 (P := P) (w := w) (base := base) bt c_law_joints_text g35 F35
  have c_law_with := cal_law_with (P := P) (w := w) (base := base) bt g36 F36
  have c_law_ring_lines := cal_law_ring_lines (P := P) (w := w) (base := base) bt g37 F37
  have c_law_part_lines := cal_law_part_lines (P := P) (w := w) (base := base) bt c_law_with c_law_joints_text c_law_ring_lines g38 F38
  have c_law_text := cal_law_text (P := P) (w := w) (base := base) bt c_law_part_lines c_law_deed_text_2 g39 F39
  have c_law_number := cal_law_number (P := P) (w := w) (base := base) bt c_law_pick g40 F40
  have c_law_some_ends := cal_law_some_ends (P := P) (w := w) (base := base) bt c_law_pick g41 F41
  have c_law_some_joints := cal_law_some_joints (P := P) (w := w) (base := base) bt c_law_pick c_law_some_ends g42 F42
  have c_law_some_deed := cal_law_some_deed (P := P) (w := w) (base := base) bt c_law_pick c_law_number c_law_some_ends g43 F43
  have c_law_many_3 := cal_law_many_3 (P := P) (w := w) (base := base) bt c_law_pick g44 F44
  have c_law_some_rings := cal_law_some_rings (P := P) (w := w) (base := base) bt c_law_many_3 c_law_pick c_law_number g45 F45
  have c_law_some_parts := cal_law_some_parts (P := P) (w := w) (base := base) bt c_law_some_joints c_law_some_rings c_law_many_3 c_law_number c_law_pick g46 F46
  have c_law_some_paper := cal_law_some_paper (P := P) (w := w) (base := base) bt c_law_names c_law_pick c_law_some_parts c_law_number c_law_many_3 c_law_some_deed g47 F47
  have c_law_holds_3 := cal_law_holds_3 (P := P) (w := w) (base := base) bt c_law_text c_read_paper c_law_alike c_show_paper g48 F48
  exact ok_law_65 bt c_law_pick c_law_some_paper c_law_holds_3 F49 g49 F50
end SwLaw
open PySem PySem.W PySem.Calls PyProof.Rows
theorem PySem.Challenge.cw_strandwright_k65_papers_written_and_read_holds : PySem.Challenge.rw_strandwright_k65_papers_written_and_read.Holds := by
  w_on; o_law
  refine HandSHeadRun.head_any (r := OpenLaw.row PySem.Challenge.rw_strandwright_k65_papers_written_and_read) (q := view (OpenLaw.row PySem.Challenge.rw_strandwright_k65_papers_written_and_read).prog [67]) (H := SwLaw.hk) (ob := SwLaw.ob) (M := 20000) (loose := SwLaw.looseN) (d := HandSHeadRun.topDef (OpenLaw.row PySem.Challenge.rw_strandwright_k65_papers_written_and_read).prog 67) (kwd := []) SwLaw.ob_eq
    (by kernel_rfl) (fun s => by kernel_rfl) SwLaw.run (by kernel_rfl) (by kernel_rfl) (by kernel_rfl) (by rfl) (by first | assumption | decide +kernel) (by decide +kernel) SwLaw.bareR ?hw ?hc
  case hw => w_witness2
  case hc =>
    refine L2.walk_ofE (l := PySem.Challenge.rw_strandwright_k65_papers_written_and_read) (n := 63) (k := 15) (x := "_law_script") (CX := L2.CX0) rfl (by decide) (by kernel_rfl) ⟨rfl, by decide, by decide⟩ ?F (fun _ _ _ _ z => z)
    intro w mg fa h Y G hmg0
    obtain ⟨K, KX, c⟩ := Y
    have hmg : mg ("law" : PySem.Str) = some (.ref fa) := by
      have e : (HandSHeadRun.topDef (OpenLaw.row PySem.Challenge.rw_strandwright_k65_papers_written_and_read).prog 67).name = ("law" : PySem.Str) := by kernel_rfl
      rw [← e]
      exact hmg0
    obtain ⟨fd, hb, hF⟩ := SwLaw.facts (P := (PySem.Challenge.rw_strandwright_k65_papers_written_and_read).prog) (w := w) KX G hmg c
    exact ⟨K, fd, Sw.spLaw ⟨K, (PySem.Challenge.rw_strandwright_k65_papers_written_and_read).prog, w⟩, KX, hb, fun H a ns hl _ hS => ⟨a, ns, rfl, hl, hS, fun _ => rfl⟩, hF⟩
