import PyProof.Rows.All
import Wide.All
import OpenK.AllK
import Wide.FinOn
import PySem.Challenge.RW_servedlongest_k08_whole_like_parts_in_a
import HandS.ForMost
import HandS.Exc
import HandS.ExcOwn
import HandS.Wide
import HandS.Nested
import HandS.Walk
import HandS.Conv
import HandS.IsInst
import HandS.Style
import HandS.TupLe
import HandS.TupAny
import HandS.TupMul
import HandS.WordsExc
import HandS.Deep
import PyProof.ReprRoads
import PyProof.CallFns
import HandS.ExcInit
import HandS.ExcSuper
import HandS.ExcIs
import HandS.ExcField
import KE.KExcSuper
import KE.KExcIs
import HandS.NestedK
import HandS.EndTab
import HandS.Head4
import KE.KNestM
import KE.RegKSuper
import KE.SortData
import HandS.SortOrd
import HandS.Zip0
import KE.GoesZip
import HandS.Zip
import PyProof.P3In
set_option Elab.async false
set_option linter.all false
set_option maxRecDepth 100000
/-! Pv1: pure values, pure states; how they lie in the abstract heap; results. -/
namespace Pv
open PySem PySem.Spec PyProof.Rows L2

/-- a pure value: tuples by value; tmp: a list that nobody changes any more; kl: a list that was there ahead (the script), read alone; loc: a list (or another thing) that may change -/
inductive PV where
  | non | bl (b : Bool) | int (i : Int) | str (x : Str)
  | tup (xs : List PV) | tmp (xs : List PV) | kl (xs : List PV) | loc (l : Nat)
  | ty (n : String) | cls (c : Nat) | exc (c : Nat) (x : PV) | clo (k fid : Nat)
  deriving Inhabited

/-- what stands at a place of the store; flst: the script, read alone -/
inductive PObj where
  | lst (xs : List PV) | flst (xs : List PV)
  deriving Inhabited

structure Sto where
  objs : List PObj
  susp : List (Nat × List (Str × PV))
  nf : Nat
  deriving Inhabited

inductive Res (α : Type) where
  | ok (a : α) (s : Sto) | exc (c : Nat) (x : PV) (s : Sto) | stk

def Res.bind {α β : Type} (r : Res α) (f : α → Sto → Res β) : Res β := match r with
  | .ok a s => f a s
  | .exc c x s => .exc c x s
  | .stk => .stk
@[simp] theorem Res.bind_ok {α β : Type} (a : α) (s : Sto) (f : α → Sto → Res β) : (Res.ok a s).bind f = f a s := rfl
@[simp] theorem Res.bind_exc {α β : Type} (c : Nat) (x : PV) (s : Sto) (f : α → Sto → Res β) : (Res.exc c x s : Res α).bind f = .exc c x s := rfl
@[simp] theorem Res.bind_stk {α β : Type} (f : α → Sto → Res β) : (Res.stk : Res α).bind f = .stk := rfl

abbrev Sl := List (Option PV)
abbrev EF := Sl → Sto → Res PV

/-- a lambda: its words, what it captured, its code object -/
structure LF where
  qual : Str
  params : Arguments
  body : Expr
  scope : Scope
  cl : List (Str × Addr)
  c : Addr
/-- the object at f is the lambda F -/
def LamO (f : Addr) (F : LF) : HO := .ext fun h => ∃ (pm ctv : Value), h.get? f = some (PySem.W.kla_obj "<lambda>" F.qual F.params F.body F.scope F.cl pm F.c ctv)
theorem lamO_ne {f : Addr} {F : LF} (ps : Array Value) : LamO f F ≠ .tbl ps := fun z => by
  unfold LamO at z
  cases z
/-- what is fixed for a program: the written part, the classes' places, the lambdas' texts, the tables of code objects; own: the running frame's number and cells -/
structure G where
  P : Program
  w : World
  K : PySem.W.Frag
  mg : Str → Option Value
  base : Heap
  cls : Nat → Addr
  lam : Nat → List (Str × Addr) → Addr → LF
  T : List NdefX.NTab
  own : Option (Nat × List (Str × Addr))

/-- where the places of the store and the frames' cells stand -/
structure Wm where
  locs : List Addr
  /-- lists that a comprehension fills just now -/
  priv : List Addr
  frs : List (List (Str × Addr))

/-- the error's own object at a (caught, never raised again) -/
def ErrO (C : Addr) (d a : Addr) : HO := .ext fun h => ∃ (oe : Obj) (vs : Array Value), h.get? a = some oe ∧ Zc (.ref C) (some d) oe ∧ oe.data = .fields vs

def KTup (K : PySem.W.Frag) (a : Addr) (xs : List V) : Prop :=
  ∃ (o : Obj) (its : Array Value) (n : Nat), K.lookup a = some o ∧ o.cls = .type "tuple" ∧ o.data = .seq its n ∧ its.size ≤ sizeLine ∧ Vals xs its.toList
def TupAt (K : PySem.W.Frag) (φ : Wm) (H : Hp) (a : Addr) (vs : List V) : Prop := (Rd H a (.tup vs) ∧ a ∉ φ.locs) ∨ KTup K a vs
theorem TupAt.sq {K : PySem.W.Frag} {φ : Wm} {H : Hp} {a : Addr} {vs : List V} (h : TupAt K φ H a vs) : SqT K H a vs := h.elim (fun h => .inl h.1) .inr

def KlAt (K : PySem.W.Frag) (φ : Wm) (H : Hp) (a : Addr) (vs : List V) : Prop := ((∃ o, H a = some (.frz o (.lst vs))) ∧ a ∉ φ.locs) ∨
  ∃ (o : Obj) (its : Array Value) (n : Nat), K.lookup a = some o ∧ o.cls = .type "list" ∧ o.dict = none ∧ o.data = .seq its n ∧ its.size ≤ sizeLine ∧ Vals vs its.toList
theorem KlAt.sq {K : PySem.W.Frag} {φ : Wm} {H : Hp} {a : Addr} {vs : List V} (h : KlAt K φ H a vs) : SqL K H a vs := h.elim (fun h => .inl (.inr h.1)) .inr
theorem KlAt.map {K : PySem.W.Frag} {φ φ' : Wm} {H H' : Hp} {a : Addr} {vs : List V} (h : KlAt K φ H a vs) (k : ∀ o, H a = some (.frz o (.lst vs)) → a ∉ φ.locs → H' a = some (.frz o (.lst vs)) ∧ a ∉ φ'.locs) : KlAt K φ' H' a vs := by
  rcases h with ⟨⟨o, h⟩, n⟩ | h
  · exact .inl ⟨⟨o, (k o h n).1⟩, (k o h n).2⟩
  · exact .inr h
mutual
def Rep (g : G) (φ : Wm) (H : Hp) : PV → V → Prop
  | .non, v => v = .non
  | .bl b, v => v = .bl b
  | .int i, v => v = .int i
  | .str x, v => v = .str x
  | .tup xs, v => ∃ a vs, v = .ref a ∧ TupAt g.K φ H a vs ∧ Reps g φ H xs vs
  | .tmp xs, v => ∃ a vs, v = .ref a ∧ H a = some (.lst vs) ∧ a ∉ φ.locs ∧ a ∉ φ.priv ∧ Reps g φ H xs vs
  | .kl xs, v => ∃ a vs, v = .ref a ∧ KlAt g.K φ H a vs ∧ Reps g φ H xs vs
  | .loc l, v => ∃ a, v = .ref a ∧ φ.locs[l]? = some a
  | .ty n, v => v = .ty n
  | .cls c, v => v = .ref (g.cls c)
  | .exc c x, v => ∃ a d u, v = .ref a ∧ H a = some (ErrO (g.cls c) d a) ∧ a ∉ φ.locs ∧ H d = some (.xd [(("value" : Str), u)]) ∧ d ∉ φ.locs ∧ Rep g φ H x u
  | .clo k fid, v => ∃ f c cs, (v = .ref f ∧ ∀ y ∈ (g.lam k cs c).scope.names, y.2 = .free → ∃ a, cs.lookup y.1 = some a) ∧ φ.frs[fid]? = some cs ∧ H f = some (LamO f (g.lam k cs c)) ∧ f ∉ φ.locs ∧ H c = some (LamX.CodeO c (g.lam k cs c).qual) ∧ c ∉ φ.locs
def Reps (g : G) (φ : Wm) (H : Hp) : List PV → List V → Prop
  | [], vs => vs = []
  | x :: xs, vs => ∃ v r, vs = v :: r ∧ Rep g φ H x v ∧ Reps g φ H xs r
end

def ORep (g : G) (φ : Wm) (H : Hp) (a : Addr) : PObj → Prop
  | .lst xs => ∃ vs, H a = some (.lst vs) ∧ Reps g φ H xs vs
  | .flst xs => ∃ o vs, H a = some (.frz o (.lst vs)) ∧ Reps g φ H xs vs

structure Le (φ : Wm) (H : Hp) (φ' : Wm) (H' : Hp) : Prop where
  locs : φ.locs <+: φ'.locs
  frs : φ.frs <+: φ'.frs
  prv : φ'.priv = φ.priv
  old : ∀ a o, H a = some o → (∀ ps, o ≠ .tbl ps) → a ∉ φ.locs → H' a = some o ∧ a ∉ φ'.locs

/-- a frame's cells, known and unwritten while others run -/
structure SuspE (g : G) (φ : Wm) (H : Hp) (cs : List (Str × Addr)) (kv : List (Str × PV)) : Prop where
  inj : ∀ x y c, cs.lookup x = some c → cs.lookup y = some c → x = y
  all : ∀ y c, cs.lookup y = some c → ∃ o v, H c = some (.frz o (.ext fun _ => True)) ∧ c ∉ φ.locs ∧ o.data = .cell v
  val : ∀ q ∈ kv, ∃ c o u v, cs.lookup q.1 = some c ∧ H c = some (.frz o (.ext fun _ => True)) ∧ o.data = .cell (some u) ∧ RelV v u ∧ Rep g φ H q.2 v
def SuspOk (g : G) (φ : Wm) (H : Hp) (l : List (Nat × List (Str × PV))) : Prop := ∀ p ∈ l, ∃ cs, φ.frs[p.1]? = some cs ∧ SuspE g φ H cs p.2

structure Sim (g : G) (φ : Wm) (H : Hp) (s : Sto) : Prop where
  len : φ.locs.length = s.objs.length
  nd : φ.locs.Nodup
  obj : ∀ (l : Nat) o a, s.objs[l]? = some o → φ.locs[l]? = some a → ORep g φ H a o
  nf : φ.frs.length = s.nf
  prv : ∀ a ∈ φ.priv, (∃ vs, H a = some (.lst vs)) ∧ a ∉ φ.locs
  tabs : NdefX.TabsN g.T H
  susp : SuspOk g φ H s.susp

structure EnvSim (g : G) (φ : Wm) (H : Hp) (σ : L2.St) (ρ : Sl) : Prop where
  len : σ.length = ρ.length
  at_ : ∀ (i : Nat) p, ρ[i]? = some (some p) → ∃ v, σ[i]? = some (some v) ∧ Rep g φ H p v
  own : ∀ p, g.own = some p → φ.frs[p.1]? = some p.2


section
variable {g : G} {φ φ' φ1 : Wm} {H H' H1 : Hp} {s s' : Sto}
theorem Le.refl (φ : Wm) (H : Hp) : Le φ H φ H := ⟨List.prefix_refl _, List.prefix_refl _, rfl, fun _ _ h _ n => ⟨h, n⟩⟩
theorem Le.trans (a : Le φ H φ1 H1) (b : Le φ1 H1 φ' H') : Le φ H φ' H' :=
  ⟨a.locs.trans b.locs, a.frs.trans b.frs, b.prv.trans a.prv, fun x o h t n => let ⟨h1, n1⟩ := a.old x o h t n; b.old x o h1 t n1⟩
theorem pre_get {α : Type} {l m : List α} (p : l <+: m) {i : Nat} {x : α} (h : l[i]? = some x) : m[i]? = some x := by
  obtain ⟨r, rfl⟩ := p
  rw [List.getElem?_append_left (List.getElem?_eq_some_iff.mp h).1]
  exact h
theorem TupAt.mono {K : PySem.W.Frag} (e : Le φ H φ' H') {a : Addr} {vs : List V} (h : TupAt K φ H a vs) : TupAt K φ' H' a vs := by
  rcases h with ⟨h | ⟨o, h⟩, n⟩ | h
  · exact .inl ⟨.inl (e.old a _ h (fun _ z => nomatch z) n).1, (e.old a _ h (fun _ z => nomatch z) n).2⟩
  · exact .inl ⟨.inr ⟨o, (e.old a _ h (fun _ z => nomatch z) n).1⟩, (e.old a _ h (fun _ z => nomatch z) n).2⟩
  · exact .inr h
mutual
theorem Rep.mono (e : Le φ H φ' H') : ∀ {p : PV} {v : V}, Rep g φ H p v → Rep g φ' H' p v
  | .non, v, h => by simpa only [Rep] using h
  | .bl b, v, h => by simpa only [Rep] using h
  | .int i, v, h => by simpa only [Rep] using h
  | .str x, v, h => by simpa only [Rep] using h
  | .ty n, v, h => by simpa only [Rep] using h
  | .cls c, v, h => by simpa only [Rep] using h
  | .tup xs, v, h => by
    simp only [Rep] at h ⊢
    obtain ⟨a, vs, h1, h2, h3⟩ := h
    exact ⟨a, vs, h1, h2.mono e, Reps.mono e h3⟩
  | .tmp xs, v, h => by
    simp only [Rep] at h ⊢
    obtain ⟨a, vs, h1, h2, h4, h5, h3⟩ := h
    have q := e.old a _ h2 (fun _ z => nomatch z) h4
    exact ⟨a, vs, h1, q.1, q.2, by rw [e.prv]; exact h5, Reps.mono e h3⟩
  | .kl xs, v, h => by
    simp only [Rep] at h ⊢
    obtain ⟨a, vs, h1, h2, h3⟩ := h
    exact ⟨a, vs, h1, h2.map fun o q n => e.old a _ q (fun _ z => nomatch z) n, Reps.mono e h3⟩
  | .loc l, v, h => by
    simp only [Rep] at h ⊢
    obtain ⟨a, h1, h2⟩ := h
    exact ⟨a, h1, pre_get e.locs h2⟩
  | .exc c x, v, h => by
    simp only [Rep] at h ⊢
    obtain ⟨a, d, u, h1, h2, h3, h4, h5, h6⟩ := h
    have q := e.old a _ h2 (fun _ z => nomatch z) h3
    have r := e.old d _ h4 (fun _ z => nomatch z) h5
    exact ⟨a, d, u, h1, q.1, q.2, r.1, r.2, Rep.mono e h6⟩
  | .clo k fid, v, h => by
    simp only [Rep] at h ⊢
    obtain ⟨f, c, cs, h1, h2, h3, h4, h5, h6⟩ := h
    have q := e.old f _ h3 (fun ps => lamO_ne ps) h4
    have r := e.old c _ h5 (fun ps => LamX.codeO_ne ps) h6
    exact ⟨f, c, cs, h1, pre_get e.frs h2, q.1, q.2, r.1, r.2⟩
theorem Reps.mono (e : Le φ H φ' H') : ∀ {xs : List PV} {vs : List V}, Reps g φ H xs vs → Reps g φ' H' xs vs
  | [], vs, h => by simpa only [Reps] using h
  | x :: xs, vs, h => by
    simp only [Reps] at h ⊢
    obtain ⟨v, r, h1, h2, h3⟩ := h
    exact ⟨v, r, h1, Rep.mono e h2, Reps.mono e h3⟩
end
theorem ORep.mono_of {a : Addr} {o : PObj} (e : Le φ H φ' H') (k : H' a = H a) (h : ORep g φ H a o) : ORep g φ' H' a o := by
  cases o with
  | lst xs => obtain ⟨vs, h1, h2⟩ := h; exact ⟨vs, k.trans h1, h2.mono e⟩
  | flst xs => obtain ⟨o, vs, h1, h2⟩ := h; exact ⟨o, vs, k.trans h1, h2.mono e⟩
theorem EnvSim.mono {σ : L2.St} {ρ : Sl} (e : Le φ H φ' H') (h : EnvSim g φ H σ ρ) : EnvSim g φ' H' σ ρ :=
  ⟨h.len, fun i p q => let ⟨v, a, b⟩ := h.at_ i p q; ⟨v, a, b.mono e⟩, fun p q => pre_get e.frs (h.own p q)⟩
theorem SuspE.map {g' : G} {cs : List (Str × Addr)} {kv : List (Str × PV)} (S : SuspE g φ H cs kv) (hf : ∀ c o, H c = some (.frz o (.ext fun _ => True)) → c ∉ φ.locs → H' c = some (.frz o (.ext fun _ => True)) ∧ c ∉ φ'.locs)
    (hr : ∀ p v, Rep g φ H p v → Rep g' φ' H' p v) : SuspE g' φ' H' cs kv := by
  refine ⟨S.inj, fun y c e => ?_, fun q hq => ?_⟩
  · obtain ⟨o, v, h1, h2, h3⟩ := S.all y c e
    exact ⟨o, v, (hf c o h1 h2).1, (hf c o h1 h2).2, h3⟩
  · obtain ⟨c, o, u, v, h1, h2, h4, h5, h6⟩ := S.val q hq
    obtain ⟨_, _, _, h3, _⟩ := S.all q.1 c h1
    exact ⟨c, o, u, v, h1, (hf c o h2 h3).1, h4, h5, hr _ _ h6⟩
theorem SuspOk.map {g' : G} {l : List (Nat × List (Str × PV))} (S : SuspOk g φ H l) (hfr : ∀ (i : Nat) (x : List (Str × Addr)), φ.frs[i]? = Option.some x → φ'.frs[i]? = Option.some x) (hf : ∀ c o, H c = some (.frz o (.ext fun _ => True)) → c ∉ φ.locs → H' c = some (.frz o (.ext fun _ => True)) ∧ c ∉ φ'.locs)
    (hr : ∀ p v, Rep g φ H p v → Rep g' φ' H' p v) : SuspOk g' φ' H' l := fun p hp => let ⟨cs, a, b⟩ := S p hp; ⟨cs, hfr _ _ a, b.map hf hr⟩
theorem SuspOk.mono {l : List (Nat × List (Str × PV))} (e : Le φ H φ' H') (S : SuspOk g φ H l) : SuspOk g φ' H' l :=
  S.map (fun _ _ h => pre_get e.frs h) (fun c o h n => e.old c _ h (fun _ z => nomatch z) n) fun _ _ r => r.mono e
theorem Reps.length : ∀ {xs : List PV} {vs : List V}, Reps g φ H xs vs → xs.length = vs.length
  | [], vs, h => by simp only [Reps] at h; subst h; rfl
  | x :: xs, vs, h => by
    simp only [Reps] at h
    obtain ⟨v, r, rfl, _, h3⟩ := h
    simp [Reps.length h3]
theorem Reps.get : ∀ {xs : List PV} {vs : List V} {i : Nat} {p : PV}, Reps g φ H xs vs → xs[i]? = some p → ∃ v, vs[i]? = some v ∧ Rep g φ H p v
  | [], _, _, _, _, e => by simp at e
  | x :: xs, vs, 0, p, h, e => by
    simp only [Reps] at h
    obtain ⟨v, r, rfl, h2, _⟩ := h
    simp at e; subst e
    exact ⟨v, rfl, h2⟩
  | x :: xs, vs, i + 1, p, h, e => by
    simp only [Reps] at h
    obtain ⟨v, r, rfl, _, h3⟩ := h
    obtain ⟨u, a, b⟩ := Reps.get (i := i) h3 (by simpa using e)
    exact ⟨u, by simpa using a, b⟩
theorem Reps.get' {xs : List PV} {vs : List V} {i : Nat} {v : V} (h : Reps g φ H xs vs) (e : vs[i]? = some v) : ∃ p, xs[i]? = some p ∧ Rep g φ H p v := by
  have hl := h.length
  have hi : i < xs.length := by rw [hl]; exact (List.getElem?_eq_some_iff.mp e).1
  obtain ⟨u, a, b⟩ := h.get (List.getElem?_eq_getElem hi)
  rw [e] at a; cases a
  exact ⟨_, List.getElem?_eq_getElem hi, b⟩
theorem Reps.nil : Reps g φ H [] [] := by simp only [Reps]
theorem Reps.cons {x : PV} {v : V} {xs : List PV} {vs : List V} (a : Rep g φ H x v) (b : Reps g φ H xs vs) : Reps g φ H (x :: xs) (v :: vs) := by
  simp only [Reps]
  exact ⟨v, vs, rfl, a, b⟩
theorem Reps.append : ∀ {xs ys : List PV} {vs us : List V}, Reps g φ H xs vs → Reps g φ H ys us → Reps g φ H (xs ++ ys) (vs ++ us)
  | [], ys, vs, us, h, k => by simp only [Reps] at h; subst h; simpa using k
  | x :: xs, ys, vs, us, h, k => by
    simp only [Reps] at h
    obtain ⟨v, r, rfl, h2, h3⟩ := h
    exact Reps.cons h2 (Reps.append h3 k)
theorem Reps.take : ∀ {xs : List PV} {vs : List V} (n : Nat), Reps g φ H xs vs → Reps g φ H (xs.take n) (vs.take n)
  | _, _, 0, _ => by simpa using Reps.nil
  | [], vs, n + 1, h => by simp only [Reps] at h; subst h; exact Reps.nil
  | x :: xs, vs, n + 1, h => by
    simp only [Reps] at h
    obtain ⟨v, r, rfl, h2, h3⟩ := h
    exact Reps.cons h2 (Reps.take n h3)
theorem Reps.drop : ∀ {xs : List PV} {vs : List V} (n : Nat), Reps g φ H xs vs → Reps g φ H (xs.drop n) (vs.drop n)
  | _, _, 0, h => by simpa using h
  | [], vs, n + 1, h => by simp only [Reps] at h; subst h; exact Reps.nil
  | x :: xs, vs, n + 1, h => by
    simp only [Reps] at h
    obtain ⟨v, r, rfl, h2, h3⟩ := h
    exact Reps.drop n h3
theorem Reps.set : ∀ {xs : List PV} {vs : List V} (n : Nat) {x : PV} {v : V}, Rep g φ H x v → Reps g φ H xs vs → Reps g φ H (xs.set n x) (vs.set n v)
  | [], vs, n, x, v, r, h => by simp only [Reps] at h; subst h; exact Reps.nil
  | y :: xs, vs, 0, x, v, r, h => by
    simp only [Reps] at h
    obtain ⟨u, q, rfl, h2, h3⟩ := h
    exact Reps.cons r h3
  | y :: xs, vs, n + 1, x, v, r, h => by
    simp only [Reps] at h
    obtain ⟨u, q, rfl, h2, h3⟩ := h
    exact Reps.cons h2 (Reps.set n r h3)
theorem Reps.rev {xs : List PV} {vs : List V} (h : Reps g φ H xs vs) : Reps g φ H xs.reverse vs.reverse := by
  induction xs generalizing vs with
  | nil => simp only [Reps] at h; subst h; exact Reps.nil
  | cons x xs ih =>
    simp only [Reps] at h
    obtain ⟨v, r, rfl, h2, h3⟩ := h
    rw [List.reverse_cons, List.reverse_cons]
    exact (ih h3).append (Reps.cons h2 Reps.nil)

/-- a new object that is not a place of the store -/
theorem Le.new {p : Addr} {o : HO} (h : H p = none) (hp : p ∉ φ.locs) : Le φ H φ (upd H p o) :=
  ⟨List.prefix_refl _, List.prefix_refl _, rfl, fun a u e _ n => ⟨by rw [upd_ne (ne_of_none e h)]; exact e, n⟩⟩
theorem Sim.there (S : Sim g φ H s) {l : Nat} {a : Addr} (h : φ.locs[l]? = some a) : ∃ o, s.objs[l]? = Option.some o ∧ ORep g φ H a o := by
  have hl : l < s.objs.length := by rw [← S.len]; exact (List.getElem?_eq_some_iff.mp h).1
  exact ⟨_, List.getElem?_eq_getElem hl, S.obj l _ a (List.getElem?_eq_getElem hl) h⟩
theorem ORep.ne {a : Addr} {o : PObj} (h : ORep g φ H a o) : H a ≠ none := by
  cases o with
  | lst xs => obtain ⟨vs, h1, _⟩ := h; rw [h1]; exact fun z => nomatch z
  | flst xs => obtain ⟨o, vs, h1, _⟩ := h; rw [h1]; exact fun z => nomatch z
theorem ORep.ntbl {a : Addr} {o : PObj} (h : ORep g φ H a o) : ∀ ps, H a ≠ some (.tbl ps) := by
  cases o with
  | lst xs => obtain ⟨vs, h1, _⟩ := h; rw [h1]; exact fun _ z => nomatch z
  | flst xs => obtain ⟨o, vs, h1, _⟩ := h; rw [h1]; exact fun _ z => nomatch z
/-- what is free is no place of the store -/
theorem Sim.fresh (S : Sim g φ H s) {p : Addr} (h : H p = none) : p ∉ φ.locs := fun hm => by
  obtain ⟨l, hl⟩ := List.mem_iff_getElem?.mp hm
  obtain ⟨o, _, r⟩ := S.there hl
  exact r.ne h
theorem tabs_new {T : List NdefX.NTab} {p : Addr} {o : HO} (t : NdefX.TabsN T H) (h : H p = none) : NdefX.TabsN T (upd H p o) :=
  t.ext fun b u e => by rw [upd_ne (ne_of_none e h)]; exact e
/-- an object that is no place of the store has come -/
theorem Sim.prvN (S : Sim g φ H s) : ∀ a ∈ φ.priv, H a ≠ none := fun a ha z => by
  obtain ⟨vs, e⟩ := (S.prv a ha).1
  rw [e] at z; cases z
theorem Sim.new (S : Sim g φ H s) {p : Addr} {o : HO} (h : H p = none) : Sim g φ (upd H p o) s := by
  have e : Le φ H φ (upd H p o) := Le.new h (S.fresh h)
  refine ⟨S.len, S.nd, fun l o' a h1 h2 => ?_, S.nf, fun a ha => ?_, tabs_new S.tabs h, S.susp.mono e⟩
  · have r := S.obj l o' a h1 h2
    exact r.mono_of e (upd_ne fun z => r.ne (by rw [z]; exact h))
  · obtain ⟨⟨vs, e1⟩, n⟩ := S.prv a ha
    exact ⟨⟨vs, by rw [upd_ne (ne_of_none e1 h)]; exact e1⟩, n⟩
def Sto.alloc (s : Sto) (o : PObj) : Sto := { s with objs := s.objs ++ [o] }
def Sto.set (s : Sto) (l : Nat) (o : PObj) : Sto := { s with objs := s.objs.set l o }
def Wm.add (φ : Wm) (a : Addr) : Wm := { φ with locs := φ.locs ++ [a] }
theorem Le.alloc {p : Addr} {o : HO} (h : H p = none) : Le φ H (φ.add p) (upd H p o) :=
  ⟨List.prefix_append _ _, List.prefix_refl _, rfl, fun a u e _ n => ⟨by rw [upd_ne (ne_of_none e h)]; exact e, fun hm => by
    rcases List.mem_append.mp hm with z | z
    · exact n z
    · have : a = p := by simpa using z
      exact ne_of_none e h this⟩⟩
/-- a new place of the store -/
theorem Sim.alloc (S : Sim g φ H s) {p : Addr} {vs : List V} {xs : List PV} (h : H p = none) (r : Reps g φ H xs vs) : Sim g (φ.add p) (upd H p (.lst vs)) (s.alloc (.lst xs)) := by
  have e : Le φ H (φ.add p) (upd H p (.lst vs)) := Le.alloc h
  have hp := S.fresh h
  refine ⟨by simp [Wm.add, Sto.alloc, S.len], ?_, fun l o' a h1 h2 => ?_, S.nf, fun a ha => ?_, tabs_new S.tabs h, S.susp.mono e⟩
  · show (φ.locs ++ [p]).Nodup
    rw [List.nodup_append]
    exact ⟨S.nd, by simp, fun a ha b hb => by
      have : b = p := by simpa using hb
      rw [this]; exact fun z => hp (z ▸ ha)⟩
  · have h1' : (s.objs ++ [PObj.lst xs])[l]? = Option.some o' := h1
    have h2' : (φ.locs ++ [p])[l]? = Option.some a := h2
    by_cases hl : l < s.objs.length
    · rw [List.getElem?_append_left hl] at h1'
      rw [List.getElem?_append_left (by rw [S.len]; exact hl)] at h2'
      have r := S.obj l o' a h1' h2'
      exact r.mono_of e (upd_ne fun z => r.ne (by rw [z]; exact h))
    · have hl2 : l < s.objs.length + 1 := by
        have := (List.getElem?_eq_some_iff.mp h1').1
        simpa using this
      have : l = s.objs.length := by omega
      subst this
      rw [List.getElem?_concat_length] at h1'
      rw [← S.len, List.getElem?_concat_length] at h2'
      cases h1'; cases h2'
      exact ⟨vs, upd_same, r.mono e⟩
  · obtain ⟨⟨us, e1⟩, n⟩ := S.prv a ha
    refine ⟨⟨us, by rw [upd_ne (ne_of_none e1 h)]; exact e1⟩, fun hm => ?_⟩
    rcases List.mem_append.mp hm with z | z
    · exact n z
    · exact ne_of_none e1 h (by simpa using z)
theorem Le.write {p : Addr} {o : HO} (hp : p ∈ φ.locs) : Le φ H φ (upd H p o) :=
  ⟨List.prefix_refl _, List.prefix_refl _, rfl, fun a u e _ n => ⟨by rw [upd_ne (fun z => n (by rw [z]; exact hp))]; exact e, n⟩⟩
theorem ORep.next {a : Addr} {o : PObj} (h : ORep g φ H a o) : ∀ f, H a ≠ Option.some (.ext f) := by
  cases o with
  | lst xs => obtain ⟨vs, h1, _⟩ := h; rw [h1]; exact fun _ z => nomatch z
  | flst xs => obtain ⟨o, vs, h1, _⟩ := h; rw [h1]; exact fun _ z => nomatch z
theorem tabs_write {T : List NdefX.NTab} {p : Addr} {o : HO} (t : NdefX.TabsN T H) (h1 : ∀ ps, H p ≠ Option.some (.tbl ps)) (h2 : ∀ f, H p ≠ Option.some (.ext f)) : NdefX.TabsN T (upd H p o) := fun q hq => by
  obtain ⟨ps, a, b, c⟩ := t q hq
  refine ⟨ps, by rw [upd_ne (fun z => h1 ps (by rw [← z]; exact a))]; exact a, b, fun pos cv hc => ?_⟩
  obtain ⟨d, e1, e2⟩ := c pos cv hc
  exact ⟨d, e1, by rw [upd_ne (fun z => h2 _ (by rw [← z]; exact e2))]; exact e2⟩
/-- a place of the store is written -/
theorem Sim.write (S : Sim g φ H s) {l : Nat} {p : Addr} {vs : List V} {xs : List PV} (hl : φ.locs[l]? = Option.some p) (r : Reps g φ H xs vs) : Sim g φ (upd H p (.lst vs)) (s.set l (.lst xs)) := by
  have hp : p ∈ φ.locs := List.mem_of_getElem? hl
  have e : Le φ H φ (upd H p (.lst vs)) := Le.write hp
  refine ⟨by simp [Sto.set, S.len], S.nd, fun m o' a h1 h2 => ?_, S.nf, fun a ha => ?_, ?_, S.susp.mono e⟩
  · have h1' : (s.objs.set l (.lst xs))[m]? = Option.some o' := h1
    by_cases hm : m = l
    · subst hm
      rw [hl] at h2; cases h2
      have hlt : m < s.objs.length := by rw [← S.len]; exact (List.getElem?_eq_some_iff.mp hl).1
      rw [List.getElem?_set_self hlt] at h1'
      cases h1'
      exact ⟨vs, upd_same, r.mono e⟩
    · rw [List.getElem?_set_ne (Ne.symm hm)] at h1'
      have r' := S.obj m o' a h1' h2
      refine r'.mono_of e (upd_ne fun z => hm ?_)
      subst z
      obtain ⟨b1, c1⟩ := List.getElem?_eq_some_iff.mp h2
      obtain ⟨b2, c2⟩ := List.getElem?_eq_some_iff.mp hl
      exact (List.getElem_inj S.nd).mp (c1.trans c2.symm)
  · obtain ⟨⟨us, e1⟩, n⟩ := S.prv a ha
    have q : a ≠ p := fun q => n (by rw [q]; exact hp)
    exact ⟨⟨us, by rw [upd_ne q]; exact e1⟩, n⟩
  · obtain ⟨o, _, r0⟩ := S.there hl
    exact tabs_write S.tabs r0.ntbl r0.next
end


/-! ### a list that a comprehension fills -/
def Wm.push (φ : Wm) (D : Addr) : Wm := { φ with priv := D :: φ.priv }
section
variable {g : G} {φ : Wm} {H : Hp} {s : Sto} {D : Addr} {o : HO}
mutual
theorem Rep.push (h : H D = none) : ∀ {p : PV} {v : V}, Rep g φ H p v → Rep g (φ.push D) (upd H D o) p v
  | .non, v, r => by simpa only [Rep] using r
  | .bl b, v, r => by simpa only [Rep] using r
  | .int i, v, r => by simpa only [Rep] using r
  | .str x, v, r => by simpa only [Rep] using r
  | .ty n, v, r => by simpa only [Rep] using r
  | .cls c, v, r => by simpa only [Rep] using r
  | .kl xs, v, r => by
    simp only [Rep] at r ⊢
    obtain ⟨a, vs, h1, h2, h3⟩ := r
    exact ⟨a, vs, h1, h2.map fun o q n => ⟨by rw [upd_ne (ne_of_none q h)]; exact q, n⟩, Reps.push h h3⟩
  | .loc l, v, r => by simp only [Rep] at r ⊢; exact r
  | .tup xs, v, r => by
    simp only [Rep] at r ⊢
    obtain ⟨a, vs, h1, h2, h3⟩ := r
    refine ⟨a, vs, h1, ?_, Reps.push h h3⟩
    rcases h2 with ⟨q | ⟨o, q⟩, n⟩ | q
    · exact .inl ⟨.inl (by rw [upd_ne (ne_of_none q h)]; exact q), n⟩
    · exact .inl ⟨.inr ⟨o, by rw [upd_ne (ne_of_none q h)]; exact q⟩, n⟩
    · exact .inr q
  | .tmp xs, v, r => by
    simp only [Rep] at r ⊢
    obtain ⟨a, vs, h1, h2, h4, h5, h3⟩ := r
    have ne := ne_of_none h2 h
    exact ⟨a, vs, h1, by rw [upd_ne ne]; exact h2, h4, fun z => (List.mem_cons.mp z).elim ne h5, Reps.push h h3⟩
  | .exc c x, v, r => by
    simp only [Rep] at r ⊢
    obtain ⟨a, d, u, h1, h2, h3, h4, h5, h6⟩ := r
    exact ⟨a, d, u, h1, by rw [upd_ne (ne_of_none h2 h)]; exact h2, h3, by rw [upd_ne (ne_of_none h4 h)]; exact h4, h5, Rep.push h h6⟩
  | .clo k fid, v, r => by
    simp only [Rep] at r ⊢
    obtain ⟨f, c, cs, h1, h2, h3, h4, h5, h6⟩ := r
    exact ⟨f, c, cs, h1, h2, by rw [upd_ne (ne_of_none h3 h)]; exact h3, h4, by rw [upd_ne (ne_of_none h5 h)]; exact h5, h6⟩
theorem Reps.push (h : H D = none) : ∀ {xs : List PV} {vs : List V}, Reps g φ H xs vs → Reps g (φ.push D) (upd H D o) xs vs
  | [], vs, r => by simpa only [Reps] using r
  | x :: xs, vs, r => by
    simp only [Reps] at r ⊢
    obtain ⟨v, q, h1, h2, h3⟩ := r
    exact ⟨v, q, h1, Rep.push h h2, Reps.push h h3⟩
end
mutual
/-- the filled list is written -/
theorem Rep.fill {vs0 ws : List V} (h : H D = some (.lst vs0)) : ∀ {p : PV} {v : V}, Rep g (φ.push D) H p v → Rep g (φ.push D) (upd H D (.lst ws)) p v
  | .non, v, r => by simpa only [Rep] using r
  | .bl b, v, r => by simpa only [Rep] using r
  | .int i, v, r => by simpa only [Rep] using r
  | .str x, v, r => by simpa only [Rep] using r
  | .ty n, v, r => by simpa only [Rep] using r
  | .cls c, v, r => by simpa only [Rep] using r
  | .kl xs, v, r => by
    simp only [Rep] at r ⊢
    obtain ⟨a, vs, h1, h2, h3⟩ := r
    exact ⟨a, vs, h1, h2.map fun o q n => ⟨by rw [upd_ne (ne_of q h (fun z => nomatch z))]; exact q, n⟩, Reps.fill h h3⟩
  | .loc l, v, r => by simp only [Rep] at r ⊢; exact r
  | .tup xs, v, r => by
    simp only [Rep] at r ⊢
    obtain ⟨a, vs, h1, h2, h3⟩ := r
    refine ⟨a, vs, h1, ?_, Reps.fill h h3⟩
    rcases h2 with ⟨q | ⟨o, q⟩, n⟩ | q
    · exact .inl ⟨.inl (by rw [upd_ne (ne_of q h (fun z => nomatch z))]; exact q), n⟩
    · exact .inl ⟨.inr ⟨o, by rw [upd_ne (ne_of q h (fun z => nomatch z))]; exact q⟩, n⟩
    · exact .inr q
  | .tmp xs, v, r => by
    simp only [Rep] at r ⊢
    obtain ⟨a, vs, h1, h2, h4, h5, h3⟩ := r
    have ne : a ≠ D := fun z => h5 (by rw [z]; exact List.mem_cons_self)
    exact ⟨a, vs, h1, by rw [upd_ne ne]; exact h2, h4, h5, Reps.fill h h3⟩
  | .exc c x, v, r => by
    simp only [Rep] at r ⊢
    obtain ⟨a, d, u, h1, h2, h3, h4, h5, h6⟩ := r
    exact ⟨a, d, u, h1, by rw [upd_ne (ne_of h2 h (fun z => nomatch z))]; exact h2, h3, by rw [upd_ne (ne_of h4 h (fun z => nomatch z))]; exact h4, h5, Rep.fill h h6⟩
  | .clo k fid, v, r => by
    simp only [Rep] at r ⊢
    obtain ⟨f, c, cs, h1, h2, h3, h4, h5, h6⟩ := r
    exact ⟨f, c, cs, h1, h2, by rw [upd_ne (ne_of h3 h (fun z => nomatch z))]; exact h3, h4, by rw [upd_ne (ne_of h5 h (fun z => nomatch z))]; exact h5, h6⟩
theorem Reps.fill {vs0 ws : List V} (h : H D = some (.lst vs0)) : ∀ {xs : List PV} {vs : List V}, Reps g (φ.push D) H xs vs → Reps g (φ.push D) (upd H D (.lst ws)) xs vs
  | [], vs, r => by simpa only [Reps] using r
  | x :: xs, vs, r => by
    simp only [Reps] at r ⊢
    obtain ⟨v, q, h1, h2, h3⟩ := r
    exact ⟨v, q, h1, Rep.fill h h2, Reps.fill h h3⟩
end
mutual
theorem Rep.pop : ∀ {p : PV} {v : V}, Rep g (φ.push D) H p v → Rep g φ H p v
  | .non, v, r => by simpa only [Rep] using r
  | .bl b, v, r => by simpa only [Rep] using r
  | .int i, v, r => by simpa only [Rep] using r
  | .str x, v, r => by simpa only [Rep] using r
  | .ty n, v, r => by simpa only [Rep] using r
  | .cls c, v, r => by simpa only [Rep] using r
  | .kl xs, v, r => by
    simp only [Rep] at r ⊢
    obtain ⟨a, vs, h1, h2, h3⟩ := r
    exact ⟨a, vs, h1, h2.map fun o q n => ⟨q, n⟩, Reps.pop h3⟩
  | .loc l, v, r => by simp only [Rep] at r ⊢; exact r
  | .tup xs, v, r => by
    simp only [Rep] at r ⊢
    obtain ⟨a, vs, h1, h2, h3⟩ := r
    exact ⟨a, vs, h1, h2, Reps.pop h3⟩
  | .tmp xs, v, r => by
    simp only [Rep] at r ⊢
    obtain ⟨a, vs, h1, h2, h4, h5, h3⟩ := r
    exact ⟨a, vs, h1, h2, h4, fun z => h5 (List.mem_cons_of_mem _ z), Reps.pop h3⟩
  | .exc c x, v, r => by
    simp only [Rep] at r ⊢
    obtain ⟨a, d, u, h1, h2, h3, h4, h5, h6⟩ := r
    exact ⟨a, d, u, h1, h2, h3, h4, h5, Rep.pop h6⟩
  | .clo k fid, v, r => by
    simp only [Rep] at r ⊢
    obtain ⟨f, c, cs, h1, h2, h3, h4, h5, h6⟩ := r
    exact ⟨f, c, cs, h1, h2, h3, h4, h5, h6⟩
theorem Reps.pop : ∀ {xs : List PV} {vs : List V}, Reps g (φ.push D) H xs vs → Reps g φ H xs vs
  | [], vs, r => by simpa only [Reps] using r
  | x :: xs, vs, r => by
    simp only [Reps] at r ⊢
    obtain ⟨v, q, h1, h2, h3⟩ := r
    exact ⟨v, q, h1, Rep.pop h2, Reps.pop h3⟩
end
theorem Sim.push (S : Sim g φ H s) (h : H D = none) : Sim g (φ.push D) (upd H D (.lst [])) s := by
  have S' := S.new (o := .lst []) h
  refine ⟨S.len, S.nd, fun l o' a h1 h2 => ?_, S.nf, fun a ha => ?_, S'.tabs, S.susp.map (fun _ _ h => h) (fun c o q n => ⟨by rw [upd_ne (ne_of_none q h)]; exact q, n⟩) fun _ _ r => r.push h⟩
  · have r := S.obj l o' a h1 h2
    have ne : a ≠ D := fun z => r.ne (by rw [z]; exact h)
    cases o' with
    | lst xs => obtain ⟨vs, r1, r2⟩ := r; exact ⟨vs, by rw [upd_ne ne]; exact r1, r2.push h⟩
    | flst xs => obtain ⟨o, vs, r1, r2⟩ := r; exact ⟨o, vs, by rw [upd_ne ne]; exact r1, r2.push h⟩
  · rcases List.mem_cons.mp ha with z | z
    · rw [z, upd_same]; exact ⟨⟨[], rfl⟩, S.fresh h⟩
    · exact S'.prv a z
theorem Sim.fill {vs0 ws : List V} (S : Sim g (φ.push D) H s) (h : H D = some (.lst vs0)) : Sim g (φ.push D) (upd H D (.lst ws)) s := by
  have hD : D ∉ φ.locs := (S.prv D List.mem_cons_self).2
  refine ⟨S.len, S.nd, fun l o' a h1 h2 => ?_, S.nf, fun a ha => ?_, tabs_write S.tabs (by rw [h]; exact fun _ z => nomatch z) (by rw [h]; exact fun _ z => nomatch z), S.susp.map (fun _ _ h => h) (fun c o q n => ⟨by rw [upd_ne (ne_of q h (fun z => nomatch z))]; exact q, n⟩) fun _ _ r => r.fill h⟩
  · have r := S.obj l o' a h1 h2
    have ne : a ≠ D := fun z => hD (by rw [← z]; exact List.mem_of_getElem? h2)
    cases o' with
    | lst xs => obtain ⟨vs, r1, r2⟩ := r; exact ⟨vs, by rw [upd_ne ne]; exact r1, r2.fill h⟩
    | flst xs => obtain ⟨o, vs, r1, r2⟩ := r; exact ⟨o, vs, by rw [upd_ne ne]; exact r1, r2.fill h⟩
  · by_cases q : a = D
    · rw [q, upd_same]; exact ⟨⟨ws, rfl⟩, hD⟩
    · rw [upd_ne q]; exact S.prv a ha
theorem Sim.pop (S : Sim g (φ.push D) H s) : Sim g φ H s := by
  refine ⟨S.len, S.nd, fun l o' a h1 h2 => ?_, S.nf, fun a ha => S.prv a (List.mem_cons_of_mem _ ha), S.tabs, S.susp.map (fun _ _ h => h) (fun c o q n => ⟨q, n⟩) fun _ _ r => r.pop⟩
  have r := S.obj l o' a h1 h2
  cases o' with
  | lst xs => obtain ⟨vs, r1, r2⟩ := r; exact ⟨vs, r1, r2.pop⟩
  | flst xs => obtain ⟨o, vs, r1, r2⟩ := r; exact ⟨o, vs, r1, r2.pop⟩
end

/-! ### another frame's reading of the same -/
def G.at (g : G) (o : Option (Nat × List (Str × Addr))) : G := { g with own := o }
abbrev G.b (g : G) : G := g.at none
section
variable {g : G} {o o' : Option (Nat × List (Str × Addr))} {φ : Wm} {H : Hp} {s : Sto}
mutual
theorem Rep.conv : ∀ {p : PV} {v : V}, Rep (g.at o) φ H p v → Rep (g.at o') φ H p v
  | .non, v, h => by simpa only [Rep] using h
  | .bl b, v, h => by simpa only [Rep] using h
  | .int i, v, h => by simpa only [Rep] using h
  | .str x, v, h => by simpa only [Rep] using h
  | .ty n, v, h => by simpa only [Rep] using h
  | .cls c, v, h => by simp only [Rep] at h ⊢; exact h
  | .tup xs, v, h => by
    simp only [Rep] at h ⊢
    obtain ⟨a, vs, h1, h2, h3⟩ := h
    exact ⟨a, vs, h1, h2, Reps.conv h3⟩
  | .tmp xs, v, h => by
    simp only [Rep] at h ⊢
    obtain ⟨a, vs, h1, h2, h4, h5, h3⟩ := h
    exact ⟨a, vs, h1, h2, h4, h5, Reps.conv h3⟩
  | .kl xs, v, h => by
    simp only [Rep] at h ⊢
    obtain ⟨a, vs, h1, h2, h3⟩ := h
    exact ⟨a, vs, h1, h2, Reps.conv h3⟩
  | .loc l, v, h => by simp only [Rep] at h ⊢; exact h
  | .exc c x, v, h => by
    simp only [Rep] at h ⊢
    obtain ⟨a, d, u, h1, h2, h3, h4, h5, h6⟩ := h
    exact ⟨a, d, u, h1, h2, h3, h4, h5, Rep.conv h6⟩
  | .clo k fid, v, h => by
    simp only [Rep] at h ⊢
    exact h
theorem Reps.conv : ∀ {xs : List PV} {vs : List V}, Reps (g.at o) φ H xs vs → Reps (g.at o') φ H xs vs
  | [], vs, h => by simpa only [Reps] using h
  | x :: xs, vs, h => by
    simp only [Reps] at h ⊢
    obtain ⟨v, r, h1, h2, h3⟩ := h
    exact ⟨v, r, h1, Rep.conv h2, Reps.conv h3⟩
end
theorem ORep.conv {a : Addr} {p : PObj} (h : ORep (g.at o) φ H a p) : ORep (g.at o') φ H a p := by
  cases p with
  | lst xs => obtain ⟨vs, h1, h2⟩ := h; exact ⟨vs, h1, h2.conv⟩
  | flst xs => obtain ⟨u, vs, h1, h2⟩ := h; exact ⟨u, vs, h1, h2.conv⟩
theorem Sim.conv (S : Sim (g.at o) φ H s) : Sim (g.at o') φ H s :=
  ⟨S.len, S.nd, fun l q a h1 h2 => (S.obj l q a h1 h2).conv, S.nf, S.prv, S.tabs, S.susp.map (fun _ _ h => h) (fun _ _ q n => ⟨q, n⟩) fun _ _ r => r.conv⟩
end
end Pv

/-! Pv2: readings of pure functions; expressions. -/
namespace Pv
open PySem PySem.Spec PyProof.Rows L2

/-! ### readings -/
def OutE (g : G) (W : WX) (φ : Wm) (H : Hp) (σ : L2.St) (r : Res PV) (Q : VK) : Prop := match r with
  | .ok p s' => ∀ φ' H' v, Le φ H φ' H' → Sim g φ' H' s' → Rep g φ' H' p v → Q v H'
  | .exc c x s' => ∀ φ' H' d u, Le φ H φ' H' → Sim g φ' H' s' → H' d = some (.xd [(("value" : Str), u)]) → d ∉ φ'.locs → Rep g φ' H' x u → W (.ref (g.cls c)) (some d) σ H'
  | .stk => False
def OutT (g : G) (W : WX) (φ : Wm) (H : Hp) (σ : L2.St) (r : Res Bool) (Q : Bool → Hp → Prop) : Prop := match r with
  | .ok p s' => ∀ φ' H', Le φ H φ' H' → Sim g φ' H' s' → Q p H'
  | .exc c x s' => ∀ φ' H' d u, Le φ H φ' H' → Sim g φ' H' s' → H' d = some (.xd [(("value" : Str), u)]) → d ∉ φ'.locs → Rep g φ' H' x u → W (.ref (g.cls c)) (some d) σ H'
  | .stk => False
def OutA (g : G) (W : WX) (φ : Wm) (H : Hp) (σ : L2.St) (r : Res (List PV)) (Q : List V → Hp → Prop) : Prop := match r with
  | .ok p s' => ∀ φ' H' v, Le φ H φ' H' → Sim g φ' H' s' → Reps g φ' H' p v → Q v H'
  | .exc c x s' => ∀ φ' H' d u, Le φ H φ' H' → Sim g φ' H' s' → H' d = some (.xd [(("value" : Str), u)]) → d ∉ φ'.locs → Rep g φ' H' x u → W (.ref (g.cls c)) (some d) σ H'
  | .stk => False
def rE (g : G) (W : WX) (f : Sl → Sto → Res PV) : TE := fun σ H Q => ∃ φ ρ s, Sim g φ H s ∧ EnvSim g φ H σ ρ ∧ OutE g W φ H σ (f ρ s) Q
def rT (g : G) (W : WX) (f : Sl → Sto → Res Bool) : TT := fun σ H Q => ∃ φ ρ s, Sim g φ H s ∧ EnvSim g φ H σ ρ ∧ OutT g W φ H σ (f ρ s) Q
def rA (g : G) (W : WX) (f : Sl → Sto → Res (List PV)) : TA := fun σ H Q => ∃ φ ρ s, Sim g φ H s ∧ EnvSim g φ H σ ρ ∧ OutA g W φ H σ (f ρ s) Q

/-! ### another reading of the same -/
section
variable {X : Cx} {e : Expr} {es : List Expr}
theorem pe_of {t t' : TE} (h : PE X e t) (k : ∀ σ H Q, t' σ H Q → t σ H Q) : PE X e t' := ⟨fun pins s σ H Q I q => h.run pins s σ H Q I (k σ H Q q)⟩
theorem pt_of {t t' : TT} (h : PT X e t) (k : ∀ σ H Q, t' σ H Q → t σ H Q) : PT X e t' := ⟨fun pins s σ H Q I q => h.run pins s σ H Q I (k σ H Q q)⟩
theorem pw_of {t t' : TT} (h : PW X e t) (k : ∀ σ H Q, t' σ H Q → t σ H Q) : PW X e t' := ⟨fun wh pins s σ H Q I q => h.run wh pins s σ H Q I (k σ H Q q)⟩
theorem pa_of {t t' : TA} (h : PA X es t) (k : ∀ σ H Q, t' σ H Q → t σ H Q) : PA X es t' := ⟨fun pos pins s σ H Q I q => h.run pos pins s σ H Q I (k σ H Q q)⟩
end

section
variable {g : G} {W : WX} {φ φ1 : Wm} {H H1 : Hp} {σ : L2.St} {ρ : Sl} {s : Sto}
theorem OutE.le {r : Res PV} {Q : VK} (e : Le φ H φ1 H1) (h : OutE g W φ H σ r Q) : OutE g W φ1 H1 σ r Q := by
  cases r with
  | ok p s' => exact fun φ' H' v e' S R => h φ' H' v (e.trans e') S R
  | exc c x s' => exact fun φ' H' d u e' S a b c => h φ' H' d u (e.trans e') S a b c
  | stk => exact h
theorem OutT.le {r : Res Bool} {Q : Bool → Hp → Prop} (e : Le φ H φ1 H1) (h : OutT g W φ H σ r Q) : OutT g W φ1 H1 σ r Q := by
  cases r with
  | ok p s' => exact fun φ' H' e' S => h φ' H' (e.trans e') S
  | exc c x s' => exact fun φ' H' d u e' S a b c => h φ' H' d u (e.trans e') S a b c
  | stk => exact h
theorem OutA.le {r : Res (List PV)} {Q : List V → Hp → Prop} (e : Le φ H φ1 H1) (h : OutA g W φ H σ r Q) : OutA g W φ1 H1 σ r Q := by
  cases r with
  | ok p s' => exact fun φ' H' v e' S R => h φ' H' v (e.trans e') S R
  | exc c x s' => exact fun φ' H' d u e' S a b c => h φ' H' d u (e.trans e') S a b c
  | stk => exact h

/-! ### one behind the other: an expression ahead of the rest; the rest ends in a value (E), a test (T), a list of values (A) -/
theorem seqEE {fa : EF} {k : PV → Sto → Res PV} {Q R : VK} (S : Sim g φ H s) (E : EnvSim g φ H σ ρ) (h : OutE g W φ H σ ((fa ρ s).bind k) Q)
    (hk : ∀ φ1 H1 s1 p v, Le φ H φ1 H1 → Sim g φ1 H1 s1 → Rep g φ1 H1 p v → OutE g W φ1 H1 σ (k p s1) Q → R v H1) : rE g W fa σ H R := by
  refine ⟨φ, ρ, s, S, E, ?_⟩
  cases q : fa ρ s with
  | ok p s1 =>
    rw [q] at h
    exact fun φ' H' v e' S' R' => hk φ' H' s1 p v e' S' R' (OutE.le e' h)
  | exc c x s1 => rw [q] at h; exact h
  | stk => rw [q] at h; exact h
theorem seqTE {fa : Sl → Sto → Res Bool} {k : Bool → Sto → Res PV} {Q : VK} {R : Bool → Hp → Prop} (S : Sim g φ H s) (E : EnvSim g φ H σ ρ) (h : OutE g W φ H σ ((fa ρ s).bind k) Q)
    (hk : ∀ φ1 H1 s1 p, Le φ H φ1 H1 → Sim g φ1 H1 s1 → OutE g W φ1 H1 σ (k p s1) Q → R p H1) : rT g W fa σ H R := by
  refine ⟨φ, ρ, s, S, E, ?_⟩
  cases q : fa ρ s with
  | ok p s1 =>
    rw [q] at h
    exact fun φ' H' e' S' => hk φ' H' s1 p e' S' (OutE.le e' h)
  | exc c x s1 => rw [q] at h; exact h
  | stk => rw [q] at h; exact h
theorem seqAE {fa : Sl → Sto → Res (List PV)} {k : List PV → Sto → Res PV} {Q : VK} {R : List V → Hp → Prop} (S : Sim g φ H s) (E : EnvSim g φ H σ ρ) (h : OutE g W φ H σ ((fa ρ s).bind k) Q)
    (hk : ∀ φ1 H1 s1 p v, Le φ H φ1 H1 → Sim g φ1 H1 s1 → Reps g φ1 H1 p v → OutE g W φ1 H1 σ (k p s1) Q → R v H1) : rA g W fa σ H R := by
  refine ⟨φ, ρ, s, S, E, ?_⟩
  cases q : fa ρ s with
  | ok p s1 =>
    rw [q] at h
    exact fun φ' H' v e' S' R' => hk φ' H' s1 p v e' S' R' (OutE.le e' h)
  | exc c x s1 => rw [q] at h; exact h
  | stk => rw [q] at h; exact h
theorem seqET {fa : EF} {k : PV → Sto → Res Bool} {Q : Bool → Hp → Prop} {R : VK} (S : Sim g φ H s) (E : EnvSim g φ H σ ρ) (h : OutT g W φ H σ ((fa ρ s).bind k) Q)
    (hk : ∀ φ1 H1 s1 p v, Le φ H φ1 H1 → Sim g φ1 H1 s1 → Rep g φ1 H1 p v → OutT g W φ1 H1 σ (k p s1) Q → R v H1) : rE g W fa σ H R := by
  refine ⟨φ, ρ, s, S, E, ?_⟩
  cases q : fa ρ s with
  | ok p s1 =>
    rw [q] at h
    exact fun φ' H' v e' S' R' => hk φ' H' s1 p v e' S' R' (OutT.le e' h)
  | exc c x s1 => rw [q] at h; exact h
  | stk => rw [q] at h; exact h
theorem seqTT {fa : Sl → Sto → Res Bool} {k : Bool → Sto → Res Bool} {Q : Bool → Hp → Prop} {R : Bool → Hp → Prop} (S : Sim g φ H s) (E : EnvSim g φ H σ ρ) (h : OutT g W φ H σ ((fa ρ s).bind k) Q)
    (hk : ∀ φ1 H1 s1 p, Le φ H φ1 H1 → Sim g φ1 H1 s1 → OutT g W φ1 H1 σ (k p s1) Q → R p H1) : rT g W fa σ H R := by
  refine ⟨φ, ρ, s, S, E, ?_⟩
  cases q : fa ρ s with
  | ok p s1 =>
    rw [q] at h
    exact fun φ' H' e' S' => hk φ' H' s1 p e' S' (OutT.le e' h)
  | exc c x s1 => rw [q] at h; exact h
  | stk => rw [q] at h; exact h
theorem seqEA {fa : EF} {k : PV → Sto → Res (List PV)} {Q : List V → Hp → Prop} {R : VK} (S : Sim g φ H s) (E : EnvSim g φ H σ ρ) (h : OutA g W φ H σ ((fa ρ s).bind k) Q)
    (hk : ∀ φ1 H1 s1 p v, Le φ H φ1 H1 → Sim g φ1 H1 s1 → Rep g φ1 H1 p v → OutA g W φ1 H1 σ (k p s1) Q → R v H1) : rE g W fa σ H R := by
  refine ⟨φ, ρ, s, S, E, ?_⟩
  cases q : fa ρ s with
  | ok p s1 =>
    rw [q] at h
    exact fun φ' H' v e' S' R' => hk φ' H' s1 p v e' S' R' (OutA.le e' h)
  | exc c x s1 => rw [q] at h; exact h
  | stk => rw [q] at h; exact h
theorem seqAA {fa : Sl → Sto → Res (List PV)} {k : List PV → Sto → Res (List PV)} {Q R : List V → Hp → Prop} (S : Sim g φ H s) (E : EnvSim g φ H σ ρ) (h : OutA g W φ H σ ((fa ρ s).bind k) Q)
    (hk : ∀ φ1 H1 s1 p v, Le φ H φ1 H1 → Sim g φ1 H1 s1 → Reps g φ1 H1 p v → OutA g W φ1 H1 σ (k p s1) Q → R v H1) : rA g W fa σ H R := by
  refine ⟨φ, ρ, s, S, E, ?_⟩
  cases q : fa ρ s with
  | ok p s1 =>
    rw [q] at h
    exact fun φ' H' v e' S' R' => hk φ' H' s1 p v e' S' R' (OutA.le e' h)
  | exc c x s1 => rw [q] at h; exact h
  | stk => rw [q] at h; exact h
theorem endE {r : Res PV} {p : PV} {s' : Sto} {Q : VK} (h : OutE g W φ H σ r Q) (e : r = .ok p s') {φ' : Wm} {H' : Hp} {v : V} (l : Le φ H φ' H') (S : Sim g φ' H' s') (R : Rep g φ' H' p v) : Q v H' := by
  subst e; exact h φ' H' v l S R
theorem endT {r : Res Bool} {p : Bool} {s' : Sto} {Q : Bool → Hp → Prop} (h : OutT g W φ H σ r Q) (e : r = .ok p s') {φ' : Wm} {H' : Hp} (l : Le φ H φ' H') (S : Sim g φ' H' s') : Q p H' := by
  subst e; exact h φ' H' l S
end

/-! ### operations by values: what changes nothing -/
/-- a pure operation of two values; none: nothing is said -/
def lift1 (o : Option PV) (s : Sto) : Res PV := match o with
  | some p => .ok p s
  | none => .stk
@[simp] theorem lift1_some (p : PV) (s : Sto) : lift1 (some p) s = .ok p s := rfl
@[simp] theorem lift1_none (s : Sto) : lift1 none s = .stk := rfl
def OpS (g : G) (r : R2) (o : PV → PV → Sto → Option PV) : Prop := ∀ (φ : Wm) (H : Hp) (s : Sto) (p q z : PV) (v u : V) (Q : VK), Sim g φ H s → Rep g φ H p v → Rep g φ H q u → o p q s = some z →
  (∀ φ' H' w, Le φ H φ' H' → Sim g φ' H' s → Rep g φ' H' z w → Q w H') → r v u H Q
def UnS (g : G) (r : V → Hp → VK → Prop) (o : PV → Sto → Option PV) : Prop := ∀ (φ : Wm) (H : Hp) (s : Sto) (p z : PV) (v : V) (Q : VK), Sim g φ H s → Rep g φ H p v → o p s = some z →
  (∀ φ' H' w, Le φ H φ' H' → Sim g φ' H' s → Rep g φ' H' z w → Q w H') → r v H Q
def CallS (g : G) (r : List V → Hp → VK → Prop) (o : List PV → Sto → Option PV) : Prop := ∀ (φ : Wm) (H : Hp) (s : Sto) (ps : List PV) (z : PV) (vs : List V) (Q : VK), Sim g φ H s → Reps g φ H ps vs → o ps s = some z →
  (∀ φ' H' w, Le φ H φ' H' → Sim g φ' H' s → Rep g φ' H' z w → Q w H') → r vs H Q
theorem OpS.or {g : G} {r r' : R2} {o o' : PV → PV → Sto → Option PV} (h : OpS g r o) (h' : OpS g r' o') : OpS g (fun x y H Q => r x y H Q ∨ r' x y H Q) (fun p q s => match o p q s with | some z => some z | none => o' p q s) := by
  intro φ H s p q z v u Q S R1 R2 e k
  cases q1 : o p q s with
  | some z' =>
    simp only [q1] at e
    cases e
    exact .inl (h φ H s p q z v u Q S R1 R2 q1 k)
  | none =>
    simp only [q1] at e
    exact .inr (h' φ H s p q z v u Q S R1 R2 e k)
theorem CallS.or {g : G} {r r' : List V → Hp → VK → Prop} {o o' : List PV → Sto → Option PV} (h : CallS g r o) (h' : CallS g r' o') : CallS g (fun x H Q => r x H Q ∨ r' x H Q) (fun p s => match o p s with | some z => some z | none => o' p s) := by
  intro φ H s p z v Q S R1 e k
  cases q1 : o p s with
  | some z' =>
    simp only [q1] at e
    cases e
    exact .inl (h φ H s p z v Q S R1 q1 k)
  | none =>
    simp only [q1] at e
    exact .inr (h' φ H s p z v Q S R1 e k)

def fOp (o : PV → PV → Sto → Option PV) (fa fb : EF) : EF := fun ρ s => (fa ρ s).bind fun p s1 => (fb ρ s1).bind fun q s2 => lift1 (o p q s2) s2
def fUn (o : PV → Sto → Option PV) (fa : EF) : EF := fun ρ s => (fa ρ s).bind fun p s1 => lift1 (o p s1) s1
def fCallB (o : List PV → Sto → Option PV) (fa : Sl → Sto → Res (List PV)) : EF := fun ρ s => (fa ρ s).bind fun p s1 => lift1 (o p s1) s1
section
variable {g : G} {W : WX} {X : Cx} {a b : Expr} {es : List Expr} {pos : Pos} {fa fb : EF}
theorem tOp_of {r : R2} {o : PV → PV → Sto → Option PV} (hs : OpS g r o) : ∀ σ H Q, rE g W (fOp o fa fb) σ H Q → tOp r (rE g W fa) (rE g W fb) σ H Q := by
  rintro σ H Q ⟨φ, ρ, s, S, E, h⟩
  refine seqEE S E h fun φ1 H1 s1 p v e1 S1 R1 h1 => ?_
  refine seqEE S1 (E.mono e1) h1 fun φ2 H2 s2 q u e2 S2 R2 h2 => ?_
  cases z : o p q s2 with
  | none => rw [z] at h2; exact h2.elim
  | some w => rw [z] at h2; exact hs φ2 H2 s2 p q w v u Q S2 (R1.mono e2) R2 z fun φ' H' x e' S' R' => h2 φ' H' x e' S' R'
theorem x_op {op : Operator} {r : R2} {o : PV → PV → Sto → Option PV} (ho : OpR X (binaryOp op) r) (hs : OpS g r o) (ha : PE X a (rE g W fa)) (hb : PE X b (rE g W fb)) : PE X (.BinOp a op b pos) (rE g W (fOp o fa fb)) :=
  pe_of (pe_op ho ha hb) (tOp_of hs)
theorem x_cmp {op : CmpOp} {r : R2} {o : PV → PV → Sto → Option PV} (ho : OpR X (compareOp op) r) (hs : OpS g r o) (hm : behindInMarks op b = false) (ha : PE X a (rE g W fa)) (hb : PE X b (rE g W fb)) : PE X (.Compare a [op] [b] pos) (rE g W (fOp o fa fb)) :=
  pe_of (pe_cmpR ho ha hb hm) (tOp_of hs)
theorem x_ix {r : R2} {o : PV → PV → Sto → Option PV} (ho : IxR X r) (hs : OpS g r o) (hp : PlainIx b) (ha : PE X a (rE g W fa)) (hb : PE X b (rE g W fb)) : PE X (.Subscript a b pos) (rE g W (fOp o fa fb)) :=
  pe_of (pe_ix ho ha hb hp) (tOp_of hs)
theorem x_un {op : UnaryOp} {r : V → Hp → VK → Prop} {o : PV → Sto → Option PV} (ho : UnR X (unaryOp op) r) (hs : UnS g r o) (ha : PE X a (rE g W fa)) : PE X (.UnaryOp op a pos) (rE g W (fUn o fa)) := by
  refine pe_of (pe_un ho ha) ?_
  rintro σ H Q ⟨φ, ρ, s, S, E, h⟩
  refine seqEE S E h fun φ1 H1 s1 p v e1 S1 R1 h1 => ?_
  cases z : o p s1 with
  | none => rw [z] at h1; exact h1.elim
  | some w => rw [z] at h1; exact hs φ1 H1 s1 p w v Q S1 R1 z fun φ' H' x e' S' R' => h1 φ' H' x e' S' R'
theorem tCB_of {r : List V → Hp → VK → Prop} {o : List PV → Sto → Option PV} {fs : Sl → Sto → Res (List PV)} (hs : CallS g r o) : ∀ σ H Q, rE g W (fCallB o fs) σ H Q → tCB r (rA g W fs) σ H Q := by
  rintro σ H Q ⟨φ, ρ, s, S, E, h⟩
  refine seqAE S E h fun φ1 H1 s1 p v e1 S1 R1 h1 => ?_
  cases z : o p s1 with
  | none => rw [z] at h1; exact h1.elim
  | some w => rw [z] at h1; exact hs φ1 H1 s1 p w v Q S1 R1 z fun φ' H' x e' S' R' => h1 φ' H' x e' S' R'
end

/-! ### names, constants -/
def fVar (i : Nat) : EF := fun ρ s => match ρ[i]? with
  | some (some p) => .ok p s
  | _ => .stk
def fC (p : PV) : EF := fun _ s => .ok p s
section
variable {g : G} {W : WX} {X : Cx} {pos : Pos}
theorem rVar_of (i : Nat) : ∀ σ H Q, rE g W (fVar i) σ H Q → tVar i σ H Q := by
  rintro σ H Q ⟨φ, ρ, s, S, E, h⟩
  unfold fVar at h
  cases q : ρ[i]? with
  | none => rw [q] at h; exact h.elim
  | some o =>
    cases o with
    | none => rw [q] at h; exact h.elim
    | some p =>
      rw [q] at h
      obtain ⟨v, e, r⟩ := E.at_ i p q
      exact ⟨v, e, h φ H v (Le.refl φ H) S r⟩
theorem x_v (i : Nat) {x : Str} (hN : X.N[i]? = some x := by rfl) (hv : Vis X.env.scope x := by first | exact Or.inl rfl | exact Or.inr (Or.inl rfl) | exact Or.inr (Or.inr rfl)) (hd : (x == ("__debug__" : Str)) = false := by decide)
    (hcd : (x == ("__classdict__" : Str)) = false := by decide) : PE X (.Name x pos) (rE g W (fVar i)) := pe_of (pe_var hN hv hd hcd) (rVar_of i)
theorem rC_of {p : PV} {v : V} (r : ∀ φ H s, Sim g φ H s → Rep g φ H p v) : ∀ σ H Q, rE g W (fC p) σ H Q → tC v σ H Q := by
  rintro σ H Q ⟨φ, ρ, s, S, E, h⟩
  exact h φ H v (Le.refl φ H) S (r φ H s S)
theorem x_int {i j} : PE X (.Constant (.int i) j pos) (rE g W (fC (.int i))) := pe_of pe_int (rC_of fun _ _ _ _ => by simp only [Rep])
theorem x_bl {b j} : PE X (.Constant (.bool b) j pos) (rE g W (fC (.bl b))) := pe_of pe_bl (rC_of fun _ _ _ _ => by simp only [Rep])
theorem x_non {j} : PE X (.Constant .none j pos) (rE g W (fC .non)) := pe_of pe_non (rC_of fun _ _ _ _ => by simp only [Rep])
theorem x_str {x j} : PE X (.Constant (.str x) j pos) (rE g W (fC (.str x))) := pe_of pe_str (rC_of fun _ _ _ _ => by simp only [Rep])
/-- a module's constant -/
theorem x_glob {x : Str} {p : PV} {v : V} {u : Value} (hm : X.mg x = some u) (r : RelV v u) (hr : ∀ φ H s, Sim g φ H s → Rep g φ H p v) (hg : Gl X x := by rfl) (hd : (x == ("__debug__" : Str)) = false := by decide) : PE X (.Name x pos) (rE g W (fC p)) :=
  pe_of (pe_glob hg hm r hd) (rC_of hr)
theorem x_bty {x : Str} {n : String} (hm : X.mg x = none) (hv : bootBuiltins x = some (.type n)) (hg : Gl X x := by rfl) (hn : x ≠ "__name__" := by decide) (hd : (x == ("__debug__" : Str)) = false := by decide) : PE X (.Name x pos) (rE g W (fC (.ty n))) :=
  pe_of (pe_bltn (v := .ty n) hg hm hv rfl hn hd) (rC_of fun _ _ _ _ => by simp only [Rep])
end

/-! ### and, or, not, if -/
def asB (r : Res PV) : Res Bool := r.bind fun p s => match p with
  | .bl b => .ok b s
  | _ => .stk
/-- a value that is a bool, as a test -/
def fB (f : EF) : Sl → Sto → Res Bool := fun ρ s => asB (f ρ s)
/-- a test as a value -/
def fTB (f : Sl → Sto → Res Bool) : EF := fun ρ s => (f ρ s).bind fun b s => .ok (.bl b) s
def fAndV (fa fb : EF) : EF := fun ρ s => (fa ρ s).bind fun p s1 => match p with
  | .bl true => fb ρ s1
  | .bl false => .ok (.bl false) s1
  | _ => .stk
def fOrV (fa fb : EF) : EF := fun ρ s => (fa ρ s).bind fun p s1 => match p with
  | .bl true => .ok (.bl true) s1
  | .bl false => fb ρ s1
  | _ => .stk
def fNotV (fa : EF) : EF := fun ρ s => (fa ρ s).bind fun p s1 => match p with
  | .bl b => .ok (.bl !b) s1
  | _ => .stk
def fAnd (fa fb : Sl → Sto → Res Bool) : Sl → Sto → Res Bool := fun ρ s => (fa ρ s).bind fun b s1 => if b then fb ρ s1 else .ok false s1
def fOr (fa fb : Sl → Sto → Res Bool) : Sl → Sto → Res Bool := fun ρ s => (fa ρ s).bind fun b s1 => if b then .ok true s1 else fb ρ s1
def fNot (fa : Sl → Sto → Res Bool) : Sl → Sto → Res Bool := fun ρ s => (fa ρ s).bind fun b s1 => .ok (!b) s1
def fIf (fc : Sl → Sto → Res Bool) (fa fb : EF) : EF := fun ρ s => (fc ρ s).bind fun b s1 => if b then fa ρ s1 else fb ρ s1
section
variable {g : G} {W : WX} {X : Cx} {a b c : Expr} {rest : List Expr} {pos : Pos} {fa fb : EF} {ta tb : Sl → Sto → Res Bool}
theorem rep_bl {φ : Wm} {H : Hp} {c : Bool} {v : V} : Rep g φ H (.bl c) v ↔ v = .bl c := by simp only [Rep]
theorem x_and (ha : PE X a (rE g W fa)) (hb : PE X (.BoolOp .And (b :: rest) pos) (rE g W fb)) : PE X (.BoolOp .And (a :: b :: rest) pos) (rE g W (fAndV fa fb)) := by
  refine pe_of (pe_and ha hb) ?_
  rintro σ H Q ⟨φ, ρ, s, S, E, h⟩
  refine seqEE S E h fun φ1 H1 s1 p v e1 S1 R1 h1 => ?_
  cases p with
  | bl k =>
    obtain rfl := rep_bl.mp R1
    refine ⟨k, rfl, ?_⟩
    cases k with
    | true => rw [if_pos rfl]; exact ⟨φ1, ρ, s1, S1, E.mono e1, h1⟩
    | false => rw [if_neg Bool.false_ne_true]; exact h1 φ1 H1 _ (Le.refl _ _) S1 (rep_bl.mpr rfl)
  | _ => exact h1.elim
theorem x_or (ha : PE X a (rE g W fa)) (hb : PE X (.BoolOp .Or (b :: rest) pos) (rE g W fb)) : PE X (.BoolOp .Or (a :: b :: rest) pos) (rE g W (fOrV fa fb)) := by
  refine pe_of (pe_or ha hb) ?_
  rintro σ H Q ⟨φ, ρ, s, S, E, h⟩
  refine seqEE S E h fun φ1 H1 s1 p v e1 S1 R1 h1 => ?_
  cases p with
  | bl k =>
    obtain rfl := rep_bl.mp R1
    refine ⟨k, rfl, ?_⟩
    cases k with
    | true => rw [if_pos rfl]; exact h1 φ1 H1 _ (Le.refl _ _) S1 (rep_bl.mpr rfl)
    | false => rw [if_neg Bool.false_ne_true]; exact ⟨φ1, ρ, s1, S1, E.mono e1, h1⟩
  | _ => exact h1.elim
theorem x_one {op} (h : PE X a (rE g W fa)) : PE X (.BoolOp op [a] pos) (rE g W fa) := pe_one h
theorem x_not (ha : PE X a (rE g W fa)) : PE X (.UnaryOp .Not a pos) (rE g W (fNotV fa)) := by
  refine pe_of (pe_not ha) ?_
  rintro σ H Q ⟨φ, ρ, s, S, E, h⟩
  refine seqEE S E h fun φ1 H1 s1 p v e1 S1 R1 h1 => ?_
  cases p with
  | bl k =>
    obtain rfl := rep_bl.mp R1
    exact ⟨k, rfl, h1 φ1 H1 _ (Le.refl _ _) S1 (rep_bl.mpr rfl)⟩
  | _ => exact h1.elim
/-- an expression whose value is a bool, as a test -/
theorem y_val (h : PE X a (rE g W fa)) (he : ∀ whole, isTrue a X.env whole = (do let v ← whole; standAt a.pos; holding [v] (truthy v)) := by intro _; rfl) : PT X a (rT g W (fB fa)) := by
  refine pt_of (pt_val h he) ?_
  rintro σ H Q ⟨φ, ρ, s, S, E, h⟩
  refine seqET S E h fun φ1 H1 s1 p v e1 S1 R1 h1 => ?_
  cases p with
  | bl k =>
    obtain rfl := rep_bl.mp R1
    exact ⟨k, rfl, h1 φ1 H1 (Le.refl _ _) S1⟩
  | _ => exact h1.elim
theorem tTest_of {f : EF} : ∀ σ H Q, rT g W (fB f) σ H Q → tTest (rE g W f) σ H Q := by
  rintro σ H Q ⟨φ, ρ, s, S, E, h⟩
  refine seqET S E h fun φ1 H1 s1 p v e1 S1 R1 h1 => ?_
  cases p with
  | bl k =>
    obtain rfl := rep_bl.mp R1
    exact ⟨k, rfl, h1 φ1 H1 (Le.refl _ _) S1⟩
  | _ => exact h1.elim
theorem y_cmp {op : CmpOp} {r : R2} {o : PV → PV → Sto → Option PV} (ho : OpR X (compareOp op) r) (hs : OpS g r o) (hm : behindInMarks op b = false) (ha : PE X a (rE g W fa)) (hb : PE X b (rE g W fb)) : PT X (.Compare a [op] [b] pos) (rT g W (fB (fOp o fa fb))) := by
  refine pt_of (pt_cmpR ho ha hb hm) ?_
  rintro σ H Q ⟨φ, ρ, s, S, E, h⟩
  have q := tTest_of (g := g) (W := W) (f := fOp o fa fb) σ H Q ⟨φ, ρ, s, S, E, h⟩
  exact tOp_of hs σ H _ q
theorem w_and1 (ha : PT X a (rT g W ta)) : PW X (.BoolOp .And [a] pos) (rT g W ta) := pw_and1 ha
theorem w_or1 (ha : PT X a (rT g W ta)) : PW X (.BoolOp .Or [a] pos) (rT g W ta) := pw_or1 ha
theorem w_and (ha : PT X a (rT g W ta)) (hb : PW X (.BoolOp .And (b :: rest) pos) (rT g W tb)) : PW X (.BoolOp .And (a :: b :: rest) pos) (rT g W (fAnd ta tb)) := by
  refine pw_of (pw_and ha hb) ?_
  rintro σ H Q ⟨φ, ρ, s, S, E, h⟩
  refine seqTT S E h fun φ1 H1 s1 k e1 S1 h1 => ?_
  cases k with
  | true => rw [if_pos rfl]; exact ⟨φ1, ρ, s1, S1, E.mono e1, h1⟩
  | false => rw [if_neg Bool.false_ne_true]; exact h1 φ1 H1 (Le.refl _ _) S1
theorem w_or (ha : PT X a (rT g W ta)) (hb : PW X (.BoolOp .Or (b :: rest) pos) (rT g W tb)) : PW X (.BoolOp .Or (a :: b :: rest) pos) (rT g W (fOr ta tb)) := by
  refine pw_of (pw_or ha hb) ?_
  rintro σ H Q ⟨φ, ρ, s, S, E, h⟩
  refine seqTT S E h fun φ1 H1 s1 k e1 S1 h1 => ?_
  cases k with
  | true => rw [if_pos rfl]; exact h1 φ1 H1 (Le.refl _ _) S1
  | false => rw [if_neg Bool.false_ne_true]; exact ⟨φ1, ρ, s1, S1, E.mono e1, h1⟩
theorem y_w (h : PW X a (rT g W ta)) : PT X a (rT g W ta) := h.pt
theorem y_not (ha : PT X a (rT g W ta)) : PT X (.UnaryOp .Not a pos) (rT g W (fNot ta)) := by
  refine pt_of (pt_not ha) ?_
  rintro σ H Q ⟨φ, ρ, s, S, E, h⟩
  exact seqTT S E h fun φ1 H1 s1 k e1 S1 h1 => h1 φ1 H1 (Le.refl _ _) S1
theorem x_ifExp {tc : Sl → Sto → Res Bool} (hc : PT X c (rT g W tc)) (ha : PE X a (rE g W fa)) (hb : PE X b (rE g W fb)) : PE X (.IfExp c a b pos) (rE g W (fIf tc fa fb)) := by
  refine pe_of (pe_ifExp hc ha hb) ?_
  rintro σ H Q ⟨φ, ρ, s, S, E, h⟩
  refine seqTE S E h fun φ1 H1 s1 k e1 S1 h1 => ?_
  cases k with
  | true => rw [if_pos rfl]; exact ⟨φ1, ρ, s1, S1, E.mono e1, h1⟩
  | false => rw [if_neg Bool.false_ne_true]; exact ⟨φ1, ρ, s1, S1, E.mono e1, h1⟩
end

/-! ### arguments, displays -/
def fNil : Sl → Sto → Res (List PV) := fun _ s => .ok [] s
def fCons (fa : EF) (fr : Sl → Sto → Res (List PV)) : Sl → Sto → Res (List PV) := fun ρ s => (fa ρ s).bind fun p s1 => (fr ρ s1).bind fun ps s2 => .ok (p :: ps) s2
def fTup (fs : Sl → Sto → Res (List PV)) : EF := fun ρ s => (fs ρ s).bind fun ps s1 => if ps.length ≤ 10000000 then .ok (.tup ps) s1 else .stk
def fLstT (fs : Sl → Sto → Res (List PV)) : EF := fun ρ s => (fs ρ s).bind fun ps s1 => if ps.length ≤ 10000000 then .ok (.tmp ps) s1 else .stk
def fLst (fs : Sl → Sto → Res (List PV)) : EF := fun ρ s => (fs ρ s).bind fun ps s1 => if ps.length ≤ 10000000 then .ok (.loc s1.objs.length) (s1.alloc (.lst ps)) else .stk
theorem line7 {n : Nat} (h : n ≤ 10000000) : n ≤ sizeLine := Nat.le_trans h (by decide)
section
variable {g : G} {W : WX} {X : Cx} {e : Expr} {es : List Expr} {pos : Pos} {fa : EF} {fs : Sl → Sto → Res (List PV)}
theorem a_nil : PA X [] (rA g W fNil) := pa_of pa_nil fun σ H Q ⟨φ, ρ, s, S, E, h⟩ => h φ H [] (Le.refl _ _) S Reps.nil
theorem a_cons (ha : PE X e (rE g W fa)) (hr : PA X es (rA g W fs)) (hs : starEach (e :: es) X.env = (false, eval e X.env) :: starEach es X.env := by rfl) : PA X (e :: es) (rA g W (fCons fa fs)) := by
  refine pa_of (pa_cons ha hr hs) ?_
  rintro σ H Q ⟨φ, ρ, s, S, E, h⟩
  refine seqEA S E h fun φ1 H1 s1 p v e1 S1 R1 h1 => ?_
  refine seqAA S1 (E.mono e1) h1 fun φ2 H2 s2 q u e2 S2 R2 h2 => ?_
  exact h2 φ2 H2 _ (Le.refl _ _) S2 (Reps.cons (R1.mono e2) R2)
theorem x_tup {x1} (h : PA X es (rA g W fs)) : PE X (.Tuple es x1 pos) (rE g W (fTup fs)) := by
  refine pe_of (pe_tup h) ?_
  rintro σ H Q ⟨φ, ρ, s, S, E, h⟩
  refine seqAE S E h fun φ1 H1 s1 ps vs e1 S1 R1 h1 => ?_
  by_cases hl : ps.length ≤ 10000000
  · rw [if_pos hl] at h1
    refine ⟨line7 (by rw [← R1.length]; exact hl), fun p hp => ?_⟩
    have e2 : Le φ1 H1 φ1 (upd H1 p (.tup vs)) := Le.new hp (S1.fresh hp)
    refine h1 φ1 _ _ e2 (S1.new hp) ?_
    simp only [Rep]
    exact ⟨p, vs, rfl, .inl ⟨.inl upd_same, S1.fresh hp⟩, R1.mono e2⟩
  · rw [if_neg hl] at h1; exact h1.elim
theorem x_lstT (h : PA X es (rA g W fs)) : PE X (.List es pos) (rE g W (fLstT fs)) := by
  refine pe_of (pe_lst h) ?_
  rintro σ H Q ⟨φ, ρ, s, S, E, h⟩
  refine seqAE S E h fun φ1 H1 s1 ps vs e1 S1 R1 h1 => ?_
  by_cases hl : ps.length ≤ 10000000
  · rw [if_pos hl] at h1
    refine ⟨line7 (by rw [← R1.length]; exact hl), fun p hp => ?_⟩
    have e2 : Le φ1 H1 φ1 (upd H1 p (.lst vs)) := Le.new hp (S1.fresh hp)
    refine h1 φ1 _ _ e2 (S1.new hp) ?_
    simp only [Rep]
    exact ⟨p, vs, rfl, upd_same, S1.fresh hp, fun z => S1.prvN p z hp, R1.mono e2⟩
  · rw [if_neg hl] at h1; exact h1.elim
theorem x_lst (h : PA X es (rA g W fs)) : PE X (.List es pos) (rE g W (fLst fs)) := by
  refine pe_of (pe_lst h) ?_
  rintro σ H Q ⟨φ, ρ, s, S, E, h⟩
  refine seqAE S E h fun φ1 H1 s1 ps vs e1 S1 R1 h1 => ?_
  by_cases hl : ps.length ≤ 10000000
  · rw [if_pos hl] at h1
    refine ⟨line7 (by rw [← R1.length]; exact hl), fun p hp => ?_⟩
    refine h1 (φ1.add p) _ _ (Le.alloc hp) (S1.alloc hp R1) ?_
    simp only [Rep]
    refine ⟨p, rfl, ?_⟩
    show (φ1.locs ++ [p])[s1.objs.length]? = some p
    rw [← S1.len, List.getElem?_concat_length]
  · rw [if_neg hl] at h1; exact h1.elim
end
end Pv

/-! Pv3: calls, statements, loops, comprehensions. -/
namespace Pv
open PySem PySem.Spec PyProof.Rows L2

/-! ### calls -/
def OutF (g : G) (φ : Wm) (H : Hp) (r : Res PV) (Q : VK) (E : XK) : Prop := match r with
  | .ok p s' => ∀ φ' H' v, Le φ H φ' H' → Sim g φ' H' s' → Rep g φ' H' p v → Q v H'
  | .exc c x s' => ∀ φ' H' d u, Le φ H φ' H' → Sim g φ' H' s' → H' d = some (.xd [(("value" : Str), u)]) → d ∉ φ'.locs → Rep g φ' H' x u → E (.ref (g.cls c)) (some d) H'
  | .stk => False
def spOf (g : G) (F : List PV → Sto → Res PV) : Sp := fun vs H Q E => ∃ φ s xs, Sim g φ H s ∧ Reps g φ H xs vs ∧ OutF g φ H (F xs s) Q E
/-- the def at f (level k) does what F says -/
structure FnGb (g : G) (k : Nat) (f : Addr) (fd : FuncData) (ps : List Str) (F : List PV → Sto → Res PV) : Prop where
  run : ∀ (A : Around) (outer : List Env) (s : Shared) (H : Hp) (args : Args) (us : List Value) (vs : List V) (Q : VK) (E : XK), Room k A → A.guards = some [] → Env0 g.P g.w g.K g.mg g.base A outer s H → BindsTo s fd args (ps.zip us) → Vals vs us →
    vs.length = ps.length → spOf g F vs H Q E → codeAny (model g.P g.w) A (.call (.ref f) args) (CR (L2.CX g.P g.w) outer g.P g.w H s Q E) s
abbrev FnG (g : G) := FnGb g.b
theorem FnGb.mono {g : G} {j k : Nat} {f : Addr} {fd : FuncData} {ps : List Str} {F : List PV → Sto → Res PV} (h : FnGb g j f fd ps F) (hk : j ≤ k) : FnGb g k f fd ps F :=
  ⟨fun A outer s H args us vs Q E hr => h.run A outer s H args us vs Q E (hr.mono hk)⟩
/-- X runs in the program that g tells -/
structure InG (g : G) (X : Cx) : Prop where
  prog : X.prog = g.P
  w : X.w = g.w
  K : X.K = g.K
  mg : X.mg = g.mg
  base : X.base = g.base
  gu : X.A.guards = some []

theorem run_g {g : G} {W : WX} {X : Cx} {j k : Nat} {f : Addr} {fd : FuncData} {ps : List Str} {F : List PV → Sto → Res PV} {args : Args} {us : List Value} {pins : List (Addr × Obj)} {σ : L2.St} {H : Hp} {s : Shared} {Q : VK} {vs : List V}
    (hX : InG g X) (Fn : FnG g k f fd ps F) (hr : Room j X.A) (hk : k ≤ j) (tk : Takes X W) (I : Inv X pins σ H s) (hb : BindsTo s fd args (ps.zip us)) (r : Vals vs us) (hl : vs.length = ps.length)
    (h : spOf g.b F vs H Q (fun cls d H' => W cls d σ H')) : wpAny (model X.prog X.w) X.A (call (.ref f) args.pos args.kw) (EP X pins σ Q) X.xe s := by
  obtain ⟨e1, e2, e3, e4, e5, e6⟩ := hX
  have E0 : Env0 g.P g.w g.K g.mg g.base X.A X.stack s H := by rw [← e1, ← e2, ← e3, ← e4, ← e5]; exact I.env0
  have q : codeAny (model g.P g.w) X.A (.call (.ref f) args) (CR (L2.CX g.P g.w) X.stack g.P g.w H s Q (fun cls d H' => W cls d σ H')) s := Fn.run X.A X.stack s H args us vs Q _ (hr.mono hk) e6 E0 hb r hl h
  rw [← e1, ← e2] at q
  refine wpAny_call (codeAny_mono q fun r s' hq => ?_)
  cases r with
  | error e => exact (passAt tk σ) pins H s e s' I hq
  | ok fl =>
    cases fl with
    | ret u => exact I.after hq
    | next => exact False.elim hq
    | brk => exact False.elim hq
    | cont => exact False.elim hq

def fCall (n : Nat) (F : List PV → Sto → Res PV) (fs : Sl → Sto → Res (List PV)) : EF := fun ρ s => (fs ρ s).bind fun xs s1 => if xs.length = n then F xs s1 else .stk
/-- another frame's reading of what comes out -/
theorem OutF.conv {g : G} {o : Option (Nat × List (Str × Addr))} {φ : Wm} {H : Hp} {r : Res PV} {Q : VK} {E : XK} (h : OutF (g.at o) φ H r Q E) (o' : Option (Nat × List (Str × Addr))) : OutF (g.at o') φ H r Q E := by
  cases r with
  | ok p s' => exact fun φ' H' v e S R => h φ' H' v e S.conv R.conv
  | exc c x s' => exact fun φ' H' d u e S a b R => h φ' H' d u e S.conv a b R.conv
  | stk => exact h
theorem G.at_own (g : G) : g.at g.own = g := rfl
/-- from the arguments' values to the def's promise -/
theorem call_sp {g : G} {W : WX} {n : Nat} {F : List PV → Sto → Res PV} {fs : Sl → Sto → Res (List PV)} : ∀ σ H Q, rE g W (fCall n F fs) σ H Q → rA g W fs σ H fun vs H1 => vs.length = n ∧ spOf g.b F vs H1 Q (fun cls d H' => W cls d σ H') := by
  rintro σ H Q ⟨φ, ρ, s, S, E, h⟩
  refine seqAE S E h fun φ1 H1 s1 xs vs e1 S1 R1 h1 => ?_
  by_cases hl : xs.length = n
  · rw [if_pos hl] at h1
    refine ⟨R1.length.symm.trans hl, φ1, s1, xs, Sim.conv (o := g.own) S1, Reps.conv (o := g.own) R1, ?_⟩
    have h2 : OutF (g.at g.own) φ1 H1 (F xs s1) Q (fun cls d H' => W cls d σ H') := by
      cases q : F xs s1 with
      | ok p s' => rw [q] at h1; exact h1
      | exc c x s' => rw [q] at h1; exact h1
      | stk => rw [q] at h1; exact h1
    exact h2.conv none
  · rw [if_neg hl] at h1; exact h1.elim
section
variable {g : G} {W : WX} {X : Cx} {j k : Nat} {f : Addr} {fd : FuncData} {ps : List Str} {F : List PV → Sto → Res PV} {x : Str} {p pos : Pos} {e : Expr} {es : List Expr} {fs : Sl → Sto → Res (List PV)}
theorem x_call (hX : InG g X) (Fn : FnG g k f fd ps F) (hr : Room j X.A) (hk : k ≤ j) (hm : g.mg x = some (.ref f)) (hkp : PySem.W.keepIn g.K (.ref f) = true) (hb : Binds g.K fd ps []) (tk : Takes X W) (ha : PA X (e :: es) (rA g W fs))
    (hg : Gl X x := by rfl) (hdb : (x == ("__debug__" : Str)) = false := by decide) (he : starEach (e :: es) X.env = (false, eval e X.env) :: starEach es X.env := by rfl) (hpl : (backTo pos (starEach es X.env)).any (·.1) = false := by rfl) :
    PE X (.Call (.Name x p) (e :: es) [] pos) (rE g W (fCall ps.length F fs)) := by
  refine ⟨fun pins s σ H Q I h => ?_⟩
  refine wpAny_Call_Name_kw (ld_glob I hg (by rw [hX.mg]; exact hm) ?_ hdb)
  refine PySem.W.callWith_K (h₀ := X.base) I.ok.mod.kin (by rw [hX.K]; exact hkp) (thn (ha.run pos pins s σ H _ I (call_sp σ H Q h)) fun us s1 ⟨vs, H1, I1, r, hl, q⟩ => ⟨I1.kIn, ?_⟩) he hpl
  have hlu : us.length = ps.length := by rw [← r.length]; exact hl
  have b := hb s1 us (by rw [← hX.K]; exact I1.kIn) (by rw [List.append_nil]; exact hlu)
  rw [List.append_nil] at b
  exact run_g (args := ⟨us, []⟩) hX Fn hr hk tk I1 b r hl q
end

/-! ### statements -/
inductive SRes where
  | nx (ρ : Sl) (s : Sto) | rt (p : PV) (s : Sto) | bk (ρ : Sl) (s : Sto) | ct (ρ : Sl) (s : Sto) | exc (c : Nat) (x : PV) (ρ : Sl) (s : Sto) | stk
abbrev SF := Sl → Sto → SRes
def OutS (g : G) (W : WX) (φ : Wm) (H : Hp) (r : SRes) (D : Ends) : Prop := match r with
  | .nx ρ s' => ∀ φ' H' σ', Le φ H φ' H' → Sim g φ' H' s' → EnvSim g φ' H' σ' ρ → D.nx σ' H'
  | .bk ρ s' => ∀ φ' H' σ', Le φ H φ' H' → Sim g φ' H' s' → EnvSim g φ' H' σ' ρ → D.bk σ' H'
  | .ct ρ s' => ∀ φ' H' σ', Le φ H φ' H' → Sim g φ' H' s' → EnvSim g φ' H' σ' ρ → D.ct σ' H'
  | .rt p s' => ∀ φ' H' v, Le φ H φ' H' → Sim g φ' H' s' → Rep g φ' H' p v → D.rt v H'
  | .exc c x ρ s' => ∀ φ' H' d u σ', Le φ H φ' H' → Sim g φ' H' s' → EnvSim g φ' H' σ' ρ → H' d = some (.xd [(("value" : Str), u)]) → d ∉ φ'.locs → Rep g φ' H' x u → W (.ref (g.cls c)) (some d) σ' H'
  | .stk => False
def rS (g : G) (W : WX) (f : SF) : TS := fun D σ H => ∃ φ ρ s, Sim g φ H s ∧ EnvSim g φ H σ ρ ∧ OutS g W φ H (f ρ s) D
def ofE (ρ : Sl) (r : Res PV) (k : PV → Sto → SRes) : SRes := match r with
  | .ok p s => k p s
  | .exc c x s => .exc c x ρ s
  | .stk => .stk
def ofT (ρ : Sl) (r : Res Bool) (k : Bool → Sto → SRes) : SRes := match r with
  | .ok p s => k p s
  | .exc c x s => .exc c x ρ s
  | .stk => .stk
@[simp] theorem ofE_ok (ρ : Sl) (p : PV) (s : Sto) (k : PV → Sto → SRes) : ofE ρ (.ok p s) k = k p s := rfl
@[simp] theorem ofE_exc (ρ : Sl) (c : Nat) (p : PV) (s : Sto) (k : PV → Sto → SRes) : ofE ρ (.exc c p s) k = .exc c p ρ s := rfl
@[simp] theorem ofT_ok (ρ : Sl) (p : Bool) (s : Sto) (k : Bool → Sto → SRes) : ofT ρ (.ok p s) k = k p s := rfl
section
variable {g : G} {W : WX} {φ φ1 : Wm} {H H1 : Hp} {σ : L2.St} {ρ : Sl} {s : Sto}
theorem OutS.le {r : SRes} {D : Ends} (e : Le φ H φ1 H1) (h : OutS g W φ H r D) : OutS g W φ1 H1 r D := by
  cases r with
  | nx ρ s' => exact fun φ' H' v e' S R => h φ' H' v (e.trans e') S R
  | bk ρ s' => exact fun φ' H' v e' S R => h φ' H' v (e.trans e') S R
  | ct ρ s' => exact fun φ' H' v e' S R => h φ' H' v (e.trans e') S R
  | rt p s' => exact fun φ' H' v e' S R => h φ' H' v (e.trans e') S R
  | exc c x ρ s' => exact fun φ' H' d u σ' e' S a b c d => h φ' H' _ u σ' (e.trans e') S a b c d
  | stk => exact h
theorem seqES {fa : EF} {k : PV → Sto → SRes} {D : Ends} {R : VK} (S : Sim g φ H s) (E : EnvSim g φ H σ ρ) (h : OutS g W φ H (ofE ρ (fa ρ s) k) D)
    (hk : ∀ φ1 H1 s1 p v, Le φ H φ1 H1 → Sim g φ1 H1 s1 → Rep g φ1 H1 p v → OutS g W φ1 H1 (k p s1) D → R v H1) : rE g W fa σ H R := by
  refine ⟨φ, ρ, s, S, E, ?_⟩
  cases q : fa ρ s with
  | ok p s1 =>
    rw [q] at h
    exact fun φ' H' v e' S' R' => hk φ' H' s1 p v e' S' R' (OutS.le e' h)
  | exc c x s1 => rw [q] at h; exact fun φ' H' d u e' S' a b r => h φ' H' d u σ e' S' (E.mono e') a b r
  | stk => rw [q] at h; exact h
theorem seqTS {fa : Sl → Sto → Res Bool} {k : Bool → Sto → SRes} {D : Ends} {R : Bool → Hp → Prop} (S : Sim g φ H s) (E : EnvSim g φ H σ ρ) (h : OutS g W φ H (ofT ρ (fa ρ s) k) D)
    (hk : ∀ φ1 H1 s1 p, Le φ H φ1 H1 → Sim g φ1 H1 s1 → OutS g W φ1 H1 (k p s1) D → R p H1) : rT g W fa σ H R := by
  refine ⟨φ, ρ, s, S, E, ?_⟩
  cases q : fa ρ s with
  | ok p s1 =>
    rw [q] at h
    exact fun φ' H' e' S' => hk φ' H' s1 p e' S' (OutS.le e' h)
  | exc c x s1 => rw [q] at h; exact fun φ' H' d u e' S' a b r => h φ' H' d u σ e' S' (E.mono e') a b r
  | stk => rw [q] at h; exact h
end
section
variable {X : Cx} {st : Stmt} {sts : List Stmt}
theorem ps_of {t t' : TS} (h : PS X st t) (k : ∀ D σ H, t' D σ H → t D σ H) : PS X st t' := ⟨fun pins s σ H D I q => h.run pins s σ H D I (k D σ H q)⟩
theorem pss_of {t t' : TS} (h : PSs X sts t) (k : ∀ D σ H, t' D σ H → t D σ H) : PSs X sts t' := ⟨fun pins s σ H D I q => h.run pins s σ H D I (k D σ H q)⟩
end
def fNext : SF := fun ρ s => .nx ρ s
def fSeq (f h : SF) : SF := fun ρ s => match f ρ s with
  | .nx ρ' s' => h ρ' s'
  | .rt p s' => .rt p s'
  | .bk ρ' s' => .bk ρ' s'
  | .ct ρ' s' => .ct ρ' s'
  | .exc c x ρ' s' => .exc c x ρ' s'
  | .stk => .stk
def fRet (fe : EF) : SF := fun ρ s => ofE ρ (fe ρ s) .rt
def fRetN : SF := fun _ s => .rt .non s
def fDrop (fe : EF) : SF := fun ρ s => ofE ρ (fe ρ s) fun _ s1 => .nx ρ s1
def fIfS (ft : Sl → Sto → Res Bool) (f h : SF) : SF := fun ρ s => ofT ρ (ft ρ s) fun b s1 => if b then f ρ s1 else h ρ s1
def fBk : SF := fun ρ s => .bk ρ s
def fCt : SF := fun ρ s => .ct ρ s
section
variable {g : G} {W : WX} {X : Cx} {st : Stmt} {rest : List Stmt} {f h : SF} {e c : Expr} {fe : EF} {pos : Pos} {a b : List Stmt} {ft : Sl → Sto → Res Bool}
theorem ss_nil : PSs X [] (rS g W fNext) := pss_of pss_nil fun D σ H ⟨φ, ρ, s, S, E, q⟩ => q φ H σ (Le.refl _ _) S E
theorem ss_one (h1 : PS X st (rS g W f)) : PSs X [st] (rS g W f) := pss_one h1
theorem rSeq_of : ∀ D σ H, rS g W (fSeq f h) D σ H → tSeq (rS g W f) (rS g W h) D σ H := by
  rintro D σ H ⟨φ, ρ, s, S, E, q⟩
  refine ⟨φ, ρ, s, S, E, ?_⟩
  unfold fSeq at q
  cases z : f ρ s with
  | nx ρ' s' => rw [z] at q; exact fun φ' H' σ' e' S' E' => ⟨φ', ρ', s', S', E', OutS.le e' q⟩
  | rt p s' => rw [z] at q; exact q
  | bk ρ' s' => rw [z] at q; exact q
  | ct ρ' s' => rw [z] at q; exact q
  | exc c x ρ' s' => rw [z] at q; exact q
  | stk => rw [z] at q; exact q
theorem ss_cons (h1 : PS X st (rS g W f)) (h2 : PSs X rest (rS g W h)) : PSs X (st :: rest) (rS g W (fSeq f h)) := pss_of (pss_cons h1 h2) rSeq_of
theorem s_ret (he : PE X e (rE g W fe)) : PS X (.Return (some e) pos) (rS g W (fRet fe)) := ps_of (ps_ret he) fun D σ H ⟨φ, ρ, s, S, E, q⟩ =>
  seqES S E q fun φ1 H1 s1 p v e1 S1 R1 q1 => q1 φ1 H1 v (Le.refl _ _) S1 R1
theorem s_retN : PS X (.Return none pos) (rS g W fRetN) := ps_of ps_retN fun D σ H ⟨φ, ρ, s, S, E, q⟩ => q φ H .non (Le.refl _ _) S (by simp only [Rep])
theorem s_expr (he : PE X e (rE g W fe)) (hs : swapsWith e none pos.line X.env = pure false := by rfl) : PS X (.Expr e pos) (rS g W (fDrop fe)) := ps_of (ps_expr he hs) fun D σ H ⟨φ, ρ, s, S, E, q⟩ =>
  seqES S E q fun φ1 H1 s1 p v e1 S1 R1 q1 => q1 φ1 H1 σ (Le.refl _ _) S1 (E.mono e1)
theorem s_pass : PS X (.Pass pos) (rS g W fNext) := ps_of ps_pass fun D σ H ⟨φ, ρ, s, S, E, q⟩ => q φ H σ (Le.refl _ _) S E
theorem s_break : PS X (.Break pos) (rS g W fBk) := ps_of ps_break fun D σ H ⟨φ, ρ, s, S, E, q⟩ => q φ H σ (Le.refl _ _) S E
theorem s_continue : PS X (.Continue pos) (rS g W fCt) := ps_of ps_continue fun D σ H ⟨φ, ρ, s, S, E, q⟩ => q φ H σ (Le.refl _ _) S E
theorem s_if (hc : PT X c (rT g W ft)) (ha : PSs X a (rS g W f)) (hb : PSs X b (rS g W h)) : PS X (.If c a b pos) (rS g W (fIfS ft f h)) := ps_of (ps_if hc ha hb) fun D σ H ⟨φ, ρ, s, S, E, q⟩ =>
  seqTS S E q fun φ1 H1 s1 k e1 S1 q1 => by
    cases k with
    | true => rw [if_pos rfl]; exact ⟨φ1, ρ, s1, S1, E.mono e1, q1⟩
    | false => rw [if_neg Bool.false_ne_true]; exact ⟨φ1, ρ, s1, S1, E.mono e1, q1⟩
end

/-! ### targets -/
abbrev GF := PV → Sl → Sto → Option (Sl × Sto)
def OutG (g : G) (φ : Wm) (H : Hp) (r : Option (Sl × Sto)) (Q : L2.St → Hp → Prop) : Prop := match r with
  | some (ρ, s') => ∀ φ' H' σ', Le φ H φ' H' → Sim g φ' H' s' → EnvSim g φ' H' σ' ρ → Q σ' H'
  | none => False
def rG (g : G) (f : GF) : TG := fun v σ H Q => ∃ φ ρ s p, Sim g φ H s ∧ EnvSim g φ H σ ρ ∧ Rep g φ H p v ∧ OutG g φ H (f p ρ s) Q
def rGs (g : G) (f : List PV → Sl → Sto → Option (Sl × Sto)) : TGs := fun vs σ H Q => ∃ φ ρ s ps, Sim g φ H s ∧ EnvSim g φ H σ ρ ∧ Reps g φ H ps vs ∧ OutG g φ H (f ps ρ s) Q
theorem OutG.le {g : G} {φ φ1 : Wm} {H H1 : Hp} {r : Option (Sl × Sto)} {Q : L2.St → Hp → Prop} (e : Le φ H φ1 H1) (h : OutG g φ H r Q) : OutG g φ1 H1 r Q := by
  cases r with
  | none => exact h
  | some p => exact fun φ' H' σ' e' S E => h φ' H' σ' (e.trans e') S E
theorem EnvSim.set {g : G} {φ : Wm} {H : Hp} {σ : L2.St} {ρ : Sl} {p : PV} {v : V} (E : EnvSim g φ H σ ρ) (i : Nat) (R : Rep g φ H p v) : EnvSim g φ H (σ.set i (some v)) (ρ.set i (some p)) := by
  refine ⟨by simp [E.len], fun m q h => ?_, E.own⟩
  by_cases hm : m = i
  · subst hm
    have hlt : m < ρ.length := by
      have := (List.getElem?_eq_some_iff.mp h).1
      simpa using this
    rw [List.getElem?_set_self hlt] at h
    cases h
    exact ⟨v, by rw [List.getElem?_set_self (by rw [E.len]; exact hlt)], R⟩
  · rw [List.getElem?_set_ne (Ne.symm hm)] at h
    obtain ⟨u, a, b⟩ := E.at_ m q h
    exact ⟨u, by rw [List.getElem?_set_ne (Ne.symm hm)]; exact a, b⟩
def gfName (i : Nat) : GF := fun p ρ s => some (ρ.set i (some p), s)
def gfNil : List PV → Sl → Sto → Option (Sl × Sto) := fun ps ρ s => match ps with
  | [] => some (ρ, s)
  | _ => none
def gfCons (f : GF) (h : List PV → Sl → Sto → Option (Sl × Sto)) : List PV → Sl → Sto → Option (Sl × Sto) := fun ps ρ s => match ps with
  | [] => none
  | p :: r => match f p ρ s with
    | some (ρ1, s1) => h r ρ1 s1
    | none => none
def gfTup (n : Nat) (f : List PV → Sl → Sto → Option (Sl × Sto)) : GF := fun p ρ s => match p with
  | .tup xs => if xs.length = n then f xs ρ s else none
  | _ => none
section
variable {g : G} {X : Cx} {pos : Pos} {t : Expr} {ts : List Expr} {f : GF} {h : List PV → Sl → Sto → Option (Sl × Sto)}
theorem pg_of {t0 t' : TG} (h : PG X t t0) (k : ∀ v σ H Q, t' v σ H Q → t0 v σ H Q) : PG X t t' := ⟨fun pins s σ H v u Q I r q => h.run pins s σ H v u Q I r (k v σ H Q q)⟩
theorem pgs_of {t0 t' : TGs} (h : PGs X ts t0) (k : ∀ v σ H Q, t' v σ H Q → t0 v σ H Q) : PGs X ts t' := ⟨fun pins s σ H v u Q I r q => h.run pins s σ H v u Q I r (k v σ H Q q)⟩
theorem g_name {i : Nat} {x : Str} (hN : X.N.Nodup) (hi : X.N[i]? = some x := by rfl) (hx : Loc X.env.scope x := by first | exact Or.inl rfl | exact Or.inr rfl) (hf : X.fn x = true ∨ X.env.scope.names.lookup x = some .local := by first | exact .inl rfl | exact .inr rfl | assumption) : PG X (.Name x pos) (rG g (gfName i)) :=
  pg_of (pg_name hN hi hx hf) fun v σ H Q ⟨φ, ρ, s, p, S, E, R, q⟩ => q φ H _ (Le.refl _ _) S (E.set i R)
theorem gs_nil : PGs X [] (rGs g gfNil) := pgs_of pgs_nil fun vs σ H Q ⟨φ, ρ, s, ps, S, E, R, q⟩ => by
  cases ps with
  | nil => simp only [Reps] at R; exact ⟨R, q φ H σ (Le.refl _ _) S E⟩
  | cons p r => exact q.elim
theorem gs_cons (h1 : PG X t (rG g f)) (h2 : PGs X ts (rGs g h)) (hs : (assignEach (t :: ts) X.env).map (·.2) = assign t X.env :: (assignEach ts X.env).map (·.2) := by rfl) : PGs X (t :: ts) (rGs g (gfCons f h)) := pgs_of (pgs_cons h1 h2 hs) fun vs σ H Q ⟨φ, ρ, s, ps, S, E, R, q⟩ => by
  cases ps with
  | nil => exact q.elim
  | cons p r =>
    simp only [Reps] at R
    obtain ⟨v, vr, rfl, R1, R2⟩ := R
    refine ⟨v, vr, rfl, φ, ρ, s, p, S, E, R1, ?_⟩
    unfold gfCons at q
    cases z : f p ρ s with
    | none => simp only [z] at q; exact q.elim
    | some w =>
      obtain ⟨ρ1, s1⟩ := w
      simp only [z] at q
      exact fun φ' H' σ' e' S' E' => ⟨φ', ρ1, s1, r, S', E', R2.mono e', OutG.le e' q⟩
theorem g_tup {k : Nat} {n : Nat} (hc : X.calm = true) (hK : X.K = g.K) (h1 : PGs X ts (rGs g h)) (hn : (assignEach ts X.env).length = n := by rfl) (hst : (assignEach ts X.env).findIdx? (·.1) = none := by rfl) : PG X (.Tuple ts k pos) (rG g (gfTup n h)) := pg_of (pg_tup hc h1 hn hst) fun v σ H Q ⟨φ, ρ, s, p, S, E, R, q⟩ => by
  cases p with
  | tup xs =>
    by_cases hl : xs.length = n
    · simp only [gfTup, if_pos hl] at q
      simp only [Rep] at R
      obtain ⟨a, vs, rfl, R1, R2⟩ := R
      exact ⟨a, vs, rfl, by rw [hK]; exact R1.sq, R2.length.symm.trans hl, φ, ρ, s, xs, S, E, R2, q⟩
    · simp only [gfTup, if_neg hl] at q; exact q.elim
  | _ => exact q.elim
end
/-- target = value -/
def fAsg (fe : EF) (gf : GF) : SF := fun ρ s => ofE ρ (fe ρ s) fun p s1 => match gf p ρ s1 with
  | some (ρ1, s2) => .nx ρ1 s2
  | none => .stk
/-- x, y = a, b (plain local names) -/
def fPar (i j : Nat) (fs : Sl → Sto → Res (List PV)) : SF := fun ρ s => match fs ρ s with
  | .ok [p, q] s1 => .nx ((ρ.set i (some p)).set j (some q)) s1
  | .ok _ _ => .stk
  | .exc c x s1 => .exc c x ρ s1
  | .stk => .stk
def fPar3 (i j l : Nat) (fs : Sl → Sto → Res (List PV)) : SF := fun ρ s => match fs ρ s with
  | .ok [p, q, r] s1 => .nx (((ρ.set i (some p)).set j (some q)).set l (some r)) s1
  | .ok _ _ => .stk
  | .exc c x s1 => .exc c x ρ s1
  | .stk => .stk
section
variable {g : G} {W : WX} {X : Cx} {tg e : Expr} {fe : EF} {gf : GF} {pos : Pos} {fs : Sl → Sto → Res (List PV)}
theorem rAsg_of : ∀ D σ H, rS g W (fAsg fe gf) D σ H → tAsg (rE g W fe) (rG g gf) D σ H := by
  rintro D σ H ⟨φ, ρ, s, S, E, q⟩
  refine seqES S E q fun φ1 H1 s1 p v e1 S1 R1 q1 => ?_
  refine ⟨φ1, ρ, s1, p, S1, E.mono e1, R1, ?_⟩
  cases z : gf p ρ s1 with
  | none => simp only [z] at q1; exact q1.elim
  | some w => obtain ⟨ρ1, s2⟩ := w; simp only [z] at q1; exact q1
theorem s_asg (he : PE X e (rE g W fe)) (hg : PG X tg (rG g gf)) (hs : swapsWithSole [tg] e pos.line X.env = pure false := by rfl) (hw : swappedStores [tg] e X.env = pure none := by rfl)
    (h1 : (assignEach [tg] X.env).map (·.2) = [assign tg X.env] := by rfl) : PS X (.Assign [tg] e pos) (rS g W (fAsg fe gf)) := ps_of (ps_asg he hg hs hw h1) rAsg_of
theorem rName_of {i : Nat} : ∀ D σ H, rS g W (fAsg fe (gfName i)) D σ H → tAsg (rE g W fe) (gName i) D σ H := by
  rintro D σ H ⟨φ, ρ, s, S, E, q⟩
  exact seqES S E q fun φ1 H1 s1 p v e1 S1 R1 q1 => q1 φ1 H1 _ (Le.refl _ _) S1 ((E.mono e1).set i R1)
theorem s_set {i : Nat} {x : Str} {pos' : Pos} (hN : X.N.Nodup) (he : PE X e (rE g W fe)) (hi : X.N[i]? = some x := by rfl) (hx : Loc X.env.scope x := by first | exact Or.inl rfl | exact Or.inr rfl) (hs : swapsWith e (some (.Name x pos')) pos.line X.env = pure false := by rfl) (hf : X.fn x = true ∨ X.env.scope.names.lookup x = some .local := by first | exact .inl rfl | exact .inr rfl | assumption) :
    PS X (.Assign [.Name x pos'] e pos) (rS g W (fAsg fe (gfName i))) := ps_of (ps_set hN hi hx he hs hf) rName_of
theorem s_par {i j : Nat} {x y : Str} {a b : Expr} {px py pt : Pos} {kt k2 pt2} (hc : X.calm = true) (hN : X.N.Nodup) (ha : PA X [a, b] (rA g W fs)) (hi : X.N[i]? = some x := by rfl) (hj : X.N[j]? = some y := by rfl) (hij : i ≠ j := by decide)
    (hx : X.env.scope.names.lookup x = some .local := by rfl) (hy : X.env.scope.names.lookup y = some .local := by rfl)
    (hw : swappedStores [.Tuple [.Name x px, .Name y py] kt pt] (.Tuple [a, b] k2 pt2) X.env = pure (some [x, y]) := by rfl)
    (hs : swapsWithSole [.Tuple [.Name x px, .Name y py] kt pt] (.Tuple [a, b] k2 pt2) pos.line X.env = pure false := by rfl) :
    PS X (.Assign [.Tuple [.Name x px, .Name y py] kt pt] (.Tuple [a, b] k2 pt2) pos) (rS g W (fPar i j fs)) := ps_of (ps_par hc hN hi hj hij hx hy ha hw hs) fun D σ H ⟨φ, ρ, s, S, E, q⟩ => by
  refine ⟨φ, ρ, s, S, E, ?_⟩
  unfold fPar at q
  cases z : fs ρ s with
  | ok ps s1 =>
    rw [z] at q
    match ps, q with
    | [p, r], q =>
      refine fun φ' H' vs e' S' R' => ?_
      simp only [Reps] at R'
      obtain ⟨v, _, rfl, R1, u, _, rfl, R2, rfl⟩ := R'
      exact ⟨v, u, rfl, q φ' H' _ e' S' (((E.mono e').set i R1).set j R2)⟩
    | [], q => exact q.elim
    | [_], q => exact q.elim
    | _ :: _ :: _ :: _, q => exact q.elim
  | exc c x s1 => rw [z] at q; exact fun φ' H' d u e' S' a b r => q φ' H' d u σ e' S' (E.mono e') a b r
  | stk => rw [z] at q; exact q
theorem s_par3 {i j l : Nat} {x y z : Str} {a b c : Expr} {px py pz pt : Pos} {kt k2 pt2} (hc : X.calm = true) (hN : X.N.Nodup) (ha : PA X [a, b, c] (rA g W fs)) (hi : X.N[i]? = some x := by rfl) (hj : X.N[j]? = some y := by rfl) (hl : X.N[l]? = some z := by rfl) (hij : i ≠ j := by decide) (hil : i ≠ l := by decide) (hjl : j ≠ l := by decide)
    (hx : X.env.scope.names.lookup x = some .local := by rfl) (hy : X.env.scope.names.lookup y = some .local := by rfl) (hz : X.env.scope.names.lookup z = some .local := by rfl)
    (hw : swappedStores [.Tuple [.Name x px, .Name y py, .Name z pz] kt pt] (.Tuple [a, b, c] k2 pt2) X.env = pure (some [x, y, z]) := by rfl)
    (hs : swapsWithSole [.Tuple [.Name x px, .Name y py, .Name z pz] kt pt] (.Tuple [a, b, c] k2 pt2) pos.line X.env = pure false := by rfl) :
    PS X (.Assign [.Tuple [.Name x px, .Name y py, .Name z pz] kt pt] (.Tuple [a, b, c] k2 pt2) pos) (rS g W (fPar3 i j l fs)) := by
  refine ps_of (ps_par3 (i := i) (j := j) (l := l) hc hN hi hj hl hij hil hjl hx hy hz ha hw hs) fun D σ H ⟨φ, ρ, s, S, E, q⟩ => ?_
  refine ⟨φ, ρ, s, S, E, ?_⟩
  unfold fPar3 at q
  cases z : fs ρ s with
  | ok ps s1 =>
    rw [z] at q
    match ps, q with
    | [p, r, t], q =>
      refine fun φ' H' vs e' S' R' => ?_
      simp only [Reps] at R'
      obtain ⟨v, _, rfl, R1, u, _, rfl, R2, w, _, rfl, R3, rfl⟩ := R'
      exact ⟨v, u, w, rfl, q φ' H' _ e' S' ((((E.mono e').set i R1).set j R2).set l R3)⟩
    | [], q => exact q.elim
    | [_], q => exact q.elim
    | [_, _], q => exact q.elim
    | _ :: _ :: _ :: _ :: _, q => exact q.elim
  | exc c x s1 => rw [z] at q; exact fun φ' H' d u e' S' a b r => q φ' H' d u σ e' S' (E.mono e') a b r
  | stk => rw [z] at q; exact q
end
end Pv

/-! Pv4: while, for, comprehensions, a def by its body. -/
namespace Pv
open PySem PySem.Spec PyProof.Rows L2

/-! ### while -/
def whileN (ft : Sl → Sto → Res Bool) (fb : SF) : Nat → Sl → Sto → SRes
  | 0, _, _ => .stk
  | n + 1, ρ, s => ofT ρ (ft ρ s) fun b s1 => if b then (match fb ρ s1 with
      | .nx ρ' s' => whileN ft fb n ρ' s'
      | .ct ρ' s' => whileN ft fb n ρ' s'
      | .bk ρ' s' => .nx ρ' s'
      | .rt p s' => .rt p s'
      | .exc c x ρ' s' => .exc c x ρ' s'
      | .stk => .stk) else .nx ρ s1
def fWhile (m : Sl → Sto → Nat) (ft : Sl → Sto → Res Bool) (fb : SF) : SF := fun ρ s => whileN ft fb (m ρ s) ρ s
section
variable {g : G} {W : WX} {X : Cx} {c : Expr} {body : List Stmt} {ft : Sl → Sto → Res Bool} {fb : SF} {pos : Pos} {m : Sl → Sto → Nat}
theorem rWhile_of : ∀ D σ H, rS g W (fWhile m ft fb) D σ H → tWhile (rT g W ft) (rS g W fb) D σ H := by
  rintro D σ H ⟨φ, ρ, s, S, E, q⟩
  refine ⟨fun m σ1 H1 => ∃ φ1 ρ1 s1, Sim g φ1 H1 s1 ∧ EnvSim g φ1 H1 σ1 ρ1 ∧ OutS g W φ1 H1 (whileN ft fb m ρ1 s1) D, ⟨m ρ s, φ, ρ, s, S, E, q⟩, ?_⟩
  rintro m σ1 H1 ⟨φ1, ρ1, s1, S1, E1, q1⟩
  cases m with
  | zero => exact q1.elim
  | succ m =>
    refine seqTS S1 E1 q1 fun φ2 H2 s2 b e2 S2 q2 => ?_
    cases b with
    | false => rw [if_neg Bool.false_ne_true]; exact q2 φ2 H2 σ1 (Le.refl _ _) S2 (E1.mono e2)
    | true =>
      rw [if_pos rfl]
      refine ⟨fun σ' H' => ∃ φ' ρ' s', Sim g φ' H' s' ∧ EnvSim g φ' H' σ' ρ' ∧ OutS g W φ' H' (whileN ft fb m ρ' s') D, fun σ' H' w => ⟨m, Nat.lt_succ_self _, w⟩, φ2, ρ1, s2, S2, E1.mono e2, ?_⟩
      simp only [if_true] at q2
      cases z : fb ρ1 s2 with
      | nx ρ' s' => rw [z] at q2; exact fun φ' H' σ' e' S' E' => ⟨φ', ρ', s', S', E', OutS.le e' q2⟩
      | ct ρ' s' => rw [z] at q2; exact fun φ' H' σ' e' S' E' => ⟨φ', ρ', s', S', E', OutS.le e' q2⟩
      | bk ρ' s' => rw [z] at q2; exact q2
      | rt p s' => rw [z] at q2; exact q2
      | exc c x ρ' s' => rw [z] at q2; exact q2
      | stk => rw [z] at q2; exact q2
theorem s_while (m : Sl → Sto → Nat) (hp : PassesOwn (model X.prog X.w) X.A X.env X.xe) (hc : PT X c (rT g W ft)) (hb : PSs X body (rS g W fb)) : PS X (.While c body [] pos) (rS g W (fWhile m ft fb)) := ps_of (ps_while hp hc hb) rWhile_of
end

/-! ### what is walked -/
/-- so many turns at most; the item at a turn (none: it stops; nothing said: none) -/
structure Src where
  n : Nat
  it : Nat → Sto → Option (Option PV)
def WalkS (g : G) (φ : Wm) (H : Hp) (it : Nat → Sto → Option (Option PV)) (J : It) : Prop := ∀ (i : Nat) (φ1 : Wm) (H1 : Hp) (s1 : Sto), (∀ a o, H a = some o → (∀ ps, o ≠ .tbl ps) → a ∉ φ.locs → a ∉ φ.priv → H1 a = some o) → φ.locs <+: φ1.locs → Sim g φ1 H1 s1 →
  (∀ p v, Rep g φ H p v → Rep g φ1 H1 p v) →
  (it i s1 = some none → J.stop i H1) ∧ ∀ p, it i s1 = some (some p) → J.go i H1 ∧ ∀ v H2, J.yld i H1 v H2 → ∃ φ2, Le φ1 H1 φ2 H2 ∧ Sim g φ2 H2 s1 ∧ Rep g φ2 H2 p v
def OutI (g : G) (W : WX) (φ : Wm) (H : Hp) (σ : L2.St) (r : Res Src) (R : It → Hp → Prop) : Prop := match r with
  | .ok J s' => ∀ φ' H' J', Le φ H φ' H' → Sim g φ' H' s' → WalkS g φ' H' J.it J' → R J' H'
  | .exc c x s' => ∀ φ' H' d u, Le φ H φ' H' → Sim g φ' H' s' → H' d = some (.xd [(("value" : Str), u)]) → d ∉ φ'.locs → Rep g φ' H' x u → W (.ref (g.cls c)) (some d) σ H'
  | .stk => False
def rIt (g : G) (W : WX) (f : Sl → Sto → Res Src) : TI := fun σ H R => ∃ φ ρ s, Sim g φ H s ∧ EnvSim g φ H σ ρ ∧ OutI g W φ H σ (f ρ s) R
section
variable {X : Cx} {tg iter : Expr}
theorem pi_of {w w' : TI} (h : PI X tg iter w) (k : ∀ σ H R, w' σ H R → w σ H R) : PI X tg iter w' := ⟨fun pins s σ H R I q => h.run pins s σ H R I (k σ H R q)⟩
theorem pi_or {w w' : TI} (h : PI X tg iter w) (h' : PI X tg iter w') : PI X tg iter (fun σ H R => w σ H R ∨ w' σ H R) := ⟨fun pins s σ H R I q => q.elim (h.run pins s σ H R I) (h'.run pins s σ H R I)⟩
end
section
variable {g : G} {W : WX} {φ φ1 : Wm} {H H1 : Hp} {σ : L2.St} {ρ : Sl} {s : Sto}
theorem OutI.le {r : Res Src} {R : It → Hp → Prop} (e : Le φ H φ1 H1) (h : OutI g W φ H σ r R) : OutI g W φ1 H1 σ r R := by
  cases r with
  | ok p s' => exact fun φ' H' v e' S Q => h φ' H' v (e.trans e') S Q
  | exc c x s' => exact fun φ' H' d u e' S a b c => h φ' H' d u (e.trans e') S a b c
  | stk => exact h
theorem seqEI {fa : EF} {k : PV → Sto → Res Src} {R : It → Hp → Prop} {Q : VK} (S : Sim g φ H s) (E : EnvSim g φ H σ ρ) (h : OutI g W φ H σ ((fa ρ s).bind k) R)
    (hk : ∀ φ1 H1 s1 p v, Le φ H φ1 H1 → Sim g φ1 H1 s1 → Rep g φ1 H1 p v → OutI g W φ1 H1 σ (k p s1) R → Q v H1) : rE g W fa σ H Q := by
  refine ⟨φ, ρ, s, S, E, ?_⟩
  cases q : fa ρ s with
  | ok p s1 =>
    rw [q] at h
    exact fun φ' H' v e' S' R' => hk φ' H' s1 p v e' S' R' (OutI.le e' h)
  | exc c x s1 => rw [q] at h; exact h
  | stk => rw [q] at h; exact h
theorem seqAI {fa : Sl → Sto → Res (List PV)} {k : List PV → Sto → Res Src} {R : It → Hp → Prop} {Q : List V → Hp → Prop} (S : Sim g φ H s) (E : EnvSim g φ H σ ρ) (h : OutI g W φ H σ ((fa ρ s).bind k) R)
    (hk : ∀ φ1 H1 s1 p v, Le φ H φ1 H1 → Sim g φ1 H1 s1 → Reps g φ1 H1 p v → OutI g W φ1 H1 σ (k p s1) R → Q v H1) : rA g W fa σ H Q := by
  refine ⟨φ, ρ, s, S, E, ?_⟩
  cases q : fa ρ s with
  | ok p s1 =>
    rw [q] at h
    exact fun φ' H' v e' S' R' => hk φ' H' s1 p v e' S' R' (OutI.le e' h)
  | exc c x s1 => rw [q] at h; exact h
  | stk => rw [q] at h; exact h
end
/-- the items of a list value, as it stands -/
def liveL (p : PV) (s : Sto) : Option (List PV) := match p with
  | .tmp xs => some xs
  | .kl xs => some xs
  | .loc l => match s.objs[l]? with
    | some (.lst xs) => some xs
    | some (.flst xs) => some xs
    | _ => none
  | _ => none
/-- its length at the start (for the number of turns) -/
def lenL (p : PV) (s : Sto) : Nat := match liveL p s with
  | some xs => xs.length
  | none => 0
theorem liveL_at {g : G} {φ : Wm} {H : Hp} {s : Sto} {p : PV} {v : V} {xs : List PV} (S : Sim g φ H s) (R : Rep g φ H p v) (h : liveL p s = some xs) : ∃ a vs, v = .ref a ∧ SqL g.K H a vs ∧ Reps g φ H xs vs := by
  cases p with
  | tmp ys =>
    simp only [liveL, Option.some.injEq] at h
    subst h
    simp only [Rep] at R
    obtain ⟨a, vs, rfl, h1, _, _, h2⟩ := R
    exact ⟨a, vs, rfl, .of h1, h2⟩
  | kl ys =>
    simp only [liveL, Option.some.injEq] at h
    subst h
    simp only [Rep] at R
    obtain ⟨a, vs, rfl, h1, h2⟩ := R
    exact ⟨a, vs, rfl, h1.sq, h2⟩
  | loc l =>
    simp only [Rep] at R
    obtain ⟨a, rfl, hl⟩ := R
    obtain ⟨o, ho, r⟩ := S.there hl
    simp only [liveL, ho] at h
    cases o with
    | lst ys =>
      simp only [Option.some.injEq] at h; subst h
      obtain ⟨vs, h1, h2⟩ := r
      exact ⟨a, vs, rfl, .of h1, h2⟩
    | flst ys =>
      simp only [Option.some.injEq] at h; subst h
      obtain ⟨o, vs, h1, h2⟩ := r
      exact ⟨a, vs, rfl, .inl (.inr ⟨o, h1⟩), h2⟩
  | _ => simp [liveL] at h
def srcOf (p : PV) (s : Sto) : Res Src := match p with
  | .tup xs => .ok ⟨xs.length, fun i _ => some xs[i]?⟩ s
  | .tmp xs => .ok ⟨xs.length, fun i _ => some xs[i]?⟩ s
  | .kl xs => .ok ⟨xs.length, fun i _ => some xs[i]?⟩ s
  | .loc l => .ok ⟨lenL (.loc l) s, fun i s1 => (liveL (.loc l) s1).map fun xs => xs[i]?⟩ s
  | _ => .stk
/-- for x in e: e a list or a tuple -/
def srcE (fe : EF) : Sl → Sto → Res Src := fun ρ s => (fe ρ s).bind srcOf
section
variable {g : G} {φ : Wm} {H : Hp} {s : Sto}
theorem walkL {p : PV} {a : Addr} (hp : Rep g φ H p (.ref a)) : WalkS g φ H (fun i s1 => (liveL p s1).map fun xs => xs[i]?) (Itl g.K a) := by
  intro i φ1 H1 s1 _ _ S1 rep
  cases q : liveL p s1 with
  | none => exact ⟨fun h => by simp [q] at h, fun p0 h => by simp [q] at h⟩
  | some xs =>
    obtain ⟨a', vs, e, sq, R⟩ := liveL_at S1 (rep _ _ hp) q
    cases e
    refine ⟨fun h => ?_, fun p0 h => ?_⟩
    · have z : xs[i]? = none := by simpa [q] using h
      exact ⟨vs, sq, by rw [← R.length]; exact List.getElem?_eq_none_iff.mp z⟩
    · have z : xs[i]? = some p0 := by simpa [q] using h
      obtain ⟨v, hv, rv⟩ := R.get z
      refine ⟨⟨vs, v, sq, hv⟩, fun v' H2 y => ?_⟩
      obtain ⟨rfl, y⟩ := y
      have := y vs sq
      rw [hv] at this; cases this
      exact ⟨φ1, Le.refl _ _, S1, rv⟩
theorem walkC {p : PV} {xs : List PV} {a : Addr} (hc : ∀ s, liveL p s = some xs) (hp : Rep g φ H p (.ref a)) : WalkS g φ H (fun i _ => some xs[i]?) (Itl g.K a) := by
  intro i φ1 H1 s1 x1 x2 S1 rep
  have h := walkL hp i φ1 H1 s1 x1 x2 S1 rep
  simpa only [hc, Option.map_some] using h
theorem walkT {xs : List PV} {a : Addr} (hp : Rep g φ H (.tup xs) (.ref a)) : WalkS g φ H (fun i _ => some xs[i]?) (Itt g.K a) := by
  intro i φ1 H1 s1 _ _ S1 rep
  have R0 := rep _ _ hp
  simp only [Rep] at R0
  obtain ⟨a', vs, e, sq, R⟩ := R0
  cases e
  have sq := sq.sq
  refine ⟨fun h => ?_, fun p0 h => ?_⟩
  · have z : xs[i]? = none := by simpa using h
    exact ⟨vs, sq, by rw [← R.length]; exact List.getElem?_eq_none_iff.mp z⟩
  · have z : xs[i]? = some p0 := by simpa using h
    obtain ⟨v, hv, rv⟩ := R.get z
    refine ⟨⟨vs, v, sq, hv⟩, fun v' H2 y => ?_⟩
    obtain ⟨rfl, y⟩ := y
    have := y vs sq
    rw [hv] at this; cases this
    exact ⟨φ1, Le.refl _ _, S1, rv⟩
end
section
variable {g : G} {W : WX} {X : Cx} {tg e e2 : Expr} {fe : EF} {pos p0 : Pos} {fs : Sl → Sto → Res (List PV)}
theorem i_seq (hK : X.K = g.K) (he : PE X e (rE g W fe)) : PI X tg e (rIt g W (srcE fe)) := by
  refine pi_of (pi_or (pi_list he) (pi_tup he)) ?_
  rintro σ H R ⟨φ, ρ, s, S, E, q⟩
  unfold srcE at q
  rw [hK]
  cases z : fe ρ s with
  | stk => rw [z] at q; exact q.elim
  | exc c x s1 => rw [z] at q; exact .inl ⟨φ, ρ, s, S, E, by rw [z]; exact q⟩
  | ok p s1 =>
    rw [z] at q
    simp only [Res.bind_ok] at q
    cases p with
    | tup xs =>
      refine .inr ⟨φ, ρ, s, S, E, ?_⟩
      rw [z]
      intro φ' H' v e' S' R'
      have R0 := R'
      simp only [Rep] at R0
      obtain ⟨a, vs, rfl, sq, _⟩ := R0
      exact ⟨a, rfl, ⟨vs, sq.sq⟩, q φ' H' _ e' S' (walkT R')⟩
    | tmp xs =>
      refine .inl ⟨φ, ρ, s, S, E, ?_⟩
      rw [z]
      intro φ' H' v e' S' R'
      have R0 := R'
      simp only [Rep] at R0
      obtain ⟨a, vs, rfl, sq, _⟩ := R0
      exact ⟨a, rfl, ⟨vs, .of sq⟩, q φ' H' _ e' S' (walkC (p := .tmp xs) (fun _ => rfl) R')⟩
    | kl xs =>
      refine .inl ⟨φ, ρ, s, S, E, ?_⟩
      rw [z]
      intro φ' H' v e' S' R'
      have R0 := R'
      simp only [Rep] at R0
      obtain ⟨a, vs, rfl, sq, _⟩ := R0
      exact ⟨a, rfl, ⟨vs, sq.sq⟩, q φ' H' _ e' S' (walkC (p := .kl xs) (fun _ => rfl) R')⟩
    | loc l =>
      refine .inl ⟨φ, ρ, s, S, E, ?_⟩
      rw [z]
      intro φ' H' v e' S' R'
      have R0 := R'
      simp only [Rep] at R0
      obtain ⟨a, rfl, hl⟩ := R0
      obtain ⟨o, ho, r⟩ := S'.there hl
      have hsq : ∃ vs, SqL g.K H' a vs := by
        cases o with
        | lst ys => obtain ⟨vs, h1, _⟩ := r; exact ⟨vs, .of h1⟩
        | flst ys => obtain ⟨o, vs, h1, _⟩ := r; exact ⟨vs, .inl (.inr ⟨o, h1⟩)⟩
      exact ⟨a, rfl, hsq, q φ' H' _ e' S' (walkL R')⟩
    | _ => exact q.elim
def srcR1 (fs : Sl → Sto → Res (List PV)) : Sl → Sto → Res Src := fun ρ s => (fs ρ s).bind fun ps s1 => match ps with
  | [.int j] => if -(2 ^ 62) ≤ j ∧ j < 2 ^ 62 then .ok ⟨j.toNat, fun i _ => some (if i < j.toNat then some (.int i) else none)⟩ s1 else .stk
  | _ => .stk
def srcR2 (fs : Sl → Sto → Res (List PV)) : Sl → Sto → Res Src := fun ρ s => (fs ρ s).bind fun ps s1 => match ps with
  | [.int i0, .int j] => if -(2 ^ 62) ≤ i0 ∧ i0 < 2 ^ 62 ∧ -(2 ^ 62) ≤ j ∧ j < 2 ^ 62 then .ok ⟨(j - i0).toNat, fun i _ => some (if i < (j - i0).toNat then some (.int (i0 + i)) else none)⟩ s1 else .stk
  | _ => .stk
theorem walkR {φ : Wm} {H : Hp} {lo : Int} {n : Nat} : WalkS g φ H (fun i _ => some (if i < n then some (.int (lo + i)) else none)) (Itr lo n) := by
  intro i φ1 H1 s1 _ _ S1 _
  by_cases hi : i < n
  · refine ⟨fun h => by simp [hi] at h, fun p0 h => ⟨hi, fun v H2 y => ?_⟩⟩
    obtain ⟨rfl, rfl⟩ := y
    simp only [if_pos hi, Option.some.injEq] at h
    subst h
    exact ⟨φ1, Le.refl _ _, S1, by simp only [Rep]⟩
  · exact ⟨fun _ => Nat.le_of_not_lt hi, fun p0 h => by simp [hi] at h⟩
theorem rep_int {φ : Wm} {H : Hp} {i : Int} {v : V} : Rep g φ H (.int i) v ↔ v = .int i := by simp only [Rep]
theorem i_range1 {a : Expr} (hm : X.mg "range" = none) (ha : PA X [a] (rA g W fs)) (hg : Gl X "range" := by rfl) (hs : starEach [a] X.env = [(false, eval a X.env)] := by rfl) : PI X tg (.Call (.Name "range" p0) [a] [] pos) (rIt g W (srcR1 fs)) := by
  refine pi_of (pi_range1 hg hm ha hs) ?_
  rintro σ H R ⟨φ, ρ, s, S, E, q⟩
  refine seqAI S E q fun φ1 H1 s1 ps vs e1 S1 R1 q1 => ?_
  match ps, q1 with
  | [.int j], q1 =>
    simp only [Reps] at R1
    obtain ⟨v, _, rfl, r1, rfl⟩ := R1
    obtain rfl := rep_int.mp r1
    by_cases hj : -(2 ^ 62) ≤ j ∧ j < 2 ^ 62
    · simp only [if_pos hj] at q1
      refine ⟨j, rfl, hj.1, hj.2, q1 φ1 H1 _ (Le.refl _ _) S1 ?_⟩
      have := walkR (g := g) (φ := φ1) (H := H1) (lo := 0) (n := j.toNat)
      simpa only [Int.zero_add] using this
    · simp only [if_neg hj] at q1; exact q1.elim
theorem i_range2 {a b : Expr} (hm : X.mg "range" = none) (ha : PA X [a, b] (rA g W fs)) (hg : Gl X "range" := by rfl) (hs : starEach [a, b] X.env = [(false, eval a X.env), (false, eval b X.env)] := by rfl) (hs2 : starEach [b] X.env = [(false, eval b X.env)] := by rfl) : PI X tg (.Call (.Name "range" p0) [a, b] [] pos) (rIt g W (srcR2 fs)) := by
  refine pi_of (pi_range2 hg hm ha hs hs2) ?_
  rintro σ H R ⟨φ, ρ, s, S, E, q⟩
  refine seqAI S E q fun φ1 H1 s1 ps vs e1 S1 R1 q1 => ?_
  match ps, q1 with
  | [.int i0, .int j], q1 =>
    simp only [Reps] at R1
    obtain ⟨v, _, rfl, r1, u, _, rfl, r2, rfl⟩ := R1
    obtain rfl := rep_int.mp r1
    obtain rfl := rep_int.mp r2
    by_cases hj : -(2 ^ 62) ≤ i0 ∧ i0 < 2 ^ 62 ∧ -(2 ^ 62) ≤ j ∧ j < 2 ^ 62
    · simp only [if_pos hj] at q1
      exact ⟨i0, j, rfl, hj, q1 φ1 H1 _ (Le.refl _ _) S1 walkR⟩
    · simp only [if_neg hj] at q1; exact q1.elim
/-- enumerate(a list) -/
def srcEn (fs : Sl → Sto → Res (List PV)) : Sl → Sto → Res Src := fun ρ s => (fs ρ s).bind fun ps s1 => match ps with
  | [p] => match liveL p s1 with
    | some xs => .ok ⟨xs.length, fun i s2 => (liveL p s2).map fun xs => xs[i]?.map fun x => .tup [.int i, x]⟩ s1
    | none => .stk
  | _ => .stk
theorem walkE {φ : Wm} {H : Hp} {p : PV} {a : Addr} (hp : Rep g φ H p (.ref a)) : WalkS g φ H (fun i s2 => (liveL p s2).map fun xs => xs[i]?.map fun x => .tup [.int i, x]) (Ite g.K a) := by
  intro i φ1 H1 s1 _ _ S1 rep
  cases q : liveL p s1 with
  | none => exact ⟨fun h => by simp [q] at h, fun p0 h => by simp [q] at h⟩
  | some xs =>
    obtain ⟨a', vs, e, sq, R⟩ := liveL_at S1 (rep _ _ hp) q
    cases e
    refine ⟨fun h => ?_, fun p0 h => ?_⟩
    · have z : xs[i]? = none := by simpa [q] using h
      exact ⟨vs, sq, by rw [← R.length]; exact List.getElem?_eq_none_iff.mp z⟩
    · obtain ⟨x0, z, rfl⟩ : ∃ x0, xs[i]? = some x0 ∧ PV.tup [.int i, x0] = p0 := by simpa [q] using h
      obtain ⟨v, hv, rv⟩ := R.get z
      refine ⟨⟨vs, v, sq, hv⟩, fun v' H2 y => ?_⟩
      obtain ⟨T, x, rfl, nT, rfl, y⟩ := y
      have := y vs sq
      rw [hv] at this; cases this
      have e1 : Le φ1 H1 φ1 (upd H1 T (.tup [.int (i : Nat), v])) := Le.new nT (S1.fresh nT)
      refine ⟨φ1, e1, S1.new nT, ?_⟩
      simp only [Rep]
      exact ⟨T, _, rfl, .inl ⟨.inl upd_same, S1.fresh nT⟩, Reps.cons (rep_int.mpr rfl) (Reps.cons (rv.mono e1) Reps.nil)⟩
theorem i_enum {tpos : Pos} {elts : List Expr} {kk : Nat} (hK : X.K = g.K) (hm : X.mg "enumerate" = none) (ha : PA X [e] (rA g W fs)) (hg : Gl X "enumerate" := by rfl) (hs : starEach [e] X.env = [(false, eval e X.env)] := by rfl) :
    PI X (.Tuple elts kk tpos) (.Call (.Name "enumerate" p0) [e] [] pos) (rIt g W (srcEn fs)) := by
  refine pi_of (pi_enum hg hm ha hs) ?_
  rintro σ H R ⟨φ, ρ, s, S, E, q⟩
  refine seqAI S E q fun φ1 H1 s1 ps vs e1 S1 R1 q1 => ?_
  match ps, q1 with
  | [p], q1 =>
    simp only [Reps] at R1
    obtain ⟨v, _, rfl, r1, rfl⟩ := R1
    cases z : liveL p s1 with
    | none => simp only [z] at q1; exact q1.elim
    | some xs =>
      simp only [z] at q1
      obtain ⟨a, vs, rfl, sq, RR⟩ := liveL_at S1 r1 z
      exact ⟨a, vs, rfl, by rw [hK]; exact sq, by rw [hK]; exact q1 φ1 H1 _ (Le.refl _ _) S1 (walkE r1)⟩
/-- zip of two lists -/
def srcZip (fs : Sl → Sto → Res (List PV)) : Sl → Sto → Res Src := fun ρ s => (fs ρ s).bind fun ps s1 => match ps with
  | [p, q] => match liveL p s1, liveL q s1 with
    | some xs, some ys => .ok ⟨min xs.length ys.length, fun i s2 => (liveL p s2).bind fun xs => (liveL q s2).map fun ys => xs[i]?.bind fun x => ys[i]?.map fun y => .tup [x, y]⟩ s1
    | _, _ => .stk
  | _ => .stk
theorem walkZ {φ : Wm} {H : Hp} {p q : PV} {a b : Addr} (hp : Rep g φ H p (.ref a)) (hq : Rep g φ H q (.ref b)) : WalkS g φ H (fun i s2 => (liveL p s2).bind fun xs => (liveL q s2).map fun ys => xs[i]?.bind fun x => ys[i]?.map fun y => .tup [x, y]) (Itz g.K a b) := by
  intro i φ1 H1 s1 _ _ S1 rep
  cases q1 : liveL p s1 with
  | none => exact ⟨fun h => by simp [q1] at h, fun p0 h => by simp [q1] at h⟩
  | some xs =>
    cases q2 : liveL q s1 with
    | none => exact ⟨fun h => by simp [q1, q2] at h, fun p0 h => by simp [q1, q2] at h⟩
    | some ys =>
      obtain ⟨a', vs, e, sq, R⟩ := liveL_at S1 (rep _ _ hp) q1
      cases e
      obtain ⟨b', us, e, sq2, R2⟩ := liveL_at S1 (rep _ _ hq) q2
      cases e
      cases z : xs[i]? with
      | none => exact ⟨fun _ => ⟨vs, us, sq, sq2, .inl (by rw [← R.length]; exact List.getElem?_eq_none_iff.mp z)⟩, fun p0 h => by simp [q1, q2, z] at h⟩
      | some x =>
        cases z2 : ys[i]? with
        | none => exact ⟨fun _ => ⟨vs, us, sq, sq2, .inr (by rw [← R2.length]; exact List.getElem?_eq_none_iff.mp z2)⟩, fun p0 h => by simp [q1, q2, z, z2] at h⟩
        | some y =>
          obtain ⟨v, hv, rv⟩ := R.get z
          obtain ⟨u, hu, ru⟩ := R2.get z2
          refine ⟨fun h => by simp [q1, q2, z, z2] at h, fun p0 h => ⟨⟨vs, us, v, u, sq, sq2, hv, hu⟩, fun v' H2 yl => ?_⟩⟩
          obtain rfl : PV.tup [x, y] = p0 := by simpa [q1, q2, z, z2] using h
          obtain ⟨T, x', y', rfl, nT, rfl, y1, y2⟩ := yl
          have := y1 vs sq
          rw [hv] at this; cases this
          have := y2 us sq2
          rw [hu] at this; cases this
          have e1 : Le φ1 H1 φ1 (upd H1 T (.tup [v, u])) := Le.new nT (S1.fresh nT)
          refine ⟨φ1, e1, S1.new nT, ?_⟩
          simp only [Rep]
          exact ⟨T, _, rfl, .inl ⟨.inl upd_same, S1.fresh nT⟩, Reps.cons (rv.mono e1) (Reps.cons (ru.mono e1) Reps.nil)⟩
theorem i_zip {tpos : Pos} {elts : List Expr} {kk : Nat} (hK : X.K = g.K) (hm : X.mg "zip" = none) (ha : PA X [e, e2] (rA g W fs)) (hg : Gl X "zip" := by rfl) (hs : starEach [e, e2] X.env = (false, eval e X.env) :: starEach [e2] X.env := by rfl) (hpl : (backTo pos (starEach [e2] X.env)).any (·.1) = false := by rfl) :
    PI X (.Tuple elts kk tpos) (.Call (.Name "zip" p0) [e, e2] [] pos) (rIt g W (srcZip fs)) := by
  refine pi_of (pi_zip hg hm ha hs hpl) ?_
  rintro σ H R ⟨φ, ρ, s, S, E, q⟩
  refine seqAI S E q fun φ1 H1 s1 ps vs e1 S1 R1 q1 => ?_
  match ps, q1 with
  | [p, q], q1 =>
    simp only [Reps] at R1
    obtain ⟨v, _, rfl, r1, u, _, rfl, r2, rfl⟩ := R1
    cases z : liveL p s1 with
    | none => simp only [z] at q1; exact q1.elim
    | some xs =>
      cases z2 : liveL q s1 with
      | none => simp only [z, z2] at q1; exact q1.elim
      | some ys =>
        simp only [z, z2] at q1
        obtain ⟨a, vs, rfl, sq, RR⟩ := liveL_at S1 r1 z
        obtain ⟨b, us, rfl, sq2, RR2⟩ := liveL_at S1 r2 z2
        exact ⟨a, b, vs, us, rfl, by rw [hK]; exact sq, by rw [hK]; exact sq2, by rw [hK]; exact q1 φ1 H1 _ (Le.refl _ _) S1 (walkZ r1 r2)⟩
end

/-! ### for -/
def forN (it : Nat → Sto → Option (Option PV)) (gt : GF) (fb : SF) : Nat → Nat → Sl → Sto → SRes
  | 0, _, _, _ => .stk
  | n + 1, i, ρ, s => match it i s with
    | none => .stk
    | some none => .nx ρ s
    | some (some p) => match gt p ρ s with
      | none => .stk
      | some (ρ1, s1) => match fb ρ1 s1 with
        | .nx ρ' s' => forN it gt fb n (i + 1) ρ' s'
        | .ct ρ' s' => forN it gt fb n (i + 1) ρ' s'
        | .bk ρ' s' => .nx ρ' s'
        | .rt p s' => .rt p s'
        | .exc c x ρ' s' => .exc c x ρ' s'
        | .stk => .stk
def fFor (src : Sl → Sto → Res Src) (gt : GF) (fb : SF) : SF := fun ρ s => match src ρ s with
  | .ok J s1 => forN J.it gt fb (J.n + 1) 0 ρ s1
  | .exc c x s1 => .exc c x ρ s1
  | .stk => .stk
section
variable {g : G} {W : WX} {X : Cx} {tg iter : Expr} {body : List Stmt} {src : Sl → Sto → Res Src} {gt : GF} {fb : SF} {pos : Pos}
theorem rFor_of : ∀ D σ H, rS g W (fFor src gt fb) D σ H → tFor (rIt g W src) (rG g gt) (rS g W fb) D σ H := by
  rintro D σ H ⟨φ, ρ, s, S, E, q⟩
  refine ⟨φ, ρ, s, S, E, ?_⟩
  unfold fFor at q
  cases z : src ρ s with
  | stk => rw [z] at q; exact q
  | exc c x s1 => rw [z] at q; exact fun φ' H' d u e' S' a b r => q φ' H' d u σ e' S' (E.mono e') a b r
  | ok J s1 =>
    rw [z] at q
    refine fun φ' H' J' e' S' w => ?_
    refine ⟨fun i m σ1 H1 => ∃ φ1 ρ1 s2, Le φ' H' φ1 H1 ∧ Sim g φ1 H1 s2 ∧ EnvSim g φ1 H1 σ1 ρ1 ∧ OutS g W φ1 H1 (forN J.it gt fb m i ρ1 s2) D, ⟨J.n + 1, φ', ρ, s1, Le.refl _ _, S', E.mono e', OutS.le e' q⟩, ?_⟩
    rintro i m σ1 H1 ⟨φ1, ρ1, s2, e1, S1, E1, q1⟩
    cases m with
    | zero => exact q1.elim
    | succ m =>
      have w1 := w i φ1 H1 s2 (fun a o h t n _ => (e1.old a o h t n).1) e1.locs S1 (fun p v r => r.mono e1)
      unfold forN at q1
      cases y : J.it i s2 with
      | none => simp only [y] at q1; exact q1.elim
      | some o =>
        cases o with
        | none =>
          simp only [y] at q1
          exact .inl ⟨w1.1 y, q1 φ1 H1 σ1 (Le.refl _ _) S1 E1⟩
        | some p =>
          simp only [y] at q1
          have w2 := w1.2 p y
          refine .inr ⟨w2.1, fun σ' H' => ∃ φ1 ρ1 s2, Le φ' _ φ1 H' ∧ Sim g φ1 H' s2 ∧ EnvSim g φ1 H' σ' ρ1 ∧ OutS g W φ1 H' (forN J.it gt fb m (i + 1) ρ1 s2) D, fun σ' H' h => ⟨m, Nat.lt_succ_self _, h⟩, fun v H2 yl => ?_⟩
          obtain ⟨φ2, e2, S2, R2⟩ := w2.2 v H2 yl
          refine ⟨φ2, ρ1, s2, p, S2, E1.mono e2, R2, ?_⟩
          cases x : gt p ρ1 s2 with
          | none => simp only [x] at q1; exact q1.elim
          | some r =>
            obtain ⟨ρ3, s3⟩ := r
            simp only [x] at q1
            refine fun φ3 H3 σ3 e3 S3 E3 => ⟨φ3, ρ3, s3, S3, E3, ?_⟩
            cases t : fb ρ3 s3 with
            | nx ρ' s' => rw [t] at q1; exact fun φ4 H4 σ4 e4 S4 E4 => ⟨φ4, ρ', s', ((e1.trans e2).trans e3).trans e4, S4, E4, OutS.le ((e2.trans e3).trans e4) q1⟩
            | ct ρ' s' => rw [t] at q1; exact fun φ4 H4 σ4 e4 S4 E4 => ⟨φ4, ρ', s', ((e1.trans e2).trans e3).trans e4, S4, E4, OutS.le ((e2.trans e3).trans e4) q1⟩
            | bk ρ' s' => rw [t] at q1; exact fun φ4 H4 σ4 e4 S4 E4 => q1 φ4 H4 σ4 ((e2.trans e3).trans e4) S4 E4
            | rt p s' => rw [t] at q1; exact fun φ4 H4 σ4 e4 S4 E4 => q1 φ4 H4 σ4 ((e2.trans e3).trans e4) S4 E4
            | exc c x ρ' s' => rw [t] at q1; exact OutS.le (r := .exc c x ρ' s') (e2.trans e3) q1
            | stk => rw [t] at q1; exact q1
theorem s_for (hp : PassesOwn (model X.prog X.w) X.A X.env X.xe) (hc : X.calm = true) (hi : PI X tg iter (rIt g W src)) (hg : PG X tg (rG g gt)) (hb : PSs X body (rS g W fb)) (hs : ∀ x, foldedSetIterable iter X.env x = pure x := by intro _; rfl) : PS X (.For tg iter body [] pos) (rS g W (fFor src gt fb)) := ps_of (ps_for hp hc hi hg hb hs) rFor_of
end
end Pv

/-! Pv5: comprehensions, a def by its body. -/
namespace Pv
open PySem PySem.Spec PyProof.Rows L2

/-! ### slots that a comprehension's own names have -/
def wipeR (ρ : Sl) : List Nat → Sl
  | [] => ρ
  | v :: vs => (wipeR ρ vs).set v none
theorem wipe_at {σ : L2.St} : ∀ {vs : List Nat} {j : Nat}, (wipe σ vs)[j]? = if j ∈ vs ∧ j < σ.length then some none else σ[j]?
  | [], j => by simp [wipe]
  | v :: vs, j => by
    unfold wipe
    by_cases hj : v = j
    · subst hj
      by_cases hl : v < σ.length
      · rw [List.getElem?_set_self (by rw [wipe_length]; exact hl), if_pos ⟨List.mem_cons_self, hl⟩]
      · rw [if_neg (fun z => hl z.2), List.getElem?_eq_none (by rw [List.length_set, wipe_length]; omega), List.getElem?_eq_none (by omega)]
    · rw [List.getElem?_set_ne hj, wipe_at]
      have : (j ∈ v :: vs) ↔ j ∈ vs := by simp [show ¬ j = v from fun e => hj e.symm]
      simp only [this]
theorem wipe_set {σ : L2.St} {vs : List Nat} {i : Nat} {o : Option V} (hi : i ∈ vs) : wipe (σ.set i o) vs = wipe σ vs := by
  refine List.ext_getElem? fun j => ?_
  rw [wipe_at, wipe_at, List.length_set]
  by_cases h : j ∈ vs ∧ j < σ.length
  · rw [if_pos h, if_pos h]
  · rw [if_neg h, if_neg h]
    by_cases hj : i = j
    · subst hj
      have : ¬ i < σ.length := fun z => h ⟨hi, z⟩
      rw [List.getElem?_eq_none (by rw [List.length_set]; omega), List.getElem?_eq_none (by omega)]
    · rw [List.getElem?_set_ne hj]
theorem wipe_idem {σ : L2.St} {vs : List Nat} : wipe (wipe σ vs) vs = wipe σ vs := by
  refine List.ext_getElem? fun j => ?_
  rw [wipe_at, wipe_length, wipe_at]
  by_cases h : j ∈ vs ∧ j < σ.length
  · rw [if_pos h, if_pos h]
  · rw [if_neg h]
theorem wipeR_length (ρ : Sl) : ∀ vs : List Nat, (wipeR ρ vs).length = ρ.length
  | [] => rfl
  | v :: vs => by unfold wipeR; rw [List.length_set, wipeR_length ρ vs]
theorem wipeR_some {ρ : Sl} {i : Nat} {x : PV} : ∀ {vs : List Nat}, (wipeR ρ vs)[i]? = some (some x) → ρ[i]? = some (some x) ∧ i ∉ vs
  | [], h => ⟨h, by simp⟩
  | v :: vs, h => by
    unfold wipeR at h
    by_cases hi : v = i
    · subst hi
      by_cases hv : v < (wipeR ρ vs).length
      · rw [List.getElem?_set_self hv] at h; cases h
      · rw [List.getElem?_eq_none (by simpa using hv)] at h; cases h
    · rw [List.getElem?_set_ne hi] at h
      obtain ⟨h1, h2⟩ := wipeR_some h
      exact ⟨h1, by simp only [List.mem_cons, not_or]; exact ⟨fun e => hi e.symm, h2⟩⟩
theorem EnvSim.wipe {g : G} {φ : Wm} {H : Hp} {σ : L2.St} {ρ : Sl} (E : EnvSim g φ H σ ρ) (vs : List Nat) : EnvSim g φ H (L2.wipe σ vs) (wipeR ρ vs) := by
  refine ⟨by rw [wipe_length, wipeR_length, E.len], fun i p h => ?_, E.own⟩
  obtain ⟨h1, h2⟩ := wipeR_some h
  obtain ⟨v, a, b⟩ := E.at_ i p h1
  exact ⟨v, by rw [wipe_at, if_neg (fun z => h2 z.1)]; exact a, b⟩

/-! ### targets of a comprehension -/
def OutGd (g : G) (φ : Wm) (H : Hp) (σ : L2.St) (ds : List Nat) (r : Option (Sl × Sto)) (Q : L2.St → Hp → Prop) : Prop := match r with
  | some (ρ, s') => ∀ φ' H' σ', Le φ H φ' H' → Sim g φ' H' s' → EnvSim g φ' H' σ' ρ → wipe σ' ds = wipe σ ds → Q σ' H'
  | none => False
def rGd (g : G) (ds : List Nat) (f : GF) : TG := fun v σ H Q => ∃ φ ρ s p, Sim g φ H s ∧ EnvSim g φ H σ ρ ∧ Rep g φ H p v ∧ OutGd g φ H σ ds (f p ρ s) Q
def rGds (g : G) (ds : List Nat) (f : List PV → Sl → Sto → Option (Sl × Sto)) : TGs := fun vs σ H Q => ∃ φ ρ s ps, Sim g φ H s ∧ EnvSim g φ H σ ρ ∧ Reps g φ H ps vs ∧ OutGd g φ H σ ds (f ps ρ s) Q
section
variable {g : G} {X : Cx} {pos : Pos} {t : Expr} {ts : List Expr} {f : GF} {h : List PV → Sl → Sto → Option (Sl × Sto)} {ds : List Nat}
theorem c_name {i : Nat} {x : Str} (hN : X.N.Nodup) (hd : i ∈ ds := by decide) (hi : X.N[i]? = some x := by rfl) (hx : Loc X.env.scope x := by first | exact Or.inl rfl | exact Or.inr rfl) (hf : X.fn x = true ∨ X.env.scope.names.lookup x = some .local := by first | exact .inl rfl | exact .inr rfl | assumption) : PG X (.Name x pos) (rGd g ds (gfName i)) :=
  pg_of (pg_name hN hi hx hf) fun v σ H Q ⟨φ, ρ, s, p, S, E, R, q⟩ => q φ H _ (Le.refl _ _) S (E.set i R) (wipe_set hd)
theorem cs_nil : PGs X [] (rGds g ds gfNil) := pgs_of pgs_nil fun vs σ H Q ⟨φ, ρ, s, ps, S, E, R, q⟩ => by
  cases ps with
  | nil => simp only [Reps] at R; exact ⟨R, q φ H σ (Le.refl _ _) S E rfl⟩
  | cons p r => exact q.elim
theorem cs_cons (h1 : PG X t (rGd g ds f)) (h2 : PGs X ts (rGds g ds h)) (hs : (assignEach (t :: ts) X.env).map (·.2) = assign t X.env :: (assignEach ts X.env).map (·.2) := by rfl) : PGs X (t :: ts) (rGds g ds (gfCons f h)) := pgs_of (pgs_cons h1 h2 hs) fun vs σ H Q ⟨φ, ρ, s, ps, S, E, R, q⟩ => by
  cases ps with
  | nil => exact q.elim
  | cons p r =>
    simp only [Reps] at R
    obtain ⟨v, vr, rfl, R1, R2⟩ := R
    refine ⟨v, vr, rfl, φ, ρ, s, p, S, E, R1, ?_⟩
    unfold gfCons at q
    cases z : f p ρ s with
    | none => simp only [z] at q; exact q.elim
    | some w =>
      obtain ⟨ρ1, s1⟩ := w
      simp only [z] at q
      refine fun φ' H' σ' e' S' E' hw => ⟨φ', ρ1, s1, r, S', E', R2.mono e', ?_⟩
      cases y : h r ρ1 s1 with
      | none => rw [y] at q; exact q
      | some w2 => rw [y] at q; exact fun φ2 H2 σ2 e2 S2 E2 hw2 => q φ2 H2 σ2 (e'.trans e2) S2 E2 (hw2.trans hw)
theorem c_tup {k : Nat} {n : Nat} (hc : X.calm = true) (hK : X.K = g.K) (h1 : PGs X ts (rGds g ds h)) (hn : (assignEach ts X.env).length = n := by rfl) (hst : (assignEach ts X.env).findIdx? (·.1) = none := by rfl) : PG X (.Tuple ts k pos) (rGd g ds (gfTup n h)) := pg_of (pg_tup hc h1 hn hst) fun v σ H Q ⟨φ, ρ, s, p, S, E, R, q⟩ => by
  cases p with
  | tup xs =>
    by_cases hl : xs.length = n
    · simp only [gfTup, if_pos hl] at q
      simp only [Rep] at R
      obtain ⟨a, vs, rfl, R1, R2⟩ := R
      exact ⟨a, vs, rfl, by rw [hK]; exact R1.sq, R2.length.symm.trans hl, φ, ρ, s, xs, S, E, R2, q⟩
    · simp only [gfTup, if_neg hl] at q; exact q.elim
  | _ => exact q.elim
end
def fYes : Sl → Sto → Res Bool := fun _ s => .ok true s
theorem z_nil {g : G} {W : WX} {X : Cx} : PTs X [] (rT g W fYes) := ⟨fun pins s σ H Q I ⟨φ, ρ, st, S, E, q⟩ => pts_nil.run pins s σ H Q I (q φ H (Le.refl _ _) S)⟩
theorem z_one {g : G} {W : WX} {X : Cx} {c : Expr} {ft : Sl → Sto → Res Bool} (h : PT X c (rT g W ft)) : PTs X [c] (rT g W ft) := pts_one h

/-! ### the comprehension -/
abbrev W0 : WX := fun _ _ _ _ => False
def compN (it : Nat → Sto → Option (Option PV)) (gt : GF) (ft : Sl → Sto → Res Bool) (fe : EF) (ρ0 : Sl) : Nat → Nat → Sto → List PV → Res (List PV)
  | 0, _, _, _ => .stk
  | n + 1, i, s, acc => match it i s with
    | none => .stk
    | some none => .ok acc s
    | some (some p) => match gt p ρ0 s with
      | none => .stk
      | some (ρ1, s1) => match ft ρ1 s1 with
        | .ok true s2 => match fe ρ1 s2 with
          | .ok y s3 => if acc.length < 10000000 then compN it gt ft fe ρ0 n (i + 1) s3 (acc ++ [y]) else .stk
          | _ => .stk
        | .ok false s2 => compN it gt ft fe ρ0 n (i + 1) s2 acc
        | _ => .stk
def fComp (vs : List Nat) (src : Sl → Sto → Res Src) (gt : GF) (ft : Sl → Sto → Res Bool) (fe : EF) : Sl → Sto → Res (List PV) := fun ρ s => match src ρ s with
  | .ok J s1 => compN J.it gt ft fe (wipeR ρ vs) (J.n + 1) 0 s1 []
  | .exc c x s1 => .exc c x s1
  | .stk => .stk
def OutL (g : G) (W : WX) (φ : Wm) (H : Hp) (σ : L2.St) (r : Res (List PV)) (Q : VK) : Prop := match r with
  | .ok acc s' => ∀ φ' H' D vs, Le φ H φ' H' → D ∉ φ'.priv → (∀ o, H D = some o → (∀ ps, o ≠ .tbl ps) → False) → Sim g (φ'.push D) H' s' → H' D = some (.lst vs) → Reps g (φ'.push D) H' acc vs → Q (.ref D) H'
  | .exc c x s' => ∀ φ' H' d u, Le φ H φ' H' → Sim g φ' H' s' → H' d = some (.xd [(("value" : Str), u)]) → d ∉ φ'.locs → Rep g φ' H' x u → W (.ref (g.cls c)) (some d) σ H'
  | .stk => False
theorem Le.unpush {φ φ' : Wm} {H H' : Hp} {D : Addr} (e : Le (φ.push D) H φ' H') : ∃ φ1, φ' = φ1.push D ∧ Le φ H φ1 H' := by
  obtain ⟨l, p, f⟩ := φ'
  obtain ⟨e1, e2, e3, e4⟩ := e
  have e3 : p = D :: φ.priv := e3
  subst e3
  exact ⟨⟨l, φ.priv, f⟩, rfl, ⟨e1, e2, rfl, e4⟩⟩
theorem Le.updNew {φ φ' : Wm} {H H' : Hp} {D : Addr} {o : HO} (e : Le φ H φ' H') (h : H D = none) : Le φ H φ' (upd H' D o) :=
  ⟨e.locs, e.frs, e.prv, fun a u q t n => let r := e.old a u q t n; ⟨by rw [upd_ne (ne_of_none q h)]; exact r.1, r.2⟩⟩
section
variable {g : G} {W : WX} {src : Sl → Sto → Res Src} {gt : GF} {ft : Sl → Sto → Res Bool} {fe : EF} {vs : List Nat}
theorem rLc_of : ∀ σ H Q, (∃ φ ρ s, Sim g φ H s ∧ EnvSim g φ H σ ρ ∧ OutL g W φ H σ (fComp vs src gt ft fe ρ s) Q) → tLc (rIt g W src) (rGd g vs gt) (rT g W0 ft) (rE g W0 fe) vs σ H Q := by
  rintro σ H Q ⟨φ, ρ, s, S, E, q⟩
  refine ⟨φ, ρ, s, S, E, ?_⟩
  unfold fComp at q
  cases z : src ρ s with
  | stk => rw [z] at q; exact q
  | exc c x s1 => rw [z] at q; exact q
  | ok J s1 =>
    rw [z] at q
    intro φ' H' J' e' S' w D hD
    have hDp : D ∉ φ'.priv := fun m => S'.prvN D m hD
    have hD0 : ∀ o, H D = some o → (∀ ps, o ≠ .tbl ps) → False := fun o y t => by
      by_cases m : D ∈ φ.locs
      · obtain ⟨l, hl⟩ := List.mem_iff_getElem?.mp m
        exact S'.fresh hD (List.mem_of_getElem? (pre_get e'.locs hl))
      · have := (e'.old D o y t m).1
        rw [hD] at this; cases this
    refine ⟨fun i m H2 => ∃ φ2 s2 acc vs', Le φ' H' φ2 H2 ∧ Sim g (φ2.push D) H2 s2 ∧ H2 D = some (.lst vs') ∧ Reps g (φ2.push D) H2 acc vs' ∧ (∀ p v, Rep g φ' H' p v → Rep g (φ2.push D) H2 p v) ∧
      OutL g W φ H σ (compN J.it gt ft fe (wipeR ρ vs) m i s2 acc) Q, ⟨J.n + 1, φ', s1, [], [], (Le.refl φ' H').updNew hD, S'.push hD, upd_same, Reps.nil, fun p v r => r.push hD, q⟩, ?_⟩
    rintro i m H2 ⟨φ2, s2, acc, vs', e2, S2, hH, RR, keep, q2⟩
    have e02 : Le φ H φ2 H2 := e'.trans e2
    have hDp2 : D ∉ φ2.priv := by rw [e2.prv]; exact hDp
    cases m with
    | zero => exact q2.elim
    | succ m =>
      have w1 := w i (φ2.push D) H2 s2 (fun a o h t n _ => (e2.old a o h t n).1) e2.locs S2 keep
      unfold compN at q2
      cases y : J.it i s2 with
      | none => simp only [y] at q2; exact q2.elim
      | some o =>
        cases o with
        | none =>
          simp only [y] at q2
          exact .inl ⟨w1.1 y, q2 φ2 H2 D vs' e02 hDp2 hD0 S2 hH RR⟩
        | some p =>
          simp only [y] at q2
          have w2 := w1.2 p y
          refine .inr ⟨w2.1, fun H3 => ∃ φ2 s2 acc vs', Le φ' H' φ2 H3 ∧ Sim g (φ2.push D) H3 s2 ∧ H3 D = some (.lst vs') ∧ Reps g (φ2.push D) H3 acc vs' ∧ (∀ p v, Rep g φ' H' p v → Rep g (φ2.push D) H3 p v) ∧
            OutL g W φ H σ (compN J.it gt ft fe (wipeR ρ vs) m (i + 1) s2 acc) Q, fun H3 h => ⟨m, Nat.lt_succ_self _, h⟩, fun v H3 yl => ?_⟩
          obtain ⟨φ3', e3', S3, R3⟩ := w2.2 v H3 yl
          obtain ⟨φ3, rfl, e3⟩ := e3'.unpush
          have E3 : EnvSim g (φ3.push D) H3 (wipe σ vs) (wipeR ρ vs) := by
            refine ⟨by rw [wipe_length, wipeR_length, E.len], fun i p h => ?_, ((E.mono e02).mono e3).own⟩
            obtain ⟨v, a, b⟩ := ((E.mono e').wipe vs).at_ i p h
            exact ⟨v, a, (keep p v b).mono e3'⟩
          refine ⟨φ3.push D, wipeR ρ vs, s2, p, S3, E3, R3, ?_⟩
          cases x : gt p (wipeR ρ vs) s2 with
          | none => simp only [x] at q2; exact q2.elim
          | some r =>
            obtain ⟨ρ4, s4⟩ := r
            simp only [x] at q2
            intro φ4' H4 σ4 e4' S4 E4 hw
            obtain ⟨φ4, rfl, e4⟩ := e4'.unpush
            refine ⟨hw.trans wipe_idem, φ4.push D, ρ4, s4, S4, E4, ?_⟩
            cases t : ft ρ4 s4 with
            | stk => rw [t] at q2; exact q2.elim
            | exc c x s5 => rw [t] at q2; exact q2.elim
            | ok b s5 =>
              rw [t] at q2
              intro φ5' H5 e5' S5
              obtain ⟨φ5, rfl, e5⟩ := e5'.unpush
              cases b with
              | false =>
                rw [if_neg Bool.false_ne_true]
                have ee : Le (φ2.push D) H2 (φ5.push D) H5 := (e3'.trans e4').trans e5'
                have hD2 : D ∉ (φ2.push D).locs := (S2.prv D List.mem_cons_self).2
                refine ⟨φ5, s5, acc, vs', e2.trans ((e3.trans e4).trans e5), S5, (ee.old D _ hH (fun _ z => nomatch z) hD2).1, RR.mono ee, fun p v r => (keep p v r).mono ee, q2⟩
              | true =>
                rw [if_pos rfl]
                simp only at q2
                refine ⟨φ5.push D, ρ4, s5, S5, E4.mono e5', ?_⟩
                cases u : fe ρ4 s5 with
                | stk => rw [u] at q2; exact q2.elim
                | exc c x s6 => rw [u] at q2; exact q2.elim
                | ok y s6 =>
                  rw [u] at q2
                  simp only at q2
                  intro φ6' H6 v6 e6' S6 R6
                  obtain ⟨φ6, rfl, e6⟩ := e6'.unpush
                  have ee : Le (φ2.push D) H2 (φ6.push D) H6 := ((e3'.trans e4').trans e5').trans e6'
                  have hD2 : D ∉ (φ2.push D).locs := (S2.prv D List.mem_cons_self).2
                  have hH6 := (ee.old D _ hH (fun _ z => nomatch z) hD2).1
                  by_cases hl : acc.length < 10000000
                  · rw [if_pos hl] at q2
                    refine ⟨vs', hH6, Nat.lt_of_lt_of_le (by rw [← RR.length]; exact hl) (by decide), ?_⟩
                    refine ⟨φ6, s6, acc ++ [y], vs' ++ [v6], (e2.trans (((e3.trans e4).trans e5).trans e6)).updNew hD, S6.fill hH6, upd_same, ?_, fun p v r => ((keep p v r).mono ee).fill hH6, q2⟩
                    exact ((RR.mono ee).fill hH6).append (Reps.cons (R6.fill hH6) Reps.nil)
                  · rw [if_neg hl] at q2; exact q2.elim
end
/-! ### the filled list becomes a place of the store -/
section
variable {g : G} {φ : Wm} {H : Hp} {s : Sto} {D : Addr}
mutual
theorem Rep.adopt {vs0 : List V} (h : H D = some (.lst vs0)) : ∀ {p : PV} {v : V}, Rep g (φ.push D) H p v → Rep g (φ.add D) H p v
  | .non, v, r => by simpa only [Rep] using r
  | .bl b, v, r => by simpa only [Rep] using r
  | .int i, v, r => by simpa only [Rep] using r
  | .str x, v, r => by simpa only [Rep] using r
  | .ty n, v, r => by simpa only [Rep] using r
  | .cls c, v, r => by simpa only [Rep] using r
  | .kl xs, v, r => by
    simp only [Rep] at r ⊢
    obtain ⟨a, vs, h1, h2, h3⟩ := r
    exact ⟨a, vs, h1, h2.map fun o q n => ⟨q, fun m => (List.mem_append.mp m).elim n fun m => by
      obtain rfl : a = D := by simpa using m
      rw [h] at q; cases q⟩, Reps.adopt h h3⟩
  | .loc l, v, r => by
    simp only [Rep] at r ⊢
    obtain ⟨a, h1, h2⟩ := r
    exact ⟨a, h1, pre_get (List.prefix_append _ _) h2⟩
  | .tup xs, v, r => by
    simp only [Rep] at r ⊢
    obtain ⟨a, vs, h1, h2, h3⟩ := r
    refine ⟨a, vs, h1, ?_, Reps.adopt h h3⟩
    rcases h2 with ⟨q, n⟩ | q
    · refine .inl ⟨q, fun m => (List.mem_append.mp m).elim n fun m => ?_⟩
      obtain rfl : a = D := by simpa using m
      rcases q with q | ⟨o, q⟩
      · rw [h] at q; cases q
      · rw [h] at q; cases q
    · exact .inr q
  | .tmp xs, v, r => by
    simp only [Rep] at r ⊢
    obtain ⟨a, vs, h1, h2, h4, h5, h3⟩ := r
    refine ⟨a, vs, h1, h2, fun m => (List.mem_append.mp m).elim h4 fun m => ?_, fun z => h5 (List.mem_cons_of_mem _ z), Reps.adopt h h3⟩
    obtain rfl : a = D := by simpa using m
    exact h5 List.mem_cons_self
  | .exc c x, v, r => by
    simp only [Rep] at r ⊢
    obtain ⟨a, d, u, h1, h2, h3, h4, h5, h6⟩ := r
    refine ⟨a, d, u, h1, h2, fun m => (List.mem_append.mp m).elim h3 fun m => ?_, h4, fun m => (List.mem_append.mp m).elim h5 fun m => ?_, Rep.adopt h h6⟩
    · obtain rfl : a = D := by simpa using m
      rw [h] at h2; cases h2
    · obtain rfl : d = D := by simpa using m
      rw [h] at h4; cases h4
  | .clo k fid, v, r => by
    simp only [Rep] at r ⊢
    obtain ⟨f, c, cs, h1, h2, h3, h4, h5, h6⟩ := r
    refine ⟨f, c, cs, h1, h2, h3, fun m => (List.mem_append.mp m).elim h4 fun m => ?_, h5, fun m => (List.mem_append.mp m).elim h6 fun m => ?_⟩
    · obtain rfl : f = D := by simpa using m
      rw [h] at h3; cases h3
    · obtain rfl : c = D := by simpa using m
      rw [h] at h5; cases h5
theorem Reps.adopt {vs0 : List V} (h : H D = some (.lst vs0)) : ∀ {xs : List PV} {vs : List V}, Reps g (φ.push D) H xs vs → Reps g (φ.add D) H xs vs
  | [], vs, r => by simpa only [Reps] using r
  | x :: xs, vs, r => by
    simp only [Reps] at r ⊢
    obtain ⟨v, q, h1, h2, h3⟩ := r
    exact ⟨v, q, h1, Rep.adopt h h2, Reps.adopt h h3⟩
end
theorem Sim.adopt {vs0 : List V} {xs : List PV} (S : Sim g (φ.push D) H s) (h : H D = some (.lst vs0)) (hp : D ∉ φ.priv) (R : Reps g (φ.push D) H xs vs0) : Sim g (φ.add D) H (s.alloc (.lst xs)) := by
  have hD : D ∉ φ.locs := (S.prv D List.mem_cons_self).2
  have hlen : φ.locs.length = s.objs.length := S.len
  refine ⟨by simp [Wm.add, Sto.alloc, hlen], ?_, fun l o' a h1 h2 => ?_, S.nf, fun a ha => ?_, S.tabs, ?_⟩
  · show (φ.locs ++ [D]).Nodup
    rw [List.nodup_append]
    exact ⟨S.nd, by simp, fun a ha b hb => by
      have : b = D := by simpa using hb
      rw [this]; exact fun z => hD (z ▸ ha)⟩
  · have h1' : (s.objs ++ [PObj.lst xs])[l]? = Option.some o' := h1
    have h2' : (φ.locs ++ [D])[l]? = Option.some a := h2
    by_cases hl : l < s.objs.length
    · rw [List.getElem?_append_left hl] at h1'
      rw [List.getElem?_append_left (by rw [hlen]; exact hl)] at h2'
      have r := S.obj l o' a h1' h2'
      cases o' with
      | lst xs => obtain ⟨vs, r1, r2⟩ := r; exact ⟨vs, r1, r2.adopt h⟩
      | flst xs => obtain ⟨o, vs, r1, r2⟩ := r; exact ⟨o, vs, r1, r2.adopt h⟩
    · have hl2 : l < s.objs.length + 1 := by
        have := (List.getElem?_eq_some_iff.mp h1').1
        simpa using this
      have : l = s.objs.length := by omega
      subst this
      rw [List.getElem?_concat_length] at h1'
      rw [← hlen, List.getElem?_concat_length] at h2'
      cases h1'; cases h2'
      exact ⟨vs0, h, R.adopt h⟩
  · have r := S.prv a (List.mem_cons_of_mem _ ha)
    refine ⟨r.1, fun m => (List.mem_append.mp m).elim r.2 fun m => ?_⟩
    have : a = D := by simpa using m
    exact hp (this ▸ ha)
  · exact S.susp.map (fun _ _ h => h) (fun c o q n => ⟨q, fun m => (List.mem_append.mp m).elim n fun m => by
      obtain rfl : c = D := by simpa using m
      rw [h] at q; cases q⟩) fun _ _ r => r.adopt h
end
def fLcT (vs : List Nat) (src : Sl → Sto → Res Src) (gt : GF) (ft : Sl → Sto → Res Bool) (fe : EF) : EF := fun ρ s => (fComp vs src gt ft fe ρ s).bind fun acc s1 => .ok (.tmp acc) s1
def fLcL (vs : List Nat) (src : Sl → Sto → Res Src) (gt : GF) (ft : Sl → Sto → Res Bool) (fe : EF) : EF := fun ρ s => (fComp vs src gt ft fe ρ s).bind fun acc s1 => .ok (.loc s1.objs.length) (s1.alloc (.lst acc))
section
variable {g : G} {W : WX} {src : Sl → Sto → Res Src} {gt : GF} {ft : Sl → Sto → Res Bool} {fe : EF} {vs : List Nat} {φ : Wm} {H : Hp} {σ : L2.St}
theorem outL_T {r : Res (List PV)} {Q : VK} (h : OutE g W φ H σ (r.bind fun acc s1 => .ok (.tmp acc) s1) Q) : OutL g W φ H σ r Q := by
  cases r with
  | stk => exact h
  | exc c x s => exact h
  | ok acc s =>
    intro φ' H' D vs e hp h0 S hH R
    refine h φ' H' _ e S.pop ?_
    simp only [Rep]
    exact ⟨D, vs, rfl, hH, (S.prv D List.mem_cons_self).2, hp, R.pop⟩
theorem outL_L {r : Res (List PV)} {Q : VK} (h : OutE g W φ H σ (r.bind fun acc s1 => .ok (.loc s1.objs.length) (s1.alloc (.lst acc))) Q) : OutL g W φ H σ r Q := by
  cases r with
  | stk => exact h
  | exc c x s => exact h
  | ok acc s =>
    intro φ' H' D vs e hp h0 S hH R
    have e' : Le φ H (φ'.add D) H' := ⟨e.locs.trans (List.prefix_append _ _), e.frs, e.prv, fun a o q t n => let r := e.old a o q t n; ⟨r.1, fun m => (List.mem_append.mp m).elim r.2 fun m => by
      obtain rfl : a = D := by simpa using m
      exact h0 o q t⟩⟩
    refine h (φ'.add D) H' _ e' (S.adopt hH hp R) ?_
    simp only [Rep]
    refine ⟨D, rfl, ?_⟩
    show (φ'.locs ++ [D])[s.objs.length]? = some D
    have hlen : φ'.locs.length = s.objs.length := S.len
    rw [← hlen, List.getElem?_concat_length]
end
section
variable {g : G} {W : WX} {X : Cx} {elt tg iter : Expr} {ifs : List Expr} {scope : Scope} {own : List (Str × Nat)} {pos : Pos} {src : Sl → Sto → Res Src} {gt : GF} {ft : Sl → Sto → Res Bool} {fe : EF}
theorem x_lcT (own : List (Str × Nat)) (hc : X.calm = true) (hN : X.N.Nodup) (hi : PI X tg iter (rIt g W src)) (ok : BlkOk X.N X.env.scope scope own)
    (hg : ∀ (s : Shared) (H : Hp) (C : Addr) (cl : List (Str × Addr)) (fp : List Addr), PG (X.blk s H scope (compEnvC scope cl C X.env) fp) tg (rGd g (own.map (·.2)) gt)) (ht : ∀ (s : Shared) (H : Hp) (C : Addr) (cl : List (Str × Addr)) (fp : List Addr), PTs (X.blk s H scope (compEnvC scope cl C X.env) fp) ifs (rT g W0 ft))
    (he : ∀ (s : Shared) (H : Hp) (C : Addr) (cl : List (Str × Addr)) (fp : List Addr), PE (X.blk s H scope (compEnvC scope cl C X.env) fp) elt (rE g W0 fe)) (hs : ∀ x, foldedSetIterable iter X.env x = pure x := by intro _; rfl) :
    PE X (.ListComp elt [⟨tg, iter, ifs, 0⟩] scope pos) (rE g W (fLcT (own.map (·.2)) src gt ft fe)) := pe_of (pe_lc hc hN hi ok hg ht he hs) fun σ H Q ⟨φ, ρ, s, S, E, q⟩ => rLc_of σ H Q ⟨φ, ρ, s, S, E, outL_T q⟩
theorem s_setLcT {i : Nat} {y : Str} {py spos : Pos} (own : List (Str × Nat)) (hc : X.calm = true) (hN : X.N.Nodup) (hi : PI X tg iter (rIt g W src)) (ok : BlkOk X.N X.env.scope scope own)
    (hg : ∀ (s : Shared) (H : Hp) (C : Addr) (cl : List (Str × Addr)) (fp : List Addr), PG (X.blk s H scope (compEnvC scope cl C X.env) fp) tg (rGd g (own.map (·.2)) gt)) (ht : ∀ (s : Shared) (H : Hp) (C : Addr) (cl : List (Str × Addr)) (fp : List Addr), PTs (X.blk s H scope (compEnvC scope cl C X.env) fp) ifs (rT g W0 ft))
    (he : ∀ (s : Shared) (H : Hp) (C : Addr) (cl : List (Str × Addr)) (fp : List Addr), PE (X.blk s H scope (compEnvC scope cl C X.env) fp) elt (rE g W0 fe)) (hy : X.N[i]? = some y := by rfl) (hyl : X.env.scope.names.lookup y = some .local := by rfl)
    (hsw : swapsWith (.ListComp elt [⟨tg, iter, ifs, 0⟩] scope pos) (some (.Name y py)) spos.line X.env = pure true := by exact sw_true rfl rfl rfl rfl) (hs : ∀ x, foldedSetIterable iter X.env x = pure x := by intro _; rfl) :
    PS X (.Assign [.Name y py] (.ListComp elt [⟨tg, iter, ifs, 0⟩] scope pos) spos) (rS g W (fAsg (fLcT (own.map (·.2)) src gt ft fe) (gfName i))) := by
  refine ps_of (ps_setLc hc hN hy hyl hsw hi ok hg ht he hs) fun D σ H h => ?_
  obtain ⟨φ, ρ, s, S, E, q⟩ := rName_of D σ H h
  exact rLc_of σ H _ ⟨φ, ρ, s, S, E, outL_T q⟩
theorem x_lcL (own : List (Str × Nat)) (hc : X.calm = true) (hN : X.N.Nodup) (hi : PI X tg iter (rIt g W src)) (ok : BlkOk X.N X.env.scope scope own)
    (hg : ∀ (s : Shared) (H : Hp) (C : Addr) (cl : List (Str × Addr)) (fp : List Addr), PG (X.blk s H scope (compEnvC scope cl C X.env) fp) tg (rGd g (own.map (·.2)) gt)) (ht : ∀ (s : Shared) (H : Hp) (C : Addr) (cl : List (Str × Addr)) (fp : List Addr), PTs (X.blk s H scope (compEnvC scope cl C X.env) fp) ifs (rT g W0 ft))
    (he : ∀ (s : Shared) (H : Hp) (C : Addr) (cl : List (Str × Addr)) (fp : List Addr), PE (X.blk s H scope (compEnvC scope cl C X.env) fp) elt (rE g W0 fe)) (hs : ∀ x, foldedSetIterable iter X.env x = pure x := by intro _; rfl) :
    PE X (.ListComp elt [⟨tg, iter, ifs, 0⟩] scope pos) (rE g W (fLcL (own.map (·.2)) src gt ft fe)) := pe_of (pe_lc hc hN hi ok hg ht he hs) fun σ H Q ⟨φ, ρ, s, S, E, q⟩ => rLc_of σ H Q ⟨φ, ρ, s, S, E, outL_L q⟩
theorem s_setLcL {i : Nat} {y : Str} {py spos : Pos} (own : List (Str × Nat)) (hc : X.calm = true) (hN : X.N.Nodup) (hi : PI X tg iter (rIt g W src)) (ok : BlkOk X.N X.env.scope scope own)
    (hg : ∀ (s : Shared) (H : Hp) (C : Addr) (cl : List (Str × Addr)) (fp : List Addr), PG (X.blk s H scope (compEnvC scope cl C X.env) fp) tg (rGd g (own.map (·.2)) gt)) (ht : ∀ (s : Shared) (H : Hp) (C : Addr) (cl : List (Str × Addr)) (fp : List Addr), PTs (X.blk s H scope (compEnvC scope cl C X.env) fp) ifs (rT g W0 ft))
    (he : ∀ (s : Shared) (H : Hp) (C : Addr) (cl : List (Str × Addr)) (fp : List Addr), PE (X.blk s H scope (compEnvC scope cl C X.env) fp) elt (rE g W0 fe)) (hy : X.N[i]? = some y := by rfl) (hyl : X.env.scope.names.lookup y = some .local := by rfl)
    (hsw : swapsWith (.ListComp elt [⟨tg, iter, ifs, 0⟩] scope pos) (some (.Name y py)) spos.line X.env = pure true := by exact sw_true rfl rfl rfl rfl) (hs : ∀ x, foldedSetIterable iter X.env x = pure x := by intro _; rfl) :
    PS X (.Assign [.Name y py] (.ListComp elt [⟨tg, iter, ifs, 0⟩] scope pos) spos) (rS g W (fAsg (fLcL (own.map (·.2)) src gt ft fe) (gfName i))) := by
  refine ps_of (ps_setLc hc hN hy hyl hsw hi ok hg ht he hs) fun D σ H h => ?_
  obtain ⟨φ, ρ, s, S, E, q⟩ := rName_of D σ H h
  exact rLc_of σ H _ ⟨φ, ρ, s, S, E, outL_L q⟩
end

/-! ### a def by its body -/
def startR (N : List Str) (xs : List PV) : Sl := xs.map some ++ List.replicate (N.length - xs.length) none
def ofS (r : SRes) : Res PV := match r with
  | .nx _ s => .ok .non s
  | .rt p s => .ok p s
  | .exc c x _ s => .exc c x s
  | _ => .stk
/-- the def as a function of its arguments' values -/
def fDef (n m : Nat) (body : SF) : List PV → Sto → Res PV := fun xs s => if xs.length = n then ofS (body (xs.map some ++ List.replicate (m - n) none) s) else .stk
theorem start_sim {g : G} {φ : Wm} {H : Hp} {N : List Str} {xs : List PV} {vs : List V} (R : Reps g φ H xs vs) (hown : ∀ p, g.own = some p → φ.frs[p.1]? = some p.2) : EnvSim g φ H (start N vs) (xs.map some ++ List.replicate (N.length - xs.length) none) := by
  refine ⟨by unfold L2.start; simp [R.length], fun i p h => ?_, hown⟩
  by_cases hi : i < xs.length
  · rw [List.getElem?_append_left (by simpa using hi), List.getElem?_map] at h
    have h' : xs[i]? = some p := by
      cases y : xs[i]? with
      | none => rw [y] at h; cases h
      | some q => rw [y] at h; simpa using h
    obtain ⟨v, a, b⟩ := R.get h'
    refine ⟨v, ?_, b⟩
    unfold L2.start
    rw [List.getElem?_append_left (by simpa [← R.length] using hi), List.getElem?_map, a]
    rfl
  · rw [List.getElem?_append_right (by simpa using Nat.le_of_not_lt hi)] at h
    have := List.getElem?_replicate (n := N.length - xs.length) (a := (none : Option PV)) (i := i - (xs.map some).length)
    rw [this] at h
    split at h <;> cases h
section
variable {g : G} {x qual : Str} {st : Stmt} {f : Addr} {fd : FuncData} {N ps : List Str} {k : Nat} {body : SF}
theorem fn_ok (F : L2.Fun g.K x qual st f fd) (S : FnScope N ps (defScope st))
    (hbody : ∀ (cdv : Value) (A : Around) (outer : List Env) (s : Shared) (H : Hp) (E : XK), Room k (A.deeper (envOfC qual (defScope st) s.heap.objs.size f cdv)) → A.guards = some [] →
      PSs (cxOf (L2.CX g.P g.w) g.P g.w g.K g.mg g.base N qual (defScope st) f cdv A outer s H E) (defBody st) (rS g.b (fun cls d _ H => E cls d H) body)) : FnG g (k + 1) f fd ps (fDef ps.length N.length body) := by
  obtain ⟨oc, od, kV, doc, pm, an, cdv, ct, osl, rfl, lk, hcd⟩ := F.ex
  refine ⟨fun A outer s H args us vs Q E hr hgu e0 hb r hl hsp => ?_⟩
  have KX : g.K.In s.heap := e0.mod.kin.keeps fun b o e => (e0.bs b o e).1
  have lim : s.heap.NoLimit := e0.mod.nolimit.keeps fun b o e => (e0.bs b o e).1
  have hkind : ∀ y ∈ ps.zip us, (defScope st).names.lookup y.1 = some .local ∨ ((defScope st).names.lookup y.1 = some .cell ∧ ((cellsFrom (s.heap.objs.size + 1) (defScope st).names []).lookup y.1).isSome = true) := fun ⟨n, v⟩ hy => by
    rcases S.par n (List.of_mem_zip hy).1 with q | q
    · exact .inl q
    · exact .inr ⟨q, PySem.W.cellsFrom_some _ _ _ (.inl q)⟩
  refine codeAny_call_function hr.depth (KX _ _ lk) rfl S.co S.gen rfl (PySem.W.codeRec_of KX hcd) (hb _ _ _ _ ?_)
  refine wpAny_newFunctionEnv_cells S.kind hkind fun env he s1 x => ?_
  subst he
  refine ⟨lim.keeps x.toInCall.keep, codeAny_func ?_⟩
  have ht := hbody cdv A outer s H E (hr.deeper _) hgu
  obtain ⟨φ, s0, xs, Sm, R, q⟩ := hsp
  have hq : rS g.b (fun cls d _ H => E cls d H) body { nx := fun _ H' => Q .non H', rt := Q } (start N vs) H := by
    refine ⟨φ, _, s0, Sm, start_sim R (fun p z => nomatch z), ?_⟩
    have hn : xs.length = ps.length := R.length.trans hl
    unfold fDef at q
    rw [if_pos hn] at q
    rw [hn]
    cases z : body (xs.map some ++ List.replicate (N.length - ps.length) none) s0 with
    | nx ρ' s' => rw [z] at q; exact fun φ' H' σ' e' S' _ => q φ' H' .non e' S' (by simp only [Rep])
    | rt p s' => rw [z] at q; exact q
    | bk ρ' s' => rw [z] at q; exact q.elim
    | ct ρ' s' => rw [z] at q; exact q.elim
    | exc c x ρ' s' => rw [z] at q; exact fun φ' H' d u σ' e' S' _ a b r => q φ' H' d u e' S' a b r
    | stk => rw [z] at q; exact q.elim
  have I : Inv (cxOf (L2.CX g.P g.w) g.P g.w g.K g.mg g.base N qual (defScope st) f cdv A outer s H E) [] (start N vs) H s1 := inv_start S hr.hd e0 hl r x
  refine wpAny_mono (ht.run [] s1 (start N vs) H _ I hq) (fun fl s' hs => ?_) fun e s' hs => hs
  have fin : ∀ {σ' : L2.St} {H' : Hp} {v : V} {u : Value}, Inv (cxOf (L2.CX g.P g.w) g.P g.w g.K g.mg g.base N qual (defScope st) f cdv A outer s H E) [] σ' H' s' → RelV v u → Q v H' → CE outer g.P g.w H s Q u s' :=
    fun {σ' H' v u} J rv q => ⟨v, H', J.os, J.bare, J.base, J.hok, rv, q⟩
  cases fl with
  | ret u =>
    obtain ⟨v, σ', H', J, rv, q⟩ := hs
    exact fin J rv q
  | next =>
    obtain ⟨σ', H', J, q⟩ := hs
    exact fin (v := V.non) (u := Value.none) J rfl q
  | brk =>
    obtain ⟨_, _, _, q⟩ := hs
    exact False.elim q
  | cont =>
    obtain ⟨_, _, _, q⟩ := hs
    exact False.elim q
end
end Pv

/-! Pv6: operations on values: ints, texts, tuples, lists; built-in functions. -/
namespace PvE
open PySem PySem.Spec PyProof.Rows L2
theorem tuple_mul1 (l : Addr) (items : Array Value) (n : Nat) (dd : Option Addr) (sl : Array (Option Value)) (u : Tok) :
    Meets (Builtin.«tuple.__mul__» ⟨[.ref l, .int 1 u], []⟩) (fun _ R s => s.heap.get? l = some { cls := .type "tuple", dict := dd, data := .seq items n, slots := sl } ∧
      R (.ok (.ret (Value.ref l))) s) :=
  .of_wp fun prog w A R s h => by
    obtain ⟨hp, g, d, tk, os⟩ := s
    obtain ⟨hl, h⟩ := h
    have f1 := AutoSeq1.idx_int
    have c1 : (items.isEmpty || (1 : Int) == 1) = true := by simp
    wp_walk using AutoSeq1.wpAny_loadPart' hl
    exact ⟨_, rfl, h⟩
/-- a tuple once: itself -/
def rRep1 (K : PySem.W.Frag) : R2 := fun x y H Q => ∃ l xs, x = .ref l ∧ y = .int 1 ∧ SqT K H l xs ∧ Q (.ref l) H
theorem op_rep1 {X : Cx} : OpR X (binaryOp .Mult) (rRep1 X.K) := by
  intro pins s σ H x y v u Q I rx ry h
  obtain ⟨l, xs, rfl, rfl, hT, q⟩ := h
  cases rx
  obtain ⟨t, rfl⟩ := ry
  obtain ⟨its, r, ⟨⟨cls, dd, data, sl⟩, ho, hc, n, hd⟩, hs⟩ := I.tuple hT
  simp only at hc hd
  subst hc hd
  refine wpAny_binaryOp_repeat_ref (T := "tuple") (U := "int") (by decide) ⟨_, ho, rfl⟩ (fun s' => typeIs_int s' 1 t) noFill_tuple_mul F.fills_int_mul F.slot_int_rmul repeat_tuple F.slot_int_index.lookup
    (call_meets F.slot_int_rmul (typeIs_int s 1 t) F.entry_int_rmul (F.args_int_rmul_2 _ _) (int_rmul_tuple 1 t l its.toArray n dd sl)
      ⟨ho, rfl, ⟨_, ho, rfl⟩, call_meets F.slot_tuple_mul ⟨_, ho, rfl⟩ F.entry_tuple_mul (F.args_tuple_mul_2 _ _) (tuple_mul1 l its.toArray n dd sl t) ⟨ho, ?_⟩⟩)
  exact ⟨.ref l, H, I, rfl, q⟩
end PvE
namespace Pv
open PySem PySem.Spec PyProof.Rows L2

/-- an own list (it may be written) as it stands -/
def lstW (p : PV) (s : Sto) : Option (List PV) := match p with
  | .tmp xs => some xs
  | .loc l => match s.objs[l]? with
    | some (.lst xs) => some xs
    | _ => none
  | _ => none
section
variable {g : G} {φ : Wm} {H : Hp} {s : Sto}
theorem lstW_at {p : PV} {v : V} {xs : List PV} (S : Sim g φ H s) (R : Rep g φ H p v) (h : lstW p s = some xs) : ∃ a vs, v = .ref a ∧ H a = some (.lst vs) ∧ Reps g φ H xs vs := by
  cases p with
  | tmp ys =>
    simp only [lstW, Option.some.injEq] at h
    subst h
    simp only [Rep] at R
    obtain ⟨a, vs, rfl, h1, _, _, h2⟩ := R
    exact ⟨a, vs, rfl, h1, h2⟩
  | loc l =>
    simp only [Rep] at R
    obtain ⟨a, rfl, hl⟩ := R
    obtain ⟨o, ho, r⟩ := S.there hl
    simp only [lstW, ho] at h
    cases o with
    | lst ys =>
      simp only [Option.some.injEq] at h; subst h
      obtain ⟨vs, h1, h2⟩ := r
      exact ⟨a, vs, rfl, h1, h2⟩
    | flst ys => simp at h
  | _ => simp [lstW] at h
theorem rep_tup {xs : List PV} {v : V} (R : Rep g φ H (.tup xs) v) : ∃ a vs, v = .ref a ∧ TupAt g.K φ H a vs ∧ Reps g φ H xs vs := by simpa only [Rep] using R
theorem rep_str {x : Str} {v : V} : Rep g φ H (.str x) v ↔ v = .str x := by simp only [Rep]
theorem rep_non {v : V} : Rep g φ H .non v ↔ v = .non := by simp only [Rep]
theorem rep_ty {n : String} {v : V} : Rep g φ H (.ty n) v ↔ v = .ty n := by simp only [Rep]
/-- a new tuple, a new list -/
theorem new_tup {xs : List PV} {vs : List V} {p : Addr} (S : Sim g φ H s) (hp : H p = none) (R : Reps g φ H xs vs) : Rep g φ (upd H p (.tup vs)) (.tup xs) (.ref p) := by
  simp only [Rep]
  exact ⟨p, vs, rfl, .inl ⟨.inl upd_same, S.fresh hp⟩, R.mono (Le.new hp (S.fresh hp))⟩
theorem new_tmp {xs : List PV} {vs : List V} {p : Addr} (S : Sim g φ H s) (hp : H p = none) (R : Reps g φ H xs vs) : Rep g φ (upd H p (.lst vs)) (.tmp xs) (.ref p) := by
  simp only [Rep]
  exact ⟨p, vs, rfl, upd_same, S.fresh hp, fun z => S.prvN p z hp, R.mono (Le.new hp (S.fresh hp))⟩
theorem Sim.lenew (S : Sim g φ H s) {p : Addr} {o : HO} (hp : H p = none) : Le φ H φ (upd H p o) := Le.new hp (S.fresh hp)
theorem rep_data {p : PV} {v : V} (h : match p with | .non => v = .non | .bl b => v = .bl b | .int i => v = .int i | .str x => v = .str x | _ => False) : Rep g φ H p v := by
  cases p <;> simp only [Rep] <;> first | exact h | exact h.elim
end

/-! ### arithmetic -/
def oAdd (p q : PV) (s : Sto) : Option PV := match p, q with
  | .int i, .int j => some (.int (i + j))
  | .tup xs, .tup ys => if xs.length + ys.length ≤ 10000000 then some (.tup (xs ++ ys)) else none
  | .str a, .str b => if a.length + b.length ≤ 10000000 then some (.str (a ++ b)) else none
  | p, q => match lstW p s, lstW q s with
    | some xs, some ys => if xs.length + ys.length ≤ 10000000 then some (.tmp (xs ++ ys)) else none
    | _, _ => none
def rAddA (K : PySem.W.Frag) : R2 := fun x y H Q => (((rI0 (fun i j => .int (i + j)) x y H Q ∨ rCatA K x y H Q) ∨ rCat x y H Q) ∨ (∃ i j, x = .str i ∧ y = .str j ∧ i.length + j.length ≤ sizeLine ∧ Q (.str (i ++ j)) H))
theorem op_addA {X : Cx} : OpR X (binaryOp .Add) (rAddA X.K) := ((op_add.or op_catA).or op_cat).or op_add_str
theorem add_lists {g : G} {φ : Wm} {H : Hp} {s : Sto} {p q z : PV} {v u : V} {Q : VK} (S : Sim g φ H s) (R1 : Rep g φ H p v) (R2 : Rep g φ H q u)
    (e : (match lstW p s, lstW q s with | some xs, some ys => if xs.length + ys.length ≤ 10000000 then some (PV.tmp (xs ++ ys)) else none | _, _ => none) = some z)
    (k : ∀ φ' H' w, Le φ H φ' H' → Sim g φ' H' s → Rep g φ' H' z w → Q w H') : rAddA g.K v u H Q := by
  cases h1 : lstW p s with
  | none => rw [h1] at e; cases e
  | some xs =>
    cases h2 : lstW q s with
    | none => rw [h1, h2] at e; cases e
    | some ys =>
      simp only [h1, h2] at e
      split at e
      · rename_i hl
        cases e
        obtain ⟨a, vs, rfl, ha, Ra⟩ := lstW_at S R1 h1
        obtain ⟨b, us, rfl, hb, Rb⟩ := lstW_at S R2 h2
        refine .inl (.inr ⟨a, b, vs, us, rfl, rfl, ha, hb, ?_, fun p hp => k φ _ _ (S.lenew hp) (S.new hp) (new_tmp S hp (Ra.append Rb))⟩)
        rw [← Ra.length, ← Rb.length]; exact line7 hl
      · cases e
theorem o_add {g : G} : OpS g (rAddA g.K) oAdd := by
  intro φ H s p q z v u Q S R1 R2 e k
  unfold oAdd at e
  split at e
  · cases e
    obtain rfl := rep_int.mp R1
    obtain rfl := rep_int.mp R2
    exact .inl (.inl (.inl ⟨_, _, rfl, rfl, k φ H _ (Le.refl _ _) S (rep_int.mpr rfl)⟩))
  · rename_i xs ys
    split at e
    · rename_i hl
      cases e
      obtain ⟨a, vs, rfl, ta, ra⟩ := rep_tup R1
      obtain ⟨b, us, rfl, tb, rb⟩ := rep_tup R2
      refine .inl (.inl (.inr ⟨a, b, vs, us, rfl, rfl, ta.sq, tb.sq, by rw [← ra.length, ← rb.length]; exact line7 hl, fun h0 => ?_, fun h0 h1 => ?_, fun h0 h1 p hp => ?_⟩))
      · have : xs = [] := List.eq_nil_of_length_eq_zero (by rw [ra.length, h0]; rfl)
        subst this
        exact k φ H _ (Le.refl _ _) S (by simpa using R2)
      · have : ys = [] := List.eq_nil_of_length_eq_zero (by rw [rb.length, h1]; rfl)
        subst this
        exact k φ H _ (Le.refl _ _) S (by simpa using R1)
      · exact k φ _ _ (S.lenew hp) (S.new hp) (new_tup S hp (ra.append rb))
    · cases e
  · split at e
    · rename_i hl
      cases e
      obtain rfl := rep_str.mp R1
      obtain rfl := rep_str.mp R2
      exact .inr ⟨_, _, rfl, rfl, line7 hl, k φ H _ (Le.refl _ _) S (rep_str.mpr rfl)⟩
    · cases e
  · exact add_lists S R1 R2 e k
def oSub (p q : PV) (_ : Sto) : Option PV := match p, q with
  | .int i, .int j => some (.int (i - j))
  | _, _ => none
theorem o_sub {g : G} : OpS g (rI0 fun i j => .int (i - j)) oSub := by
  intro φ H s p q z v u Q S R1 R2 e k
  unfold oSub at e
  split at e
  · cases e
    obtain rfl := rep_int.mp R1
    obtain rfl := rep_int.mp R2
    exact ⟨_, _, rfl, rfl, k φ H _ (Le.refl _ _) S (rep_int.mpr rfl)⟩
  · cases e
/-- the factors' sizes that the model multiplies -/
def mulOk (i j : Int) : Bool := decide (i.natAbs < 2 ^ 64) || decide (j.natAbs < 2 ^ 64) || decide (i.natAbs.log2 + j.natAbs.log2 < 1000000)
def CMulZ (i j : Int) : Prop := mulOk i j = true
theorem op_mulZ {X : Cx} : OpR X (binaryOp .Mult) (rI CMulZ fun i j => .int (i * j)) := opI fun i j _ _ _ _ _ hc q => by
  have hc : mulOk i j = true := hc
  unfold mulOk at hc
  rw [Bool.or_eq_true, Bool.or_eq_true, decide_eq_true_iff, decide_eq_true_iff, decide_eq_true_iff] at hc
  rcases hc with (h | h) | h
  · exact mul_int q (.of_left (intBits_le_64 (by omega) (by omega)))
  · exact mul_int q (.of_right (intBits_le_64 (by omega) (by omega)))
  · exact mul_int q (CMulW.ok h)
def oMul (p q : PV) (s : Sto) : Option PV := match p, q with
  | .int i, .int j => if mulOk i j then some (.int (i * j)) else none
  | .tup xs, .int k => if xs ≠ [] ∧ 2 ≤ k ∧ k ≤ 1000 ∧ xs.length ≤ 1000 then some (.tup (List.replicate k.toNat xs).flatten) else if k = 1 then some (.tup xs) else none
  | p, .int k => match lstW p s with
    | some xs => if -(2 ^ 63) ≤ k ∧ k < 2 ^ 63 ∧ xs.length * k.toNat ≤ 10000000 then some (.tmp (List.replicate k.toNat xs).flatten) else none
    | none => none
  | _, _ => none
def rMulA (K : PySem.W.Frag) : R2 := fun x y H Q => (((rI CMulZ (fun i j => .int (i * j)) x y H Q ∨ rRepT K x y H Q) ∨ rRep x y H Q) ∨ PvE.rRep1 K x y H Q)
theorem op_mulA {X : Cx} : OpR X (binaryOp .Mult) (rMulA X.K) := ((op_mulZ.or op_repT).or op_rep).or PvE.op_rep1
theorem Reps.flat {g : G} {φ : Wm} {H : Hp} {xs : List PV} {vs : List V} (R : Reps g φ H xs vs) : ∀ n, Reps g φ H (List.replicate n xs).flatten (List.replicate n vs).flatten
  | 0 => by simpa using Reps.nil
  | n + 1 => by
    rw [List.replicate_succ, List.replicate_succ, List.flatten_cons, List.flatten_cons]
    exact R.append (Reps.flat R n)
theorem mul_list {g : G} {φ : Wm} {H : Hp} {s : Sto} {p z : PV} {k : Int} {v u : V} {Q : VK} (S : Sim g φ H s) (R1 : Rep g φ H p v) (R2 : Rep g φ H (.int k) u)
    (e : (match lstW p s with | some xs => if -(2 ^ 63) ≤ k ∧ k < 2 ^ 63 ∧ xs.length * k.toNat ≤ 10000000 then some (PV.tmp (List.replicate k.toNat xs).flatten) else none | none => none) = some z)
    (kk : ∀ φ' H' w, Le φ H φ' H' → Sim g φ' H' s → Rep g φ' H' z w → Q w H') : rMulA g.K v u H Q := by
  obtain rfl := rep_int.mp R2
  cases h1 : lstW p s with
  | none => rw [h1] at e; cases e
  | some xs =>
    simp only [h1] at e
    split at e
    · rename_i hl
      cases e
      obtain ⟨a, vs, rfl, ha, Ra⟩ := lstW_at S R1 h1
      refine .inl (.inr ⟨a, k, vs, rfl, rfl, ha, hl.1, hl.2.1, by rw [← Ra.length]; exact line7 hl.2.2, fun p hp => kk φ _ _ (S.lenew hp) (S.new hp) (new_tmp S hp (Ra.flat _))⟩)
    · cases e
theorem o_mul {g : G} : OpS g (rMulA g.K) oMul := by
  intro φ H s p q z v u Q S R1 R2 e k
  unfold oMul at e
  split at e
  · split at e
    · rename_i hm
      cases e
      obtain rfl := rep_int.mp R1
      obtain rfl := rep_int.mp R2
      exact .inl (.inl (.inl ⟨_, _, rfl, rfl, hm, k φ H _ (Le.refl _ _) S (rep_int.mpr rfl)⟩))
    · cases e
  · rename_i xs n
    split at e
    · rename_i hl
      cases e
      obtain ⟨a, vs, rfl, ta, ra⟩ := rep_tup R1
      obtain rfl := rep_int.mp R2
      refine .inl (.inl (.inr ⟨a, n, vs, rfl, rfl, ta.sq, fun z => hl.1 (List.eq_nil_of_length_eq_zero (by rw [ra.length, z]; rfl)), hl.2.1, hl.2.2.1, by rw [← ra.length]; exact hl.2.2.2, fun p hp => k φ _ _ (S.lenew hp) (S.new hp) (new_tup S hp (ra.flat _))⟩))
    · split at e
      · rename_i h1
        cases e
        obtain ⟨a, vs, rfl, ta, ra⟩ := rep_tup R1
        obtain rfl := rep_int.mp R2
        subst h1
        exact .inr ⟨a, vs, rfl, rfl, ta.sq, k φ H _ (Le.refl _ _) S R1⟩
      · cases e
  · exact mul_list S R1 R2 e k
  · cases e
def CDivZ (_ j : Int) : Prop := j ≠ 0 ∧ j.natAbs.log2 < 9000
theorem op_divZ {X : Cx} : OpR X (binaryOp .FloorDiv) (rI CDivZ fun i j => .int (i.fdiv j)) := opI fun _ _ _ _ _ _ _ hc q => floordiv_int hc.1 q (.inl (PyProof.noPylong_of_log2 hc.2))
def oDiv (p q : PV) (_ : Sto) : Option PV := match p, q with
  | .int i, .int j => if j ≠ 0 ∧ j.natAbs.log2 < 9000 then some (.int (i.fdiv j)) else none
  | _, _ => none
theorem o_div {g : G} : OpS g (rI CDivZ fun i j => .int (i.fdiv j)) oDiv := by
  intro φ H s p q z v u Q S R1 R2 e k
  unfold oDiv at e
  split at e
  · split at e
    · rename_i hm
      cases e
      obtain rfl := rep_int.mp R1
      obtain rfl := rep_int.mp R2
      exact ⟨_, _, rfl, rfl, hm, k φ H _ (Le.refl _ _) S (rep_int.mpr rfl)⟩
    · cases e
  · cases e
def oMod (p q : PV) (_ : Sto) : Option PV := match p, q with
  | .int i, .int j => if j ≠ 0 then some (.int (i.fmod j)) else none
  | _, _ => none
theorem o_mod {g : G} : OpS g (rI (fun _ j => j ≠ 0) fun i j => .int (i.fmod j)) oMod := by
  intro φ H s p q z v u Q S R1 R2 e k
  unfold oMod at e
  split at e
  · split at e
    · rename_i hm
      cases e
      obtain rfl := rep_int.mp R1
      obtain rfl := rep_int.mp R2
      exact ⟨_, _, rfl, rfl, hm, k φ H _ (Le.refl _ _) S (rep_int.mpr rfl)⟩
    · cases e
  · cases e
def CPowZ (i j : Int) : Prop := 0 ≤ j ∧ j ≤ 1000 ∧ i.natAbs.log2 < 100000
theorem op_powZ {X : Cx} : OpR X (binaryOp .Pow) (rI CPowZ fun i j => .int (i ^ j.toNat)) := opI fun i j _ _ _ _ _ hc q => by
  obtain ⟨h1, h2, h3⟩ := hc
  refine pow_int h1 ?_ q
  have b : Builtin.Int.intBits i ≤ 100000 := by
    unfold Builtin.Int.intBits
    split <;> omega
  have : (Builtin.Int.intBits i : Int) * j ≤ 100000 * 1000 := Int.mul_le_mul (by omega) h2 h1 (by omega)
  omega
def oPow (p q : PV) (_ : Sto) : Option PV := match p, q with
  | .int i, .int j => if 0 ≤ j ∧ j ≤ 1000 ∧ i.natAbs.log2 < 100000 then some (.int (i ^ j.toNat)) else none
  | _, _ => none
theorem o_pow {g : G} : OpS g (rI CPowZ fun i j => .int (i ^ j.toNat)) oPow := by
  intro φ H s p q z v u Q S R1 R2 e k
  unfold oPow at e
  split at e
  · split at e
    · rename_i hm
      cases e
      obtain rfl := rep_int.mp R1
      obtain rfl := rep_int.mp R2
      exact ⟨_, _, rfl, rfl, hm, k φ H _ (Le.refl _ _) S (rep_int.mpr rfl)⟩
    · cases e
  · cases e
def oNeg (p : PV) (_ : Sto) : Option PV := match p with
  | .int i => some (.int (-i))
  | _ => none
theorem o_neg {g : G} : UnS g (rU fun i => .int (-i)) oNeg := by
  intro φ H s p z v Q S R1 e k
  unfold oNeg at e
  split at e
  · cases e
    obtain rfl := rep_int.mp R1
    exact ⟨_, rfl, k φ H _ (Le.refl _ _) S (rep_int.mpr rfl)⟩
  · cases e

/-! ### comparisons of ints -/
def oCmpI (f : Int → Int → Bool) (p q : PV) (_ : Sto) : Option PV := match p, q with
  | .int i, .int j => some (.bl (f i j))
  | _, _ => none
theorem o_cmpI {g : G} (f : Int → Int → Bool) : OpS g (rI0 fun i j => .bl (f i j)) (oCmpI f) := by
  intro φ H s p q z v u Q S R1 R2 e k
  unfold oCmpI at e
  split at e
  · cases e
    obtain rfl := rep_int.mp R1
    obtain rfl := rep_int.mp R2
    exact ⟨_, _, rfl, rfl, k φ H _ (Le.refl _ _) S (rep_bl.mpr rfl)⟩
  · cases e
abbrev oLt := oCmpI fun i j => decide (i < j)
abbrev oLe := oCmpI fun i j => decide (i ≤ j)
abbrev oGt := oCmpI fun i j => decide (j < i)
abbrev oGe := oCmpI fun i j => decide (j ≤ i)
/-- a op b op' c -/
def fChain (o o' : PV → PV → Sto → Option PV) (fa fb fc : EF) : EF := fun ρ s => (fa ρ s).bind fun p s1 => (fb ρ s1).bind fun q s2 => match o p q s2 with
  | some (.bl true) => (fc ρ s2).bind fun r s3 => lift1 (o' q r s3) s3
  | some (.bl false) => .ok (.bl false) s2
  | _ => .stk
section
variable {g : G} {W : WX} {X : Cx} {a b c : Expr} {pos : Pos} {fa fb fc : EF}
theorem tChain_of {r r' : R2} {o o' : PV → PV → Sto → Option PV} (hs : OpS g r o) (hs' : OpS g r' o') : ∀ σ H Q, rE g W (fChain o o' fa fb fc) σ H Q → tChain r r' (rE g W fa) (rE g W fb) (rE g W fc) σ H Q := by
  rintro σ H Q ⟨φ, ρ, s, S, E, h⟩
  refine seqEE S E h fun φ1 H1 s1 p v e1 S1 R1 h1 => ?_
  refine seqEE S1 (E.mono e1) h1 fun φ2 H2 s2 q u e2 S2 R2 h2 => ?_
  cases z : o p q s2 with
  | none => simp only [z] at h2; exact h2.elim
  | some w =>
    refine hs φ2 H2 s2 p q w v u _ S2 (R1.mono e2) R2 z fun φ3 H3 x e3 S3 R3 => ?_
    cases w with
    | bl k =>
      obtain rfl := rep_bl.mp R3
      refine ⟨k, rfl, ?_⟩
      cases k with
      | false =>
        simp only [z] at h2
        rw [if_neg Bool.false_ne_true]
        exact h2 φ3 H3 _ e3 S3 (rep_bl.mpr rfl)
      | true =>
        simp only [z] at h2
        rw [if_pos rfl]
        refine seqEE S3 (((E.mono e1).mono e2).mono e3) (OutE.le e3 h2) fun φ4 H4 s4 t w4 e4 S4 R4 h4 => ?_
        cases y : o' q t s4 with
        | none => simp only [y] at h4; exact h4.elim
        | some w5 => simp only [y] at h4; exact hs' φ4 H4 s4 q t w5 u w4 Q S4 ((R2.mono e3).mono e4) R4 y fun φ' H' x e' S' R' => h4 φ' H' x e' S' R'
    | _ => simp only [z] at h2; exact h2.elim
theorem x_chain {op op' : CmpOp} {r r' : R2} {o o' : PV → PV → Sto → Option PV} (ho : OpR X (compareOp op) r) (ho' : OpR X (compareOp op') r') (hs : OpS g r o) (hs' : OpS g r' o') (ha : PE X a (rE g W fa)) (hb : PE X b (rE g W fb)) (hc : PE X c (rE g W fc))
    (hm : lastMarks [op, op'] [b, c] = false := by with_unfolding_all rfl) : PE X (.Compare a [op, op'] [b, c] pos) (rE g W (fChain o o' fa fb fc)) := pe_of (pe_chain ho ho' ha hb hc hm) (tChain_of hs hs')
theorem y_chain {op op' : CmpOp} {r r' : R2} {o o' : PV → PV → Sto → Option PV} (ho : OpR X (compareOp op) r) (ho' : OpR X (compareOp op') r') (hs : OpS g r o) (hs' : OpS g r' o') (ha : PE X a (rE g W fa)) (hb : PE X b (rE g W fb)) (hc : PE X c (rE g W fc))
    (hm : lastMarks [op, op'] [b, c] = false := by with_unfolding_all rfl) : PT X (.Compare a [op, op'] [b, c] pos) (rT g W (fB (fChain o o' fa fb fc))) := pt_of (pt_chain ho ho' ha hb hc hm) fun σ H Q h => tChain_of hs hs' σ H _ (tTest_of σ H Q h)
end

/-! ### is None -/
def isNonP : PV → Bool
  | .non => true
  | _ => false
def oIsN (p q : PV) (_ : Sto) : Option PV := if isNonP q then some (.bl (isNonP p)) else none
def oNotN (p q : PV) (_ : Sto) : Option PV := if isNonP q then some (.bl (!isNonP p)) else none
theorem rep_is_non {g : G} {φ : Wm} {H : Hp} {p : PV} {v : V} (R : Rep g φ H p v) : decide (v = .non) = isNonP p := by
  cases p with
  | non => obtain rfl := rep_non.mp R; rfl
  | bl b => simp only [Rep] at R; subst R; rfl
  | int b => simp only [Rep] at R; subst R; rfl
  | str b => simp only [Rep] at R; subst R; rfl
  | ty b => simp only [Rep] at R; subst R; rfl
  | cls b => simp only [Rep] at R; subst R; rfl
  | tup b => simp only [Rep] at R; obtain ⟨_, _, rfl, _⟩ := R; rfl
  | tmp b => simp only [Rep] at R; obtain ⟨_, _, rfl, _⟩ := R; rfl
  | kl b => simp only [Rep] at R; obtain ⟨_, _, rfl, _⟩ := R; rfl
  | loc b => simp only [Rep] at R; obtain ⟨_, rfl, _⟩ := R; rfl
  | exc c b => simp only [Rep] at R; obtain ⟨_, _, _, rfl, _⟩ := R; rfl
  | clo c b => simp only [Rep] at R; obtain ⟨_, _, _, ⟨rfl, _⟩, _⟩ := R; rfl
theorem rep_isNonP {g : G} {φ : Wm} {H : Hp} {p : PV} {v : V} (R : Rep g φ H p v) (h : isNonP p = true) : v = .non := by
  have := rep_is_non R
  rw [h] at this
  exact of_decide_eq_true this
theorem o_isN {g : G} : OpS g (fun x y H Q => y = .non ∧ Q (.bl (decide (x = .non))) H) oIsN := by
  intro φ H s p q z v u Q S R1 R2 e k
  unfold oIsN at e
  split at e
  · rename_i h
    cases e
    refine ⟨rep_isNonP R2 h, ?_⟩
    rw [rep_is_non R1]
    exact k φ H _ (Le.refl _ _) S (rep_bl.mpr rfl)
  · cases e
theorem o_notN {g : G} : OpS g (fun x y H Q => y = .non ∧ Q (.bl (!decide (x = .non))) H) oNotN := by
  intro φ H s p q z v u Q S R1 R2 e k
  unfold oNotN at e
  split at e
  · rename_i h
    cases e
    refine ⟨rep_isNonP R2 h, ?_⟩
    rw [rep_is_non R1]
    exact k φ H _ (Le.refl _ _) S (rep_bl.mpr rfl)
  · cases e

/-! ### == of data -/
mutual
def toD : PV → Option PyData
  | .non => some .none
  | .bl b => some (.bool b)
  | .int i => some (.int i)
  | .str x => some (.str x)
  | .tup xs => (toDs xs).map .tuple
  | .tmp xs => (toDs xs).map .list
  | .kl xs => (toDs xs).map .list
  | _ => none
def toDs : List PV → Option (List PyData)
  | [] => some []
  | x :: xs => match toD x, toDs xs with
    | some d, some ds => some (d :: ds)
    | _, _ => none
end
/-- a list as it stands, for what only reads -/
def rd (s : Sto) (p : PV) : PV := match p with
  | .loc l => match s.objs[l]? with
    | some (.lst xs) => .tmp xs
    | some (.flst xs) => .tmp xs
    | _ => p
  | p => p
section
variable {g : G} {φ : Wm} {H : Hp} {s : Sto}
mutual
theorem dp_of : ∀ {p : PV} {v : V} {d : PyData}, Rep g φ H p v → toD p = some d → Dp g.K H v d
  | .non, v, d, R, e => by simp only [toD, Option.some.injEq] at e; subst e; obtain rfl := rep_non.mp R; exact .non
  | .bl b, v, d, R, e => by simp only [toD, Option.some.injEq] at e; subst e; obtain rfl := rep_bl.mp R; exact .bl b
  | .int i, v, d, R, e => by simp only [toD, Option.some.injEq] at e; subst e; obtain rfl := rep_int.mp R; exact .int i
  | .str x, v, d, R, e => by simp only [toD, Option.some.injEq] at e; subst e; obtain rfl := rep_str.mp R; exact .str x
  | .tup xs, v, d, R, e => by
    simp only [toD, Option.map_eq_some_iff] at e
    obtain ⟨ds, e, rfl⟩ := e
    obtain ⟨a, vs, rfl, t, r⟩ := rep_tup R
    exact .tup t.sq (dps_of r e)
  | .tmp xs, v, d, R, e => by
    simp only [toD, Option.map_eq_some_iff] at e
    obtain ⟨ds, e, rfl⟩ := e
    simp only [Rep] at R
    obtain ⟨a, vs, rfl, t, _, _, r⟩ := R
    exact .lst (.of t) (dps_of r e)
  | .kl xs, v, d, R, e => by
    simp only [toD, Option.map_eq_some_iff] at e
    obtain ⟨ds, e, rfl⟩ := e
    simp only [Rep] at R
    obtain ⟨a, vs, rfl, t, r⟩ := R
    exact .lst t.sq (dps_of r e)
  | .loc l, v, d, R, e => by simp [toD] at e
  | .ty n, v, d, R, e => by simp [toD] at e
  | .cls n, v, d, R, e => by simp [toD] at e
  | .exc c n, v, d, R, e => by simp [toD] at e
  | .clo c n, v, d, R, e => by simp [toD] at e
theorem dps_of : ∀ {xs : List PV} {vs : List V} {ds : List PyData}, Reps g φ H xs vs → toDs xs = some ds → DpAll g.K H vs ds
  | [], vs, ds, R, e => by
    simp only [Reps] at R; subst R
    simp only [toDs, Option.some.injEq] at e; subst e
    exact .nil
  | x :: xs, vs, ds, R, e => by
    simp only [Reps] at R
    obtain ⟨v, r, rfl, h2, h3⟩ := R
    unfold toDs at e
    cases e1 : toD x with
    | none => rw [e1] at e; simp at e
    | some d =>
      cases e2 : toDs xs with
      | none => rw [e1, e2] at e; simp at e
      | some ds' =>
        rw [e1, e2] at e
        simp only [Option.some.injEq] at e
        subst e
        exact .cons (dp_of h2 e1) (dps_of h3 e2)
end
theorem dp_rd {p : PV} {v : V} {d : PyData} (S : Sim g φ H s) (R : Rep g φ H p v) (e : toD (rd s p) = some d) : Dp g.K H v d := by
  cases p with
  | loc l =>
    simp only [Rep] at R
    obtain ⟨a, rfl, hl⟩ := R
    obtain ⟨o, ho, r⟩ := S.there hl
    simp only [rd, ho] at e
    cases o with
    | lst xs =>
      simp only [toD, Option.map_eq_some_iff] at e
      obtain ⟨ds, e, rfl⟩ := e
      obtain ⟨vs, h1, h2⟩ := r
      exact .lst (.of h1) (dps_of h2 e)
    | flst xs =>
      simp only [toD, Option.map_eq_some_iff] at e
      obtain ⟨ds, e, rfl⟩ := e
      obtain ⟨o, vs, h1, h2⟩ := r
      exact .lst (.inl (.inr ⟨o, h1⟩)) (dps_of h2 e)
  | _ => exact dp_of R e
end
def oEqD (p q : PV) (s : Sto) : Option PV := match toD (rd s p), toD (rd s q) with
  | some d, some e => if SeqAt.shaped d && SeqAt.shaped e then some (.bl (PyData.eqv d e)) else none
  | _, _ => none
def oNeD (p q : PV) (s : Sto) : Option PV := match toD (rd s p), toD (rd s q) with
  | some d, some e => if SeqAt.shaped d && SeqAt.shaped e then some (.bl (!PyData.eqv d e)) else none
  | _, _ => none
/-- ==: of strings any, else of what may be laid -/
def oEq (p q : PV) (s : Sto) : Option PV := match p, q with
  | .str a, .str b => some (.bl (a == b))
  | p, q => oEqD p q s
def oNe (p q : PV) (s : Sto) : Option PV := match p, q with
  | .str a, .str b => some (.bl (!(a == b)))
  | p, q => oNeD p q s
def rEqB (K : PySem.W.Frag) : R2 := fun x y H Q => rEq x y H Q ∨ rEqD K x y H Q
def rNeB (K : PySem.W.Frag) : R2 := fun x y H Q => rNe x y H Q ∨ rNeD K x y H Q
theorem op_eqB {X : Cx} (hu : X.A.units + 64 < cLine) : OpR X (compareOp .Eq) (rEqB X.K) := op_eq.or (op_eqD hu)
theorem op_neB {X : Cx} (hu : X.A.units + 64 < cLine) : OpR X (compareOp .NotEq) (rNeB X.K) := op_ne.or (op_neD hu)
theorem dec_strP {i j : Str} : decide (V.str i = V.str j) = (i == j) := by
  rw [Bool.eq_iff_iff]
  simp
theorem o_eqD {g : G} : OpS g (rEqD g.K) oEqD := by
  intro φ H s p q z v u Q S R1 R2 e k
  unfold oEqD at e
  cases e1 : toD (rd s p) with
  | none => simp [e1] at e
  | some d =>
    cases e2 : toD (rd s q) with
    | none => simp [e1, e2] at e
    | some d2 =>
      simp only [e1, e2] at e
      split at e
      · rename_i h
        cases e
        rw [Bool.and_eq_true] at h
        exact ⟨d, d2, dp_rd S R1 e1, dp_rd S R2 e2, h.1, h.2, k φ H _ (Le.refl _ _) S (rep_bl.mpr rfl)⟩
      · cases e
theorem o_neD {g : G} : OpS g (rNeD g.K) oNeD := by
  intro φ H s p q z v u Q S R1 R2 e k
  unfold oNeD at e
  cases e1 : toD (rd s p) with
  | none => simp [e1] at e
  | some d =>
    cases e2 : toD (rd s q) with
    | none => simp [e1, e2] at e
    | some d2 =>
      simp only [e1, e2] at e
      split at e
      · rename_i h
        cases e
        rw [Bool.and_eq_true] at h
        exact ⟨d, d2, dp_rd S R1 e1, dp_rd S R2 e2, h.1, h.2, k φ H _ (Le.refl _ _) S (rep_bl.mpr rfl)⟩
      · cases e
theorem o_eq {g : G} : OpS g (rEqB g.K) oEq := by
  intro φ H s p q z v u Q S R1 R2 e k
  unfold oEq at e
  split at e
  · cases e
    obtain rfl := rep_str.mp R1
    obtain rfl := rep_str.mp R2
    exact .inl ⟨rfl, by rw [dec_strP]; exact k φ H _ (Le.refl _ _) S (rep_bl.mpr rfl)⟩
  · exact .inr (o_eqD φ H s p q z v u Q S R1 R2 e k)
theorem o_ne {g : G} : OpS g (rNeB g.K) oNe := by
  intro φ H s p q z v u Q S R1 R2 e k
  unfold oNe at e
  split at e
  · cases e
    obtain rfl := rep_str.mp R1
    obtain rfl := rep_str.mp R2
    exact .inl ⟨rfl, by rw [dec_strP]; exact k φ H _ (Le.refl _ _) S (rep_bl.mpr rfl)⟩
  · exact .inr (o_neD φ H s p q z v u Q S R1 R2 e k)

/-! ### subscripts, slices -/
def seqOf (p : PV) (s : Sto) : Option (List PV) := match p with
  | .tup xs => some xs
  | p => liveL p s
theorem seqOf_at {g : G} {φ : Wm} {H : Hp} {s : Sto} {p : PV} {v : V} {xs : List PV} (S : Sim g φ H s) (R : Rep g φ H p v) (h : seqOf p s = some xs) : ∃ a vs, v = .ref a ∧ (SqL g.K H a vs ∨ SqT g.K H a vs) ∧ Reps g φ H xs vs := by
  by_cases hp : ∃ ys, p = .tup ys
  · obtain ⟨ys, rfl⟩ := hp
    simp only [seqOf, Option.some.injEq] at h; subst h
    obtain ⟨a, vs, rfl, t, r⟩ := rep_tup R
    exact ⟨a, vs, rfl, .inr t.sq, r⟩
  · have : liveL p s = some xs := by cases p <;> first | exact h | exact absurd ⟨_, rfl⟩ hp
    obtain ⟨a, vs, e, sq, r⟩ := liveL_at S R this
    exact ⟨a, vs, e, .inl sq, r⟩
def ixP (xs : List PV) (i : Int) : Option PV := (ixN xs.length i).bind fun j => xs[j]?
def oIx (p q : PV) (s : Sto) : Option PV := match q with
  | .int i => (seqOf p s).bind fun xs => ixP xs i
  | _ => none
theorem ixP_at {g : G} {φ : Wm} {H : Hp} {xs : List PV} {vs : List V} {i : Int} {z : PV} (R : Reps g φ H xs vs) (h : ixP xs i = some z) : ∃ w, atI vs i = some w ∧ Rep g φ H z w := by
  unfold ixP at h
  rw [Option.bind_eq_some_iff] at h
  obtain ⟨j, h1, h2⟩ := h
  obtain ⟨w, a, b⟩ := R.get h2
  exact ⟨w, by unfold atI; rw [← R.length, h1]; exact a, b⟩
theorem o_ix {g : G} : OpS g (fun x y H Q => rIxL g.K x y H Q ∨ rIxT g.K x y H Q) oIx := by
  intro φ H s p q z v u Q S R1 R2 e k
  unfold oIx at e
  split at e
  · rename_i i
    obtain rfl := rep_int.mp R2
    rw [Option.bind_eq_some_iff] at e
    obtain ⟨xs, e1, e2⟩ := e
    obtain ⟨a, vs, rfl, sq, r⟩ := seqOf_at S R1 e1
    obtain ⟨w, b, c⟩ := ixP_at r e2
    rcases sq with sq | sq
    · exact .inl ⟨a, vs, i, w, rfl, rfl, sq, b, k φ H _ (Le.refl _ _) S c⟩
    · exact .inr ⟨a, vs, i, w, rfl, rfl, sq, b, k φ H _ (Le.refl _ _) S c⟩
  · cases e
theorem ix_A {X : Cx} : IxR X (fun x y H Q => rIxL X.K x y H Q ∨ rIxT X.K x y H Q) := ix_list.or ix_tup
end Pv

/-! Pv7: slices, items set, append, built-in functions, repr, in. -/
namespace Pv
open PySem PySem.Spec PyProof.Rows L2

/-! ### slices -/
def cutP (xs : List PV) (lo hi : Option Int) : List PV := (xs.drop (HT.sIx xs.length 0 lo)).take (HT.sIx xs.length xs.length hi - HT.sIx xs.length 0 lo)
/-- a[lo:hi] -/
def oSl (p : PV) (lo hi : Option Int) (s : Sto) : Option PV := match p with
  | .tup xs => some (.tup (cutP xs lo hi))
  | p => (liveL p s).map fun xs => .tmp (cutP xs lo hi)
def fSlB (fe fl fh : EF) : EF := fun ρ s => (fe ρ s).bind fun p s1 => (fl ρ s1).bind fun l s2 => match l with
  | .int i => (fh ρ s2).bind fun h s3 => match h with
    | .int j => lift1 (oSl p (some i) (some j) s3) s3
    | _ => .stk
  | _ => .stk
def fSlL (fe fl : EF) : EF := fun ρ s => (fe ρ s).bind fun p s1 => (fl ρ s1).bind fun l s2 => match l with
  | .int i => lift1 (oSl p (some i) none s2) s2
  | _ => .stk
def fSlH (fe fh : EF) : EF := fun ρ s => (fe ρ s).bind fun p s1 => (fh ρ s1).bind fun l s2 => match l with
  | .int i => lift1 (oSl p none (some i) s2) s2
  | _ => .stk
def fSlN (fe : EF) : EF := fun ρ s => (fe ρ s).bind fun p s1 => lift1 (oSl p none none s1) s1
theorem cut_full {xs : List PV} {lo hi : Option Int} (h : HT.sIx xs.length 0 lo = 0 ∧ HT.sIx xs.length xs.length hi = xs.length) : cutP xs lo hi = xs := by
  unfold cutP
  rw [h.1, h.2, List.drop_zero, Nat.sub_zero, List.take_length]
section
variable {g : G} {W : WX} {X : Cx} {e : Expr} {lo hi : Option Expr} {fe fl fh : EF} {pos p2 : Pos}
theorem Reps.cut {φ : Wm} {H : Hp} {xs : List PV} {vs : List V} (R : Reps g φ H xs vs) (lo hi : Option Int) : Reps g φ H (cutP xs lo hi) (cutV vs lo hi) := by
  unfold cutP cutV
  rw [R.length]
  exact (R.drop _).take _
theorem sl_rep {φ : Wm} {H : Hp} {s : Sto} {p z : PV} {v : V} {lo hi : Option Int} {Q : VK} (S : Sim g φ H s) (R : Rep g φ H p v) (e : oSl p lo hi s = some z)
    (k : ∀ φ' H' w, Le φ H φ' H' → Sim g φ' H' s → Rep g φ' H' z w → Q w H') : rSlL g.K v lo hi H Q ∨ rSlA g.K v lo hi H Q := by
  by_cases hp : ∃ ys, p = .tup ys
  · obtain ⟨xs, rfl⟩ := hp
    simp only [oSl, Option.some.injEq] at e; subst e
    obtain ⟨a, vs, rfl, t, r⟩ := rep_tup R
    refine .inr ⟨a, vs, rfl, t.sq, fun hw => ?_, fun hw p hp => ?_⟩
    · rw [← r.length] at hw
      exact k φ H _ (Le.refl _ _) S (by rw [cut_full hw]; exact R)
    · exact k φ _ _ (S.lenew hp) (S.new hp) (new_tup S hp (r.cut lo hi))
  · have e' : (liveL p s).map (fun xs => PV.tmp (cutP xs lo hi)) = some z := by cases p <;> first | exact e | exact absurd ⟨_, rfl⟩ hp
    rw [Option.map_eq_some_iff] at e'
    obtain ⟨xs, e1, rfl⟩ := e'
    obtain ⟨a, vs, rfl, sq, r⟩ := liveL_at S R e1
    exact .inl ⟨a, vs, rfl, sq, fun p hp => k φ _ _ (S.lenew hp) (S.new hp) (new_tmp S hp (r.cut lo hi))⟩
end
section
variable {g : G} {W : WX} {X : Cx} {e l h : Expr} {fe fl fh : EF} {pos p2 : Pos}
theorem x_slB (hK : X.K = g.K) (he : PE X e (rE g W fe)) (hl : PE X l (rE g W fl)) (hh : PE X h (rE g W fh)) : PE X (.Subscript e (.Slice (some l) (some h) none p2) pos) (rE g W (fSlB fe fl fh)) := by
  refine pe_of (pe_slice (sl_list.or sl_tupA) he (po_some hl) (po_some hh)) ?_
  rintro σ H Q ⟨φ, ρ, s, S, E, q⟩
  refine seqEE S E q fun φ1 H1 s1 p v e1 S1 R1 q1 => ?_
  refine seqEE S1 (E.mono e1) q1 fun φ2 H2 s2 l u e2 S2 R2 q2 => ?_
  cases l with
  | int i =>
    refine ⟨i, rep_int.mp R2, ?_⟩
    refine seqEE S2 ((E.mono e1).mono e2) q2 fun φ3 H3 s3 h w e3 S3 R3 q3 => ?_
    cases h with
    | int j =>
      refine ⟨j, rep_int.mp R3, ?_⟩
      cases z : oSl p (some i) (some j) s3 with
      | none => simp only [z] at q3; exact q3.elim
      | some r =>
        simp only [z] at q3
        rw [hK]
        exact sl_rep S3 ((R1.mono e2).mono e3) z fun φ' H' x e' S' R' => q3 φ' H' x e' S' R'
    | _ => exact q3.elim
  | _ => exact q2.elim
theorem x_slL (hK : X.K = g.K) (he : PE X e (rE g W fe)) (hl : PE X l (rE g W fl)) : PE X (.Subscript e (.Slice (some l) none none p2) pos) (rE g W (fSlL fe fl)) := by
  refine pe_of (pe_slice (sl_list.or sl_tupA) he (po_some hl) po_none) ?_
  rintro σ H Q ⟨φ, ρ, s, S, E, q⟩
  refine seqEE S E q fun φ1 H1 s1 p v e1 S1 R1 q1 => ?_
  refine seqEE S1 (E.mono e1) q1 fun φ2 H2 s2 l u e2 S2 R2 q2 => ?_
  cases l with
  | int i =>
    refine ⟨i, rep_int.mp R2, ?_⟩
    cases z : oSl p (some i) none s2 with
    | none => simp only [z] at q2; exact q2.elim
    | some r =>
      simp only [z] at q2
      show rSlL X.K v (some i) none H2 Q ∨ rSlA X.K v (some i) none H2 Q
      rw [hK]
      exact sl_rep S2 (R1.mono e2) z fun φ' H' x e' S' R' => q2 φ' H' x e' S' R'
  | _ => exact q2.elim
theorem x_slH (hK : X.K = g.K) (he : PE X e (rE g W fe)) (hl : PE X l (rE g W fl)) : PE X (.Subscript e (.Slice none (some l) none p2) pos) (rE g W (fSlH fe fl)) := by
  refine pe_of (pe_slice (sl_list.or sl_tupA) he po_none (po_some hl)) ?_
  rintro σ H Q ⟨φ, ρ, s, S, E, q⟩
  refine seqEE S E q fun φ1 H1 s1 p v e1 S1 R1 q1 => ?_
  show rE g W fl σ H1 _
  refine seqEE S1 (E.mono e1) q1 fun φ2 H2 s2 l u e2 S2 R2 q2 => ?_
  cases l with
  | int i =>
    refine ⟨i, rep_int.mp R2, ?_⟩
    cases z : oSl p none (some i) s2 with
    | none => simp only [z] at q2; exact q2.elim
    | some r =>
      simp only [z] at q2
      rw [hK]
      exact sl_rep S2 (R1.mono e2) z fun φ' H' x e' S' R' => q2 φ' H' x e' S' R'
  | _ => exact q2.elim
theorem x_slN (hK : X.K = g.K) (he : PE X e (rE g W fe)) : PE X (.Subscript e (.Slice none none none p2) pos) (rE g W (fSlN fe)) := by
  refine pe_of (pe_slice (sl_list.or sl_tupA) he po_none po_none) ?_
  rintro σ H Q ⟨φ, ρ, s, S, E, q⟩
  refine seqEE S E q fun φ1 H1 s1 p v e1 S1 R1 q1 => ?_
  cases z : oSl p none none s1 with
  | none => simp only [z] at q1; exact q1.elim
  | some r =>
    simp only [z] at q1
    show rSlL X.K v none none H1 Q ∨ rSlA X.K v none none H1 Q
    rw [hK]
    exact sl_rep S1 R1 z fun φ' H' x e' S' R' => q1 φ' H' x e' S' R'
end

/-! ### o[i] = v, o.append(v) -/
/-- the list at a place of the store is written -/
def wrL (p : PV) (f : List PV → Option (List PV)) (s : Sto) : Option Sto := match p with
  | .loc l => match s.objs[l]? with
    | some (.lst xs) => (f xs).map fun ys => s.set l (.lst ys)
    | _ => none
  | _ => none
def setP (i : Int) (q : PV) (xs : List PV) : Option (List PV) := (ixN xs.length i).map fun j => xs.set j q
def gfSub (fo fi : EF) : GF := fun q ρ s => match fo ρ s with
  | .ok p s1 => match fi ρ s1 with
    | .ok (.int i) s2 => (wrL p (setP i q) s2).map fun s3 => (ρ, s3)
    | _ => none
  | _ => none
def pushP (q : PV) (xs : List PV) : Option (List PV) := if xs.length < 10000000 then some (xs ++ [q]) else none
def fAppend (fo fe : EF) : EF := fun ρ s => (fo ρ s).bind fun p s1 => match p with
  | .loc l => (fe ρ s1).bind fun q s2 => match wrL (.loc l) (pushP q) s2 with
    | some s3 => .ok .non s3
    | none => .stk
  | _ => .stk
section
variable {g : G} {φ : Wm} {H : Hp} {s s' : Sto}
theorem wrL_at {p : PV} {v : V} {f : List PV → Option (List PV)} (S : Sim g φ H s) (R : Rep g φ H p v) (h : wrL p f s = some s') :
    ∃ a vs xs ys, v = .ref a ∧ H a = some (.lst vs) ∧ Reps g φ H xs vs ∧ f xs = some ys ∧ ∀ us, Reps g φ H ys us → Le φ H φ (upd H a (.lst us)) ∧ Sim g φ (upd H a (.lst us)) s' := by
  cases p with
  | loc l =>
    simp only [Rep] at R
    obtain ⟨a, rfl, hl⟩ := R
    obtain ⟨o, ho, r⟩ := S.there hl
    simp only [wrL, ho] at h
    cases o with
    | lst xs =>
      simp only [Option.map_eq_some_iff] at h
      obtain ⟨ys, h1, rfl⟩ := h
      obtain ⟨vs, r1, r2⟩ := r
      exact ⟨a, vs, xs, ys, rfl, r1, r2, h1, fun us R' => ⟨Le.write (List.mem_of_getElem? hl), S.write hl R'⟩⟩
    | flst xs => simp at h
  | _ => simp [wrL] at h
end
section
variable {g : G} {W : WX} {X : Cx} {o i e : Expr} {fo fi fe : EF} {pos apos cpos : Pos}
theorem g_sub (ho : PE X o (rE g W fo)) (hi : PE X i (rE g W fi))
    (ha : ∀ v, assign (.Subscript o i pos) X.env v = (do
      let ov ← holding [v] (eval o X.env)
      let iv ← holding [v, ov] (eval i X.env)
      standAt pos
      holding [v, ov, iv] (setItem ov iv v)
      release [v, ov, iv] []) := by intro _; rfl) : PG X (.Subscript o i pos) (rG g (gfSub fo fi)) := by
  refine pg_of (pg_sub ho hi set_list ha) ?_
  rintro v σ H Q ⟨φ, ρ, s, p0, S, E, R, q⟩
  unfold gfSub at q
  cases z : fo ρ s with
  | ok p s1 =>
    simp only [z] at q
    refine ⟨φ, ρ, s, S, E, ?_⟩
    rw [z]
    intro φ1 H1 x e1 S1 R1
    cases z2 : fi ρ s1 with
    | ok w s2 =>
      cases w with
      | int k =>
        simp only [z2] at q
        refine ⟨φ1, ρ, s1, S1, E.mono e1, ?_⟩
        rw [z2]
        intro φ2 H2 y e2 S2 R2
        obtain rfl := rep_int.mp R2
        cases z3 : wrL p (setP k p0) s2 with
        | none => simp only [z3] at q; exact q.elim
        | some s3 =>
          simp only [z3] at q
          obtain ⟨a, vs, xs, ys, rfl, ha, R3, h3, h4⟩ := wrL_at S2 (R1.mono e2) z3
          unfold setP at h3
          rw [Option.map_eq_some_iff] at h3
          obtain ⟨j, h5, rfl⟩ := h3
          have R0 := (R.mono e1).mono e2
          obtain ⟨l1, S3⟩ := h4 _ (R3.set j R0)
          exact ⟨a, vs, k, j, rfl, rfl, ha, by rw [← R3.length]; exact h5, q φ2 _ σ ((e1.trans e2).trans l1) S3 (((E.mono e1).mono e2).mono l1)⟩
      | _ => simp only [z2] at q; exact q.elim
    | exc c x s2 => simp only [z2] at q; exact q.elim
    | stk => simp only [z2] at q; exact q.elim
  | exc c x s1 => simp only [z] at q; exact q.elim
  | stk => simp only [z] at q; exact q.elim
theorem mtA {X : Cx} : MtR X "list.append" rAppend := fun pins s σ H x xs v us Q I rx rv h => mt_append pins s σ H x xs v us Q I rx rv h
end
end Pv

/-! Pv8: append, built-in functions, repr, in. -/
namespace Pv
open PySem PySem.Spec PyProof.Rows L2

section
variable {g : G} {W : WX} {X : Cx} {o e : Expr} {fo fe : EF} {apos cpos : Pos}
theorem x_append (hK : X.K = g.K) (ho : PE X o (rE g W fo)) (he : PE X e (rE g W fe))
    (hse : starEach [e] X.env = (false, eval e X.env) :: starEach [] X.env := by rfl)
    (hbase : attributeBase o "append" X.env (eval o X.env) = eval o X.env := by rfl)
    (hfew : ((backTo cpos (starEach [e] X.env)).all (fun x => !x.1) && (backToKw cpos (keywordEach [] X.env)).all (fun x => x.1.isSome)
      && decide ([e].length + ([] : List Keyword).length + (if ([] : List Keyword).isEmpty then 0 else 1) < 30)) = true := by rfl)
    (hline : (apos.endLine == cpos.line) = true := by rfl) (hplain : (backTo cpos (starEach [] X.env)).any (·.1) = false := by rfl) :
    PE X (.Call (.Attribute o "append" apos) [e] [] cpos) (rE g W (fAppend fo fe)) := by
  refine pe_of (pe_bm PySem.F.plainAttrs_list PySem.F.slot_list_append PySem.F.type_list_append mt_append ho (pa_cons he pa_nil hse) hbase hfew hline hse hplain) ?_
  rintro σ H Q ⟨φ, ρ, s, S, E, q⟩
  refine seqEE S E q fun φ1 H1 s1 p v e1 S1 R1 q1 => ?_
  cases p with
  | loc l =>
    have R1' := R1
    simp only [Rep] at R1'
    obtain ⟨a, rfl, hl⟩ := R1'
    have ty : tyV X.K "list" (.ref a) H1 := by
      obtain ⟨ob, _, r⟩ := S1.there hl
      refine .inl ⟨rfl, ?_⟩
      cases ob with
      | lst ys => obtain ⟨vs, h1, _⟩ := r; exact ⟨vs, .of h1⟩
      | flst ys => obtain ⟨o, vs, h1, _⟩ := r; exact ⟨vs, .inl (.inr ⟨o, h1⟩)⟩
    refine ⟨ty, ?_⟩
    refine seqEE S1 (E.mono e1) q1 fun φ2 H2 s2 x u e2 S2 R2 q2 => ?_
    cases z : wrL (.loc l) (pushP x) s2 with
    | none => simp only [z] at q2; exact q2.elim
    | some s3 =>
      simp only [z] at q2
      obtain ⟨b, vs, xs, ys, e0, ha, R3, h3, h4⟩ := wrL_at S2 (R1.mono e2) z
      cases e0
      unfold pushP at h3
      split at h3
      · rename_i hlt
        cases h3
        obtain ⟨l1, S3⟩ := h4 _ (R3.append (Reps.cons R2 Reps.nil))
        exact ⟨a, vs, u, rfl, rfl, ha, Nat.lt_of_lt_of_le (by rw [← R3.length]; exact hlt) (by decide), q2 φ2 _ _ l1 S3 (rep_non.mpr rfl)⟩
      · cases h3
  | _ =>
    exact q1.elim
end

/-! ### built-in functions -/
section
variable {g : G} {W : WX} {X : Cx} {x : Str} {p pos : Pos} {e : Expr} {es : List Expr} {fs : Sl → Sto → Res (List PV)} {id T : String} {r : List V → Hp → VK → Prop} {o : List PV → Sto → Option PV}
theorem x_cb (hc : CallR X (.builtin id) r) (hs : CallS g r o) (hm : X.mg x = none) (hv : bootBuiltins x = some (.builtin id)) (ha : PA X (e :: es) (rA g W fs)) (hg : Gl X x := by rfl) (hn : x ≠ "__name__" := by decide) (hdb : (x == ("__debug__" : Str)) = false := by decide)
    (he : starEach (e :: es) X.env = (false, eval e X.env) :: starEach es X.env := by rfl) (hpl : (backTo pos (starEach es X.env)).any (·.1) = false := by rfl) : PE X (.Call (.Name x p) (e :: es) [] pos) (rE g W (fCallB o fs)) :=
  pe_of (pe_callB hc hg hm hv ha hn hdb he hpl) (tCB_of hs)
theorem x_cty (hc : CallR X (.type T) r) (hs : CallS g r o) (hm : X.mg x = none) (hv : bootBuiltins x = some (.type T)) (ha : PA X (e :: es) (rA g W fs)) (hg : Gl X x := by rfl) (hn : x ≠ "__name__" := by decide) (hdb : (x == ("__debug__" : Str)) = false := by decide)
    (he : starEach (e :: es) X.env = (false, eval e X.env) :: starEach es X.env := by rfl) (hpl : (backTo pos (starEach es X.env)).any (·.1) = false := by rfl) : PE X (.Call (.Name x p) (e :: es) [] pos) (rE g W (fCallB o fs)) :=
  pe_of (pe_callTy hc hg hm hv ha hn hdb he hpl) (tCB_of hs)
end
section
variable {g : G} {φ : Wm} {H : Hp} {s : Sto}
theorem reps1 {p : PV} {vs : List V} (R : Reps g φ H [p] vs) : ∃ v, vs = [v] ∧ Rep g φ H p v := by
  simp only [Reps] at R
  obtain ⟨v, _, rfl, h, rfl⟩ := R
  exact ⟨v, rfl, h⟩
theorem reps2 {p q : PV} {vs : List V} (R : Reps g φ H [p, q] vs) : ∃ v u, vs = [v, u] ∧ Rep g φ H p v ∧ Rep g φ H q u := by
  simp only [Reps] at R
  obtain ⟨v, _, rfl, h, u, _, rfl, h2, rfl⟩ := R
  exact ⟨v, u, rfl, h, h2⟩
/-- ints, bools alone -/
def intsP : List PV → Option (List Int)
  | [] => some []
  | .int i :: r => (intsP r).map (i :: ·)
  | _ => none
def bolsP : List PV → Option (List Bool)
  | [] => some []
  | .bl i :: r => (bolsP r).map (i :: ·)
  | _ => none
theorem intsP_at : ∀ {xs : List PV} {vs : List V} {ns : List Int}, Reps g φ H xs vs → intsP xs = some ns → vs = ns.map V.int
  | [], vs, ns, R, e => by
    simp only [Reps] at R; subst R
    simp only [intsP, Option.some.injEq] at e; subst e; rfl
  | x :: xs, vs, ns, R, e => by
    simp only [Reps] at R
    obtain ⟨v, r, rfl, h1, h2⟩ := R
    cases x with
    | int i =>
      simp only [intsP, Option.map_eq_some_iff] at e
      obtain ⟨ms, e, rfl⟩ := e
      rw [intsP_at h2 e, rep_int.mp h1]; rfl
    | _ => simp [intsP] at e
theorem bolsP_at : ∀ {xs : List PV} {vs : List V} {ns : List Bool}, Reps g φ H xs vs → bolsP xs = some ns → vs = ns.map V.bl
  | [], vs, ns, R, e => by
    simp only [Reps] at R; subst R
    simp only [bolsP, Option.some.injEq] at e; subst e; rfl
  | x :: xs, vs, ns, R, e => by
    simp only [Reps] at R
    obtain ⟨v, r, rfl, h1, h2⟩ := R
    cases x with
    | bl i =>
      simp only [bolsP, Option.map_eq_some_iff] at e
      obtain ⟨ms, e, rfl⟩ := e
      rw [bolsP_at h2 e, rep_bl.mp h1]; rfl
    | _ => simp [bolsP] at e
def oAbs (ps : List PV) (_ : Sto) : Option PV := match ps with
  | [.int i] => some (.int (if i < 0 then -i else i))
  | _ => none
theorem o_abs : CallS g (fun xs H Q => ∃ i, xs = [.int i] ∧ Q (.int (if i < 0 then -i else i)) H) oAbs := by
  intro φ H s ps z vs Q S R e k
  unfold oAbs at e
  split at e
  · cases e
    obtain ⟨v, rfl, h⟩ := reps1 R
    exact ⟨_, by rw [rep_int.mp h], k φ H _ (Le.refl _ _) S (rep_int.mpr rfl)⟩
  · cases e
def oMax2 (ps : List PV) (_ : Sto) : Option PV := match ps with
  | [.int i, .int j] => some (.int (if j > i then j else i))
  | _ => none
def oMin2 (ps : List PV) (_ : Sto) : Option PV := match ps with
  | [.int i, .int j] => some (.int (if j < i then j else i))
  | _ => none
theorem o_max2 : CallS g (fun xs H Q => ∃ i j, xs = [.int i, .int j] ∧ Q (.int (if j > i then j else i)) H) oMax2 := by
  intro φ H s ps z vs Q S R e k
  unfold oMax2 at e
  split at e
  · cases e
    obtain ⟨v, u, rfl, h, h2⟩ := reps2 R
    exact ⟨_, _, by rw [rep_int.mp h, rep_int.mp h2], k φ H _ (Le.refl _ _) S (rep_int.mpr rfl)⟩
  · cases e
theorem o_min2 : CallS g (fun xs H Q => ∃ i j, xs = [.int i, .int j] ∧ Q (.int (if j < i then j else i)) H) oMin2 := by
  intro φ H s ps z vs Q S R e k
  unfold oMin2 at e
  split at e
  · cases e
    obtain ⟨v, u, rfl, h, h2⟩ := reps2 R
    exact ⟨_, _, by rw [rep_int.mp h, rep_int.mp h2], k φ H _ (Le.refl _ _) S (rep_int.mpr rfl)⟩
  · cases e
def oLen (ps : List PV) (s : Sto) : Option PV := match ps with
  | [p] => (seqOf p s).map fun xs => .int xs.length
  | _ => none
theorem o_len : CallS g (fun xs H Q => ∃ p ys, xs = [.ref p] ∧ (SqL g.K H p ys ∨ SqT g.K H p ys) ∧ Q (.int ys.length) H) oLen := by
  intro φ H s ps z vs Q S R e k
  unfold oLen at e
  split at e
  · rw [Option.map_eq_some_iff] at e
    obtain ⟨xs, e1, rfl⟩ := e
    obtain ⟨v, rfl, h⟩ := reps1 R
    obtain ⟨a, us, rfl, sq, r⟩ := seqOf_at S h e1
    exact ⟨a, us, rfl, sq, k φ H _ (Le.refl _ _) S (rep_int.mpr (by rw [r.length]))⟩
  · cases e
def oInt1 (ps : List PV) (_ : Sto) : Option PV := match ps with
  | [.int i] => some (.int i)
  | [.bl k] => some (.int (if k then 1 else 0))
  | _ => none
theorem o_int1 : CallS g (fun xs H Q => (∃ i, xs = [.int i] ∧ Q (.int i) H) ∨ ∃ k, xs = [.bl k] ∧ Q (.int (if k then 1 else 0)) H) oInt1 := by
  intro φ H s ps z vs Q S R e k
  unfold oInt1 at e
  split at e
  · cases e
    obtain ⟨v, rfl, h⟩ := reps1 R
    exact .inl ⟨_, by rw [rep_int.mp h], k φ H _ (Le.refl _ _) S (rep_int.mpr rfl)⟩
  · cases e
    obtain ⟨v, rfl, h⟩ := reps1 R
    exact .inr ⟨_, by rw [rep_bl.mp h], k φ H _ (Le.refl _ _) S (rep_int.mpr rfl)⟩
  · cases e
def oBool1 (ps : List PV) (_ : Sto) : Option PV := match ps with
  | [.int i] => some (.bl (i != 0))
  | [.bl k] => some (.bl k)
  | _ => none
theorem o_bool1 : CallS g (fun xs H Q => (∃ i, xs = [.int i] ∧ Q (.bl (i != 0)) H) ∨ ∃ k, xs = [.bl k] ∧ Q (.bl k) H) oBool1 := by
  intro φ H s ps z vs Q S R e k
  unfold oBool1 at e
  split at e
  · cases e
    obtain ⟨v, rfl, h⟩ := reps1 R
    exact .inl ⟨_, by rw [rep_int.mp h], k φ H _ (Le.refl _ _) S (rep_bl.mpr rfl)⟩
  · cases e
    obtain ⟨v, rfl, h⟩ := reps1 R
    exact .inr ⟨_, by rw [rep_bl.mp h], k φ H _ (Le.refl _ _) S (rep_bl.mpr rfl)⟩
  · cases e
def oSum (ps : List PV) (s : Sto) : Option PV := match ps with
  | [p] => (liveL p s).bind fun xs => (intsP xs).map fun ns => .int ns.sum
  | _ => none
theorem o_sum : CallS g (rSum g.K) oSum := by
  intro φ H s ps z vs Q S R e k
  unfold oSum at e
  split at e
  · rw [Option.bind_eq_some_iff] at e
    obtain ⟨xs, e1, e2⟩ := e
    rw [Option.map_eq_some_iff] at e2
    obtain ⟨ns, e2, rfl⟩ := e2
    obtain ⟨v, rfl, h⟩ := reps1 R
    obtain ⟨a, us, rfl, sq, r⟩ := liveL_at S h e1
    exact ⟨a, ns, rfl, by rw [← intsP_at r e2]; exact sq, k φ H _ (Le.refl _ _) S (rep_int.mpr rfl)⟩
  · cases e
def oAll (ps : List PV) (s : Sto) : Option PV := match ps with
  | [p] => (liveL p s).bind fun xs => (bolsP xs).map fun ns => .bl (ns.all id)
  | _ => none
def oAny (ps : List PV) (s : Sto) : Option PV := match ps with
  | [p] => (liveL p s).bind fun xs => (bolsP xs).map fun ns => .bl (ns.any id)
  | _ => none
theorem o_all : CallS g (rAll g.K) oAll := by
  intro φ H s ps z vs Q S R e k
  unfold oAll at e
  split at e
  · rw [Option.bind_eq_some_iff] at e
    obtain ⟨xs, e1, e2⟩ := e
    rw [Option.map_eq_some_iff] at e2
    obtain ⟨ns, e2, rfl⟩ := e2
    obtain ⟨v, rfl, h⟩ := reps1 R
    obtain ⟨a, us, rfl, sq, r⟩ := liveL_at S h e1
    exact ⟨a, ns, rfl, by rw [← bolsP_at r e2]; exact sq, k φ H _ (Le.refl _ _) S (rep_bl.mpr rfl)⟩
  · cases e
theorem o_any : CallS g (rAny g.K) oAny := by
  intro φ H s ps z vs Q S R e k
  unfold oAny at e
  split at e
  · rw [Option.bind_eq_some_iff] at e
    obtain ⟨xs, e1, e2⟩ := e
    rw [Option.map_eq_some_iff] at e2
    obtain ⟨ns, e2, rfl⟩ := e2
    obtain ⟨v, rfl, h⟩ := reps1 R
    obtain ⟨a, us, rfl, sq, r⟩ := liveL_at S h e1
    exact ⟨a, ns, rfl, by rw [← bolsP_at r e2]; exact sq, k φ H _ (Le.refl _ _) S (rep_bl.mpr rfl)⟩
  · cases e
def oListT (ps : List PV) (s : Sto) : Option PV := match ps with
  | [p] => (seqOf p s).map .tmp
  | _ => none
theorem o_listT : CallS g (fun xs H Q => ∃ p ys, xs = [.ref p] ∧ (SqL g.K H p ys ∨ SqT g.K H p ys) ∧ ∀ l, H l = none → Q (.ref l) (upd H l (.lst ys))) oListT := by
  intro φ H s ps z vs Q S R e k
  unfold oListT at e
  split at e
  · rw [Option.map_eq_some_iff] at e
    obtain ⟨xs, e1, rfl⟩ := e
    obtain ⟨v, rfl, h⟩ := reps1 R
    obtain ⟨a, us, rfl, sq, r⟩ := seqOf_at S h e1
    exact ⟨a, us, rfl, sq, fun l hl => k φ _ _ (S.lenew hl) (S.new hl) (new_tmp S hl r)⟩
  · cases e
def oTuple (ps : List PV) (s : Sto) : Option PV := match ps with
  | [p] => (seqOf p s).map .tup
  | _ => none
theorem o_tuple : CallS g (fun xs H Q => ∃ p ys, xs = [.ref p] ∧ ((SqL g.K H p ys ∧ ∀ l, H l = none → Q (.ref l) (upd H l (.tup ys))) ∨ (SqT g.K H p ys ∧ Q (.ref p) H))) oTuple := by
  intro φ H s ps z vs Q S R e k
  unfold oTuple at e
  split at e
  · rename_i p
    rw [Option.map_eq_some_iff] at e
    obtain ⟨xs, e1, rfl⟩ := e
    obtain ⟨v, rfl, h⟩ := reps1 R
    by_cases hp : ∃ ys, p = .tup ys
    · obtain ⟨ys, rfl⟩ := hp
      simp only [seqOf, Option.some.injEq] at e1; subst e1
      obtain ⟨a, us, rfl, t, r⟩ := rep_tup h
      exact ⟨a, us, rfl, .inr ⟨t.sq, k φ H _ (Le.refl _ _) S h⟩⟩
    · have e2 : liveL p s = some xs := by cases p <;> first | exact e1 | exact absurd ⟨_, rfl⟩ hp
      obtain ⟨a, us, rfl, sq, r⟩ := liveL_at S h e2
      exact ⟨a, us, rfl, .inl ⟨sq, fun l hl => k φ _ _ (S.lenew hl) (S.new hl) (new_tup S hl r)⟩⟩
  · cases e
/-- the greatest, the least of some ints -/
def maxI (i : Int) (r : List Int) : Int := r.foldl (fun a b => if b > a then b else a) i
def minI (i : Int) (r : List Int) : Int := r.foldl (fun a b => if b < a then b else a) i
theorem maxI_spec (r : List Int) : ∀ i, maxI i r ∈ i :: r ∧ ∀ y ∈ i :: r, y ≤ maxI i r := by
  induction r with
  | nil => intro i; exact ⟨by simp [maxI], fun y hy => by simp at hy; subst hy; simp [maxI]⟩
  | cons j r ih =>
    intro i
    have h := ih (if j > i then j else i)
    show maxI (if j > i then j else i) r ∈ i :: j :: r ∧ ∀ y ∈ i :: j :: r, y ≤ maxI (if j > i then j else i) r
    obtain ⟨h1, h2⟩ := h
    by_cases hj : j > i
    · rw [if_pos hj] at h1 h2 ⊢
      refine ⟨List.mem_cons_of_mem _ h1, fun y hy => ?_⟩
      rcases List.mem_cons.mp hy with rfl | hy
      · exact Int.le_trans (Int.le_of_lt hj) (h2 j List.mem_cons_self)
      · exact h2 y hy
    · rw [if_neg hj] at h1 h2 ⊢
      refine ⟨(List.mem_cons.mp h1).elim (fun e => List.mem_cons.mpr (.inl e)) fun e => List.mem_cons_of_mem _ (List.mem_cons_of_mem _ e), fun y hy => ?_⟩
      rcases List.mem_cons.mp hy with rfl | hy
      · exact h2 _ List.mem_cons_self
      · rcases List.mem_cons.mp hy with rfl | hy
        · exact Int.le_trans (Int.not_lt.mp hj) (h2 i List.mem_cons_self)
        · exact h2 y (List.mem_cons_of_mem _ hy)
theorem minI_spec (r : List Int) : ∀ i, minI i r ∈ i :: r ∧ ∀ y ∈ i :: r, minI i r ≤ y := by
  induction r with
  | nil => intro i; exact ⟨by simp [minI], fun y hy => by simp at hy; subst hy; simp [minI]⟩
  | cons j r ih =>
    intro i
    have h := ih (if j < i then j else i)
    show minI (if j < i then j else i) r ∈ i :: j :: r ∧ ∀ y ∈ i :: j :: r, minI (if j < i then j else i) r ≤ y
    obtain ⟨h1, h2⟩ := h
    by_cases hj : j < i
    · rw [if_pos hj] at h1 h2 ⊢
      refine ⟨List.mem_cons_of_mem _ h1, fun y hy => ?_⟩
      rcases List.mem_cons.mp hy with rfl | hy
      · exact Int.le_trans (h2 j List.mem_cons_self) (Int.le_of_lt hj)
      · exact h2 y hy
    · rw [if_neg hj] at h1 h2 ⊢
      refine ⟨(List.mem_cons.mp h1).elim (fun e => List.mem_cons.mpr (.inl e)) fun e => List.mem_cons_of_mem _ (List.mem_cons_of_mem _ e), fun y hy => ?_⟩
      rcases List.mem_cons.mp hy with rfl | hy
      · exact h2 _ List.mem_cons_self
      · rcases List.mem_cons.mp hy with rfl | hy
        · exact Int.le_trans (h2 i List.mem_cons_self) (Int.not_lt.mp hj)
        · exact h2 y (List.mem_cons_of_mem _ hy)
def oMaxL (ps : List PV) (s : Sto) : Option PV := match ps with
  | [p] => match (liveL p s).bind intsP with
    | some (i :: r) => some (.int (maxI i r))
    | _ => none
  | _ => none
def oMinL (ps : List PV) (s : Sto) : Option PV := match ps with
  | [p] => match (liveL p s).bind intsP with
    | some (i :: r) => some (.int (minI i r))
    | _ => none
  | _ => none
theorem o_maxL : CallS g (rMax g.K) oMaxL := by
  intro φ H s ps z vs Q S R e k
  unfold oMaxL at e
  split at e
  · split at e
    · rename_i p _ i r h
      cases e
      rw [Option.bind_eq_some_iff] at h
      obtain ⟨xs, e1, e2⟩ := h
      obtain ⟨v, rfl, h⟩ := reps1 R
      obtain ⟨a, us, rfl, sq, rr⟩ := liveL_at S h e1
      refine ⟨a, i :: r, rfl, by rw [← intsP_at rr e2]; exact sq, by simp, fun m h1 h2 => ?_⟩
      have h3 := maxI_spec r i
      have : m = maxI i r := Int.le_antisymm (h3.2 m h1) (h2 _ h3.1)
      exact k φ H _ (Le.refl _ _) S (rep_int.mpr (by rw [this]))
    · cases e
  · cases e
theorem o_minL : CallS g (rMin g.K) oMinL := by
  intro φ H s ps z vs Q S R e k
  unfold oMinL at e
  split at e
  · split at e
    · rename_i p _ i r h
      cases e
      rw [Option.bind_eq_some_iff] at h
      obtain ⟨xs, e1, e2⟩ := h
      obtain ⟨v, rfl, h⟩ := reps1 R
      obtain ⟨a, us, rfl, sq, rr⟩ := liveL_at S h e1
      refine ⟨a, i :: r, rfl, by rw [← intsP_at rr e2]; exact sq, by simp, fun m h1 h2 => ?_⟩
      have h3 := minI_spec r i
      have : m = minI i r := Int.le_antisymm (h2 _ h3.1) (h3.2 m h1)
      exact k φ H _ (Le.refl _ _) S (rep_int.mpr (by rw [this]))
    · cases e
  · cases e
end

/-! ### in a list of data -/
def listD : PyData → Option (List PyData)
  | .list ds => some ds
  | _ => none
def oIn (p q : PV) (s : Sto) : Option PV := match toD (rd s p), (toD (rd s q)).bind listD with
  | some d, some ds => if SeqAt.shaped d && SeqAt.shaped (.list ds) then some (.bl (ds.any fun z => PyData.eqv z d)) else none
  | _, _ => none
theorem o_in {g : G} : OpS g (rInD g.K) oIn := by
  intro φ H s p q z v u Q S R1 R2 e k
  unfold oIn at e
  split at e
  · rename_i d ds h1 h2
    split at e
    · rename_i h
      cases e
      rw [Bool.and_eq_true] at h
      rw [Option.bind_eq_some_iff] at h2
      obtain ⟨e2, h2, h3⟩ := h2
      cases e2 with
      | list es =>
        simp only [listD, Option.some.injEq] at h3
        subst h3
        exact ⟨d, es, dp_rd S R1 h1, dp_rd S R2 h2, h.1, h.2, k φ H _ (Le.refl _ _) S (rep_bl.mpr rfl)⟩
      | _ => simp [listD] at h3
    · cases e
  · cases e

/-! ### repr of data -/
def rRepr (K : PySem.W.Frag) : List V → Hp → VK → Prop := fun xs H Q => ∃ x d, xs = [x] ∧ Dp K H x d ∧ d.showable = true ∧ d.hasDict = false ∧ d.depth ≤ 64 ∧ d.shown.length ≤ sizeLine ∧ Q (.str d.shown) H
theorem call_repr {X : Cx} (hg : X.A.guards = some []) (hu : X.A.units + 66 < cLine) : CallR X (.builtin "repr") (rRepr X.K) := by
  intro pins s σ H xs us Q I r h
  obtain ⟨x, d, rfl, hd, h1, h2, h3, h4, q⟩ := h
  obtain ⟨u, rfl, ru⟩ := r.one
  obtain ⟨as, rr⟩ := Dp.reads I d x u hd ru
  cases rr with
  | none => exact P.repr_of_none ⟨.str _, H, I.tok _, ⟨_, rfl⟩, q⟩
  | bool b => exact P.repr_of_bool ⟨.str _, H, I.tok _, ⟨_, rfl⟩, q⟩
  | int i t =>
    refine P.repr_of_int ?_ ⟨.str _, H, I.tok _, ⟨_, rfl⟩, q⟩
    simpa [PyData.showable] using h1
  | str y t => exact P.repr_of_str ⟨.str _, H, I.tok _, ⟨_, rfl⟩, q⟩ h4
  | list a1 a2 a3 a4 =>
    exact repr_of_reads' (.list a1 a2 a3 a4) h1 (PyData.noDict_hsm h2) hg (by omega) (fun _ _ e => e) (fun h' u tk hk => ⟨.str _, H, I.kept hk, ⟨_, rfl⟩, q⟩) h4
  | tuple a1 a2 a3 a4 =>
    exact repr_of_reads' (.tuple a1 a2 a3 a4) h1 (PyData.noDict_hsm h2) hg (by omega) (fun _ _ e => e) (fun h' u tk hk => ⟨.str _, H, I.kept hk, ⟨_, rfl⟩, q⟩) h4
  | dict => simp [PyData.hasDict] at h2
/-- what may be shown -/
def reprOk (d : PyData) : Bool := d.showable && !d.hasDict && decide (d.depth ≤ 64) && decide (d.shown.length ≤ 10000000)
def oRepr (ps : List PV) (s : Sto) : Option PV := match ps with
  | [p] => match toD (rd s p) with
    | some d => if reprOk d then some (.str d.shown) else none
    | none => none
  | _ => none
theorem o_repr {g : G} : CallS g (rRepr g.K) oRepr := by
  intro φ H s ps z vs Q S R e k
  unfold oRepr at e
  split at e
  · split at e
    · rename_i p _ d h
      split at e
      · rename_i h2
        cases e
        obtain ⟨v, rfl, r⟩ := reps1 R
        unfold reprOk at h2
        simp only [Bool.and_eq_true, Bool.not_eq_true', decide_eq_true_eq] at h2
        exact ⟨v, d, rfl, dp_rd S r h, h2.1.1.1, h2.1.1.2, h2.1.2, line7 h2.2, k φ H _ (Le.refl _ _) S (rep_str.mpr rfl)⟩
      · cases e
    · cases e
  · cases e
end Pv

/-! Pv9: the errors: WearError's __init__ walked, raise, try, isinstance, .value. -/
namespace Pv
open PySem PySem.Spec PyProof.Rows L2

/-- what the written part says of an error class at C below the one at D (whose __init__ says super().__init__(value); self.value = value) -/
structure WearC (K : PySem.W.Frag) (D C : Addr) : Prop where
  T : OexC K C
  sup : PySem.W.ks_superIn K C D "__init__" = some (some (.builtin "ValueError.__init__"))
  ve : PySem.W.subIn K (.ref C) (.type "ValueError") = some true
  sub : PySem.W.mroIn K C (.ref D) = some true
  no : PySem.W.findIn K (.ref C) "value" = some none
section
open PySem.W PySem.Calls
variable {prog : Program} {w : World} {A : Around} {E : Value → Shared → Prop} {h : Heap} {g : Array GenState} {d : Drawn} {t : Nat} {os : OsState}
variable {nm q : Str} {C N : Addr} {bs bm : List Value} {hdct : Bool} {sn : List Str} {sub : List Value} {ab : Bool} {col : Option Bool} {dd : Option Addr} {k0 k1 k2 k3 k5 : Option Value}
/-- the bound ValueError.__init__ of an error that is made, called -/
theorem call_bwV {u e t0 : Addr} {rest : List Value} {Q : Value → Shared → Prop}
    (hC : h.get? C = some (excClassObj nm q C N bs bm hdct sn sub ab col dd k0 k1 k2 k3 k5 "ValueError.__new__")) (he : h.get? e = some (HandSPX.excO C t0)) (hu : h.get? u = some (kxs_mw "ValueError.__init__" e)) (hrest : rest.length ≤ sizeLine)
    (hq : ∀ h' t1, (∀ b o, b ≠ e → h.get? b = some o → h'.get? b = some o) → h'.get? e = some (HandSPX.excO C t1) → Q .none ⟨h', g, d, t, os⟩) :
    wpAny (model prog w) A (call (.ref u) rest) Q E ⟨h, g, d, t, os⟩ := by
  refine wpAny_call (codeAny_of_tree ?_)
  show wpAny _ A.in1 (callAny (.ref u) ⟨rest, []⟩) _ _ _
  simp only [callAny]
  refine wpAny_bind (wpAny_load hu ?_)
  simp only [kxs_mw, show (Value.type "method-wrapper" == Value.type "method" || Value.type "method-wrapper" == Value.type "builtin_function_or_method" || Value.type "method-wrapper" == Value.type "method-wrapper") = true by decide, if_true]
  refine W.KFB.if_so (by decide) ?_
  refine wpAny_bind (check_bound_init F.excBase_ValueError.toExcCallFacts hC he rfl ?_)
  refine wpAny_bind (wpAny_pure (wpAny_pure ?_))
  refine ⟨Code.quiet_builtin _ (by decide +kernel), codeAny_builtin F.excBase_ValueError.initEntry ?_⟩
  rw [Around.under_plainId F.excBase_ValueError.init.plain _]
  wp_walk
  refine hq _ h.objs.size (fun b o hb ho => ?_) ?_
  · rw [Heap.get?_update_other _ _ (Ne.symm hb)]
    exact Heap.get?_push_of_some _ ho
  · rw [Heap.get?_update_self _ (Heap.get?_push_of_some _ he) rfl]
    rfl
end
theorem lookup_one {α : Type} {x y : Str} {c d : α} (e : [(x, c)].lookup y = some d) : y = x ∧ d = c := by
  unfold List.lookup at e
  split at e
  · rename_i h
    exact ⟨eq_of_beq h, (Option.some.inj e).symm⟩
  · cases e
/-- the __init__'s promise -/
def spInit (K : PySem.W.Frag) (D : Addr) : Sp := fun vs H Q _ => ∃ a C u, vs = [.ref a, u] ∧ WearC K D C ∧ H a = some (exo a C none) ∧ ∀ dx, H dx = none → dx ≠ a → Q .non (upd (upd H dx (exd dx [(("value" : Str), u)])) a (exo a C (some dx)))
section
variable {P : Program} {w : World} {K : PySem.W.Frag} {mg : Str → Option Value} {base : Heap} {CX : CXT} {F : NdefX.NF} {f cc D : Addr} {k : Nat}
theorem init_fn {doc pm ctv oc ccl cl : Value} {od cdd cld : Option Addr} {osl ccs csl : Array (Option Value)} {vs0 : Array Value} {file : Str} {tf : Tok} {cdD : ClassData} {ar : Arg} {p0 p1 p2 p3 p4 p5 p6 p7 p8 p9 : Pos}
    (lk : K.lookup f = some ⟨oc, od, .func (F.fd doc pm ctv), osl⟩) (hcd : PySem.W.codeIn K (.ref F.c) F.qual = true)
    (hcl : F.cl = [(("__class__" : Str), cc)])
    (S : NdefX.NScope ["self", "value", "__class__"] ["self", "value"] ["__class__"] F.scope)
    (hbody : F.body = [.Expr (.Call (.Attribute (.Call (.Name "super" p0) [] [] p1) "__init__" p2) [.Name "value" p3] [] p4) p5, .Assign [.Attribute (.Name "self" p6) "value" p7] (.Name "value" p8) p9])
    (hks : F.scope.names.lookup ("super" : Str) = some .globalImplicit) (hp : (F.params.posonlyargs ++ F.params.args).head? = some ar) (har : ar.arg = ("self" : Str))
    (hcode : K.lookup F.c = some ⟨ccl, cdd, .fields vs0, ccs⟩) (hvs : vs0[2]? = some (.str file tf)) (hfile : ((P.main.file : Str) == file) = true)
    (hcell : K.lookup cc = some ⟨cl, cld, .cell (some (.ref D)), csl⟩) (hD : PySem.W.clsIn K D = some cdD) (hop : PySem.W.nsIn K PySem.cStatics "thirdparty.any" = some none)
    (hsup : mg "super" = none) (htop : (P.main.scope.names.lookup ("super" : Str)).isSome = false) (hboot : bootBuiltins "super" = some (.type "super")) (pl : Env → Sem Bool)
    (hev : ∀ env : Env, eval (.Call (.Attribute (.Call (.Name "super" p0) [] [] p1) "__init__" p2) [.Name "value" p3] [] p4) env = (do
      let ov ← attributeBase (.Call (.Name "super" p0) [] [] p1) "__init__" env (eval (.Call (.Name "super" p0) [] [] p1) env)
      standAt p2.atName
      let (f, first) ← holding [ov] (getMethod ov "__init__" (pl env))
      callWith p4 f first (backTo p4 (starEach [.Name "value" p3] env)) []))
    (hst : ∀ env : Env, starEach [.Name "value" p3] env = (false, eval (.Name "value" p3) env) :: starEach [] env) :
    FnOk P w K mg base CX 3 f (F.fd doc pm ctv) ["self", "value"] (spInit K D) := by
  refine ⟨fun vs H Q E ⟨a, C, u, e, _⟩ => by rw [e]; rfl, fun A outer s H args us vs Q E hr e0 hb r hsp => ?_⟩
  obtain ⟨a, C, u, rfl, wc, ha, hq⟩ := hsp
  obtain ⟨u1, u2, rfl, r1, r2⟩ := r.two
  obtain rfl : u1 = Value.ref a := r1
  have KX : K.In s.heap := e0.mod.kin.keeps fun b o e => (e0.bs b o e).1
  have lim : s.heap.NoLimit := e0.mod.nolimit.keeps fun b o e => (e0.bs b o e).1
  have hloc : ∀ x ∈ (["self", "value"] : List Str).zip [Value.ref a, u2], F.scope.names.lookup x.1 = some .local := fun ⟨n, v⟩ hx => S.par n (List.of_mem_zip hx).1
  refine PySem.ks_codeAny_call_defAt (fd := F.fd doc pm ctv) (body := F.body) (binds := (["self", "value"] : List Str).zip [Value.ref a, u2]) hr.depth (KX _ _ lk) rfl lim (PySem.W.codeRec_of KX hcd) rfl hb S.nocell hloc (fun h₁ hns kp => ?_) S.co S.gen S.kind
  have hcb : base.get? cc = some ⟨cl, cld, .cell (some (.ref D)), csl⟩ := e0.mod.kin _ _ hcell
  have C0 : NdefX.CellsAt F.cl ["__class__"] [none] s.heap H := by
    refine ⟨rfl, fun y c e => ?_, fun x y c e1 e2 => ?_, fun i y e => ?_⟩
    · rw [hcl] at e
      obtain ⟨rfl, rfl⟩ := lookup_one e
      exact ⟨(e0.bs _ _ hcb).2, _, _, (e0.bs _ _ hcb).1, rfl⟩
    · rw [hcl] at e1 e2
      obtain ⟨rfl, _⟩ := lookup_one e1
      obtain ⟨rfl, _⟩ := lookup_one e2
      rfl
    · match i, e with
      | 0, e =>
        simp only [List.getElem?_cons_zero, Option.some.injEq] at e
        subst e
        exact ⟨cc, by rw [hcl]; rfl, fun v ev => by simp at ev⟩
  have I : Inv (NdefX.ncx CX P w K mg base ["self", "value", "__class__"] F f A outer s H E) [] (NdefX.startF ["self", "value", "__class__"] [.ref a, u] [none]) H { s with heap := h₁, toks := s.toks + ((["self", "value"] : List Str).zip [Value.ref a, u2]).length } :=
    NdefX.inv_startN S hr.hd e0 rfl (.cons rfl (.cons r2 .nil)) C0 hns kp
  obtain ⟨nm, q, N, bs, bm, sn, sub, ab, col, dd, k0, k1, k2, k3, k5, hC, hbm⟩ := wc.T.cls
  obtain ⟨cdC, hcC⟩ : ∃ cd, PySem.W.clsIn K C = some cd := ⟨_, by unfold PySem.W.clsIn; rw [hC]⟩
  have hmro := wc.sup
  unfold PySem.W.ks_superIn at hmro
  rw [hcC, Option.bind_some] at hmro
  obtain ⟨oD, hD1, hD2⟩ : ∃ oD, K.lookup D = some oD ∧ oD.data = .cls cdD := by
    unfold PySem.W.clsIn at hD
    split at hD
    · rename_i c d cd' sl ho
      cases hD
      exact ⟨_, ho, rfl⟩
    · cases hD
  obtain ⟨t0, hx⟩ := exo_at I.hok ha
  have hl := hns
  have env_eq : callEnv (F.fd doc pm ctv) s.heap.objs.size f = NdefX.envF F f s.heap.objs.size := rfl
  rw [env_eq, hbody]
  refine ks_wpAt_execs_cons (ks_wpAt_Expr_any (ks_wpAt_MethodCall (pl := pl _) ?_ (hev _)) (by unfold interactive; rw [show (NdefX.envF F f s.heap.objs.size).scope.kind = ScopeKind.function from S.kind]; rfl))
  have K1 := I.kIn
  have hkc : F.scope.names.lookup ("__class__" : Str) = some .free := S.frk _ (by simp)
  have hksf : F.scope.names.lookup ("self" : Str) = some .local := S.par _ (by simp)
  refine ks_wpAt_super_base (env := NdefX.envF F f s.heap.objs.size) hks hkc (by decide) rfl (K1 _ _ lk) rfl hp rfl (K1 _ _ hcode) rfl hvs hfile htop ?_
  obtain ⟨mb, hb1, hb2⟩ := I.mod.blt
  refine PySem.W.ks_loadName_global S.kind hks (Calls.loadGlobal_builtin (I.mod.glob.keeps I.bk) hsup (hb1.keeps I.bk) ((hb2 _ (by decide)).trans hboot) ⟨rfl, ?_⟩)
  refine wpAny_loadName_free S.kind hkc (c := cc) (by show F.cl.lookup _ = _; rw [hcl]; rfl) ⟨_, K1 _ _ hcell, rfl⟩ ?_
  rw [har]
  refine wpAny_loadName_local S.kind hksf hns (v := .ref a) rfl ?_
  refine ks_wpAny_isType_cls (K1 _ _ hD1) hD2 ⟨rfl, ?_⟩
  refine ks_wpAny_call_super (K1 _ _ hD1) hD2 hx rfl (fun c e => by cases e) (PySem.W.looks_mroIn K1 wc.sub) (fun h2 e2 kp2 => ?_)
  have hx2 := kp2 _ _ hx
  have K2 : K.In h2 := K1.keeps kp2
  have haC : a ≠ C := fun e => by
    have z := K1 _ _ hC
    rw [← e] at z
    have := Option.some.inj (hx.symm.trans z)
    have := congrArg Obj.data this
    cases this
  refine PySem.W.kxs_getMethod PySem.W.kxs_ValueError e2 (PySem.W.looks_opaque K2 hop) (l₀ := cdC.mro) (fun A Q E s k q => wpAny_bind ((PySem.W.looks_clsIn K2 hcC) A _ E s k (wpAny_pure q))) rfl K2 hmro
    ((show PySem.W.Looks (model P w) h2 (typeOf (.ref a)) (.ref C) from fun A Q E s k q => wpAny_typeOf_ref (k _ _ hx2) q).andThen (PySem.W.looks_subIn K2 wc.ve)) haC (by decide) ?_
  have J2 : Inv (NdefX.ncx CX P w K mg base ["self", "value", "__class__"] F f A outer s H E) [] (NdefX.startF ["self", "value", "__class__"] [.ref a, u] [none]) H
      { heap := h2.push (PySem.W.kxs_mw "ValueError.__init__" a), gens := s.gens, drawn := s.drawn, toks := s.toks + ((["self", "value"] : List Str).zip [Value.ref a, u2]).length + 1, os := s.os } :=
    I.kept (fun b o e => Heap.get?_push_of_some _ (kp2 b o e))
  have hmw : (h2.push (PySem.W.kxs_mw "ValueError.__init__" a)).get? h2.objs.size = some (PySem.W.kxs_mw "ValueError.__init__" a) := Heap.get?_push_at rfl rfl
  have le1 : h₁.objs.size ≤ h2.objs.size := Nat.le_of_lt (Heap.lt_size e2)
  have J2p : Inv (NdefX.ncx CX P w K mg base ["self", "value", "__class__"] F f A outer s H E) [(h2.objs.size, PySem.W.kxs_mw "ValueError.__init__" a)] (NdefX.startF ["self", "value", "__class__"] [.ref a, u] [none]) H
      { heap := h2.push (PySem.W.kxs_mw "ValueError.__init__" a), gens := s.gens, drawn := s.drawn, toks := s.toks + ((["self", "value"] : List Str).zip [Value.ref a, u2]).length + 1, os := s.os } :=
    ⟨J2.ok, J2.os, J2.bare, J2.base, J2.loc, J2.cell, J2.free, J2.freeC, fun p hp => by
      have hp' : p ∈ ([] : List (Addr × Obj)) ++ [(h2.objs.size, PySem.W.kxs_mw "ValueError.__init__" a)] := hp
      rw [List.nil_append, List.mem_singleton] at hp'
      subst hp'
      exact ⟨hmw, I.hok.fresh le1, Nat.ne_of_gt (Nat.lt_of_lt_of_le I.lt le1), I.nofs le1, fun v z => by cases z⟩, J2.hok, J2.len⟩
  rw [hst]
  refine PySem.W.kxs_callWith (i := "ValueError.__init__") (x := a) (first := []) rfl (Calls.evalArgs_plain ?_)
  refine Calls.spliced_cons (thn ((pe_var (X := NdefX.ncx CX P w K mg base ["self", "value", "__class__"] F f A outer s H E) (i := 1) (pos := p3) (x := "value") rfl (.inl (S.par _ (by simp)))).run _ _ _ _ (fun v H' => v = u ∧ H' = H) J2p ⟨u, rfl, rfl, rfl⟩) fun w1 s3 ⟨v, H3, J3, r3, ev, eH⟩ => ?_)
  subst ev eH
  refine Calls.spliced_nil ?_
  have hu3 : s3.heap.get? h2.objs.size = some (PySem.W.kxs_mw "ValueError.__init__" a) := (J3.pin (h2.objs.size, _) (by simp)).1
  refine ⟨hu3, ?_⟩
  obtain ⟨t3, hx3⟩ := exo_at J3.hok ha
  have hC3 := J3.kIn _ _ hC
  obtain ⟨hp3, g3, d3, tk3, os3⟩ := s3
  refine call_bwV hC3 hx3 hu3 (show 1 ≤ sizeLine by decide) (fun h4 t4 k4 e4 => ?_)
  have J4 := J3.write (t' := tk3) (x := a) (e := a) (o := exo a C none) (by rw [ha]; exact True.intro) (.inl rfl) k4 ⟨_, e4⟩ (exo_ok e4)
  have eu : upd H3 a (exo a C none) = H3 := by
    funext b
    by_cases hb : b = a
    · rw [hb, upd_same, ha]
    · rw [upd_ne hb]
  rw [eu] at J4
  refine wpAt_of_wpAny ?_
  have fin := (pss_one (ps_ost (f := "value") (p' := p7) (pos := p9) (pe_var (X := NdefX.ncx CX P w K mg base ["self", "value", "__class__"] F f A outer s H3 E) (i := 0) (pos := p6) (x := "self") rfl (.inl hksf))
    (pe_var (X := NdefX.ncx CX P w K mg base ["self", "value", "__class__"] F f A outer s H3 E) (i := 1) (pos := p8) (x := "value") rfl (.inl (S.par _ (by simp)))))).run _ _ _ _ { nx := fun _ H' => Q .non H', rt := Q } J4
      ⟨v, rfl, .ref a, rfl, a, C, rfl, wc.T, wc.no, .inl ⟨ha, fun dx n ne => hq dx n ne⟩⟩
  refine wpAny_mono fin (fun fl s' hs => ?_) fun e s' hs => hs
  cases fl with
  | next =>
    obtain ⟨σ', H', J, q⟩ := hs
    exact ⟨.non, H', J.os, J.bare, J.base, J.hok, rfl, q⟩
  | ret u =>
    obtain ⟨v, σ', H', J, rv, q⟩ := hs
    exact ⟨v, H', J.os, J.bare, J.base, J.hok, rv, q⟩
  | brk =>
    obtain ⟨_, _, _, q⟩ := hs
    exact False.elim q
  | cont =>
    obtain ⟨_, _, _, q⟩ := hs
    exact False.elim q
end
end Pv

/-! Pv10: raise, try, isinstance, .value. -/
namespace Pv
open PySem PySem.Spec PyProof.Rows L2

/-! ### raise C(v) -/
def fRaise (c : Nat) (fe : EF) : SF := fun ρ s => ofE ρ (fe ρ s) fun p s1 => .exc c p ρ s1
/-- the class c, its __init__ the def at fI -/
structure ErrCb (K : PySem.W.Frag) (cls : Nat → Addr) (D fI : Addr) (c : Nat) : Prop where
  wc : WearC K D (cls c)
  iC : PySem.W.findIn K (.ref (cls c)) "__init__" = some (some (.ref fI))
  ex : ExcC K (cls c)
abbrev ErrC (g : G) (D fI : Addr) (c : Nat) : Prop := ErrCb g.K g.cls D fI c
section
variable {g : G} {W : WX} {X : Cx} {x : Str} {e : Expr} {fe : EF} {p pos pos' : Pos} {D fI : Addr} {fd : FuncData} {c : Nat}
theorem s_raise (hX : InG g X) (hc : X.calm = true) (tk : Takes X W) (F1 : FnOk g.P g.w g.K g.mg g.base (L2.CX g.P g.w) 3 fI fd ["self", "value"] (spInit g.K D)) (ec : ErrC g D fI c) (tI : PySem.W.typeIn g.K (.ref fI) = some (.type "function"))
    (hb : L2.Binds g.K fd ["self", "value"] []) (hr : Room 4 X.A) (hm : g.mg x = some (.ref (g.cls c))) (he : PE X e (rE g W fe)) (hg : Gl X x := by rfl) (hdb : (x == ("__debug__" : Str)) = false := by decide)
    (hse : starEach [e] X.env = (false, eval e X.env) :: starEach [] X.env := by rfl) (hpl : (backTo pos (starEach [] X.env)).any (·.1) = false := by rfl) :
    PS X (.Raise (some (.Call (.Name x p) [e] [] pos)) none pos') (rS g W (fRaise c fe)) := by
  obtain ⟨e1, e2, e3, e4, e5, e6⟩ := hX
  have F1' : FnOk X.prog X.w X.K X.mg X.base (L2.CX X.prog X.w) 3 fI fd ["self", "value"] (spInit g.K D) := by rw [e1, e2, e3, e4, e5]; exact F1
  refine ps_of (ps_raise hc tk (pmk_oex (dvs := []) (ds := []) (by rw [e3]; exact ec.wc.T) (by rw [e3]; exact ec.iC) (by rw [e3]; exact tI) F1' hr (by rw [e3]; exact hb) .nil (passes_call takes0 fun _ _ _ _ h => h) hg (by rw [e4]; exact hm) (pa_cons he pa_nil hse) hdb hse hpl)) ?_
  rintro Dn σ H ⟨φ, ρ, s, S, E, q⟩
  refine seqES S E q fun φ1 H1 s1 v u e7 S1 R1 q1 => ?_
  refine ⟨by simp, fun a ha => ⟨a, g.cls c, u, rfl, ec.wc, upd_same, fun dx hd hne => ⟨rfl, dx, [("value", u)], upd_same, ?_, ?_, ?_⟩⟩⟩
  · rw [upd_ne hne, upd_same]
  · rw [upd_ne hne] at hd; exact hd
  · have hd1 : H1 dx = none := by rw [upd_ne hne] at hd; exact hd
    have eh : upd (del (upd (upd (upd H1 a (exo a (g.cls c) none)) dx (exd dx [("value", u)])) a (exo a (g.cls c) (some dx))) a) dx (.xd [("value", u)]) = upd H1 dx (.xd [("value", u)]) := by
      funext b
      by_cases h1 : b = dx
      · rw [h1, upd_same, upd_same]
      · rw [upd_ne h1, upd_ne h1]
        by_cases h2 : b = a
        · rw [h2, del_same, ha]
        · rw [del_ne h2, upd_ne h2, upd_ne h1, upd_ne h2]
    rw [eh]
    have le := S1.lenew (o := .xd [("value", u)]) hd1
    exact q1 φ1 _ dx u σ le (S1.new hd1) ((E.mono e7).mono le) upd_same (S1.fresh hd1) (R1.mono le)
end

/-! ### try: .. / except x as n: m = n — the error is kept -/
theorem Inv.track {X : Cx} {pins : List (Addr × Obj)} {σ : L2.St} {H : Hp} {s : Shared} {a C d : Addr} {oe : Obj} {vs : Array Value} (I : L2.Inv X pins σ H s) (ha : s.heap.get? a = some oe) (hz : Zc (.ref C) (some d) oe) (hd : oe.data = .fields vs) (na : H a = none)
    (nL : a ≠ X.env.locals) (nC : ∀ v, oe.data ≠ .cell v) (ne : X.s_0.heap.get? a = none) (np : ∀ p ∈ X.pn ++ pins, p.1 ≠ a) : L2.Inv X pins σ (upd H a (ErrO C d a)) s := by
  refine ⟨I.ok, I.os, I.bare, ⟨I.base.keep, I.base.slot, fun b o e n hx => ?_, I.base.there, fun b xs e => ?_, fun b o u e => ?_, fun b ps e => ?_⟩, I.loc, I.cell, ?_, fun x c e => ?_, fun p hp => ?_, fun b o e => ?_, I.len⟩
  · have : b ≠ a := fun z => by rw [z, ne] at e; cases e
    rw [upd_ne this]; exact I.base.free b o e n hx
  · have q := I.base.tups b xs e
    rw [upd_ne (ne_of_none q na)]; exact q
  · have q := I.base.frzs b o u e
    rw [upd_ne (ne_of_none q na)]; exact q
  · obtain ⟨m, q⟩ := I.base.tbls b ps e
    exact ⟨m, by rw [upd_ne (ne_of_none q na)]; exact q⟩
  · rw [upd_ne (Ne.symm nL)]; exact I.free
  · have q := I.freeC x c e
    have : c ≠ a := fun z => by
      obtain ⟨v, o, ho, hc⟩ := I.cell x c e
      rw [z, ha] at ho; cases ho
      exact nC v hc
    rw [upd_ne this]; exact q
  · obtain ⟨q1, q2, q3, q4, q5⟩ := I.pin p hp
    exact ⟨q1, by rw [upd_ne (np p hp)]; exact q2, q3, q4, q5⟩
  · by_cases hb : b = a
    · subst hb
      rw [upd_same] at e
      cases e
      exact ⟨⟨oe, vs, ha, hz, hd⟩, ⟨oe, ha⟩, fun h1 h2 ⟨o1, v1, x1, x2, x3⟩ st => ⟨o1, v1, st _ x1, x2, x3⟩⟩
    · rw [upd_ne hb] at e
      exact (I.hok b o e).stay (fun _ _ _ q => q) (fun c q => by rw [upd_ne (ne_of_none q na)]; exact q) fun c xs q => by rw [upd_ne (ne_of_none q na)]; exact q
def wKeep (K : PySem.W.Frag) (c : Value) (i j : Nat) (Wout : WX) (D : Ends) : WX := fun cls d σ H =>
  ∃ b, PySem.W.exmOne K cls c = some b ∧ (b = true → ∃ C dd, cls = .ref C ∧ d = some dd ∧ ∀ a, H a = none → D.nx (((σ.set i (some (.ref a))).set j (some (.ref a))).set i none) (upd H a (ErrO C dd a))) ∧ (b = false → Wout cls d σ H)
section
variable {X : Cx} {x n m : Str} {c : Value} {i j : Nat} {body : List Stmt} {np pm pn' pa pos pos' : Pos} {tb : WX → TS} {Wout : WX}
theorem ps_try_keep (hs : X.stack = X.env :: X.outer) (hf : X.env.frame = some X.env.locals) (hex : X.ex = []) (hN : X.N.Nodup) (hi : X.N[i]? = some n) (hln : X.env.kindOf n = some .local) (hj : X.N[j]? = some m) (hlm : X.env.kindOf m = some .local) (hij : i ≠ j) (hc : Names X x c) (tk : Takes X Wout)
    (hb : ∀ (W : WX) (pn : List (Addr × Obj)) (xe : Value → Shared → Prop), Takes (X.tr pn xe) W → PassesOwn (model X.prog X.w) X.A X.env xe → PSs (X.tr pn xe) body (tb W)) (hil : ∀ σ : L2.St, σ.length = X.N.length → i < σ.length)
    (hsw : swapsWith (.Name n pn') (some (.Name m pm)) pa.line X.env = pure false := by rfl) (hcd1 : (n == ("__debug__" : Str)) = false := by decide) (hcd2 : (n == ("__classdict__" : Str)) = false := by decide) :
    PS X (.Try body [.ExceptHandler (some (.Name x np)) (some n) [.Assign [.Name m pm] (.Name n pn') pa] pos'] [] [] pos) (fun D σ H => tb (wKeep X.K c i j Wout D) D σ H) := by
  refine ⟨fun pins s σ H D I h => ?_⟩
  have ok := I.ok
  have hfr : X.A.frames = some (X.env :: X.outer) := by rw [ok.frames, hs]
  refine wpAny_Try_except (wpAny_mono ((hb (wKeep X.K c i j Wout D) (X.pn ++ pins) (fun e s₁ => wpAny (model X.prog X.w) X.A (noteFrame e X.env) (fun _ s₂ => wpAny (model X.prog X.w) X.A (setFlight e none) (fun _ s₃ =>
    wpAny (model X.prog X.w) X.A (handleBy e X.env [.ExceptHandler (some (.Name x np)) (some n) [.Assign [.Name m pm] (.Name n pn') pa] pos']) (SP X pins D) X.xe s₃) X.xe s₂) X.xe s₁) (fun u s' xx => ?_) PassesOwn.looking).run [] s σ H D (I.toTry _) h) (fun f s1 hsp => ?_) (fun e s1 he => he))
  · obtain ⟨a, B, sI, pins', σ', H', cls, d, rfl, J', nb, up, sky, na, os, ag, b, hb1, hyes, hno⟩ := xx
    have J : L2.Inv X pins σ' H' sI := J'.ofTry ok
    show wpAny (model X.prog X.w) X.A (noteFrame (.ref a) X.env) _ _ _
    refine Sky.land Zc.steady hfr hf (by rw [← hs]; exact sky) fun h3 fl3 up3 => ?_
    have J3 : L2.Inv X pins σ' H' { s' with heap := h3 } := J.landed nb fl3.1 (up.trans up3) os ag
    obtain ⟨oe3, vs3, he3, hz3, hd3⟩ := fl3.there
    have nfr : a ∉ frs (X.env :: X.outer) := fun hm => by
      obtain ⟨_, o', e', hnf⟩ := fl3.2.2.1.mem hm
      rw [he3] at e'; cases e'
      exact hnf _ hd3
    have nL : a ≠ X.env.locals := fun z => nfr (List.mem_filterMap.mpr ⟨X.env, List.mem_cons_self, by rw [hf, z]⟩)
    have nF : a ∉ X.fs := fun hm => by
      obtain ⟨e, he, q⟩ := List.mem_filterMap.mp hm
      exact nfr (List.mem_filterMap.mpr ⟨e, List.mem_cons_of_mem _ he, q⟩)
    have new0 : X.s_0.heap.get? a = none := by
      cases z : X.s_0.heap.get? a with
      | none => rfl
      | some o =>
        obtain ⟨o', e1⟩ := J.base.there a o z (by rw [hex]; simp)
        have e2 := nb a o' e1 (by rw [hs]; exact nfr)
        rw [fl3.2.1] at e2; cases e2
    have S3 := J3.suite he3 hd3 na nL nF
    refine wpAny_handleBy_cons (codeAny_handlers_test ?_) (by intro q; cases q)
    have LT : PySem.W.Looks (model X.prog X.w) h3 (typeOf (.ref a)) cls := fun A Q E s k q => wpAny_typeOf_ref (k _ _ he3) (by rw [hz3.1]; exact q)
    have LM := PySem.W.exm_one (M := model X.prog X.w) (J3.kIn) LT hb1
    have test : ∀ {Q : Value → Shared → Prop} {E : Value → Shared → Prop}, Q c { s' with heap := h3 } → wpAny (model X.prog X.w) (X.A.mark (some (.ref a))) (eval (.Name x np) X.env) Q E { s' with heap := h3 } := fun {Q E} q => by
      obtain ⟨hg, hdbg, hm | ⟨hm, hv, hnn⟩⟩ := hc
      · exact ld_glob (X := X.suite a ((a, oe3) :: (X.pn ++ pins))) S3 hg hm q hdbg
      · exact ld_blt (X := X.suite a ((a, oe3) :: (X.pn ++ pins))) S3 hg hm hv q hnn hdbg
    refine test (LM.here ?_)
    cases b with
    | true =>
      obtain ⟨C, dd, rfl, rfl, hD⟩ := hyes rfl
      refine codeAny_handlers_suite_as (HandSPX.lands_againZ fl3 fun h4 fl4 up4 => ?_)
      have J4 : L2.Inv X pins σ' H' { s' with heap := h4 } := J.landed nb fl4.1 ((up.trans up3).trans up4) os ag
      obtain ⟨oe4, vs4, he4, hz4, hd4⟩ := fl4.there
      have S4 := J4.suite he4 hd4 na nL nF
      refine store_ok (X := X.suite a ((a, oe4) :: (X.pn ++ pins))) (v := .ref a) S4 hN hi (.inl hln) rfl (fun s5 S5 => ?_) (.inr hln)
      have suite := (pss_one (ps_set (X := X.suite a ((a, oe4) :: (X.pn ++ pins))) (pos := pa) hN hj (.inl hlm) (pe_var (X := X.suite a ((a, oe4) :: (X.pn ++ pins))) (pos := pn') hi (.inl hln) hcd1 hcd2) hsw (.inr hlm))).run [] s5 _ H'
        { nx := fun σ6 H6 => σ6 = (σ'.set i (some (.ref a))).set j (some (.ref a)) ∧ H6 = H', rt := fun _ _ => False } S5 ⟨.ref a, by rw [List.getElem?_set_self (hil σ' J4.len)], rfl, rfl⟩
      refine wpAny_mono suite (fun f s6 hsp => ?_) (fun _ _ z => False.elim z)
      cases f with
      | next =>
        obtain ⟨σ6, H6, S6, q6, q7⟩ := hsp
        subst q6 q7
        -- the pin is carried through the name's end
        have T6 : L2.Inv (X.tr ((a, oe4) :: (X.pn ++ pins)) X.xe) [] ((σ'.set i (some (.ref a))).set j (some (.ref a))) H6 s6 :=
          ⟨ok.toTry _ _, S6.os, S6.bare, S6.base, S6.loc, S6.cell, S6.free, S6.freeC, S6.pin, S6.hok, S6.len⟩
        refine gone_ok (X := X.tr ((a, oe4) :: (X.pn ++ pins)) X.xe) T6 hN hi hln fun s7 J7 => ?_
        have pa7 := J7.pin (a, oe4) (List.mem_append_left _ List.mem_cons_self)
        have K7 : L2.Inv X pins _ H6 s7 := ⟨ok, J7.os, J7.bare, J7.base, J7.loc, J7.cell, J7.free, J7.freeC, fun p hp => J7.pin p (List.mem_append_left _ (List.mem_cons_of_mem _ hp)), J7.hok, J7.len⟩
        refine ⟨_, _, Inv.track K7 pa7.1 hz4 hd4 na nL pa7.2.2.2.2 new0 (fun p hp z => ?_), hD a na⟩
        -- a pin of old stands in the ground
        have q := J'.pin p (List.mem_append_left _ hp)
        have e2 := nb p.1 p.2 q.1 (fun hm => (List.mem_cons.mp (J.stkSub _ hm)).elim q.2.2.1 q.2.2.2.1)
        rw [z, fl3.2.1] at e2; cases e2
      | brk => obtain ⟨_, _, _, q6⟩ := hsp; exact False.elim q6
      | cont => obtain ⟨_, _, _, q6⟩ := hsp; exact False.elim q6
      | ret u => obtain ⟨_, _, _, _, _, q6⟩ := hsp; exact False.elim q6
    | false =>
      show wpAny _ X.A (handleBy (.ref a) X.env []) _ _ _
      refine wpAny_handleBy_nil ?_
      obtain ⟨k1, k2, k3, oe, vs, T, oT, ts', he, hz, hd, h1, hr⟩ := id fl3
      unfold PySem.passOn
      refine wpAny_bind (wpAny_field he hd h1 ?_)
      rw [if_neg (show ¬ ((Value.ref T == Value.none) = true) from by simp)]
      have fin : wpAny (model X.prog X.w) X.A (setFlight (.ref a) X.env.frame) (fun _ s4 => wpAny (model X.prog X.w) X.A (throw (.ref a) : Sem Flow) (SP X pins D) X.xe s4) X.xe { s' with heap := h3 } := by
        rw [hf]
        refine HandSPX.setFlight_upZ fl3 fun h4 hh4 up4 => wpAny_throw (tk _ _ ?_)
        exact ⟨a, B, sI, pins, σ', H', cls, d, rfl, J, nb, (up.trans up3).trans up4, .inr (.inr (by rw [hs]; exact hh4)), na, os, ag, hno rfl⟩
      first
        | exact wpAny_bind (wpAny_pure (wpAny_bind fin))
        | exact wpAny_bind fin
  · cases f with
    | next =>
      obtain ⟨σ', H', J', q⟩ := hsp
      exact wpAny_execs_nil ⟨σ', H', J'.ofTry ok, q⟩
    | brk =>
      obtain ⟨σ', H', J', q⟩ := hsp
      exact ⟨σ', H', J'.ofTry ok, q⟩
    | cont =>
      obtain ⟨σ', H', J', q⟩ := hsp
      exact ⟨σ', H', J'.ofTry ok, q⟩
    | ret u =>
      obtain ⟨v, σ', H', J', r, q⟩ := hsp
      exact ⟨v, σ', H', J'.ofTry ok, r, q⟩
end

/-! ### the same, by pure states -/
def fTryK (i j : Nat) (cat : Nat → Option Bool) (fb : SF) : SF := fun ρ s => match fb ρ s with
  | .exc c x ρ' s' => match cat c with
    | some true => .nx ((ρ'.set j (some (.exc c x))).set i none) s'
    | some false => .exc c x ρ' s'
    | none => .stk
  | .nx ρ' s' => .nx ρ' s'
  | .rt p s' => .rt p s'
  | .bk ρ' s' => .bk ρ' s'
  | .ct ρ' s' => .ct ρ' s'
  | .stk => .stk
theorem EnvSim.unset {g : G} {φ : Wm} {H : Hp} {σ : L2.St} {ρ : Sl} (E : EnvSim g φ H σ ρ) (i : Nat) : EnvSim g φ H (σ.set i none) (ρ.set i none) := by
  refine ⟨by simp [E.len], fun m q h => ?_, E.own⟩
  by_cases hm : m = i
  · subst hm
    by_cases hlt : m < ρ.length
    · rw [List.getElem?_set_self hlt] at h; cases h
    · rw [List.getElem?_eq_none (by simpa using hlt)] at h; cases h
  · rw [List.getElem?_set_ne (Ne.symm hm)] at h ⊢
    obtain ⟨u, a, b⟩ := E.at_ m q h
    exact ⟨u, a, b⟩
section
variable {g : G} {W : WX} {X : Cx} {x n m : Str} {c0 : Nat} {i j : Nat} {body : List Stmt} {np pm pn' pa pos pos' : Pos} {fb : SF} {cat : Nat → Option Bool}
theorem s_tryK (hX : InG g X) (hs : X.stack = X.env :: X.outer) (hf : X.env.frame = some X.env.locals) (hex : X.ex = []) (hN : X.N.Nodup) (hi : X.N[i]? = some n) (hln : X.env.kindOf n = some .local) (hj : X.N[j]? = some m) (hlm : X.env.kindOf m = some .local) (hij : i ≠ j)
    (hm : g.mg x = some (.ref (g.cls c0))) (hcat : ∀ c b, cat c = some b → PySem.W.exmOne g.K (.ref (g.cls c)) (.ref (g.cls c0)) = some b) (tk : Takes X W)
    (hb : ∀ (W' : WX) (pn : List (Addr × Obj)) (xe : Value → Shared → Prop), Takes (X.tr pn xe) W' → PassesOwn (model X.prog X.w) X.A X.env xe → PSs (X.tr pn xe) body (rS g W' fb)) (hg : Gl X x := by rfl) (hdb : (x == ("__debug__" : Str)) = false := by decide)
    (hsw : swapsWith (.Name n pn') (some (.Name m pm)) pa.line X.env = pure false := by rfl) (hcd1 : (n == ("__debug__" : Str)) = false := by decide) (hcd2 : (n == ("__classdict__" : Str)) = false := by decide) :
    PS X (.Try body [.ExceptHandler (some (.Name x np)) (some n) [.Assign [.Name m pm] (.Name n pn') pa] pos'] [] [] pos) (rS g W (fTryK i j cat fb)) := by
  refine ps_of (ps_try_keep hs hf hex hN hi hln hj hlm hij ⟨hg, hdb, .inl (by rw [hX.mg]; exact hm)⟩ tk hb (fun σ hl => by rw [hl]; exact (List.getElem?_eq_some_iff.mp hi).1) hsw hcd1 hcd2) ?_
  rintro D σ H ⟨φ, ρ, s, S, E, q⟩
  refine ⟨φ, ρ, s, S, E, ?_⟩
  unfold fTryK at q
  cases z : fb ρ s with
  | nx ρ' s' => rw [z] at q; exact q
  | rt p s' => rw [z] at q; exact q
  | bk ρ' s' => rw [z] at q; exact q
  | ct ρ' s' => rw [z] at q; exact q
  | stk => rw [z] at q; exact q
  | exc c p ρ' s' =>
    rw [z] at q
    simp only at q
    intro φ' H' d u σ' e' S' E' hd hn R
    cases z2 : cat c with
    | none => simp only [z2] at q; exact q.elim
    | some b =>
      simp only [z2] at q
      refine ⟨b, by rw [hX.K]; exact hcat c b z2, fun hb => ?_, fun hb => ?_⟩
      · subst hb
        refine ⟨_, _, rfl, rfl, fun a na => ?_⟩
        have le : Le φ' H' φ' (upd H' a (ErrO (g.cls c) d a)) := S'.lenew na
        have sw : ((σ'.set i (some (V.ref a))).set j (some (V.ref a))).set i none = (σ'.set j (some (V.ref a))).set i none := by
          rw [List.set_comm _ _ hij, List.set_set]
        rw [sw]
        refine q φ' _ _ (e'.trans le) (S'.new na) (((E'.mono le).set j ?_).unset i)
        simp only [Rep]
        exact ⟨a, d, u, rfl, upd_same, S'.fresh na, by rw [upd_ne (ne_of_none hd na)]; exact hd, hn, R.mono le⟩
      · subst hb
        exact q φ' H' d u σ' e' S' E' hd hn R
end

/-! ### isinstance -/
def tyS : PV → Option String
  | .non => some "NoneType"
  | .bl _ => some "bool"
  | .int _ => some "int"
  | .str _ => some "str"
  | .tup _ => some "tuple"
  | .tmp _ => some "list"
  | .kl _ => some "list"
  | .loc _ => some "list"
  | _ => none
def isiB (a b : String) : Option Bool := if b = "int" then some (a == "int" || a == "bool") else if b = "bool" then some (a == "bool") else if b = "tuple" then some (a == "tuple") else if b = "list" then some (a == "list") else if b = "str" then some (a == "str") else none
theorem isiB_ok {p : PV} {a n : String} {b : Bool} (h : tyS p = some a) (e : isiB a n = some b) : kitB a n = some b := by
  have ha : a = "NoneType" ∨ a = "bool" ∨ a = "int" ∨ a = "str" ∨ a = "tuple" ∨ a = "list" := by
    cases p <;> simp only [tyS, Option.some.injEq, reduceCtorEq] at h <;> subst h <;> simp
  unfold isiB at e
  split at e
  · rename_i h2; subst h2; rcases ha with rfl | rfl | rfl | rfl | rfl | rfl <;> cases e <;> decide +kernel
  split at e
  · rename_i h2; subst h2; rcases ha with rfl | rfl | rfl | rfl | rfl | rfl <;> cases e <;> decide +kernel
  split at e
  · rename_i h2; subst h2; rcases ha with rfl | rfl | rfl | rfl | rfl | rfl <;> cases e <;> decide +kernel
  split at e
  · rename_i h2; subst h2; rcases ha with rfl | rfl | rfl | rfl | rfl | rfl <;> cases e <;> decide +kernel
  split at e
  · rename_i h2; subst h2; rcases ha with rfl | rfl | rfl | rfl | rfl | rfl <;> cases e <;> decide +kernel
  · cases e
theorem tyX_of {g : G} {φ : Wm} {H : Hp} {s : Sto} {p : PV} {v : V} {a : String} (S : Sim g φ H s) (R : Rep g φ H p v) (h : tyS p = some a) : TyX g.K H v (.type a) := by
  cases p with
  | non => simp only [tyS, Option.some.injEq] at h; subst h; rw [rep_non.mp R]; exact .base .non
  | bl b => simp only [tyS, Option.some.injEq] at h; subst h; rw [rep_bl.mp R]; exact .base (.bl b)
  | int b => simp only [tyS, Option.some.injEq] at h; subst h; rw [rep_int.mp R]; exact .base (.int b)
  | str b => simp only [tyS, Option.some.injEq] at h; subst h; rw [rep_str.mp R]; exact .base (.str b)
  | tup xs =>
    simp only [tyS, Option.some.injEq] at h; subst h
    obtain ⟨a, vs, rfl, t, r⟩ := rep_tup R
    rcases t with ⟨q | ⟨o, q⟩, _⟩ | ⟨o, its, n, q, c, _⟩
    · exact .base (.tup q)
    · exact .fTuple q
    · exact .kTuple q c
  | tmp xs =>
    simp only [tyS, Option.some.injEq] at h; subst h
    simp only [Rep] at R
    obtain ⟨a, vs, rfl, t, _⟩ := R
    exact .base (.lst t)
  | kl xs =>
    simp only [tyS, Option.some.injEq] at h; subst h
    simp only [Rep] at R
    obtain ⟨a, vs, rfl, t, _⟩ := R
    rcases t with ⟨⟨o, q⟩, _⟩ | ⟨o, its, n, q, c, _⟩
    · exact .base (.frz q)
    · exact .kList q c
  | loc l =>
    simp only [tyS, Option.some.injEq] at h; subst h
    simp only [Rep] at R
    obtain ⟨a, rfl, hl⟩ := R
    obtain ⟨o, ho, r⟩ := S.there hl
    cases o with
    | lst ys => obtain ⟨vs, h1, h2⟩ := r; exact .base (.lst h1)
    | flst ys => obtain ⟨o, vs, h1, h2⟩ := r; exact .base (.frz h1)
  | _ => simp [tyS] at h
def rIsiP (K : PySem.W.Frag) : List V → Hp → VK → Prop := fun xs H Q => rIsi K xs H Q ∨ ∃ (a C D d : Addr) (fs : List (Str × V)) (b : Bool), xs = [.ref a, .ref D] ∧ H a = some (ErrO C d a) ∧ H d = some (.xd fs) ∧ ExcC K C ∧ PySem.W.kitOne K (.ref C) (.ref D) = some b ∧ Q (.bl b) H
theorem errO_at {P : Program} {w : World} {H : Hp} {h : Heap} {a C d : Addr} {fs : List (Str × V)} (ok : HOk P w H h) (e : H a = some (ErrO C d a)) (ed : H d = some (.xd fs)) :
    ∃ (oe od : Obj), PySem.W.InstAt h a oe C (some od) ∧ ∃ mA : Str → Option Value, (∀ n, PySem.W.lookIn n od = some (mA n)) ∧ ∀ f, RelO (fs.lookup f) (mA f) := by
  obtain ⟨⟨oe, vs, h1, h2, h3⟩, _, _⟩ := (show ObjOk P w H h a (ErrO C d a) from ok a _ e)
  obtain ⟨mA, hn, hr⟩ := (show ObjOk P w H h d (.xd fs) from ok d _ ed)
  obtain ⟨od, ho, hl⟩ := lookIn_ns hn
  exact ⟨oe, od, ⟨h1, h2.1, by unfold PySem.W.notCls; rw [h3], by rw [h2.2]; exact ho⟩, mA, hl, hr⟩
theorem call_isiP {X : Cx} : CallR X (.builtin "isinstance") (rIsiP X.K) := by
  intro pins s σ H xs us Q I r h
  rcases h with h | ⟨a, C, D, d, fs, b, rfl, ha, hd, ec, e, q⟩
  · exact call_isi pins s σ H xs us Q I r h
  · obtain ⟨u1, u2, rfl, r1, r2⟩ := r.two
    obtain rfl : u1 = Value.ref a := r1
    obtain rfl : u2 = Value.ref D := r2
    obtain ⟨oe, od, J, _⟩ := errO_at I.hok ha hd
    obtain ⟨cd, hc, _⟩ := PySem.W.any_some ec.hd
    exact PySem.W.kia_one (PySem.W.kitx_exc (by rw [hc]; rfl) ec.hg ec.hk ec.hs ec.ha ec.hn ec.ht ec.hm) I.kIn J e (fun z => nomatch z) fun tk => ⟨.bl b, H, I.tok tk, rfl, q⟩
def oIsi (isC : Nat → Nat → Option Bool) (ps : List PV) (_ : Sto) : Option PV := match ps with
  | [.exc c _, .cls d] => (isC c d).map .bl
  | [p, .ty n] => (tyS p).bind fun a => (isiB a n).map .bl
  | _ => none
theorem o_isi {g : G} {isC : Nat → Nat → Option Bool} (hC : ∀ c d b, isC c d = some b → ExcC g.K (g.cls c) ∧ PySem.W.kitOne g.K (.ref (g.cls c)) (.ref (g.cls d)) = some b) : CallS g (rIsiP g.K) (oIsi isC) := by
  intro φ H s ps z vs Q S R e k
  unfold oIsi at e
  split at e
  · rename_i c x d
    rw [Option.map_eq_some_iff] at e
    obtain ⟨b, e, rfl⟩ := e
    obtain ⟨v, u, rfl, h1, h2⟩ := reps2 R
    simp only [Rep] at h1 h2
    obtain ⟨a, d', u', rfl, k1, _, k2, _, _⟩ := h1
    subst h2
    exact .inr ⟨a, _, _, d', _, b, rfl, k1, k2, (hC c d b e).1, (hC c d b e).2, k φ H _ (Le.refl _ _) S (rep_bl.mpr rfl)⟩
  · rename_i p n
    rw [Option.bind_eq_some_iff] at e
    obtain ⟨a, e1, e2⟩ := e
    rw [Option.map_eq_some_iff] at e2
    obtain ⟨b, e2, rfl⟩ := e2
    obtain ⟨v, u, rfl, h1, h2⟩ := reps2 R
    obtain rfl := rep_ty.mp h2
    exact .inl ⟨v, .ty n, .type a, .type n, b, rfl, .ty n, tyX_of S h1 e1, kit_ty (isiB_ok e1 e2), k φ H _ (Le.refl _ _) S (rep_bl.mpr rfl)⟩
  · cases e

/-! ### error.value -/
def fVal (okc : Nat → Bool) (fe : EF) : EF := fun ρ s => (fe ρ s).bind fun p s1 => match p with
  | .exc c x => if okc c = true then .ok x s1 else .stk
  | _ => .stk
theorem x_val {g : G} {W : WX} {X : Cx} {e : Expr} {fe : EF} {pos : Pos} {D fI : Addr} {okc : Nat → Bool} (hX : InG g X) (hC : ∀ c, okc c = true → ErrC g D fI c) (he : PE X e (rE g W fe)) (hb : attributeBase e "value" X.env (eval e X.env) = eval e X.env := by rfl) :
    PE X (.Attribute e "value" pos) (rE g W (fVal okc fe)) := by
  refine ⟨fun pins s σ H Q I h => ?_⟩
  obtain ⟨φ, ρ, st, S, E, q⟩ := h
  refine attr_of hb (thn (he.run pins s σ H _ I (seqEE (R := fun v H1 => ∃ a C d u, v = .ref a ∧ H1 a = some (ErrO C d a) ∧ H1 d = some (.xd [(("value" : Str), u)]) ∧ ExcC g.K C ∧ PySem.W.findIn g.K (.ref C) "value" = some none ∧ Q u H1) S E q fun φ1 H1 s1 p v e1 S1 R1 q1 => ?_)) fun u s1 hh => ?_)
  · cases p with
    | exc c x =>
      simp only [Rep] at R1
      obtain ⟨a, d, u, rfl, k1, _, k2, _, k3⟩ := R1
      by_cases hc : okc c = true
      · simp only [if_pos hc] at q1
        have ec := hC c hc
        exact ⟨a, _, d, u, rfl, k1, k2, ec.ex, ec.wc.no, q1 φ1 H1 u (Le.refl _ _) S1 k3⟩
      · simp only [if_neg hc] at q1; exact q1.elim
    | _ => exact q1.elim
  · obtain ⟨x, H1, I1, rx, a, C, d, y, rfl, k1, k2, ec, hno, q2⟩ := hh
    obtain rfl : u = Value.ref a := rx
    obtain ⟨oe, od, J, mA, hl, hr⟩ := errO_at I1.hok k1 k2
    obtain ⟨w, hw, rw'⟩ := RelO.some_of (v := y) (o := mA "value") (by have := hr "value"; simpa [List.lookup] using this)
    rw [← hX.K] at ec hno
    exact HandSPX.exc_get I1.kIn J ec.hg ec.hk ec.hs (PySem.W.findObj_own ec.hd hno rfl (by rw [hl, hw])) (handed_of rw') ⟨y, H1, I1.tok _, rw', q2⟩
end Pv

/-! Pv11: lambdas as values: made, called, their frame suspended. -/
namespace Pv
open PySem PySem.Spec PyProof.Rows L2

/-! ### a lambda is made -/
section
variable {X : Cx} {pins : List (Addr × Obj)} {σ : L2.St} {H : Hp} {s : Shared}
theorem inv_lam {F : LF} {t' : Nat} {pm ctv : Value} (I : L2.Inv X pins σ H s) :
    L2.Inv X pins σ (upd H s.heap.objs.size (LamO s.heap.objs.size F)) { s with heap := s.heap.push (PySem.W.kla_obj "<lambda>" F.qual F.params F.body F.scope F.cl pm F.c ctv), toks := t' } := by
  refine I.laid (a := s.heap.objs.size) (fun b u e => Heap.get?_push_of_some _ e) (Nat.le_refl _) ?_
  have e : (s.heap.push (PySem.W.kla_obj "<lambda>" F.qual F.params F.body F.scope F.cl pm F.c ctv)).get? s.heap.objs.size = some (PySem.W.kla_obj "<lambda>" F.qual F.params F.body F.scope F.cl pm F.c ctv) := Heap.get?_push_size _ rfl
  exact ⟨⟨pm, ctv, e⟩, ⟨_, e⟩, fun h1 h2 ⟨p, t, z⟩ st => ⟨p, t, st _ z⟩⟩
theorem lam_makeT {T : List NdefX.NTab} {nm : Nat → Nat → Str} {c P : Addr} {params : Arguments} {body : Expr} {scope : Scope} {pos : Pos} {E : Value → Shared → Prop} {Q : Value → Shared → Prop} (I : L2.Inv X pins σ H s) (TB : LamX.TabB X.base X.mg c P) (hcode : X.env.code = .ref c)
    (hm : (P, nm) ∈ T) (hn : nm pos.line pos.col = X.env.qual ++ "<lambda>") (hu : ∀ p ∈ T, p.1 = P → p.2 = nm) (hT : NdefX.TabsN T H) (hdef : defaultsOf params X.env = ([], [])) (hfree : ∀ y ∈ scope.names, y.2 = .free → ∃ c, X.env.cells.lookup y.1 = some c)
    (h : ∀ (f c' : Addr) (H1 : Hp) (s' : Shared), L2.Inv X pins σ H1 s' → LamX.ExtN H H1 → (∀ b, H1 b = Option.none → H b = Option.none) → NdefX.TabsN T H1 → H f = none → H1 f = some (LamO f ⟨X.env.qual ++ "<lambda>", params, body, scope, cloFrom X.env.cells scope.names [], c'⟩) → H1 c' = some (LamX.CodeO c' (X.env.qual ++ "<lambda>")) → Q (.ref f) s') :
    wpAny (model X.prog X.w) X.A (eval (.Lambda params body scope pos) X.env) Q E s := by
  obtain ⟨ps, hP, ht, ha⟩ := (show NdefX.TabN H P nm from hT _ hm)
  refine PySem.W.kla_eval hdef ?_
  have bP : s.heap.BuiltinsAt X.mg P := TB.bm.keeps I.bk
  have hP' : s.heap.get? P = some { cls := .none, data := .fields ps } := I.hok P _ hP
  cases hc : codeAmong pos ps.toList with
  | none =>
    refine PySem.W.kla_makeFunction (mg := X.mg) (c := c) (P := P) (ps := ps) (closure_ok hfree) I.ok.glob (I.mod.glob.keeps I.bk) hcode (TB.code.keeps I.bk) hP' ht hc TB.gP bP fun c' ctv h' tk hx hge hlt hrec htb => ?_
    obtain ⟨c2, oc, vs, t, e2, hoc, hd, hv⟩ := hrec
    cases e2
    have nC : H c' = none := I.hok.fresh hge
    have I1 := LamX.inv_table (t' := tk) (more := #[rawInt pos.line, rawInt pos.col, .ref c']) (h' := h') I hP (fun b o hb e => hx b o hb e) htb hge ⟨oc, vs, t, hoc, hd, hv⟩
    have hE : LamX.ExtN H (upd (upd H P (.tbl (ps ++ #[rawInt pos.line, rawInt pos.col, .ref c']))) c' (LamX.CodeO c' (X.env.qual ++ "<lambda>"))) := fun b o e n => by
      rw [upd_ne (ne_of_none e nC), upd_ne (fun z => n ps (Option.some.inj (e.symm.trans (by rw [z]; exact hP))))]
      exact e
    have eL : (ps ++ #[rawInt pos.line, rawInt pos.col, .ref c']).toList = ps.toList ++ [rawInt pos.line, rawInt pos.col, .ref c'] := by simp
    have T1 : NdefX.TabsN T (upd (upd H P (.tbl (ps ++ #[rawInt pos.line, rawInt pos.col, .ref c']))) c' (LamX.CodeO c' (X.env.qual ++ "<lambda>"))) := fun p hp => by
      by_cases hb : p.1 = P
      · rw [hu p hp hb, hb]
        refine ⟨_, by rw [upd_ne (ne_of_none hP nC), upd_same], by rw [eL]; exact PySem.TriplesOk_snoc _ _ _ _ ht, fun p' cv hcv => ?_⟩
        rw [eL] at hcv
        rcases NdefX.among_app2 _ ht hcv with z | ⟨z, z1, z2⟩
        · obtain ⟨c0, e1, e2⟩ := ha p' cv z
          exact ⟨c0, e1, hE _ _ e2 LamX.codeO_ne⟩
        · refine ⟨c', z, ?_⟩
          rw [← z1, ← z2, hn]
          exact upd_same
      · obtain ⟨ps', a1, a2, a3⟩ := hT p hp
        refine ⟨ps', by rw [upd_ne (ne_of_none a1 nC), upd_ne hb]; exact a1, a2, fun p' cv hcv => ?_⟩
        obtain ⟨c0, e1, e2⟩ := a3 p' cv hcv
        exact ⟨c0, e1, hE _ _ e2 LamX.codeO_ne⟩
    have nF := I1.hok.fresh (Nat.le_refl _)
    have I2 := inv_lam (F := ⟨X.env.qual ++ "<lambda>", params, body, scope, cloFrom X.env.cells scope.names [], c'⟩) (t' := tk) (pm := (X.mg "__name__").getD .none) (ctv := ctv) I1
    refine h h'.objs.size c' _ _ I2 (fun b o e n => ?_) (fun b e => NdefX.upd_none (NdefX.upd_none (NdefX.upd_none e))) (T1.ext fun b o e => ?_) (I.hok.fresh (Nat.le_trans hge (Nat.le_of_lt hlt))) upd_same ?_
    · have e1 := hE b o e n
      exact (upd_ne (ne_of_none e1 nF)).trans e1
    · exact (upd_ne (ne_of_none e nF)).trans e
    · exact (upd_ne (Nat.ne_of_lt hlt)).trans upd_same
  | some cv =>
    obtain ⟨c', e, hco⟩ := ha pos cv hc
    subst e
    rw [hn] at hco
    refine PySem.W.kla_makeFunctionHit (mg := X.mg) (c := c) (P := P) (ps := ps) (closure_ok hfree) I.ok.glob (I.mod.glob.keeps I.bk) hcode (TB.code.keeps I.bk) hP' ht hc bP fun ctv h' tk hx hsz => ?_
    have I1 : L2.Inv X pins σ H { s with heap := h', toks := tk } := I.kept hx
    have nF : H h'.objs.size = none := I1.hok.fresh (Nat.le_refl _)
    have I2 := inv_lam (F := ⟨X.env.qual ++ "<lambda>", params, body, scope, cloFrom X.env.cells scope.names [], c'⟩) (t' := tk) (pm := (X.mg "__name__").getD .none) (ctv := ctv) I1
    refine h h'.objs.size c' _ _ I2 (fun b o e n => ?_) (fun b e => NdefX.upd_none e) (hT.ext fun b o e => ?_) nF upd_same ?_
    · exact (upd_ne (ne_of_none e nF)).trans e
    · exact (upd_ne (ne_of_none e nF)).trans e
    · exact (upd_ne (ne_of_none hco nF)).trans hco
end
section
variable {g : G} {φ : Wm} {H H1 : Hp} {s : Sto}
theorem Le.extN (e : LamX.ExtN H H1) : Le φ H φ H1 := ⟨List.prefix_refl _, List.prefix_refl _, rfl, fun a o h t n => ⟨e a o h t, n⟩⟩
theorem Sim.extN (S : Sim g φ H s) (e : LamX.ExtN H H1) (t : NdefX.TabsN g.T H1) : Sim g φ H1 s := by
  have le : Le φ H φ H1 := Le.extN e
  refine ⟨S.len, S.nd, fun l o a h1 h2 => ?_, S.nf, fun a ha => ?_, t, S.susp.mono le⟩
  · have r := S.obj l o a h1 h2
    cases o with
    | lst xs => obtain ⟨vs, r1, r2⟩ := r; exact ⟨vs, e a _ r1 (fun _ z => nomatch z), r2.mono le⟩
    | flst xs => obtain ⟨u, vs, r1, r2⟩ := r; exact ⟨u, vs, e a _ r1 (fun _ z => nomatch z), r2.mono le⟩
  · obtain ⟨⟨vs, e1⟩, n⟩ := S.prv a ha
    exact ⟨⟨vs, e a _ e1 (fun _ z => nomatch z)⟩, n⟩
end
def fLam (k fid : Nat) : EF := fun _ s => .ok (.clo k fid) s
section
variable {g : G} {W : WX} {X : Cx} {params : Arguments} {body : Expr} {scope : Scope} {pos : Pos} {k fid : Nat} {c P : Addr} {nm : Nat → Nat → Str}
theorem x_lam (TB : LamX.TabB X.base X.mg c P) (hcode : X.env.code = .ref c) (hm : (P, nm) ∈ g.T) (hn : nm pos.line pos.col = X.env.qual ++ "<lambda>") (hu : ∀ p ∈ g.T, p.1 = P → p.2 = nm) (hown : g.own = some (fid, X.env.cells))
    (hlam : ∀ c', g.lam k X.env.cells c' = ⟨X.env.qual ++ "<lambda>", params, body, scope, cloFrom X.env.cells scope.names [], c'⟩) (hdef : defaultsOf params X.env = ([], [])) (hfree : ∀ y ∈ scope.names, y.2 = .free → X.env.scope.names.lookup y.1 = some .cell ∨ X.env.scope.names.lookup y.1 = some .free) :
    PE X (.Lambda params body scope pos) (rE g W (fLam k fid)) := by
  refine ⟨fun pins s σ H Q I h => ?_⟩
  obtain ⟨φ, ρ, st, S, E, q⟩ := h
  refine lam_makeT I TB hcode hm hn hu S.tabs hdef (fun y hy e => (hfree y hy e).elim (fun z => I.ok.has _ (.inl z)) fun z => I.ok.has _ (.inr z)) fun f c' H1 s' I1 eN _ T1 f0 f1 c1 => ?_
  have le : Le φ H φ H1 := Le.extN eN
  have S1 := S.extN eN T1
  refine ⟨.ref f, H1, I1, rfl, q φ H1 _ le S1 ?_⟩
  simp only [Rep]
  refine ⟨f, c', X.env.cells, ⟨rfl, by rw [hlam]; exact fun y hy e => (hfree y hy e).elim (fun z => I.ok.has _ (.inl z)) fun z => I.ok.has _ (.inr z)⟩, E.own _ hown, by rw [hlam]; exact f1, S.fresh f0, by rw [hlam]; exact c1, fun hm => ?_⟩
  obtain ⟨l, hl⟩ := List.mem_iff_getElem?.mp hm
  obtain ⟨o, _, r⟩ := S1.there hl
  exact r.next _ c1
end
end Pv

/-! Pv12: a frame's cells are set aside while it calls; a lambda called with its frame's cells. -/
namespace Pv
open PySem PySem.Spec PyProof.Rows L2

/-- what stands in the abstract heap for an object that is known and let be -/
abbrev frzO (o : Obj) : HO := .frz o (.ext fun _ => True)
def isCell (cs : List (Str × Addr)) (b : Addr) : Prop := ∃ y : Str, cs.lookup y = some b
open Classical in
/-- the cells are not tracked -/
noncomputable def dropC (cs : List (Str × Addr)) (H : Hp) : Hp := fun b => if isCell cs b then none else H b
open Classical in
/-- the cells are as H has them, all else is as H' has it -/
noncomputable def backC (cs : List (Str × Addr)) (H H' : Hp) : Hp := fun b => if isCell cs b then H b else H' b
open Classical in
/-- the cells are known -/
noncomputable def frzC (cs : List (Str × Addr)) (h : Heap) (H : Hp) : Hp := fun b => if isCell cs b then (h.get? b).map frzO else H b
section
variable {cs : List (Str × Addr)} {H H' : Hp} {h : Heap} {b : Addr}
theorem dropC_y (c : isCell cs b) : dropC cs H b = none := if_pos c
theorem dropC_n (c : ¬ isCell cs b) : dropC cs H b = H b := if_neg c
theorem backC_y (c : isCell cs b) : backC cs H H' b = H b := if_pos c
theorem backC_n (c : ¬ isCell cs b) : backC cs H H' b = H' b := if_neg c
theorem frzC_y (c : isCell cs b) : frzC cs h H b = (h.get? b).map frzO := if_pos c
theorem frzC_n (c : ¬ isCell cs b) : frzC cs h H b = H b := if_neg c
end
/-- the cells stand as known ones -/
def Kn (cs : List (Str × Addr)) (H : Hp) : Prop := ∀ b, isCell cs b → ∃ o v, H b = some (frzO o) ∧ o.data = .cell v
section
variable {g : G} {φ φ' : Wm} {H H' H1 : Hp} {s : Sto} {cs : List (Str × Addr)}
theorem Kn.not {a : Addr} {u : HO} (k : Kn cs H) (h : H a = some u) (d : ∀ o, u ≠ frzO o) : ¬ isCell cs a := fun c => by
  obtain ⟨o, v, e, _⟩ := k a c
  rw [h] at e
  exact d o (Option.some.inj e)
mutual
theorem Rep.noC (k : Kn cs H) : ∀ {p : PV} {v : V}, Rep g φ H p v → Rep g φ (dropC cs H) p v
  | .non, v, h => by simpa only [Rep] using h
  | .bl b, v, h => by simpa only [Rep] using h
  | .int i, v, h => by simpa only [Rep] using h
  | .str x, v, h => by simpa only [Rep] using h
  | .ty n, v, h => by simpa only [Rep] using h
  | .cls c, v, h => by simpa only [Rep] using h
  | .tup xs, v, h => by
    simp only [Rep] at h ⊢
    obtain ⟨a, vs, h1, h2, h3⟩ := h
    refine ⟨a, vs, h1, ?_, Reps.noC k h3⟩
    rcases h2 with ⟨q | ⟨o, q⟩, n⟩ | q
    · exact .inl ⟨.inl (by rw [dropC_n (k.not q fun o z => nomatch z)]; exact q), n⟩
    · exact .inl ⟨.inr ⟨o, by rw [dropC_n (k.not q fun o z => by cases z)]; exact q⟩, n⟩
    · exact .inr q
  | .tmp xs, v, h => by
    simp only [Rep] at h ⊢
    obtain ⟨a, vs, h1, h2, h4, h5, h3⟩ := h
    exact ⟨a, vs, h1, by rw [dropC_n (k.not h2 fun o z => nomatch z)]; exact h2, h4, h5, Reps.noC k h3⟩
  | .kl xs, v, h => by
    simp only [Rep] at h ⊢
    obtain ⟨a, vs, h1, h2, h3⟩ := h
    exact ⟨a, vs, h1, h2.map fun o q n => ⟨by rw [dropC_n (k.not q fun o z => by cases z)]; exact q, n⟩, Reps.noC k h3⟩
  | .loc l, v, h => by simpa only [Rep] using h
  | .exc c x, v, h => by
    simp only [Rep] at h ⊢
    obtain ⟨a, d, u, h1, h2, h3, h4, h5, h6⟩ := h
    exact ⟨a, d, u, h1, by rw [dropC_n (k.not h2 fun o z => nomatch z)]; exact h2, h3, by rw [dropC_n (k.not h4 fun o z => nomatch z)]; exact h4, h5, Rep.noC k h6⟩
  | .clo j fid, v, h => by
    simp only [Rep] at h ⊢
    obtain ⟨f, c, cs', h1, h2, h3, h4, h5, h6⟩ := h
    exact ⟨f, c, cs', h1, h2, by rw [dropC_n (k.not h3 fun o z => by cases z)]; exact h3, h4, by rw [dropC_n (k.not h5 fun o z => by cases z)]; exact h5, h6⟩
theorem Reps.noC (k : Kn cs H) : ∀ {xs : List PV} {vs : List V}, Reps g φ H xs vs → Reps g φ (dropC cs H) xs vs
  | [], vs, h => by simpa only [Reps] using h
  | x :: xs, vs, h => by
    simp only [Reps] at h ⊢
    obtain ⟨v, r, h1, h2, h3⟩ := h
    exact ⟨v, r, h1, Rep.noC k h2, Reps.noC k h3⟩
end
def Sto.susp0 (s : Sto) (l : List (Nat × List (Str × PV))) : Sto := { s with susp := l }
theorem Sim.drop (S : Sim g φ H s) (k : Kn cs H) : Sim g φ (dropC cs H) (s.susp0 []) := by
  refine ⟨S.len, S.nd, fun l o a h1 h2 => ?_, S.nf, fun a ha => ?_, fun p hp => ?_, fun p hp => nomatch hp⟩
  · have r := S.obj l o a h1 h2
    cases o with
    | lst xs => obtain ⟨vs, r1, r2⟩ := r; exact ⟨vs, by rw [dropC_n (k.not r1 fun o z => nomatch z)]; exact r1, r2.noC k⟩
    | flst xs => obtain ⟨u, vs, r1, r2⟩ := r; exact ⟨u, vs, by rw [dropC_n (k.not r1 fun o z => by cases z)]; exact r1, r2.noC k⟩
  · obtain ⟨⟨vs, e1⟩, n⟩ := S.prv a ha
    exact ⟨⟨vs, by rw [dropC_n (k.not e1 fun o z => nomatch z)]; exact e1⟩, n⟩
  · obtain ⟨ps, a1, a2, a3⟩ := S.tabs p hp
    refine ⟨ps, by rw [dropC_n (k.not a1 fun o z => nomatch z)]; exact a1, a2, fun pos cv hc => ?_⟩
    obtain ⟨d, e1, e2⟩ := a3 pos cv hc
    exact ⟨d, e1, by rw [dropC_n (k.not e2 fun o z => by cases z)]; exact e2⟩
theorem Sim.susp1 {l : List (Nat × List (Str × PV))} (S : Sim g φ H s) (h : SuspOk g φ H l) : Sim g φ H (s.susp0 l) := ⟨S.len, S.nd, S.obj, S.nf, S.prv, S.tabs, h⟩
theorem hok_drop {P : Program} {w : World} {h : Heap} (x : HOk P w H h) (k : Kn cs H) : HOk P w (dropC cs H) h := fun b o e => by
  have nc : ¬ isCell cs b := fun c => by rw [dropC_y c] at e; cases e
  rw [dropC_n nc] at e
  exact (x b o e).stay (fun _ _ _ q => q) (fun c q => by rw [dropC_n (k.not q fun o z => nomatch z)]; exact q) fun c xs q => by rw [dropC_n (k.not q fun o z => nomatch z)]; exact q
/-- what had the cells not, then with them -/
theorem Le.frz {h : Heap} (n : ∀ b, isCell cs b → H b = none) : Le φ H φ (frzC cs h H) :=
  ⟨List.prefix_refl _, List.prefix_refl _, rfl, fun a o e _ m => ⟨by rw [frzC_n (fun c => by rw [n a c] at e; cases e)]; exact e, m⟩⟩
theorem Le.undrop {h : Heap} (n : ∀ b, isCell cs b → H b = none) (e : Le φ (frzC cs h H) φ' H') : Le φ H φ' (dropC cs H') :=
  ⟨e.locs, e.frs, e.prv, fun a o q t m => by
    have nc : ¬ isCell cs a := fun c => by rw [n a c] at q; cases q
    have r := e.old a o (by rw [frzC_n nc]; exact q) t m
    exact ⟨by rw [dropC_n nc]; exact r.1, r.2⟩⟩
theorem Le.drop (k : Kn cs H) (e : Le φ (dropC cs H) φ' H') (hn : ∀ b, isCell cs b → b ∉ φ'.locs) : Le φ H φ' (backC cs H H') :=
  ⟨e.locs, e.frs, e.prv, fun a o q t m => by
    by_cases c : isCell cs a
    · exact ⟨by rw [backC_y c]; exact q, hn a c⟩
    · have r := e.old a o (by rw [dropC_n c]; exact q) t m
      exact ⟨by rw [backC_n c]; exact r.1, r.2⟩⟩
theorem backC_drop : backC cs H (dropC cs H') = backC cs H H' := by
  funext b
  by_cases c : isCell cs b
  · rw [backC_y c, backC_y c]
  · rw [backC_n c, backC_n c, dropC_n c]
end

/-! ### the call's end, with the cells as they were -/
section
variable {P : Program} {w : World} {outer : List Env} {H : Hp} {s s' : Shared} {Q : VK} {E : XK} {r : Result} {cs : List (Str × Addr)}
theorem kn_frz (hc : ∀ b, isCell cs b → ∃ o v, s.heap.get? b = some o ∧ o.data = .cell v) : Kn cs (frzC cs s.heap H) := fun b c => by
  obtain ⟨o, v, e, d⟩ := hc b c
  exact ⟨o, v, by rw [frzC_y c, e]; rfl, d⟩
theorem kn_le {φ φ' : Wm} {H H' : Hp} (k : Kn cs H) (n : ∀ b, isCell cs b → b ∉ φ.locs) (e : Le φ H φ' H') : Kn cs H' := fun b c => by
  obtain ⟨o, v, q, d⟩ := k b c
  exact ⟨o, v, (e.old b _ q (fun _ z => nomatch z) (n b c)).1, d⟩
theorem env0_frz {K : PySem.W.Frag} {mg : Str → Option Value} {base : Heap} {A : Around} (e : Env0 P w K mg base A outer s H) (n : ∀ b, isCell cs b → H b = none) (hc : ∀ b, isCell cs b → ∃ o v, s.heap.get? b = some o ∧ o.data = .cell v)
    (nb : ∀ b, isCell cs b → base.get? b = none) (nf : ∀ b, isCell cs b → b ∉ frs outer) : Env0 P w K mg base A outer s (frzC cs s.heap H) := by
  refine ⟨e.frames, e.mod, fun b o q => ⟨(e.bs b o q).1, ?_⟩, e.bsz, e.funs, fun b hb => ?_, fun b o q => ?_, e.bare⟩
  · rw [frzC_n (fun c => by rw [nb b c] at q; cases q)]; exact (e.bs b o q).2
  · rw [frzC_n (fun c => nf b c hb)]; exact e.frf b hb
  · by_cases c : isCell cs b
    · obtain ⟨o', v, e1, _⟩ := hc b c
      rw [frzC_y c, e1] at q
      cases q
      exact ⟨e1, True.intro, ⟨o', e1⟩, fun _ _ _ _ => True.intro⟩
    · rw [frzC_n c] at q
      exact (e.hok b o q).stay (fun _ _ _ z => z) (fun d z => by rw [frzC_n (fun c => by rw [n d c] at z; cases z)]; exact z) fun d xs z => by rw [frzC_n (fun c => by rw [n d c] at z; cases z)]; exact z
theorem env0_drop {K : PySem.W.Frag} {mg : Str → Option Value} {base : Heap} {A : Around} (e : Env0 P w K mg base A outer s H) (k : Kn cs H) : Env0 P w K mg base A outer s (dropC cs H) := by
  have nn : ∀ b, H b = none → dropC cs H b = none := fun b q => by
    by_cases c : isCell cs b
    · exact dropC_y c
    · rw [dropC_n c]; exact q
  exact ⟨e.frames, e.mod, fun b o q => ⟨(e.bs b o q).1, nn b (e.bs b o q).2⟩, e.bsz, e.funs, fun b hb => nn b (e.frf b hb), hok_drop e.hok k, e.bare⟩
theorem cr_frz (n : ∀ b, isCell cs b → H b = none) (hc : ∀ b, isCell cs b → ∃ o v, s.heap.get? b = some o ∧ o.data = .cell v) (nf : ∀ b, isCell cs b → b ∉ frs outer)
    (h : CR (L2.CX P w) outer P w (frzC cs s.heap H) s (fun v H' => Q v (dropC cs H')) (fun cls d H' => E cls d (dropC cs H')) r s') : CR (L2.CX P w) outer P w H s Q E r s' := by
  have at2 : ∀ {b o}, s.heap.get? b = some o → isCell cs b → frzC cs s.heap H b = some (frzO o) := fun {b o} e c => by rw [frzC_y c, e]; rfl
  have keepN : ∀ {b o}, H b = some o → frzC cs s.heap H b = some o := fun {b o} e => by rw [frzC_n (fun c => by rw [n b c] at e; cases e)]; exact e
  have nc : ∀ {b o}, H b = some o → ¬ isCell cs b := fun {b o} e c => by rw [n b c] at e; cases e
  cases r with
  | ok fl =>
    cases fl with
    | ret u =>
      obtain ⟨v, H', os, bare, un, hok, rv, q⟩ := h
      have k : Kn cs H' := fun b c => by
        obtain ⟨o, v, e, d⟩ := hc b c
        exact ⟨o, v, un.frzs b _ _ (at2 e c), d⟩
      refine ⟨v, dropC cs H', os, bare, ⟨fun b o e nH hf hx => ?_, fun b o e nH hf hx => ?_, fun b o e nH hx => ?_, un.there, fun b xs e => ?_, fun b o u e => ?_, fun b ps e => ?_⟩, hok_drop hok k, rv, q⟩
      · by_cases c : isCell cs b
        · obtain ⟨z, _⟩ := hok b _ (un.frzs b _ _ (at2 e c))
          exact z
        · exact un.keep b o e (by rw [frzC_n c]; exact nH) hf hx
      · exact un.slot b o e (by rw [frzC_n (fun c => nf b c hf)]; exact nH) hf hx
      · by_cases c : isCell cs b
        · exact dropC_y c
        · rw [dropC_n c]; exact un.free b o e (by rw [frzC_n c]; exact nH) hx
      · rw [dropC_n (nc e)]; exact un.tups b xs (keepN e)
      · rw [dropC_n (nc e)]; exact un.frzs b o u (keepN e)
      · rw [dropC_n (nc e)]; exact un.tbls b ps (keepN e)
    | next => exact h
    | brk => exact h
    | cont => exact h
  | error e0 =>
    obtain ⟨a, B, H', cls, d, ea, fl, hok, ub, na, os, ag, w⟩ := h
    have k : Kn cs H' := fun b c => by
      obtain ⟨o, v, e, d⟩ := hc b c
      exact ⟨o, v, ub.frzs b _ _ (at2 e c), d⟩
    refine ⟨a, B, dropC cs H', cls, d, ea, fl, hok_drop hok k, ⟨fun b o e nH hf => ?_, ub.slot, fun b o e nH => ?_, ub.there, fun b xs e => ?_, fun b o u e => ?_, fun b ps e => ?_⟩, ?_, os, ag, w⟩
    · by_cases c : isCell cs b
      · obtain ⟨z, _⟩ := hok b _ (ub.frzs b _ _ (at2 e c))
        exact z
      · exact ub.keep b o e (by rw [frzC_n c]; exact nH) hf
    · by_cases c : isCell cs b
      · exact dropC_y c
      · rw [dropC_n c]; exact ub.free b o e (by rw [frzC_n c]; exact nH)
    · rw [dropC_n (nc e)]; exact ub.tups b xs (keepN e)
    · rw [dropC_n (nc e)]; exact ub.frzs b o u (keepN e)
    · rw [dropC_n (nc e)]; exact ub.tbls b ps (keepN e)
    · by_cases c : isCell cs a
      · exact dropC_y c
      · rw [dropC_n c]; exact na
theorem cr_back (k : Kn cs H) (hok0 : HOk P w H s.heap) (nf : ∀ b, isCell cs b → b ∉ frs outer)
    (h : CR (L2.CX P w) outer P w (dropC cs H) s (fun v H' => (∀ b, isCell cs b → H' b = none) → Q v (backC cs H H')) (fun cls d H' => (∀ b, isCell cs b → H' b = none) → E cls d (backC cs H H')) r s') : CR (L2.CX P w) outer P w H s Q E r s' := by
  have there : ∀ {b}, isCell cs b → ∃ o v, H b = some (frzO o) ∧ s.heap.get? b = some o ∧ o.data = .cell v := fun {b} c => by
    obtain ⟨o, v, e, d⟩ := k b c
    exact ⟨o, v, e, (hok0 b _ e).1, d⟩
  have nc : ∀ {b}, H b = none → ¬ isCell cs b := fun {b} e c => by
    obtain ⟨o, v, q, _⟩ := k b c
    rw [e] at q; cases q
  have hb : ∀ {H' : Hp} {h' : Heap}, HOk P w H' h' → (∀ b o, isCell cs b → s.heap.get? b = some o → H b = some (frzO o) → h'.get? b = some o ∧ H' b = none) → HOk P w (backC cs H H') h' := fun {H' h'} ok kc b o e => by
    have non : ∀ {d u}, H' d = some u → ¬ isCell cs d := fun {d u} q c => by
      obtain ⟨o, v, e1, e2, _⟩ := there c
      rw [(kc d o c e2 e1).2] at q; cases q
    by_cases c : isCell cs b
    · obtain ⟨o1, v, e1, e2, _⟩ := there c
      rw [backC_y c, e1] at e
      cases e
      have q := (kc b o1 c e2 e1).1
      exact ⟨q, True.intro, ⟨o1, q⟩, fun _ _ _ _ => True.intro⟩
    · rw [backC_n c] at e
      exact (ok b o e).stay (fun _ _ _ z => z) (fun d z => by rw [backC_n (non z)]; exact z) fun d xs z => by rw [backC_n (non z)]; exact z
  cases r with
  | ok fl =>
    cases fl with
    | ret u =>
      obtain ⟨v, H', os, bare, un, hok, rv, q⟩ := h
      have kc : ∀ b o, isCell cs b → s.heap.get? b = some o → H b = some (frzO o) → s'.heap.get? b = some o ∧ H' b = none := fun b o c e1 e2 =>
        ⟨un.keep b o e1 (dropC_y c) (nf b c) (by simp), un.free b o e1 (dropC_y c) (by simp)⟩
      refine ⟨v, backC cs H H', os, bare, ⟨fun b o e nH hf hx => ?_, fun b o e nH hf hx => ?_, fun b o e nH hx => ?_, un.there, fun b xs e => ?_, fun b o u e => ?_, fun b ps e => ?_⟩, hb hok kc, rv, q fun b c => let ⟨o, v, e1, e2, _⟩ := there c; (kc b o c e2 e1).2⟩
      · exact un.keep b o e (by rw [dropC_n (nc nH)]; exact nH) hf hx
      · exact un.slot b o e (by rw [dropC_n (nc nH)]; exact nH) hf hx
      · rw [backC_n (nc nH)]; exact un.free b o e (by rw [dropC_n (nc nH)]; exact nH) hx
      · have c := k.not e fun o z => nomatch z
        rw [backC_n c]; exact un.tups b xs (by rw [dropC_n c]; exact e)
      · by_cases c : isCell cs b
        · rw [backC_y c]; exact e
        · rw [backC_n c]; exact un.frzs b o u (by rw [dropC_n c]; exact e)
      · have c := k.not e fun o z => nomatch z
        rw [backC_n c]; exact un.tbls b ps (by rw [dropC_n c]; exact e)
    | next => exact h
    | brk => exact h
    | cont => exact h
  | error e0 =>
    obtain ⟨a, B, H', cls, d, ea, fl, hok, ub, na, os, ag, w⟩ := h
    have kc : ∀ b o, isCell cs b → s.heap.get? b = some o → H b = some (frzO o) → B.get? b = some o ∧ H' b = none := fun b o c e1 e2 =>
      ⟨ub.keep b o e1 (dropC_y c) (nf b c), ub.free b o e1 (dropC_y c)⟩
    refine ⟨a, B, backC cs H H', cls, d, ea, fl, hb hok kc, ⟨fun b o e nH hf => ?_, ub.slot, fun b o e nH => ?_, ub.there, fun b xs e => ?_, fun b o u e => ?_, fun b ps e => ?_⟩, ?_, os, ag, w fun b c => let ⟨o, v, e1, e2, _⟩ := there c; (kc b o c e2 e1).2⟩
    · exact ub.keep b o e (by rw [dropC_n (nc nH)]; exact nH) hf
    · rw [backC_n (nc nH)]; exact ub.free b o e (by rw [dropC_n (nc nH)]; exact nH)
    · have c := k.not e fun o z => nomatch z
      rw [backC_n c]; exact ub.tups b xs (by rw [dropC_n c]; exact e)
    · by_cases c : isCell cs b
      · rw [backC_y c]; exact e
      · rw [backC_n c]; exact ub.frzs b o u (by rw [dropC_n c]; exact e)
    · have c := k.not e fun o z => nomatch z
      rw [backC_n c]; exact ub.tbls b ps (by rw [dropC_n c]; exact e)
    · by_cases c : isCell cs a
      · obtain ⟨o, v, e1, e2, _⟩ := there c
        have z := (kc a o c e2 e1).1
        rw [fl.2.1] at z; cases z
      · rw [backC_n c]; exact na
end
end Pv

/-! Pv13: calls that set the frame's cells aside; lambdas called; defs with cells. -/
namespace Pv
open PySem PySem.Spec PyProof.Rows L2

def capsOf (ρ : Sl) (caps : List (Str × Nat)) : List (Str × PV) := caps.filterMap fun q => match ρ[q.2]? with
  | some (some p) => some (q.1, p)
  | _ => none
def Res.susp0 (r : Res PV) (l : List (Nat × List (Str × PV))) : Res PV := match r with
  | .ok p s => .ok p (s.susp0 l)
  | .exc c x s => .exc c x (s.susp0 l)
  | .stk => .stk
def fCallS (fid : Nat) (caps : List (Str × Nat)) (n : Nat) (F : List PV → Sto → Res PV) (fs : Sl → Sto → Res (List PV)) : EF := fun ρ s => (fs ρ s).bind fun xs s1 =>
  if xs.length = n then (F xs (s1.susp0 ((fid, capsOf ρ caps) :: s1.susp))).susp0 s1.susp else .stk
section
variable {g : G} {W : WX} {X : Cx} {j k : Nat} {f : Addr} {fd : FuncData} {ps : List Str} {F : List PV → Sto → Res PV} {x : Str} {p pos : Pos} {e : Expr} {es : List Expr} {fs : Sl → Sto → Res (List PV)} {fid : Nat} {caps : List (Str × Nat)}
theorem cells_out {pins : List (Addr × Obj)} {σ : L2.St} {H : Hp} {s : Shared} (I : L2.Inv X pins σ H s) (hfn : ∀ x, X.fn x = true) : (∀ b, isCell X.env.cells b → H b = none) ∧ (∀ b, isCell X.env.cells b → ∃ o v, s.heap.get? b = some o ∧ o.data = .cell v) ∧ (∀ b, isCell X.env.cells b → X.base.get? b = none) ∧ (∀ b, isCell X.env.cells b → b ∉ frs X.stack) := by
  have ge : ∀ b, isCell X.env.cells b → X.s_0.heap.objs.size ≤ b := fun b ⟨y, h⟩ => I.ok.cab y b (hfn y) h
  refine ⟨fun b ⟨y, h⟩ => I.freeC y b h, fun b ⟨y, h⟩ => ?_, fun b c => Heap.get?_none_of_le (Nat.le_trans I.ok.bsz (ge b c)), fun b c hb => ?_⟩
  · obtain ⟨v, o, ho, hd⟩ := I.cell y b h
    exact ⟨o, v, ho, hd⟩
  · rcases List.mem_cons.mp (I.stkSub b hb) with z | z
    · obtain ⟨y, h⟩ := c
      exact I.cne y b h z
    · obtain ⟨_, o, ho, _⟩ := I.ok.funs.mem z
      exact absurd (Nat.lt_of_lt_of_le (Heap.lt_size ho) (ge b c)) (Nat.lt_irrefl _)
theorem x_callS (hX : InG g X) (Fn : FnG g k f fd ps F) (hr : Room j X.A) (hk : k ≤ j) (hm : g.mg x = some (.ref f)) (hkp : PySem.W.keepIn g.K (.ref f) = true) (hb : Binds g.K fd ps []) (tk : Takes X W) (ha : PA X (e :: es) (rA g W fs))
    (hown : g.own = some (fid, X.env.cells)) (hfn : ∀ x, X.fn x = true) (hcaps : ∀ q ∈ caps, X.N[q.2]? = some q.1 ∧ X.env.scope.names.lookup q.1 = some .cell)
    (hg : Gl X x := by rfl) (hdb : (x == ("__debug__" : Str)) = false := by decide) (he : starEach (e :: es) X.env = (false, eval e X.env) :: starEach es X.env := by rfl) (hpl : (backTo pos (starEach es X.env)).any (·.1) = false := by rfl) :
    PE X (.Call (.Name x p) (e :: es) [] pos) (rE g W (fCallS fid caps ps.length F fs)) := by
  refine ⟨fun pins s σ H Q I h => ?_⟩
  refine wpAny_Call_Name_kw (ld_glob I hg (by rw [hX.mg]; exact hm) ?_ hdb)
  obtain ⟨φ, ρ, st, S, E, h⟩ := h
  refine PySem.W.callWith_K (h₀ := X.base) I.ok.mod.kin (by rw [hX.K]; exact hkp) (thn (ha.run pos pins s σ H (fun vs H1 => vs.length = ps.length ∧ ∃ φ1 st1 xs, Le φ H φ1 H1 ∧ Sim g φ1 H1 st1 ∧ Reps g φ1 H1 xs vs ∧ EnvSim g φ1 H1 σ ρ ∧
      OutE g W φ1 H1 σ ((F xs (st1.susp0 ((fid, capsOf ρ caps) :: st1.susp))).susp0 st1.susp) Q) I (seqAE S E h fun φ1 H1 st1 xs vs e1 S1 R1 h1 => ?_)) fun us s1 ⟨vs, H1, I1, r, hl, φ1, st1, xs, le1, S1, R1, E1, q⟩ => ⟨I1.kIn, ?_⟩) he hpl
  · by_cases hl : xs.length = ps.length
    · rw [if_pos hl] at h1
      exact ⟨R1.length.symm.trans hl, φ1, st1, xs, e1, S1, R1, E.mono e1, h1⟩
    · rw [if_neg hl] at h1; exact h1.elim
  obtain ⟨c1, c2, c3, c4⟩ := cells_out I1 hfn
  have hlu : us.length = ps.length := by rw [← r.length]; exact hl
  have b := hb s1 us (by rw [← hX.K]; exact I1.kIn) (by rw [List.append_nil]; exact hlu)
  rw [List.append_nil] at b
  obtain ⟨x1, x2, x3, x4, x5, x6⟩ := hX
  have E0 : Env0 g.P g.w g.K g.mg g.base X.A X.stack s1 (frzC X.env.cells s1.heap H1) := by rw [← x1, ← x2, ← x3, ← x4, ← x5]; exact env0_frz I1.env0 c1 c2 c3 c4
  have le2 : Le φ1 H1 φ1 (frzC X.env.cells s1.heap H1) := Le.frz c1
  have eN : LamX.ExtN H1 (frzC X.env.cells s1.heap H1) := fun b o q _ => by rw [frzC_n (fun c => by rw [c1 b c] at q; cases q)]; exact q
  have S2 : Sim g φ1 (frzC X.env.cells s1.heap H1) st1 := S1.extN eN (S1.tabs.ext fun b o q => by rw [frzC_n (fun c => by rw [c1 b c] at q; cases q)]; exact q)
  have nl : ∀ b, isCell X.env.cells b → b ∉ φ1.locs := fun b c => S1.fresh (c1 b c)
  have kn := kn_frz (H := H1) c2
  have SE : SuspE g φ1 (frzC X.env.cells s1.heap H1) X.env.cells (capsOf ρ caps) := by
    refine ⟨fun x y c => I1.ok.inj x y c, fun y c hc => ?_, fun q hq => ?_⟩
    · obtain ⟨o, v, e1, e2⟩ := kn c ⟨y, hc⟩
      exact ⟨o, v, e1, nl c ⟨y, hc⟩, e2⟩
    · unfold capsOf at hq
      rw [List.mem_filterMap] at hq
      obtain ⟨⟨y, i⟩, hm, hq⟩ := hq
      simp only at hq
      split at hq
      · rename_i p0 hp0
        cases hq
        obtain ⟨hN, hcell⟩ := hcaps _ hm
        obtain ⟨v, ev, rv⟩ := E1.at_ i _ hp0
        obtain ⟨m, hn, hlk⟩ := I1.loc
        obtain ⟨u, ru, lk⟩ := hlk i y v hN ev (.inr (.inl hcell))
        rcases lk with ⟨z, _⟩ | ⟨_, c, hc, o, ho, hd⟩
        · have z' : X.env.scope.names.lookup y = some .local := z
          rw [hcell] at z'; cases z'
        · exact ⟨c, o, u, v, hc, by rw [frzC_y ⟨y, hc⟩, ho]; rfl, hd, ru, rv.mono le2⟩
      · cases hq
  have S3 : Sim g φ1 (frzC X.env.cells s1.heap H1) (st1.susp0 ((fid, capsOf ρ caps) :: st1.susp)) := S2.susp1 fun p hp => by
    rcases List.mem_cons.mp hp with rfl | hp
    · exact ⟨X.env.cells, E1.own _ hown, SE⟩
    · exact S2.susp p hp
  have hsp : spOf g.b F vs (frzC X.env.cells s1.heap H1) (fun v H' => Q v (dropC X.env.cells H')) (fun cls d H' => W cls d σ (dropC X.env.cells H')) := by
    refine ⟨φ1, _, xs, Sim.conv (o := g.own) S3, Reps.conv (o := g.own) (R1.mono le2), OutF.conv (o := g.own) ?_ none⟩
    cases z : F xs (st1.susp0 ((fid, capsOf ρ caps) :: st1.susp)) with
    | stk => rw [z] at q; exact q
    | ok p0 s' =>
      rw [z] at q
      intro φ' H' v e' S' R'
      have k' := kn_le kn nl e'
      have ud := Le.undrop c1 e'
      exact q φ' _ v ud (((S'.drop k').susp1 (S1.susp.mono ud))) (R'.noC k')
    | exc c0 x0 s' =>
      rw [z] at q
      intro φ' H' d u e' S' hd hn R'
      have k' := kn_le kn nl e'
      have ud := Le.undrop c1 e'
      exact q φ' _ d u ud (((S'.drop k').susp1 (S1.susp.mono ud))) (by rw [dropC_n (k'.not hd fun o z => nomatch z)]; exact hd) hn (R'.noC k')
  have q0 : codeAny (model g.P g.w) X.A (.call (.ref f) ⟨us, []⟩) (CR (L2.CX g.P g.w) X.stack g.P g.w (frzC X.env.cells s1.heap H1) s1 (fun v H' => Q v (dropC X.env.cells H')) (fun cls d H' => W cls d σ (dropC X.env.cells H'))) s1 :=
    Fn.run X.A X.stack s1 _ ⟨us, []⟩ us vs _ _ (hr.mono hk) x6 E0 b r hl hsp
  rw [← x1, ← x2] at q0
  show wpAny _ _ (call (.ref f) us) _ _ _
  refine wpAny_call (codeAny_mono q0 fun r s' hq => ?_)
  have hq2 : CR (L2.CX X.prog X.w) X.stack X.prog X.w H1 s1 Q (fun cls d H' => W cls d σ H') r s' := cr_frz c1 c2 c4 hq
  cases r with
  | error e => exact (passAt tk σ) pins H1 s1 e s' I1 hq2
  | ok fl =>
    cases fl with
    | ret u => exact I1.after hq2
    | next => exact False.elim hq2
    | brk => exact False.elim hq2
    | cont => exact False.elim hq2
end
end Pv

/-! Pv14: a lambda by its body, called; a def whose frame has cells. -/
namespace Pv
open PySem PySem.Spec PyProof.Rows L2

/-- what a lambda does: its captured values, its arguments, the state -/
abbrev LamF := List (Str × PV) → List PV → Sto → Res PV
structure LamOk (g : G) (k lid : Nat) (n : Nat) (L : LamF) : Prop where
  run : ∀ (A : Around) (outer : List Env) (s : Shared) (H : Hp) (φ : Wm) (s0 : Sto) (f c : Addr) (cs : List (Str × Addr)) (kv : List (Str × PV)) (xs : List PV) (us : List Value) (vs : List V) (Q : VK) (E : XK), Room k A → A.guards = some [] → Env0 g.P g.w g.K g.mg g.base A outer s H →
    H f = some (LamO f (g.lam lid cs c)) → H c = some (LamX.CodeO c (g.lam lid cs c).qual) → (∀ y ∈ (g.lam lid cs c).scope.names, y.2 = .free → ∃ a, cs.lookup y.1 = some a) → (∀ x y c, cs.lookup x = some c → cs.lookup y = some c → x = y) → (∀ y a, cs.lookup y = some a → H a = none ∧ ∃ v, s.heap.IsCell a v) →
    (∀ q ∈ kv, ∃ c u v, cs.lookup q.1 = some c ∧ s.heap.IsCell c (some u) ∧ RelV v u ∧ Rep g φ H q.2 v) → Sim g φ H s0 → Vals vs us → Reps g φ H xs vs → vs.length = n → OutF g φ H (L kv xs s0) Q E →
    codeAny (model g.P g.w) A (.call (.ref f) ⟨us, []⟩) (CR (L2.CX g.P g.w) outer g.P g.w H s Q E) s
abbrev LamG (g : G) := LamOk g.b
theorem LamOk.mono {g : G} {j k lid n : Nat} {L : LamF} (h : LamOk g j lid n L) (hk : j ≤ k) : LamOk g k lid n L := ⟨fun A outer s H φ s0 f c cs kv xs us vs Q E hr => h.run A outer s H φ s0 f c cs kv xs us vs Q E (hr.mono hk)⟩
/-- the lambda as a function: N its names (parameters, captured ones, ..) -/
def fLamB (n m : Nat) (fr : List Str) (fe : EF) : LamF := fun kv xs s => if xs.length = n then fe (xs.map some ++ (fr.map (fun y => kv.lookup y) ++ List.replicate (m - n - fr.length) none)) s else .stk
def nfOf (F : LF) : NdefX.NF := ⟨"<lambda>", F.qual, F.params, [], F.scope, F.cl, F.c⟩
theorem lookup_mem {α : Type} {y : Str} {v : α} : ∀ {l : List (Str × α)}, l.lookup y = some v → (y, v) ∈ l
  | [], h => by simp at h
  | (a, b) :: r, h => by
    unfold List.lookup at h
    split at h
    · rename_i e
      rw [← Option.some.inj h, eq_of_beq e]
      exact List.mem_cons_self
    · exact List.mem_cons_of_mem _ (lookup_mem h)
/-- the captured values -/
theorem caps_ws {g : G} {φ : Wm} {H : Hp} {h : Heap} {cs : List (Str × Addr)} {kv : List (Str × PV)} (hv : ∀ q ∈ kv, ∃ c u v, cs.lookup q.1 = some c ∧ h.IsCell c (some u) ∧ RelV v u ∧ Rep g φ H q.2 v) :
    ∀ fr : List Str, ∃ ws : List (Option V), ws.length = fr.length ∧ ∀ (i : Nat) (y : Str), fr[i]? = some y → (∀ p, kv.lookup y = some p → ∃ v, ws[i]? = some (some v) ∧ Rep g φ H p v) ∧ ∀ v, ws[i]? = some (some v) → ∃ c u, cs.lookup y = some c ∧ h.IsCell c (some u) ∧ RelV v u
  | [] => ⟨[], rfl, fun i y e => by simp at e⟩
  | y :: fr => by
    obtain ⟨ws, hl, hw⟩ := caps_ws hv fr
    cases q : kv.lookup y with
    | none =>
      refine ⟨none :: ws, by simp [hl], fun i y' e => ?_⟩
      cases i with
      | zero => simp only [List.getElem?_cons_zero, Option.some.injEq] at e ⊢; subst e; exact ⟨fun p hp => (by rw [q] at hp; cases hp), fun v hv => (by cases hv)⟩
      | succ i => simpa only [List.getElem?_cons_succ] using hw i y' (by simpa using e)
    | some p =>
      obtain ⟨c, u, v, h1, h2, h3, h4⟩ := hv _ (lookup_mem q)
      refine ⟨some v :: ws, by simp [hl], fun i y' e => ?_⟩
      cases i with
      | zero =>
        simp only [List.getElem?_cons_zero, Option.some.injEq] at e ⊢
        subst e
        refine ⟨fun p' hp => ?_, fun v' hv' => ?_⟩
        · rw [q] at hp; cases hp; exact ⟨v, rfl, h4⟩
        · cases hv'; exact ⟨c, u, h1, h2, h3⟩
      | succ i => simpa only [List.getElem?_cons_succ] using hw i y' (by simpa using e)
section
variable {g : G} {k lid : Nat} {N ps fr : List Str} {fe : EF} {params : Arguments} {body : Expr} {scope : Scope} {qual : Str}
theorem env_lam {φ : Wm} {H : Hp} {xs : List PV} {vs : List V} {ws : List (Option V)} {kv : List (Str × PV)} (R : Reps g.b φ H xs vs) (hl : vs.length = ps.length) (hw : ws.length = fr.length) (hN : ps.length + fr.length ≤ N.length)
    (h : ∀ (i : Nat) (y : Str), fr[i]? = some y → ∀ p, kv.lookup y = some p → ∃ v, ws[i]? = some (some v) ∧ Rep g.b φ H p v) :
    EnvSim g.b φ H (NdefX.startF N vs ws) (xs.map some ++ (fr.map (fun y => kv.lookup y) ++ List.replicate (N.length - ps.length - fr.length) none)) := by
  have hx := R.length
  refine ⟨?_, fun i p e => ?_, fun p e => nomatch e⟩
  · unfold NdefX.startF
    simp only [List.length_append, List.length_map, List.length_replicate]
    omega
  · unfold NdefX.startF
    by_cases h1 : i < xs.length
    · rw [List.getElem?_append_left (by simpa using h1), List.getElem?_map] at e
      obtain ⟨q, e1, e2⟩ := Option.map_eq_some_iff.mp e
      cases e2
      obtain ⟨v, a, b⟩ := R.get e1
      exact ⟨v, by rw [List.getElem?_append_left (by simpa [← hx] using h1), List.getElem?_map, a]; rfl, b⟩
    · have h1' : xs.length ≤ i := Nat.le_of_not_lt h1
      rw [List.getElem?_append_right (by simpa using h1'), List.length_map] at e
      rw [List.getElem?_append_right (by simpa [← hx] using h1'), List.length_map, ← hx]
      by_cases h2 : i - xs.length < fr.length
      · rw [List.getElem?_append_left (by simpa using h2), List.getElem?_map] at e
        obtain ⟨y, e1, e2⟩ := Option.map_eq_some_iff.mp e
        obtain ⟨v, a, b⟩ := h _ y e1 p e2
        exact ⟨v, by rw [List.getElem?_append_left (by rw [hw]; exact h2)]; exact a, b⟩
      · rw [List.getElem?_append_right (by simpa using Nat.le_of_not_lt h2), List.getElem?_replicate] at e
        split at e <;> cases e
theorem lam_ok (hlam : ∀ cs c, g.lam lid cs c = ⟨qual, params, body, scope, cloFrom cs scope.names [], c⟩) (S : NdefX.NScope N ps fr scope)
    (hb : ∀ (cl : List (Str × Addr)) (c : Addr) (pm ctv : Value) (us : List Value), us.length = ps.length → bindArgs (PySem.W.kla_fn "<lambda>" qual params body scope cl pm (.ref c) ctv) ⟨us, []⟩ = pure (ps.zip us))
    (hbody : ∀ (A : Around) (outer : List Env) (s : Shared) (H : Hp) (cl : List (Str × Addr)) (c f : Addr) (E : XK), Room k (A.deeper (NdefX.envF (nfOf ⟨qual, params, body, scope, cl, c⟩) f s.heap.objs.size)) → A.guards = some [] →
      PE (NdefX.ncx (L2.CX g.P g.w) g.P g.w g.K g.mg g.base N (nfOf ⟨qual, params, body, scope, cl, c⟩) f A outer s H E) body (rE g.b (fun cls d _ H => E cls d H) fe)) : LamG g (k + 1) lid ps.length (fLamB ps.length N.length fr fe) := by
  refine ⟨fun A outer s H φ s0 f c cs kv xs us vs Q E hr hgu e0 hf hc hfr inj hcell hval Sm r R hl q => ?_⟩
  have hlam' : g.b.lam lid cs c = ⟨qual, params, body, scope, cloFrom cs scope.names [], c⟩ := hlam cs c
  rw [hlam'] at hf hc hfr
  have lim : s.heap.NoLimit := e0.mod.nolimit.keeps fun b o e => (e0.bs b o e).1
  obtain ⟨⟨pm, ctv, ho⟩, _, _⟩ := (show ObjOk g.b.P g.b.w H s.heap f (LamO f ⟨qual, params, body, scope, cloFrom cs scope.names [], c⟩) from e0.hok f _ hf)
  obtain ⟨ws, wl, hws⟩ := caps_ws hval fr
  have C : NdefX.CellsAt (cloFrom cs scope.names []) fr ws s.heap H := by
    refine ⟨wl, fun y a e => hcell y a (NdefX.clo_cm hfr e), fun x y a e1 e2 => inj x y a (NdefX.clo_cm hfr e1) (NdefX.clo_cm hfr e2), fun i y e => ?_⟩
    have hy : (y, NameKind.free) ∈ scope.names := PySem.mem_of_lookup (S.frk y (List.mem_of_getElem? e))
    obtain ⟨a, ha⟩ := hfr _ hy rfl
    refine ⟨a, NdefX.clo_has hfr hy ha, fun v ev => ?_⟩
    obtain ⟨c', u, h1, h2, h3⟩ := (hws i y e).2 v ev
    rw [ha] at h1; cases h1
    exact ⟨u, h3, h2⟩
  have hpl : ps.length + fr.length ≤ N.length := by
    have q := congrArg List.length S.pre
    rw [List.length_take, List.length_append] at q
    omega
  show codeAny (model g.P g.w) A (.call (.ref f) ⟨us, []⟩) (CR (L2.CX g.P g.w) outer g.P g.w H s Q E) s
  refine PySem.W.kla_callFunE hr.depth ho rfl S.co S.gen rfl (NdefX.codeO_at e0.hok hc) ?_
  rw [hb _ c pm ctv us (by rw [← r.length]; exact hl)]
  refine wpAny_pure (wpAny_newFunctionEnv S.nocell (fun ⟨n, _⟩ hy => S.par n (List.of_mem_zip hy).1) (fun h₁ hns hsb => ⟨lim.fresh _ hsb, ?_⟩) S.kind)
  show codeAny _ _ (.expr body (NdefX.envF (nfOf ⟨qual, params, body, scope, cloFrom cs scope.names [], c⟩) f s.heap.objs.size)) _ _
  have kp : ∀ b o, s.heap.get? b = some o → h₁.get? b = some o := fun b o e => hsb.extBut b o (Nat.ne_of_lt (Heap.lt_size e)) (Heap.get?_push_of_some _ e)
  have I : L2.Inv (NdefX.ncx (L2.CX g.P g.w) g.P g.w g.K g.mg g.base N (nfOf ⟨qual, params, body, scope, cloFrom cs scope.names [], c⟩) f A outer s H E) [] (NdefX.startF N vs ws) H { s with heap := h₁, toks := s.toks + (ps.zip us).length } :=
    NdefX.inv_startN (F := nfOf ⟨qual, params, body, scope, cloFrom cs scope.names [], c⟩) S hr.hd e0 hl r C hns kp
  have hn : xs.length = ps.length := R.length.trans hl
  have hread : rE g.b (fun cls d _ H => E cls d H) fe (NdefX.startF N vs ws) H Q := by
    refine ⟨φ, _, s0, Sm, env_lam (fr := fr) (N := N) (kv := kv) R hl wl hpl (fun i y e => (hws i y e).1), ?_⟩
    unfold fLamB at q
    rw [if_pos hn] at q
    generalize fe _ s0 = z at q ⊢
    cases z with
    | ok p s' => exact q
    | exc c x s' => exact q
    | stk => exact q
  refine PySem.W.kla_codeExpr (wpAny_mono ((hbody A outer s H _ c f E (hr.deeper _) hgu).run [] _ _ H Q I hread) (fun u s' hq => ?_) fun e s' hq => hq)
  obtain ⟨v, H', J', rv, q⟩ := hq
  exact ⟨v, H', J'.os, J'.bare, J'.base, J'.hok, rv, q⟩
end

/-! ### a lambda called -/
def callClo (T : Nat → Option LamF) (k fid : Nat) (xs : List PV) (s : Sto) : Res PV := match T k, s.susp.lookup fid with
  | some L, some kv => (L kv xs (s.susp0 [])).susp0 s.susp
  | _, _ => .stk
def fCallV (T : Nat → Option LamF) (i n : Nat) (fs : Sl → Sto → Res (List PV)) : EF := fun ρ s => match ρ[i]? with
  | some (some (.clo k fid)) => (fs ρ s).bind fun xs s1 => if xs.length = n then callClo T k fid xs s1 else .stk
  | _ => .stk
section
variable {g : G} {W : WX} {X : Cx} {i j n k : Nat} {T : Nat → Option LamF} {x : Str} {p pos : Pos} {e : Expr} {es : List Expr} {fs : Sl → Sto → Res (List PV)}
theorem lookup_memN {α : Type} {y : Nat} {v : α} : ∀ {l : List (Nat × α)}, l.lookup y = some v → (y, v) ∈ l
  | [], h => by simp at h
  | (a, b) :: r, h => by
    unfold List.lookup at h
    split at h
    · rename_i e
      rw [← Option.some.inj h, eq_of_beq e]
      exact List.mem_cons_self
    · exact List.mem_cons_of_mem _ (lookup_memN h)
theorem fnAt_clo {P : Program} {w : World} {H : Hp} {h : Heap} {f : Addr} {F : LF} (ok : HOk P w H h) (e : H f = some (LamO f F)) : PySem.W.FnAt f h := by
  obtain ⟨⟨pm, ctv, ho⟩, _, _⟩ := (show ObjOk P w H h f (LamO f F) from ok f _ e)
  exact ⟨_, _, _, _, ho⟩
/-- the call itself, its arguments' values given -/
theorem run_clo {pins : List (Addr × Obj)} {σ : L2.St} {H : Hp} {s : Shared} {Q : VK} {φ : Wm} {st : Sto} {lid fid : Nat} {f : Addr} {xs : List PV} {us : List Value} {vs : List V} (hX : InG g X) (hT : ∀ l L, T l = some L → LamG g k l n L) (hr : Room j X.A) (hk : k ≤ j) (tk : Takes X W) (I : L2.Inv X pins σ H s)
    (S : Sim g φ H st) (R0 : Rep g φ H (.clo lid fid) (.ref f)) (r : Vals vs us) (R : Reps g φ H xs vs) (hl : xs.length = n) (q : OutE g W φ H σ (callClo T lid fid xs st) Q) : wpAny (model X.prog X.w) X.A (call (.ref f) us) (EP X pins σ Q) X.xe s := by
  unfold callClo at q
  cases hL : T lid with
  | none => rw [hL] at q; exact q.elim
  | some L =>
    cases hS : st.susp.lookup fid with
    | none => rw [hL, hS] at q; exact q.elim
    | some kv =>
      rw [hL, hS] at q
      simp only at q
      obtain ⟨x1, x2, x3, x4, x5, x6⟩ := hX
      obtain ⟨cs, hcs, SE⟩ := S.susp _ (lookup_memN hS)
      simp only [Rep] at R0
      obtain ⟨f', c, cs', ⟨ef, hfr⟩, hcs', hf, nf, hc, nc⟩ := R0
      cases ef
      have : cs' = cs := Option.some.inj (hcs'.symm.trans hcs)
      subst this
      have kn : Kn cs' H := fun b ⟨y, hy⟩ => by
        obtain ⟨o, v, h1, _, h3⟩ := SE.all y b hy
        exact ⟨o, v, h1, h3⟩
      have E0 : Env0 g.P g.w g.K g.mg g.base X.A X.stack s (dropC cs' H) := by rw [← x1, ← x2, ← x3, ← x4, ← x5]; exact env0_drop I.env0 kn
      have hn : ∀ b, isCell cs' b → b ∉ φ.locs := fun b ⟨y, hy⟩ => by
        obtain ⟨o, v, _, h2, _⟩ := SE.all y b hy
        exact h2
      have fin : ∀ (s' : Sto) (φ' : Wm) (H' : Hp), Le φ (dropC cs' H) φ' H' → Sim g φ' H' s' → (∀ b, isCell cs' b → H' b = none) → Le φ H φ' (backC cs' H H') ∧ Sim g φ' (backC cs' H H') (s'.susp0 st.susp) ∧ Le φ' H' φ' (backC cs' H H') := fun s' φ' H' e' S' hN => by
        have eN : LamX.ExtN H' (backC cs' H H') := fun b o q _ => by rw [backC_n (fun c => by rw [hN b c] at q; cases q)]; exact q
        have l1 := Le.drop kn e' (fun b c => S'.fresh (hN b c))
        have S2 := S'.extN eN (S'.tabs.ext fun b o q => by rw [backC_n (fun c => by rw [hN b c] at q; cases q)]; exact q)
        exact ⟨l1, S2.susp1 (S.susp.mono l1), Le.extN eN⟩
      have hq : OutF g.b φ (dropC cs' H) (L kv xs (st.susp0 [])) (fun v H' => (∀ b, isCell cs' b → H' b = none) → Q v (backC cs' H H')) (fun cls d H' => (∀ b, isCell cs' b → H' b = none) → W cls d σ (backC cs' H H')) := by
        refine OutF.conv (o := g.own) ?_ none
        cases z : L kv xs (st.susp0 []) with
        | stk => rw [z] at q; exact q
        | ok p0 s' =>
          rw [z] at q
          intro φ' H' v e' S' R' hN
          obtain ⟨l1, S2, l2⟩ := fin s' φ' H' e' S' hN
          have R2 : Rep g φ' H' p0 v := R'
          exact q φ' _ v l1 S2 (R2.mono l2)
        | exc c0 x0 s' =>
          rw [z] at q
          intro φ' H' d u e' S' hd hn' R' hN
          obtain ⟨l1, S2, l2⟩ := fin s' φ' H' e' S' hN
          have R2 : Rep g φ' H' x0 u := R'
          exact q φ' _ d u l1 S2 (l2.old d _ hd (fun _ z => nomatch z) hn').1 hn' (R2.mono l2)
      have go : codeAny (model g.P g.w) X.A (.call (.ref f) ⟨us, []⟩) (CR (L2.CX g.P g.w) X.stack g.P g.w (dropC cs' H) s (fun v H' => (∀ b, isCell cs' b → H' b = none) → Q v (backC cs' H H')) (fun cls d H' => (∀ b, isCell cs' b → H' b = none) → W cls d σ (backC cs' H H'))) s :=
        (hT lid L hL).run X.A X.stack s (dropC cs' H) φ (st.susp0 []) f c cs' kv xs us vs _ _ (hr.mono hk) x6 E0 (by rw [dropC_n (kn.not hf fun o z => by cases z)]; exact hf) (by rw [dropC_n (kn.not hc fun o z => by cases z)]; exact hc) hfr SE.inj
          (fun y a hy => by
            obtain ⟨o, v, h1, _, h3⟩ := SE.all y a hy
            exact ⟨dropC_y ⟨y, hy⟩, v, o, (I.hok a _ h1).1, h3⟩)
          (fun q hq => by
            obtain ⟨a, o, u, v, h1, h2, h3, h4, h5⟩ := SE.val q hq
            exact ⟨a, u, v, h1, ⟨o, (I.hok a _ h2).1, h3⟩, h4, Rep.conv (o := g.own) (h5.noC kn)⟩)
          (Sim.conv (o := g.own) (S.drop kn)) r (Reps.conv (o := g.own) (R.noC kn)) (R.length.symm.trans hl) hq
      rw [← x1, ← x2] at go
      refine wpAny_call (codeAny_mono go fun r s' hq => ?_)
      have hq2 : CR (L2.CX X.prog X.w) X.stack X.prog X.w H s Q (fun cls d H' => W cls d σ H') r s' := cr_back kn I.hok (fun b ⟨y, hy⟩ hm => by
        obtain ⟨o, v, h1, _⟩ := SE.all y b hy
        rw [I.stkFree b hm] at h1; cases h1) hq
      cases r with
      | error e => exact (passAt tk σ) pins H s e s' I hq2
      | ok fl =>
        cases fl with
        | ret u => exact I.after hq2
        | next => exact False.elim hq2
        | brk => exact False.elim hq2
        | cont => exact False.elim hq2
theorem x_callv (hX : InG g X) (hT : ∀ l L, T l = some L → LamG g k l n L) (hr : Room j X.A) (hk : k ≤ j) (tk : Takes X W) (ha : PA X (e :: es) (rA g W fs)) (hN : X.N[i]? = some x := by rfl) (hv : Vis X.env.scope x := by first | exact Or.inl rfl | exact Or.inr (Or.inl rfl) | exact Or.inr (Or.inr rfl))
    (hd : (x == ("__debug__" : Str)) = false := by decide) (hcd : (x == ("__classdict__" : Str)) = false := by decide) (he : starEach (e :: es) X.env = (false, eval e X.env) :: starEach es X.env := by rfl) (hpl : (backTo pos (starEach es X.env)).any (·.1) = false := by rfl) :
    PE X (.Call (.Name x p) (e :: es) [] pos) (rE g W (fCallV T i n fs)) := by
  refine ⟨fun pins s σ H Q I h => ?_⟩
  obtain ⟨φ, ρ, st, S, E, q⟩ := h
  unfold fCallV at q
  split at q
  · rename_i lid fid hp
    obtain ⟨v, ev, rv⟩ := E.at_ i _ hp
    obtain ⟨f, ef⟩ : ∃ f, v = .ref f := by
      have R0 := rv
      simp only [Rep] at R0
      obtain ⟨f', _, _, ⟨ef, _⟩, _⟩ := R0
      exact ⟨f', ef⟩
    subst ef
    refine wpAny_Call_Name_kw (thn ((pe_var (pos := p) hN hv hd hcd).run pins s σ H (fun v H1 => v = .ref f ∧ H1 = H) I ⟨.ref f, ev, rfl, rfl⟩) fun u s1 ⟨v, H1, I1, r1, q1⟩ => ?_)
    obtain ⟨ev1, eH⟩ := q1
    subst ev1
    rw [eH] at I1
    obtain rfl : u = Value.ref f := r1
    have fnA : ∀ {φ' : Wm} {H' : Hp} {s' : Shared}, L2.Inv X pins σ H' s' → Rep g φ' H' (.clo lid fid) (.ref f) → PySem.W.FnAt f s'.heap := fun {φ' H' s'} J R' => by
      simp only [Rep] at R'
      obtain ⟨f', c, cs', ⟨ef, _⟩, _, hf, _⟩ := R'
      cases ef
      exact fnAt_clo J.hok hf
    refine PySem.W.callWith_F (first := []) (fnA I1 rv) (thn (ha.run pos pins s1 σ H (fun vs H2 => ∃ φ2 st2 xs, Sim g φ2 H2 st2 ∧ Reps g φ2 H2 xs vs ∧ Rep g φ2 H2 (.clo lid fid) (.ref f) ∧ xs.length = n ∧ OutE g W φ2 H2 σ (callClo T lid fid xs st2) Q) I1 (seqAE S E q fun φ1 H1 st1 xs vs e1 S1 R1 h1 => ?_)) fun us s2 ⟨vs, H2, I2, r, φ2, st2, xs, S2, R2, R3, hl, q2⟩ => ⟨fnA I2 R3, ?_⟩) he hpl
    · by_cases hl : xs.length = n
      · rw [if_pos hl] at h1
        exact ⟨φ1, st1, xs, S1, R1, rv.mono e1, hl, h1⟩
      · rw [if_neg hl] at h1; exact h1.elim
    · exact run_clo hX hT hr hk tk I2 S2 R3 r R2 hl q2
  · exact q.elim
theorem x_callv0 (hX : InG g X) (hT : ∀ l L, T l = some L → LamG g k l 0 L) (hr : Room j X.A) (hk : k ≤ j) (tk : Takes X W) (hN : X.N[i]? = some x := by rfl) (hv : Vis X.env.scope x := by first | exact Or.inl rfl | exact Or.inr (Or.inl rfl) | exact Or.inr (Or.inr rfl))
    (hd : (x == ("__debug__" : Str)) = false := by decide) (hcd : (x == ("__classdict__" : Str)) = false := by decide) :
    PE X (.Call (.Name x p) [] [] pos) (rE g W (fCallV T i 0 fNil)) := by
  refine ⟨fun pins s σ H Q I h => ?_⟩
  obtain ⟨φ, ρ, st, S, E, q⟩ := h
  unfold fCallV at q
  split at q
  · rename_i lid fid hp
    obtain ⟨v, ev, rv⟩ := E.at_ i _ hp
    obtain ⟨f, ef⟩ : ∃ f, v = .ref f := by
      have R0 := rv
      simp only [Rep] at R0
      obtain ⟨f', _, _, ⟨ef, _⟩, _⟩ := R0
      exact ⟨f', ef⟩
    subst ef
    refine wpAny_Call_Name_kw (thn ((pe_var (pos := p) hN hv hd hcd).run pins s σ H (fun v H1 => v = .ref f ∧ H1 = H) I ⟨.ref f, ev, rfl, rfl⟩) fun u s1 ⟨v, H1, I1, r1, q1⟩ => ?_)
    obtain ⟨ev1, eH⟩ := q1
    subst ev1
    rw [eH] at I1
    obtain rfl : u = Value.ref f := r1
    have fnA : PySem.W.FnAt f s1.heap := by
      have R' := rv
      simp only [Rep] at R'
      obtain ⟨f', c, cs', ⟨ef, _⟩, _, hf, _⟩ := R'
      cases ef
      exact fnAt_clo I1.hok hf
    refine PySem.W.callWith_F0 (first := []) fnA ?_
    exact run_clo hX hT hr hk tk I1 S rv .nil Reps.nil rfl q
  · exact q.elim
end

/-! ### a def whose frame has cells -/
def fDefC (n m : Nat) (body : Nat → SF) : List PV → Sto → Res PV := fun xs s => if xs.length = n then ofS (body s.nf (xs.map some ++ List.replicate (m - n) none) { s with nf := s.nf + 1 }) else .stk
def Wm.pushF (φ : Wm) (cs : List (Str × Addr)) : Wm := { φ with frs := φ.frs ++ [cs] }
theorem Le.pushF {φ : Wm} {H : Hp} {cs : List (Str × Addr)} : Le φ H (φ.pushF cs) H := ⟨List.prefix_refl _, List.prefix_append _ _, rfl, fun _ _ h _ n => ⟨h, n⟩⟩
theorem Sim.pushF {g : G} {φ : Wm} {H : Hp} {s : Sto} {cs : List (Str × Addr)} (S : Sim g φ H s) : Sim g (φ.pushF cs) H { s with nf := s.nf + 1 } :=
  ⟨S.len, S.nd, fun l o a h1 h2 => (S.obj l o a h1 h2).mono_of Le.pushF rfl, by simp [Wm.pushF, S.nf], S.prv, S.tabs, S.susp.mono Le.pushF⟩
section
variable {g : G} {x qual : Str} {st : Stmt} {f : Addr} {fd : FuncData} {N ps : List Str} {k : Nat} {body : Nat → SF}
theorem fn_okC (cv0 : Value) (hcv : fd.code = cv0) (F : L2.Fun g.K x qual st f fd) (S : FnScope N ps (defScope st))
    (hbody : ∀ (fid : Nat) (A : Around) (outer : List Env) (s : Shared) (H : Hp) (E : XK), Room k (A.deeper (envOfC qual (defScope st) s.heap.objs.size f cv0)) → A.guards = some [] →
      PSs (cxOf (L2.CX g.P g.w) g.P g.w g.K g.mg g.base N qual (defScope st) f cv0 A outer s H E) (defBody st) (rS (g.at (some (fid, (envOfC qual (defScope st) s.heap.objs.size f cv0).cells))) (fun cls d _ H => E cls d H) (body fid))) : FnG g (k + 1) f fd ps (fDefC ps.length N.length body) := by
  obtain ⟨oc, od, kV, doc, pm, an, cdv, ct, osl, rfl, lk, hcd⟩ := F.ex
  have hc : cdv = cv0 := hcv
  subst hc
  refine ⟨fun A outer s H args us vs Q E hr hgu e0 hb r hl hsp => ?_⟩
  have KX : g.K.In s.heap := e0.mod.kin.keeps fun b o e => (e0.bs b o e).1
  have lim : s.heap.NoLimit := e0.mod.nolimit.keeps fun b o e => (e0.bs b o e).1
  have hkind : ∀ y ∈ ps.zip us, (defScope st).names.lookup y.1 = some .local ∨ ((defScope st).names.lookup y.1 = some .cell ∧ ((cellsFrom (s.heap.objs.size + 1) (defScope st).names []).lookup y.1).isSome = true) := fun ⟨n, v⟩ hy => by
    rcases S.par n (List.of_mem_zip hy).1 with q | q
    · exact .inl q
    · exact .inr ⟨q, PySem.W.cellsFrom_some _ _ _ (.inl q)⟩
  refine codeAny_call_function hr.depth (KX _ _ lk) rfl S.co S.gen rfl (PySem.W.codeRec_of KX hcd) (hb _ _ _ _ ?_)
  refine wpAny_newFunctionEnv_cells S.kind hkind fun env he s1 x => ?_
  subst he
  refine ⟨lim.keeps x.toInCall.keep, codeAny_func ?_⟩
  obtain ⟨φ, s0, xs, Sm, R, q⟩ := hsp
  have ht := hbody s0.nf A outer s H E (hr.deeper _) hgu
  have hown : (φ.pushF (envOfC qual (defScope st) s.heap.objs.size f cdv).cells).frs[s0.nf]? = some (envOfC qual (defScope st) s.heap.objs.size f cdv).cells := by
    show (φ.frs ++ [_])[s0.nf]? = _
    rw [← Sm.nf, List.getElem?_concat_length]
  have hq : rS (g.at (some (s0.nf, (envOfC qual (defScope st) s.heap.objs.size f cdv).cells))) (fun cls d _ H => E cls d H) (body s0.nf) { nx := fun _ H' => Q .non H', rt := Q } (start N vs) H := by
    refine ⟨φ.pushF (envOfC qual (defScope st) s.heap.objs.size f cdv).cells, _, { s0 with nf := s0.nf + 1 }, Sim.conv (o := none) Sm.pushF, start_sim (Reps.conv (o := none) (R.mono Le.pushF)) (fun p z => by cases z; exact hown), ?_⟩
    have hn : xs.length = ps.length := R.length.trans hl
    unfold fDefC at q
    rw [if_pos hn] at q
    rw [hn]
    cases z : body s0.nf (xs.map some ++ List.replicate (N.length - ps.length) none) { s0 with nf := s0.nf + 1 } with
    | nx ρ' s' => rw [z] at q; exact fun φ' H' σ' e' S' _ => q φ' H' .non (Le.pushF.trans e') S'.conv (by simp only [Rep])
    | rt p s' => rw [z] at q; exact fun φ' H' v e' S' R' => q φ' H' v (Le.pushF.trans e') S'.conv R'.conv
    | bk ρ' s' => rw [z] at q; exact q.elim
    | ct ρ' s' => rw [z] at q; exact q.elim
    | exc c x ρ' s' => rw [z] at q; exact fun φ' H' d u σ' e' S' _ a b r => q φ' H' d u (Le.pushF.trans e') S'.conv a b r.conv
    | stk => rw [z] at q; exact q.elim
  have I : L2.Inv (cxOf (L2.CX g.P g.w) g.P g.w g.K g.mg g.base N qual (defScope st) f cdv A outer s H E) [] (start N vs) H s1 := inv_start S hr.hd e0 hl r x
  refine wpAny_mono (ht.run [] s1 (start N vs) H _ I hq) (fun fl s' hs => ?_) fun e s' hs => hs
  have fin : ∀ {σ' : L2.St} {H' : Hp} {v : V} {u : Value}, L2.Inv (cxOf (L2.CX g.P g.w) g.P g.w g.K g.mg g.base N qual (defScope st) f cdv A outer s H E) [] σ' H' s' → L2.RelV v u → Q v H' → CE outer g.P g.w H s Q u s' :=
    fun {σ' H' v u} J rv q => ⟨v, H', J.os, J.bare, J.base, J.hok, rv, q⟩
  cases fl with
  | ret u =>
    obtain ⟨v, σ', H', J, rv, q⟩ := hs
    exact fin J rv q
  | next =>
    obtain ⟨σ', H', J, q⟩ := hs
    exact fin (v := V.non) (u := Value.none) J rfl q
  | brk =>
    obtain ⟨_, _, _, q⟩ := hs
    exact False.elim q
  | cont =>
    obtain ⟨_, _, _, q⟩ := hs
    exact False.elim q
end
end Pv

/-! Pv15: the end of a law. -/
namespace Pv
open PySem PySem.Spec PyProof.Rows L2

def sto0 : Sto := ⟨[], [], 0⟩
theorem reps_ints {g : G} {φ : Wm} {H : Hp} : ∀ ns : List Int, Reps g φ H (ns.map PV.int) (ns.map V.int)
  | [] => Reps.nil
  | i :: r => Reps.cons (rep_int.mpr rfl) (reps_ints r)
/-- what is known of the law at the heap behind the top -/
def LawAtG (P : Program) (w : World) (K : PySem.W.Frag) (k n : Nat) (x : Str) (mg : Str → Option Value) (fa : Addr) (h : Heap) : Prop :=
  ∃ (fd : FuncData) (cs : List (Addr × Addr)), (∀ p ∈ cs, h.get? p.2 = some { cls := .none, data := .fields #[] }) ∧ (∀ p ∈ cs, K.lookup p.2 = none) ∧ (∀ p ∈ cs, PySem.W.CodeHd h p.1 p.2) ∧ (∀ (s : Shared) (u : Value), BindsTo s fd ⟨[u], []⟩ [(x, u)]) ∧
    ∀ base : Heap, K.In base → base.Ns mainGlobals mg → (∀ p ∈ cs, LamX.TabB base mg p.1 p.2) → ∃ (g : G) (Fl : List PV → Sto → Res PV), g.P = P ∧ g.w = w ∧ g.K = K ∧ g.mg = mg ∧ g.base = base ∧ (∀ p ∈ g.T, p.1 ∈ cs.map (·.2)) ∧ FnG g k fa fd [x] Fl ∧
      ∀ ns : List Int, ns.length ≤ n → (∀ z ∈ ns, Builtin.Int.intBits z ≤ 1048576) → ∃ s', Fl [.kl (ns.map PV.int)] sto0 = .ok (.bl true) s'
/-- the law's call, from a heap in which the script and the tables alone may be tracked -/
theorem law_core {P : Program} {w : World} {K : PySem.W.Frag} {mg mb : Str → Option Value} {k : Nat} {fa a : Addr} {cs : List (Addr × Addr)} {fd : FuncData} {x : Str} {s₁ : Shared} {vs : List Value} {ns : List Int} {H : Hp}
    (KX : K.In s₁.heap) (hns : s₁.heap.Ns mainGlobals mg) (hb : s₁.heap.Ns builtinsNs mb) (hbb : ∀ x : Str, x ≠ "__name__" → mb x = bootBuiltins x) (hlim : s₁.heap.NoLimit) (hg : s₁.gens = #[])
    (hT : ∀ p ∈ cs, s₁.heap.get? p.2 = some { cls := .none, data := .fields #[] }) (nT : ∀ p ∈ cs, K.lookup p.2 = none) (C : ∀ p ∈ cs, PySem.W.CodeHd s₁.heap p.1 p.2)
    (hbm : ∃ (bm : Addr) (ob : Obj), mg "__builtins__" = some (.ref bm) ∧ bm ≠ builtinsNs ∧ s₁.heap.get? bm = some ob ∧ ob.cls = .type "module" ∧ ob.dict = some builtinsNs ∧ ob.data = .plain)
    (ha : s₁.heap.get? a = some { cls := .type "list", data := .seq vs.toArray }) (hr : Room k callerA)
    (F : ∀ base : Heap, K.In base → base.Ns mainGlobals mg → (∀ p ∈ cs, LamX.TabB base mg p.1 p.2) → ∃ (g : G) (Fl : List PV → Sto → Res PV), g.P = P ∧ g.w = w ∧ g.K = K ∧ g.mg = mg ∧ g.base = base ∧ (∀ p ∈ g.T, p.1 ∈ cs.map (·.2)) ∧ FnG g k fa fd [x] Fl ∧ ∃ s', Fl [.kl (ns.map PV.int)] sto0 = .ok (.bl true) s')
    (hbind : ∀ (s : Shared) (u : Value), BindsTo s fd ⟨[u], []⟩ [(x, u)])
    (hH : ∀ p ∈ cs, H p.2 = some (.tbl #[])) (hO : ∀ b, H b = none ∨ b ∈ cs.map (·.2) ∨ ∃ o xs, H b = some (.frz o (.lst xs))) (hS : SqL K H a (ns.map V.int)) (hok : HOk P w H s₁.heap) (hA : ∀ b, H b ≠ none → b = a ∨ b ∈ cs.map (·.2)) (hK : H a ≠ none → K.lookup a = none) (nl : ∀ xs, H a ≠ some (.lst xs)) :
    codeAny (model P w) callerA (.call (.ref fa) ⟨[.ref a], []⟩) (fun r s' => r = .ok (.ret (.bool true)) ∧ OldK s₁.heap s'.heap ∧ s'.os = s₁.os ∧ AllBare s'.gens) s₁ := by
  have isT : ∀ b : Addr, b ∈ cs.map (·.2) → s₁.heap.get? b = some { cls := .none, data := .fields #[] } := fun b hb => by
    obtain ⟨p, hp, e⟩ := List.mem_map.mp hb
    rw [← e]
    exact hT p hp
  have base_of : ∀ {b : Addr} {o : Obj}, s₁.heap.get? b = some o → H b = none → (hidT s₁.heap H).get? b = some o := fun e n => hidT_get e n
  have noD : ∀ {b : Addr} {o : Obj}, s₁.heap.get? b = some o → (∀ vs n, o.data ≠ .seq vs n) → o.data ≠ .fields #[] → H b = none := fun {b o} e h1 h2 => by
    cases q : H b with
    | none => rfl
    | some u =>
      rcases hA b (by rw [q]; simp) with e' | e'
      · rw [e', ha] at e; cases e; exact (h1 _ _ rfl).elim
      · rw [isT b e'] at e; cases e; exact (h2 rfl).elim
  have noA : ∀ {b : Addr} {o : Obj} {es : Array DictEntry} {ep : Nat}, s₁.heap.get? b = some o → o.data = .dict es ep → H b = none := fun {b o es ep} e d =>
    noD e (fun vs n z => by rw [d] at z; cases z) fun z => by rw [d] at z; cases z
  have nsK : ∀ {b : Addr} {m : Str → Option Value}, s₁.heap.Ns b m → (hidT s₁.heap H).Ns b m := fun {b m} ⟨o, es, ep, e, d, r⟩ => ⟨o, es, ep, base_of e (noA e d), d, r⟩
  have hKb : K.In (hidT s₁.heap H) := fun b o e => base_of (KX b o e) (by
    cases q : H b with
    | none => rfl
    | some u =>
      rcases hA b (by rw [q]; simp) with e' | e'
      · rw [e'] at e q
        rw [hK (by rw [q]; simp)] at e; cases e
      · obtain ⟨p, hp, ep⟩ := List.mem_map.mp e'
        rw [← ep, nT p hp] at e; cases e)
  have hM : L2.Mod K mg (hidT s₁.heap H) := ⟨hKb, nsK hns, ⟨mb, nsK hb, hbb⟩, let ⟨mc, h1, h2⟩ := hlim; ⟨mc, nsK h1, h2⟩⟩
  have TB : ∀ p ∈ cs, LamX.TabB (hidT s₁.heap H) mg p.1 p.2 := fun p hp => by
    have hTp := hT p hp
    refine ⟨?_, ?_, fun z => ?_⟩
    · obtain ⟨o, us, file, tf, flags, tg, inF, text, tt, e1, r1, r2, r3, r4, r5, r6, r7, r8, hne⟩ := C p hp
      exact ⟨o, us, file, tf, flags, tg, inF, text, tt, base_of e1 (noD e1 (fun vs n z => by rw [r2] at z; cases z) fun z => by rw [r2] at z; cases z; simp at r3), r1, r2, r3, r4, r5, r6, r7, r8, hne⟩
    · obtain ⟨bm, ob, b1, b2, b3, b4, b5, b6⟩ := hbm
      have nG : bm ≠ mainGlobals := fun q => by
        obtain ⟨o, es, ep, e, hd, _⟩ := hns
        rw [q, e] at b3; cases b3
        rw [hd] at b6; cases b6
      have nP : bm ≠ p.2 := fun q => by
        rw [q, hTp] at b3; cases b3; cases b6
      exact ⟨bm, ob, b1, b2, nG, nP, base_of b3 (noD b3 (fun vs n z => by rw [b6] at z; cases z) fun z => by rw [b6] at z; cases z), b4, b5, b6⟩
    · obtain ⟨o, es, ep, e, hd, _⟩ := hns
      rw [z, hTp] at e; cases e; cases hd
  have e0 : Env0 P w K mg (hidT s₁.heap H) callerA [] s₁ H := ⟨rfl, hM, fun b o e => of_hidT e, Nat.le_of_eq (hidT_size _ _), trivial, fun b hb => absurd (show b ∈ ([] : List Addr) from hb) (by simp), hok, .of_eq hg⟩
  obtain ⟨g, Fl, g1, g2, g3, g4, g5, gT, Fn, sE, hE⟩ := F _ hKb (nsK hns) TB
  have S0 : Sim g.b ⟨[], [], []⟩ H sto0 := by
    refine ⟨rfl, List.nodup_nil, fun l o a h1 _ => by simp [sto0] at h1, rfl, fun a h => (nomatch h), fun p hp => ?_, fun p hp => (nomatch hp)⟩
    obtain ⟨q, hq, e⟩ := List.mem_map.mp (gT p hp)
    have := hH q hq
    rw [e] at this
    exact NdefX.TabN.nil this
  have R0 : Reps g.b ⟨[], [], []⟩ H [.kl (ns.map PV.int)] [.ref a] := by
    refine Reps.cons ?_ Reps.nil
    simp only [Rep]
    refine ⟨a, ns.map V.int, rfl, ?_, reps_ints ns⟩
    rcases hS with (q | q) | q
    · exact absurd q (nl _)
    · exact .inl ⟨q, by simp⟩
    · exact .inr (by show ∃ o its n, g.K.lookup a = some o ∧ _; rw [g3]; exact q)
  have hsp : spOf g.b Fl [.ref a] H (fun v _ => v = .bl true) (fun _ _ _ => False) := by
    refine ⟨_, sto0, _, S0, R0, ?_⟩
    rw [hE]
    exact fun φ' H' v _ _ r => rep_bl.mp r
  have e0' : Env0 g.P g.w g.K g.mg g.base callerA [] s₁ H := by rw [g1, g2, g3, g4, g5]; exact e0
  have go : codeAny (model g.P g.w) callerA (.call (.ref fa) ⟨[.ref a], []⟩) (CR (L2.CX g.P g.w) [] g.P g.w H s₁ (fun v _ => v = .bl true) (fun _ _ _ => False)) s₁ :=
    Fn.run callerA [] s₁ H ⟨[.ref a], []⟩ [.ref a] [.ref a] _ _ hr rfl e0' (hbind s₁ (.ref a)) (.cons rfl .nil) rfl hsp
  rw [g1, g2] at go
  refine codeAny_mono go fun r s' h => ?_
  cases r with
  | error e =>
    obtain ⟨_, _, _, _, _, _, _, _, _, _, _, _, z⟩ := h
    exact z.elim
  | ok fl =>
    cases fl with
    | next => exact False.elim h
    | brk => exact False.elim h
    | cont => exact False.elim h
    | ret u =>
      obtain ⟨v, H', os, bare, un, hok', r', q⟩ := h
      have q' : v = .bl true := q
      subst q'
      obtain rfl : u = Value.bool true := r'
      have key : ∀ b o, b ∉ cs.map (·.2) → s₁.heap.get? b = some o → s'.heap.get? b = some o := fun b o nb e => by
        cases q : H b with
        | none => exact un.keep b o e q (by intro z; exact absurd (show b ∈ ([] : List Addr) from z) (by simp)) (by simp)
        | some u =>
          rcases hO b with z | z | ⟨ob, xs, z⟩
          · rw [q] at z; cases z
          · exact absurd z nb
          · obtain ⟨e1, _⟩ := hok b _ z
            obtain ⟨e2, _⟩ := hok' b _ (un.frzs b ob _ z)
            rw [e] at e1; cases e1
            exact e2
      have grown : ∀ p ∈ cs, ∃ more : Array Value, s'.heap.get? p.2 = some { cls := .none, data := .fields more } := fun p hp => by
        obtain ⟨more, z⟩ := un.tbls p.2 #[] (hH p hp)
        exact ⟨_, hok' p.2 _ z⟩
      refine ⟨rfl, ⟨fun b o e => ?_, fun b o e => ?_⟩, os, bare⟩
      · by_cases hb : b ∈ cs.map (·.2)
        · obtain ⟨p, hp, ep⟩ := List.mem_map.mp hb
          obtain ⟨more, hm⟩ := grown p hp
          rw [← ep] at e ⊢
          rw [hT p hp] at e
          cases e
          exact .inr (.inl ⟨((C p hp).tab (hT p hp)).isCodeTable, rfl, #[], more, rfl, by rw [Array.empty_append]; exact hm⟩)
        · exact .inl (key b o hb e)
      · by_cases hb : b ∈ cs.map (·.2)
        · obtain ⟨p, hp, ep⟩ := List.mem_map.mp hb
          obtain ⟨more, hm⟩ := grown p hp
          rw [← ep]
          exact ⟨_, hm⟩
        · exact ⟨o, key b o hb e⟩
theorem law_callG {P : Program} {w : World} {K : PySem.W.Frag} {mg mb : Str → Option Value} {k n : Nat} {fa a : Addr} {x : Str} {s₁ : Shared} {vs : List Value} {ns : List Int}
    (KX : K.In s₁.heap) (hns : s₁.heap.Ns mainGlobals mg) (hb : s₁.heap.Ns builtinsNs mb) (hbb : ∀ x : Str, x ≠ "__name__" → mb x = bootBuiltins x) (hlim : s₁.heap.NoLimit) (hg : s₁.gens = #[])
    (L : LawAtG P w K k n x mg fa s₁.heap)
    (hbm : ∃ (bm : Addr) (ob : Obj), mg "__builtins__" = some (.ref bm) ∧ bm ≠ builtinsNs ∧ s₁.heap.get? bm = some ob ∧ ob.cls = .type "module" ∧ ob.dict = some builtinsNs ∧ ob.data = .plain)
    (ha : s₁.heap.get? a = some { cls := .type "list", data := .seq vs.toArray }) (hi : IntsAre vs ns) (hl : ns.length ≤ n) (hn2 : n ≤ sizeLine) (hbits : ∀ z ∈ ns, Builtin.Int.intBits z ≤ 1048576) (hr : Room k callerA) :
    codeAny (model P w) callerA (.call (.ref fa) ⟨[.ref a], []⟩) (fun r s' => r = .ok (.ret (.bool true)) ∧ OldK s₁.heap s'.heap ∧ s'.os = s₁.os ∧ AllBare s'.gens) s₁ := by
  obtain ⟨fd, cs, hT, nT, C, hbind, F⟩ := L
  have F' : ∀ base : Heap, K.In base → base.Ns mainGlobals mg → (∀ p ∈ cs, LamX.TabB base mg p.1 p.2) → ∃ (g : G) (Fl : List PV → Sto → Res PV), g.P = P ∧ g.w = w ∧ g.K = K ∧ g.mg = mg ∧ g.base = base ∧ (∀ p ∈ g.T, p.1 ∈ cs.map (·.2)) ∧ FnG g k fa fd [x] Fl ∧ ∃ s', Fl [.kl (ns.map PV.int)] sto0 = .ok (.bl true) s' := fun base h1 h2 h3 => by
    obtain ⟨g, Fl, a1, a2, a3, a4, a5, a6, a7, a8⟩ := F base h1 h2 h3
    exact ⟨g, Fl, a1, a2, a3, a4, a5, a6, a7, a8 ns hl hbits⟩
  have rv := vals_ints hi
  have lenV := hi.length
  have hlz := Nat.le_trans hl hn2
  have isT : ∀ b : Addr, b ∈ cs.map (·.2) → s₁.heap.get? b = some { cls := .none, data := .fields #[] } := fun b hb => by
    obtain ⟨p, hp, e⟩ := List.mem_map.mp hb
    rw [← e]
    exact hT p hp
  have aT : a ∉ cs.map (·.2) := fun z => by
    have q := isT a z
    rw [ha] at q
    have z' : Data.seq vs.toArray _ = Data.fields #[] := congrArg Obj.data (Option.some.inj q)
    cases z'
  have memT : ∀ p ∈ cs, p.2 ∈ cs.map (·.2) := fun p hp => List.mem_map.mpr ⟨p, hp, rfl⟩
  cases hk : K.lookup a with
  | some o =>
    have e := KX a o hk
    rw [ha] at e
    cases e
    have hN : (if a ∈ cs.map (·.2) then some (HO.tbl #[]) else none) = none := if_neg aT
    refine law_core (H := fun b => if b ∈ cs.map (·.2) then some (.tbl #[]) else none) KX hns hb hbb hlim hg hT nT C hbm ha hr F' hbind (fun p hp => if_pos (memT p hp)) (fun b => ?_) (.inr ⟨_, vs.toArray, _, hk, rfl, rfl, rfl, by rw [List.size_toArray, lenV]; exact hlz, by simpa using rv⟩) (fun b u z => ?_) (fun b z => ?_) (fun z => absurd hN z) (fun xs z => by
      have z' : (if a ∈ cs.map (·.2) then some (HO.tbl #[]) else none) = some (.lst xs) := z
      rw [hN] at z'; cases z')
    · by_cases hb : b ∈ cs.map (·.2)
      · exact .inr (.inl hb)
      · exact .inl (if_neg hb)
    · by_cases hb : b ∈ cs.map (·.2)
      · have z' := (if_pos hb).symm.trans z
        cases z'
        exact isT b hb
      · have z' := (if_neg hb).symm.trans z
        cases z'
    · by_cases hb : b ∈ cs.map (·.2)
      · exact .inr hb
      · exact absurd (if_neg hb) z
  | none =>
    refine law_core (H := fun b => if b = a then some (.frz { cls := .type "list", data := .seq vs.toArray } (.lst (ns.map V.int))) else if b ∈ cs.map (·.2) then some (.tbl #[]) else none) KX hns hb hbb hlim hg hT nT C hbm ha hr F' hbind
      (fun p hp => (if_neg (show ¬ p.2 = a from fun z => aT (by rw [← z]; exact memT p hp))).trans (if_pos (memT p hp))) (fun b => ?_) (.inl (.inr ⟨{ cls := .type "list", data := .seq vs.toArray }, if_pos rfl⟩)) (fun b u z => ?_) (fun b z => ?_) (fun _ => hk) (fun xs z => by
        have z' := (if_pos rfl).symm.trans z
        cases z')
    · by_cases hb : b = a
      · exact .inr (.inr ⟨_, _, if_pos hb⟩)
      · by_cases hb2 : b ∈ cs.map (·.2)
        · exact .inr (.inl hb2)
        · exact .inl ((if_neg hb).trans (if_neg hb2))
    · by_cases hb : b = a
      · have z' := (if_pos hb).symm.trans z
        cases z'
        rw [hb]
        exact ⟨ha, by rw [List.length_map]; exact hlz, vs, _, rv, ha⟩
      · have z1 := (if_neg hb).symm.trans z
        by_cases hb2 : b ∈ cs.map (·.2)
        · have z' := (if_pos hb2).symm.trans z1
          cases z'
          exact isT b hb2
        · have z' := (if_neg hb2).symm.trans z1
          cases z'
    · by_cases hb : b = a
      · exact .inl hb
      · by_cases hb2 : b ∈ cs.map (·.2)
        · exact .inr hb2
        · exact absurd ((if_neg hb).trans (if_neg hb2)) z
/-- the goal that k_head leaves -/
theorem walk_G {l : PySem.W.OpenLaw} {n k : Nat} {q : Program} {loose : List Str} {XP : (Str → Option Value) → Heap → Prop} {YP : World → Heap → Prop} {d : DefRec} {K : Params → PySem.W.Frag} {x : Str}
    (hn : l.most = some n) (hn2 : n ≤ sizeLine) (hdf : d.params.defaults = []) (hr : Room k callerA) (hY : ∀ (w : World) (h : Heap), YP w h → (K w.params).In h)
    (F : ∀ (w : World) (mg : Str → Option Value) (fa : Addr) (h : Heap), YP w h → (K w.params).In h → h.Ns mainGlobals mg → XP mg h → mg d.name = some (.ref fa) → LawAtG l.prog w (K w.params) k n x mg fa h) :
    PySem.W.WalkO q loose XP YP l.row.toRowW d [] (fun f vs => PySem.call f vs) := by
  refine Att.attach_callB hn hdf fun w s₀ s₁ mg mb fa o pm cd doc a vs ns G Y ho hd hcd hmg hobj hints hlen hbits hg => ?_
  have KX := hY w _ Y
  exact law_callG KX G.T.g G.T.b G.T.builtins G.T.nolimit hg (F w mg fa _ Y KX G.T.g G.X hmg) G.T.bmain hobj hints hlen hn2 hbits hr
end Pv

/-! Pv16: calls with keywords; list(range(..)). -/
namespace Pv
open PySem PySem.Spec PyProof.Rows L2

section
variable {g : G} {W : WX} {X : Cx} {e : Expr} {kws : List Keyword} {fe : EF} {fk : Sl → Sto → Res (List PV)} {nm : Option Str} {kpos : Pos}
theorem pk_of {t t' : TA} (h : PK X kws t) (k : ∀ σ H Q, t' σ H Q → t σ H Q) : PK X kws t' := ⟨fun pos pins s σ H Q I q => h.run pos pins s σ H Q I (k σ H Q q)⟩
theorem k_nil : PK X [] (rA g W fNil) := pk_of pk_nil fun σ H Q ⟨φ, ρ, s, S, E, h⟩ => h φ H [] (Le.refl _ _) S Reps.nil
theorem k_cons (ha : PE X e (rE g W fe)) (hr : PK X kws (rA g W fk)) : PK X (⟨nm, e, kpos⟩ :: kws) (rA g W (fCons fe fk)) := by
  refine pk_of (pk_cons ha hr) ?_
  rintro σ H Q ⟨φ, ρ, s, S, E, h⟩
  refine seqEA S E h fun φ1 H1 s1 p v e1 S1 R1 h1 => ?_
  refine seqAA S1 (E.mono e1) h1 fun φ2 H2 s2 q u e2 S2 R2 h2 => ?_
  exact h2 φ2 H2 _ (Le.refl _ _) S2 (Reps.cons (R1.mono e2) R2)
end
/-- the keywords' values in the parameters' order -/
def ordV {α : Type} (d : α) (ord : List Nat) (zs : List α) : List α := ord.map fun i => zs.getD i d
def fCallK (n a b : Nat) (ord : List Nat) (F : List PV → Sto → Res PV) (fs fk : Sl → Sto → Res (List PV)) : EF := fun ρ s => (fs ρ s).bind fun xs s1 => (fk ρ s1).bind fun zs s2 => if xs.length = a ∧ zs.length = b then F (xs ++ ordV .non ord zs) s2 else .stk
theorem Reps.getD {g : G} {φ : Wm} {H : Hp} {xs : List PV} {vs : List V} (R : Reps g φ H xs vs) {i : Nat} (hi : i < xs.length) : Rep g φ H (xs.getD i .non) (vs.getD i .non) := by
  obtain ⟨v, a, b⟩ := R.get (List.getElem?_eq_getElem hi)
  have h1 : xs.getD i .non = xs[i] := by rw [List.getD_eq_getElem?_getD, List.getElem?_eq_getElem hi]; rfl
  have h2 : vs.getD i .non = v := by rw [List.getD_eq_getElem?_getD, a]; rfl
  rw [h1, h2]; exact b
theorem Reps.ord {g : G} {φ : Wm} {H : Hp} {zs : List PV} {vs : List V} (R : Reps g φ H zs vs) : ∀ ord : List Nat, (∀ i ∈ ord, i < zs.length) → Reps g φ H (ordV .non ord zs) (ordV .non ord vs)
  | [], _ => Reps.nil
  | i :: r, h => Reps.cons (R.getD (h i List.mem_cons_self)) (Reps.ord R r fun j hj => h j (List.mem_cons_of_mem _ hj))
theorem Vals.ord {vs : List V} {us : List Value} (r : Vals vs us) : ∀ ord : List Nat, (∀ i ∈ ord, i < vs.length) → Vals (ordV .non ord vs) (ordV .none ord us)
  | [], _ => .nil
  | i :: l, h => by
    have hi := h i List.mem_cons_self
    obtain ⟨u, hu, rv⟩ := r.get (List.getElem?_eq_getElem hi)
    have h1 : vs.getD i .non = vs[i] := by rw [List.getD_eq_getElem?_getD, List.getElem?_eq_getElem hi]; rfl
    have h2 : us.getD i .none = u := by rw [List.getD_eq_getElem?_getD, hu]; rfl
    refine .cons ?_ (Vals.ord r l fun j hj => h j (List.mem_cons_of_mem _ hj))
    show L2.RelV (vs.getD i .non) (us.getD i .none)
    rw [h1, h2]; exact rv
section
variable {g : G} {W : WX} {X : Cx} {j k a b : Nat} {f : Addr} {fd : FuncData} {ps ks : List Str} {ord : List Nat} {F : List PV → Sto → Res PV} {x : Str} {p pos : Pos} {e : Expr} {es : List Expr} {kws : List Keyword} {fs fk : Sl → Sto → Res (List PV)}
/-- what comes behind the arguments -/
theorem run_gK {pins : List (Addr × Obj)} {σ : L2.St} {H : Hp} {s : Shared} {Q : VK} {φ : Wm} {st : Sto} {xs zs : List PV} {vs ws : List V} {us uz : List Value} (hX : InG g X) (Fn : FnG g k f fd ps F) (hr : Room j X.A) (hk : k ≤ j) (tk : Takes X W) (I : L2.Inv X pins σ H s)
    (hb : ∀ us ws : List Value, us.length = a → ws.length = b → BindsTo s fd ⟨us, ks.zip ws⟩ (ps.zip (us ++ ordV .none ord ws))) (hps : ps.length = a + ord.length) (hord : ∀ i ∈ ord, i < b)
    (S : Sim g φ H st) (R : Reps g φ H xs vs) (Rz : Reps g φ H zs ws) (r : Vals vs us) (rz : Vals ws uz) (q : OutE g W φ H σ (if xs.length = a ∧ zs.length = b then F (xs ++ ordV .non ord zs) st else .stk) Q) :
    wpAny (model X.prog X.w) X.A (call (.ref f) us (ks.zip uz)) (EP X pins σ Q) X.xe s := by
  by_cases hl : xs.length = a ∧ zs.length = b
  · rw [if_pos hl] at q
    have l1 : vs.length = a := R.length.symm.trans hl.1
    have l2 : ws.length = b := Rz.length.symm.trans hl.2
    have hv : (vs ++ ordV .non ord ws).length = ps.length := by rw [List.length_append, l1, hps]; simp [ordV]
    refine run_g (args := ⟨us, ks.zip uz⟩) (us := us ++ ordV .none ord uz) (vs := vs ++ ordV .non ord ws) hX Fn hr hk tk I (hb us uz (r.length.symm.trans l1) (rz.length.symm.trans l2)) (r.append (Vals.ord rz ord fun i hi => by rw [l2]; exact hord i hi)) hv ?_
    refine ⟨φ, st, xs ++ ordV .non ord zs, Sim.conv (o := g.own) S, Reps.conv (o := g.own) (R.append (Rz.ord ord fun i hi => by rw [hl.2]; exact hord i hi)), OutF.conv (o := g.own) ?_ none⟩
    generalize F (xs ++ ordV .non ord zs) st = z at q ⊢
    cases z with
    | ok p0 s' => exact q
    | exc c0 x0 s' => exact q
    | stk => exact q
  · rw [if_neg hl] at q; exact q.elim
theorem x_callK (hX : InG g X) (Fn : FnG g k f fd ps F) (hr : Room j X.A) (hk : k ≤ j) (hm : g.mg x = some (.ref f)) (hkp : PySem.W.keepIn g.K (.ref f) = true) (tk : Takes X W)
    (hb : ∀ (s : Shared) (us ws : List Value), g.K.In s.heap → us.length = a → ws.length = b → BindsTo s fd ⟨us, ks.zip ws⟩ (ps.zip (us ++ ordV .none ord ws))) (ha : PA X (e :: es) (rA g W fs)) (hkw : PK X kws (rA g W fk)) (hps : ps.length = a + ord.length := by rfl) (hord : ∀ i ∈ ord, i < b := by decide)
    (hg : Gl X x := by rfl) (hall : (backToKw pos (keywordEach kws X.env)).all (·.1.isSome) = true := by rfl) (hks : (backToKw pos (keywordEach kws X.env)).filterMap (·.1) = ks := by rfl)
    (hdb : (x == ("__debug__" : Str)) = false := by decide) (he : starEach (e :: es) X.env = (false, eval e X.env) :: starEach es X.env := by rfl)
    (hpl : ((backTo pos (starEach (e :: es) X.env)).any (·.1) || (backToKw pos (keywordEach kws X.env)).any (·.1.isNone)) = false := by rfl) :
    PE X (.Call (.Name x p) (e :: es) kws pos) (rE g W (fCallK ps.length a b ord F fs fk)) := by
  refine ⟨fun pins s σ H Q I h => ?_⟩
  obtain ⟨φ, ρ, st, S, E, h⟩ := h
  refine wpAny_Call_Name_kw (ld_glob I hg (by rw [hX.mg]; exact hm) ?_ hdb)
  refine PySem.W.callWith_KW (h₀ := X.base) I.ok.mod.kin (by rw [hX.K]; exact hkp) hall (thn (ha.run pos pins s σ H _ I (seqAE (R := fun vs H1 => ∃ φ1 st1 xs, Sim g φ1 H1 st1 ∧ EnvSim g φ1 H1 σ ρ ∧ Reps g φ1 H1 xs vs ∧ OutE g W φ1 H1 σ ((fk ρ st1).bind fun zs s2 => if xs.length = a ∧ zs.length = b then F (xs ++ ordV .non ord zs) s2 else .stk) Q)
    S E h fun φ1 H1 st1 xs vs e1 S1 R1 h1 => ⟨φ1, st1, xs, S1, E.mono e1, R1, h1⟩)) fun us s1 ⟨vs, H1, I1, r, φ1, st1, xs, S1, E1, R1, h1⟩ => ?_) hpl he
  refine thn (hkw.run pos pins s1 σ H1 _ I1 (seqAE (R := fun ws H2 => ∃ φ2 st2 zs, Sim g φ2 H2 st2 ∧ Reps g φ2 H2 xs vs ∧ Reps g φ2 H2 zs ws ∧ OutE g W φ2 H2 σ (if xs.length = a ∧ zs.length = b then F (xs ++ ordV .non ord zs) st2 else .stk) Q)
    S1 E1 h1 fun φ2 H2 st2 zs ws e2 S2 R2 h2 => ⟨φ2, st2, zs, S2, R1.mono e2, R2, h2⟩)) fun uz s2 ⟨ws, H2, I2, rz, φ2, st2, zs, S2, R2, Rz, q⟩ => ⟨I2.kIn, ?_⟩
  rw [hks]
  exact run_gK hX Fn hr hk tk I2 (fun us ws h1 h2 => hb s2 us ws (by rw [← hX.K]; exact I2.kIn) h1 h2) hps hord S2 R2 Rz r rz q
theorem x_callK0 (hX : InG g X) (Fn : FnG g k f fd ps F) (hr : Room j X.A) (hk : k ≤ j) (hm : g.mg x = some (.ref f)) (hkp : PySem.W.keepIn g.K (.ref f) = true) (tk : Takes X W)
    (hb : ∀ (s : Shared) (us ws : List Value), g.K.In s.heap → us.length = 0 → ws.length = b → BindsTo s fd ⟨us, ks.zip ws⟩ (ps.zip (us ++ ordV .none ord ws))) (hkw : PK X kws (rA g W fk)) (hps : ps.length = 0 + ord.length := by rfl) (hord : ∀ i ∈ ord, i < b := by decide)
    (hg : Gl X x := by rfl) (hall : (backToKw pos (keywordEach kws X.env)).all (·.1.isSome) = true := by rfl) (hks : (backToKw pos (keywordEach kws X.env)).filterMap (·.1) = ks := by rfl)
    (hdb : (x == ("__debug__" : Str)) = false := by decide)
    (hpl : ((backTo pos (starEach [] X.env)).any (·.1) || (backToKw pos (keywordEach kws X.env)).any (·.1.isNone)) = false := by rfl) :
    PE X (.Call (.Name x p) [] kws pos) (rE g W (fCallK ps.length 0 b ord F fNil fk)) := by
  refine ⟨fun pins s σ H Q I h => ?_⟩
  obtain ⟨φ, ρ, st, S, E, h⟩ := h
  refine wpAny_Call_Name_kw (ld_glob I hg (by rw [hX.mg]; exact hm) ?_ hdb)
  refine PySem.W.callWith_KW0 (h₀ := X.base) I.ok.mod.kin (by rw [hX.K]; exact hkp) hall ?_ hpl
  refine thn (hkw.run pos pins s σ H _ I (seqAE (R := fun ws H2 => ∃ φ2 st2 zs, Sim g φ2 H2 st2 ∧ Reps g φ2 H2 zs ws ∧ OutE g W φ2 H2 σ (if ([] : List PV).length = 0 ∧ zs.length = b then F ([] ++ ordV .non ord zs) st2 else .stk) Q)
    S E h fun φ2 H2 st2 zs ws e2 S2 R2 h2 => ⟨φ2, st2, zs, S2, R2, h2⟩)) fun uz s2 ⟨ws, H2, I2, rz, φ2, st2, zs, S2, Rz, q⟩ => ⟨I2.kIn, ?_⟩
  rw [hks]
  exact run_gK hX Fn hr hk tk I2 (fun us ws h1 h2 => hb s2 us ws (by rw [← hX.K]; exact I2.kIn) h1 h2) hps hord S2 Reps.nil Rz .nil rz q
/-- f() -/
theorem x_call0 (hX : InG g X) (Fn : FnG g k f fd [] F) (hr : Room j X.A) (hk : k ≤ j) (hm : g.mg x = some (.ref f)) (hkp : PySem.W.keepIn g.K (.ref f) = true) (hb : Binds g.K fd [] []) (tk : Takes X W)
    (hg : Gl X x := by rfl) (hdb : (x == ("__debug__" : Str)) = false := by decide) : PE X (.Call (.Name x p) [] [] pos) (rE g W (fCall 0 F fNil)) := by
  refine ⟨fun pins s σ H Q I h => ?_⟩
  refine wpAny_Call_Name_kw (ld_glob I hg (by rw [hX.mg]; exact hm) ?_ hdb)
  refine PySem.W.callWith_K0 I.kIn (by rw [hX.K]; exact hkp) ?_
  obtain ⟨φ, ρ, st, S, E, h⟩ := h
  have b := hb s [] (by rw [← hX.K]; exact I.kIn) rfl
  refine run_g (args := ⟨[], []⟩) (us := []) (vs := []) hX Fn hr hk tk I b .nil rfl ⟨φ, st, [], Sim.conv (o := g.own) S, Reps.nil, OutF.conv (o := g.own) ?_ none⟩
  unfold fCall fNil at h
  simp only [Res.bind_ok, List.length_nil, if_true] at h
  cases z : F [] st with
  | ok p0 s' => rw [z] at h; exact h
  | exc c0 x0 s' => rw [z] at h; exact h
  | stk => rw [z] at h; exact h
end

/-! ### list(range(n)) -/
def rgP (a b : Int) : List PV := (List.range (b - a).toNat).map fun i => PV.int (a + (i : Nat))
def fLstRg1 (fe : EF) : EF := fun ρ s => (fe ρ s).bind fun p s1 => match p with
  | .int n => if -(2 ^ 62) ≤ n ∧ n ≤ 2 ^ 24 then .ok (.tmp (rgP 0 n)) s1 else .stk
  | _ => .stk
def fLstRg2 (fa fb : EF) : EF := fun ρ s => (fa ρ s).bind fun p s1 => (fb ρ s1).bind fun q s2 => match p, q with
  | .int a, .int b => if 0 ≤ a ∧ a ≤ 2 ^ 24 ∧ 0 ≤ b ∧ b ≤ 2 ^ 24 then .ok (.tmp (rgP a b)) s2 else .stk
  | _, _ => .stk
theorem reps_rg {g : G} {φ : Wm} {H : Hp} (a b : Int) : Reps g φ H (rgP a b) (rgV a b) := by
  unfold rgP rgV
  generalize List.range (b - a).toNat = l
  induction l with
  | nil => exact Reps.nil
  | cons i r ih => exact Reps.cons (rep_int.mpr rfl) ih
section
variable {g : G} {W : WX} {X : Cx} {a b : Expr} {fa fb : EF} {p p2 pos pos2 : Pos}
theorem x_lstRg1 (hc : X.calm = true) (h1 : X.mg "list" = none) (h2 : X.mg "range" = none) (ha : PE X a (rE g W fa)) (g1 : Gl X "list" := by rfl) (g2 : Gl X "range" := by rfl) (na : starEach [a] X.env = (false, eval a X.env) :: starEach [] X.env := by rfl)
    (na2 : starEach [.Call (.Name "range" p2) [a] [] pos2] X.env = (false, eval (.Call (.Name "range" p2) [a] [] pos2) X.env) :: starEach [] X.env := by rfl) : PE X (.Call (.Name "list" p) [.Call (.Name "range" p2) [a] [] pos2] [] pos) (rE g W (fLstRg1 fa)) := by
  refine pe_of (pe_listRg hc g1 h1 (prg_1 g2 h2 ha na) na2) ?_
  rintro σ H Q ⟨φ, ρ, s, S, E, q⟩
  refine seqEE S E q fun φ1 H1 s1 p v e1 S1 R1 q1 => ?_
  cases p with
  | int n =>
    by_cases hn : -(2 ^ 62) ≤ n ∧ n ≤ 2 ^ 24
    · simp only [if_pos hn] at q1
      refine ⟨n, rep_int.mp R1, ⟨by decide, by decide, hn.1, Int.lt_of_le_of_lt hn.2 (by decide), by omega⟩, fun l hl => q1 φ1 _ _ (S1.lenew hl) (S1.new hl) (new_tmp S1 hl (reps_rg 0 n))⟩
    · simp only [if_neg hn] at q1; exact q1.elim
  | _ => exact q1.elim
theorem x_lstRg2 (hc : X.calm = true) (h1 : X.mg "list" = none) (h2 : X.mg "range" = none) (ha : PE X a (rE g W fa)) (hb : PE X b (rE g W fb)) (g1 : Gl X "list" := by rfl) (g2 : Gl X "range" := by rfl) (na : starEach [a, b] X.env = (false, eval a X.env) :: starEach [b] X.env := by rfl) (nb : starEach [b] X.env = (false, eval b X.env) :: starEach [] X.env := by rfl)
    (hp : (backTo pos2 (starEach [b] X.env)).any (·.1) = false := by rfl)
    (na2 : starEach [.Call (.Name "range" p2) [a, b] [] pos2] X.env = (false, eval (.Call (.Name "range" p2) [a, b] [] pos2) X.env) :: starEach [] X.env := by rfl) : PE X (.Call (.Name "list" p) [.Call (.Name "range" p2) [a, b] [] pos2] [] pos) (rE g W (fLstRg2 fa fb)) := by
  refine pe_of (pe_listRg hc g1 h1 (prg_2 g2 h2 ha hb na nb hp) na2) ?_
  rintro σ H Q ⟨φ, ρ, s, S, E, q⟩
  refine seqEE S E q fun φ1 H1 s1 p v e1 S1 R1 q1 => ?_
  refine seqEE S1 (E.mono e1) q1 fun φ2 H2 s2 q u e2 S2 R2 q2 => ?_
  split at q2
  · rename_i i j
    by_cases hn : 0 ≤ i ∧ i ≤ 2 ^ 24 ∧ 0 ≤ j ∧ j ≤ 2 ^ 24
    · rw [if_pos hn] at q2
      exact ⟨i, j, rep_int.mp R1, rep_int.mp R2, RgOk.of_le hn.1 hn.2.2.2 hn.2.1 hn.2.2.1, fun l hl => q2 φ2 _ _ (S2.lenew hl) (S2.new hl) (new_tmp S2 hl (reps_rg i j))⟩
    · rw [if_neg hn] at q2; exact q2.elim
  · exact q2.elim
end
end Pv

/-! Pv17: what is said of a program's names; calls by these. -/
namespace Pv
open PySem PySem.Spec PyProof.Rows L2

/-- the def of the name x stands in the written part -/
structure FunAt (g : G) (x : Str) (st : Stmt) (ps : List Str) (f : Addr) (fd : FuncData) : Prop where
  F : L2.Fun g.K x x st f fd
  m : g.mg x = some (.ref f)
  b : Binds g.K fd ps []
/-- .. and does what Fp says -/
structure CalGb (g : G) (k : Nat) (x : Str) (st : Stmt) (ps : List Str) (Fp : List PV → Sto → Res PV) : Prop where
  ex : ∃ f fd, FunAt g x st ps f fd ∧ FnGb g k f fd ps Fp
abbrev CalG (g : G) := CalGb g.b
/-- a module's constant -/
structure GlobB (g : G) (x : Str) (p : PV) : Prop where
  ex : ∃ v u, g.mg x = some u ∧ RelV v u ∧ ∀ φ H, Rep g φ H p v
abbrev GlobOk (g : G) := GlobB g.b
section
variable {g : G} {W : WX} {X : Cx} {j k a b : Nat} {st : Stmt} {ps ks : List Str} {Fp : List PV → Sto → Res PV} {x : Str} {p pos : Pos} {e : Expr} {es : List Expr} {fs fk : Sl → Sto → Res (List PV)} {fid : Nat} {caps : List (Str × Nat)} {kws : List Keyword} {ord : List Nat}
theorem x_callG (hX : InG g X) (C : CalG g k x st ps Fp) (hr : Room j X.A) (hk : k ≤ j) (tk : Takes X W) (ha : PA X (e :: es) (rA g W fs))
    (hg : Gl X x := by rfl) (hdb : (x == ("__debug__" : Str)) = false := by decide) (he : starEach (e :: es) X.env = (false, eval e X.env) :: starEach es X.env := by rfl) (hpl : (backTo pos (starEach es X.env)).any (·.1) = false := by rfl) :
    PE X (.Call (.Name x p) (e :: es) [] pos) (rE g W (fCall ps.length Fp fs)) := by
  obtain ⟨f, fd, FA, Fn⟩ := C.ex
  exact x_call hX Fn hr hk FA.m FA.F.kp FA.b tk ha hg hdb he hpl
theorem x_callG0 (hX : InG g X) (C : CalG g k x st [] Fp) (hr : Room j X.A) (hk : k ≤ j) (tk : Takes X W) (hg : Gl X x := by rfl) (hdb : (x == ("__debug__" : Str)) = false := by decide) :
    PE X (.Call (.Name x p) [] [] pos) (rE g W (fCall 0 Fp fNil)) := by
  obtain ⟨f, fd, FA, Fn⟩ := C.ex
  exact x_call0 hX Fn hr hk FA.m FA.F.kp FA.b tk hg hdb
theorem x_callGS (hX : InG g X) (C : CalG g k x st ps Fp) (hr : Room j X.A) (hk : k ≤ j) (tk : Takes X W) (ha : PA X (e :: es) (rA g W fs)) (hown : g.own = some (fid, X.env.cells)) (hfn : ∀ x, X.fn x = true) (hcaps : ∀ q ∈ caps, X.N[q.2]? = some q.1 ∧ X.env.scope.names.lookup q.1 = some .cell)
    (hg : Gl X x := by rfl) (hdb : (x == ("__debug__" : Str)) = false := by decide) (he : starEach (e :: es) X.env = (false, eval e X.env) :: starEach es X.env := by rfl) (hpl : (backTo pos (starEach es X.env)).any (·.1) = false := by rfl) :
    PE X (.Call (.Name x p) (e :: es) [] pos) (rE g W (fCallS fid caps ps.length Fp fs)) := by
  obtain ⟨f, fd, FA, Fn⟩ := C.ex
  exact x_callS hX Fn hr hk FA.m FA.F.kp FA.b tk ha hown hfn hcaps hg hdb he hpl
/-- how keywords are bound -/
def KwB (x : Str) (st : Stmt) (ps ks : List Str) (a b : Nat) (ord : List Nat) : Prop := ∀ (kV doc pm : Value) (an : Option Addr) (cdv ct : Value) (us ws : List Value), us.length = a → ws.length = b → bindArgs (PySem.W.fnOf x x (defArgs st) (defBody st) (defScope st) .none kV doc pm an cdv ct) ⟨us, ks.zip ws⟩ = pure (ps.zip (us ++ ordV .none ord ws))
theorem x_callGK (hX : InG g X) (C : CalG g k x st ps Fp) (hr : Room j X.A) (hk : k ≤ j) (tk : Takes X W) (kb : KwB x st ps ks a b ord) (ha : PA X (e :: es) (rA g W fs)) (hkw : PK X kws (rA g W fk)) (hps : ps.length = a + ord.length := by rfl) (hord : ∀ i ∈ ord, i < b := by decide)
    (hg : Gl X x := by rfl) (hall : (backToKw pos (keywordEach kws X.env)).all (·.1.isSome) = true := by rfl) (hks : (backToKw pos (keywordEach kws X.env)).filterMap (·.1) = ks := by rfl)
    (hdb : (x == ("__debug__" : Str)) = false := by decide) (he : starEach (e :: es) X.env = (false, eval e X.env) :: starEach es X.env := by rfl)
    (hpl : ((backTo pos (starEach (e :: es) X.env)).any (·.1) || (backToKw pos (keywordEach kws X.env)).any (·.1.isNone)) = false := by rfl) :
    PE X (.Call (.Name x p) (e :: es) kws pos) (rE g W (fCallK ps.length a b ord Fp fs fk)) := by
  obtain ⟨f, fd, FA, Fn⟩ := C.ex
  obtain ⟨oc, od, kV, doc, pm, an, cdv, ct, osl, rfl, lk, hcd⟩ := FA.F.ex
  exact x_callK hX Fn hr hk FA.m FA.F.kp tk (fun s us ws _ h1 h2 => .of_eq (kb kV doc pm an cdv ct us ws h1 h2)) ha hkw hps hord hg hall hks hdb he hpl
theorem x_callGK0 (hX : InG g X) (C : CalG g k x st ps Fp) (hr : Room j X.A) (hk : k ≤ j) (tk : Takes X W) (kb : KwB x st ps ks 0 b ord) (hkw : PK X kws (rA g W fk)) (hps : ps.length = 0 + ord.length := by rfl) (hord : ∀ i ∈ ord, i < b := by decide)
    (hg : Gl X x := by rfl) (hall : (backToKw pos (keywordEach kws X.env)).all (·.1.isSome) = true := by rfl) (hks : (backToKw pos (keywordEach kws X.env)).filterMap (·.1) = ks := by rfl)
    (hdb : (x == ("__debug__" : Str)) = false := by decide)
    (hpl : ((backTo pos (starEach [] X.env)).any (·.1) || (backToKw pos (keywordEach kws X.env)).any (·.1.isNone)) = false := by rfl) :
    PE X (.Call (.Name x p) [] kws pos) (rE g W (fCallK ps.length 0 b ord Fp fNil fk)) := by
  obtain ⟨f, fd, FA, Fn⟩ := C.ex
  obtain ⟨oc, od, kV, doc, pm, an, cdv, ct, osl, rfl, lk, hcd⟩ := FA.F.ex
  exact x_callK0 hX Fn hr hk FA.m FA.F.kp tk (fun s us ws _ h1 h2 => .of_eq (kb kV doc pm an cdv ct us ws h1 h2)) hkw hps hord hg hall hks hdb hpl
theorem x_gl {q : PV} (hX : InG g X) (G : GlobOk g x q) (hg : Gl X x := by rfl) (hd : (x == ("__debug__" : Str)) = false := by decide) : PE X (.Name x pos) (rE g W (fC q)) := by
  obtain ⟨v, u, hm, r, hr⟩ := G.ex
  exact x_glob (by rw [hX.mg]; exact hm) r (fun φ H s _ => Rep.conv (o := none) (o' := g.own) (hr φ H)) hg hd
theorem x_cls {c : Nat} (hX : InG g X) (hm : g.mg x = some (.ref (g.cls c))) (hg : Gl X x := by rfl) (hd : (x == ("__debug__" : Str)) = false := by decide) : PE X (.Name x pos) (rE g W (fC (.cls c))) :=
  x_glob (v := .ref (g.cls c)) (by rw [hX.mg]; exact hm) rfl (fun φ H s _ => by simp only [Rep]) hg hd
theorem hu64 {A : Around} (hr : Room k A) : A.units + 64 < cLine := by have := hr.un; omega
theorem hu65 {A : Around} (hr : Room k A) : A.units + 65 < cLine := by have := hr.un; omega
theorem hu66 {A : Around} (hr : Room k A) : A.units + 66 < cLine := by have := hr.un; omega
end
section
variable {g : G} {x : Str} {st : Stmt} {f : Addr} {fd : FuncData} {N ps : List Str} {k : Nat}
theorem cal_ok {body : SF} (FA : FunAt g x st ps f fd) (S : FnScope N ps (defScope st))
    (hbody : ∀ (cdv : Value) (A : Around) (outer : List Env) (s : Shared) (H : Hp) (E : XK), Room k (A.deeper (envOfC x (defScope st) s.heap.objs.size f cdv)) → A.guards = some [] →
      PSs (cxOf (L2.CX g.P g.w) g.P g.w g.K g.mg g.base N x (defScope st) f cdv A outer s H E) (defBody st) (rS g.b (fun cls d _ H => E cls d H) body)) : CalG g (k + 1) x st ps (fDef ps.length N.length body) :=
  ⟨f, fd, ⟨FA.F, FA.m, FA.b⟩, fn_ok FA.F S hbody⟩
theorem cal_okC {body : Nat → SF} (cv0 : Value) (hcv : fd.code = cv0) (FA : FunAt g x st ps f fd) (S : FnScope N ps (defScope st))
    (hbody : ∀ (fid : Nat) (A : Around) (outer : List Env) (s : Shared) (H : Hp) (E : XK), Room k (A.deeper (envOfC x (defScope st) s.heap.objs.size f cv0)) → A.guards = some [] →
      PSs (cxOf (L2.CX g.P g.w) g.P g.w g.K g.mg g.base N x (defScope st) f cv0 A outer s H E) (defBody st) (rS (g.at (some (fid, (envOfC x (defScope st) s.heap.objs.size f cv0).cells))) (fun cls d _ H => E cls d H) (body fid))) : CalG g (k + 1) x st ps (fDefC ps.length N.length body) :=
  ⟨f, fd, ⟨FA.F, FA.m, FA.b⟩, fn_okC cv0 hcv FA.F S hbody⟩
end
end Pv

/-! Pv18: the places of lambdas in a program's text; looks by decide; measures. -/
namespace Pv
open PySem PySem.Spec PyProof.Rows L2

def noE : Expr := .Constant .none 0 ⟨0, 0, 0, 0⟩
def sAt (l : List Stmt) (i : Nat) : Stmt := l.getD i (.Pass ⟨0, 0, 0, 0⟩)
def asgVal : Stmt → Expr
  | .Assign _ v _ => v
  | _ => noE
def exprVal : Stmt → Expr
  | .Expr v _ => v
  | _ => noE
def retVal : Stmt → Expr
  | .Return (some v) _ => v
  | _ => noE
def ifTest : Stmt → Expr
  | .If t _ _ _ => t
  | _ => noE
def ifBody : Stmt → List Stmt
  | .If _ b _ _ => b
  | _ => []
def ifElse : Stmt → List Stmt
  | .If _ _ b _ => b
  | _ => []
def forIter : Stmt → Expr
  | .For _ i _ _ _ => i
  | _ => noE
def forBody : Stmt → List Stmt
  | .For _ _ b _ _ => b
  | _ => []
def whTest : Stmt → Expr
  | .While t _ _ _ => t
  | _ => noE
def whBody : Stmt → List Stmt
  | .While _ b _ _ => b
  | _ => []
def tryBody : Stmt → List Stmt
  | .Try b _ _ _ _ => b
  | _ => []
def callArg (e : Expr) (i : Nat) : Expr := match e with
  | .Call _ a _ _ => a.getD i noE
  | _ => noE
def callFn : Expr → Expr
  | .Call f _ _ _ => f
  | _ => noE
def elt (e : Expr) (i : Nat) : Expr := match e with
  | .List a _ => a.getD i noE
  | .Tuple a _ _ => a.getD i noE
  | _ => noE
def unOp : Expr → Expr
  | .UnaryOp _ a _ => a
  | _ => noE
def boolArg (e : Expr) (i : Nat) : Expr := match e with
  | .BoolOp _ a _ => a.getD i noE
  | _ => noE
def subVal : Expr → Expr
  | .Subscript a _ _ => a
  | _ => noE
def cmpLeft : Expr → Expr
  | .Compare a _ _ _ => a
  | _ => noE
def binL : Expr → Expr
  | .BinOp a _ _ _ => a
  | _ => noE
def binR : Expr → Expr
  | .BinOp _ _ b _ => b
  | _ => noE
def lamArgs : Expr → Arguments
  | .Lambda a _ _ _ => a
  | _ => { posonlyargs := [], args := [], vararg := none, kwonlyargs := [], kw_defaults := [], kwarg := none, defaults := [] }
def lamBody : Expr → Expr
  | .Lambda _ b _ _ => b
  | _ => noE
def lamScope : Expr → Scope
  | .Lambda _ _ s _ => s
  | _ => { kind := .function, names := [], isGenerator := false, isCoroutine := false }
def lfOf (q : Str) (e : Expr) (cs : List (Str × Addr)) (c : Addr) : LF := ⟨q, lamArgs e, lamBody e, lamScope e, cloFrom cs (lamScope e).names [], c⟩
def capsB (N : List Str) (sc : Scope) (caps : List (Str × Nat)) : Bool := caps.all fun q => decide (N[q.2]? = some q.1) && decide (sc.names.lookup q.1 = some .cell)
theorem caps_by {N : List Str} {sc : Scope} {caps : List (Str × Nat)} (h : capsB N sc caps = true) : ∀ q ∈ caps, N[q.2]? = some q.1 ∧ sc.names.lookup q.1 = some .cell := fun q hq => by
  unfold capsB at h
  have := List.all_eq_true.mp h q hq
  rw [Bool.and_eq_true, decide_eq_true_eq, decide_eq_true_eq] at this
  exact this
def lamB (sc nsc : Scope) : Bool := nsc.names.all fun y => !decide (y.2 = .free) || decide (sc.names.lookup y.1 = some .cell) || decide (sc.names.lookup y.1 = some .free)
theorem lam_free {sc nsc : Scope} (h : lamB sc nsc = true) : ∀ y ∈ nsc.names, y.2 = .free → sc.names.lookup y.1 = some .cell ∨ sc.names.lookup y.1 = some .free := fun y hy e => by
  unfold lamB at h
  have := List.all_eq_true.mp h y hy
  simp only [Bool.or_eq_true, Bool.not_eq_true', decide_eq_true_eq, decide_eq_false_iff_not] at this
  rcases this with (z | z) | z
  · exact absurd e z
  · exact .inl z
  · exact .inr z
/-- so many turns at most: an int slot that comes to nought -/
def measInt (i : Nat) : Sl → Sto → Nat := fun ρ _ => match ρ[i]? with
  | some (some (.int k)) => k.natAbs + 1
  | _ => 0
end Pv

/-! Pv19: what the written part says of a program: defs, classes, constants; tactics that ask it. -/
namespace Pv
open PySem PySem.Spec PyProof.Rows L2

structure FnK (K : PySem.W.Frag) (x : Str) (st : Stmt) (f : Addr) (fd : FuncData) : Prop where
  n : PySem.W.nsIn K mainGlobals x = some (some (.ref f))
  F : L2.Fun K x x st f fd
def BdB (x : Str) (st : Stmt) (ps : List Str) : Prop := ∀ (kV doc pm : Value) (an : Option Addr) (cdv ct : Value) (us : List Value), us.length = ps.length → bindArgs (PySem.W.fnOf x x (defArgs st) (defBody st) (defScope st) .none kV doc pm an cdv ct) ⟨us, []⟩ = pure (ps.zip us)
section
variable {K : PySem.W.Frag} {h : Heap} {mg : Str → Option Value} {x : Str} {st : Stmt} {f : Addr} {fd : FuncData} {ps : List Str} {g : G}
theorem funAt_of (X : K.In h) (Gm : h.Ns mainGlobals mg) (k : FnK K x st f fd) (b : BdB x st ps) (eK : g.K = K) (em : g.mg = mg) : FunAt g x st ps f fd := by
  subst eK em
  exact ⟨k.F, PySem.W.mg_of X Gm k.n, k.F.binds b⟩
theorem calG_at {k : Nat} {Fp : List PV → Sto → Res PV} (C : CalG g k x st ps Fp) (X : K.In h) (Gm : h.Ns mainGlobals mg) (q : FnK K x st f fd) (eK : g.K = K) (em : g.mg = mg) : FnG g k f fd ps Fp := by
  subst eK em
  obtain ⟨f2, fd2, FA, Fn⟩ := C.ex
  have e := FA.m.symm.trans (PySem.W.mg_of X Gm q.n)
  cases e
  obtain ⟨oc, od, kV, doc, pm, an, cdv, ct, osl, e1, lk, hcd⟩ := FA.F.ex
  obtain ⟨oc2, od2, kV2, doc2, pm2, an2, cdv2, ct2, osl2, e2, lk2, hcd2⟩ := q.F.ex
  have e3 := lk.symm.trans lk2
  cases e3
  exact Fn
theorem bind_at {y : Str} (q : FnK K x st f fd) (b : BdB x st [y]) (s : Shared) (u : Value) : BindsTo s fd ⟨[u], []⟩ [(y, u)] := by
  obtain ⟨oc2, od2, kV2, doc2, pm2, an2, cdv2, ct2, osl2, e2, lk2, hcd2⟩ := q.F.ex
  subst e2
  exact .of_eq (b _ _ _ _ _ _ [u] rfl)
theorem fnK_mk {oc : Value} {od an : Option Addr} {osl : Array (Option Value)} {kV doc pm cdv ct : Value} (n : PySem.W.nsIn K mainGlobals x = some (some (.ref f)))
    (l : K.lookup f = some ⟨oc, od, .func (PySem.W.fnOf x x (defArgs st) (defBody st) (defScope st) .none kV doc pm an cdv ct), osl⟩) (c : PySem.W.codeIn K cdv x = true) (k : PySem.W.keepIn K (.ref f) = true) :
    FnK K x st f (PySem.W.fnOf x x (defArgs st) (defBody st) (defScope st) .none kV doc pm an cdv ct) := ⟨n, L2.fun_mk l c k⟩
end
/-- a def that makes lambdas: its code object at c, the table at P -/
structure FnKC (K : PySem.W.Frag) (x : Str) (st : Stmt) (f : Addr) (fd : FuncData) (c P : Addr) : Prop where
  k : FnK K x st f fd
  cd : fd.code = .ref c
  hd : PySem.W.codeHdIn K c P = true
  no : K.lookup P = none
theorem fnKC_mk {K : PySem.W.Frag} {x : Str} {st : Stmt} {f c P : Addr} {oc : Value} {od an : Option Addr} {osl : Array (Option Value)} {kV doc pm ct : Value} (n : PySem.W.nsIn K mainGlobals x = some (some (.ref f)))
    (l : K.lookup f = some ⟨oc, od, .func (PySem.W.fnOf x x (defArgs st) (defBody st) (defScope st) .none kV doc pm an (.ref c) ct), osl⟩) (c1 : PySem.W.codeIn K (.ref c) x = true) (k : PySem.W.keepIn K (.ref f) = true)
    {oc2 : Value} {od2 : Option Addr} {vs : Array Value} {sl2 : Array (Option Value)} (lc : K.lookup c = some ⟨oc2, od2, .fields vs, sl2⟩) (l11 : vs[11]? = some (.ref P)) (hd : PySem.W.codeHdIn K c P = true) (no : K.lookup P = none) :
    FnKC K x st f (PySem.W.fnOf x x (defArgs st) (defBody st) (defScope st) .none kV doc pm an (.ref c) ct) c P := ⟨⟨n, L2.fun_mk l c1 k⟩, rfl, hd, no⟩

/-! ### classes -/
structure ClsK (K : PySem.W.Frag) (D fI C : Addr) : Prop where
  wc : WearC K D C
  iC : PySem.W.findIn K (.ref C) "__init__" = some (some (.ref fI))
  ex : ExcC K C
theorem clsK_mk {K : PySem.W.Frag} {D fI C : Addr} {nm q : Str} {N : Addr} {bs bm : List Value} {sn : List Str} {sub : List Value} {ab : Bool} {col : Option Bool} {dd : Option Addr} {k0 k1 k2 k3 k5 : Option Value}
    (lk : K.lookup C = some (excClassObj nm q C N bs bm true sn sub ab col dd k0 k1 k2 k3 k5 "ValueError.__new__")) (bmr : PySem.HandSPX.refsVE bm = true)
    (sa : PySem.W.findIn K (.ref C) "__setattr__" = some (some (.builtin "object.__setattr__"))) (exC : PySem.W.subIn K (.ref C) (.type "BaseException") = some true) (tyC : PySem.W.typeIn K (.ref C) = some (.type "type")) (kC : PySem.W.keepIn K (.ref C) = true)
    (sup : PySem.W.ks_superIn K C D "__init__" = some (some (.builtin "ValueError.__init__"))) (ve : PySem.W.subIn K (.ref C) (.type "ValueError") = some true) (sb : PySem.W.mroIn K C (.ref D) = some true) (no : PySem.W.findIn K (.ref C) "value" = some none)
    (iC : PySem.W.findIn K (.ref C) "__init__" = some (some (.ref fI)))
    (hg : PySem.W.findIn K (.ref C) "__getattribute__" = some (some (.builtin "BaseException.__getattribute__"))) (hk : PySem.W.findIn K (.ref C) "__getattr__" = some none) (hd : PySem.W.hasDictIn K C = true) (ha : PySem.W.findIn K (.ref C) "__class__" = some (some (.builtin "object.__class__")))
    (hn : PySem.W.specialIn K (.builtin "object.__class__") "__get__" = some (some (.builtin "getset_descriptor.__get__"))) (ht : PySem.W.takesIn K (.builtin "object.__class__") = some true) (hm : PySem.W.mroIn K C (.type "object") = some true) : ClsK K D fI C :=
  ⟨⟨⟨⟨nm, q, N, bs, bm, sn, sub, ab, col, dd, k0, k1, k2, k3, k5, lk, bmr⟩, sa, exC, tyC, kC⟩, sup, ve, sb, no⟩, iC, ⟨hg, hk, exC, hd, ha, hn, ht, hm⟩⟩
/-- which error is which class's -/
def isCT (t : List (List (Option Bool))) (c d : Nat) : Option Bool := ((t.getD c []).getD d none)
def pairsB (K : PySem.W.Frag) (as : List Addr) (t : List (List (Option Bool))) : Bool :=
  (List.range t.length).all fun i => (List.range (t.getD i []).length).all fun j => match isCT t i j with
    | none => true
    | some b => decide (PySem.W.kitOne K (.ref (as.getD i 0)) (.ref (as.getD j 0)) = some b) && decide (PySem.W.exmOne K (.ref (as.getD i 0)) (.ref (as.getD j 0)) = some b)
theorem pairs_of {K : PySem.W.Frag} {as : List Addr} {t : List (List (Option Bool))} (h : pairsB K as t = true) {c d : Nat} {b : Bool} (e : isCT t c d = some b) :
    PySem.W.kitOne K (.ref (as.getD c 0)) (.ref (as.getD d 0)) = some b ∧ PySem.W.exmOne K (.ref (as.getD c 0)) (.ref (as.getD d 0)) = some b := by
  have hc : c < t.length := by
    by_cases hc : c < t.length
    · exact hc
    · unfold isCT at e
      rw [show t.getD c [] = [] by rw [List.getD_eq_getElem?_getD, List.getElem?_eq_none (Nat.le_of_not_lt hc)]; rfl] at e
      cases e
  have hd : d < (t.getD c []).length := by
    by_cases hd : d < (t.getD c []).length
    · exact hd
    · unfold isCT at e
      rw [show (t.getD c []).getD d none = none by rw [List.getD_eq_getElem?_getD, List.getElem?_eq_none (Nat.le_of_not_lt hd)]; rfl] at e
      cases e
  unfold pairsB at h
  have h1 := List.all_eq_true.mp (List.all_eq_true.mp h c (List.mem_range.mpr hc)) d (List.mem_range.mpr hd)
  rw [e] at h1
  simp only [Bool.and_eq_true, decide_eq_true_eq] at h1
  exact h1

/-! ### the __init__ -/
def clsStmt (st : Stmt) (i : Nat) : Stmt := match st with
  | .ClassDef _ _ _ b .. => b.getD i (.Pass ⟨0, 0, 0, 0⟩)
  | _ => .Pass ⟨0, 0, 0, 0⟩
structure InitK (P : Program) (K : PySem.W.Frag) (mg : Str → Option Value) (D fI : Addr) (fd : FuncData) : Prop where
  fn : ∀ (w : World) (base : Heap) (CX : CXT), FnOk P w K mg base CX 3 fI fd ["self", "value"] (spInit K D)
  ty : PySem.W.typeIn K (.ref fI) = some (.type "function")
  bd : L2.Binds K fd ["self", "value"] []
/-- st: the __init__ as it stands in the class -/
theorem initK_mk {P : Program} {K : PySem.W.Frag} {h : Heap} {mg : Str → Option Value} {st : Stmt} {D f c cc : Addr} {doc pm ctv oc ccl cl : Value} {od cdd cld : Option Addr} {osl ccs csl : Array (Option Value)} {vs0 : Array Value} {file : Str} {tf : Tok} {cdD : ClassData} {ar : Arg} {p0 p1 p2 p3 p4 p5 p6 p7 p8 p9 : Pos} {qual : Str}
    (X : K.In h) (Gm : h.Ns mainGlobals mg)
    (lk : K.lookup f = some ⟨oc, od, .func ((⟨"__init__", qual, defArgs st, defBody st, defScope st, [(("__class__" : Str), cc)], c⟩ : NdefX.NF).fd doc pm ctv), osl⟩) (hcd : PySem.W.codeIn K (.ref c) qual = true)
    (S : NdefX.NScope ["self", "value", "__class__"] ["self", "value"] ["__class__"] (defScope st))
    (hbody : defBody st = [.Expr (.Call (.Attribute (.Call (.Name "super" p0) [] [] p1) "__init__" p2) [.Name "value" p3] [] p4) p5, .Assign [.Attribute (.Name "self" p6) "value" p7] (.Name "value" p8) p9])
    (hks : (defScope st).names.lookup ("super" : Str) = some .globalImplicit) (hp : ((defArgs st).posonlyargs ++ (defArgs st).args).head? = some ar) (har : ar.arg = ("self" : Str))
    (hcode : K.lookup c = some ⟨ccl, cdd, .fields vs0, ccs⟩) (hvs : vs0[2]? = some (.str file tf)) (hfile : ((P.main.file : Str) == file) = true)
    (hcell : K.lookup cc = some ⟨cl, cld, .cell (some (.ref D)), csl⟩) (hD : PySem.W.clsIn K D = some cdD) (hop : PySem.W.nsIn K PySem.cStatics "thirdparty.any" = some none)
    (hsup : PySem.W.nsIn K mainGlobals "super" = some none) (htop : (P.main.scope.names.lookup ("super" : Str)).isSome = false) (ty : PySem.W.typeIn K (.ref f) = some (.type "function")) {pl : Env → Sem Bool}
    (hev : ∀ env : Env, eval (.Call (.Attribute (.Call (.Name "super" p0) [] [] p1) "__init__" p2) [.Name "value" p3] [] p4) env = (do
      let ov ← attributeBase (.Call (.Name "super" p0) [] [] p1) "__init__" env (eval (.Call (.Name "super" p0) [] [] p1) env)
      standAt p2.atName
      let (f, first) ← holding [ov] (getMethod ov "__init__" (pl env))
      callWith p4 f first (backTo p4 (starEach [.Name "value" p3] env)) []))
    (hb : ∀ us : List Value, us.length = 2 → bindArgs ((⟨"__init__", qual, defArgs st, defBody st, defScope st, [(("__class__" : Str), cc)], c⟩ : NdefX.NF).fd doc pm ctv) ⟨us, []⟩ = pure ((["self", "value"] : List Str).zip us)) :
    InitK P K mg D f ((⟨"__init__", qual, defArgs st, defBody st, defScope st, [(("__class__" : Str), cc)], c⟩ : NdefX.NF).fd doc pm ctv) :=
  ⟨fun w base CX => init_fn (F := ⟨"__init__", qual, defArgs st, defBody st, defScope st, [(("__class__" : Str), cc)], c⟩) lk hcd rfl S hbody hks hp har hcode hvs hfile hcell hD hop (PySem.W.mg_none_of X Gm hsup) htop (by decide +kernel) pl hev (fun _ => rfl), ty, .all hb⟩

/-! ### constants -/
/-- the value in the written part is this one: ints, texts, tuples of these -/
def kvB (K : PySem.W.Frag) : Nat → PV → Value → Option V
  | _, .non, .none => some .non
  | _, .bl b, .bool c => if b = c then some (.bl b) else none
  | _, .int i, .int j _ => if i = j then some (.int i) else none
  | _, .str x, .str y _ => if x = y then some (.str x) else none
  | k + 1, .tup xs, .ref a => match K.lookup a with
    | some ⟨.type "tuple", _, .seq its n, _⟩ => if its.size ≤ sizeLine ∧ its.size = xs.length ∧ ((xs.zip its.toList).all fun q => (kvB K k q.1 q.2).isSome) = true then some (.ref a) else none
    | _ => none
  | _, _, _ => none
theorem kv_rep {g : G} {φ : Wm} {H : Hp} : ∀ (n : Nat) (p : PV) (u : Value) (v : V), kvB g.K n p u = some v → RelV v u ∧ Rep g φ H p v
  | n, .non, u, v, e => by
    cases u <;> cases n <;> simp [kvB] at e
    all_goals (subst e; exact ⟨rfl, by simp only [Rep]⟩)
  | n, .bl b, u, v, e => by
    cases u <;> cases n <;> simp [kvB] at e
    all_goals (obtain ⟨rfl, rfl⟩ := e; exact ⟨rfl, by simp only [Rep]⟩)
  | n, .int b, u, v, e => by
    cases u <;> cases n <;> simp [kvB] at e
    all_goals (obtain ⟨rfl, rfl⟩ := e; exact ⟨⟨_, rfl⟩, by simp only [Rep]⟩)
  | n, .str b, u, v, e => by
    cases u <;> cases n <;> simp [kvB] at e
    all_goals (obtain ⟨rfl, rfl⟩ := e; exact ⟨⟨_, rfl⟩, by simp only [Rep]⟩)
  | 0, .tup xs, u, v, e => by cases u <;> simp [kvB] at e
  | k + 1, .tup xs, u, v, e => by
    cases u with
    | ref a =>
      simp only [kvB] at e
      split at e
      · rename_i dd its n sl hk
        split at e
        · rename_i hc
          cases e
          obtain ⟨h1, h2, h3⟩ := hc
          have key : ∀ (xs : List PV) (us : List Value), us.length = xs.length → ((xs.zip us).all fun q => (kvB g.K k q.1 q.2).isSome) = true → ∃ vs, Vals vs us ∧ Reps g φ H xs vs := by
            intro xs
            induction xs with
            | nil =>
              intro us hl _
              cases us with
              | nil => exact ⟨[], .nil, by simp only [Reps]⟩
              | cons => cases hl
            | cons x r ih =>
              intro us hl ha
              cases us with
              | nil => cases hl
              | cons u us =>
                rw [List.zip_cons_cons, List.all_cons, Bool.and_eq_true] at ha
                obtain ⟨v, hv⟩ := Option.isSome_iff_exists.mp ha.1
                obtain ⟨r1, r2⟩ := kv_rep (φ := φ) (H := H) k x u v hv
                obtain ⟨vs, r3, r4⟩ := ih us (Nat.succ.inj hl) ha.2
                exact ⟨v :: vs, .cons r1 r3, by simp only [Reps]; exact ⟨v, vs, rfl, r2, r4⟩⟩
          obtain ⟨vs, r1, r2⟩ := key xs its.toList (by rw [Array.length_toList]; exact h2) h3
          refine ⟨rfl, ?_⟩
          simp only [Rep]
          exact ⟨a, vs, rfl, .inr ⟨_, its, n, hk, rfl, rfl, h1, r1⟩, r2⟩
        · cases e
      · cases e
    | _ => simp [kvB] at e
  | n, .tmp _, u, v, e => by cases u <;> cases n <;> simp [kvB] at e
  | n, .kl _, u, v, e => by cases u <;> cases n <;> simp [kvB] at e
  | n, .loc _, u, v, e => by cases u <;> cases n <;> simp [kvB] at e
  | n, .ty _, u, v, e => by cases u <;> cases n <;> simp [kvB] at e
  | n, .cls _, u, v, e => by cases u <;> cases n <;> simp [kvB] at e
  | n, .exc _ _, u, v, e => by cases u <;> cases n <;> simp [kvB] at e
  | n, .clo _ _, u, v, e => by cases u <;> cases n <;> simp [kvB] at e
section
variable {K : PySem.W.Frag} {h : Heap} {mg : Str → Option Value} {x : Str} {g : G}
theorem globOk_of (X : K.In h) (Gm : h.Ns mainGlobals mg) {p : PV} {u : Value} (n : PySem.W.nsIn K mainGlobals x = some (some u)) (k : (kvB K 8 p u).isSome = true) (eK : g.K = K) (em : g.mg = mg) : GlobOk g x p := by
  subst eK em
  obtain ⟨v, k⟩ := Option.isSome_iff_exists.mp k
  exact ⟨⟨v, u, PySem.W.mg_of X Gm n, (kv_rep (g := g.b) (φ := ⟨[], [], []⟩) (H := fun _ => none) 8 p u v k).1, fun φ H => (kv_rep (g := g.b) 8 p u v k).2⟩⟩
/-- an int that the head tells by its value alone -/
theorem globOk_loose {lv : List (Str × PySem.W.WData)} (L : PySem.W.LooseAre lv mg h) {i : Int} (hm : (x, PySem.W.WData.int i) ∈ lv) (em : g.mg = mg) : GlobOk g x (.int i) := by
  subst em
  obtain ⟨v, e, r⟩ := L.val _ hm
  cases r with
  | int _ t => exact ⟨⟨.int i, _, e, ⟨t, rfl⟩, fun φ H => by simp only [Rep]⟩⟩
end
theorem tab_un {T : List NdefX.NTab} (h : (T.map (·.1)).Nodup) {P : Addr} {q : Nat → Nat → Str} (m : (P, q) ∈ T) : ∀ p ∈ T, p.1 = P → p.2 = q := fun p hp e => by
  induction T with
  | nil => cases hp
  | cons t r ih =>
    rw [List.map_cons, List.nodup_cons] at h
    rcases List.mem_cons.mp hp with rfl | hp
    · rcases List.mem_cons.mp m with z | m
      · rw [← z]
      · exact absurd (List.mem_map.mpr ⟨_, m, e.symm⟩) h.1
    · rcases List.mem_cons.mp m with z | m
      · refine absurd (List.mem_map.mpr ⟨_, hp, ?_⟩) h.1
        rw [← z, e]
      · exact ih h.2 m hp
end Pv
namespace PySem.W
open Lean Elab Tactic Meta
end PySem.W

/-! Pv20: sorted of a list of alike data. -/
namespace Pv
open PySem PySem.Spec PyProof.Rows L2

def encP (p : PV) : PyData := (toD p).getD .none
def alikeB (ds : List PyData) : Bool := ds.all fun d => ds.all fun e => PySem.W.alike d e
def isTup1 : PyData → Bool
  | .tuple (_ :: _) => true
  | _ => false
def isOth : PyData → Bool
  | .none => false
  | .tuple _ => false
  | _ => true
def sortB (ds : List PyData) : Bool := ds.all isTup1 || ds.all isOth
def srtOk (ps : List PV) : Bool := (ps.all fun p => (toD p).isSome && decide ((encP p).depth ≤ 60)) && alikeB (ps.map encP) && sortB (ps.map encP)
/-- the list sorted -/
def srtP (ps : List PV) : List PV := ps.mergeSort (PySem.W.dataLe false encP)
theorem alikeB_of {ds : List PyData} (h : alikeB ds = true) : PySem.W.AllAlike ds := fun d hd e he => List.all_eq_true.mp (List.all_eq_true.mp h d hd) e he
theorem sortB_of {ds : List PyData} (h : sortB ds = true) : PySem.W.Sortable ds := by
  unfold sortB at h
  rw [Bool.or_eq_true] at h
  rcases h with h | h
  · refine .inl fun d hd => ?_
    have q := List.all_eq_true.mp h d hd
    unfold isTup1 at q
    split at q
    · exact ⟨_, _, rfl⟩
    · cases q
  · refine .inr fun d hd => ?_
    have q := List.all_eq_true.mp h d hd
    constructor
    · rintro rfl; cases q
    · rintro xs rfl; cases q
def rSortD (K : PySem.W.Frag) : List V → Hp → VK → Prop := fun vs H Q => ∃ (a : Addr) (xs : List V) (ps : List PV), vs = [.ref a] ∧ SqL K H a xs ∧ xs.length = ps.length ∧ (∀ q ∈ xs.zip ps, Dp K H q.1 (encP q.2)) ∧ srtOk ps = true ∧
  ∀ p, H p = none → Q (.ref p) (upd H p (.lst (((xs.zip ps).mergeSort (PySem.W.dataLe false fun q => encP q.2)).map (·.1))))
theorem call_sortedD {X : Cx} (hc : X.calm = true) (hu : X.A.units + 64 < cLine) : CallR X (.builtin "sorted") (rSortD X.K) := by
  intro pins s σ H vs us Q I r h
  obtain ⟨a, xs, ps, rfl, hs, hlen, hd, hok, q⟩ := h
  obtain ⟨its, rv, hl, hz⟩ := I.list hs
  obtain ⟨u, rfl, ru⟩ := vals1 r
  obtain rfl : u = Value.ref a := ru
  unfold srtOk at hok
  rw [Bool.and_eq_true, Bool.and_eq_true] at hok
  obtain ⟨⟨h1, h2⟩, h3⟩ := hok
  have em : (xs.zip ps).map (fun q => encP q.2) = ps.map encP := by
    rw [show (fun q : V × PV => encP q.2) = encP ∘ (·.2) from rfl, ← List.map_map, List.map_snd_zip (by omega)]
  have ev : ∀ (xs : List V) (ps : List PV) (us : List Value), xs.length = ps.length → Vals xs us → PySem.W.EachIs (fun v (b : V × PV) => RelV b.1 v) us (xs.zip ps) := by
    intro xs
    induction xs with
    | nil => intro ps us h1 h2; cases h2; exact .nil
    | cons x xs ih =>
      intro ps us h1 h2
      cases ps with
      | nil => cases h1
      | cons p ps =>
        cases h2 with
        | cons r1 r2 => exact .cons r1 (ih ps _ (Nat.succ.inj h1) r2)
  have er : ∀ (xs : List V) (ps : List PV) (us : List Value), xs.length = ps.length → Vals xs us → (∀ q ∈ xs.zip ps, Dp X.K H q.1 (encP q.2)) → PySem.W.EachIs (fun v (b : V × PV) => ∃ as, Reads s.heap v (encP b.2) as) us (xs.zip ps) := by
    intro xs
    induction xs with
    | nil => intro ps us h1 h2 _; cases h2; exact .nil
    | cons x xs ih =>
      intro ps us h1 h2 hd
      cases ps with
      | nil => cases h1
      | cons p ps =>
        cases h2 with
        | cons r1 r2 => exact .cons (Dp.reads I _ _ _ (hd (x, p) (by simp)) r1) (ih ps _ (Nat.succ.inj h1) r2 fun q hq => hd q (by simp [hq]))
  refine PySem.W.sorted_data (R := fun v (b : V × PV) => RelV b.1 v) (enc := fun b : V × PV => encP b.2) (bs := xs.zip ps) hl.isList (ev xs ps _ hlen rv) (er xs ps _ hlen rv hd) (by rw [em]; exact alikeB_of h2) (by rw [em]; exact sortB_of h3) ?_ ?_ ?_
  · rw [List.length_zip, ← hlen, Nat.min_self]; exact hz
  · intro b hb
    have hb2 := (List.of_mem_zip hb).2
    have z := List.all_eq_true.mp h1 b.2 hb2
    rw [Bool.and_eq_true, decide_eq_true_eq] at z
    have := z.2
    omega
  · intro out hlo eo
    have rvo : ∀ (us : List Value) (bs : List (V × PV)), PySem.W.EachIs (fun v (b : V × PV) => RelV b.1 v) us bs → Vals (bs.map (·.1)) us := by
      intro us bs h
      induction h with
      | nil => exact .nil
      | cons r _ ih => exact .cons r ih
    have hd1 : H (s.heap.objs.size + 1) = none := I.hok.fresh (Nat.le_succ _)
    refine ⟨.ref _, upd H (s.heap.objs.size + 1) (.lst _), I.laid (t' := s.toks) (fun b o e => PyProof.Rows.sortedAll_old e) (Nat.le_succ _) ⟨?_, out, (PyProof.Rows.sortedAll_at s.heap its out.toArray).choose, rvo _ _ eo, (PyProof.Rows.sortedAll_at s.heap its out.toArray).choose_spec⟩, rfl, q _ hd1⟩
    rw [List.length_map, (List.mergeSort_perm _ _).length_eq, List.length_zip, ← hlen, Nat.min_self]
    exact hz
def oSorted (ps : List PV) (s : Sto) : Option PV := match ps with
  | [p] => (liveL p s).bind fun xs => if srtOk xs = true then some (.tmp (srtP xs)) else none
  | _ => none
theorem reps_zip {g : G} {φ : Wm} {H : Hp} : ∀ {ps : List PV} {vs : List V}, Reps g φ H ps vs → ∀ q ∈ vs.zip ps, Rep g φ H q.2 q.1
  | [], vs, R, q, hq => by simp at hq
  | p :: ps, vs, R, q, hq => by
    simp only [Reps] at R
    obtain ⟨v, r, rfl, h1, h2⟩ := R
    rw [List.zip_cons_cons] at hq
    rcases List.mem_cons.mp hq with rfl | hq
    · exact h1
    · exact reps_zip h2 q hq
theorem reps_of_pairs {g : G} {φ : Wm} {H : Hp} : ∀ (bs : List (V × PV)), (∀ q ∈ bs, Rep g φ H q.2 q.1) → Reps g φ H (bs.map (·.2)) (bs.map (·.1))
  | [], _ => by simp only [List.map_nil, Reps]
  | b :: bs, h => by
    simp only [List.map_cons, Reps]
    exact ⟨b.1, bs.map (·.1), rfl, h b (by simp), reps_of_pairs bs fun q hq => h q (by simp [hq])⟩
theorem o_sorted {g : G} : CallS g (rSortD g.K) oSorted := by
  intro φ H s ps z vs Q S R e k
  unfold oSorted at e
  split at e
  · rename_i p
    rw [Option.bind_eq_some_iff] at e
    obtain ⟨xs, hx, e⟩ := e
    split at e
    · rename_i hok
      cases e
      obtain ⟨v, _, rfl, R1, rfl⟩ := by simpa only [Reps] using R
      obtain ⟨a, ws, rfl, hs, rw1⟩ := liveL_at S R1 hx
      have hz := reps_zip rw1
      have hso : ∀ p ∈ xs, (toD p).isSome = true := fun p hp => by
        unfold srtOk at hok
        rw [Bool.and_eq_true, Bool.and_eq_true] at hok
        have z := List.all_eq_true.mp hok.1.1 p hp
        rw [Bool.and_eq_true] at z
        exact z.1
      refine ⟨a, ws, xs, rfl, hs, rw1.length.symm, fun q hq => ?_, hok, fun pp hp => ?_⟩
      · obtain ⟨d, hd⟩ := Option.isSome_iff_exists.mp (hso q.2 (List.of_mem_zip hq).2)
        have := dp_of (hz q hq) hd
        unfold encP
        rw [hd]
        exact this
      · have hm : ((ws.zip xs).mergeSort (PySem.W.dataLe false fun q => encP q.2)).map (·.2) = srtP xs := by
          unfold srtP
          rw [List.map_mergeSort (r := PySem.W.dataLe false fun q : V × PV => encP q.2) (s := PySem.W.dataLe false encP) (f := fun q : V × PV => q.2) (fun a _ b _ => rfl), List.map_snd_zip (by rw [rw1.length]; exact Nat.le_refl _)]
        have rr := reps_of_pairs ((ws.zip xs).mergeSort (PySem.W.dataLe false fun q => encP q.2)) (fun q hq => hz q ((List.mergeSort_perm _ _).mem_iff.mp hq))
        rw [hm] at rr
        exact k φ _ _ (S.lenew hp) (S.new hp) (new_tmp S hp rr)
    · cases e
  · cases e
end Pv

/-! Pv21: the pure functions evaluated; the greatest common divisor's loop. -/
namespace Pv
open PySem PySem.Spec PyProof.Rows L2

/-! the operations on ints, one by one -/
section
variable (i j : Int) (s : Sto)
theorem oAdd_int : oAdd (.int i) (.int j) s = some (.int (i + j)) := rfl
theorem oSub_int : oSub (.int i) (.int j) s = some (.int (i - j)) := rfl
theorem oMul_int (h : mulOk i j = true) : oMul (.int i) (.int j) s = some (.int (i * j)) := by
  unfold oMul
  simp [h]
theorem oDiv_int (h : j ≠ 0) (h2 : j.natAbs.log2 < 9000) : oDiv (.int i) (.int j) s = some (.int (i.fdiv j)) := by
  unfold oDiv
  simp [h, h2]
theorem oMod_int (h : j ≠ 0) : oMod (.int i) (.int j) s = some (.int (i.fmod j)) := by
  unfold oMod
  simp [h]
theorem oPow_int (h : 0 ≤ j) (h1 : j ≤ 1000) (h2 : i.natAbs.log2 < 100000) : oPow (.int i) (.int j) s = some (.int (i ^ j.toNat)) := by
  unfold oPow
  simp [h, h1, h2]
theorem oNeg_int : oNeg (.int i) s = some (.int (-i)) := rfl
theorem oLt_int : oLt (.int i) (.int j) s = some (.bl (decide (i < j))) := rfl
theorem oLe_int : oLe (.int i) (.int j) s = some (.bl (decide (i ≤ j))) := rfl
theorem oGt_int : oGt (.int i) (.int j) s = some (.bl (decide (i > j))) := rfl
theorem oGe_int : oGe (.int i) (.int j) s = some (.bl (decide (i ≥ j))) := rfl
theorem oAbs_int : oAbs [.int i] s = some (.int (if i < 0 then -i else i)) := rfl
theorem oInt1_int : oInt1 [.int i] s = some (.int i) := rfl
theorem oInt1_bl (b : Bool) : oInt1 [.bl b] s = some (.int (if b then 1 else 0)) := rfl
theorem mul_small_l (h : i.natAbs < 2 ^ 64) : mulOk i j = true := by simp [mulOk, h]
theorem mul_small_r (h : j.natAbs < 2 ^ 64) : mulOk i j = true := by simp [mulOk, h]
end
theorem ixP_0 (x : PV) (r : List PV) : ixP (x :: r) 0 = some x := by simp [ixP, ixN]
theorem ixP_1 (x y : PV) (r : List PV) : ixP (x :: y :: r) 1 = some y := by
  have h : (1 : Int) < ((x :: y :: r).length : Int) := by simp; omega
  simp only [ixP, ixN, h, if_true]; rfl
theorem ixP_2 (x y z : PV) (r : List PV) : ixP (x :: y :: z :: r) 2 = some z := by
  have h : (2 : Int) < ((x :: y :: z :: r).length : Int) := by simp; omega
  simp only [ixP, ixN, h, if_true]; rfl
theorem ixP_get (xs : List PV) (k : Nat) (h : k < xs.length) : ixP xs k = some (xs[k]'h) := by
  have h' : ((k : Nat) : Int) < (xs.length : Int) := by omega
  simp [ixP, ixN, h']
theorem setP_0 (q x : PV) (r : List PV) : setP 0 q (x :: r) = some (q :: r) := by simp [setP, ixN]
theorem setP_1 (q x y : PV) (r : List PV) : setP 1 q (x :: y :: r) = some (x :: q :: r) := by
  have h : (1 : Int) < ((x :: y :: r).length : Int) := by simp; omega
  simp only [setP, ixN, h, if_true]; rfl
theorem setP_2 (q x y z : PV) (r : List PV) : setP 2 q (x :: y :: z :: r) = some (x :: y :: q :: r) := by
  have h : (2 : Int) < ((x :: y :: z :: r).length : Int) := by simp; omega
  simp only [setP, ixN, h, if_true]; rfl
theorem fDef_of {n m : Nat} {body : SF} {xs : List PV} {s : Sto} (h : xs.length = n) : fDef n m body xs s = ofS (body (xs.map some ++ List.replicate (m - n) none) s) := by
  unfold fDef
  rw [if_pos h]
theorem oNe_int (a b : Int) (s : Sto) : oNe (.int a) (.int b) s = some (.bl (!decide (a = b))) := by
  simp [oNe, oNeD, rd, toD, SeqAt.shaped, PyData.eqv, PyData.canLay0, PyData.depth]
  by_cases h : a = b <;> simp [h]
theorem oEq_int (a b : Int) (s : Sto) : oEq (.int a) (.int b) s = some (.bl (decide (a = b))) := by
  simp [oEq, oEqD, rd, toD, SeqAt.shaped, PyData.eqv, PyData.canLay0, PyData.depth]
  by_cases h : a = b <;> simp [h]
theorem fmod_nat (a b : Nat) : (a : Int).fmod (b : Int) = ((a % b : Nat) : Int) := by
  rw [Int.fmod_eq_emod_of_nonneg _ (Int.natCast_nonneg b)]
  rfl
theorem set3 {α : Type} {i j : Nat} (hij : i ≠ j) (l : List α) (x y u v : α) : (((l.set j x).set i u).set j y).set i v = (l.set j y).set i v := by
  rw [List.set_comm (i := i) (j := j) u y hij, List.set_set, List.set_set]
/-- while other != 0: one, other = other, one % other -/
theorem gcd_loop (i j : Nat) (hij : i ≠ j) (s : Sto) : ∀ (n a b : Nat) (ρ : Sl), b < n → ρ[j]? = some (some (.int a)) → ρ[i]? = some (some (.int b)) →
    whileN (fB (fOp oNe (fVar i) (fC (.int 0)))) (fPar j i (fCons (fVar i) (fCons (fOp oMod (fVar j) (fVar i)) fNil))) n ρ s = .nx ((ρ.set j (some (.int (Nat.gcd a b)))).set i (some (.int 0))) s
  | 0, a, b, ρ, h, _, _ => absurd h (Nat.not_lt_zero _)
  | n + 1, a, b, ρ, h, hj, hi => by
    have lj : j < ρ.length := (List.getElem?_eq_some_iff.mp hj).1
    have li : i < ρ.length := (List.getElem?_eq_some_iff.mp hi).1
    unfold whileN
    by_cases h0 : b = 0
    · subst h0
      simp only [fB, asB, fOp, fVar, fC, hi, Res.bind_ok, oNe_int, lift1, ofT_ok]
      simp
      have e1 : ρ.set j (some (.int a)) = ρ := by
        apply List.ext_getElem?
        intro m
        by_cases hm : m = j
        · subst hm; rw [List.getElem?_set_self lj, hj]
        · rw [List.getElem?_set_ne (Ne.symm hm)]
      have e2 : ρ.set i (some (.int 0)) = ρ := by
        apply List.ext_getElem?
        intro m
        by_cases hm : m = i
        · subst hm; rw [List.getElem?_set_self li, hi]; rfl
        · rw [List.getElem?_set_ne (Ne.symm hm)]
      rw [e1, e2]
    · have hb : ¬ ((b : Int) = 0) := by omega
      have hpos : 0 < b := Nat.pos_of_ne_zero h0
      simp only [fB, asB, fOp, fVar, fC, hi, hj, Res.bind_ok, oNe_int, lift1, ofT_ok, fPar, fCons, fNil, oMod, hb, ne_eq, not_false_eq_true, if_true, decide_false, Bool.not_false, fmod_nat]
      have ih := gcd_loop i j hij s n b (a % b) ((ρ.set j (some (.int b))).set i (some (.int ((a % b : Nat) : Int)))) (Nat.lt_of_lt_of_le (Nat.mod_lt _ hpos) (Nat.le_of_lt_succ h))
        (by rw [List.getElem?_set_ne hij, List.getElem?_set_self lj]) (by rw [List.getElem?_set_self (by rw [List.length_set]; exact li)])
      rw [ih]
      have hg : Nat.gcd b (a % b) = Nat.gcd a b := by rw [Nat.gcd_comm b, ← Nat.gcd_rec, Nat.gcd_comm]
      rw [hg]
      congr 1
      rw [set3 hij]
/-! the two functions that make fractions -/
def absI (a : Int) : Int := if a < 0 then -a else a
theorem absI_nat (a : Int) : absI a = (a.natAbs : Int) := by unfold absI; split <;> omega
def B_shared : SF := fSeq (fPar 0 1 (fCons (fCallB oAbs (fCons (fVar 0) fNil)) (fCons (fCallB oAbs (fCons (fVar 1) fNil)) fNil))) (fSeq (fWhile (measInt 1) (fB (fOp oNe (fVar 1) (fC (.int 0)))) (fPar 0 1 (fCons (fVar 1) (fCons (fOp oMod (fVar 0) (fVar 1)) fNil)))) (fRet (fCallB oMax2 (fCons (fVar 0) (fCons (fC (.int 1)) fNil)))))
def F_shared : List PV → Sto → Res PV := fDef 2 2 B_shared
theorem shared_eq (a b : Int) (s : Sto) : F_shared [.int a, .int b] s = .ok (.int ((max (Nat.gcd a.natAbs b.natAbs) 1 : Nat) : Int)) s := by
  have key := gcd_loop 1 0 (by decide) s (b.natAbs + 1) a.natAbs b.natAbs [some (.int a.natAbs), some (.int b.natAbs)] (Nat.lt_succ_self _) rfl rfl
  have ea := absI_nat a
  have eb := absI_nat b
  unfold absI at ea eb
  unfold F_shared
  rw [fDef_of (by rfl)]
  simp only [B_shared, fSeq, fPar, fCallB, fCons, fNil, fVar, fC, fRet, List.map_cons, List.map_nil, List.length_cons, List.length_nil, Nat.sub_self, List.replicate_zero, List.append_nil, Nat.zero_add, Nat.reduceAdd, if_true, List.getElem?_cons_zero, List.getElem?_cons_succ, Res.bind_ok, oAbs, lift1_some, ea, eb, List.set_cons_zero, List.set_cons_succ, fWhile]
  rw [show measInt 1 [some (.int (a.natAbs : Int)), some (.int (b.natAbs : Int))] s = b.natAbs + 1 by simp [measInt], key]
  simp only [List.set_cons_zero, List.set_cons_succ, List.getElem?_cons_zero, Res.bind_ok, oMax2, lift1_some, ofE_ok, ofS]
  congr 2
  split <;> omega
def B_told_fraction : SF := fSeq (fAsg (fCall 2 F_shared (fCons (fVar 0) (fCons (fVar 1) fNil))) (gfName 2)) (fSeq (fAsg (fIf (fB (fOp oLt (fVar 1) (fC (.int 0)))) (fUn oNeg (fVar 2)) (fVar 2)) (gfName 2)) (fRet (fTup (fCons (fOp oDiv (fVar 0) (fVar 2)) (fCons (fOp oDiv (fVar 1) (fVar 2)) fNil)))))
/-- the fraction in lowest terms, b above nought -/
def frG (t b : Int) : Nat := Nat.gcd t.natAbs b.natAbs
def frI (t b : Int) : Int × Int := (t / (frG t b : Int), b / (frG t b : Int))
def frV (q : Int × Int) : PV := .tup [.int q.1, .int q.2]
theorem frG_pos {t b : Int} (h : 0 < b) : 0 < frG t b := Nat.gcd_pos_of_pos_right _ (by omega)
theorem frG_le {t b : Int} (h : 0 < b) : frG t b ≤ b.natAbs := Nat.le_of_dvd (by omega) (Nat.gcd_dvd_right _ _)
theorem log2_lt {n k : Nat} (h : n < 2 ^ k) (hk : 0 < k) : n.log2 < k := by
  by_cases h0 : n = 0
  · subst h0; exact hk
  · exact (Nat.log2_lt h0).mpr h
def F_told_fraction : List PV → Sto → Res PV := fDef 2 3 B_told_fraction
theorem told_fraction_eq (t b : Int) (s : Sto) (hb : 0 < b) (hs : b.natAbs < 2 ^ 1000) : F_told_fraction [.int t, .int b] s = .ok (frV (frI t b)) s := by
  have hg : 0 < frG t b := frG_pos hb
  have hg2 : frG t b < 2 ^ 1000 := Nat.lt_of_le_of_lt (frG_le hb) hs
  have e1 : max (Nat.gcd t.natAbs b.natAbs) 1 = frG t b := by unfold frG at hg ⊢; omega
  have hl : (frG t b).log2 < 9000 := Nat.lt_trans (log2_lt hg2 (by decide)) (by decide)
  have hn : ¬ b < 0 := by omega
  have hz : frG t b ≠ 0 := by omega
  unfold F_told_fraction
  rw [fDef_of (by rfl)]
  simp only [B_told_fraction, fSeq, fAsg, fCall, fCons, fNil, fVar, fC, fRet, fIf, fB, asB, fOp, fTup, oLt, oCmpI, List.map_cons, List.map_nil, List.length_cons, List.length_nil, List.replicate_succ, List.replicate_zero, List.cons_append, List.nil_append, Nat.zero_add, Nat.reduceAdd, Nat.reduceSub, if_true, List.getElem?_cons_zero, List.getElem?_cons_succ, Res.bind_ok]
  rw [show F_shared [.int t, .int b] s = .ok (.int ((frG t b : Nat) : Int)) s by rw [shared_eq, e1]]
  simp [gfName, hn, oDiv, hl, ofS, frV, frI, hz]
  constructor
  · exact Int.fdiv_eq_ediv_of_nonneg _ (by omega)
  · exact Int.fdiv_eq_ediv_of_nonneg _ (by omega)
def B_law_frac : SF := fSeq (fPar 2 3 (fCons (fCallB oAbs (fCons (fVar 0) fNil)) (fCons (fCallB oAbs (fCons (fVar 1) fNil)) fNil))) (fSeq (fWhile (measInt 3) (fB (fOp oNe (fVar 3) (fC (.int 0)))) (fPar 2 3 (fCons (fVar 3) (fCons (fOp oMod (fVar 2) (fVar 3)) fNil)))) (fSeq (fAsg (fIf (fB (fOp oLt (fVar 1) (fC (.int 0)))) (fUn oNeg (fC (.int 1))) (fC (.int 1))) (gfName 4)) (fRet (fTup (fCons (fOp oDiv (fOp oMul (fVar 4) (fVar 0)) (fVar 2)) (fCons (fOp oDiv (fOp oMul (fVar 4) (fVar 1)) (fVar 2)) fNil))))))
def F_law_frac : List PV → Sto → Res PV := fDef 2 5 B_law_frac
theorem law_frac_eq (t b : Int) (s : Sto) (hb : 0 < b) (hs : b.natAbs < 2 ^ 1000) : F_law_frac [.int t, .int b] s = .ok (frV (frI t b)) s := by
  have hg : 0 < frG t b := frG_pos hb
  have hg2 : frG t b < 2 ^ 1000 := Nat.lt_of_le_of_lt (frG_le hb) hs
  have hl : (frG t b).log2 < 9000 := Nat.lt_trans (log2_lt hg2 (by decide)) (by decide)
  have hn : ¬ b < 0 := by omega
  have hz : frG t b ≠ 0 := by omega
  have key := gcd_loop 3 2 (by decide) s (b.natAbs + 1) t.natAbs b.natAbs [some (.int t), some (.int b), some (.int t.natAbs), some (.int b.natAbs), none] (Nat.lt_succ_self _) rfl rfl
  have ea := absI_nat t
  have eb := absI_nat b
  unfold absI at ea eb
  unfold F_law_frac
  rw [fDef_of (by rfl)]
  simp only [B_law_frac, fSeq, fPar, fCallB, fCons, fNil, fVar, fC, fRet, List.map_cons, List.map_nil, List.length_cons, List.length_nil, List.replicate_succ, List.replicate_zero, List.cons_append, List.nil_append, Nat.zero_add, Nat.reduceAdd, Nat.reduceSub, if_true, List.getElem?_cons_zero, List.getElem?_cons_succ, Res.bind_ok, oAbs, lift1_some, ea, eb, List.set_cons_zero, List.set_cons_succ, fWhile]
  rw [show measInt 3 [some (.int t), some (.int b), some (.int (t.natAbs : Int)), some (.int (b.natAbs : Int)), none] s = b.natAbs + 1 by simp [measInt], key]
  have hm1 : mulOk 1 t = true := by simp [mulOk]
  have hm2 : mulOk 1 b = true := by simp [mulOk]
  rw [show Nat.gcd t.natAbs b.natAbs = frG t b from rfl]
  simp [fSeq, fRet, fAsg, fIfS, fB, asB, fOp, fUn, fCallB, fCall, fCons, fNil, fVar, fC, fTup, fIf, fNot, fOr, fAnd, fNotV, fAndV, fOrV, fPar, fPar3, fDrop, fNext, fRetN, gfName, lift1, ofS, oIx, seqOf, ixP_0, ixP_1, ixP_2, setP_0, setP_1, setP_2, oAdd_int, oSub_int, oMul_int, oDiv_int, oMod_int, oPow_int, oNeg_int, oAbs_int, oInt1_int, oInt1_bl, oLt_int, oLe_int, oGt_int, oGe_int, hn, hm1, hm2, hl, hz, frV, frI]
  constructor
  · exact Int.fdiv_eq_ediv_of_nonneg _ (by omega)
  · exact Int.fdiv_eq_ediv_of_nonneg _ (by omega)
end Pv


/-! Pv22: the law files' common functions: the pot of drawn numbers. -/
namespace Pv
open PySem PySem.Spec PyProof.Rows L2

def B__law_pot : SF := fSeq (fAsg (fIf (fB (fOp oLt (fVar 1) (fCallB oLen (fCons (fVar 0) fNil)))) (fOp oIx (fVar 0) (fVar 1)) (fOp oAdd (fOp oAdd (fOp oMod (fCallB oInt1 (fCons (fCallB oSum (fCons (fSlH (fVar 0) (fC (.int 1))) fNil)) fNil)) (fC (.int 1000403))) (fOp oMul (fC (.int 5081)) (fVar 1))) (fC (.int 3127)))) (gfName 2)) (fSeq (fAsg (fOp oMul (fOp oMod (fCallB oInt1 (fCons (fCallB oAbs (fCons (fVar 2) fNil)) fNil)) (fOp oPow (fOp oPow (fC (.int 10)) (fC (.int 60))) (fC (.int 5)))) (fCallB oInt1 (fCons (fOp oGe (fCallB oAbs (fCons (fVar 2) fNil)) (fOp oPow (fC (.int 10)) (fC (.int 18)))) fNil))) (gfName 3)) (fSeq (fAsg (fOp oMod (fCallB oInt1 (fCons (fVar 2) fNil)) (fC (.int 2305843009213693921))) (gfName 4)) (fRet (fLst (fCons (fVar 3) (fCons (fOp oMod (fCallB oInt1 (fCons (fOp oAdd (fOp oAdd (fOp oMul (fVar 4) (fC (.int 70249))) (fOp oMul (fOp oMul (fC (.int 13103)) (fVar 1)) (fVar 1))) (fC (.int 2963))) fNil)) (fC (.int 2305843009213693921))) (fCons (fC (.int 0)) fNil)))))))
def F__law_pot : List PV → Sto → Res PV := fDef 2 5 B__law_pot
def B__law_take : SF := fSeq (fIfS (fB (fOp oGt (fOp oIx (fVar 0) (fC (.int 0))) (fC (.int 0)))) (fSeq (fAsg (fOp oMod (fCallB oInt1 (fCons (fOp oIx (fVar 0) (fC (.int 0))) fNil)) (fVar 1)) (gfName 2)) (fSeq (fAsg (fOp oDiv (fOp oIx (fVar 0) (fC (.int 0))) (fVar 1)) (gfSub (fVar 0) (fC (.int 0)))) (fRet (fVar 2)))) fNext) (fSeq (fAsg (fOp oAdd (fOp oIx (fVar 0) (fC (.int 2))) (fC (.int 1))) (gfSub (fVar 0) (fC (.int 2)))) (fSeq (fAsg (fOp oIx (fLstT (fCons (fC (.int 2147483647)) (fCons (fC (.int 2147483629)) (fCons (fC (.int 2147483587)) (fCons (fC (.int 2147483579)) (fCons (fC (.int 2147483563)) fNil)))))) (fOp oMod (fCallB oInt1 (fCons (fOp oIx (fVar 0) (fC (.int 2))) fNil)) (fC (.int 5)))) (gfName 3)) (fSeq (fAsg (fOp oMod (fCallB oInt1 (fCons (fOp oPow (fCallB oInt1 (fCons (fOp oAdd (fOp oAdd (fOp oIx (fVar 0) (fC (.int 1))) (fOp oMul (fOp oMul (fC (.int 90011)) (fOp oIx (fVar 0) (fC (.int 2)))) (fOp oIx (fVar 0) (fC (.int 2))))) (fC (.int 3019))) fNil)) (fC (.int 3))) fNil)) (fVar 3)) (gfName 4)) (fSeq (fAsg (fOp oMod (fCallB oInt1 (fCons (fOp oMul (fVar 4) (fOp oAdd (fOp oMod (fCallB oInt1 (fCons (fVar 4) fNil)) (fC (.int 13751))) (fOp oMul (fC (.int 439)) (fOp oIx (fVar 0) (fC (.int 2)))))) fNil)) (fC (.int 2305843009213693907))) (gfName 4)) (fRet (fOp oMod (fCallB oInt1 (fCons (fOp oDiv (fVar 4) (fC (.int 241))) fNil)) (fVar 1)))))))
def F__law_take : List PV → Sto → Res PV := fDef 2 5 B__law_take
def B__law_of : SF := fRet (fOp oIx (fVar 1) (fCall 2 F__law_take (fCons (fVar 0) (fCons (fCallB oLen (fCons (fVar 1) fNil)) fNil))))
def F__law_of : List PV → Sto → Res PV := fDef 2 2 B__law_of
def B__law_cells : SF := fRet (fLstRg1 (fCallB oMax2 (fCons (fC (.int 1)) (fCons (fCallB oMin2 (fCons (fVar 1) (fCons (fCallB oLen (fCons (fVar 0) fNil)) fNil))) fNil))))
def F__law_cells : List PV → Sto → Res PV := fDef 2 2 B__law_cells
structure PotAt (s : Sto) (l : Nat) (n : Nat) (a b c : Int) : Prop where
  at_ : s.objs[l]? = some (.lst [.int a, .int b, .int c])
  a0 : 0 ≤ a
  a1 : a < (10 ^ 60) ^ 5
  b0 : 0 ≤ b
  b1 : b < 2 ^ 61
  c0 : 0 ≤ c
  c1 : c ≤ n
/-- a pot that has been asked no more than n times -/
def Pot (s : Sto) (l n : Nat) : Prop := ∃ a b c, PotAt s l n a b c
theorem set_at {s : Sto} {l : Nat} {o o' : PObj} (h : s.objs[l]? = some o) : (s.set l o').objs[l]? = some o' := by
  unfold Sto.set
  rw [List.getElem?_set_self (List.getElem?_eq_some_iff.mp h).1]
theorem set_set (s : Sto) (l : Nat) (o o' : PObj) : (s.set l o).set l o' = s.set l o' := by
  unfold Sto.set
  simp
theorem prime_ix {i : Int} (h0 : 0 ≤ i) (h1 : i < 5) : ∃ p : Int, ixP [.int 2147483647, .int 2147483629, .int 2147483587, .int 2147483579, .int 2147483563] i = some (.int p) ∧ 2147483563 ≤ p ∧ p ≤ 2147483647 := by
  obtain ⟨k, rfl⟩ := Int.eq_ofNat_of_zero_le h0
  have : k < 5 := by omega
  match k, this with
  | 0, _ => exact ⟨_, rfl, by decide, by decide⟩
  | 1, _ => exact ⟨_, rfl, by decide, by decide⟩
  | 2, _ => exact ⟨_, rfl, by decide, by decide⟩
  | 3, _ => exact ⟨_, rfl, by decide, by decide⟩
  | 4, _ => exact ⟨_, rfl, by decide, by decide⟩
theorem fmod_rng (a : Int) {b : Int} (h : 0 < b) : 0 ≤ a.fmod b ∧ a.fmod b < b := ⟨Int.fmod_nonneg_of_pos _ h, Int.fmod_lt_of_pos _ h⟩
theorem take_a {s : Sto} {l n : Nat} {a b c u : Int} (P : PotAt s l n a b c) (ha : 0 < a) (hu : 0 < u) (hu2 : u < 2 ^ 30) :
    F__law_take [.loc l, .int u] s = .ok (.int (a.fmod u)) (s.set l (.lst [.int (a.fdiv u), .int b, .int c])) := by
  have hat := P.at_
  have hz : u ≠ 0 := by omega
  have hl : u.natAbs.log2 < 9000 := Nat.lt_trans (log2_lt (k := 30) (by omega) (by decide)) (by decide)
  unfold F__law_take
  rw [fDef_of (by rfl)]
  unfold B__law_take
  simp [fSeq, fRet, fAsg, fIfS, fB, asB, fOp, fUn, fCallB, fCall, fCons, fNil, fVar, fC, fTup, fIf, fNot, fOr, fAnd, fNotV, fAndV, fOrV, fPar, fPar3, fDrop, fNext, fRetN, gfName, lift1, ofS, oIx, seqOf, ixP_0, ixP_1, ixP_2, setP_0, setP_1, setP_2, oAdd_int, oSub_int, oMul_int, oDiv_int, oMod_int, oPow_int, oNeg_int, oAbs_int, oInt1_int, oInt1_bl, oLt_int, oLe_int, oGt_int, oGe_int, liveL, hat, ha, hz, hl, gfSub, wrL]
theorem take_b {s : Sto} {l n : Nat} {a b c u : Int} (P : PotAt s l n a b c) (hn : n < 2 ^ 30) (ha : ¬ 0 < a) (hu : 0 < u) (hu2 : u < 2 ^ 30) :
    ∃ d, 0 ≤ d ∧ d < u ∧ F__law_take [.loc l, .int u] s = .ok (.int d) (s.set l (.lst [.int a, .int b, .int (c + 1)])) := by
  have hat := P.at_
  have hz : u ≠ 0 := by omega
  have c0 := P.c0
  have c1 := P.c1
  have hat2 := set_at (o' := .lst [.int a, .int b, .int (c + 1)]) hat
  obtain ⟨r0, r1⟩ := fmod_rng (c + 1) (b := 5) (by decide)
  obtain ⟨p, hp, p0, p1⟩ := prime_ix r0 r1
  unfold F__law_take
  rw [fDef_of (by rfl)]
  unfold B__law_take
  have m1 : mulOk 90011 (c + 1) = true := mul_small_l _ _ (by decide)
  have m2 : mulOk (90011 * (c + 1)) (c + 1) = true := mul_small_r _ _ (by omega)
  have x0 : 0 ≤ b + 90011 * (c + 1) * (c + 1) + 3019 := by
    have := P.b0
    have : 0 ≤ 90011 * (c + 1) * (c + 1) := Int.mul_nonneg (by omega) (by omega)
    omega
  have x1 : b + 90011 * (c + 1) * (c + 1) + 3019 < 2 ^ 100 := by
    have := P.b1
    have h1 : 90011 * (c + 1) * (c + 1) ≤ 90011 * 2 ^ 31 * 2 ^ 31 := Int.mul_le_mul (by omega) (by omega) (by omega) (by omega)
    omega
  generalize hx : b + 90011 * (c + 1) * (c + 1) + 3019 = x at x0 x1
  have pl : x.natAbs.log2 < 100000 := Nat.lt_trans (log2_lt (k := 100) (by omega) (by decide)) (by decide)
  have pz : p ≠ 0 := by omega
  obtain ⟨y0, y1⟩ := fmod_rng (x ^ 3) (b := p) (by omega)
  generalize hy : (x ^ 3).fmod p = y at y0 y1
  have m3 : mulOk 439 (c + 1) = true := mul_small_l _ _ (by decide)
  have m4 : mulOk y (y.fmod 13751 + 439 * (c + 1)) = true := mul_small_l _ _ (by omega)
  have l1 : Nat.log2 241 < 9000 := by decide
  have e241 : ∀ i s, oDiv (.int i) (.int 241) s = some (.int (i.fdiv 241)) := fun i s => oDiv_int _ _ _ (by decide) (by decide)
  simp [fSeq, fRet, fAsg, fIfS, fB, asB, fOp, fUn, fCallB, fCall, fCons, fNil, fVar, fC, fTup, fIf, fNot, fOr, fAnd, fNotV, fAndV, fOrV, fPar, fPar3, fDrop, fNext, fRetN, gfName, lift1, ofS, oIx, seqOf, ixP_0, ixP_1, ixP_2, setP_0, setP_1, setP_2, oAdd_int, oSub_int, oMul_int, oDiv_int, oMod_int, oPow_int, oNeg_int, oAbs_int, oInt1_int, oInt1_bl, oLt_int, oLe_int, oGt_int, oGe_int, liveL, hat, hat2, ha, hz, gfSub, wrL, fLstT, hp, m1, m2, hx, pl, pz, hy, m3, m4, e241]
  exact fmod_rng _ hu
/-- only the pot at l has changed -/
def PotFrm (l : Nat) (s s' : Sto) : Prop := ∃ xs, s' = s.set l (.lst xs)
theorem PotFrm.trans {l : Nat} {s s1 s2 : Sto} (h : PotFrm l s s1) (k : PotFrm l s1 s2) : PotFrm l s s2 := by
  obtain ⟨xs, rfl⟩ := h
  obtain ⟨ys, rfl⟩ := k
  exact ⟨ys, set_set _ _ _ _⟩
theorem Pot.mono {s : Sto} {l n m : Nat} (h : Pot s l n) (k : n ≤ m) : Pot s l m := by
  obtain ⟨a, b, c, P⟩ := h
  exact ⟨a, b, c, P.at_, P.a0, P.a1, P.b0, P.b1, P.c0, Int.le_trans P.c1 (by omega)⟩
theorem take_eq {s : Sto} {l n : Nat} {u : Int} (h : Pot s l n) (hn : n < 2 ^ 30) (hu : 0 < u) (hu2 : u < 2 ^ 30) :
    ∃ d s', F__law_take [.loc l, .int u] s = .ok (.int d) s' ∧ 0 ≤ d ∧ d < u ∧ Pot s' l (n + 1) ∧ PotFrm l s s' := by
  obtain ⟨a, b, c, P⟩ := h
  by_cases ha : 0 < a
  · refine ⟨_, _, take_a P ha hu hu2, (fmod_rng a hu).1, (fmod_rng a hu).2, ⟨a.fdiv u, b, c, set_at P.at_, ?_, ?_, P.b0, P.b1, P.c0, Int.le_trans P.c1 (by omega)⟩, ⟨_, rfl⟩⟩
    · rw [Int.fdiv_eq_ediv_of_nonneg _ (by omega)]
      exact Int.ediv_nonneg (by omega) (by omega)
    · rw [Int.fdiv_eq_ediv_of_nonneg _ (by omega)]
      exact Int.lt_of_le_of_lt (Int.ediv_le_self _ (by omega)) P.a1
  · obtain ⟨d, d0, d1, e⟩ := take_b P hn ha hu hu2
    exact ⟨d, _, e, d0, d1, ⟨a, b, c + 1, set_at P.at_, P.a0, P.a1, P.b0, P.b1, by have := P.c0; omega, by have := P.c1; omega⟩, ⟨_, rfl⟩⟩
theorem of_eq {s : Sto} {l n : Nat} {xs : List PV} (h : Pot s l n) (hn : n < 2 ^ 30) (hx : 0 < xs.length) (hx2 : xs.length < 2 ^ 30) :
    ∃ p s', F__law_of [.loc l, .tmp xs] s = .ok p s' ∧ p ∈ xs ∧ Pot s' l (n + 1) ∧ PotFrm l s s' := by
  obtain ⟨d, s', e, d0, d1, P, fr⟩ := take_eq (u := (xs.length : Int)) h hn (by omega) (by omega)
  obtain ⟨k, rfl⟩ := Int.eq_ofNat_of_zero_le d0
  have hk : k < xs.length := by omega
  refine ⟨xs[k], s', ?_, List.getElem_mem hk, P, fr⟩
  have eo : oLen [.tmp xs] s = some (.int xs.length) := rfl
  have ei : ixP xs (k : Int) = some (xs[k]) := ixP_get xs k hk
  unfold F__law_of
  rw [fDef_of (by rfl)]
  unfold B__law_of
  simp only [fRet, fOp, fCall, fCallB, fCons, fNil, fVar, List.map_cons, List.map_nil, List.length_cons, List.length_nil, List.replicate_zero, List.append_nil, Nat.zero_add, Nat.reduceAdd, Nat.reduceSub, if_true, List.getElem?_cons_zero, List.getElem?_cons_succ, Res.bind_ok, eo, lift1, e, oIx, seqOf, liveL]
  simp [ei, ofS]
theorem cells_eq {s : Sto} {xs : List PV} {m : Int} (hm : 1 ≤ m) (hm2 : m ≤ 1000) : ∃ N : Int, 1 ≤ N ∧ N ≤ m ∧ F__law_cells [.kl xs, .int m] s = .ok (.tmp (rgP 0 N)) s := by
  unfold F__law_cells
  rw [fDef_of (by rfl)]
  unfold B__law_cells
  have eo : oLen [.kl xs] s = some (.int xs.length) := rfl
  simp only [fRet, fLstRg1, fOp, fCallB, fCons, fNil, fVar, fC, List.map_cons, List.map_nil, List.length_cons, List.length_nil, List.replicate_zero, List.append_nil, Nat.zero_add, Nat.reduceAdd, Nat.reduceSub, List.getElem?_cons_zero, List.getElem?_cons_succ, Res.bind_ok, eo, lift1, oMin2, oMax2]
  generalize hN : (if (if (xs.length : Int) < m then (xs.length : Int) else m) > 1 then (if (xs.length : Int) < m then (xs.length : Int) else m) else 1) = N
  have h1 : 1 ≤ N := by rw [← hN]; split <;> split <;> omega
  have h2 : N ≤ m := by rw [← hN]; split <;> split <;> omega
  refine ⟨N, h1, h2, ?_⟩
  rw [if_pos ⟨by omega, by omega⟩]
  rfl
theorem intsP_map : ∀ ns : List Int, intsP (ns.map PV.int) = some ns
  | [] => rfl
  | n :: r => by simp [intsP, intsP_map r]
theorem cutP_ints (ns : List Int) (lo hi : Option Int) : ∃ ms : List Int, cutP (ns.map PV.int) lo hi = ms.map PV.int := ⟨_, by unfold cutP; rw [← List.map_drop, ← List.map_take]⟩
def E_cell : EF := fIf (fB (fOp oLt (fVar 1) (fCallB oLen (fCons (fVar 0) fNil)))) (fOp oIx (fVar 0) (fVar 1)) (fOp oAdd (fOp oAdd (fOp oMod (fCallB oInt1 (fCons (fCallB oSum (fCons (fSlH (fVar 0) (fC (.int 1))) fNil)) fNil)) (fC (.int 1000403))) (fOp oMul (fC (.int 5081)) (fVar 1))) (fC (.int 3127)))
theorem cell_eq (ns : List Int) (k : Nat) (s : Sto) (r : Sl) : ∃ z, E_cell (some (.kl (ns.map PV.int)) :: some (.int k) :: r) s = .ok (.int z) s := by
  have eo : oLen [.kl (ns.map PV.int)] s = some (.int ns.length) := by simp [oLen, seqOf, liveL]
  unfold E_cell
  by_cases hk : k < ns.length
  · have hlt : ((k : Int) < (ns.length : Int)) := by omega
    have ei : ixP (ns.map PV.int) (k : Int) = some (.int ns[k]) := by rw [ixP_get _ _ (by simpa using hk)]; simp
    refine ⟨ns[k], ?_⟩
    simp [fSeq, fRet, fAsg, fIfS, fB, asB, fOp, fUn, fCallB, fCall, fCons, fNil, fVar, fC, fTup, fIf, fNot, fOr, fAnd, fNotV, fAndV, fOrV, fPar, fPar3, fDrop, fNext, fRetN, gfName, lift1, ofS, oIx, seqOf, ixP_0, ixP_1, ixP_2, setP_0, setP_1, setP_2, oAdd_int, oSub_int, oMul_int, oDiv_int, oMod_int, oPow_int, oNeg_int, oAbs_int, oInt1_int, oInt1_bl, oLt_int, oLe_int, oGt_int, oGe_int, eo, hlt, liveL, ei, hk]
  · have hlt : ¬ ((k : Int) < (ns.length : Int)) := by omega
    obtain ⟨ms, hm⟩ := cutP_ints ns none (some 1)
    have m1 : mulOk 5081 k = true := mul_small_l _ _ (by decide)
    refine ⟨ms.sum.fmod 1000403 + 5081 * k + 3127, ?_⟩
    simp [fSeq, fRet, fAsg, fIfS, fB, asB, fOp, fUn, fCallB, fCall, fCons, fNil, fVar, fC, fTup, fIf, fNot, fOr, fAnd, fNotV, fAndV, fOrV, fPar, fPar3, fDrop, fNext, fRetN, gfName, lift1, ofS, oIx, seqOf, ixP_0, ixP_1, ixP_2, setP_0, setP_1, setP_2, oAdd_int, oSub_int, oMul_int, oDiv_int, oMod_int, oPow_int, oNeg_int, oAbs_int, oInt1_int, oInt1_bl, oLt_int, oLe_int, oGt_int, oGe_int, eo, hlt, hk, liveL, fSlH, oSl, hm, oSum, intsP_map, m1]
theorem pot_eq {s : Sto} {ns : List Int} {k : Nat} (hk : k < 2 ^ 20) : ∃ a b, F__law_pot [.kl (ns.map PV.int), .int k] s = .ok (.loc s.objs.length) (s.alloc (.lst [.int a, .int b, .int 0])) ∧ 0 ≤ a ∧ a < (10 ^ 60) ^ 5 ∧ 0 ≤ b ∧ b < 2 ^ 61 := by
  obtain ⟨z, hz⟩ := cell_eq ns k s [none, none, none]
  unfold F__law_pot
  rw [fDef_of (by rfl)]
  have hb : B__law_pot = fSeq (fAsg E_cell (gfName 2)) (fSeq (fAsg (fOp oMul (fOp oMod (fCallB oInt1 (fCons (fCallB oAbs (fCons (fVar 2) fNil)) fNil)) (fOp oPow (fOp oPow (fC (.int 10)) (fC (.int 60))) (fC (.int 5)))) (fCallB oInt1 (fCons (fOp oGe (fCallB oAbs (fCons (fVar 2) fNil)) (fOp oPow (fC (.int 10)) (fC (.int 18)))) fNil))) (gfName 3)) (fSeq (fAsg (fOp oMod (fCallB oInt1 (fCons (fVar 2) fNil)) (fC (.int 2305843009213693921))) (gfName 4)) (fRet (fLst (fCons (fVar 3) (fCons (fOp oMod (fCallB oInt1 (fCons (fOp oAdd (fOp oAdd (fOp oMul (fVar 4) (fC (.int 70249))) (fOp oMul (fOp oMul (fC (.int 13103)) (fVar 1)) (fVar 1))) (fC (.int 2963))) fNil)) (fC (.int 2305843009213693921))) (fCons (fC (.int 0)) fNil))))))) := rfl
  rw [hb]
  have p1 : ∀ s, oPow (.int 10) (.int 60) s = some (.int (10 ^ 60)) := fun s => oPow_int _ _ _ (by decide) (by decide) (by decide)
  have p3 : ∀ s, oPow (.int 10) (.int 18) s = some (.int (10 ^ 18)) := fun s => oPow_int _ _ _ (by decide) (by decide) (by decide)
  have hM0 : (0 : Int) < (10 ^ 60) ^ 5 := by decide
  have p2 : ∀ s, oPow (.int (10 ^ 60)) (.int 5) s = some (.int ((10 ^ 60) ^ 5)) := fun s => oPow_int _ _ _ (by decide) (by decide) (by decide)
  generalize hT : (10 ^ 60 : Int) = T at p1 p2 hM0 ⊢
  generalize hM : T ^ 5 = M at p2 hM0 ⊢
  generalize hE : (10 ^ 18 : Int) = E at p3
  have hMz : M ≠ 0 := by omega
  have habs : ∀ s, oAbs [.int z] s = some (.int (if z < 0 then -z else z)) := fun _ => rfl
  generalize hq : (if z < 0 then -z else z) = q at habs
  obtain ⟨w0, w1⟩ := fmod_rng q hM0
  generalize hw : q.fmod M = w at w0 w1
  have hge : ∀ s, oGe (.int q) (.int E) s = some (.bl (decide (q ≥ E))) := fun _ => rfl
  generalize hB : decide (q ≥ E) = B at hge
  have hin : ∀ s, oInt1 [.bl B] s = some (.int (if B then 1 else 0)) := fun _ => rfl
  generalize hC : (if B = true then (1 : Int) else 0) = C at hin
  have hC2 : C = 0 ∨ C = 1 := by rw [← hC]; cases B <;> simp
  have m1 : mulOk w C = true := mul_small_r _ _ (by rcases hC2 with h | h <;> rw [h] <;> decide)
  obtain ⟨y0, y1⟩ := fmod_rng z (b := 2305843009213693921) (by decide)
  generalize hy : z.fmod 2305843009213693921 = y at y0 y1
  have m2 : mulOk y 70249 = true := mul_small_r _ _ (by decide)
  have m3 : mulOk 13103 k = true := mul_small_l _ _ (by decide)
  have m4 : mulOk (13103 * k) k = true := mul_small_r _ _ (by omega)
  obtain ⟨v0, v1⟩ := fmod_rng (y * 70249 + 13103 * k * k + 2963) (b := 2305843009213693921) (by decide)
  refine ⟨w * C, (y * 70249 + 13103 * k * k + 2963).fmod 2305843009213693921, ?_, ?_, ?_, v0, by omega⟩
  · simp only [fSeq, fAsg, List.map_cons, List.map_nil, List.length_cons, List.length_nil, List.replicate_succ, List.replicate_zero, List.cons_append, List.nil_append, Nat.zero_add, Nat.reduceAdd, Nat.reduceSub, hz]
    clear hb
    simp [fSeq, fRet, fAsg, fOp, fCallB, fCons, fNil, fVar, fC, gfName, lift1, ofS, oAdd_int, oMul_int, oMod_int, oInt1_int, p1, p2, p3, hMz, habs, hw, hge, hin, m1, hy, m2, m3, m4, fLst]
  · rcases hC2 with h | h <;> rw [h] <;> omega
  · rcases hC2 with h | h <;> rw [h] <;> omega
end Pv

/-! Pv23: fractions in lowest terms, as plain numbers. -/
namespace Pv
open PySem PySem.Spec PyProof.Rows L2

theorem frG_dvd_t (t b : Int) : (frG t b : Int) ∣ t := Int.ofNat_dvd_left.mpr (Nat.gcd_dvd_left _ _)
theorem frG_dvd_b (t b : Int) : (frG t b : Int) ∣ b := Int.ofNat_dvd_left.mpr (Nat.gcd_dvd_right _ _)
section
variable {t b : Int}
theorem frI_t (h : 0 < b) : (frI t b).1 * (frG t b : Int) = t := Int.ediv_mul_cancel (frG_dvd_t t b)
theorem frI_b (h : 0 < b) : (frI t b).2 * (frG t b : Int) = b := Int.ediv_mul_cancel (frG_dvd_b t b)
theorem frI_pos (h : 0 < b) : 0 < (frI t b).2 := by
  have h1 := frI_b (t := t) h
  have h2 : (0 : Int) < (frG t b : Int) := by have := frG_pos (t := t) h; omega
  rcases Int.lt_or_le 0 (frI t b).2 with q | q
  · exact q
  · have : (frI t b).2 * (frG t b : Int) ≤ 0 := Int.mul_nonpos_of_nonpos_of_nonneg q (by omega)
    omega
theorem frI_cross (h : 0 < b) : (frI t b).1 * b = t * (frI t b).2 := by
  have h1 := frI_t (t := t) h
  have h2 := frI_b (t := t) h
  generalize (frI t b).1 = x at h1 h2 ⊢
  generalize (frI t b).2 = y at h1 h2 ⊢
  generalize (frG t b : Int) = g at h1 h2
  rw [← h1, ← h2, Int.mul_assoc, Int.mul_comm g y]
theorem frI_co (h : 0 < b) : Nat.gcd (frI t b).1.natAbs (frI t b).2.natAbs = 1 := by
  have hg := frG_pos (t := t) h
  have h1 := congrArg Int.natAbs (frI_t (t := t) h)
  have h2 := congrArg Int.natAbs (frI_b (t := t) h)
  rw [Int.natAbs_mul, Int.natAbs_natCast] at h1 h2
  have h3 : Nat.gcd ((frI t b).1.natAbs * frG t b) ((frI t b).2.natAbs * frG t b) = frG t b := by
    rw [h1, h2]
    rfl
  rw [Nat.gcd_mul_right] at h3
  exact Nat.eq_of_mul_eq_mul_right hg (by rw [h3, Nat.one_mul])
theorem frI_nn (h : 0 < b) (ht : 0 ≤ t) : 0 ≤ (frI t b).1 := Int.ediv_nonneg ht (by omega)
theorem frI_tp (h : 0 < b) (ht : 0 < t) : 0 < (frI t b).1 := by
  have h0 := frI_nn h (Int.le_of_lt ht)
  have h1 := frI_t (t := t) h
  rcases Int.lt_or_le 0 (frI t b).1 with q | q
  · exact q
  · have : (frI t b).1 = 0 := by omega
    rw [this, Int.zero_mul] at h1
    omega
theorem frI_le_t (h : 0 < b) (ht : 0 ≤ t) : (frI t b).1 ≤ t := Int.ediv_le_self _ ht
theorem frI_le_b (h : 0 < b) : (frI t b).2 ≤ b := Int.ediv_le_self _ (Int.le_of_lt h)
theorem frI_id (h : Nat.gcd t.natAbs b.natAbs = 1) : frI t b = (t, b) := by
  unfold frI frG
  rw [h]
  simp
end
theorem oEq_fr (p q : Int × Int) (s : Sto) : oEq (frV p) (frV q) s = some (.bl (decide (p = q))) := by
  obtain ⟨a, b⟩ := p
  obtain ⟨c, d⟩ := q
  simp [oEq, oEqD, frV, rd, toD, toDs, SeqAt.shaped, PyData.eqv, PyData.eqvAll, PyData.canLay0, PyData.canLayAll0, PyData.depth, PyData.depthAll]
  by_cases h : a = c <;> by_cases h2 : b = d <;> simp [h, h2]
end Pv

/-! Pv24: the program's functions over fractions. -/
namespace Pv
open PySem PySem.Spec PyProof.Rows L2

def B_is_int (C : Nat → Nat → Option Bool) : SF := fRet (fAndV (fCallB (oIsi C) (fCons (fVar 0) (fCons (fC (.ty "int")) fNil))) (fAndV (fNotV (fCallB (oIsi C) (fCons (fVar 0) (fCons (fC (.ty "bool")) fNil)))) (fChain oLe oLe (fVar 1) (fVar 0) (fVar 2))))
def F_is_int (C : Nat → Nat → Option Bool) : List PV → Sto → Res PV := fDef 3 3 (B_is_int C)
def B_is_exact (C : Nat → Nat → Option Bool) : SF := fSeq (fIfS (fOr (fNot (fB (fCallB (oIsi C) (fCons (fVar 0) (fCons (fC (.ty "tuple")) fNil))))) (fB (fOp oNe (fCallB oLen (fCons (fVar 0) fNil)) (fC (.int 2))))) (fRet (fC (.bl false))) fNext) (fSeq (fIfS (fNot (fB (fCallB oAll (fCons (fLcT [1] (srcE (fVar 0)) (gfName 1) fYes (fAndV (fCallB (oIsi C) (fCons (fVar 1) (fCons (fC (.ty "int")) fNil))) (fNotV (fCallB (oIsi C) (fCons (fVar 1) (fCons (fC (.ty "bool")) fNil)))))) fNil)))) (fRet (fC (.bl false))) fNext) (fRet (fAndV (fOp oGt (fOp oIx (fVar 0) (fC (.int 1))) (fC (.int 0))) (fOp oEq (fCall 2 F_told_fraction (fCons (fOp oIx (fVar 0) (fC (.int 0))) (fCons (fOp oIx (fVar 0) (fC (.int 1))) fNil))) (fVar 0)))))
def F_is_exact (C : Nat → Nat → Option Bool) : List PV → Sto → Res PV := fDef 1 2 (B_is_exact C)
def B_is_fraction (C : Nat → Nat → Option Bool) : SF := fRet (fAndV (fCall 1 (F_is_exact C) (fCons (fVar 0) fNil)) (fAndV (fCall 3 (F_is_int C) (fCons (fOp oIx (fVar 0) (fC (.int 0))) (fCons (fUn oNeg (fC (.int 1000000))) (fCons (fC (.int 1000000)) fNil)))) (fOp oLe (fOp oIx (fVar 0) (fC (.int 1))) (fC (.int 1000000)))))
def F_is_fraction (C : Nat → Nat → Option Bool) : List PV → Sto → Res PV := fDef 1 1 (B_is_fraction C)
def B_is_price (C : Nat → Nat → Option Bool) : SF := fRet (fAndV (fCall 1 (F_is_fraction C) (fCons (fVar 0) fNil)) (fOp oGe (fOp oIx (fVar 0) (fC (.int 0))) (fC (.int 0))))
def F_is_price (C : Nat → Nat → Option Bool) : List PV → Sto → Res PV := fDef 1 1 (B_is_price C)
def B_is_above (C : Nat → Nat → Option Bool) : SF := fRet (fAndV (fCall 1 (F_is_price C) (fCons (fVar 0) fNil)) (fOp oGt (fOp oIx (fVar 0) (fC (.int 0))) (fC (.int 0))))
def F_is_above (C : Nat → Nat → Option Bool) : List PV → Sto → Res PV := fDef 1 1 (B_is_above C)
def B_plus : SF := fRet (fCall 2 F_told_fraction (fCons (fOp oAdd (fOp oMul (fOp oIx (fVar 0) (fC (.int 0))) (fOp oIx (fVar 1) (fC (.int 1)))) (fOp oMul (fOp oIx (fVar 1) (fC (.int 0))) (fOp oIx (fVar 0) (fC (.int 1))))) (fCons (fOp oMul (fOp oIx (fVar 0) (fC (.int 1))) (fOp oIx (fVar 1) (fC (.int 1)))) fNil)))
def F_plus : List PV → Sto → Res PV := fDef 2 2 B_plus
def B_over : SF := fRet (fCall 2 F_told_fraction (fCons (fOp oMul (fOp oIx (fVar 0) (fC (.int 0))) (fOp oIx (fVar 1) (fC (.int 1)))) (fCons (fOp oMul (fOp oIx (fVar 0) (fC (.int 1))) (fOp oIx (fVar 1) (fC (.int 0)))) fNil)))
def F_over : List PV → Sto → Res PV := fDef 2 2 B_over
def B_is_less : SF := fRet (fOp oLt (fOp oMul (fOp oIx (fVar 0) (fC (.int 0))) (fOp oIx (fVar 1) (fC (.int 1)))) (fOp oMul (fOp oIx (fVar 1) (fC (.int 0))) (fOp oIx (fVar 0) (fC (.int 1)))))
def F_is_less : List PV → Sto → Res PV := fDef 2 2 B_is_less
def B__law_plus : SF := fRet (fCall 2 F_law_frac (fCons (fOp oAdd (fOp oMul (fOp oIx (fVar 0) (fC (.int 0))) (fOp oIx (fVar 1) (fC (.int 1)))) (fOp oMul (fOp oIx (fVar 1) (fC (.int 0))) (fOp oIx (fVar 0) (fC (.int 1))))) (fCons (fOp oMul (fOp oIx (fVar 0) (fC (.int 1))) (fOp oIx (fVar 1) (fC (.int 1)))) fNil)))
def F__law_plus : List PV → Sto → Res PV := fDef 2 2 B__law_plus
def B__law_over : SF := fRet (fCall 2 F_law_frac (fCons (fOp oMul (fOp oIx (fVar 0) (fC (.int 0))) (fOp oIx (fVar 1) (fC (.int 1)))) (fCons (fOp oMul (fOp oIx (fVar 0) (fC (.int 1))) (fOp oIx (fVar 1) (fC (.int 0)))) fNil)))
def F__law_over : List PV → Sto → Res PV := fDef 2 2 B__law_over
def B__law_is_less : SF := fRet (fOp oLt (fOp oMul (fOp oIx (fVar 0) (fC (.int 0))) (fOp oIx (fVar 1) (fC (.int 1)))) (fOp oMul (fOp oIx (fVar 1) (fC (.int 0))) (fOp oIx (fVar 0) (fC (.int 1)))))
def F__law_is_less : List PV → Sto → Res PV := fDef 2 2 B__law_is_less
def B__law_is_bool (C : Nat → Nat → Option Bool) : SF := fRet (fAndV (fCallB (oIsi C) (fCons (fVar 0) (fCons (fC (.ty "bool")) fNil))) (fOp oEq (fVar 0) (fVar 1)))
def F__law_is_bool (C : Nat → Nat → Option Bool) : List PV → Sto → Res PV := fDef 2 2 (B__law_is_bool C)
section
variable (C : Nat → Nat → Option Bool)
theorem isi_int_int (i : Int) (s : Sto) : oIsi C [.int i, .ty "int"] s = some (.bl true) := rfl
theorem isi_int_bool (i : Int) (s : Sto) : oIsi C [.int i, .ty "bool"] s = some (.bl false) := rfl
theorem isi_tup_tup (xs : List PV) (s : Sto) : oIsi C [.tup xs, .ty "tuple"] s = some (.bl true) := rfl
theorem is_int_int (i a b : Int) (s : Sto) : F_is_int C [.int i, .int a, .int b] s = .ok (.bl (decide (a ≤ i ∧ i ≤ b))) s := by
  unfold F_is_int
  rw [fDef_of (by rfl)]
  unfold B_is_int
  simp [fSeq, fRet, fAsg, fIfS, fB, asB, fOp, fUn, fCallB, fCall, fCons, fNil, fVar, fC, fTup, fIf, fNot, fOr, fAnd, fNotV, fAndV, fOrV, fPar, fPar3, fDrop, fNext, fRetN, gfName, lift1, ofS, oIx, seqOf, ixP_0, ixP_1, ixP_2, setP_0, setP_1, setP_2, oAdd_int, oSub_int, oMul_int, oDiv_int, oMod_int, oPow_int, oNeg_int, oAbs_int, oInt1_int, oInt1_bl, oLt_int, oLe_int, oGt_int, oGe_int, isi_int_int, isi_int_bool, fChain]
  by_cases h : a ≤ i <;> simp [h]
theorem is_exact_fr {t b : Int} (hb : 0 < b) (hs : b.natAbs < 2 ^ 1000) (hco : Nat.gcd t.natAbs b.natAbs = 1) (s : Sto) : F_is_exact C [frV (t, b)] s = .ok (.bl true) s := by
  have e1 := told_fraction_eq t b s hb hs
  rw [frI_id hco] at e1
  have e2 : oEq (frV (t, b)) (frV (t, b)) s = some (.bl true) := by rw [oEq_fr]; simp
  have e3 : oNe (.int 2) (.int 2) s = some (.bl false) := by rw [oNe_int]; simp
  have e4 : oLen [frV (t, b)] s = some (.int 2) := rfl
  unfold frV at e1 e2 e4 ⊢
  unfold F_is_exact
  rw [fDef_of (by rfl)]
  unfold B_is_exact
  simp at e1 e2 e4
  simp [fSeq, fRet, fAsg, fIfS, fB, asB, fOp, fUn, fCallB, fCall, fCons, fNil, fVar, fC, fTup, fIf, fNot, fOr, fAnd, fNotV, fAndV, fOrV, fPar, fPar3, fDrop, fNext, fRetN, gfName, lift1, ofS, oIx, seqOf, ixP_0, ixP_1, ixP_2, setP_0, setP_1, setP_2, oAdd_int, oSub_int, oMul_int, oDiv_int, oMod_int, oPow_int, oNeg_int, oAbs_int, oInt1_int, oInt1_bl, oLt_int, oLe_int, oGt_int, oGe_int, isi_int_int, isi_int_bool, isi_tup_tup, e4, e3, fLcT, fComp, compN, srcE, srcOf, wipeR, fYes, oAll, liveL, bolsP, hb, e1, e2]
/-- a fraction that is one of the program's -/
structure Frac (q : Int × Int) : Prop where
  pos : 0 < q.2
  co : Nat.gcd q.1.natAbs q.2.natAbs = 1
  lo : -1000000 ≤ q.1
  hi : q.1 ≤ 1000000
  hb : q.2 ≤ 1000000
theorem Frac.small {q : Int × Int} (h : Frac q) : q.2.natAbs < 2 ^ 1000 := by
  have h1 := h.hb
  have h2 := h.pos
  exact Nat.lt_trans (show q.2.natAbs < 2 ^ 20 by omega) (Nat.pow_lt_pow_right (by decide) (by decide))
theorem is_fraction_fr {q : Int × Int} (h : Frac q) (s : Sto) : F_is_fraction C [frV q] s = .ok (.bl true) s := by
  obtain ⟨t, b⟩ := q
  have e1 := is_exact_fr C h.pos h.small h.co s
  have e2 := is_int_int C t (-1000000) 1000000 s
  have h1 := h.lo
  have h2 := h.hi
  have h3 := h.hb
  simp only at h1 h2 h3
  rw [show decide (-1000000 ≤ t ∧ t ≤ 1000000) = true by simp [h1, h2]] at e2
  unfold frV at e1 ⊢
  simp at e1
  unfold F_is_fraction
  rw [fDef_of (by rfl)]
  unfold B_is_fraction
  simp [fSeq, fRet, fAsg, fIfS, fB, asB, fOp, fUn, fCallB, fCall, fCons, fNil, fVar, fC, fTup, fIf, fNot, fOr, fAnd, fNotV, fAndV, fOrV, fPar, fPar3, fDrop, fNext, fRetN, gfName, lift1, ofS, oIx, seqOf, ixP_0, ixP_1, ixP_2, setP_0, setP_1, setP_2, oAdd_int, oSub_int, oMul_int, oDiv_int, oMod_int, oPow_int, oNeg_int, oAbs_int, oInt1_int, oInt1_bl, oLt_int, oLe_int, oGt_int, oGe_int, e1, e2, h3]
theorem is_price_fr {q : Int × Int} (h : Frac q) (s : Sto) : F_is_price C [frV q] s = .ok (.bl (decide (0 ≤ q.1))) s := by
  obtain ⟨t, b⟩ := q
  have e1 := is_fraction_fr C h s
  unfold frV at e1 ⊢
  simp at e1
  unfold F_is_price
  rw [fDef_of (by rfl)]
  unfold B_is_price
  simp [fSeq, fRet, fAsg, fIfS, fB, asB, fOp, fUn, fCallB, fCall, fCons, fNil, fVar, fC, fTup, fIf, fNot, fOr, fAnd, fNotV, fAndV, fOrV, fPar, fPar3, fDrop, fNext, fRetN, gfName, lift1, ofS, oIx, seqOf, ixP_0, ixP_1, ixP_2, setP_0, setP_1, setP_2, oAdd_int, oSub_int, oMul_int, oDiv_int, oMod_int, oPow_int, oNeg_int, oAbs_int, oInt1_int, oInt1_bl, oLt_int, oLe_int, oGt_int, oGe_int, e1]
theorem is_above_fr {q : Int × Int} (h : Frac q) (s : Sto) : F_is_above C [frV q] s = .ok (.bl (decide (0 < q.1))) s := by
  obtain ⟨t, b⟩ := q
  have e1 := is_price_fr C h s
  unfold frV at e1 ⊢
  simp at e1
  unfold F_is_above
  rw [fDef_of (by rfl)]
  unfold B_is_above
  by_cases h0 : 0 ≤ t
  · simp [fSeq, fRet, fAsg, fIfS, fB, asB, fOp, fUn, fCallB, fCall, fCons, fNil, fVar, fC, fTup, fIf, fNot, fOr, fAnd, fNotV, fAndV, fOrV, fPar, fPar3, fDrop, fNext, fRetN, gfName, lift1, ofS, oIx, seqOf, ixP_0, ixP_1, ixP_2, setP_0, setP_1, setP_2, oAdd_int, oSub_int, oMul_int, oDiv_int, oMod_int, oPow_int, oNeg_int, oAbs_int, oInt1_int, oInt1_bl, oLt_int, oLe_int, oGt_int, oGe_int, e1, h0]
  · have h1 : ¬ 0 < t := by omega
    simp [fSeq, fRet, fAsg, fIfS, fB, asB, fOp, fUn, fCallB, fCall, fCons, fNil, fVar, fC, fTup, fIf, fNot, fOr, fAnd, fNotV, fAndV, fOrV, fPar, fPar3, fDrop, fNext, fRetN, gfName, lift1, ofS, oIx, seqOf, ixP_0, ixP_1, ixP_2, setP_0, setP_1, setP_2, oAdd_int, oSub_int, oMul_int, oDiv_int, oMod_int, oPow_int, oNeg_int, oAbs_int, oInt1_int, oInt1_bl, oLt_int, oLe_int, oGt_int, oGe_int, e1, h0, h1]
end
section
variable {p q : Int × Int} {s : Sto}
/-- numbers that stay far below the size that products need -/
structure Sm (q : Int × Int) : Prop where
  a : q.1.natAbs < 2 ^ 64
  b : q.2.natAbs < 2 ^ 64
theorem sm_mul {a b : Int} (ha : a.natAbs < 2 ^ 64) (hb : b.natAbs < 2 ^ 64) : (a * b).natAbs < 2 ^ 1000 := by
  rw [Int.natAbs_mul]
  exact Nat.lt_of_lt_of_le (Nat.mul_lt_mul'' ha hb) (by rw [← Nat.pow_add]; exact Nat.pow_le_pow_right (by decide) (by decide))
theorem plus_fr (hp : 0 < p.2) (hq : 0 < q.2) (sp : Sm p) (sq : Sm q) : F_plus [frV p, frV q] s = .ok (frV (frI (p.1 * q.2 + q.1 * p.2) (p.2 * q.2))) s := by
  have e1 := told_fraction_eq (p.1 * q.2 + q.1 * p.2) (p.2 * q.2) s (Int.mul_pos hp hq) (sm_mul sp.b sq.b)
  have m1 := mul_small_l p.1 q.2 sp.a
  have m2 := mul_small_l q.1 p.2 sq.a
  have m3 := mul_small_l p.2 q.2 sp.b
  unfold F_plus
  rw [fDef_of (by rfl)]
  unfold B_plus
  rw [← e1]
  simp only [frV]
  simp [fSeq, fRet, fAsg, fIfS, fB, asB, fOp, fUn, fCallB, fCall, fCons, fNil, fVar, fC, fTup, fIf, fNot, fOr, fAnd, fNotV, fAndV, fOrV, fPar, fPar3, fDrop, fNext, fRetN, gfName, lift1, ofS, oIx, seqOf, ixP_0, ixP_1, ixP_2, setP_0, setP_1, setP_2, oAdd_int, oSub_int, oMul_int, oDiv_int, oMod_int, oPow_int, oNeg_int, oAbs_int, oInt1_int, oInt1_bl, oLt_int, oLe_int, oGt_int, oGe_int, m1, m2, m3, e1]
theorem over_fr (hp : 0 < p.2) (hq : 0 < q.1) (sp : Sm p) (sq : Sm q) : F_over [frV p, frV q] s = .ok (frV (frI (p.1 * q.2) (p.2 * q.1))) s := by
  have e1 := told_fraction_eq (p.1 * q.2) (p.2 * q.1) s (Int.mul_pos hp hq) (sm_mul sp.b sq.a)
  have m1 := mul_small_l p.1 q.2 sp.a
  have m3 := mul_small_l p.2 q.1 sp.b
  unfold F_over
  rw [fDef_of (by rfl)]
  unfold B_over
  rw [← e1]
  simp only [frV]
  simp [fSeq, fRet, fAsg, fIfS, fB, asB, fOp, fUn, fCallB, fCall, fCons, fNil, fVar, fC, fTup, fIf, fNot, fOr, fAnd, fNotV, fAndV, fOrV, fPar, fPar3, fDrop, fNext, fRetN, gfName, lift1, ofS, oIx, seqOf, ixP_0, ixP_1, ixP_2, setP_0, setP_1, setP_2, oAdd_int, oSub_int, oMul_int, oDiv_int, oMod_int, oPow_int, oNeg_int, oAbs_int, oInt1_int, oInt1_bl, oLt_int, oLe_int, oGt_int, oGe_int, m1, m3, e1]
theorem lplus_fr (hp : 0 < p.2) (hq : 0 < q.2) (sp : Sm p) (sq : Sm q) : F__law_plus [frV p, frV q] s = .ok (frV (frI (p.1 * q.2 + q.1 * p.2) (p.2 * q.2))) s := by
  have e1 := law_frac_eq (p.1 * q.2 + q.1 * p.2) (p.2 * q.2) s (Int.mul_pos hp hq) (sm_mul sp.b sq.b)
  have m1 := mul_small_l p.1 q.2 sp.a
  have m2 := mul_small_l q.1 p.2 sq.a
  have m3 := mul_small_l p.2 q.2 sp.b
  unfold F__law_plus
  rw [fDef_of (by rfl)]
  unfold B__law_plus
  rw [← e1]
  simp only [frV]
  simp [fSeq, fRet, fAsg, fIfS, fB, asB, fOp, fUn, fCallB, fCall, fCons, fNil, fVar, fC, fTup, fIf, fNot, fOr, fAnd, fNotV, fAndV, fOrV, fPar, fPar3, fDrop, fNext, fRetN, gfName, lift1, ofS, oIx, seqOf, ixP_0, ixP_1, ixP_2, setP_0, setP_1, setP_2, oAdd_int, oSub_int, oMul_int, oDiv_int, oMod_int, oPow_int, oNeg_int, oAbs_int, oInt1_int, oInt1_bl, oLt_int, oLe_int, oGt_int, oGe_int, m1, m2, m3, e1]
theorem lover_fr (hp : 0 < p.2) (hq : 0 < q.1) (sp : Sm p) (sq : Sm q) : F__law_over [frV p, frV q] s = .ok (frV (frI (p.1 * q.2) (p.2 * q.1))) s := by
  have e1 := law_frac_eq (p.1 * q.2) (p.2 * q.1) s (Int.mul_pos hp hq) (sm_mul sp.b sq.a)
  have m1 := mul_small_l p.1 q.2 sp.a
  have m3 := mul_small_l p.2 q.1 sp.b
  unfold F__law_over
  rw [fDef_of (by rfl)]
  unfold B__law_over
  rw [← e1]
  simp only [frV]
  simp [fSeq, fRet, fAsg, fIfS, fB, asB, fOp, fUn, fCallB, fCall, fCons, fNil, fVar, fC, fTup, fIf, fNot, fOr, fAnd, fNotV, fAndV, fOrV, fPar, fPar3, fDrop, fNext, fRetN, gfName, lift1, ofS, oIx, seqOf, ixP_0, ixP_1, ixP_2, setP_0, setP_1, setP_2, oAdd_int, oSub_int, oMul_int, oDiv_int, oMod_int, oPow_int, oNeg_int, oAbs_int, oInt1_int, oInt1_bl, oLt_int, oLe_int, oGt_int, oGe_int, m1, m3, e1]
theorem less_fr (sp : Sm p) (sq : Sm q) : F_is_less [frV p, frV q] s = .ok (.bl (decide (p.1 * q.2 < q.1 * p.2))) s := by
  have m1 := mul_small_l p.1 q.2 sp.a
  have m2 := mul_small_l q.1 p.2 sq.a
  unfold F_is_less
  rw [fDef_of (by rfl)]
  unfold B_is_less frV
  simp [fSeq, fRet, fAsg, fIfS, fB, asB, fOp, fUn, fCallB, fCall, fCons, fNil, fVar, fC, fTup, fIf, fNot, fOr, fAnd, fNotV, fAndV, fOrV, fPar, fPar3, fDrop, fNext, fRetN, gfName, lift1, ofS, oIx, seqOf, ixP_0, ixP_1, ixP_2, setP_0, setP_1, setP_2, oAdd_int, oSub_int, oMul_int, oDiv_int, oMod_int, oPow_int, oNeg_int, oAbs_int, oInt1_int, oInt1_bl, oLt_int, oLe_int, oGt_int, oGe_int, m1, m2]
theorem lless_fr (sp : Sm p) (sq : Sm q) : F__law_is_less [frV p, frV q] s = .ok (.bl (decide (p.1 * q.2 < q.1 * p.2))) s := less_fr sp sq
theorem law_is_bool_bl (C : Nat → Nat → Option Bool) (a b : Bool) : F__law_is_bool C [.bl a, .bl b] s = .ok (.bl (a == b)) s := by
  have e1 : oIsi C [.bl a, .ty "bool"] s = some (.bl true) := rfl
  have e2 : oEq (.bl a) (.bl b) s = some (.bl (a == b)) := by cases a <;> cases b <;> rfl
  unfold F__law_is_bool
  rw [fDef_of (by rfl)]
  unfold B__law_is_bool
  simp [fSeq, fRet, fAsg, fIfS, fB, asB, fOp, fUn, fCallB, fCall, fCons, fNil, fVar, fC, fTup, fIf, fNot, fOr, fAnd, fNotV, fAndV, fOrV, fPar, fPar3, fDrop, fNext, fRetN, gfName, lift1, ofS, oIx, seqOf, ixP_0, ixP_1, ixP_2, setP_0, setP_1, setP_2, oAdd_int, oSub_int, oMul_int, oDiv_int, oMod_int, oPow_int, oNeg_int, oAbs_int, oInt1_int, oInt1_bl, oLt_int, oLe_int, oGt_int, oGe_int, e1, e2]
end
end Pv

/-! Pv25: loops by invariants. -/
namespace Pv
open PySem PySem.Spec PyProof.Rows L2

/-- a for that never breaks nor returns: N items, the i-th x i -/
theorem forN_inv {it : Nat → Sto → Option (Option PV)} {gt : GF} {fb : SF} {N : Nat} (x : Nat → PV) (Inv : Nat → Sl → Sto → Prop)
    (hit : ∀ i ρ s, Inv i ρ s → it i s = some (if i < N then some (x i) else none))
    (step : ∀ i ρ s, i < N → Inv i ρ s → ∃ ρ1 s1 ρ' s', gt (x i) ρ s = some (ρ1, s1) ∧ (fb ρ1 s1 = .nx ρ' s' ∨ fb ρ1 s1 = .ct ρ' s') ∧ Inv (i + 1) ρ' s') :
    ∀ (n i : Nat) (ρ : Sl) (s : Sto), N - i < n → i ≤ N → Inv i ρ s → ∃ ρ' s', forN it gt fb n i ρ s = .nx ρ' s' ∧ Inv N ρ' s'
  | 0, i, ρ, s, h, _, _ => absurd h (Nat.not_lt_zero _)
  | n + 1, i, ρ, s, h, hi, hI => by
    unfold forN
    rw [hit i ρ s hI]
    by_cases hN : i < N
    · rw [if_pos hN]
      obtain ⟨ρ1, s1, ρ', s', e1, e2, I'⟩ := step i ρ s hN hI
      obtain ⟨ρ2, s2, e3, I2⟩ := forN_inv x Inv hit step n (i + 1) ρ' s' (by omega) hN I'
      refine ⟨ρ2, s2, ?_, I2⟩
      simp only [e1]
      rcases e2 with e2 | e2
      · simp only [e2]; exact e3
      · simp only [e2]; exact e3
    · rw [if_neg hN]
      have : i = N := by omega
      subst this
      exact ⟨ρ, s, rfl, hI⟩
/-- .. of a tuple's or a fixed list's items -/
theorem forN_list {gt : GF} {fb : SF} (xs : List PV) (Inv : Nat → Sl → Sto → Prop) {ρ : Sl} {s : Sto} (h0 : Inv 0 ρ s)
    (step : ∀ i ρ s (hi : i < xs.length), Inv i ρ s → ∃ ρ1 s1 ρ' s', gt (xs[i]) ρ s = some (ρ1, s1) ∧ (fb ρ1 s1 = .nx ρ' s' ∨ fb ρ1 s1 = .ct ρ' s') ∧ Inv (i + 1) ρ' s') :
    ∃ ρ' s', forN (fun i _ => some xs[i]?) gt fb (xs.length + 1) 0 ρ s = .nx ρ' s' ∧ Inv xs.length ρ' s' := by
  refine forN_inv (N := xs.length) (fun i => xs.getD i .non) Inv (fun i ρ s _ => ?_) (fun i ρ s hi hI => ?_) _ 0 ρ s (by omega) (Nat.zero_le _) h0
  · by_cases hi : i < xs.length
    · rw [if_pos hi, List.getD_eq_getElem?_getD, List.getElem?_eq_getElem hi]; rfl
    · rw [if_neg hi, List.getElem?_eq_none (by omega)]
  · have := step i ρ s hi hI
    rw [List.getD_eq_getElem?_getD, List.getElem?_eq_getElem hi]
    exact this
/-- a for that may return: the items before have been passed -/
theorem forN_ret {it : Nat → Sto → Option (Option PV)} {gt : GF} {fb : SF} {N : Nat} (x : Nat → PV) (Inv : Nat → Sl → Sto → Prop) (R : SRes → Prop)
    (hit : ∀ i ρ s, Inv i ρ s → it i s = some (if i < N then some (x i) else none))
    (step : ∀ i ρ s, i < N → Inv i ρ s → ∃ ρ1 s1, gt (x i) ρ s = some (ρ1, s1) ∧ ((∃ ρ' s', (fb ρ1 s1 = .nx ρ' s' ∨ fb ρ1 s1 = .ct ρ' s') ∧ Inv (i + 1) ρ' s') ∨ (∃ p s', fb ρ1 s1 = .rt p s' ∧ R (.rt p s')) ∨ (∃ c p ρ' s', fb ρ1 s1 = .exc c p ρ' s' ∧ R (.exc c p ρ' s')))) :
    (∀ ρ s, Inv N ρ s → R (.nx ρ s)) → ∀ (n i : Nat) (ρ : Sl) (s : Sto), N - i < n → i ≤ N → Inv i ρ s → R (forN it gt fb n i ρ s)
  | hend, 0, i, ρ, s, h, _, _ => absurd h (Nat.not_lt_zero _)
  | hend, n + 1, i, ρ, s, h, hi, hI => by
    unfold forN
    rw [hit i ρ s hI]
    by_cases hN : i < N
    · rw [if_pos hN]
      obtain ⟨ρ1, s1, e1, h2⟩ := step i ρ s hN hI
      simp only [e1]
      rcases h2 with ⟨ρ', s', e2, I'⟩ | ⟨p, s', e2, r⟩ | ⟨c, p, ρ', s', e2, r⟩
      · have := forN_ret x Inv R hit step hend n (i + 1) ρ' s' (by omega) hN I'
        rcases e2 with e2 | e2
        · simp only [e2]; exact this
        · simp only [e2]; exact this
      · simp only [e2]; exact r
      · simp only [e2]; exact r
    · rw [if_neg hN]
      have : i = N := by omega
      subst this
      exact hend ρ s hI
/-- a comprehension's items, one after the other -/
theorem compN_inv {it : Nat → Sto → Option (Option PV)} {gt : GF} {ft : Sl → Sto → Res Bool} {fe : EF} {ρ0 : Sl} {N : Nat} (x : Nat → PV) (Inv : Nat → Sto → List PV → Prop) (hN : N < 10000000)
    (hit : ∀ i s acc, Inv i s acc → it i s = some (if i < N then some (x i) else none))
    (step : ∀ i s acc, i < N → Inv i s acc → ∃ ρ1 s1, gt (x i) ρ0 s = some (ρ1, s1) ∧ ((∃ s2 y s3, ft ρ1 s1 = .ok true s2 ∧ fe ρ1 s2 = .ok y s3 ∧ Inv (i + 1) s3 (acc ++ [y])) ∨ (∃ s2, ft ρ1 s1 = .ok false s2 ∧ Inv (i + 1) s2 acc))) :
    ∀ (n i : Nat) (s : Sto) (acc : List PV), N - i < n → i ≤ N → acc.length ≤ i → Inv i s acc → ∃ acc' s', compN it gt ft fe ρ0 n i s acc = .ok acc' s' ∧ Inv N s' acc'
  | 0, i, s, acc, h, _, _, _ => absurd h (Nat.not_lt_zero _)
  | n + 1, i, s, acc, h, hi, ha, hI => by
    unfold compN
    rw [hit i s acc hI]
    by_cases hi2 : i < N
    · rw [if_pos hi2]
      obtain ⟨ρ1, s1, e1, h2⟩ := step i s acc hi2 hI
      simp only [e1]
      rcases h2 with ⟨s2, y, s3, e2, e3, I'⟩ | ⟨s2, e2, I'⟩
      · simp only [e2, e3]
        rw [if_pos (by omega)]
        exact compN_inv x Inv hN hit step n (i + 1) s3 _ (by omega) hi2 (by simp; omega) I'
      · simp only [e2]
        exact compN_inv x Inv hN hit step n (i + 1) s2 acc (by omega) hi2 (by omega) I'
    · rw [if_neg hi2]
      have : i = N := by omega
      subst this
      exact ⟨acc, s, rfl, hI⟩
end Pv

/-! Pv26: repr of small data; stores that only grow. -/
namespace Pv
open PySem PySem.Spec PyProof.Rows L2

mutual
def okR (k : Nat) : PV → Bool
  | .non => true
  | .bl _ => true
  | .int i => decide (i.natAbs < 10 ^ k)
  | .str x => decide (x.cps.size ≤ 4 * k) && x.cps.toList.all fun c => decide (c < 16 ^ 8)
  | .tup xs => okRs k xs
  | .tmp xs => okRs k xs
  | .kl xs => okRs k xs
  | _ => false
def okRs (k : Nat) : List PV → Bool
  | [] => true
  | x :: xs => okR k x && okRs k xs
end
mutual
def szR : PV → Nat
  | .tup xs => szRs xs
  | .tmp xs => szRs xs
  | .kl xs => szRs xs
  | _ => 0
def szRs : List PV → Nat
  | [] => 0
  | x :: xs => szR x + 1 + szRs xs
end
mutual
def dpR : PV → Nat
  | .tup xs => dpRs xs + 1
  | .tmp xs => dpRs xs + 1
  | .kl xs => dpRs xs + 1
  | _ => 0
def dpRs : List PV → Nat
  | [] => 0
  | x :: xs => max (dpR x) (dpRs xs)
end
theorem pow_10_16 (k : Nat) : 10 ^ k ≤ 2 ^ (4 * k) := by
  rw [Nat.pow_mul]
  exact Nat.pow_le_pow_left (by decide) k
structure DOk (k n m : Nat) (d : PyData) : Prop where
  sh : d.showable = true
  nd : d.hasDict = false
  lv : d.leavesShort (k + 1) = true
  w : d.weight ≤ (4 * k + 2) * n + 4 * k + 1
  dp : d.depth ≤ m
structure DsOk (k n m : Nat) (ds : List PyData) : Prop where
  sh : PyData.showableAll ds = true
  nd : PyData.hasDictAll ds = false
  lv : PyData.leavesShortAll (k + 1) ds = true
  w : PyData.weightAll ds ≤ (4 * k + 2) * n
  dp : PyData.depthAll ds ≤ m
mutual
theorem okR_d {k : Nat} (h1 : 1 ≤ k) (h2 : k ≤ 480) : ∀ p, okR k p = true → ∃ d, toD p = some d ∧ DOk k (szR p) (dpR p) d
  | .non, _ => ⟨.none, by simp only [toD], by simp [PyData.showable], by simp [PyData.hasDict], by simp [PyData.leavesShort], by simp [PyData.weight], by simp [PyData.depth]⟩
  | .bl b, _ => ⟨.bool b, by simp only [toD], by simp [PyData.showable], by simp [PyData.hasDict], by simp [PyData.leavesShort], by simp [PyData.weight], by simp [PyData.depth]⟩
  | .int i, h => by
    have h' : i.natAbs < 10 ^ k := by simpa [okR] using h
    have h3 : i.natAbs < 2 ^ (4 * k) := Nat.lt_of_lt_of_le h' (pow_10_16 k)
    have h4 : i.natAbs.log2 < 4 * k := log2_lt h3 (by omega)
    have e := int_text_length_le10 (k := k) (by omega) h'
    refine ⟨.int i, by simp only [toD], ?_, by simp [PyData.hasDict], ?_, ?_, by simp [PyData.depth]⟩
    · simp only [PyData.showable, decide_eq_true_eq]; omega
    · simp only [PyData.leavesShort, decide_eq_true_eq]
      show (Str.ofString (toString i)).length ≤ k + 1
      rw [PySem.ofString_length]; exact e
    · simp only [PyData.weight, szR]
      split <;> omega
  | .str x, h => by
    have h' : x.cps.size ≤ 4 * k ∧ (x.cps.toList.all fun c => decide (c < 16 ^ 8)) = true := by simpa [okR] using h
    exact ⟨.str x, by simp only [toD], by simp [PyData.showable], by simp [PyData.hasDict], by simp only [PyData.leavesShort]; exact h'.2, by simp only [PyData.weight]; omega, by simp [PyData.depth]⟩
  | .tup xs, h => by
    obtain ⟨ds, e, D⟩ := okRs_d h1 h2 xs (by simpa only [okR] using h)
    exact ⟨.tuple ds, by simp only [toD, e, Option.map_some], by simp only [PyData.showable]; exact D.sh, by simp only [PyData.hasDict]; exact D.nd, by simp only [PyData.leavesShort]; exact D.lv, by simp only [PyData.weight, szR]; exact Nat.le_trans D.w (by omega), by simp only [PyData.depth, dpR]; have := D.dp; omega⟩
  | .tmp xs, h => by
    obtain ⟨ds, e, D⟩ := okRs_d h1 h2 xs (by simpa only [okR] using h)
    exact ⟨.list ds, by simp only [toD, e, Option.map_some], by simp only [PyData.showable]; exact D.sh, by simp only [PyData.hasDict]; exact D.nd, by simp only [PyData.leavesShort]; exact D.lv, by simp only [PyData.weight, szR]; exact Nat.le_trans D.w (by omega), by simp only [PyData.depth, dpR]; have := D.dp; omega⟩
  | .kl xs, h => by
    obtain ⟨ds, e, D⟩ := okRs_d h1 h2 xs (by simpa only [okR] using h)
    exact ⟨.list ds, by simp only [toD, e, Option.map_some], by simp only [PyData.showable]; exact D.sh, by simp only [PyData.hasDict]; exact D.nd, by simp only [PyData.leavesShort]; exact D.lv, by simp only [PyData.weight, szR]; exact Nat.le_trans D.w (by omega), by simp only [PyData.depth, dpR]; have := D.dp; omega⟩
  | .loc _, h => by simp [okR] at h
  | .ty _, h => by simp [okR] at h
  | .cls _, h => by simp [okR] at h
  | .exc _ _, h => by simp [okR] at h
  | .clo _ _, h => by simp [okR] at h
theorem okRs_d {k : Nat} (h1 : 1 ≤ k) (h2 : k ≤ 480) : ∀ xs, okRs k xs = true → ∃ ds, toDs xs = some ds ∧ DsOk k (szRs xs) (dpRs xs) ds
  | [], _ => ⟨[], by simp only [toDs], by simp [PyData.showableAll], by simp [PyData.hasDictAll], by simp [PyData.leavesShortAll], by simp [PyData.weightAll], by simp [PyData.depthAll]⟩
  | x :: xs, h => by
    have h' : okR k x = true ∧ okRs k xs = true := by simpa [okRs] using h
    obtain ⟨d, e, D⟩ := okR_d h1 h2 x h'.1
    obtain ⟨ds, e2, D2⟩ := okRs_d h1 h2 xs h'.2
    refine ⟨d :: ds, by simp only [toDs, e, e2], ?_, ?_, ?_, ?_, ?_⟩
    · simp only [PyData.showableAll, D.sh, D2.sh, Bool.and_self]
    · simp only [PyData.hasDictAll, D.nd, D2.nd, Bool.or_self]
    · simp only [PyData.leavesShortAll, D.lv, D2.lv, Bool.and_self]
    · simp only [PyData.weightAll, szRs]
      have a := D.w
      have b := D2.w
      have c : (4 * k + 2) * (szR x + 1 + szRs xs) = (4 * k + 2) * szR x + (4 * k + 2) + (4 * k + 2) * szRs xs := by rw [Nat.mul_add, Nat.mul_add, Nat.mul_one]
      omega
    · simp only [PyData.depthAll, dpRs]
      have a := D.dp
      have b := D2.dp
      omega
end
theorem okRs_of {k : Nat} : ∀ {xs : List PV}, (∀ x ∈ xs, okR k x = true) → okRs k xs = true
  | [], _ => rfl
  | x :: xs, h => by
    simp only [okRs, h x List.mem_cons_self, okRs_of fun y hy => h y (List.mem_cons_of_mem _ hy), Bool.and_self]
theorem szRs_le {c : Nat} : ∀ {xs : List PV}, (∀ x ∈ xs, szR x ≤ c) → szRs xs ≤ (c + 1) * xs.length
  | [], _ => by simp [szRs]
  | x :: xs, h => by
    have a := h x List.mem_cons_self
    have b := szRs_le fun y hy => h y (List.mem_cons_of_mem _ hy)
    simp only [szRs, List.length_cons, Nat.mul_add]
    omega
theorem dpRs_le {c : Nat} : ∀ {xs : List PV}, (∀ x ∈ xs, dpR x ≤ c) → dpRs xs ≤ c
  | [], _ => by simp [dpRs]
  | x :: xs, h => by
    have a := h x List.mem_cons_self
    have b := dpRs_le fun y hy => h y (List.mem_cons_of_mem _ hy)
    simp only [dpRs]
    omega
theorem rd_ok {k : Nat} {p : PV} (h : okR k p = true) (s : Sto) : rd s p = p := by
  cases p <;> first | rfl | simp [okR] at h
/-- repr of what is small: at most 1000 things, its ints below 10 ** 60 -/
theorem repr_ok {p : PV} (h : okR 60 p = true) (hs : szR p ≤ 600) (hd : dpR p ≤ 64) (s : Sto) : oRepr [p] s = some (.str (encP p).shown) := by
  obtain ⟨d, e, D⟩ := okR_d (by decide) (by decide) p h
  have hl := PyData.shown_le 61 (by decide) d D.lv
  have hw := D.w
  have hdp := D.dp
  have ok : reprOk d = true := by
    unfold reprOk
    rw [D.sh, D.nd]
    have h1 : d.depth ≤ 64 := by omega
    have h2 : d.shown.length ≤ 10000000 := by omega
    simp [h1, h2]
  simp only [oRepr, rd_ok h, e, ok, if_true, encP, Option.getD_some]
theorem oNe_str (a b : Str) (s : Sto) : oNe (.str a) (.str b) s = some (.bl (!(a == b))) := rfl
theorem oEq_str (a b : Str) (s : Sto) : oEq (.str a) (.str b) s = some (.bl (a == b)) := rfl

/-- new objects alone -/
def Grow (s s' : Sto) : Prop := ∃ os, s' = { s with objs := s.objs ++ os }
theorem Grow.refl (s : Sto) : Grow s s := ⟨[], by simp⟩
theorem Grow.trans {a b c : Sto} (h : Grow a b) (k : Grow b c) : Grow a c := by
  obtain ⟨x, rfl⟩ := h
  obtain ⟨y, rfl⟩ := k
  exact ⟨x ++ y, by simp [List.append_assoc]⟩
theorem Grow.alloc (s : Sto) (o : PObj) : Grow s (s.alloc o) := ⟨[o], rfl⟩
theorem Grow.at {s s' : Sto} (h : Grow s s') {l : Nat} {o : PObj} (e : s.objs[l]? = some o) : s'.objs[l]? = some o := by
  obtain ⟨x, rfl⟩ := h
  show (s.objs ++ x)[l]? = some o
  rw [List.getElem?_append_left (List.getElem?_eq_some_iff.mp e).1]
  exact e
theorem Grow.nf {s s' : Sto} (h : Grow s s') : s'.nf = s.nf := by obtain ⟨x, rfl⟩ := h; rfl
theorem Grow.susp {s s' : Sto} (h : Grow s s') : s'.susp = s.susp := by obtain ⟨x, rfl⟩ := h; rfl
theorem Grow.pot {s s' : Sto} (h : Grow s s') {l n : Nat} (P : Pot s l n) : Pot s' l n := by
  obtain ⟨a, b, c, P⟩ := P
  exact ⟨a, b, c, h.at P.at_, P.a0, P.a1, P.b0, P.b1, P.c0, P.c1⟩
theorem frV_okR {q : Int × Int} (h1 : q.1.natAbs < 10 ^ 60) (h2 : q.2.natAbs < 10 ^ 60) : okR 60 (frV q) = true := by
  simp [frV, okR, okRs, h1, h2]
theorem frV_szR (q : Int × Int) : szR (frV q) = 2 := rfl
theorem frV_dpR (q : Int × Int) : dpR (frV q) = 1 := rfl
theorem rg_ok {a b : Int} (ha : -1000000 ≤ a) (ha2 : a < 1000000) (hb : -1000000 ≤ b) (hb2 : b < 1000000) : (-(2 ^ 62) ≤ a ∧ a < 2 ^ 62 ∧ -(2 ^ 62) ≤ b ∧ b < 2 ^ 62) := by
  have h : (1000000 : Int) ≤ 2 ^ 62 := by decide
  have h2 : -(2 ^ 62) ≤ (-1000000 : Int) := by decide
  exact ⟨Int.le_trans h2 ha, Int.lt_of_lt_of_le ha2 h, Int.le_trans h2 hb, Int.lt_of_lt_of_le hb2 h⟩
theorem srcR1_eq {fs : Sl → Sto → Res (List PV)} {ρ : Sl} {s s1 : Sto} {b : Int} (h : fs ρ s = .ok [.int b] s1) (hb : -1000000 ≤ b) (hb2 : b < 1000000) :
    srcR1 fs ρ s = .ok ⟨b.toNat, fun i _ => some (if i < b.toNat then some (.int i) else none)⟩ s1 := by
  have k := rg_ok hb hb2 hb hb2
  unfold srcR1
  rw [h]
  show (if -(2 ^ 62) ≤ b ∧ b < 2 ^ 62 then _ else _) = _
  rw [if_pos ⟨k.1, k.2.1⟩]
theorem srcR2_eq {fs : Sl → Sto → Res (List PV)} {ρ : Sl} {s s1 : Sto} {a b : Int} (h : fs ρ s = .ok [.int a, .int b] s1) (ha : -1000000 ≤ a) (ha2 : a < 1000000) (hb : -1000000 ≤ b) (hb2 : b < 1000000) :
    srcR2 fs ρ s = .ok ⟨(b - a).toNat, fun i _ => some (if i < (b - a).toNat then some (.int (a + i)) else none)⟩ s1 := by
  have k := rg_ok ha ha2 hb hb2
  unfold srcR2
  rw [h]
  show (if -(2 ^ 62) ≤ a ∧ a < 2 ^ 62 ∧ -(2 ^ 62) ≤ b ∧ b < 2 ^ 62 then _ else _) = _
  rw [if_pos k]

/-! one statement at a time, without looking into sources -/
theorem fAsg_ok {fe : EF} {gf : GF} {ρ ρ' : Sl} {s s1 s' : Sto} {p : PV} (h : fe ρ s = .ok p s1) (k : gf p ρ s1 = some (ρ', s')) : fAsg fe gf ρ s = .nx ρ' s' := by
  unfold fAsg
  rw [h]
  show (match gf p ρ s1 with | some (ρ1, s2) => SRes.nx ρ1 s2 | none => .stk) = _
  rw [k]
theorem fAsgN_ok {fe : EF} {i : Nat} {ρ : Sl} {s s1 : Sto} {p : PV} (h : fe ρ s = .ok p s1) : fAsg fe (gfName i) ρ s = .nx (ρ.set i (some p)) s1 := fAsg_ok h rfl
theorem fLcT_ok {vs : List Nat} {src : Sl → Sto → Res Src} {gt : GF} {ft : Sl → Sto → Res Bool} {fe : EF} {ρ ρ0 : Sl} {s s1 s2 : Sto} {J : Src} {acc : List PV} (h : src ρ s = .ok J s1) (hw : wipeR ρ vs = ρ0) (k : compN J.it gt ft fe ρ0 (J.n + 1) 0 s1 [] = .ok acc s2) : fLcT vs src gt ft fe ρ s = .ok (.tmp acc) s2 := by
  subst hw
  unfold fLcT fComp
  rw [h]
  show ((compN J.it gt ft fe (wipeR ρ vs) (J.n + 1) 0 s1 []).bind fun acc s1 => Res.ok (PV.tmp acc) s1) = _
  rw [k]
  rfl
theorem fFor_ok {src : Sl → Sto → Res Src} {gt : GF} {fb : SF} {ρ : Sl} {s s1 : Sto} {J : Src} {r : SRes} (h : src ρ s = .ok J s1) (k : forN J.it gt fb (J.n + 1) 0 ρ s1 = r) : fFor src gt fb ρ s = r := by
  unfold fFor
  rw [h]
  exact k
theorem fSeq_nx {a b : SF} {ρ ρ1 : Sl} {s s1 : Sto} {r : SRes} (h : a ρ s = .nx ρ1 s1) (k : b ρ1 s1 = r) : fSeq a b ρ s = r := by
  unfold fSeq
  rw [h]
  exact k
theorem fSeq_rt {a b : SF} {ρ : Sl} {s s1 : Sto} {p : PV} (h : a ρ s = .rt p s1) : fSeq a b ρ s = .rt p s1 := by
  unfold fSeq
  rw [h]
theorem fSeq_exc {a b : SF} {ρ ρ1 : Sl} {s s1 : Sto} {c : Nat} {p : PV} (h : a ρ s = .exc c p ρ1 s1) : fSeq a b ρ s = .exc c p ρ1 s1 := by
  unfold fSeq
  rw [h]
theorem fIfS_t {ft : Sl → Sto → Res Bool} {a b : SF} {ρ : Sl} {s s1 : Sto} {r : SRes} (h : ft ρ s = .ok true s1) (k : a ρ s1 = r) : fIfS ft a b ρ s = r := by
  unfold fIfS
  rw [h]
  exact k
theorem fIfS_f {ft : Sl → Sto → Res Bool} {a b : SF} {ρ : Sl} {s s1 : Sto} {r : SRes} (h : ft ρ s = .ok false s1) (k : b ρ s1 = r) : fIfS ft a b ρ s = r := by
  unfold fIfS
  rw [h]
  exact k
theorem fRet_ok {fe : EF} {ρ : Sl} {s s1 : Sto} {p : PV} (h : fe ρ s = .ok p s1) : fRet fe ρ s = .rt p s1 := by
  unfold fRet
  rw [h]
  rfl
theorem fCall_ok {n : Nat} {F : List PV → Sto → Res PV} {fs : Sl → Sto → Res (List PV)} {ρ : Sl} {s s1 : Sto} {xs : List PV} {r : Res PV} (h : fs ρ s = .ok xs s1) (hn : xs.length = n) (k : F xs s1 = r) : fCall n F fs ρ s = r := by
  unfold fCall
  rw [h]
  show (if xs.length = n then F xs s1 else .stk) = r
  rw [if_pos hn, k]
theorem fCons_ok {fe : EF} {fs : Sl → Sto → Res (List PV)} {ρ : Sl} {s s1 s2 : Sto} {p : PV} {ps : List PV} (h : fe ρ s = .ok p s1) (k : fs ρ s1 = .ok ps s2) : fCons fe fs ρ s = .ok (p :: ps) s2 := by
  unfold fCons
  rw [h]
  show ((fs ρ s1).bind fun ps s2 => .ok (p :: ps) s2) = _
  rw [k]
  rfl
theorem fCallB_ok {o : List PV → Sto → Option PV} {fs : Sl → Sto → Res (List PV)} {ρ : Sl} {s s1 : Sto} {xs : List PV} {p : PV} (h : fs ρ s = .ok xs s1) (k : o xs s1 = some p) : fCallB o fs ρ s = .ok p s1 := by
  unfold fCallB
  rw [h]
  show lift1 (o xs s1) s1 = _
  rw [k]
  rfl
theorem fOp_ok {o : PV → PV → Sto → Option PV} {fa fb : EF} {ρ : Sl} {s s1 s2 : Sto} {p q r : PV} (h : fa ρ s = .ok p s1) (k : fb ρ s1 = .ok q s2) (z : o p q s2 = some r) : fOp o fa fb ρ s = .ok r s2 := by
  unfold fOp
  rw [h]
  show ((fb ρ s1).bind fun q s2 => lift1 (o p q s2) s2) = _
  rw [k]
  show lift1 (o p q s2) s2 = _
  rw [z]
  rfl
theorem fB_ok {f : EF} {ρ : Sl} {s s1 : Sto} {b : Bool} (h : f ρ s = .ok (.bl b) s1) : fB f ρ s = .ok b s1 := by
  unfold fB
  rw [h]
  rfl
theorem fNot_ok {f : Sl → Sto → Res Bool} {ρ : Sl} {s s1 : Sto} {b : Bool} (h : f ρ s = .ok b s1) : fNot f ρ s = .ok (!b) s1 := by
  unfold fNot
  rw [h]
  rfl
theorem fVar_ok {i : Nat} {ρ : Sl} {s : Sto} {p : PV} (h : ρ[i]? = some (some p)) : fVar i ρ s = .ok p s := by
  unfold fVar
  rw [h]
theorem fDef_ok {n m : Nat} {body : SF} {xs : List PV} {s s' : Sto} {p : PV} {ρ : Sl} (h : xs.length = n) (e : xs.map some ++ List.replicate (m - n) none = ρ) (k : body ρ s = .rt p s') : fDef n m body xs s = .ok p s' := by
  rw [fDef_of h, e, k]
  rfl

theorem toDs_ints : ∀ ns : List Int, toDs (ns.map PV.int) = some (ns.map PyData.int)
  | [] => rfl
  | n :: r => by simp only [List.map_cons, toDs, toD, toDs_ints r]
theorem canLay_ints : ∀ ns : List Int, PyData.canLayAll0 (ns.map PyData.int) = true
  | [] => rfl
  | n :: r => by simp [PyData.canLayAll0, PyData.canLay0, canLay_ints r]
theorem depth_ints : ∀ ns : List Int, PyData.depthAll (ns.map PyData.int) = 0
  | [] => rfl
  | n :: r => by simp [PyData.depthAll, PyData.depth, depth_ints r]
theorem oIn_ints (j : Int) (ns : List Int) (s : Sto) : oIn (.int j) (.tmp (ns.map PV.int)) s = some (.bl (decide (j ∈ ns))) := by
  have h1 : SeqAt.shaped (.int j) = true := by simp [SeqAt.shaped, PyData.canLay0, PyData.depth]
  have h2 : SeqAt.shaped (.list (ns.map PyData.int)) = true := by simp [SeqAt.shaped, PyData.canLay0, PyData.depth, canLay_ints, depth_ints]
  have h3 : ((ns.map PyData.int).any fun z => PyData.eqv z (.int j)) = decide (j ∈ ns) := by
    rw [Bool.eq_iff_iff]
    simp only [List.any_eq_true, List.mem_map, decide_eq_true_eq]
    constructor
    · rintro ⟨z, ⟨n, hn, rfl⟩, h⟩
      have : n = j := by simpa [PyData.eqv] using h
      rwa [← this]
    · intro h
      exact ⟨_, ⟨j, h, rfl⟩, by simp [PyData.eqv]⟩
  have e1 : toD (rd s (.int j)) = some (.int j) := by simp only [rd, toD]
  have e2 : (toD (rd s (.tmp (ns.map PV.int)))).bind listD = some (ns.map PyData.int) := by simp only [rd, toD, toDs_ints, Option.map_some, Option.bind_some, listD]
  unfold oIn
  rw [e1, e2]
  show (if (SeqAt.shaped (.int j) && SeqAt.shaped (.list (ns.map PyData.int))) = true then _ else _) = _
  rw [h1, h2, h3]
  rfl
theorem cut_lo (xs : List PV) (k : Nat) : cutP xs (some (k : Int)) none = xs.drop k := by
  unfold cutP
  rw [HT.sIx_nat, HT.sIx_none]
  by_cases hk : k ≤ xs.length
  · rw [Nat.min_eq_left hk]
    exact List.take_of_length_le (by rw [List.length_drop]; exact Nat.le_refl _)
  · rw [Nat.min_eq_right (by omega), Nat.sub_self, List.take_zero, List.drop_eq_nil_of_le (by omega)]
theorem cut_hi (xs : List PV) (k : Nat) : cutP xs none (some (k : Int)) = xs.take k := by
  unfold cutP
  rw [HT.sIx_nat, HT.sIx_none, List.drop_zero, Nat.sub_zero]
  by_cases hk : k ≤ xs.length
  · rw [Nat.min_eq_left hk]
  · rw [Nat.min_eq_right (by omega), List.take_of_length_le (Nat.le_refl _), List.take_of_length_le (by omega)]
theorem bolsP_map : ∀ bs : List Bool, bolsP (bs.map PV.bl) = some bs
  | [] => rfl
  | n :: r => by simp [bolsP, bolsP_map r]
theorem oAny_bls (bs : List Bool) (s : Sto) : oAny [.tmp (bs.map PV.bl)] s = some (.bl (bs.any id)) := by
  simp [oAny, liveL, bolsP_map]
theorem oAll_bls (bs : List Bool) (s : Sto) : oAll [.tmp (bs.map PV.bl)] s = some (.bl (bs.all id)) := by
  simp [oAll, liveL, bolsP_map]
theorem oMaxL_ints (i : Int) (ns : List Int) (s : Sto) : oMaxL [.tmp ((i :: ns).map PV.int)] s = some (.int (maxI i ns)) := by
  have := intsP_map (i :: ns)
  simp only [List.map_cons] at this
  simp only [oMaxL, liveL, List.map_cons, Option.bind_some, this]

theorem fTup_ok {fs : Sl → Sto → Res (List PV)} {ρ : Sl} {s s1 : Sto} {xs : List PV} (h : fs ρ s = .ok xs s1) (hx : xs.length ≤ 10000000) : fTup fs ρ s = .ok (.tup xs) s1 := by
  unfold fTup
  rw [h]
  show (if xs.length ≤ 10000000 then Res.ok (PV.tup xs) s1 else .stk) = _
  rw [if_pos hx]
theorem fLstT_ok {fs : Sl → Sto → Res (List PV)} {ρ : Sl} {s s1 : Sto} {xs : List PV} (h : fs ρ s = .ok xs s1) (hx : xs.length ≤ 10000000) : fLstT fs ρ s = .ok (.tmp xs) s1 := by
  unfold fLstT
  rw [h]
  show (if xs.length ≤ 10000000 then Res.ok (PV.tmp xs) s1 else .stk) = _
  rw [if_pos hx]
theorem fLst_ok {fs : Sl → Sto → Res (List PV)} {ρ : Sl} {s s1 : Sto} {xs : List PV} (h : fs ρ s = .ok xs s1) (hx : xs.length ≤ 10000000) : fLst fs ρ s = .ok (.loc s1.objs.length) (s1.alloc (.lst xs)) := by
  unfold fLst
  rw [h]
  show (if xs.length ≤ 10000000 then Res.ok (PV.loc s1.objs.length) (s1.alloc (.lst xs)) else .stk) = _
  rw [if_pos hx]
theorem fDrop_ok {fe : EF} {ρ : Sl} {s s1 : Sto} {p : PV} (h : fe ρ s = .ok p s1) : fDrop fe ρ s = .nx ρ s1 := by
  unfold fDrop
  rw [h]
  rfl
theorem fAppend_ok {fo fe : EF} {ρ : Sl} {s s1 s2 : Sto} {L : Nat} {xs : List PV} {q : PV} (h : fo ρ s = .ok (.loc L) s1) (k : fe ρ s1 = .ok q s2) (hl : s2.objs[L]? = some (.lst xs)) (hx : xs.length < 10000000) : fAppend fo fe ρ s = .ok .non (s2.set L (.lst (xs ++ [q]))) := by
  unfold fAppend
  rw [h]
  show ((fe ρ s1).bind fun q s2 => match wrL (.loc L) (pushP q) s2 with | some s3 => Res.ok PV.non s3 | none => .stk) = _
  rw [k]
  show (match wrL (.loc L) (pushP q) s2 with | some s3 => Res.ok PV.non s3 | none => .stk) = _
  have e : wrL (.loc L) (pushP q) s2 = some (s2.set L (.lst (xs ++ [q]))) := by
    simp only [wrL, hl, pushP, if_pos hx, Option.map_some]
  rw [e]
theorem fIf_t {ft : Sl → Sto → Res Bool} {a b : EF} {ρ : Sl} {s s1 : Sto} {r : Res PV} (h : ft ρ s = .ok true s1) (k : a ρ s1 = r) : fIf ft a b ρ s = r := by
  unfold fIf
  rw [h]
  exact k
theorem fIf_f {ft : Sl → Sto → Res Bool} {a b : EF} {ρ : Sl} {s s1 : Sto} {r : Res PV} (h : ft ρ s = .ok false s1) (k : b ρ s1 = r) : fIf ft a b ρ s = r := by
  unfold fIf
  rw [h]
  exact k
theorem fOr_t {a b : Sl → Sto → Res Bool} {ρ : Sl} {s s1 : Sto} (h : a ρ s = .ok true s1) : fOr a b ρ s = .ok true s1 := by
  unfold fOr
  rw [h]
  rfl
theorem fOr_f {a b : Sl → Sto → Res Bool} {ρ : Sl} {s s1 : Sto} {r : Res Bool} (h : a ρ s = .ok false s1) (k : b ρ s1 = r) : fOr a b ρ s = r := by
  unfold fOr
  rw [h]
  exact k
theorem srcE_tup {fe : EF} {ρ : Sl} {s s1 : Sto} {xs : List PV} (h : fe ρ s = .ok (.tup xs) s1) : srcE fe ρ s = .ok ⟨xs.length, fun i _ => some xs[i]?⟩ s1 := by
  unfold srcE
  rw [h]
  rfl
theorem srcE_tmp {fe : EF} {ρ : Sl} {s s1 : Sto} {xs : List PV} (h : fe ρ s = .ok (.tmp xs) s1) : srcE fe ρ s = .ok ⟨xs.length, fun i _ => some xs[i]?⟩ s1 := by
  unfold srcE
  rw [h]
  rfl
theorem fSlL_ok {fe fl : EF} {ρ : Sl} {s s1 s2 : Sto} {p q : PV} {i : Int} (h : fe ρ s = .ok p s1) (k : fl ρ s1 = .ok (.int i) s2) (e : oSl p (some i) none s2 = some q) : fSlL fe fl ρ s = .ok q s2 := by
  unfold fSlL
  rw [h]
  show ((fl ρ s1).bind fun l s2 => match l with | .int i => lift1 (oSl p (some i) none s2) s2 | _ => .stk) = _
  rw [k]
  show lift1 (oSl p (some i) none s2) s2 = _
  rw [e]
  rfl
theorem fSlH_ok {fe fl : EF} {ρ : Sl} {s s1 s2 : Sto} {p q : PV} {i : Int} (h : fe ρ s = .ok p s1) (k : fl ρ s1 = .ok (.int i) s2) (e : oSl p none (some i) s2 = some q) : fSlH fe fl ρ s = .ok q s2 := by
  unfold fSlH
  rw [h]
  show ((fl ρ s1).bind fun l s2 => match l with | .int i => lift1 (oSl p none (some i) s2) s2 | _ => .stk) = _
  rw [k]
  show lift1 (oSl p none (some i) s2) s2 = _
  rw [e]
  rfl
/-- the frame's numbers stay, no object goes -/
structure Keep (s s' : Sto) : Prop where
  nf : s'.nf = s.nf
  susp : s'.susp = s.susp
  len : s.objs.length ≤ s'.objs.length
theorem Keep.refl (s : Sto) : Keep s s := ⟨rfl, rfl, Nat.le_refl _⟩
theorem Keep.trans {a b c : Sto} (h : Keep a b) (k : Keep b c) : Keep a c := ⟨k.nf.trans h.nf, k.susp.trans h.susp, Nat.le_trans h.len k.len⟩
theorem Grow.keep {s s' : Sto} (h : Grow s s') : Keep s s' := by
  obtain ⟨x, rfl⟩ := h
  exact ⟨rfl, rfl, by show s.objs.length ≤ (s.objs ++ x).length; simp⟩
theorem Keep.set (s : Sto) (l : Nat) (o : PObj) : Keep s (s.set l o) := ⟨rfl, rfl, by show s.objs.length ≤ (s.objs.set l o).length; simp⟩
theorem PotFrm.keep {l : Nat} {s s' : Sto} (h : PotFrm l s s') : Keep s s' := by
  obtain ⟨xs, rfl⟩ := h
  exact Keep.set _ _ _
theorem PotFrm.at {l L : Nat} {s s' : Sto} (h : PotFrm l s s') (n : l ≠ L) : s'.objs[L]? = s.objs[L]? := by
  obtain ⟨xs, rfl⟩ := h
  exact List.getElem?_set_ne n
theorem Pot.set {s : Sto} {l n L : Nat} (h : Pot s l n) (k : L ≠ l) (o : PObj) : Pot (s.set L o) l n := by
  obtain ⟨a, b, c, P⟩ := h
  refine ⟨a, b, c, ?_, P.a0, P.a1, P.b0, P.b1, P.c0, P.c1⟩
  show (s.objs.set L o)[l]? = _
  rw [List.getElem?_set_ne k]
  exact P.at_
theorem Pot.lt {s : Sto} {l n : Nat} (h : Pot s l n) : l < s.objs.length := by
  obtain ⟨a, b, c, P⟩ := h
  exact (List.getElem?_eq_some_iff.mp P.at_).1
end Pv

/-! Pv27: the law files' _law_heard and _law_are_refused; casts of values that are none. -/
namespace Pv
open PySem PySem.Spec PyProof.Rows L2

theorem fNil_ok {ρ : Sl} {s : Sto} : fNil ρ s = .ok [] s := rfl
theorem fC_ok {p : PV} {ρ : Sl} {s : Sto} : fC p ρ s = .ok p s := rfl
theorem susp0_self (s : Sto) : s.susp0 s.susp = s := rfl
theorem susp0_2 (s : Sto) (l m : List (Nat × List (Str × PV))) : (s.susp0 l).susp0 m = s.susp0 m := rfl
/-- what grew while the cells were set aside has grown -/
theorem grow_susp {s s' : Sto} {l m : List (Nat × List (Str × PV))} (h : Grow (s.susp0 l) s') : Grow (s.susp0 m) (s'.susp0 m) := by
  obtain ⟨os, rfl⟩ := h
  exact ⟨os, rfl⟩
theorem grow_susp0 {s s' : Sto} {l : List (Nat × List (Str × PV))} (h : Grow (s.susp0 l) s') : Grow s (s'.susp0 s.susp) := by
  obtain ⟨os, rfl⟩ := h
  exact ⟨os, rfl⟩
def B_heard (C : Nat → Nat → Option Bool) (T : Nat → Option LamF) : SF := fSeq (fAsg (fTup (fCons (fC (.non)) (fCons (fC (.non)) fNil))) (gfTup 2 (gfCons (gfName 1) (gfCons (gfName 2) gfNil)))) (fSeq (fTryK 3 1 (fun c => C c 0) (fAsg (fCallV T 0 0 fNil) (gfName 2))) (fRet (fTup (fCons (fVar 1) (fCons (fVar 2) fNil)))))
def F_heard (C : Nat → Nat → Option Bool) (T : Nat → Option LamF) : List PV → Sto → Res PV := fDef 1 4 (B_heard C T)
section
variable {C : Nat → Nat → Option Bool} {T T1 : Nat → Option LamF} {L L1 : LamF} {okC : Nat → Bool} {k k1 fid c : Nat} {kv : List (Str × PV)} {x : PV} {s s' : Sto}
/-- a call that raises an error of the package -/
theorem heard_exc (hT : T k = some L) (hk : s.susp.lookup fid = some kv) (hL : L kv [] (s.susp0 []) = .exc c x s') (hc : C c 0 = some true) : F_heard C T [.clo k fid] s = .ok (.tup [.exc c x, .non]) (s'.susp0 s.susp) := by
  have e1 : fCallV T 0 0 fNil [some (.clo k fid), some .non, some .non, none] s = .exc c x (s'.susp0 s.susp) := by
    simp only [fCallV, List.getElem?_cons_zero, fNil, Res.bind_ok, List.length_nil, if_true, callClo, hT, hk, hL, Res.susp0]
  refine fDef_ok (ρ := [some (.clo k fid), none, none, none]) rfl rfl ?_
  unfold B_heard
  refine fSeq_nx (ρ1 := [some (.clo k fid), some .non, some .non, none]) (s1 := s) rfl (fSeq_nx (ρ1 := [some (.clo k fid), some (.exc c x), some .non, none]) (s1 := s'.susp0 s.susp) ?_ rfl)
  unfold fTryK fAsg
  rw [e1]
  simp only [ofE, hc]
  rfl
/-- a call that comes back -/
theorem heard_ok {p : PV} (hT : T k = some L) (hk : s.susp.lookup fid = some kv) (hL : L kv [] (s.susp0 []) = .ok p s') : F_heard C T [.clo k fid] s = .ok (.tup [.non, p]) (s'.susp0 s.susp) := by
  have e1 : fCallV T 0 0 fNil [some (.clo k fid), some .non, some .non, none] s = .ok p (s'.susp0 s.susp) := by
    simp only [fCallV, List.getElem?_cons_zero, fNil, Res.bind_ok, List.length_nil, if_true, callClo, hT, hk, hL, Res.susp0]
  refine fDef_ok (ρ := [some (.clo k fid), none, none, none]) rfl rfl ?_
  unfold B_heard
  refine fSeq_nx (ρ1 := [some (.clo k fid), some .non, some .non, none]) (s1 := s) rfl (fSeq_nx (ρ1 := [some (.clo k fid), some .non, some p, none]) (s1 := s'.susp0 s.susp) ?_ rfl)
  unfold fTryK fAsg
  rw [e1]
  rfl
theorem srcOf_live {q : PV} {xs : List PV} (h : liveL q s = some xs) : ∃ it, srcOf q s = .ok ⟨xs.length, it⟩ s ∧ ∀ i s', liveL q s' = some xs → it i s' = some xs[i]? := by
  cases q with
  | tmp ys => simp only [liveL, Option.some.injEq] at h; subst h; exact ⟨_, rfl, fun _ _ _ => rfl⟩
  | kl ys => simp only [liveL, Option.some.injEq] at h; subst h; exact ⟨_, rfl, fun _ _ _ => rfl⟩
  | loc l =>
    refine ⟨fun i s1 => (liveL (.loc l) s1).map fun xs => xs[i]?, ?_, fun i s' e => by show Option.map _ (liveL (.loc l) s') = _; rw [e]; rfl⟩
    show Res.ok (⟨lenL (.loc l) s, _⟩ : Src) s = _
    unfold lenL
    rw [h]
  | _ => simp [liveL] at h
def B_ref_1 (C : Nat → Nat → Option Bool) (T : Nat → Option LamF) : SF := fAsg (fOp oIx (fCall 1 (F_heard C T) (fCons (fVar 3) fNil)) (fC (.int 0))) (gfName 4)
def B_ref_2 (okC : Nat → Bool) (T1 : Nat → Option LamF) : SF := fIfS (fOr (fB (fOp oIsN (fVar 4) (fC (.non)))) (fOr (fNot (fB (fCallV T1 1 1 (fCons (fVar 4) fNil)))) (fB (fOp oNe (fCallB oRepr (fCons (fVal okC (fVar 4)) fNil)) (fCallB oRepr (fCons (fVar 2) fNil)))))) (fRet (fC (.bl false))) fNext
def B_refused (C : Nat → Nat → Option Bool) (okC : Nat → Bool) (T T1 : Nat → Option LamF) : SF := fSeq (fFor (srcE (fVar 0)) (gfName 3) (fSeq (B_ref_1 C T) (B_ref_2 okC T1))) (fRet (fC (.bl true)))
def F_refused (C : Nat → Nat → Option Bool) (okC : Nat → Bool) (T T1 : Nat → Option LamF) : List PV → Sto → Res PV := fDef 3 5 (B_refused C okC T T1)
/-- a look that raises the error c with the value x -/
structure LookX (T : Nat → Option LamF) (kv : List (Str × PV)) (fid c : Nat) (x : PV) (J : Sto → Prop) (p : PV) : Prop where
  ex : ∃ k L, p = .clo k fid ∧ T k = some L ∧ ∀ s, J s → ∃ s', L kv [] (s.susp0 []) = .exc c x s' ∧ Grow (s.susp0 []) s'
theorem refused_ok {q : PV} {xs : List PV} {r : Str} {J : Sto → Prop} (hJ : ∀ s s', J s → Grow s s' → J s') (h0 : J s) (hq : ∀ s', J s' → liveL q s' = some xs) (hx : ∀ p ∈ xs, LookX T kv fid c x J p)
    (hk : s.susp.lookup fid = some kv) (hc : C c 0 = some true) (hok : okC c = true) (h1 : T1 k1 = some L1) (hL1 : ∀ s, L1 kv [.exc c x] s = .ok (.bl true) s) (hr : ∀ s, oRepr [x] s = some (.str r)) :
    ∃ s', F_refused C okC T T1 [q, .clo k1 fid, x] s = .ok (.bl true) s' ∧ Grow s s' := by
  obtain ⟨it, hs, hit⟩ := srcOf_live (hq s h0)
  obtain ⟨ρ', s', e, ⟨a, b, rfl⟩, g⟩ := forN_inv (it := it) (gt := gfName 3) (fb := fSeq (B_ref_1 C T) (B_ref_2 okC T1)) (N := xs.length) (fun i => xs.getD i .non)
    (fun i ρ s' => (∃ a b, ρ = [some q, some (.clo k1 fid), some x, a, b]) ∧ Grow s s')
    (fun i ρ s' hI => by
      rw [hit i s' (hq _ (hJ _ _ h0 hI.2))]
      by_cases hi : i < xs.length
      · rw [if_pos hi, List.getD_eq_getElem?_getD, List.getElem?_eq_getElem hi]; rfl
      · rw [if_neg hi, List.getElem?_eq_none (by omega)])
    (fun i ρ s1 hi hI => by
      obtain ⟨⟨a, b, rfl⟩, g⟩ := hI
      have hg : xs.getD i .non = xs[i] := by rw [List.getD_eq_getElem?_getD, List.getElem?_eq_getElem hi]; rfl
      obtain ⟨k, L, e1, e2, e3⟩ := (hx _ (List.getElem_mem hi)).ex
      obtain ⟨s2, e4, g2⟩ := e3 s1 (hJ _ _ h0 g)
      rw [hg, e1]
      have hk1 : s1.susp.lookup fid = some kv := by rw [g.susp]; exact hk
      have e5 := heard_exc (C := C) e2 hk1 e4 hc
      refine ⟨[some q, some (.clo k1 fid), some x, some (.clo k fid), b], s1, [some q, some (.clo k1 fid), some x, some (.clo k fid), some (.exc c x)], s2.susp0 s1.susp, rfl, .inl ?_, ⟨_, _, rfl⟩, g.trans (grow_susp0 g2)⟩
      refine fSeq_nx (ρ1 := [some q, some (.clo k1 fid), some x, some (.clo k fid), some (.exc c x)]) (s1 := s2.susp0 s1.susp) ?_ ?_
      · exact fAsgN_ok (fOp_ok (fCall_ok (fCons_ok (fVar_ok rfl) fNil_ok) rfl e5) fC_ok rfl)
      · have hk2 : (s2.susp0 s1.susp).susp.lookup fid = some kv := hk1
        have e6 : fCallV T1 1 1 (fCons (fVar 4) fNil) [some q, some (.clo k1 fid), some x, some (.clo k fid), some (.exc c x)] (s2.susp0 s1.susp) = .ok (.bl true) (s2.susp0 s1.susp) := by
          simp only [fCallV, List.getElem?_cons_zero, List.getElem?_cons_succ, fCons, fNil, fVar, Res.bind_ok, List.length_cons, List.length_nil, Nat.zero_add, if_true, callClo, h1, hk2, hL1, Res.susp0]
          rfl
        have e7 : fVal okC (fVar 4) [some q, some (.clo k1 fid), some x, some (.clo k fid), some (.exc c x)] (s2.susp0 s1.susp) = .ok x (s2.susp0 s1.susp) := by
          simp only [fVal, fVar, List.getElem?_cons_zero, List.getElem?_cons_succ, Res.bind_ok, hok, if_true]
        refine fIfS_f (fOr_f (fB_ok (fOp_ok (fVar_ok rfl) fC_ok rfl)) (fOr_f (fNot_ok (fB_ok e6)) ?_)) rfl
        refine fB_ok (fOp_ok (fCallB_ok (fCons_ok e7 fNil_ok) (hr _)) (fCallB_ok (fCons_ok (fVar_ok rfl) fNil_ok) (hr _)) ?_)
        rw [oNe_str]
        simp)
    (xs.length + 1) 0 [some q, some (.clo k1 fid), some x, none, none] s (by omega) (Nat.zero_le _) ⟨⟨_, _, rfl⟩, Grow.refl _⟩
  refine ⟨s', ?_, g⟩
  refine fDef_ok (ρ := [some q, some (.clo k1 fid), some x, none, none]) rfl rfl ?_
  unfold B_refused
  refine fSeq_nx (fFor_ok (s1 := s) (J := ⟨xs.length, it⟩) ?_ e) rfl
  unfold srcE
  rw [fVar_ok (p := q) rfl]
  exact hs
end
/-- a call with the cells set aside -/
theorem fCallS_ok {fid n : Nat} {caps : List (Str × Nat)} {F : List PV → Sto → Res PV} {fs : Sl → Sto → Res (List PV)} {ρ : Sl} {s s1 s2 : Sto} {xs : List PV} {p : PV} (h : fs ρ s = .ok xs s1) (hn : xs.length = n) (k : F xs (s1.susp0 ((fid, capsOf ρ caps) :: s1.susp)) = .ok p s2) : fCallS fid caps n F fs ρ s = .ok p (s2.susp0 s1.susp) := by
  unfold fCallS
  rw [h]
  show (if xs.length = n then (F xs (s1.susp0 ((fid, capsOf ρ caps) :: s1.susp))).susp0 s1.susp else .stk) = _
  rw [if_pos hn, k]
  rfl
end Pv

/-! Pv28: enumerate(tuple). -/
namespace PvE
open PySem
open PySem.Sem (wp)
open AutoSeq1 (wpAny_loadPart')
theorem meets_enumerate_newT (l : Addr) (items : Array Value) :
    Meets (Builtin.«enumerate.__new__» ⟨[.type "enumerate", .ref l], []⟩) (fun _ R s => s.heap.IsTuple l items ∧
      R (.ok (.ret (.ref (s.heap.push { cls := .type "tuple_iterator", data := .fields #[.ref l, .int 0 0] }).objs.size)))
        { s with heap := (s.heap.push { cls := .type "tuple_iterator", data := .fields #[.ref l, .int 0 0] }).push { cls := .type "enumerate", data := .fields #[.none, .bool false, .ref s.heap.objs.size, rawInt 0, .none, .none] } }) :=
  .of_wp fun prog w A R s h => by
    obtain ⟨hp, g, d, tk, os⟩ := s; obtain ⟨hl, h⟩ := h
    have hsub := sub_enumerate
    have hL : Heap.IsTuple (Shared.heap ⟨hp, g, d, tk, os⟩) l items := hl
    wp_walk using wpAny_pyIter_tuple hL
    refine wpAny_stack_any fun st => wpAny_pure ?_
    split
    · rename_i c _ _ _ _ _
      cases (c == Value.type "enumerate")
      · wp_walk using wpAny_pyIter_tuple hL
        exact ⟨_, rfl, h⟩
      · wp_walk using wpAny_pyIter_tuple hL
        exact ⟨_, rfl, h⟩
    · wp_walk using wpAny_pyIter_tuple hL
      exact ⟨_, rfl, h⟩
section
variable {prog : Program} {w : World} {A : Around} {E : Value → Shared → Prop} {s : Shared}
theorem call_enumerate_tuple {l : Addr} {items : Array Value} {Q : Value → Shared → Prop} (hL : s.heap.IsTuple l items)
    (h : ∀ h', IsEnum h' (s.heap.objs.size + 1) s.heap.objs.size 0 .none → h'.IsTupleIter s.heap.objs.size l 0 → h'.objs.size = s.heap.objs.size + 2 →
      (∀ b o, s.heap.get? b = some o → h'.get? b = some o) → Q (.ref (s.heap.objs.size + 1)) { s with heap := h' }) :
    wpAny (model prog w) A (call (.type "enumerate") [.ref l]) Q E s := by
  refine callType_new F.called_enumerate (by decide) (F.typeCall_enumerate_1 _) (F.newCall_enumerate_1 _) (fun obj => F.args_object_init_2 obj _) F.entry_enumerate_new
    (meets_enumerate_newT l items) ⟨hL, ?_⟩
  have hz : (s.heap.push { cls := .type "tuple_iterator", data := .fields #[.ref l, .int 0 0] }).objs.size = s.heap.objs.size + 1 := Heap.size_push ..
  show _ ∧ _
  rw [hz]
  have he : IsEnum ((s.heap.push { cls := .type "tuple_iterator", data := .fields #[.ref l, .int 0 0] }).push
      { cls := .type "enumerate", data := .fields #[.none, .bool false, .ref s.heap.objs.size, rawInt 0, .none, .none] }) (s.heap.objs.size + 1) s.heap.objs.size 0 .none := by
    have := Heap.get?_push_size (s.heap.push { cls := .type "tuple_iterator", data := .fields #[.ref l, .int 0 0] })
      (o := { cls := .type "enumerate", data := .fields #[.none, .bool false, .ref s.heap.objs.size, rawInt 0, .none, .none] }) rfl
    rw [hz] at this; exact this
  refine ⟨⟨_, he, rfl⟩, h _ he ⟨_, Heap.get?_push_of_some _ (Heap.get?_push_size _ rfl), rfl, rfl⟩ (by rw [Heap.size_push, hz]) fun b o x => Heap.get?_push_of_some _ (Heap.get?_push_of_some _ x)⟩
end
/-- the items of a tuple, drawn one by one -/
theorem drawsT {prog : Program} {w : World} {A : Around} (hh : A.handled = none) (it l : Addr) (items : Array Value) (hne : it ≠ l) :
    Draws prog w A it [it, l] items.size (fun i x => items[i]? = some x) (fun i h => h.IsTupleIter it l i ∧ h.IsTuple l items) where
  live := fun i h st => let ⟨⟨o, ho, _⟩, _⟩ := st; ⟨o, ho⟩
  frame := fun i h h' st k => by
    obtain ⟨⟨o, ho, r⟩, ⟨o2, ho2, r2⟩⟩ := st
    exact ⟨⟨o, k it (by simp) o ho, r⟩, ⟨o2, k l (by simp) o2 ho2, r2⟩⟩
  item := fun i s Q E hi st hQ => by
    obtain ⟨h1, h2⟩ := st
    refine RZ.nextOf_tuple_item h1 h2 (x := items[i]) (by simp [hi]) fun h' h1' sb => ?_
    obtain ⟨o2, ho2, r2⟩ := h2
    exact hQ _ h' s.toks (by simp [hi]) ⟨h1', ⟨o2, (sb.2 l (Ne.symm hne)).trans ho2, r2⟩⟩ sb
  done := fun s Q E st hE => by
    obtain ⟨h1, h2⟩ := st
    exact RZ.nextOf_tuple_end hh h1 h2 (by simp) hE
end PvE

/-! Pv29: for i, x in enumerate(tuple). -/
namespace Pv
open PySem PySem.Spec PyProof.Rows L2
def IteT (K : PySem.W.Frag) (a : Addr) : It :=
  ⟨fun i H => ∃ (xs : List V) (x : V), SqT K H a xs ∧ xs[i]? = some x, fun i H v H' => ∃ T x, v = .ref T ∧ H T = none ∧ H' = upd H T (.tup [.int (i : Nat), x]) ∧ ∀ xs, SqT K H a xs → xs[i]? = some x, fun i H => ∃ xs : List V, SqT K H a xs ∧ xs.length ≤ i⟩
theorem turn_enumT {P : Program} {w : World} {K : PySem.W.Frag} {elts : List Expr} {kk : Nat} {tpos : Pos} (a e it : Addr) (hea : e ≠ a) (hia : it ≠ a) :
    Turn P w K (.Tuple elts kk tpos) (IteT K a) [e, it] e (fun i h => (∃ old, IsEnum h e it ((i : Nat) : Int) old) ∧ h.IsTupleIter it a i ∧ e ≠ it) where
  mem := by simp
  obj := fun i h st b hb => by
    obtain ⟨⟨old, he⟩, ⟨o, ho, hc, hd⟩, _⟩ := st
    have e' : b = e ∨ b = it := by simpa using hb
    rcases e' with z | z
    · rw [z]; exact ⟨_, he, fun v q => nomatch q⟩
    · rw [z]; exact ⟨o, ho, fun v q => by rw [hd] at q; cases q⟩
  keep := fun i h h' st k => let ⟨⟨old, he⟩, hi, hne⟩ := st; ⟨⟨old, k e (by simp) _ he⟩, hi.at fun o q => k it (by simp) o q, hne⟩
  item := by
    intro X hP hw hK hc i pins s σ H E I hf st hg
    subst hP hw hK
    obtain ⟨⟨old, he⟩, hit, hne⟩ := st
    obtain ⟨xs, x, hq, hx⟩ := hg
    obtain ⟨its, rv, p, hz⟩ := I.tuple hq
    obtain ⟨u, hu, ru⟩ := rv.get hx
    have hel : e < s.heap.objs.size := Heap.lt_size he
    have hil : it < s.heap.objs.size := by obtain ⟨_, q, _⟩ := hit; exact Heap.lt_size q
    have hlt : i < its.toArray.size := by
      have := (List.getElem?_eq_some_iff.mp hu).1
      simpa using this
    refine wpAny_pyNext_enum_itemD (PvE.drawsT (A := X.A.in1) (I.ok.hd hc) it a its.toArray hia) he ⟨hit, p⟩ hlt hne (by simp [hne, hea]) fun x' h' tk hPx ho hst' hT hsz hk => ?_
    obtain ⟨hit', _⟩ := hst'
    have hxu : x' = u := by
      have h1 : its[i]? = some x' := by simpa using hPx
      rw [hu] at h1; cases h1; rfl
    subst hxu
    refine ⟨_, rfl, wpAny_letOwnedTupleGo_enum (s := { s with heap := h', toks := tk + 1 }) ho fun h'' he' sb => ?_⟩
    have hT2 : h''.get? s.heap.objs.size = some { cls := .type "tuple", data := .seq #[.int i tk, x'] } := (sb.2 _ (Nat.ne_of_gt hel)).trans hT
    have new : ObjOk X.prog X.w (upd H s.heap.objs.size (.tup [.int (i : Nat), x])) h'' s.heap.objs.size (.tup [.int (i : Nat), x]) :=
      ⟨by show 2 ≤ sizeLine; decide, [.int i tk, x'], .cons ⟨_, rfl⟩ (.cons ru .nil), ⟨_, hT2, rfl, _, rfl⟩⟩
    have I1 : Inv X pins σ (upd H s.heap.objs.size (.tup [.int (i : Nat), x])) { s with heap := h'', toks := tk + 1 } :=
      I.turnedNew (ch := [e, it]) (fun b ob hb q => (sb.2 b (fun z => hb (by simp [z]))).trans (hk b ob (fun z => hb (by simp [z])) (fun z => hb (by simp [z])) q)) hf (Nat.le_refl _) new
    refine ⟨.ref s.heap.objs.size, _, I1, rfl, ⟨_, x, rfl, I.hok.fresh (Nat.le_refl _), rfl, fun ys hy => by rw [I.tuple_inj hy hq]; exact hx⟩, ⟨⟨x', ?_⟩, hit'.at fun o q => (sb.2 it (Ne.symm hne)).trans q, hne⟩, fun b hb => ?_⟩
    · have e1 : ((i + 1 : Nat) : Int) = (i : Int) + 1 := by omega
      rw [e1]; exact he'
    · have hb' : b < s.heap.objs.size := by
        have e' : b = e ∨ b = it := by simpa using hb
        rcases e' with z | z
        · rw [z]; exact hel
        · rw [z]; exact hil
      rw [upd_ne (Nat.ne_of_lt hb')]
      exact (hf b hb).1
  done := by
    intro X hP hw hK hc i pins s σ H E I hf st hg
    subst hP hw hK
    obtain ⟨⟨old, he⟩, hit, hne⟩ := st
    obtain ⟨xs, hq, hx⟩ := hg
    obtain ⟨its, rv, p, hz⟩ := I.tuple hq
    obtain ⟨f0, f1, f2, f3, f4, f5⟩ := hf it (by simp)
    have hl := rv.length
    unfold pyNext
    have hT : s.TypeIs (.ref e) "enumerate" := ⟨_, he, rfl⟩
    refine wpAny_bind (wpAny_attempt (wpAny_callSpecial?_slot (name := Str.ofString "__next__") hT F.slot_enumerate_next
      (wpAny_call_entry F.slot_enumerate_next hT F.entry_enumerate_next ?_ (F.args_enumerate_next_1 _))))
    show wpAny _ _ (field (.ref e) 2 >>= _) _ _ _
    refine wpAny_bind (wpAny_field he rfl (x := .ref it) rfl ?_)
    refine wpAny_bind (RZ.nextOf_tuple_end (A := X.A.in1) (I.ok.hd hc) hit p (by simp; omega) fun h' x he' hx' => ?_)
    obtain ⟨o, ho, hcx⟩ := hx'
    refine wpAny_bind (wpAny_isInstance (T := "StopIteration") (b := true) ⟨o, ho, hcx⟩ isSubtype_stop ?_)
    exact wpAny_pure ⟨rfl, I.turned (t' := s.toks) (fun b o hb q => he' b o hb q) f0 f1 f3 f4 f5⟩
  self := fun A i s Q E st h => let ⟨⟨_, he⟩, _⟩ := st; wpAny_pyIter_enum he h
def iEnumA (K : PySem.W.Frag) (ta : TA) : TI := fun σ H R => ta σ H fun vs H1 => ∃ a xs, vs = [.ref a] ∧ ((SqL K H1 a xs ∧ R (Ite K a) H1) ∨ (SqT K H1 a xs ∧ R (IteT K a) H1))
theorem pi_enumA {X : Cx} {e : Expr} {ta : TA} {p pos tpos : Pos} {elts : List Expr} {kk : Nat} (hg : Gl X "enumerate") (hm : X.mg "enumerate" = none) (ha : PA X [e] ta) (hs : starEach [e] X.env = [(false, eval e X.env)] := by rfl) :
    PI X (.Tuple elts kk tpos) (.Call (.Name "enumerate" p) [e] [] pos) (iEnumA X.K ta) := by
  refine ⟨fun pins s σ H R I h => ?_⟩
  refine Call_ (ld_blt I hg hm boot_enumerate (PyProof.Rows.callWith_type1 (thn (ha.run pos pins s σ H _ I h) fun us s1 ⟨vs, H1, I1, r1, q1⟩ => ?_) hs rfl))
  obtain ⟨a, xs, ex, q1⟩ := q1
  subst ex
  cases r1 with
  | cons r rr =>
    cases rr
    cases r
    have fr : ∀ b ∈ [s1.heap.objs.size + 1, s1.heap.objs.size], FpOk X pins H1 b := fun b hb => by
      have e' : b = s1.heap.objs.size + 1 ∨ b = s1.heap.objs.size := by simpa using hb
      have hle : s1.heap.objs.size ≤ b := by
        rcases e' with z | z
        · rw [z]; exact Nat.le_add_right _ _
        · rw [z]; exact Nat.le_refl _
      exact I1.fpOk hle (I1.hok.fresh hle)
    rcases q1 with ⟨hq, q⟩ | ⟨hq, q⟩
    · obtain ⟨its, rv, p', hz⟩ := I1.list hq
      refine call_enumerate_list p'.isList fun h' he hit hsz hk => wpAny_pyIter_enum he ?_
      have I2 : Inv X pins σ H1 { s1 with heap := h' } := I1.kept (t' := s1.toks) hk
      exact ⟨s1.heap.objs.size + 1, [s1.heap.objs.size + 1, s1.heap.objs.size], _, _, H1, rfl, I2, turn_enum a (s1.heap.objs.size + 1) s1.heap.objs.size, ⟨⟨.none, he⟩, hit, Nat.succ_ne_self _⟩, fr, q⟩
    · obtain ⟨its, rv, p', hz⟩ := I1.tuple hq
      have hal : a < s1.heap.objs.size := by obtain ⟨o, ho, _⟩ := id p'; exact Heap.lt_size ho
      refine PvE.call_enumerate_tuple (show s1.heap.IsTuple a its.toArray from p') fun h' he hit hsz hk => wpAny_pyIter_enum he ?_
      have I2 : Inv X pins σ H1 { s1 with heap := h' } := I1.kept (t' := s1.toks) hk
      exact ⟨s1.heap.objs.size + 1, [s1.heap.objs.size + 1, s1.heap.objs.size], _, _, H1, rfl, I2, turn_enumT a (s1.heap.objs.size + 1) s1.heap.objs.size (Nat.ne_of_gt (Nat.lt_succ_of_lt hal)) (Nat.ne_of_gt hal), ⟨⟨.none, he⟩, hit, Nat.succ_ne_self _⟩, fr, q⟩

/-- enumerate(a list or a tuple) -/
def enOf (p : PV) (s1 : Sto) : Res Src := match p with
  | .tup xs => .ok ⟨xs.length, fun i _ => some (xs[i]?.map fun x => .tup [.int i, x])⟩ s1
  | p => match liveL p s1 with
    | some xs => .ok ⟨xs.length, fun i s2 => (liveL p s2).map fun xs => xs[i]?.map fun x => .tup [.int i, x]⟩ s1
    | none => .stk
def srcEnA (fs : Sl → Sto → Res (List PV)) : Sl → Sto → Res Src := fun ρ s => (fs ρ s).bind fun ps s1 => match ps with
  | [p] => enOf p s1
  | _ => .stk
section
variable {g : G} {W : WX} {X : Cx} {p0 pos : Pos} {e : Expr} {fs : Sl → Sto → Res (List PV)}
theorem walkET {φ : Wm} {H : Hp} {xs : List PV} {a : Addr} (hp : Rep g φ H (.tup xs) (.ref a)) : WalkS g φ H (fun i _ => some (xs[i]?.map fun x => .tup [.int i, x])) (IteT g.K a) := by
  intro i φ1 H1 s1 _ _ S1 rep
  have hp1 := rep _ _ hp
  simp only [Rep] at hp1
  obtain ⟨a', vs, e, tq, R⟩ := hp1
  cases e
  refine ⟨fun h => ?_, fun p0 h => ?_⟩
  · have z : xs[i]? = none := by simpa using h
    exact ⟨vs, tq.sq, by rw [← R.length]; exact List.getElem?_eq_none_iff.mp z⟩
  · obtain ⟨x0, z, rfl⟩ : ∃ x0, xs[i]? = some x0 ∧ PV.tup [.int i, x0] = p0 := by simpa using h
    obtain ⟨v, hv, rv⟩ := R.get z
    refine ⟨⟨vs, v, tq.sq, hv⟩, fun v' H2 y => ?_⟩
    obtain ⟨T, x, rfl, nT, rfl, y⟩ := y
    have := y vs tq.sq
    rw [hv] at this; cases this
    have e1 : Le φ1 H1 φ1 (upd H1 T (.tup [.int (i : Nat), v])) := Le.new nT (S1.fresh nT)
    refine ⟨φ1, e1, S1.new nT, ?_⟩
    simp only [Rep]
    exact ⟨T, _, rfl, .inl ⟨.inl upd_same, S1.fresh nT⟩, Reps.cons (rep_int.mpr rfl) (Reps.cons (rv.mono e1) Reps.nil)⟩
theorem i_enumA {tpos : Pos} {elts : List Expr} {kk : Nat} (hK : X.K = g.K) (hm : X.mg "enumerate" = none) (ha : PA X [e] (rA g W fs)) (hg : Gl X "enumerate" := by rfl) (hs : starEach [e] X.env = [(false, eval e X.env)] := by rfl) :
    PI X (.Tuple elts kk tpos) (.Call (.Name "enumerate" p0) [e] [] pos) (rIt g W (srcEnA fs)) := by
  refine pi_of (pi_enumA hg hm ha hs) ?_
  rintro σ H R ⟨φ, ρ, s, S, E, q⟩
  refine seqAI S E q fun φ1 H1 s1 ps vs e1 S1 R1 q1 => ?_
  match ps, q1 with
  | [p], q1 =>
    simp only [Reps] at R1
    obtain ⟨v, _, rfl, r1, rfl⟩ := R1
    by_cases hp : ∃ ys, p = .tup ys
    · obtain ⟨ys, rfl⟩ := hp
      obtain ⟨a, vs, rfl, t, r⟩ := rep_tup r1
      exact ⟨a, vs, rfl, .inr ⟨by rw [hK]; exact t.sq, by rw [hK]; exact q1 φ1 H1 _ (Le.refl _ _) S1 (walkET r1)⟩⟩
    · have q2 : OutI g W φ1 H1 σ (match liveL p s1 with
        | some xs => Res.ok (⟨xs.length, fun i s2 => (liveL p s2).map fun xs => xs[i]?.map fun x => .tup [.int i, x]⟩ : Src) s1
        | none => .stk) R := by
        cases p <;> first | exact q1 | exact absurd ⟨_, rfl⟩ hp
      cases z : liveL p s1 with
      | none => simp only [z] at q2; exact q2.elim
      | some xs =>
        simp only [z] at q2
        obtain ⟨a, vs, rfl, sq, RR⟩ := liveL_at S1 r1 z
        exact ⟨a, vs, rfl, .inl ⟨by rw [hK]; exact sq, by rw [hK]; exact q2 φ1 H1 _ (Le.refl _ _) S1 (walkE r1)⟩⟩
end
end Pv

/-! Pv30: zip(tuple, list), zip(tuple, tuple). -/
namespace PvE
open PySem
open PySem.Sem (wp)
abbrev zipMH1 (h : Heap) (l1 : Addr) : Heap := h.push { cls := .type "tuple_iterator", data := .fields #[.ref l1, .int 0 0] }
abbrev zipMH2 (h : Heap) (l1 l2 : Addr) : Heap := (zipMH1 h l1).push { cls := .type "list_iterator", data := .fields #[.ref l2, .int 0 0] }
abbrev zipMH3 (h : Heap) (l1 l2 : Addr) : Heap := (zipMH2 h l1 l2).push { cls := .type "tuple", data := .seq #[.ref h.objs.size, .ref (zipMH1 h l1).objs.size] }
abbrev zipMH4 (h : Heap) (l1 l2 : Addr) : Heap := (zipMH3 h l1 l2).push { cls := .type "tuple", data := .seq #[.none, .none] }
abbrev zipMH5 (h : Heap) (l1 l2 : Addr) : Heap := (zipMH4 h l1 l2).push { cls := .type "zip", data := .fields #[.none, .bool false, .bool false, .ref (zipMH2 h l1 l2).objs.size, .ref (zipMH3 h l1 l2).objs.size] }
theorem meets_zipM_new (l1 l2 : Addr) (xs ys : Array Value) :
    Meets (Builtin.«zip.__new__» ⟨[.type "zip", .ref l1, .ref l2], []⟩) (fun _ R s => s.heap.IsTuple l1 xs ∧ s.heap.IsList l2 ys ∧
      R (.ok (.ret (.ref (zipMH4 s.heap l1 l2).objs.size))) { s with heap := zipMH5 s.heap l1 l2 }) :=
  .of_wp fun prog w A R s h => by
    obtain ⟨hp, g, d, tk, os⟩ := s; obtain ⟨hl1, hl2, h⟩ := h
    have hsub := sub_zip
    have hL1 : Heap.IsTuple (Shared.heap ⟨hp, g, d, tk, os⟩) l1 xs := hl1
    have hL2 : Heap.IsList (Shared.heap ⟨hp.push { cls := .type "tuple_iterator", data := .fields #[.ref l1, .int 0 0] }, g, d, tk, os⟩) l2 ys := Heap.IsList.push hl2 _
    wp_walk using wpAny_pyIter_tuple hL1, wpAny_pyIter_list hL2
    exact ⟨_, rfl, h⟩
section
variable {prog : Program} {w : World} {A : Around} {E : Value → Shared → Prop} {s : Shared}
theorem call_zipM {l1 l2 : Addr} {xs ys : Array Value} {Q : Value → Shared → Prop} (hl1 : s.heap.IsTuple l1 xs) (hl2 : s.heap.IsList l2 ys)
    (h : ∀ h', IsZip h' (s.heap.objs.size + 4) (s.heap.objs.size + 2) (s.heap.objs.size + 3) .none → IsPair h' (s.heap.objs.size + 2) (.ref s.heap.objs.size) (.ref (s.heap.objs.size + 1)) →
      IsPair h' (s.heap.objs.size + 3) .none .none → h'.IsTupleIter s.heap.objs.size l1 0 → h'.IsListIter (s.heap.objs.size + 1) l2 0 → h'.objs.size = s.heap.objs.size + 5 →
      (∀ c o, s.heap.get? c = some o → h'.get? c = some o) → Q (.ref (s.heap.objs.size + 4)) { s with heap := h' }) :
    wpAny (model prog w) A (call (.type "zip") [.ref l1, .ref l2]) Q E s := by
  refine callType_new F.called_zip (by decide) (F.typeCall_zip_2 _ _) (F.newCall_zip_2 _ _) (fun obj => F.args_object_init_3 obj _ _) F.entry_zip_new
    (meets_zipM_new l1 l2 xs ys) ⟨hl1, hl2, ?_⟩
  have z1 : (zipMH1 s.heap l1).objs.size = s.heap.objs.size + 1 := Heap.size_push ..
  have z2 : (zipMH2 s.heap l1 l2).objs.size = s.heap.objs.size + 2 := by rw [Heap.size_push, z1]
  have z3 : (zipMH3 s.heap l1 l2).objs.size = s.heap.objs.size + 3 := by rw [Heap.size_push, z2]
  have z4 : (zipMH4 s.heap l1 l2).objs.size = s.heap.objs.size + 4 := by rw [Heap.size_push, z3]
  have z5 : (zipMH5 s.heap l1 l2).objs.size = s.heap.objs.size + 5 := by rw [Heap.size_push, z4]
  have g5 : (zipMH5 s.heap l1 l2).get? (zipMH4 s.heap l1 l2).objs.size = some _ := Heap.get?_push_size _ rfl
  have g4 : (zipMH5 s.heap l1 l2).get? (zipMH3 s.heap l1 l2).objs.size = some _ := Heap.get?_push_of_some _ (Heap.get?_push_size _ rfl)
  have g3 : (zipMH5 s.heap l1 l2).get? (zipMH2 s.heap l1 l2).objs.size = some _ := Heap.get?_push_of_some _ (Heap.get?_push_of_some _ (Heap.get?_push_size _ rfl))
  have g2 : (zipMH5 s.heap l1 l2).get? (zipMH1 s.heap l1).objs.size = some _ := Heap.get?_push_of_some _ (Heap.get?_push_of_some _ (Heap.get?_push_of_some _ (Heap.get?_push_size _ rfl)))
  have g1 : (zipMH5 s.heap l1 l2).get? s.heap.objs.size = some _ := Heap.get?_push_of_some _ (Heap.get?_push_of_some _ (Heap.get?_push_of_some _ (Heap.get?_push_of_some _ (Heap.get?_push_size _ rfl))))
  show _ ∧ _
  rw [z2, z3, z4] at g5
  rw [z1, z2] at g3
  rw [z3] at g4
  rw [z1] at g2
  rw [z4]
  exact ⟨⟨_, g5, rfl⟩, h _ g5 g3 g4 ⟨_, g1, rfl, rfl⟩ ⟨_, g2, rfl, rfl⟩ z5 fun c o x =>
    Heap.get?_push_of_some _ (Heap.get?_push_of_some _ (Heap.get?_push_of_some _ (Heap.get?_push_of_some _ (Heap.get?_push_of_some _ x))))⟩
end
theorem sep_of {z TI TO i1 i2 l1 l2 : Addr} (D : ZipApart z TI TO i1 i2 l1 l2) : ZipSep2 z TI TO i1 i2 [i1, l1] [i2, l2] where
  TIz := D.TIz
  TOz := D.TOz
  TITO := D.TITO
  TIi1 := D.TIi1
  mem1 := by simp
  zf1 := by have := D.i1z; have := D.l1z; simp; exact ⟨Ne.symm D.i1z, Ne.symm D.l1z⟩
  Tf1 := by simp; exact ⟨D.TOi1, Ne.symm D.l1TO⟩
  TIi2 := D.TIi2
  mem2 := by simp
  zf2 := by simp; exact ⟨Ne.symm D.i2z, Ne.symm D.l2z⟩
  Tf2 := by simp; exact ⟨D.TOi2, Ne.symm D.l2TO⟩
  sep1_2 := by simp; exact ⟨D.i12, Ne.symm D.l2i1⟩
  sep2_1 := by simp; exact ⟨Ne.symm D.i12, Ne.symm D.l1i2⟩
end PvE
namespace Pv
open PySem PySem.Spec PyProof.Rows L2
def ItzM (K : PySem.W.Frag) (a b : Addr) : It :=
  ⟨fun i H => ∃ (xs ys : List V) (x y : V), SqT K H a xs ∧ SqL K H b ys ∧ xs[i]? = some x ∧ ys[i]? = some y,
    fun i H v H' => ∃ T x y, v = .ref T ∧ H T = none ∧ H' = upd H T (.tup [x, y]) ∧ (∀ xs, SqT K H a xs → xs[i]? = some x) ∧ ∀ ys, SqL K H b ys → ys[i]? = some y,
    fun i H => ∃ xs ys : List V, SqT K H a xs ∧ SqL K H b ys ∧ i ≤ xs.length ∧ i ≤ ys.length ∧ (i = xs.length ∨ i = ys.length)⟩
theorem turn_zipM {P : Program} {w : World} {K : PySem.W.Frag} {elts : List Expr} {kk : Nat} {tpos : Pos} {a b z TI TO i1 i2 : Addr} (D : ZipApart z TI TO i1 i2 a b) :
    Turn P w K (.Tuple elts kk tpos) (ItzM K a b) [z, TI, TO, i1, i2] z (fun i h => IsZip h z TI TO .none ∧ IsPair h TI (.ref i1) (.ref i2) ∧ (∃ x y, IsPair h TO x y) ∧ h.IsTupleIter i1 a i ∧ h.IsListIter i2 b i) where
  mem := by simp
  obj := fun i h st c hc => by
    obtain ⟨hz, hTI, ⟨x, y, hTO⟩, ⟨o1, e1, _, d1⟩, ⟨o2, e2, _, d2⟩⟩ := st
    have e' : c = z ∨ c = TI ∨ c = TO ∨ c = i1 ∨ c = i2 := by simpa using hc
    rcases e' with q | q | q | q | q
    · rw [q]; exact ⟨_, hz, fun v q => nomatch q⟩
    · rw [q]; exact ⟨_, hTI, fun v q => nomatch q⟩
    · rw [q]; exact ⟨_, hTO, fun v q => nomatch q⟩
    · rw [q]; exact ⟨o1, e1, fun v q => by rw [d1] at q; cases q⟩
    · rw [q]; exact ⟨o2, e2, fun v q => by rw [d2] at q; cases q⟩
  keep := fun i h h' st k => by
    obtain ⟨hz, hTI, ⟨x, y, hTO⟩, h1, h2⟩ := st
    exact ⟨k z (by simp) _ hz, k TI (by simp) _ hTI, ⟨x, y, k TO (by simp) _ hTO⟩, h1.at fun o q => k i1 (by simp) o q, h2.at fun o q => k i2 (by simp) o q⟩
  item := by
    intro X hP hw hK hc i pins s σ H E I hf st hg
    subst hP hw hK
    obtain ⟨hz, hTI, ⟨x0, y0, hTO⟩, h1, h2⟩ := st
    obtain ⟨xs, ys, x, y, hqx, hqy, hx, hy⟩ := hg
    obtain ⟨its, rv, p, _⟩ := I.tuple hqx
    obtain ⟨its2, rv2, p2, _⟩ := I.list hqy
    obtain ⟨u, hu, ru⟩ := rv.get hx
    obtain ⟨u2, hu2, ru2⟩ := rv2.get hy
    have hzl : z < s.heap.objs.size := Heap.lt_size hz
    have l1 : i < its.toArray.size := by have := (List.getElem?_eq_some_iff.mp hu).1; simpa using this
    have l2 : i < its2.toArray.size := by have := (List.getElem?_eq_some_iff.mp hu2).1; simpa using this
    refine wpAny_pyNext_zipD2_item (PvE.sep_of D) (PvE.drawsT (A := X.A.in1) (I.ok.hd hc) i1 a its.toArray (Ne.symm D.l1i1)) (Draws.list (A := X.A.in1) (I.ok.hd hc) i2 b D.l2i2 its2.toArray) hz hTI hTO ⟨h1, p⟩ ⟨h2, p2.isList⟩ l1 l2 fun x1 x2 h' tk hx1 hx2 z' TO' st1 st2 hT hsz hk => ?_
    have exu : x1 = u := by
      have q : its[i]? = some x1 := by simpa using hx1
      rw [hu] at q; cases q; rfl
    have eyu : x2 = u2 := by
      have q : its2[i]? = some x2 := by simpa using hx2
      rw [hu2] at q; cases q; rfl
    subst exu eyu
    obtain ⟨h1', _⟩ := st1
    obtain ⟨h2', _⟩ := st2
    refine ⟨_, rfl, wpAny_letOwnedTupleGo_zip (s := { s with heap := h', toks := tk }) z' fun h'' z'' sb => ?_⟩
    have hT2 : h''.get? s.heap.objs.size = some { cls := .type "tuple", data := .seq #[x1, x2] } := (sb.2 _ (Nat.ne_of_gt hzl)).trans hT
    have new : ObjOk X.prog X.w (upd H s.heap.objs.size (.tup [x, y])) h'' s.heap.objs.size (.tup [x, y]) :=
      ⟨by show 2 ≤ sizeLine; decide, [x1, x2], .cons ru (.cons ru2 .nil), ⟨_, hT2, rfl, _, rfl⟩⟩
    have I1 : Inv X pins σ (upd H s.heap.objs.size (.tup [x, y])) { s with heap := h'', toks := tk } :=
      I.turnedNew (t' := tk) (ch := [z, TI, TO, i1, i2]) (fun c o hb q => (sb.2 c (fun q' => hb (by simp [q']))).trans (hk c o (fun q' => hb (by simp [q'])) (fun q' => hb (by simp [q'])) (fun q' => hb (by simp [q'])) (fun q' => hb (by simp [q'])) q)) hf (Nat.le_refl _) new
    refine ⟨.ref s.heap.objs.size, _, I1, rfl, ⟨_, x, y, rfl, I.hok.fresh (Nat.le_refl _), rfl, fun l hl => by rw [I.tuple_inj hl hqx]; exact hx, fun l hl => by rw [I.list_inj hl hqy]; exact hy⟩, ⟨z'', ?_, ⟨x1, x2, ?_⟩, ?_, ?_⟩, fun c hcm => ?_⟩
    · exact (sb.2 _ D.TIz).trans (hk _ _ D.TIz D.TITO D.TIi1 D.TIi2 hTI)
    · exact (sb.2 _ D.TOz).trans TO'
    · exact h1'.at fun o q => (sb.2 _ D.i1z).trans q
    · exact h2'.at fun o q => (sb.2 _ D.i2z).trans q
    · have hlt : c < s.heap.objs.size := by
        have e' : c = z ∨ c = TI ∨ c = TO ∨ c = i1 ∨ c = i2 := by simpa using hcm
        rcases e' with q | q | q | q | q
        · rw [q]; exact hzl
        · rw [q]; exact Heap.lt_size hTI
        · rw [q]; exact Heap.lt_size hTO
        · rw [q]; obtain ⟨_, e1, _⟩ := h1; exact Heap.lt_size e1
        · rw [q]; obtain ⟨_, e2, _⟩ := h2; exact Heap.lt_size e2
      rw [upd_ne (Nat.ne_of_lt hlt)]
      exact (hf c hcm).1
  done := by
    intro X hP hw hK hc i pins s σ H E I hf st hg
    subst hP hw hK
    obtain ⟨hz, hTI, ⟨x0, y0, hTO⟩, h1, h2⟩ := st
    obtain ⟨xs, ys, hqx, hqy, hi1, hi2, hend⟩ := hg
    obtain ⟨its, rv, p, _⟩ := I.tuple hqx
    obtain ⟨its2, rv2, p2, _⟩ := I.list hqy
    have l1 := rv.length
    have l2 := rv2.length
    exact wpAny_pyNext_zipD2_end (PvE.sep_of D) (PvE.drawsT (A := X.A.in1) (I.ok.hd hc) i1 a its.toArray (Ne.symm D.l1i1)) (Draws.list (A := X.A.in1) (I.ok.hd hc) i2 b D.l2i2 its2.toArray) hz hTI hTO ⟨h1, p⟩ ⟨h2, p2.isList⟩ (by simp; omega) (by simp; omega) (by simp; omega) fun h' tk hk => ⟨rfl, I.turnedL (t' := tk) (ch := [z, TI, TO, i1, i2]) (fun c o hb q =>
      hk c o (fun q' => hb (by simp [q'])) (fun q' => hb (by simp [q'])) (fun q' => hb (by simp [q'])) (fun q' => hb (by simp [q'])) q) hf⟩
  self := fun A i s Q E st h => wpAny_pyIter_zip st.1 h
def iZipB (K : PySem.W.Frag) (ta : TA) : TI := fun σ H R => ta σ H fun vs H1 => ∃ a b xs ys, vs = [.ref a, .ref b] ∧ ((SqL K H1 a xs ∧ SqL K H1 b ys ∧ R (Itz K a b) H1) ∨ (SqT K H1 a xs ∧ SqT K H1 b ys ∧ R (RZ.ItzT K a b) H1) ∨ (SqT K H1 a xs ∧ SqL K H1 b ys ∧ R (ItzM K a b) H1))
theorem pi_zipB {X : Cx} {e e2 : Expr} {ta : TA} {p pos tpos : Pos} {elts : List Expr} {kk : Nat} (hg : Gl X "zip") (hm : X.mg "zip" = none) (ha : PA X [e, e2] ta)
    (hs : starEach [e, e2] X.env = (false, eval e X.env) :: starEach [e2] X.env := by rfl) (hpl : (backTo pos (starEach [e2] X.env)).any (·.1) = false := by rfl) :
    PI X (.Tuple elts kk tpos) (.Call (.Name "zip" p) [e, e2] [] pos) (iZipB X.K ta) := by
  refine ⟨fun pins s σ H R I h => ?_⟩
  refine Call_ (ld_blt I hg hm PyProof.Rows.boot_zip (PyProof.Rows.callWith_type1 (thn (ha.run pos pins s σ H _ I h) fun us s1 ⟨vs, H1, I1, r1, q1⟩ => ?_) hs hpl))
  obtain ⟨a, b, xs, ys, ex, q1⟩ := q1
  subst ex
  cases r1 with
  | cons r rr =>
    cases rr with
    | cons r' rr =>
      cases rr
      cases r
      cases r'
      have fresh5 : ∀ c, c ∈ [s1.heap.objs.size + 4, s1.heap.objs.size + 2, s1.heap.objs.size + 3, s1.heap.objs.size, s1.heap.objs.size + 1] → FpOk X pins H1 c := fun c hcm => by
        have e' : c = s1.heap.objs.size + 4 ∨ c = s1.heap.objs.size + 2 ∨ c = s1.heap.objs.size + 3 ∨ c = s1.heap.objs.size ∨ c = s1.heap.objs.size + 1 := by simpa using hcm
        have hle : s1.heap.objs.size ≤ c := by
          rcases e' with z | z | z | z | z
          · rw [z]; exact Nat.le_add_right _ _
          · rw [z]; exact Nat.le_add_right _ _
          · rw [z]; exact Nat.le_add_right _ _
          · rw [z]; exact Nat.le_refl _
          · rw [z]; exact Nat.le_add_right _ _
        exact I1.fpOk hle (I1.hok.fresh hle)
      rcases q1 with ⟨hqx, hqy, q⟩ | ⟨hqx, hqy, q⟩ | ⟨hqx, hqy, q⟩
      · obtain ⟨its, rv, p1, _⟩ := I1.list hqx
        obtain ⟨its2, rv2, p2, _⟩ := I1.list hqy
        refine call_zip_2 p1.isList p2.isList fun h' hz hTI hTO h1 h2 hsz hk => wpAny_pyIter_zip hz ?_
        have I2 : Inv X pins σ H1 { s1 with heap := h' } := I1.kept (t' := s1.toks) hk
        exact ⟨s1.heap.objs.size + 4, [s1.heap.objs.size + 4, s1.heap.objs.size + 2, s1.heap.objs.size + 3, s1.heap.objs.size, s1.heap.objs.size + 1], _, _, H1, rfl, I2, turn_zip (PySem.W.ktu_apart s1.heap.objs.size a b p1.lt p2.lt), ⟨hz, hTI, ⟨_, _, hTO⟩, h1, h2⟩, fresh5, q⟩
      · obtain ⟨its, rv, p1, _⟩ := I1.tuple hqx
        obtain ⟨its2, rv2, p2, _⟩ := I1.tuple hqy
        obtain ⟨o1, ho1, _⟩ := id p1
        obtain ⟨o2, ho2, _⟩ := id p2
        refine RZ.call_zipT (show s1.heap.IsTuple a its.toArray from p1) (show s1.heap.IsTuple b its2.toArray from p2) fun h' hz hTI hTO h1 h2 hsz hk => wpAny_pyIter_zip hz ?_
        have I2 : Inv X pins σ H1 { s1 with heap := h' } := I1.kept (t' := s1.toks) hk
        exact ⟨s1.heap.objs.size + 4, [s1.heap.objs.size + 4, s1.heap.objs.size + 2, s1.heap.objs.size + 3, s1.heap.objs.size, s1.heap.objs.size + 1], _, _, H1, rfl, I2, RZ.turn_zipT (PySem.W.ktu_apart s1.heap.objs.size a b (Heap.lt_size ho1) (Heap.lt_size ho2)), ⟨hz, hTI, ⟨_, _, hTO⟩, h1, h2⟩, fresh5, q⟩
      · obtain ⟨its, rv, p1, _⟩ := I1.tuple hqx
        obtain ⟨its2, rv2, p2, _⟩ := I1.list hqy
        obtain ⟨o1, ho1, _⟩ := id p1
        refine PvE.call_zipM (show s1.heap.IsTuple a its.toArray from p1) p2.isList fun h' hz hTI hTO h1 h2 hsz hk => wpAny_pyIter_zip hz ?_
        have I2 : Inv X pins σ H1 { s1 with heap := h' } := I1.kept (t' := s1.toks) hk
        exact ⟨s1.heap.objs.size + 4, [s1.heap.objs.size + 4, s1.heap.objs.size + 2, s1.heap.objs.size + 3, s1.heap.objs.size, s1.heap.objs.size + 1], _, _, H1, rfl, I2, turn_zipM (PySem.W.ktu_apart s1.heap.objs.size a b (Heap.lt_size ho1) p2.lt), ⟨hz, hTI, ⟨_, _, hTO⟩, h1, h2⟩, fresh5, q⟩
/-- zip of two lists, of a tuple and a list -/
def zipOf (p q : PV) (s1 : Sto) : Res Src := match p with
  | .tup xs => match liveL q s1 with
    | some ys => .ok ⟨min xs.length ys.length, fun i s2 => (liveL q s2).bind fun ys => if i ≤ xs.length ∧ i ≤ ys.length then some (xs[i]?.bind fun x => ys[i]?.map fun y => .tup [x, y]) else none⟩ s1
    | none => .stk
  | p => match liveL p s1, liveL q s1 with
    | some xs, some ys => .ok ⟨min xs.length ys.length, fun i s2 => (liveL p s2).bind fun xs => (liveL q s2).map fun ys => xs[i]?.bind fun x => ys[i]?.map fun y => .tup [x, y]⟩ s1
    | _, _ => .stk
def srcZipB (fs : Sl → Sto → Res (List PV)) : Sl → Sto → Res Src := fun ρ s => (fs ρ s).bind fun ps s1 => match ps with
  | [p, q] => zipOf p q s1
  | _ => .stk
section
variable {g : G} {W : WX} {X : Cx} {p0 pos : Pos} {e e2 : Expr} {fs : Sl → Sto → Res (List PV)}
theorem walkZM {φ : Wm} {H : Hp} {xs : List PV} {q : PV} {a b : Addr} (hp : Rep g φ H (.tup xs) (.ref a)) (hq : Rep g φ H q (.ref b)) : WalkS g φ H (fun i s2 => (liveL q s2).bind fun ys => if i ≤ xs.length ∧ i ≤ ys.length then some (xs[i]?.bind fun x => ys[i]?.map fun y => .tup [x, y]) else none) (ItzM g.K a b) := by
  intro i φ1 H1 s1 _ _ S1 rep
  have hp1 := rep _ _ hp
  simp only [Rep] at hp1
  obtain ⟨a', vs, e, tq, R⟩ := hp1
  cases e
  cases q2 : liveL q s1 with
  | none => exact ⟨fun h => by simp [q2] at h, fun p0 h => by simp [q2] at h⟩
  | some ys =>
    obtain ⟨b', us, e, sq2, R2⟩ := liveL_at S1 (rep _ _ hq) q2
    cases e
    by_cases hle : i ≤ xs.length ∧ i ≤ ys.length
    · cases z : xs[i]? with
      | none => exact ⟨fun _ => ⟨vs, us, tq.sq, sq2, by rw [← R.length]; exact hle.1, by rw [← R2.length]; exact hle.2, .inl (by rw [← R.length]; have := List.getElem?_eq_none_iff.mp z; omega)⟩, fun p0 h => by simp [q2, z, hle] at h⟩
      | some x =>
        cases z2 : ys[i]? with
        | none => exact ⟨fun _ => ⟨vs, us, tq.sq, sq2, by rw [← R.length]; exact hle.1, by rw [← R2.length]; exact hle.2, .inr (by rw [← R2.length]; have := List.getElem?_eq_none_iff.mp z2; omega)⟩, fun p0 h => by simp [q2, z, z2, hle] at h⟩
        | some y =>
          obtain ⟨v, hv, rv⟩ := R.get z
          obtain ⟨u, hu, ru⟩ := R2.get z2
          refine ⟨fun h => by simp [q2, z, z2, hle] at h, fun p0 h => ⟨⟨vs, us, v, u, tq.sq, sq2, hv, hu⟩, fun v' H2 yl => ?_⟩⟩
          obtain rfl : PV.tup [x, y] = p0 := by simpa [q2, z, z2, hle] using h
          obtain ⟨T, x', y', rfl, nT, rfl, y1, y2⟩ := yl
          have := y1 vs tq.sq
          rw [hv] at this; cases this
          have := y2 us sq2
          rw [hu] at this; cases this
          have e1 : Le φ1 H1 φ1 (upd H1 T (.tup [v, u])) := Le.new nT (S1.fresh nT)
          refine ⟨φ1, e1, S1.new nT, ?_⟩
          simp only [Rep]
          exact ⟨T, _, rfl, .inl ⟨.inl upd_same, S1.fresh nT⟩, Reps.cons (rv.mono e1) (Reps.cons (ru.mono e1) Reps.nil)⟩
    · exact ⟨fun h => by simp [q2, hle] at h, fun p0 h => by simp [q2, hle] at h⟩
theorem i_zipB {tpos : Pos} {elts : List Expr} {kk : Nat} (hK : X.K = g.K) (hm : X.mg "zip" = none) (ha : PA X [e, e2] (rA g W fs)) (hg : Gl X "zip" := by rfl) (hs : starEach [e, e2] X.env = (false, eval e X.env) :: starEach [e2] X.env := by rfl) (hpl : (backTo pos (starEach [e2] X.env)).any (·.1) = false := by rfl) :
    PI X (.Tuple elts kk tpos) (.Call (.Name "zip" p0) [e, e2] [] pos) (rIt g W (srcZipB fs)) := by
  refine pi_of (pi_zipB hg hm ha hs hpl) ?_
  rintro σ H R ⟨φ, ρ, s, S, E, q⟩
  refine seqAI S E q fun φ1 H1 s1 ps vs e1 S1 R1 q1 => ?_
  match ps, q1 with
  | [p, q], q1 =>
    simp only [Reps] at R1
    obtain ⟨v, _, rfl, r1, u, _, rfl, r2, rfl⟩ := R1
    by_cases hp : ∃ zs, p = .tup zs
    · obtain ⟨zs, rfl⟩ := hp
      obtain ⟨a, vs, rfl, t, r⟩ := rep_tup r1
      have q1' : OutI g W φ1 H1 σ (match liveL q s1 with
        | some ys => Res.ok (⟨min zs.length ys.length, fun i s2 => (liveL q s2).bind fun ys => if i ≤ zs.length ∧ i ≤ ys.length then some (zs[i]?.bind fun x => ys[i]?.map fun y => .tup [x, y]) else none⟩ : Src) s1
        | none => .stk) R := q1
      cases z2 : liveL q s1 with
      | none => simp only [z2] at q1'; exact q1'.elim
      | some ys =>
        simp only [z2] at q1'
        obtain ⟨b, us, rfl, sq2, RR2⟩ := liveL_at S1 r2 z2
        exact ⟨a, b, vs, us, rfl, .inr (.inr ⟨by rw [hK]; exact t.sq, by rw [hK]; exact sq2, by rw [hK]; exact q1' φ1 H1 _ (Le.refl _ _) S1 (walkZM r1 r2)⟩)⟩
    · have q2 : OutI g W φ1 H1 σ (match liveL p s1, liveL q s1 with
        | some xs, some ys => Res.ok (⟨min xs.length ys.length, fun i s2 => (liveL p s2).bind fun xs => (liveL q s2).map fun ys => xs[i]?.bind fun x => ys[i]?.map fun y => .tup [x, y]⟩ : Src) s1
        | _, _ => .stk) R := by
        cases p <;> first | exact q1 | exact absurd ⟨_, rfl⟩ hp
      cases z : liveL p s1 with
      | none => simp only [z] at q2; exact q2.elim
      | some xs =>
        cases z2 : liveL q s1 with
        | none => simp only [z, z2] at q2; exact q2.elim
        | some ys =>
          simp only [z, z2] at q2
          obtain ⟨a, vs, rfl, sq, RR⟩ := liveL_at S1 r1 z
          obtain ⟨b, us, rfl, sq2, RR2⟩ := liveL_at S1 r2 z2
          exact ⟨a, b, vs, us, rfl, .inl ⟨by rw [hK]; exact sq, by rw [hK]; exact sq2, by rw [hK]; exact q2 φ1 H1 _ (Le.refl _ _) S1 (walkZ r1 r2)⟩⟩
end
end Pv

/-! Pv31: in, not in; index; len(set(..)); a list * int that may change; defs as values. -/
namespace Pv
open PySem PySem.Spec PyProof.Rows L2

/-! ### in, not in -/
def rInT (K : PySem.W.Frag) : R2 := fun x y H Q => ∃ d ds, Dp K H x d ∧ Dp K H y (.tuple ds) ∧ SeqAt.shaped d = true ∧ SeqAt.shaped (.tuple ds) = true ∧ Q (.bl (ds.any fun z => PyData.eqv z d)) H
def rNotInT (K : PySem.W.Frag) : R2 := fun x y H Q => ∃ d ds, Dp K H x d ∧ Dp K H y (.tuple ds) ∧ SeqAt.shaped d = true ∧ SeqAt.shaped (.tuple ds) = true ∧ Q (.bl (!ds.any fun z => PyData.eqv z d)) H
theorem lay_tup {ds : List PyData} (h : SeqAt.shaped (.tuple ds) = true) : PyData.canLayAll0 ds = true := by
  have := SeqAt.canLay_of_shaped h
  simpa only [PyData.canLay0] using this
theorem op_inT {X : Cx} (hu : X.A.units + 65 < cLine) : OpR X (compareOp .In) (rInT X.K) := by
  intro pins s σ H x y v u Q I rx ry h
  obtain ⟨d, ds, hd, he, sd, se, q⟩ := h
  obtain ⟨as, r1⟩ := Dp.reads I d x v hd rx
  obtain ⟨bs, r2⟩ := Dp.reads I (.tuple ds) y u he ry
  exact SeqAt.in_tuple_reads r2 r1 (lay_tup se) (SeqAt.canLay_of_shaped sd) (room_in_shaped sd hu) ⟨.bl _, H, I, rfl, q⟩
theorem op_notInT {X : Cx} (hu : X.A.units + 65 < cLine) : OpR X (compareOp .NotIn) (rNotInT X.K) := by
  intro pins s σ H x y v u Q I rx ry h
  obtain ⟨d, ds, hd, he, sd, se, q⟩ := h
  obtain ⟨as, r1⟩ := Dp.reads I d x v hd rx
  obtain ⟨bs, r2⟩ := Dp.reads I (.tuple ds) y u he ry
  exact SeqAt.notIn_tuple_reads r2 r1 (lay_tup se) (SeqAt.canLay_of_shaped sd) (room_in_shaped sd hu) ⟨.bl _, H, I, rfl, q⟩
def inD (p q : PV) (s : Sto) : Option Bool := match toD (rd s p), toD (rd s q) with
  | some d, some (.list ds) => if SeqAt.shaped d && SeqAt.shaped (.list ds) then some (ds.any fun z => PyData.eqv z d) else none
  | some d, some (.tuple ds) => if SeqAt.shaped d && SeqAt.shaped (.tuple ds) then some (ds.any fun z => PyData.eqv z d) else none
  | _, _ => none
def oIn2 (p q : PV) (s : Sto) : Option PV := (inD p q s).map .bl
def oNotIn2 (p q : PV) (s : Sto) : Option PV := (inD p q s).map fun b => .bl (!b)
theorem op_in2 {X : Cx} (hu : X.A.units + 65 < cLine) : OpR X (compareOp .In) (fun x y H Q => rInD X.K x y H Q ∨ rInT X.K x y H Q) := (op_inD hu).or (op_inT hu)
theorem op_notIn2 {X : Cx} (hu : X.A.units + 65 < cLine) : OpR X (compareOp .NotIn) (fun x y H Q => rNotInD X.K x y H Q ∨ rNotInT X.K x y H Q) := (op_notInD hu).or (op_notInT hu)
theorem inD_at {g : G} {φ : Wm} {H : Hp} {s : Sto} {p q : PV} {v u : V} {b : Bool} (S : Sim g φ H s) (R1 : Rep g φ H p v) (R2 : Rep g φ H q u) (e : inD p q s = some b) :
    (∃ d ds, Dp g.K H v d ∧ Dp g.K H u (.list ds) ∧ SeqAt.shaped d = true ∧ SeqAt.shaped (.list ds) = true ∧ b = ds.any fun z => PyData.eqv z d) ∨ (∃ d ds, Dp g.K H v d ∧ Dp g.K H u (.tuple ds) ∧ SeqAt.shaped d = true ∧ SeqAt.shaped (.tuple ds) = true ∧ b = ds.any fun z => PyData.eqv z d) := by
  unfold inD at e
  split at e
  · rename_i d ds h1 h2
    split at e
    · rename_i h
      cases e
      rw [Bool.and_eq_true] at h
      exact .inl ⟨d, ds, dp_rd S R1 h1, dp_rd S R2 h2, h.1, h.2, rfl⟩
    · cases e
  · rename_i d ds h1 h2
    split at e
    · rename_i h
      cases e
      rw [Bool.and_eq_true] at h
      exact .inr ⟨d, ds, dp_rd S R1 h1, dp_rd S R2 h2, h.1, h.2, rfl⟩
    · cases e
  · cases e
theorem o_in2 {g : G} : OpS g (fun x y H Q => rInD g.K x y H Q ∨ rInT g.K x y H Q) oIn2 := by
  intro φ H s p q z v u Q S R1 R2 e k
  unfold oIn2 at e
  rw [Option.map_eq_some_iff] at e
  obtain ⟨b, e, rfl⟩ := e
  rcases inD_at S R1 R2 e with ⟨d, ds, h1, h2, h3, h4, rfl⟩ | ⟨d, ds, h1, h2, h3, h4, rfl⟩
  · exact .inl ⟨d, ds, h1, h2, h3, h4, k φ H _ (Le.refl _ _) S (rep_bl.mpr rfl)⟩
  · exact .inr ⟨d, ds, h1, h2, h3, h4, k φ H _ (Le.refl _ _) S (rep_bl.mpr rfl)⟩
theorem o_notIn2 {g : G} : OpS g (fun x y H Q => rNotInD g.K x y H Q ∨ rNotInT g.K x y H Q) oNotIn2 := by
  intro φ H s p q z v u Q S R1 R2 e k
  unfold oNotIn2 at e
  rw [Option.map_eq_some_iff] at e
  obtain ⟨b, e, rfl⟩ := e
  rcases inD_at S R1 R2 e with ⟨d, ds, h1, h2, h3, h4, rfl⟩ | ⟨d, ds, h1, h2, h3, h4, rfl⟩
  · exact .inl ⟨d, ds, h1, h2, h3, h4, k φ H _ (Le.refl _ _) S (rep_bl.mpr rfl)⟩
  · exact .inr ⟨d, ds, h1, h2, h3, h4, k φ H _ (Le.refl _ _) S (rep_bl.mpr rfl)⟩

/-! ### l.index(x) -/
def firstE (d : PyData) : List PyData → Nat → Option Nat
  | [], _ => none
  | z :: r, j => if PyData.eqv z d then some j else firstE d r (j + 1)
theorem firstE_at {d : PyData} : ∀ {ds : List PyData} {j k : Nat}, firstE d ds j = some k → ∃ m z, k = j + m ∧ ds[m]? = some z ∧ PyData.eqv z d = true ∧ ∀ i z', i < m → ds[i]? = some z' → PyData.eqv z' d = false
  | [], j, k, h => by cases h
  | z :: r, j, k, h => by
    unfold firstE at h
    split at h
    · rename_i hz
      cases h
      exact ⟨0, z, rfl, rfl, hz, fun i z' hi => by omega⟩
    · rename_i hz
      obtain ⟨m, z1, e, h1, h2, h3⟩ := firstE_at h
      refine ⟨m + 1, z1, by omega, by simpa using h1, h2, fun i z' hi e' => ?_⟩
      cases i with
      | zero =>
        simp at e'
        subst e'
        simpa using hz
      | succ i => exact h3 i z' (by omega) (by simpa using e')
def oIndex (p q : PV) (s : Sto) : Option PV := match (toD (rd s p)).bind listD, toD (rd s q) with
  | some ds, some d => if SeqAt.shaped (.list ds) && SeqAt.shaped d then (firstE d ds 0).map fun j => .int (j : Nat) else none
  | _, _ => none
theorem listD_eq {d : PyData} {ds : List PyData} (h : listD d = some ds) : d = .list ds := by
  cases d <;> simp [listD] at h
  rw [h]
def fIndex (fo fe : EF) : EF := fun ρ s => (fo ρ s).bind fun p s1 => match liveL p s1 with
  | some _ => (fe ρ s1).bind fun q s2 => lift1 (oIndex p q s2) s2
  | none => .stk
section
variable {g : G} {W : WX} {X : Cx} {o e : Expr} {fo fe : EF} {apos cpos : Pos}
theorem x_index (hK : X.K = g.K) (hu : X.A.units + 65 < cLine) (ho : PE X o (rE g W fo)) (he : PE X e (rE g W fe))
    (hse : starEach [e] X.env = (false, eval e X.env) :: starEach [] X.env := by rfl)
    (hbase : attributeBase o "index" X.env (eval o X.env) = eval o X.env := by rfl)
    (hfew : ((backTo cpos (starEach [e] X.env)).all (fun x => !x.1) && (backToKw cpos (keywordEach [] X.env)).all (fun x => x.1.isSome)
      && decide ([e].length + ([] : List Keyword).length + (if ([] : List Keyword).isEmpty then 0 else 1) < 30)) = true := by rfl)
    (hline : (apos.endLine == cpos.line) = true := by rfl) (hplain : (backTo cpos (starEach [] X.env)).any (·.1) = false := by rfl) :
    PE X (.Call (.Attribute o "index" apos) [e] [] cpos) (rE g W (fIndex fo fe)) := by
  refine pe_of (pe_bm PySem.F.plainAttrs_list PySem.F.slot_list_index PySem.F.type_list_index (mt_indexD hu) ho (pa_cons he pa_nil hse) hbase hfew hline hse hplain) ?_
  rintro σ H Q ⟨φ, ρ, s, S, E, q⟩
  refine seqEE S E q fun φ1 H1 s1 p v e1 S1 R1 q1 => ?_
  cases zl : liveL p s1 with
  | none => simp only [zl] at q1; exact q1.elim
  | some xs =>
    simp only [zl] at q1
    obtain ⟨a, vs, rfl, sq, _⟩ := liveL_at S1 R1 zl
    refine ⟨.inl ⟨rfl, vs, by rw [hK]; exact sq⟩, ?_⟩
    refine seqEE S1 (E.mono e1) q1 fun φ2 H2 s2 x u e2 S2 R2 q2 => ?_
    cases z : oIndex p x s2 with
    | none => rw [z] at q2; exact q2.elim
    | some w =>
      rw [z] at q2
      unfold oIndex at z
      split at z
      · rename_i ds d h1 h2
        split at z
        · rename_i hsh
          rw [Option.map_eq_some_iff] at z
          obtain ⟨j, hj, rfl⟩ := z
          rw [Bool.and_eq_true] at hsh
          rw [Option.bind_eq_some_iff] at h1
          obtain ⟨dl, h3, h4⟩ := h1
          obtain rfl := listD_eq h4
          obtain ⟨m, zz, em, g1, g2, g3⟩ := firstE_at hj
          rw [Nat.zero_add] at em
          subst em
          exact ⟨a, u, d, ds, j, zz, rfl, rfl, by rw [hK]; exact dp_rd S2 (R1.mono e2) h3, by rw [hK]; exact dp_rd S2 R2 h2, hsh.1, hsh.2, g1, g2, g3, q2 φ2 H2 _ (Le.refl _ _) S2 (rep_int.mpr rfl)⟩
        · cases z
      · cases z

/-! ### len(set(l)), where no int comes twice -/
def fLenSet (fe : EF) : EF := fun ρ s => (fe ρ s).bind fun p s1 => match (liveL p s1).bind intsP with
  | some ns => if ns.Nodup ∧ ns.length ≤ 4000 then .ok (.int (ns.length : Nat)) s1 else .stk
  | none => .stk
theorem x_lenSet {p p2 q pos : Pos} (hK : X.K = g.K) (hc : X.calm = true) (hm : X.mg "len" = none) (hm2 : X.mg "set" = none) (he : PE X e (rE g W fe)) (hg : Gl X "len" := by rfl) (hg2 : Gl X "set" := by rfl)
    (na : starEach [e] X.env = (false, eval e X.env) :: starEach [] X.env := by rfl) : PE X (.Call (.Name "len" p) [.Call (.Name "set" p2) [e] [] q] [] pos) (rE g W (fLenSet fe)) := by
  refine pe_of (RZ.pe_lenSetI hg hm hg2 hm2 he hc na) ?_
  rintro σ H Q ⟨φ, ρ, s, S, E, q⟩
  refine seqEE S E q fun φ1 H1 s1 p v e1 S1 R1 q1 => ?_
  cases zl : (liveL p s1).bind intsP with
  | none => simp only [zl] at q1; exact q1.elim
  | some ns =>
    simp only [zl] at q1
    by_cases hn : ns.Nodup ∧ ns.length ≤ 4000
    · rw [if_pos hn] at q1
      rw [Option.bind_eq_some_iff] at zl
      obtain ⟨xs, h1, h2⟩ := zl
      obtain ⟨a, vs, rfl, sq, r⟩ := liveL_at S1 R1 h1
      exact ⟨a, ns, rfl, by rw [← intsP_at r h2, hK]; exact sq, hn.1, hn.2, q1 φ1 H1 _ (Le.refl _ _) S1 (rep_int.mpr rfl)⟩
    · rw [if_neg hn] at q1; exact q1.elim

/-! ### a list * int that may change later -/
def mulL (xs : List PV) (k : Int) (s2 : Sto) : Res PV := if 0 ≤ k ∧ k.toNat ≤ 10000000 ∧ xs.length * k.toNat ≤ 10000000 then .ok (.loc s2.objs.length) (s2.alloc (.lst (List.replicate k.toNat xs).flatten)) else .stk
def fMulL (fa fb : EF) : EF := fun ρ s => (fa ρ s).bind fun p s1 => (fb ρ s1).bind fun q s2 => match lstW p s2, q with
  | some xs, .int k => mulL xs k s2
  | _, _ => .stk
theorem x_mulL {a b : Expr} {fa fb : EF} {pos : Pos} (ha : PE X a (rE g W fa)) (hb : PE X b (rE g W fb)) : PE X (.BinOp a .Mult b pos) (rE g W (fMulL fa fb)) := by
  refine pe_of (pe_op op_rep ha hb) ?_
  rintro σ H Q ⟨φ, ρ, s, S, E, h⟩
  refine seqEE S E h fun φ1 H1 s1 p v e1 S1 R1 h1 => ?_
  refine seqEE S1 (E.mono e1) h1 fun φ2 H2 s2 q u e2 S2 R2 h2 => ?_
  cases z : lstW p s2 with
  | none => simp only [z] at h2; exact h2.elim
  | some xs =>
    cases q with
    | int k =>
      simp only [z] at h2
      unfold mulL at h2
      by_cases hl : 0 ≤ k ∧ k.toNat ≤ 10000000 ∧ xs.length * k.toNat ≤ 10000000
      · rw [if_pos hl] at h2
        have g1 : -(2 ^ 63) ≤ k := Int.le_trans (show -(2 ^ 63) ≤ (0 : Int) by decide) hl.1
        have g2 : k < 2 ^ 63 := Int.lt_of_lt_of_le (show k < 100000000 by omega) (by decide)
        obtain rfl := rep_int.mp R2
        obtain ⟨a, vs, rfl, hH, r⟩ := lstW_at S2 (R1.mono e2) z
        refine ⟨a, k, vs, rfl, rfl, hH, g1, g2, by rw [← r.length]; exact line7 hl.2.2, fun p hp => ?_⟩
        refine h2 (φ2.add p) _ _ (Le.alloc hp) (S2.alloc hp (r.flat _)) ?_
        simp only [Rep]
        refine ⟨p, rfl, ?_⟩
        show (φ2.locs ++ [p])[s2.objs.length]? = some p
        rw [← S2.len, List.getElem?_concat_length]
      · rw [if_neg hl] at h2; exact h2.elim
    | _ => simp only [z] at h2; exact h2.elim
end

/-! ### defs as values: .cls c stands for the def whose place is g.cls c -/
structure HeldB (g : G) (k c n : Nat) (F : List PV → Sto → Res PV) : Prop where
  ex : ∃ (x : Str) (st : Stmt) (ps : List Str) (f : Addr) (fd : FuncData), g.cls c = f ∧ FunAt g x st ps f fd ∧ FnGb g k f fd ps F ∧ ps.length = n
abbrev HeldG (g : G) := HeldB g.b
def fCallF (T : Nat → Option (List PV → Sto → Res PV)) (i n : Nat) (fs : Sl → Sto → Res (List PV)) : EF := fun ρ s => match ρ[i]? with
  | some (some (.cls c)) => match T c with
    | some F => fCall n F fs ρ s
    | none => .stk
  | _ => .stk
section
variable {g : G} {W : WX} {X : Cx} {i j n k : Nat} {T : Nat → Option (List PV → Sto → Res PV)} {x : Str} {p pos : Pos} {e : Expr} {es : List Expr} {fs : Sl → Sto → Res (List PV)}
theorem x_callF (hX : InG g X) (hT : ∀ c F, T c = some F → HeldG g k c n F) (hr : Room j X.A) (hk : k ≤ j) (tk : Takes X W) (ha : PA X (e :: es) (rA g W fs)) (hN : X.N[i]? = some x := by rfl) (hv : Vis X.env.scope x := by first | exact Or.inl rfl | exact Or.inr (Or.inl rfl) | exact Or.inr (Or.inr rfl))
    (hd : (x == ("__debug__" : Str)) = false := by decide) (hcd : (x == ("__classdict__" : Str)) = false := by decide) (he : starEach (e :: es) X.env = (false, eval e X.env) :: starEach es X.env := by rfl) (hpl : (backTo pos (starEach es X.env)).any (·.1) = false := by rfl) :
    PE X (.Call (.Name x p) (e :: es) [] pos) (rE g W (fCallF T i n fs)) := by
  refine ⟨fun pins s σ H Q I h => ?_⟩
  obtain ⟨φ, ρ, st, S, E, q⟩ := h
  unfold fCallF at q
  split at q
  · rename_i c hp
    cases hF : T c with
    | none => simp only [hF] at q; exact q.elim
    | some F =>
      simp only [hF] at q
      obtain ⟨xn, stt, ps, f, fd, hcf, FA, Fn, hpsn⟩ := (hT c F hF).ex
      obtain ⟨v, ev, rv⟩ := E.at_ i _ hp
      obtain rfl : v = .ref f := by
        rw [← hcf]
        show v = .ref (g.cls c)
        simpa only [Rep] using rv
      refine wpAny_Call_Name_kw (thn ((pe_var (pos := p) hN hv hd hcd).run pins s σ H (fun v H1 => v = .ref f ∧ H1 = H) I ⟨.ref f, ev, rfl, rfl⟩) fun u s1 ⟨v, H1, I1, r1, q1⟩ => ?_)
      obtain ⟨ev1, eH⟩ := q1
      subst ev1
      rw [eH] at I1
      obtain rfl : u = Value.ref f := r1
      subst hpsn
      refine PySem.W.callWith_K (h₀ := X.base) I1.ok.mod.kin (by rw [hX.K]; exact (show PySem.W.keepIn g.K (.ref f) = true from FA.F.kp)) (thn (ha.run pos pins s1 σ H _ I1 (call_sp σ H Q ⟨φ, ρ, st, S, E, q⟩)) fun us s2 ⟨vs, H2, I2, r, hl, q2⟩ => ⟨I2.kIn, ?_⟩) he hpl
      have hlu : us.length = ps.length := by rw [← r.length]; exact hl
      have b := FA.b s2 us (by show g.K.In _; rw [← hX.K]; exact I2.kIn) (by rw [List.append_nil]; exact hlu)
      rw [List.append_nil] at b
      exact run_g (args := ⟨us, []⟩) hX Fn hr hk tk I2 b r hl q2
  · exact q.elim
/-- a def's name as a value -/
theorem x_fn {c : Nat} (hX : InG g X) (hm : g.mg x = some (.ref (g.cls c))) (hg : Gl X x := by rfl) (hd : (x == ("__debug__" : Str)) = false := by decide) : PE X (.Name x pos) (rE g W (fC (.cls c))) := x_cls hX hm hg hd
end
end Pv

/-! Pv32: sources, comprehensions and loops whose bodies leave the store as it is. -/
namespace Pv
open PySem PySem.Spec PyProof.Rows L2

/-- at the store s the source gives just the items ys -/
structure SrcAt (src : Sl → Sto → Res Src) (ρ : Sl) (s : Sto) (ys : List PV) : Prop where
  ex : ∃ J, src ρ s = .ok J s ∧ J.n = ys.length ∧ ∀ i, i ≤ ys.length → J.it i s = some ys[i]?
theorem srcAt_seq {fe : EF} {ρ : Sl} {s : Sto} {p : PV} {xs : List PV} (h : fe ρ s = .ok p s) (hl : seqOf p s = some xs) : SrcAt (srcE fe) ρ s xs := by
  refine ⟨?_⟩
  unfold srcE
  rw [h]
  show ∃ J, srcOf p s = .ok J s ∧ _
  by_cases hp : ∃ ys, p = .tup ys
  · obtain ⟨ys, rfl⟩ := hp
    simp only [seqOf, Option.some.injEq] at hl; subst hl
    exact ⟨_, rfl, rfl, fun _ _ => rfl⟩
  · have : liveL p s = some xs := by cases p <;> first | exact hl | exact absurd ⟨_, rfl⟩ hp
    obtain ⟨it, e, hit⟩ := srcOf_live this
    exact ⟨_, e, rfl, fun i _ => hit i s this⟩
theorem srcAt_rng1 {fs : Sl → Sto → Res (List PV)} {ρ : Sl} {s : Sto} {n : Nat} (h : fs ρ s = .ok [.int (n : Int)] s) (hn : n < 1000000) : SrcAt (srcR1 fs) ρ s ((List.range n).map fun i => .int (i : Nat)) := by
  refine ⟨_, srcR1_eq h (by omega) (by omega), by simp, fun i _ => ?_⟩
  show some (if i < (n : Int).toNat then some (PV.int (i : Int)) else none) = _
  rw [Int.toNat_natCast]
  by_cases hi : i < n
  · rw [if_pos hi, List.getElem?_map, List.getElem?_range hi]; rfl
  · rw [if_neg hi, List.getElem?_eq_none (by simpa using hi)]
/-- the pairs of enumerate -/
def enL (xs : List PV) : List PV := (List.range xs.length).map fun i => .tup [.int (i : Nat), xs.getD i .non]
theorem enL_get (xs : List PV) (i : Nat) : (enL xs)[i]? = xs[i]?.map fun x => .tup [.int (i : Nat), x] := by
  unfold enL
  rw [List.getElem?_map]
  by_cases hi : i < xs.length
  · rw [List.getElem?_range hi, List.getElem?_eq_getElem hi]
    simp [List.getD_eq_getElem?_getD, hi]
  · rw [List.getElem?_eq_none (by simpa using hi), List.getElem?_eq_none (by omega)]
    rfl
theorem enL_len (xs : List PV) : (enL xs).length = xs.length := by simp [enL]
theorem srcAt_en {fs : Sl → Sto → Res (List PV)} {ρ : Sl} {s : Sto} {p : PV} {xs : List PV} (h : fs ρ s = .ok [p] s) (hl : seqOf p s = some xs) : SrcAt (srcEnA fs) ρ s (enL xs) := by
  refine ⟨?_⟩
  unfold srcEnA
  rw [h]
  show ∃ J, enOf p s = .ok J s ∧ _
  by_cases hp : ∃ ys, p = .tup ys
  · obtain ⟨ys, rfl⟩ := hp
    simp only [seqOf, Option.some.injEq] at hl; subst hl
    exact ⟨_, rfl, (enL_len _).symm, fun i _ => by rw [enL_get]⟩
  · have hv : liveL p s = some xs := by cases p <;> first | exact hl | exact absurd ⟨_, rfl⟩ hp
    have e : enOf p s = .ok ⟨xs.length, fun i s2 => (liveL p s2).map fun xs => xs[i]?.map fun x => .tup [.int i, x]⟩ s := by
      have e0 : enOf p s = (match liveL p s with | some xs => Res.ok (⟨xs.length, fun i s2 => (liveL p s2).map fun xs => xs[i]?.map fun x => .tup [.int i, x]⟩ : Src) s | none => .stk) := by
        cases p <;> first | rfl | exact absurd ⟨_, rfl⟩ hp
      rw [e0, hv]
    exact ⟨_, e, (enL_len _).symm, fun i _ => by rw [enL_get]; show Option.map _ (liveL p s) = _; rw [hv]; rfl⟩
/-- the pairs of zip -/
def zipP (xs ys : List PV) : List PV := (xs.zip ys).map fun q => .tup [q.1, q.2]
theorem zipP_get (xs ys : List PV) (i : Nat) : (zipP xs ys)[i]? = xs[i]?.bind fun x => ys[i]?.map fun y => .tup [x, y] := by
  unfold zipP
  rw [List.getElem?_map]
  by_cases hx : i < xs.length
  · by_cases hy : i < ys.length
    · have : (xs.zip ys)[i]? = some (xs[i], ys[i]) := by
        rw [List.getElem?_eq_getElem (by simp; omega)]
        simp
      rw [this, List.getElem?_eq_getElem hx, List.getElem?_eq_getElem hy]; rfl
    · rw [List.getElem?_eq_none (by simp; omega), List.getElem?_eq_getElem hx, List.getElem?_eq_none (by omega)]; rfl
  · rw [List.getElem?_eq_none (by simp; omega), List.getElem?_eq_none (by omega)]; rfl
theorem zipP_len (xs ys : List PV) : (zipP xs ys).length = min xs.length ys.length := by simp [zipP]
theorem srcAt_zip {fs : Sl → Sto → Res (List PV)} {ρ : Sl} {s : Sto} {p q : PV} {xs ys : List PV} (h : fs ρ s = .ok [p, q] s) (h1 : seqOf p s = some xs) (h2 : liveL q s = some ys) : SrcAt (srcZipB fs) ρ s (zipP xs ys) := by
  refine ⟨?_⟩
  unfold srcZipB
  rw [h]
  show ∃ J, zipOf p q s = .ok J s ∧ _
  by_cases hp : ∃ ys, p = .tup ys
  · obtain ⟨zs, rfl⟩ := hp
    simp only [seqOf, Option.some.injEq] at h1; subst h1
    have e : zipOf (.tup zs) q s = .ok ⟨min zs.length ys.length, fun i s2 => (liveL q s2).bind fun ys => if i ≤ zs.length ∧ i ≤ ys.length then some (zs[i]?.bind fun x => ys[i]?.map fun y => .tup [x, y]) else none⟩ s := by
      unfold zipOf
      simp only [h2]
    refine ⟨_, e, (zipP_len _ _).symm, fun i hi => ?_⟩
    rw [zipP_len] at hi
    rw [zipP_get]
    show Option.bind (liveL q s) _ = _
    rw [h2]
    show (if i ≤ zs.length ∧ i ≤ ys.length then _ else _) = _
    rw [if_pos ⟨by omega, by omega⟩]
  · have hv : liveL p s = some xs := by cases p <;> first | exact h1 | exact absurd ⟨_, rfl⟩ hp
    have e : zipOf p q s = .ok ⟨min xs.length ys.length, fun i s2 => (liveL p s2).bind fun xs => (liveL q s2).map fun ys => xs[i]?.bind fun x => ys[i]?.map fun y => .tup [x, y]⟩ s := by
      have e0 : zipOf p q s = (match liveL p s, liveL q s with | some xs, some ys => Res.ok (⟨min xs.length ys.length, fun i s2 => (liveL p s2).bind fun xs => (liveL q s2).map fun ys => xs[i]?.bind fun x => ys[i]?.map fun y => .tup [x, y]⟩ : Src) s | _, _ => .stk) := by
        cases p <;> first | rfl | exact absurd ⟨_, rfl⟩ hp
      rw [e0, hv, h2]
    refine ⟨_, e, (zipP_len _ _).symm, fun i _ => ?_⟩
    rw [zipP_get]
    show Option.bind (liveL p s) _ = _
    rw [hv]
    show Option.map _ (liveL q s) = _
    rw [h2]
    rfl
/-- a comprehension whose elements are plain -/
theorem fLcT_map {vs : List Nat} {src : Sl → Sto → Res Src} {gt : GF} {fe : EF} {ρ ρ0 : Sl} {s : Sto} {α : Type} (l : List α) (g f : α → PV) (hs : SrcAt src ρ s (l.map g)) (hw : wipeR ρ vs = ρ0) (hn : l.length < 10000000)
    (he : ∀ a ∈ l, ∃ ρ1, gt (g a) ρ0 s = some (ρ1, s) ∧ fe ρ1 s = .ok (f a) s) : fLcT vs src gt fYes fe ρ s = .ok (.tmp (l.map f)) s := by
  obtain ⟨J, e1, e2, e3⟩ := hs.ex
  rw [List.length_map] at e2 e3
  obtain ⟨acc, s', e, rfl, rfl, _⟩ := compN_inv (it := J.it) (gt := gt) (ft := fYes) (fe := fe) (ρ0 := ρ0) (N := l.length) (fun i => (l.map g).getD i .non) (fun i s' acc => s' = s ∧ acc = (l.take i).map f ∧ i ≤ l.length) hn
    (fun i s' acc hI => by
      obtain ⟨rfl, _, hle⟩ := hI
      rw [e3 i hle]
      by_cases hi : i < l.length
      · rw [if_pos hi, List.getElem?_map, List.getD_eq_getElem?_getD, List.getElem?_map, List.getElem?_eq_getElem hi]; rfl
      · rw [if_neg hi, List.getElem?_eq_none (by rw [List.length_map]; omega)])
    (fun i s' acc hi hI => by
      obtain ⟨rfl, rfl, _⟩ := hI
      obtain ⟨ρ1, h1, h2⟩ := he _ (List.getElem_mem hi)
      have hg : (l.map g).getD i .non = g l[i] := by rw [List.getD_eq_getElem?_getD, List.getElem?_map, List.getElem?_eq_getElem hi]; rfl
      rw [hg]
      refine ⟨ρ1, s', h1, .inl ⟨s', f l[i], s', rfl, h2, rfl, ?_, hi⟩⟩
      rw [List.take_add_one, List.getElem?_eq_getElem hi, List.map_append]
      rfl)
    (l.length + 1) 0 s [] (by omega) (Nat.zero_le _) (Nat.zero_le _) ⟨rfl, rfl, Nat.zero_le _⟩
  rw [List.take_length] at e
  rw [← e2] at e
  exact fLcT_ok e1 hw e
/-- a for whose body leaves the store alone -/
theorem fFor_pure {src : Sl → Sto → Res Src} {gt : GF} {fb : SF} {ρ : Sl} {s : Sto} {ys : List PV} (hs : SrcAt src ρ s ys) (Inv : Nat → Sl → Prop) (h0 : Inv 0 ρ)
    (step : ∀ i ρ (hi : i < ys.length), Inv i ρ → ∃ ρ1 ρ', gt (ys[i]) ρ s = some (ρ1, s) ∧ fb ρ1 s = .nx ρ' s ∧ Inv (i + 1) ρ') :
    ∃ ρ', fFor src gt fb ρ s = .nx ρ' s ∧ Inv ys.length ρ' := by
  obtain ⟨J, e1, e2, e3⟩ := hs.ex
  obtain ⟨ρ', s', e, I', rfl, _⟩ := forN_inv (it := J.it) (gt := gt) (fb := fb) (N := ys.length) (fun i => ys.getD i .non) (fun i ρ s' => Inv i ρ ∧ s' = s ∧ i ≤ ys.length)
    (fun i ρ s' hI => by
      obtain ⟨_, rfl, hle⟩ := hI
      rw [e3 i hle]
      by_cases hi : i < ys.length
      · rw [if_pos hi, List.getD_eq_getElem?_getD, List.getElem?_eq_getElem hi]; rfl
      · rw [if_neg hi, List.getElem?_eq_none (by omega)])
    (fun i ρ s' hi hI => by
      obtain ⟨hI, rfl, _⟩ := hI
      obtain ⟨ρ1, ρ', h1, h2, h3⟩ := step i ρ hi hI
      have hg : ys.getD i .non = ys[i] := by rw [List.getD_eq_getElem?_getD, List.getElem?_eq_getElem hi]; rfl
      rw [hg]
      exact ⟨ρ1, s', ρ', s', h1, .inl h2, h3, rfl, hi⟩)
    (ys.length + 1) 0 ρ s (by omega) (Nat.zero_le _) ⟨h0, rfl, Nat.zero_le _⟩
  rw [← e2] at e
  exact ⟨ρ', fFor_ok e1 e, I'⟩
/-- a for over items that stay, whose body may write elsewhere -/
theorem fFor_any {src : Sl → Sto → Res Src} {gt : GF} {fb : SF} {ρ : Sl} {s : Sto} {ys : List PV} {J : Src} (e1 : src ρ s = .ok J s) (e2 : J.n = ys.length) (Inv : Nat → Sl → Sto → Prop) (e3 : ∀ i ρ' s', Inv i ρ' s' → i ≤ ys.length → J.it i s' = some ys[i]?) (h0 : Inv 0 ρ s)
    (step : ∀ i ρ s (hi : i < ys.length), Inv i ρ s → ∃ ρ1 s1 ρ' s', gt (ys[i]) ρ s = some (ρ1, s1) ∧ fb ρ1 s1 = .nx ρ' s' ∧ Inv (i + 1) ρ' s') :
    ∃ ρ' s', fFor src gt fb ρ s = .nx ρ' s' ∧ Inv ys.length ρ' s' := by
  obtain ⟨ρ', s', e, I', _⟩ := forN_inv (it := J.it) (gt := gt) (fb := fb) (N := ys.length) (fun i => ys.getD i .non) (fun i ρ s' => Inv i ρ s' ∧ i ≤ ys.length)
    (fun i ρ s' hI => by
      obtain ⟨hI, hle⟩ := hI
      rw [e3 i ρ s' hI hle]
      by_cases hi : i < ys.length
      · rw [if_pos hi, List.getD_eq_getElem?_getD, List.getElem?_eq_getElem hi]; rfl
      · rw [if_neg hi, List.getElem?_eq_none (by omega)])
    (fun i ρ s' hi hI => by
      obtain ⟨hI, _⟩ := hI
      obtain ⟨ρ1, s1, ρ', s2, h1, h2, h3⟩ := step i ρ s' hi hI
      have hg : ys.getD i .non = ys[i] := by rw [List.getD_eq_getElem?_getD, List.getElem?_eq_getElem hi]; rfl
      rw [hg]
      exact ⟨ρ1, s1, ρ', s2, h1, .inl h2, h3, hi⟩)
    (ys.length + 1) 0 ρ s (by omega) (Nat.zero_le _) ⟨h0, Nat.zero_le _⟩
  rw [← e2] at e
  exact ⟨ρ', s', fFor_ok e1 e, I'⟩
theorem bols_map {α : Type} (l : List α) (b : α → Bool) : bolsP (l.map fun a => PV.bl (b a)) = some (l.map b) := by
  have := bolsP_map (l.map b)
  rw [List.map_map] at this
  exact this
theorem oAll_map {α : Type} (l : List α) (b : α → Bool) (s : Sto) : oAll [.tmp (l.map fun a => PV.bl (b a))] s = some (.bl (l.all b)) := by
  simp only [oAll, liveL, Option.bind_some, bols_map, Option.map_some]
  rw [List.all_map]
  rfl
theorem oAny_map {α : Type} (l : List α) (b : α → Bool) (s : Sto) : oAny [.tmp (l.map fun a => PV.bl (b a))] s = some (.bl (l.any b)) := by
  simp only [oAny, liveL, Option.bind_some, bols_map, Option.map_some]
  rw [List.any_map]
  rfl
theorem seqOf_tup (xs : List PV) (s : Sto) : seqOf (.tup xs) s = some xs := rfl
theorem seqOf_tmp (xs : List PV) (s : Sto) : seqOf (.tmp xs) s = some xs := rfl
theorem oTuple_tmp (xs : List PV) (s : Sto) : oTuple [.tmp xs] s = some (.tup xs) := rfl
theorem oTuple_tup (xs : List PV) (s : Sto) : oTuple [.tup xs] s = some (.tup xs) := rfl
theorem oListT_tup (xs : List PV) (s : Sto) : oListT [.tup xs] s = some (.tmp xs) := rfl
theorem oLen_tup (xs : List PV) (s : Sto) : oLen [.tup xs] s = some (.int (xs.length : Nat)) := by simp [oLen, seqOf]
theorem oLen_tmp (xs : List PV) (s : Sto) : oLen [.tmp xs] s = some (.int (xs.length : Nat)) := by simp [oLen, seqOf, liveL]
theorem oIx_tupN {xs : List PV} {i : Nat} {p : PV} (h : xs[i]? = some p) (s : Sto) : oIx (.tup xs) (.int (i : Nat)) s = some p := by
  have hi := (List.getElem?_eq_some_iff.mp h).1
  simp only [oIx, seqOf, Option.bind_some]
  rw [ixP_get xs i hi, ← h, List.getElem?_eq_getElem hi]
theorem oIx_tmpN {xs : List PV} {i : Nat} {p : PV} (h : xs[i]? = some p) (s : Sto) : oIx (.tmp xs) (.int (i : Nat)) s = some p := by
  have hi := (List.getElem?_eq_some_iff.mp h).1
  simp only [oIx, seqOf, liveL, Option.bind_some]
  rw [ixP_get xs i hi, ← h, List.getElem?_eq_getElem hi]
theorem oIx_0 (x : PV) (r : List PV) (s : Sto) : oIx (.tup (x :: r)) (.int 0) s = some x := by simp [oIx, seqOf, ixP_0]
theorem oIx_1 (x y : PV) (r : List PV) (s : Sto) : oIx (.tup (x :: y :: r)) (.int 1) s = some y := by simp [oIx, seqOf, ixP_1]
theorem oIx_2 (x y z : PV) (r : List PV) (s : Sto) : oIx (.tup (x :: y :: z :: r)) (.int 2) s = some z := by simp [oIx, seqOf, ixP_2]
/-- a tuple of one thing so many times -/
theorem oMul_rep (x : PV) {m : Nat} (h1 : 1 ≤ m) (h2 : m ≤ 1000) (s : Sto) : oMul (.tup [x]) (.int (m : Nat)) s = some (.tup (List.replicate m x)) := by
  by_cases hm : m = 1
  · subst hm
    rfl
  · have hc : ([x] ≠ [] ∧ 2 ≤ (m : Int) ∧ (m : Int) ≤ 1000 ∧ [x].length ≤ 1000) := ⟨by simp, by omega, by omega, by simp⟩
    simp only [oMul, if_pos hc, Int.toNat_natCast]
    congr 2
    induction m with
    | zero => rfl
    | succ k ih => clear ih hc h1 h2 hm; induction k with
      | zero => rfl
      | succ j ihj => rw [List.replicate_succ, List.flatten_cons, ihj]; rfl

theorem isCT_lt {t : List (List (Option Bool))} {c d : Nat} {b : Bool} (e : isCT t c d = some b) (hT : (t.all fun r => decide (r.length ≤ t.length)) = true) : c < t.length ∧ d < t.length := by
  unfold isCT at e
  have hc : c < t.length := by
    by_cases hc : c < t.length
    · exact hc
    · rw [List.getD_eq_getElem?_getD (l := t), List.getElem?_eq_none (by omega)] at e
      simp at e
  have hr : (t.getD c []).length ≤ t.length := by
    rw [List.getD_eq_getElem?_getD, List.getElem?_eq_getElem hc]
    exact of_decide_eq_true (List.all_eq_true.mp hT _ (List.getElem_mem hc))
  refine ⟨hc, ?_⟩
  by_cases hd : d < (t.getD c []).length
  · omega
  · rw [List.getD_eq_getElem?_getD (i := d), List.getElem?_eq_none (by omega)] at e
    simp at e
theorem getD_lt {α : Type} {l : List α} {i n : Nat} {x y : α} (h : i < n) (hn : n ≤ l.length := by decide) : l.getD i x = l.getD i y := by
  rw [List.getD_eq_getElem?_getD, List.getD_eq_getElem?_getD, List.getElem?_eq_getElem (by omega)]
  rfl
end Pv

/-! Pv33: the functions over fractions, told of rational numbers. -/
namespace Pv
open PySem PySem.Spec PyProof.Rows L2
def B_minus : SF := fRet (fCall 2 F_told_fraction (fCons (fOp oSub (fOp oMul (fOp oIx (fVar 0) (fC (.int 0))) (fOp oIx (fVar 1) (fC (.int 1)))) (fOp oMul (fOp oIx (fVar 1) (fC (.int 0))) (fOp oIx (fVar 0) (fC (.int 1))))) (fCons (fOp oMul (fOp oIx (fVar 0) (fC (.int 1))) (fOp oIx (fVar 1) (fC (.int 1)))) fNil)))
def F_minus : List PV → Sto → Res PV := fDef 2 2 B_minus
def B_times : SF := fRet (fCall 2 F_told_fraction (fCons (fOp oMul (fOp oIx (fVar 0) (fC (.int 0))) (fOp oIx (fVar 1) (fC (.int 0)))) (fCons (fOp oMul (fOp oIx (fVar 0) (fC (.int 1))) (fOp oIx (fVar 1) (fC (.int 1)))) fNil)))
def F_times : List PV → Sto → Res PV := fDef 2 2 B_times
def B_opposite : SF := fRet (fTup (fCons (fUn oNeg (fOp oIx (fVar 0) (fC (.int 0)))) (fCons (fOp oIx (fVar 0) (fC (.int 1))) fNil)))
def F_opposite : List PV → Sto → Res PV := fDef 1 1 B_opposite
def B_least_of : SF := fSeq (fAsg (fOp oIx (fVar 0) (fC (.int 0))) (gfName 1)) (fSeq (fFor (srcE (fVar 0)) (gfName 2) (fAsg (fIf (fB (fCall 2 F_is_less (fCons (fVar 2) (fCons (fVar 1) fNil)))) (fVar 2) (fVar 1)) (gfName 1))) (fRet (fVar 1)))
def F_least_of : List PV → Sto → Res PV := fDef 1 3 B_least_of
def B_greatest_of : SF := fRet (fCall 1 F_opposite (fCons (fCall 1 F_least_of (fCons (fLcT [1] (srcE (fVar 0)) (gfName 1) fYes (fCall 1 F_opposite (fCons (fVar 1) fNil))) fNil)) fNil))
def F_greatest_of : List PV → Sto → Res PV := fDef 1 2 B_greatest_of
def B_summed : SF := fSeq (fAsg (fTup (fCons (fC (.int 0)) (fCons (fC (.int 1)) fNil))) (gfTup 2 (gfCons (gfName 1) (gfCons (gfName 2) gfNil)))) (fSeq (fFor (srcE (fVar 0)) (gfName 3) (fPar 1 2 (fCons (fOp oAdd (fOp oMul (fVar 1) (fOp oIx (fVar 3) (fC (.int 1)))) (fOp oMul (fOp oIx (fVar 3) (fC (.int 0))) (fVar 2))) (fCons (fOp oMul (fVar 2) (fOp oIx (fVar 3) (fC (.int 1)))) fNil)))) (fRet (fCall 2 F_told_fraction (fCons (fVar 1) (fCons (fVar 2) fNil)))))
def F_summed : List PV → Sto → Res PV := fDef 1 4 B_summed
def B__law_times : SF := fRet (fCall 2 F_law_frac (fCons (fOp oMul (fOp oIx (fVar 0) (fC (.int 0))) (fOp oIx (fVar 1) (fC (.int 0)))) (fCons (fOp oMul (fOp oIx (fVar 0) (fC (.int 1))) (fOp oIx (fVar 1) (fC (.int 1)))) fNil)))
def F__law_times : List PV → Sto → Res PV := fDef 2 2 B__law_times
def B__law_less : SF := fRet (fCall 2 F_law_frac (fCons (fOp oSub (fOp oMul (fOp oIx (fVar 0) (fC (.int 0))) (fOp oIx (fVar 1) (fC (.int 1)))) (fOp oMul (fOp oIx (fVar 1) (fC (.int 0))) (fOp oIx (fVar 0) (fC (.int 1))))) (fCons (fOp oMul (fOp oIx (fVar 0) (fC (.int 1))) (fOp oIx (fVar 1) (fC (.int 1)))) fNil)))
def F__law_less : List PV → Sto → Res PV := fDef 2 2 B__law_less
def B__law_sum : SF := fSeq (fAsg (fTup (fCons (fC (.int 0)) (fCons (fC (.int 1)) fNil))) (gfName 1)) (fSeq (fFor (srcE (fVar 0)) (gfName 2) (fAsg (fCall 2 F__law_plus (fCons (fVar 1) (fCons (fVar 2) fNil))) (gfName 1))) (fRet (fVar 1)))
def F__law_sum : List PV → Sto → Res PV := fDef 1 3 B__law_sum
def B__law_is_exact (C : Nat → Nat → Option Bool) : SF := fSeq (fIfS (fOr (fNot (fB (fCallB (oIsi C) (fCons (fVar 0) (fCons (fC (.ty "tuple")) fNil))))) (fOr (fB (fOp oNe (fCallB oLen (fCons (fVar 0) fNil)) (fC (.int 2)))) (fNot (fB (fCallB oAll (fCons (fLcT [1] (srcE (fVar 0)) (gfName 1) fYes (fCallB (oIsi C) (fCons (fVar 1) (fCons (fC (.ty "int")) fNil)))) fNil)))))) (fRet (fC (.bl false))) fNext) (fSeq (fIfS (fOr (fB (fCallB oAny (fCons (fLcT [1] (srcE (fVar 0)) (gfName 1) fYes (fCallB (oIsi C) (fCons (fVar 1) (fCons (fC (.ty "bool")) fNil)))) fNil))) (fB (fOp oLt (fOp oIx (fVar 0) (fC (.int 1))) (fC (.int 1))))) (fRet (fC (.bl false))) fNext) (fRet (fOp oEq (fCall 2 F_law_frac (fCons (fOp oIx (fVar 0) (fC (.int 0))) (fCons (fOp oIx (fVar 0) (fC (.int 1))) fNil))) (fVar 0))))
def F__law_is_exact (C : Nat → Nat → Option Bool) : List PV → Sto → Res PV := fDef 1 2 (B__law_is_exact C)
def B__law_is_share (C : Nat → Nat → Option Bool) : SF := fRet (fAndV (fCall 1 (F__law_is_exact C) (fCons (fVar 0) fNil)) (fOp oGe (fOp oIx (fVar 0) (fC (.int 0))) (fC (.int 0))))
def F__law_is_share (C : Nat → Nat → Option Bool) : List PV → Sto → Res PV := fDef 1 1 (B__law_is_share C)
def B__law_greatest : SF := fSeq (fAsg (fOp oIx (fVar 0) (fC (.int 0))) (gfName 1)) (fSeq (fFor (srcE (fVar 0)) (gfName 2) (fAsg (fIf (fB (fCall 2 F__law_is_less (fCons (fVar 1) (fCons (fVar 2) fNil)))) (fVar 2) (fVar 1)) (gfName 1))) (fRet (fVar 1)))
def F__law_greatest : List PV → Sto → Res PV := fDef 1 3 B__law_greatest
def B__law_number : SF := fRet (fCall 2 F_law_frac (fCons (fOp oAdd (fC (.int 1)) (fCallB oInt1 (fCons (fCall 2 F__law_take (fCons (fVar 0) (fCons (fVar 1) fNil))) fNil))) (fCons (fOp oAdd (fC (.int 1)) (fCallB oInt1 (fCons (fCall 2 F__law_take (fCons (fVar 0) (fCons (fC (.int 3)) fNil))) fNil))) fNil)))
def F__law_number : List PV → Sto → Res PV := fDef 2 2 B__law_number
def rV (r : Rat) : PV := .tup [.int r.num, .int (r.den : Nat)]
theorem dv_eq {t b : Int} (h : 0 < b) : frV (frI t b) = rV (Rat.divInt t b) := by
  obtain ⟨n, rfl⟩ := Int.eq_ofNat_of_zero_le (Int.le_of_lt h)
  have hn : n ≠ 0 := by omega
  rw [Rat.divInt_ofNat, ← Rat.normalize_eq_mkRat hn, Rat.normalize_eq hn]
  simp only [frV, frI, rV, frG, Int.natAbs_natCast, Int.natCast_ediv]
/-- neither part greater than 2 ** k -/
structure Bd (k : Nat) (r : Rat) : Prop where
  n : r.num.natAbs ≤ 2 ^ k
  d : r.den ≤ 2 ^ k
theorem Bd.mono {j k : Nat} {r : Rat} (h : Bd j r) (hk : j ≤ k) : Bd k r := ⟨Nat.le_trans h.n (Nat.pow_le_pow_right (by decide) hk), Nat.le_trans h.d (Nat.pow_le_pow_right (by decide) hk)⟩
theorem bd_div {t b : Int} {k : Nat} (h : 0 < b) (ht : t.natAbs ≤ 2 ^ k) (hb : b.natAbs ≤ 2 ^ k) : Bd k (Rat.divInt t b) := by
  obtain ⟨n, rfl⟩ := Int.eq_ofNat_of_zero_le (Int.le_of_lt h)
  have hn : n ≠ 0 := by omega
  rw [Rat.divInt_ofNat, ← Rat.normalize_eq_mkRat hn, Rat.normalize_eq hn]
  refine ⟨?_, Nat.le_trans (Nat.div_le_self _ _) (by simpa using hb)⟩
  show (t / ((t.natAbs.gcd n : Nat) : Int)).natAbs ≤ 2 ^ k
  exact Nat.le_trans (Int.natAbs_ediv_le_natAbs _ _) ht
theorem add_dv (a b : Rat) : a + b = Rat.divInt (a.num * b.den + b.num * a.den) (a.den * b.den) := by
  have h := Rat.divInt_add_divInt a.num b.num (d₁ := (a.den : Int)) (d₂ := (b.den : Int)) (by have := a.den_pos; omega) (by have := b.den_pos; omega)
  rwa [Rat.num_divInt_den, Rat.num_divInt_den] at h
theorem sub_dv (a b : Rat) : a - b = Rat.divInt (a.num * b.den - b.num * a.den) (a.den * b.den) := by
  have h := Rat.divInt_sub_divInt a.num b.num (d₁ := (a.den : Int)) (d₂ := (b.den : Int)) (by have := a.den_pos; omega) (by have := b.den_pos; omega)
  rwa [Rat.num_divInt_den, Rat.num_divInt_den] at h
theorem mul_dv (a b : Rat) : a * b = Rat.divInt (a.num * b.num) (a.den * b.den) := by
  have h := Rat.divInt_mul_divInt a.num b.num (d₁ := (a.den : Int)) (d₂ := (b.den : Int))
  rwa [Rat.num_divInt_den, Rat.num_divInt_den] at h
theorem div_dv (a b : Rat) : a / b = Rat.divInt (a.num * b.den) (a.den * b.num) := by
  have h := Rat.divInt_mul_divInt a.num (b.den : Int) (d₁ := (a.den : Int)) (d₂ := b.num)
  rw [Rat.num_divInt_den, ← Rat.inv_def] at h
  rw [Rat.div_def]
  exact h
theorem den_pos' (a : Rat) : (0 : Int) < (a.den : Int) := by have := a.den_pos; omega
theorem num_pos {a : Rat} (h : 0 < a) : 0 < a.num := by
  have h1 : 0 ≤ a.num := Rat.num_nonneg.mpr (by grind)
  have h2 : a.num ≠ 0 := fun z => by
    have := Rat.num_eq_zero.mp z
    grind
  omega
theorem lt_dv (a b : Rat) : decide (a.num * (b.den : Int) < b.num * (a.den : Int)) = decide (a < b) := decide_eq_decide.mpr (Rat.lt_iff a b).symm
theorem mul_bd {j k : Nat} {x y : Int} (hx : x.natAbs ≤ 2 ^ j) (hy : y.natAbs ≤ 2 ^ k) : (x * y).natAbs ≤ 2 ^ (j + k) := by
  rw [Int.natAbs_mul, Nat.pow_add]
  exact Nat.mul_le_mul hx hy
section
variable {j k : Nat} {a b : Rat}
theorem Bd.add (ha : Bd j a) (hb : Bd k b) : Bd (j + k + 1) (a + b) := by
  rw [add_dv]
  have h1 := mul_bd ha.n (y := (b.den : Int)) (by simpa using hb.d)
  have h2 := mul_bd hb.n (y := (a.den : Int)) (by simpa using ha.d)
  have h3 := mul_bd (x := (a.den : Int)) (by simpa using ha.d) (y := (b.den : Int)) (by simpa using hb.d)
  have e : 2 ^ (j + k + 1) = 2 * 2 ^ (j + k) := by rw [Nat.pow_succ, Nat.mul_comm]
  rw [Nat.add_comm k j] at h2
  exact bd_div (Int.mul_pos (den_pos' a) (den_pos' b)) (by omega) (by omega)
theorem Bd.sub (ha : Bd j a) (hb : Bd k b) : Bd (j + k + 1) (a - b) := by
  rw [sub_dv]
  have h1 := mul_bd ha.n (y := (b.den : Int)) (by simpa using hb.d)
  have h2 := mul_bd hb.n (y := (a.den : Int)) (by simpa using ha.d)
  have h3 := mul_bd (x := (a.den : Int)) (by simpa using ha.d) (y := (b.den : Int)) (by simpa using hb.d)
  have e : 2 ^ (j + k + 1) = 2 * 2 ^ (j + k) := by rw [Nat.pow_succ, Nat.mul_comm]
  rw [Nat.add_comm k j] at h2
  exact bd_div (Int.mul_pos (den_pos' a) (den_pos' b)) (by omega) (by omega)
theorem Bd.mul (ha : Bd j a) (hb : Bd k b) : Bd (j + k) (a * b) := by
  rw [mul_dv]
  exact bd_div (Int.mul_pos (den_pos' a) (den_pos' b)) (mul_bd ha.n hb.n) (mul_bd (by simpa using ha.d) (by simpa using hb.d))
theorem Bd.div (ha : Bd j a) (hb : Bd k b) (h : 0 < b) : Bd (j + k) (a / b) := by
  rw [div_dv]
  exact bd_div (Int.mul_pos (den_pos' a) (num_pos h)) (mul_bd ha.n (by simpa using hb.d)) (mul_bd (by simpa using ha.d) hb.n)
theorem Bd.neg (ha : Bd j a) : Bd j (-a) := ⟨by rw [Rat.neg_num, Int.natAbs_neg]; exact ha.n, by rw [Rat.neg_den]; exact ha.d⟩
/-- small enough for all that is reckoned here -/
abbrev Sr (r : Rat) : Prop := Bd 390 r
theorem big_lt {n k : Nat} (h : n ≤ 2 ^ k) (hk : k < 1000) : n < 2 ^ 1000 := Nat.lt_of_le_of_lt h (Nat.pow_lt_pow_right (by decide) hk)
theorem mulOk_of {x y : Int} {m n : Nat} (hx : x.natAbs ≤ 2 ^ m) (hy : y.natAbs ≤ 2 ^ n) (hm : m < 1000) (hn : n < 1000) : mulOk x y = true := by
  unfold mulOk
  have h1 := log2_lt (big_lt hx hm) (by decide)
  have h2 := log2_lt (big_lt hy hn) (by decide)
  have h3 : x.natAbs.log2 + y.natAbs.log2 < 1000000 := by omega
  simp [h3]
variable (sa : Sr a) (sb : Sr b) (s : Sto)
include sa sb
theorem plus_r : F_plus [rV a, rV b] s = .ok (rV (a + b)) s := by
  have m1 := mulOk_of sa.n (y := (b.den : Int)) (by simpa using sb.d) (by decide) (by decide)
  have m2 := mulOk_of sb.n (y := (a.den : Int)) (by simpa using sa.d) (by decide) (by decide)
  have m3 := mulOk_of (x := (a.den : Int)) (by simpa using sa.d) (y := (b.den : Int)) (by simpa using sb.d) (by decide) (by decide)
  have e1 := told_fraction_eq (a.num * b.den + b.num * a.den) (a.den * b.den) s (Int.mul_pos (den_pos' a) (den_pos' b)) (big_lt (mul_bd (by simpa using sa.d) (by simpa using sb.d)) (by decide))
  rw [dv_eq (Int.mul_pos (den_pos' a) (den_pos' b)), ← add_dv] at e1
  generalize rV (a + b) = z at *
  unfold F_plus
  rw [fDef_of (by rfl)]
  unfold B_plus rV
  simp [fSeq, fRet, fAsg, fIfS, fB, asB, fOp, fUn, fCallB, fCall, fCons, fNil, fVar, fC, fTup, fIf, fNot, fOr, fAnd, fNotV, fAndV, fOrV, fPar, fPar3, fDrop, fNext, fRetN, gfName, lift1, ofS, oIx, seqOf, ixP_0, ixP_1, ixP_2, setP_0, setP_1, setP_2, oAdd_int, oSub_int, oMul_int, oDiv_int, oMod_int, oPow_int, oNeg_int, oAbs_int, oInt1_int, oInt1_bl, oLt_int, oLe_int, oGt_int, oGe_int, m1, m2, m3, e1]
theorem lplus_r : F__law_plus [rV a, rV b] s = .ok (rV (a + b)) s := by
  have m1 := mulOk_of sa.n (y := (b.den : Int)) (by simpa using sb.d) (by decide) (by decide)
  have m2 := mulOk_of sb.n (y := (a.den : Int)) (by simpa using sa.d) (by decide) (by decide)
  have m3 := mulOk_of (x := (a.den : Int)) (by simpa using sa.d) (y := (b.den : Int)) (by simpa using sb.d) (by decide) (by decide)
  have e1 := law_frac_eq (a.num * b.den + b.num * a.den) (a.den * b.den) s (Int.mul_pos (den_pos' a) (den_pos' b)) (big_lt (mul_bd (by simpa using sa.d) (by simpa using sb.d)) (by decide))
  rw [dv_eq (Int.mul_pos (den_pos' a) (den_pos' b)), ← add_dv] at e1
  generalize rV (a + b) = z at *
  unfold F__law_plus
  rw [fDef_of (by rfl)]
  unfold B__law_plus rV
  simp [fSeq, fRet, fAsg, fIfS, fB, asB, fOp, fUn, fCallB, fCall, fCons, fNil, fVar, fC, fTup, fIf, fNot, fOr, fAnd, fNotV, fAndV, fOrV, fPar, fPar3, fDrop, fNext, fRetN, gfName, lift1, ofS, oIx, seqOf, ixP_0, ixP_1, ixP_2, setP_0, setP_1, setP_2, oAdd_int, oSub_int, oMul_int, oDiv_int, oMod_int, oPow_int, oNeg_int, oAbs_int, oInt1_int, oInt1_bl, oLt_int, oLe_int, oGt_int, oGe_int, m1, m2, m3, e1]
theorem minus_r : F_minus [rV a, rV b] s = .ok (rV (a - b)) s := by
  have m1 := mulOk_of sa.n (y := (b.den : Int)) (by simpa using sb.d) (by decide) (by decide)
  have m2 := mulOk_of sb.n (y := (a.den : Int)) (by simpa using sa.d) (by decide) (by decide)
  have m3 := mulOk_of (x := (a.den : Int)) (by simpa using sa.d) (y := (b.den : Int)) (by simpa using sb.d) (by decide) (by decide)
  have e1 := told_fraction_eq (a.num * b.den - b.num * a.den) (a.den * b.den) s (Int.mul_pos (den_pos' a) (den_pos' b)) (big_lt (mul_bd (by simpa using sa.d) (by simpa using sb.d)) (by decide))
  rw [dv_eq (Int.mul_pos (den_pos' a) (den_pos' b)), ← sub_dv] at e1
  generalize rV (a - b) = z at *
  unfold F_minus
  rw [fDef_of (by rfl)]
  unfold B_minus rV
  simp [fSeq, fRet, fAsg, fIfS, fB, asB, fOp, fUn, fCallB, fCall, fCons, fNil, fVar, fC, fTup, fIf, fNot, fOr, fAnd, fNotV, fAndV, fOrV, fPar, fPar3, fDrop, fNext, fRetN, gfName, lift1, ofS, oIx, seqOf, ixP_0, ixP_1, ixP_2, setP_0, setP_1, setP_2, oAdd_int, oSub_int, oMul_int, oDiv_int, oMod_int, oPow_int, oNeg_int, oAbs_int, oInt1_int, oInt1_bl, oLt_int, oLe_int, oGt_int, oGe_int, m1, m2, m3, e1]
theorem lminus_r : F__law_less [rV a, rV b] s = .ok (rV (a - b)) s := by
  have m1 := mulOk_of sa.n (y := (b.den : Int)) (by simpa using sb.d) (by decide) (by decide)
  have m2 := mulOk_of sb.n (y := (a.den : Int)) (by simpa using sa.d) (by decide) (by decide)
  have m3 := mulOk_of (x := (a.den : Int)) (by simpa using sa.d) (y := (b.den : Int)) (by simpa using sb.d) (by decide) (by decide)
  have e1 := law_frac_eq (a.num * b.den - b.num * a.den) (a.den * b.den) s (Int.mul_pos (den_pos' a) (den_pos' b)) (big_lt (mul_bd (by simpa using sa.d) (by simpa using sb.d)) (by decide))
  rw [dv_eq (Int.mul_pos (den_pos' a) (den_pos' b)), ← sub_dv] at e1
  generalize rV (a - b) = z at *
  unfold F__law_less
  rw [fDef_of (by rfl)]
  unfold B__law_less rV
  simp [fSeq, fRet, fAsg, fIfS, fB, asB, fOp, fUn, fCallB, fCall, fCons, fNil, fVar, fC, fTup, fIf, fNot, fOr, fAnd, fNotV, fAndV, fOrV, fPar, fPar3, fDrop, fNext, fRetN, gfName, lift1, ofS, oIx, seqOf, ixP_0, ixP_1, ixP_2, setP_0, setP_1, setP_2, oAdd_int, oSub_int, oMul_int, oDiv_int, oMod_int, oPow_int, oNeg_int, oAbs_int, oInt1_int, oInt1_bl, oLt_int, oLe_int, oGt_int, oGe_int, m1, m2, m3, e1]
theorem times_r : F_times [rV a, rV b] s = .ok (rV (a * b)) s := by
  have m1 := mulOk_of sa.n sb.n (by decide) (by decide)
  have m3 := mulOk_of (x := (a.den : Int)) (by simpa using sa.d) (y := (b.den : Int)) (by simpa using sb.d) (by decide) (by decide)
  have e1 := told_fraction_eq (a.num * b.num) (a.den * b.den) s (Int.mul_pos (den_pos' a) (den_pos' b)) (big_lt (mul_bd (by simpa using sa.d) (by simpa using sb.d)) (by decide))
  rw [dv_eq (Int.mul_pos (den_pos' a) (den_pos' b)), ← mul_dv] at e1
  generalize rV (a * b) = z at *
  unfold F_times
  rw [fDef_of (by rfl)]
  unfold B_times rV
  simp [fSeq, fRet, fAsg, fIfS, fB, asB, fOp, fUn, fCallB, fCall, fCons, fNil, fVar, fC, fTup, fIf, fNot, fOr, fAnd, fNotV, fAndV, fOrV, fPar, fPar3, fDrop, fNext, fRetN, gfName, lift1, ofS, oIx, seqOf, ixP_0, ixP_1, ixP_2, setP_0, setP_1, setP_2, oAdd_int, oSub_int, oMul_int, oDiv_int, oMod_int, oPow_int, oNeg_int, oAbs_int, oInt1_int, oInt1_bl, oLt_int, oLe_int, oGt_int, oGe_int, m1, m3, e1]
theorem ltimes_r : F__law_times [rV a, rV b] s = .ok (rV (a * b)) s := by
  have m1 := mulOk_of sa.n sb.n (by decide) (by decide)
  have m3 := mulOk_of (x := (a.den : Int)) (by simpa using sa.d) (y := (b.den : Int)) (by simpa using sb.d) (by decide) (by decide)
  have e1 := law_frac_eq (a.num * b.num) (a.den * b.den) s (Int.mul_pos (den_pos' a) (den_pos' b)) (big_lt (mul_bd (by simpa using sa.d) (by simpa using sb.d)) (by decide))
  rw [dv_eq (Int.mul_pos (den_pos' a) (den_pos' b)), ← mul_dv] at e1
  generalize rV (a * b) = z at *
  unfold F__law_times
  rw [fDef_of (by rfl)]
  unfold B__law_times rV
  simp [fSeq, fRet, fAsg, fIfS, fB, asB, fOp, fUn, fCallB, fCall, fCons, fNil, fVar, fC, fTup, fIf, fNot, fOr, fAnd, fNotV, fAndV, fOrV, fPar, fPar3, fDrop, fNext, fRetN, gfName, lift1, ofS, oIx, seqOf, ixP_0, ixP_1, ixP_2, setP_0, setP_1, setP_2, oAdd_int, oSub_int, oMul_int, oDiv_int, oMod_int, oPow_int, oNeg_int, oAbs_int, oInt1_int, oInt1_bl, oLt_int, oLe_int, oGt_int, oGe_int, m1, m3, e1]
theorem over_r (h : 0 < b) : F_over [rV a, rV b] s = .ok (rV (a / b)) s := by
  have m1 := mulOk_of sa.n (y := (b.den : Int)) (by simpa using sb.d) (by decide) (by decide)
  have m3 := mulOk_of (x := (a.den : Int)) (by simpa using sa.d) sb.n (by decide) (by decide)
  have e1 := told_fraction_eq (a.num * b.den) (a.den * b.num) s (Int.mul_pos (den_pos' a) (num_pos h)) (big_lt (mul_bd (by simpa using sa.d) sb.n) (by decide))
  rw [dv_eq (Int.mul_pos (den_pos' a) (num_pos h)), ← div_dv] at e1
  generalize rV (a / b) = z at *
  unfold F_over
  rw [fDef_of (by rfl)]
  unfold B_over rV
  simp [fSeq, fRet, fAsg, fIfS, fB, asB, fOp, fUn, fCallB, fCall, fCons, fNil, fVar, fC, fTup, fIf, fNot, fOr, fAnd, fNotV, fAndV, fOrV, fPar, fPar3, fDrop, fNext, fRetN, gfName, lift1, ofS, oIx, seqOf, ixP_0, ixP_1, ixP_2, setP_0, setP_1, setP_2, oAdd_int, oSub_int, oMul_int, oDiv_int, oMod_int, oPow_int, oNeg_int, oAbs_int, oInt1_int, oInt1_bl, oLt_int, oLe_int, oGt_int, oGe_int, m1, m3, e1]
theorem lover_r (h : 0 < b) : F__law_over [rV a, rV b] s = .ok (rV (a / b)) s := by
  have m1 := mulOk_of sa.n (y := (b.den : Int)) (by simpa using sb.d) (by decide) (by decide)
  have m3 := mulOk_of (x := (a.den : Int)) (by simpa using sa.d) sb.n (by decide) (by decide)
  have e1 := law_frac_eq (a.num * b.den) (a.den * b.num) s (Int.mul_pos (den_pos' a) (num_pos h)) (big_lt (mul_bd (by simpa using sa.d) sb.n) (by decide))
  rw [dv_eq (Int.mul_pos (den_pos' a) (num_pos h)), ← div_dv] at e1
  generalize rV (a / b) = z at *
  unfold F__law_over
  rw [fDef_of (by rfl)]
  unfold B__law_over rV
  simp [fSeq, fRet, fAsg, fIfS, fB, asB, fOp, fUn, fCallB, fCall, fCons, fNil, fVar, fC, fTup, fIf, fNot, fOr, fAnd, fNotV, fAndV, fOrV, fPar, fPar3, fDrop, fNext, fRetN, gfName, lift1, ofS, oIx, seqOf, ixP_0, ixP_1, ixP_2, setP_0, setP_1, setP_2, oAdd_int, oSub_int, oMul_int, oDiv_int, oMod_int, oPow_int, oNeg_int, oAbs_int, oInt1_int, oInt1_bl, oLt_int, oLe_int, oGt_int, oGe_int, m1, m3, e1]
theorem less_r : F_is_less [rV a, rV b] s = .ok (.bl (decide (a < b))) s := by
  have m1 := mulOk_of sa.n (y := (b.den : Int)) (by simpa using sb.d) (by decide) (by decide)
  have m2 := mulOk_of sb.n (y := (a.den : Int)) (by simpa using sa.d) (by decide) (by decide)
  have e := lt_dv a b
  unfold F_is_less
  rw [fDef_of (by rfl)]
  unfold B_is_less rV
  simp [fSeq, fRet, fAsg, fIfS, fB, asB, fOp, fUn, fCallB, fCall, fCons, fNil, fVar, fC, fTup, fIf, fNot, fOr, fAnd, fNotV, fAndV, fOrV, fPar, fPar3, fDrop, fNext, fRetN, gfName, lift1, ofS, oIx, seqOf, ixP_0, ixP_1, ixP_2, setP_0, setP_1, setP_2, oAdd_int, oSub_int, oMul_int, oDiv_int, oMod_int, oPow_int, oNeg_int, oAbs_int, oInt1_int, oInt1_bl, oLt_int, oLe_int, oGt_int, oGe_int, m1, m2, e]
theorem lless_r : F__law_is_less [rV a, rV b] s = .ok (.bl (decide (a < b))) s := less_r sa sb s
end
theorem oEq_r (a b : Rat) (s : Sto) : oEq (rV a) (rV b) s = some (.bl (decide (a = b))) := by
  have := oEq_fr (a.num, (a.den : Int)) (b.num, (b.den : Int)) s
  have e : decide ((a.num, (a.den : Int)) = (b.num, (b.den : Int))) = decide (a = b) := by
    apply decide_eq_decide.mpr
    rw [Prod.mk.injEq]
    constructor
    · rintro ⟨h1, h2⟩
      exact Rat.ext h1 (by omega)
    · rintro rfl
      exact ⟨rfl, rfl⟩
  rw [e] at this
  exact this
theorem oNe_fr (p q : Int × Int) (s : Sto) : oNe (frV p) (frV q) s = some (.bl (!decide (p = q))) := by
  obtain ⟨a, b⟩ := p
  obtain ⟨c, d⟩ := q
  simp [oNe, oNeD, frV, rd, toD, toDs, SeqAt.shaped, PyData.eqv, PyData.eqvAll, PyData.canLay0, PyData.canLayAll0, PyData.depth, PyData.depthAll]
  by_cases h : a = c <;> by_cases h2 : b = d <;> simp [h, h2]
theorem oNe_r (a b : Rat) (s : Sto) : oNe (rV a) (rV b) s = some (.bl (!decide (a = b))) := by
  have := oNe_fr (a.num, (a.den : Int)) (b.num, (b.den : Int)) s
  have e : decide ((a.num, (a.den : Int)) = (b.num, (b.den : Int))) = decide (a = b) := by
    apply decide_eq_decide.mpr
    rw [Prod.mk.injEq]
    constructor
    · rintro ⟨h1, h2⟩
      exact Rat.ext h1 (by omega)
    · rintro rfl
      exact ⟨rfl, rfl⟩
  rw [e] at this
  exact this
theorem rV_frV (a : Rat) : rV a = frV (a.num, (a.den : Int)) := rfl
theorem rV_0 : PV.tup [.int 0, .int 1] = rV 0 := rfl
theorem rV_1 : PV.tup [.int 1, .int 1] = rV 1 := rfl
theorem rV_nat (m : Nat) : PV.tup [.int (m : Nat), .int 1] = rV (m : Rat) := rfl
theorem frac_r {a : Rat} {k : Nat} (h : Bd k a) (hk : k ≤ 19) : Frac (a.num, (a.den : Int)) := by
  have hp : 2 ^ k ≤ 2 ^ 19 := Nat.pow_le_pow_right (by decide) hk
  have h1 := h.n
  have h2 := h.d
  have h3 := a.den_pos
  refine ⟨by simpa using h3, by simpa using a.reduced, ?_, ?_, ?_⟩ <;> simp only <;> omega
end Pv

/-! Pv34: sums, least and greatest, judges of fractions. -/
namespace Pv
open PySem PySem.Spec PyProof.Rows L2
def rsum (rs : List Rat) : Rat := rs.foldl (· + ·) 0
theorem rsum_take (rs : List Rat) (i : Nat) (h : i < rs.length) : rsum (rs.take (i + 1)) = rsum (rs.take i) + rs[i] := by
  unfold rsum
  rw [List.take_add_one, List.getElem?_eq_getElem h, List.foldl_append]
  rfl
theorem bd_0 (k : Nat) : Bd k 0 := ⟨by simp, by show 1 ≤ 2 ^ k; exact Nat.one_le_two_pow⟩
theorem bd_1 (k : Nat) : Bd k 1 := ⟨by show 1 ≤ 2 ^ k; exact Nat.one_le_two_pow, by show 1 ≤ 2 ^ k; exact Nat.one_le_two_pow⟩
theorem bd_nat {m k : Nat} (h : m ≤ 2 ^ k) : Bd k (m : Rat) := ⟨h, by show 1 ≤ 2 ^ k; exact Nat.one_le_two_pow⟩
theorem rsum_bd {k : Nat} {rs : List Rat} (h : ∀ r ∈ rs, Bd k r) : ∀ i, i ≤ rs.length → Bd (i * (k + 1)) (rsum (rs.take i))
  | 0, _ => bd_0 _
  | i + 1, hi => by
    rw [rsum_take _ _ hi]
    have := (rsum_bd h i (by omega)).add (h _ (List.getElem_mem (n := i) hi))
    exact this.mono (by rw [Nat.succ_mul]; omega)
theorem getD_rV {rs : List Rat} {i : Nat} (h : i < rs.length) : (rs.map rV)[i]'(by simpa using h) = rV rs[i] := by simp
theorem lsum_r {rs : List Rat} (h : ∀ r ∈ rs, Sr r) (h2 : ∀ i, i ≤ rs.length → Sr (rsum (rs.take i))) (s : Sto) : F__law_sum [.tmp (rs.map rV)] s = .ok (rV (rsum rs)) s := by
  have src : SrcAt (srcE (fVar 0)) [some (.tmp (rs.map rV)), some (rV 0), none] s (rs.map rV) := srcAt_seq (p := .tmp (rs.map rV)) rfl rfl
  obtain ⟨ρ', e, c, rfl⟩ := fFor_pure (gt := gfName 2) (fb := fAsg (fCall 2 F__law_plus (fCons (fVar 1) (fCons (fVar 2) fNil))) (gfName 1)) src (fun i ρ => ∃ c, ρ = [some (.tmp (rs.map rV)), some (rV (rsum (rs.take i))), c]) ⟨none, rfl⟩ (fun i ρ hi hI => by
    obtain ⟨c, rfl⟩ := hI
    have hi' : i < rs.length := by simpa using hi
    refine ⟨[some (.tmp (rs.map rV)), some (rV (rsum (rs.take i))), some (rV rs[i])], [some (.tmp (rs.map rV)), some (rV (rsum (rs.take (i + 1)))), some (rV rs[i])], by rw [getD_rV hi']; rfl, ?_, _, rfl⟩
    rw [rsum_take _ _ hi']
    exact fAsgN_ok (fCall_ok (xs := [rV (rsum (rs.take i)), rV rs[i]]) rfl rfl (lplus_r (h2 i (by omega)) (h _ (List.getElem_mem hi')) s)))
  rw [List.length_map, List.take_length] at e
  exact fDef_ok (ρ := [some (.tmp (rs.map rV)), none, none]) rfl rfl (fSeq_nx (ρ1 := [some (.tmp (rs.map rV)), some (rV 0), none]) (s1 := s) rfl (fSeq_nx e rfl))
theorem lsum_b {k : Nat} {rs : List Rat} (h : ∀ r ∈ rs, Bd k r) (hk : k ≤ 390) (hl : rs.length * (k + 1) ≤ 390) (s : Sto) : F__law_sum [.tmp (rs.map rV)] s = .ok (rV (rsum rs)) s :=
  lsum_r (fun r hr => (h r hr).mono hk) (fun i hi => (rsum_bd h i hi).mono (Nat.le_trans (Nat.mul_le_mul_right _ hi) hl)) s
theorem rsum_all {k : Nat} {rs : List Rat} (h : ∀ r ∈ rs, Bd k r) : Bd (rs.length * (k + 1)) (rsum rs) := by
  have := rsum_bd h rs.length (Nat.le_refl _)
  rwa [List.take_length] at this
/-- top and bottom of the sum as the program adds it up -/
def tb (q : Int × Int) (r : Rat) : Int × Int := (q.1 * r.den + r.num * q.2, q.2 * r.den)
def tbs (rs : List Rat) : Int × Int := rs.foldl tb (0, 1)
theorem tbs_take (rs : List Rat) (i : Nat) (h : i < rs.length) : tbs (rs.take (i + 1)) = tb (tbs (rs.take i)) rs[i] := by
  unfold tbs
  rw [List.take_add_one, List.getElem?_eq_getElem h, List.foldl_append]
  rfl
structure TbOk (k : Nat) (q : Int × Int) (r : Rat) : Prop where
  p : 0 < q.2
  n1 : q.1.natAbs ≤ 2 ^ k
  n2 : q.2.natAbs ≤ 2 ^ k
  e : Rat.divInt q.1 q.2 = r
theorem tbs_ok {k : Nat} {rs : List Rat} (h : ∀ r ∈ rs, Bd k r) : ∀ i, i ≤ rs.length → TbOk (i * (k + 1)) (tbs (rs.take i)) (rsum (rs.take i))
  | 0, _ => by
    show TbOk _ (0, 1) 0
    exact ⟨by decide, by simp, by show 1 ≤ 2 ^ _; exact Nat.one_le_two_pow, by decide⟩
  | i + 1, hi => by
    rw [tbs_take _ _ hi, rsum_take _ _ hi]
    have I := tbs_ok h i (by omega)
    have hr := h _ (List.getElem_mem (n := i) hi)
    generalize rs[i] = r at hr
    generalize tbs (rs.take i) = q at I
    generalize rsum (rs.take i) = z at I
    have hp := den_pos' r
    have h1 := mul_bd I.n1 (y := (r.den : Int)) (by simpa using hr.d)
    have h2 := mul_bd hr.n I.n2
    have h3 := mul_bd I.n2 (y := (r.den : Int)) (by simpa using hr.d)
    have e : 2 ^ ((i + 1) * (k + 1)) = 2 * 2 ^ (i * (k + 1) + k) := by rw [Nat.succ_mul, ← Nat.add_assoc, Nat.pow_succ, Nat.mul_comm]
    rw [Nat.add_comm k] at h2
    refine ⟨Int.mul_pos I.p hp, ?_, ?_, ?_⟩
    · show (q.1 * r.den + r.num * q.2).natAbs ≤ _
      rw [e]; omega
    · show (q.2 * r.den).natAbs ≤ _
      rw [e]; omega
    · show Rat.divInt (q.1 * r.den + r.num * q.2) (q.2 * r.den) = _
      have hq := I.p
      have := Rat.divInt_add_divInt q.1 r.num (d₁ := q.2) (d₂ := (r.den : Int)) (by omega) (by omega)
      rw [Rat.num_divInt_den, I.e] at this
      exact this.symm
def smBody : SF := fPar 1 2 (fCons (fOp oAdd (fOp oMul (fVar 1) (fOp oIx (fVar 3) (fC (.int 1)))) (fOp oMul (fOp oIx (fVar 3) (fC (.int 0))) (fVar 2))) (fCons (fOp oMul (fVar 2) (fOp oIx (fVar 3) (fC (.int 1)))) fNil))
theorem summed_b {k : Nat} {rs : List Rat} (h : ∀ r ∈ rs, Bd k r) (hl : rs.length * (k + 1) ≤ 390) (hk : k ≤ 390) (s : Sto) : F_summed [.tmp (rs.map rV)] s = .ok (rV (rsum rs)) s := by
  have src : SrcAt (srcE (fVar 0)) [some (.tmp (rs.map rV)), some (.int 0), some (.int 1), none] s (rs.map rV) := srcAt_seq (p := .tmp (rs.map rV)) rfl rfl
  obtain ⟨ρ', e, c, rfl⟩ := fFor_pure (gt := gfName 3) (fb := smBody) src (fun i ρ => ∃ c, ρ = [some (.tmp (rs.map rV)), some (.int (tbs (rs.take i)).1), some (.int (tbs (rs.take i)).2), c]) ⟨none, rfl⟩ (fun i ρ hi hI => by
    obtain ⟨c, rfl⟩ := hI
    have hi' : i < rs.length := by simpa using hi
    refine ⟨[some (.tmp (rs.map rV)), some (.int (tbs (rs.take i)).1), some (.int (tbs (rs.take i)).2), some (rV rs[i])], [some (.tmp (rs.map rV)), some (.int (tbs (rs.take (i + 1))).1), some (.int (tbs (rs.take (i + 1))).2), some (rV rs[i])], by rw [getD_rV hi']; rfl, ?_, _, rfl⟩
    rw [tbs_take _ _ hi']
    have I := tbs_ok h i (by omega)
    have hr := h _ (List.getElem_mem (n := i) hi')
    have hk1 : i * (k + 1) ≤ 390 := Nat.le_trans (Nat.mul_le_mul_right _ (Nat.le_of_lt hi')) hl
    generalize rs[i] = r at hr
    generalize tbs (rs.take i) = q at I
    have m1 := mulOk_of I.n1 (y := (r.den : Int)) (by simpa using hr.d) (by omega) (by omega)
    have m2 := mulOk_of hr.n I.n2 (by omega) (by omega)
    have m3 := mulOk_of I.n2 (y := (r.den : Int)) (by simpa using hr.d) (by omega) (by omega)
    unfold smBody rV tb
    simp [fPar, fCons, fNil, fOp, fVar, fC, oIx, seqOf, ixP_0, ixP_1, lift1, oMul_int, m1, m2, m3, oAdd_int])
  rw [List.length_map, List.take_length] at e
  have I := tbs_ok h rs.length (Nat.le_refl _)
  rw [List.take_length] at I
  have e2 := told_fraction_eq (tbs rs).1 (tbs rs).2 s I.p (big_lt I.n2 (by omega))
  rw [dv_eq I.p, I.e] at e2
  refine fDef_ok (ρ := [some (.tmp (rs.map rV)), none, none, none]) rfl rfl (fSeq_nx (ρ1 := [some (.tmp (rs.map rV)), some (.int 0), some (.int 1), none]) (s1 := s) rfl (fSeq_nx e (fRet_ok (fCall_ok (xs := [.int (tbs rs).1, .int (tbs rs).2]) rfl rfl e2))))
/-! greatest -/
def rmax : Rat → List Rat → Rat := List.foldl fun f r => if f < r then r else f
def rmin : Rat → List Rat → Rat := List.foldl fun f r => if r < f then r else f
theorem fold_take {f : Rat → Rat → Rat} (a : Rat) (rs : List Rat) (i : Nat) (h : i < rs.length) : (rs.take (i + 1)).foldl f a = f ((rs.take i).foldl f a) rs[i] := by
  rw [List.take_add_one, List.getElem?_eq_getElem h, List.foldl_append]
  rfl
theorem rmax_mem : ∀ (rs : List Rat) (a : Rat), rmax a rs = a ∨ rmax a rs ∈ rs
  | [], a => .inl rfl
  | r :: rs, a => by
    show rmax (if a < r then r else a) rs = a ∨ rmax (if a < r then r else a) rs ∈ r :: rs
    rcases rmax_mem rs (if a < r then r else a) with h | h
    · rw [h]
      by_cases q : a < r
      · rw [if_pos q]; exact .inr List.mem_cons_self
      · rw [if_neg q]; exact .inl rfl
    · exact .inr (List.mem_cons_of_mem _ h)
theorem rmax_ge : ∀ (rs : List Rat) (a : Rat), a ≤ rmax a rs ∧ ∀ r ∈ rs, r ≤ rmax a rs
  | [], a => ⟨by show a ≤ a; grind, fun r hr => by simp at hr⟩
  | r :: rs, a => by
    obtain ⟨h1, h2⟩ := rmax_ge rs (if a < r then r else a)
    have e : rmax a (r :: rs) = rmax (if a < r then r else a) rs := rfl
    rw [e]
    have q1 : a ≤ (if a < r then r else a) := by split <;> grind
    have q2 : r ≤ (if a < r then r else a) := by split <;> grind
    refine ⟨by grind, fun z hz => ?_⟩
    rcases List.mem_cons.mp hz with h | h
    · rw [h]; grind
    · exact h2 z h
theorem rmin_neg : ∀ (rs : List Rat) (a : Rat), rmin (-a) (rs.map (- ·)) = -rmax a rs
  | [], a => rfl
  | r :: rs, a => by
    show rmin (if -r < -a then -r else -a) (rs.map (- ·)) = -rmax (if a < r then r else a) rs
    rw [← rmin_neg rs]
    congr 1
    by_cases q : a < r
    · rw [if_pos q, if_pos (by grind)]
    · rw [if_neg q, if_neg (by grind)]
theorem rmin_mem : ∀ (rs : List Rat) (a : Rat), rmin a rs = a ∨ rmin a rs ∈ rs
  | [], a => .inl rfl
  | r :: rs, a => by
    show rmin (if r < a then r else a) rs = a ∨ rmin (if r < a then r else a) rs ∈ r :: rs
    rcases rmin_mem rs (if r < a then r else a) with h | h
    · rw [h]
      by_cases q : r < a
      · rw [if_pos q]; exact .inr List.mem_cons_self
      · rw [if_neg q]; exact .inl rfl
    · exact .inr (List.mem_cons_of_mem _ h)
theorem lgreatest_r {a : Rat} {rs : List Rat} (h : ∀ r ∈ a :: rs, Sr r) (s : Sto) : F__law_greatest [.tmp ((a :: rs).map rV)] s = .ok (rV (rmax a (a :: rs))) s := by
  have src : SrcAt (srcE (fVar 0)) [some (.tmp ((a :: rs).map rV)), some (rV a), none] s ((a :: rs).map rV) := srcAt_seq (p := .tmp ((a :: rs).map rV)) rfl rfl
  obtain ⟨ρ', e, c, rfl⟩ := fFor_pure (gt := gfName 2) (fb := fAsg (fIf (fB (fCall 2 F__law_is_less (fCons (fVar 1) (fCons (fVar 2) fNil)))) (fVar 2) (fVar 1)) (gfName 1)) src (fun i ρ => ∃ c, ρ = [some (.tmp ((a :: rs).map rV)), some (rV (rmax a ((a :: rs).take i))), c]) ⟨none, rfl⟩ (fun i ρ hi hI => by
    obtain ⟨c, rfl⟩ := hI
    have hi' : i < (a :: rs).length := by simpa using hi
    have hm : Sr (rmax a ((a :: rs).take i)) := by
      rcases rmax_mem ((a :: rs).take i) a with q | q
      · rw [q]; exact h a List.mem_cons_self
      · exact h _ (List.mem_of_mem_take q)
    have e1 : ((a :: rs).map rV)[i] = rV (a :: rs)[i] := getD_rV hi'
    refine ⟨[some (.tmp ((a :: rs).map rV)), some (rV (rmax a ((a :: rs).take i))), some (rV (a :: rs)[i])], [some (.tmp ((a :: rs).map rV)), some (rV (rmax a ((a :: rs).take (i + 1)))), some (rV (a :: rs)[i])], by rw [e1]; rfl, ?_, _, rfl⟩
    have e2 : rmax a ((a :: rs).take (i + 1)) = if rmax a ((a :: rs).take i) < (a :: rs)[i] then (a :: rs)[i] else rmax a ((a :: rs).take i) := fold_take _ _ _ hi'
    rw [e2]
    have e3 := lless_r hm (h _ (List.getElem_mem hi')) s
    generalize (a :: rs)[i] = x at *
    generalize rmax a ((a :: rs).take i) = y at *
    by_cases q : y < x
    · rw [if_pos q]
      rw [decide_eq_true q] at e3
      exact fAsgN_ok (fIf_t (fB_ok (fCall_ok (xs := [rV y, rV x]) rfl rfl e3)) rfl)
    · rw [if_neg q]
      rw [decide_eq_false q] at e3
      exact fAsgN_ok (fIf_f (fB_ok (fCall_ok (xs := [rV y, rV x]) rfl rfl e3)) rfl))
  rw [List.length_map, List.take_length] at e
  refine fDef_ok (ρ := [some (.tmp ((a :: rs).map rV)), none, none]) rfl rfl (fSeq_nx (ρ1 := [some (.tmp ((a :: rs).map rV)), some (rV a), none]) (s1 := s) ?_ (fSeq_nx e rfl))
  exact fAsgN_ok (fOp_ok (p := .tmp ((a :: rs).map rV)) (q := .int 0) rfl rfl (by simp [oIx, seqOf, liveL, ixP_0]))
theorem least_r {a : Rat} {rs : List Rat} (h : ∀ r ∈ a :: rs, Sr r) (s : Sto) : F_least_of [.tmp ((a :: rs).map rV)] s = .ok (rV (rmin a (a :: rs))) s := by
  have src : SrcAt (srcE (fVar 0)) [some (.tmp ((a :: rs).map rV)), some (rV a), none] s ((a :: rs).map rV) := srcAt_seq (p := .tmp ((a :: rs).map rV)) rfl rfl
  obtain ⟨ρ', e, c, rfl⟩ := fFor_pure (gt := gfName 2) (fb := fAsg (fIf (fB (fCall 2 F_is_less (fCons (fVar 2) (fCons (fVar 1) fNil)))) (fVar 2) (fVar 1)) (gfName 1)) src (fun i ρ => ∃ c, ρ = [some (.tmp ((a :: rs).map rV)), some (rV (rmin a ((a :: rs).take i))), c]) ⟨none, rfl⟩ (fun i ρ hi hI => by
    obtain ⟨c, rfl⟩ := hI
    have hi' : i < (a :: rs).length := by simpa using hi
    have hm : Sr (rmin a ((a :: rs).take i)) := by
      rcases rmin_mem ((a :: rs).take i) a with q | q
      · rw [q]; exact h a List.mem_cons_self
      · exact h _ (List.mem_of_mem_take q)
    have e1 : ((a :: rs).map rV)[i] = rV (a :: rs)[i] := getD_rV hi'
    refine ⟨[some (.tmp ((a :: rs).map rV)), some (rV (rmin a ((a :: rs).take i))), some (rV (a :: rs)[i])], [some (.tmp ((a :: rs).map rV)), some (rV (rmin a ((a :: rs).take (i + 1)))), some (rV (a :: rs)[i])], by rw [e1]; rfl, ?_, _, rfl⟩
    have e2 : rmin a ((a :: rs).take (i + 1)) = if (a :: rs)[i] < rmin a ((a :: rs).take i) then (a :: rs)[i] else rmin a ((a :: rs).take i) := fold_take _ _ _ hi'
    rw [e2]
    have e3 := less_r (h _ (List.getElem_mem hi')) hm s
    generalize (a :: rs)[i] = x at *
    generalize rmin a ((a :: rs).take i) = y at *
    by_cases q : x < y
    · rw [if_pos q]
      rw [decide_eq_true q] at e3
      exact fAsgN_ok (fIf_t (fB_ok (fCall_ok (xs := [rV x, rV y]) rfl rfl e3)) rfl)
    · rw [if_neg q]
      rw [decide_eq_false q] at e3
      exact fAsgN_ok (fIf_f (fB_ok (fCall_ok (xs := [rV x, rV y]) rfl rfl e3)) rfl))
  rw [List.length_map, List.take_length] at e
  refine fDef_ok (ρ := [some (.tmp ((a :: rs).map rV)), none, none]) rfl rfl (fSeq_nx (ρ1 := [some (.tmp ((a :: rs).map rV)), some (rV a), none]) (s1 := s) ?_ (fSeq_nx e rfl))
  exact fAsgN_ok (fOp_ok (p := .tmp ((a :: rs).map rV)) (q := .int 0) rfl rfl (by simp [oIx, seqOf, liveL, ixP_0]))
theorem opposite_r (a : Rat) (s : Sto) : F_opposite [rV a] s = .ok (rV (-a)) s := by
  unfold F_opposite
  rw [fDef_of (by rfl)]
  unfold B_opposite rV
  simp [fSeq, fRet, fAsg, fIfS, fB, asB, fOp, fUn, fCallB, fCall, fCons, fNil, fVar, fC, fTup, fIf, fNot, fOr, fAnd, fNotV, fAndV, fOrV, fPar, fPar3, fDrop, fNext, fRetN, gfName, lift1, ofS, oIx, seqOf, ixP_0, ixP_1, ixP_2, setP_0, setP_1, setP_2, oAdd_int, oSub_int, oMul_int, oDiv_int, oMod_int, oPow_int, oNeg_int, oAbs_int, oInt1_int, oInt1_bl, oLt_int, oLe_int, oGt_int, oGe_int]
theorem greatest_r {a : Rat} {rs : List Rat} (h : ∀ r ∈ a :: rs, Sr r) (hl : rs.length < 1000) (s : Sto) : F_greatest_of [.tmp ((a :: rs).map rV)] s = .ok (rV (rmax a (a :: rs))) s := by
  have src : SrcAt (srcE (fVar 0)) [some (.tmp ((a :: rs).map rV)), none] s ((a :: rs).map rV) := srcAt_seq (p := .tmp ((a :: rs).map rV)) rfl rfl
  have hc := fLcT_map (vs := [1]) (gt := gfName 1) (fe := fCall 1 F_opposite (fCons (fVar 1) fNil)) (ρ0 := [some (.tmp ((a :: rs).map rV)), none]) (a :: rs) rV (fun r => rV (-r)) src rfl (by simp; omega) (fun r hr => ⟨[some (.tmp ((a :: rs).map rV)), some (rV r)], rfl, fCall_ok (xs := [rV r]) rfl rfl (opposite_r r s)⟩)
  have hm : ((a :: rs).map fun r => rV (-r)) = ((-a) :: rs.map (- ·)).map rV := by simp
  rw [hm] at hc
  have e1 := least_r (a := -a) (rs := rs.map (- ·)) (fun r hr => by
    rcases List.mem_cons.mp hr with q | q
    · rw [q]; exact (h a List.mem_cons_self).neg
    · obtain ⟨z, hz, rfl⟩ := List.mem_map.mp q
      exact (h z (List.mem_cons_of_mem _ hz)).neg) s
  have e2 : rmin (-a) ((-a) :: rs.map (- ·)) = -rmax a (a :: rs) := rmin_neg (a :: rs) a
  rw [e2] at e1
  have e3 := opposite_r (-rmax a (a :: rs)) s
  have e4 : -(-rmax a (a :: rs)) = rmax a (a :: rs) := by grind
  rw [e4] at e3
  exact fDef_ok (ρ := [some (.tmp ((a :: rs).map rV)), none]) rfl rfl (fRet_ok (fCall_ok (fCons_ok (fCall_ok (fCons_ok hc fNil_ok) rfl e1) fNil_ok) rfl e3))
/-! judges -/
section
variable (C : Nat → Nat → Option Bool)
theorem lexact_r {a : Rat} {k : Nat} (h : Bd k a) (hk : k < 1000) (s : Sto) : F__law_is_exact C [rV a] s = .ok (.bl true) s := by
  have hp := den_pos' a
  have e1 := law_frac_eq a.num (a.den : Int) s hp (big_lt (by simpa using h.d) hk)
  rw [frI_id (by simpa using a.reduced)] at e1
  have e2 : oEq (frV (a.num, (a.den : Int))) (frV (a.num, (a.den : Int))) s = some (.bl true) := by rw [oEq_fr]; simp
  have e3 : oNe (.int 2) (.int 2) s = some (.bl false) := by rw [oNe_int]; simp
  have e4 : oLen [frV (a.num, (a.den : Int))] s = some (.int 2) := rfl
  have hd : ¬ ((a.den : Int) < 1) := by omega
  rw [rV_frV]
  unfold frV at e1 e2 e4 ⊢
  unfold F__law_is_exact
  rw [fDef_of (by rfl)]
  unfold B__law_is_exact
  simp at e1 e2 e4
  simp [fSeq, fRet, fAsg, fIfS, fB, asB, fOp, fUn, fCallB, fCall, fCons, fNil, fVar, fC, fTup, fIf, fNot, fOr, fAnd, fNotV, fAndV, fOrV, fPar, fPar3, fDrop, fNext, fRetN, gfName, lift1, ofS, oIx, seqOf, ixP_0, ixP_1, ixP_2, setP_0, setP_1, setP_2, oAdd_int, oSub_int, oMul_int, oDiv_int, oMod_int, oPow_int, oNeg_int, oAbs_int, oInt1_int, oInt1_bl, oLt_int, oLe_int, oGt_int, oGe_int, isi_int_int, isi_int_bool, isi_tup_tup, e4, e3, fLcT, fComp, compN, srcE, srcOf, wipeR, fYes, oAll, oAny, liveL, bolsP, hd, e1, e2]
theorem lshare_r {a : Rat} {k : Nat} (h : Bd k a) (hk : k < 1000) (s : Sto) : F__law_is_share C [rV a] s = .ok (.bl (decide (0 ≤ a))) s := by
  have e1 := lexact_r C h hk s
  have e2 : decide (a.num ≥ 0) = decide (0 ≤ a) := decide_eq_decide.mpr Rat.num_nonneg
  refine fDef_ok (ρ := [some (rV a)]) rfl rfl (fRet_ok ?_)
  unfold fAndV
  rw [fCall_ok (n := 1) (xs := [rV a]) rfl rfl e1]
  show fOp oGe (fOp oIx (fVar 0) (fC (.int 0))) (fC (.int 0)) [some (rV a)] s = _
  refine fOp_ok (p := .int a.num) (q := .int 0) (fOp_ok (p := rV a) (q := .int 0) rfl rfl (oIx_0 _ _ _)) rfl ?_
  rw [oGe_int, e2]
theorem price_r {a : Rat} {k : Nat} (h : Bd k a) (hk : k ≤ 19) (s : Sto) : F_is_price C [rV a] s = .ok (.bl (decide (0 ≤ a))) s := by
  have := is_price_fr C (frac_r h hk) s
  have e2 : decide (0 ≤ a.num) = decide (0 ≤ a) := decide_eq_decide.mpr Rat.num_nonneg
  rw [← e2]
  exact this
end
theorem divInt_pos {t b : Int} (ht : 0 < t) (hb : 0 < b) : 0 < Rat.divInt t b := by
  have h := dv_eq (t := t) hb
  have h1 : (Rat.divInt t b).num = (frI t b).1 := by
    unfold rV frV at h
    simp only [PV.tup.injEq, List.cons.injEq, PV.int.injEq] at h
    exact h.1.symm
  rw [Rat.lt_iff, h1]
  have := frI_tp hb ht
  show (0 : Int) * _ < _ * (1 : Int)
  omega
theorem lnumber_r {s : Sto} {l n : Nat} (P : Pot s l n) (hn : n + 10 < 2 ^ 30) {u : Int} (h0 : 0 < u) (h1 : u ≤ 63) :
    ∃ (r : Rat) (s' : Sto), F__law_number [.loc l, .int u] s = .ok (rV r) s' ∧ 0 < r ∧ Bd 6 r ∧ Pot s' l (n + 2) ∧ PotFrm l s s' := by
  obtain ⟨t, s1, e1, t0, t1, P1, f1⟩ := take_eq P (by omega) h0 (by omega)
  obtain ⟨b, s2, e2, b0, b1, P2, f2⟩ := take_eq (u := 3) P1 (by omega) (by decide) (by decide)
  refine ⟨Rat.divInt (1 + t) (1 + b), s2, ?_, divInt_pos (by omega) (by omega), bd_div (by omega) (by omega) (by omega), P2, f1.trans f2⟩
  have hb : (1 + b).natAbs < 2 ^ 1000 := Nat.lt_of_lt_of_le (show _ < 4 by omega) (Nat.pow_le_pow_right (n := 2) (by decide) (show 2 ≤ 1000 by decide))
  have h3 := law_frac_eq (1 + t) (1 + b) s2 (by omega) hb
  rw [dv_eq (by omega)] at h3
  refine fDef_ok (ρ := [some (.loc l), some (.int u)]) rfl rfl (fRet_ok (fCall_ok (s1 := s2) (xs := [.int (1 + t), .int (1 + b)]) ?_ rfl h3))
  refine fCons_ok (fOp_ok (p := .int 1) rfl (fCallB_ok (fCons_ok (fCall_ok (xs := [.loc l, .int u]) rfl rfl e1) fNil_ok) (oInt1_int _ _)) (oAdd_int _ _ _)) (fCons_ok (fOp_ok (p := .int 1) rfl (fCallB_ok (fCons_ok (fCall_ok (xs := [.loc l, .int 3]) rfl rfl e2) fNil_ok) (oInt1_int _ _)) (oAdd_int _ _ _)) fNil_ok)
theorem fAndV_t {fa fb : EF} {ρ : Sl} {s s1 : Sto} {r : Res PV} (h : fa ρ s = .ok (.bl true) s1) (k : fb ρ s1 = r) : fAndV fa fb ρ s = r := by
  unfold fAndV
  rw [h]
  exact k
theorem fAndV_f {fa fb : EF} {ρ : Sl} {s s1 : Sto} (h : fa ρ s = .ok (.bl false) s1) : fAndV fa fb ρ s = .ok (.bl false) s1 := by
  unfold fAndV
  rw [h]
  rfl
theorem fNotV_ok {fa : EF} {ρ : Sl} {s s1 : Sto} {b : Bool} (h : fa ρ s = .ok (.bl b) s1) : fNotV fa ρ s = .ok (.bl (!b)) s1 := by
  unfold fNotV
  rw [h]
  rfl
theorem fAnd_t {a b : Sl → Sto → Res Bool} {ρ : Sl} {s s1 : Sto} {r : Res Bool} (h : a ρ s = .ok true s1) (k : b ρ s1 = r) : fAnd a b ρ s = r := by
  unfold fAnd
  rw [h]
  exact k
theorem fAnd_f {a b : Sl → Sto → Res Bool} {ρ : Sl} {s s1 : Sto} (h : a ρ s = .ok false s1) : fAnd a b ρ s = .ok false s1 := by
  unfold fAnd
  rw [h]
  rfl
theorem nodup_map {α β : Type} {f : α → β} {l : List α} (h : l.Nodup) (hf : ∀ a ∈ l, ∀ b ∈ l, f a = f b → a = b) : (l.map f).Nodup := by
  unfold List.Nodup at h ⊢
  rw [List.pairwise_map]
  exact h.imp_of_mem fun ha hb hne e => hne (hf _ ha _ hb e)
theorem gfSub_ok {fo fi : EF} {q : PV} {ρ : Sl} {s s1 s2 : Sto} {L : Nat} {i : Int} {xs ys : List PV} (h : fo ρ s = .ok (.loc L) s1) (k : fi ρ s1 = .ok (.int i) s2) (hl : s2.objs[L]? = some (.lst xs)) (hs : setP i q xs = some ys) : gfSub fo fi q ρ s = some (ρ, s2.set L (.lst ys)) := by
  unfold gfSub
  simp only [h, k, wrL, hl, hs, Option.map_some]
theorem rg63 {n : Nat} (h : n < 1000000) : -(2 ^ 63) ≤ (n : Int) ∧ (n : Int) < 2 ^ 63 := by
  have h1 : (1000000 : Int) ≤ 2 ^ 63 := by decide
  have h2 : -(2 ^ 63) ≤ (0 : Int) := by decide
  exact ⟨Int.le_trans h2 (by omega), Int.lt_of_lt_of_le (by omega) h1⟩
theorem flat_one (x : PV) : ∀ n : Nat, (List.replicate n [x]).flatten = List.replicate n x
  | 0 => rfl
  | n + 1 => by rw [List.replicate_succ, List.flatten_cons, flat_one x n, List.replicate_succ]; rfl
theorem mulL_ok {x : PV} {n : Nat} {s2 : Sto} (hn : n < 1000000) : mulL [x] (n : Nat) s2 = .ok (.loc s2.objs.length) (s2.alloc (.lst (List.replicate n x))) := by
  unfold mulL
  rw [if_pos ⟨by omega, by rw [Int.toNat_natCast]; omega, by rw [Int.toNat_natCast]; show 1 * n ≤ _; omega⟩, Int.toNat_natCast, flat_one]
theorem fMulL_ok {fa fb : EF} {ρ : Sl} {s s1 s2 : Sto} {x : PV} {n : Nat} (h : fa ρ s = .ok (.tmp [x]) s1) (k : fb ρ s1 = .ok (.int (n : Nat)) s2) (hn : n < 1000000) : fMulL fa fb ρ s = .ok (.loc s2.objs.length) (s2.alloc (.lst (List.replicate n x))) := by
  unfold fMulL
  rw [h]
  simp only [Res.bind_ok, k, lstW]
  exact mulL_ok hn
theorem fIndex_ok {fo fe : EF} {ρ : Sl} {s s1 s2 : Sto} {p q r : PV} {xs : List PV} (h : fo ρ s = .ok p s1) (hl : liveL p s1 = some xs) (k : fe ρ s1 = .ok q s2) (z : oIndex p q s2 = some r) : fIndex fo fe ρ s = .ok r s2 := by
  unfold fIndex
  simp only [h, Res.bind_ok, hl, k, z, lift1_some]
theorem caps_lk {ρ : Sl} {x : Str} {i : Nat} {p : PV} : ∀ {caps : List (Str × Nat)}, caps.lookup x = some i → ρ[i]? = some (some p) → (capsOf ρ caps).lookup x = some p
  | [], h, _ => by simp at h
  | q :: r, h, hp => by
    unfold capsOf
    rw [List.filterMap_cons]
    cases hq : x == q.1 with
    | true =>
      rw [List.lookup_cons, hq] at h
      simp only [Option.some.injEq] at h
      rw [h, hp]
      simp only [List.lookup_cons, hq]
    | false =>
      rw [List.lookup_cons, hq] at h
      have ih := caps_lk (caps := r) h hp
      unfold capsOf at ih
      cases ρ[q.2]? with
      | none => exact ih
      | some z =>
        cases z with
        | none => exact ih
        | some v =>
          simp only [List.lookup_cons, hq]
          exact ih
theorem fSeq_drop_exc {fe : EF} {b : SF} {ρ : Sl} {s s1 : Sto} {c : Nat} {p : PV} (h : fe ρ s = .exc c p s1) : fSeq (fDrop fe) b ρ s = .exc c p ρ s1 := by
  unfold fSeq fDrop
  rw [h]
  rfl
theorem fDrop_exc {fe : EF} {ρ : Sl} {s s1 : Sto} {c : Nat} {p : PV} (h : fe ρ s = .exc c p s1) : fDrop fe ρ s = .exc c p ρ s1 := by
  unfold fDrop
  rw [h]
  rfl
theorem fDef_exc {n m : Nat} {body : SF} {xs : List PV} {s s' : Sto} {c : Nat} {p : PV} {ρ ρ' : Sl} (h : xs.length = n) (e : xs.map some ++ List.replicate (m - n) none = ρ) (k : body ρ s = .exc c p ρ' s') : fDef n m body xs s = .exc c p s' := by
  rw [fDef_of h, e, k]
  rfl
theorem fRaise_ok {c : Nat} {fe : EF} {ρ : Sl} {s s1 : Sto} {p : PV} (h : fe ρ s = .ok p s1) : fRaise c fe ρ s = .exc c p ρ s1 := by
  unfold fRaise
  rw [h]
  rfl
/-- a law's _law_heard, called with the cells set aside, of a call that raises and leaves the store alone -/
theorem heardS {C : Nat → Nat → Option Bool} {T : Nat → Option LamF} {L : LamF} {k fid c : Nat} {caps : List (Str × Nat)} {x : PV} {ρ : Sl} {s : Sto} (hT : T k = some L) (hL : ∀ s, L (capsOf ρ caps) [] s = .exc c x s) (hc : C c 0 = some true) : fCallS fid caps 1 (F_heard C T) (fCons (fLam k fid) fNil) ρ s = .ok (.tup [.exc c x, .non]) s := by
  have e := heard_exc (C := C) (T := T) (k := k) (fid := fid) (kv := capsOf ρ caps) (s := s.susp0 ((fid, capsOf ρ caps) :: s.susp)) hT (by show List.lookup fid ((fid, capsOf ρ caps) :: s.susp) = _; simp [List.lookup]) (hL _) hc
  have q := fCallS_ok (n := 1) (xs := [.clo k fid]) (fid := fid) (caps := caps) (ρ := ρ) (s := s) (s1 := s) (fs := fCons (fLam k fid) fNil) rfl rfl e
  exact q
theorem price_not (C : Nat → Nat → Option Bool) {p : PV} (h : ∀ s, F_is_exact C [p] s = .ok (.bl false) s) (s : Sto) : F_is_price C [p] s = .ok (.bl false) s := by
  have a2 : F_is_fraction C [p] s = .ok (.bl false) s := fDef_ok (ρ := [some p]) rfl rfl (fRet_ok (fAndV_f (fCall_ok (xs := [p]) rfl rfl (h s))))
  exact fDef_ok (ρ := [some p]) rfl rfl (fRet_ok (fAndV_f (fCall_ok (xs := [p]) rfl rfl a2)))
theorem exact_notup (C : Nat → Nat → Option Bool) {p : PV} (h : ∀ s, oIsi C [p, .ty "tuple"] s = some (.bl false)) (s : Sto) : F_is_exact C [p] s = .ok (.bl false) s := by
  refine fDef_ok (ρ := [some p, none]) rfl rfl (fSeq_rt (fIfS_t (fOr_t (fNot_ok (b := false) (fB_ok (fCallB_ok (xs := [p, .ty "tuple"]) rfl (h s))))) rfl))
theorem exact_no (C : Nat → Nat → Option Bool) {t b : Int} (hb : 0 < b) (hs : b.natAbs < 2 ^ 1000) (hne : frI t b ≠ (t, b)) (s : Sto) : F_is_exact C [frV (t, b)] s = .ok (.bl false) s := by
  have e1 := told_fraction_eq t b s hb hs
  have e2 : oEq (frV (frI t b)) (frV (t, b)) s = some (.bl false) := by rw [oEq_fr, decide_eq_false hne]
  have e3 : oNe (.int 2) (.int 2) s = some (.bl false) := by rw [oNe_int]; simp
  have e4 : oLen [frV (t, b)] s = some (.int 2) := rfl
  generalize hq : frI t b = q at *
  unfold frV at e1 e2 e4 ⊢
  unfold F_is_exact
  rw [fDef_of (by rfl)]
  unfold B_is_exact
  simp at e1 e2 e4
  simp [fSeq, fRet, fAsg, fIfS, fB, asB, fOp, fUn, fCallB, fCall, fCons, fNil, fVar, fC, fTup, fIf, fNot, fOr, fAnd, fNotV, fAndV, fOrV, fPar, fPar3, fDrop, fNext, fRetN, gfName, lift1, ofS, oIx, seqOf, ixP_0, ixP_1, ixP_2, setP_0, setP_1, setP_2, oAdd_int, oSub_int, oMul_int, oDiv_int, oMod_int, oPow_int, oNeg_int, oAbs_int, oInt1_int, oInt1_bl, oLt_int, oLe_int, oGt_int, oGe_int, isi_int_int, isi_int_bool, isi_tup_tup, e4, e3, fLcT, fComp, compN, srcE, srcOf, wipeR, fYes, oAll, liveL, bolsP, hb, e1, e2]
end Pv

set_option maxHeartbeats 4000000
/-! the pure functions of K08 -/
namespace K08
open Pv PySem L2
def clsT : List (List (Option Bool)) := [[], [some true, some true, some false, some false], [some true, some false, some true, some false], [some true, some false, some false, some true]]
def isC (c d : Nat) : Option Bool := isCT clsT c d
def okC (c : Nat) : Bool := decide (1 ≤ c ∧ c < 4)
def B_is_int : SF := fRet (fAndV (fCallB (oIsi isC) (fCons (fVar 0) (fCons (fC (.ty "int")) fNil))) (fAndV (fNotV (fCallB (oIsi isC) (fCons (fVar 0) (fCons (fC (.ty "bool")) fNil)))) (fChain oLe oLe (fVar 1) (fVar 0) (fVar 2))))
def F_is_int : List PV → Sto → Res PV := fDef 3 3 B_is_int
def B_shared : SF := fSeq (fPar 0 1 (fCons (fCallB oAbs (fCons (fVar 0) fNil)) (fCons (fCallB oAbs (fCons (fVar 1) fNil)) fNil))) (fSeq (fWhile (measInt 1) (fB (fOp oNe (fVar 1) (fC (.int 0)))) (fPar 0 1 (fCons (fVar 1) (fCons (fOp oMod (fVar 0) (fVar 1)) fNil)))) (fRet (fCallB oMax2 (fCons (fVar 0) (fCons (fC (.int 1)) fNil)))))
def F_shared : List PV → Sto → Res PV := fDef 2 2 B_shared
def B_told_fraction : SF := fSeq (fAsg (fCall 2 F_shared (fCons (fVar 0) (fCons (fVar 1) fNil))) (gfName 2)) (fSeq (fAsg (fIf (fB (fOp oLt (fVar 1) (fC (.int 0)))) (fUn oNeg (fVar 2)) (fVar 2)) (gfName 2)) (fRet (fTup (fCons (fOp oDiv (fVar 0) (fVar 2)) (fCons (fOp oDiv (fVar 1) (fVar 2)) fNil)))))
def F_told_fraction : List PV → Sto → Res PV := fDef 2 3 B_told_fraction
def B_is_exact : SF := fSeq (fIfS (fOr (fNot (fB (fCallB (oIsi isC) (fCons (fVar 0) (fCons (fC (.ty "tuple")) fNil))))) (fB (fOp oNe (fCallB oLen (fCons (fVar 0) fNil)) (fC (.int 2))))) (fRet (fC (.bl false))) fNext) (fSeq (fIfS (fNot (fB (fCallB oAll (fCons (fLcT [1] (srcE (fVar 0)) (gfName 1) fYes (fAndV (fCallB (oIsi isC) (fCons (fVar 1) (fCons (fC (.ty "int")) fNil))) (fNotV (fCallB (oIsi isC) (fCons (fVar 1) (fCons (fC (.ty "bool")) fNil)))))) fNil)))) (fRet (fC (.bl false))) fNext) (fRet (fAndV (fOp oGt (fOp oIx (fVar 0) (fC (.int 1))) (fC (.int 0))) (fOp oEq (fCall 2 F_told_fraction (fCons (fOp oIx (fVar 0) (fC (.int 0))) (fCons (fOp oIx (fVar 0) (fC (.int 1))) fNil))) (fVar 0)))))
def F_is_exact : List PV → Sto → Res PV := fDef 1 2 B_is_exact
def B_is_fraction : SF := fRet (fAndV (fCall 1 F_is_exact (fCons (fVar 0) fNil)) (fAndV (fCall 3 F_is_int (fCons (fOp oIx (fVar 0) (fC (.int 0))) (fCons (fUn oNeg (fC (.int 1000000))) (fCons (fC (.int 1000000)) fNil)))) (fOp oLe (fOp oIx (fVar 0) (fC (.int 1))) (fC (.int 1000000)))))
def F_is_fraction : List PV → Sto → Res PV := fDef 1 1 B_is_fraction
def B_is_price : SF := fRet (fAndV (fCall 1 F_is_fraction (fCons (fVar 0) fNil)) (fOp oGe (fOp oIx (fVar 0) (fC (.int 0))) (fC (.int 0))))
def F_is_price : List PV → Sto → Res PV := fDef 1 1 B_is_price
def B_look_at_above : SF := fIfS (fOr (fNot (fB (fCall 1 F_is_price (fCons (fVar 0) fNil)))) (fB (fOp oEq (fOp oIx (fVar 0) (fC (.int 0))) (fC (.int 0))))) (fRaise 1 (fVar 0)) fNext
def F_look_at_above : List PV → Sto → Res PV := fDef 1 1 B_look_at_above
def B_opposite : SF := fRet (fTup (fCons (fUn oNeg (fOp oIx (fVar 0) (fC (.int 0)))) (fCons (fOp oIx (fVar 0) (fC (.int 1))) fNil)))
def F_opposite : List PV → Sto → Res PV := fDef 1 1 B_opposite
def B_minus : SF := fRet (fCall 2 F_told_fraction (fCons (fOp oSub (fOp oMul (fOp oIx (fVar 0) (fC (.int 0))) (fOp oIx (fVar 1) (fC (.int 1)))) (fOp oMul (fOp oIx (fVar 1) (fC (.int 0))) (fOp oIx (fVar 0) (fC (.int 1))))) (fCons (fOp oMul (fOp oIx (fVar 0) (fC (.int 1))) (fOp oIx (fVar 1) (fC (.int 1)))) fNil)))
def F_minus : List PV → Sto → Res PV := fDef 2 2 B_minus
def B_times : SF := fRet (fCall 2 F_told_fraction (fCons (fOp oMul (fOp oIx (fVar 0) (fC (.int 0))) (fOp oIx (fVar 1) (fC (.int 0)))) (fCons (fOp oMul (fOp oIx (fVar 0) (fC (.int 1))) (fOp oIx (fVar 1) (fC (.int 1)))) fNil)))
def F_times : List PV → Sto → Res PV := fDef 2 2 B_times
def B_over : SF := fRet (fCall 2 F_told_fraction (fCons (fOp oMul (fOp oIx (fVar 0) (fC (.int 0))) (fOp oIx (fVar 1) (fC (.int 1)))) (fCons (fOp oMul (fOp oIx (fVar 0) (fC (.int 1))) (fOp oIx (fVar 1) (fC (.int 0)))) fNil)))
def F_over : List PV → Sto → Res PV := fDef 2 2 B_over
def B_is_less : SF := fRet (fOp oLt (fOp oMul (fOp oIx (fVar 0) (fC (.int 0))) (fOp oIx (fVar 1) (fC (.int 1)))) (fOp oMul (fOp oIx (fVar 1) (fC (.int 0))) (fOp oIx (fVar 0) (fC (.int 1)))))
def F_is_less : List PV → Sto → Res PV := fDef 2 2 B_is_less
def B_least_of : SF := fSeq (fAsg (fOp oIx (fVar 0) (fC (.int 0))) (gfName 1)) (fSeq (fFor (srcE (fVar 0)) (gfName 2) (fAsg (fIf (fB (fCall 2 F_is_less (fCons (fVar 2) (fCons (fVar 1) fNil)))) (fVar 2) (fVar 1)) (gfName 1))) (fRet (fVar 1)))
def F_least_of : List PV → Sto → Res PV := fDef 1 3 B_least_of
def B_greatest_of : SF := fRet (fCall 1 F_opposite (fCons (fCall 1 F_least_of (fCons (fLcT [1] (srcE (fVar 0)) (gfName 1) fYes (fCall 1 F_opposite (fCons (fVar 1) fNil))) fNil)) fNil))
def F_greatest_of : List PV → Sto → Res PV := fDef 1 2 B_greatest_of
def B_summed : SF := fSeq (fAsg (fTup (fCons (fC (.int 0)) (fCons (fC (.int 1)) fNil))) (gfTup 2 (gfCons (gfName 1) (gfCons (gfName 2) gfNil)))) (fSeq (fFor (srcE (fVar 0)) (gfName 3) (fPar 1 2 (fCons (fOp oAdd (fOp oMul (fVar 1) (fOp oIx (fVar 3) (fC (.int 1)))) (fOp oMul (fOp oIx (fVar 3) (fC (.int 0))) (fVar 2))) (fCons (fOp oMul (fVar 2) (fOp oIx (fVar 3) (fC (.int 1)))) fNil)))) (fRet (fCall 2 F_told_fraction (fCons (fVar 1) (fCons (fVar 2) fNil)))))
def F_summed : List PV → Sto → Res PV := fDef 1 4 B_summed
def B_look_at_wears : SF := fSeq (fIfS (fOr (fNot (fB (fCallB (oIsi isC) (fCons (fVar 0) (fCons (fC (.ty "tuple")) fNil))))) (fNot (fB (fChain oLe oLe (fC (.int 1)) (fCallB oLen (fCons (fVar 0) fNil)) (fC (.int 6)))))) (fRaise 2 (fVar 0)) fNext) (fIfS (fOr (fNot (fB (fCallB oAll (fCons (fLcT [1] (srcE (fVar 0)) (gfName 1) fYes (fCall 1 F_is_price (fCons (fVar 1) fNil))) fNil)))) (fB (fCallB oAll (fCons (fLcT [1] (srcE (fVar 0)) (gfName 1) fYes (fOp oEq (fVar 1) (fC (.tup [.int 0, .int 1])))) fNil)))) (fRaise 2 (fVar 0)) fNext)
def F_look_at_wears : List PV → Sto → Res PV := fDef 1 2 B_look_at_wears
def B_look_at_like : SF := fSeq (fDrop (fCall 1 F_look_at_wears (fCons (fVar 0) fNil))) (fSeq (fIfS (fNot (fB (fCall 3 F_is_int (fCons (fVar 1) (fCons (fCallB oLen (fCons (fVar 0) fNil)) (fCons (fC (.int 8)) fNil)))))) (fRaise 3 (fVar 1)) fNext) (fDrop (fCall 1 F_look_at_above (fCons (fVar 2) fNil))))
def F_look_at_like : List PV → Sto → Res PV := fDef 3 3 B_look_at_like
def B_stock_of : SF := fSeq (fDrop (fCall 3 F_look_at_like (fCons (fVar 0) (fCons (fVar 1) (fCons (fVar 2) fNil))))) (fRet (fTup (fCons (fCallB oLen (fCons (fVar 0) fNil)) (fCons (fOp oMul (fTup (fCons (fTup (fCons (fVar 2) (fCons (fVar 0) fNil))) fNil)) (fVar 1)) fNil))))
def F_stock_of : List PV → Sto → Res PV := fDef 3 3 B_stock_of
def B_told_round : SF := fRet (fCall 2 F_over (fCons (fCall 2 F_times (fCons (fTup (fCons (fVar 1) (fCons (fC (.int 1)) fNil))) (fCons (fVar 2) fNil))) (fCons (fCall 1 F_summed (fCons (fCallB oListT (fCons (fVar 0) fNil)) fNil)) fNil)))
def F_told_round : List PV → Sto → Res PV := fDef 3 3 B_told_round
def B_round_way : SF := fSeq (fDrop (fCall 3 F_look_at_like (fCons (fVar 0) (fCons (fVar 1) (fCons (fVar 2) fNil))))) (fRet (fCall 3 F_told_round (fCons (fVar 0) (fCons (fVar 1) (fCons (fVar 2) fNil)))))
def F_round_way : List PV → Sto → Res PV := fDef 3 3 B_round_way
def B_round_plan : SF := fSeq (fDrop (fCall 3 F_look_at_like (fCons (fVar 0) (fCons (fVar 1) (fCons (fVar 2) fNil))))) (fSeq (fAsg (fCall 2 F_over (fCons (fVar 2) (fCons (fCall 1 F_summed (fCons (fCallB oListT (fCons (fVar 0) fNil)) fNil)) fNil))) (gfName 3)) (fRet (fCallB oTuple (fCons (fLcT [4] (srcR1 (fCons (fVar 1) fNil)) (gfName 4) fYes (fTup (fCons (fVar 3) (fCons (fCallB oTuple (fCons (fLcT [5] (srcR1 (fCons (fCallB oLen (fCons (fVar 0) fNil)) fNil)) (gfName 5) fYes (fOp oMod (fOp oSub (fVar 5) (fVar 4)) (fVar 1))) fNil)) fNil)))) fNil))))
def F_round_plan : List PV → Sto → Res PV := fDef 3 6 B_round_plan
def B_round_prices : SF := fSeq (fDrop (fCall 3 F_look_at_like (fCons (fVar 0) (fCons (fVar 1) (fCons (fVar 2) fNil))))) (fSeq (fAsg (fCall 1 F_summed (fCons (fCallB oListT (fCons (fVar 0) fNil)) fNil)) (gfName 3)) (fRet (fTup (fCons (fCallB oTuple (fCons (fLcT [4] (srcE (fVar 0)) (gfName 4) fYes (fCall 2 F_over (fCons (fVar 4) (fCons (fVar 3) fNil)))) fNil)) (fCons (fOp oMul (fTup (fCons (fC (.tup [.int 0, .int 1])) fNil)) (fVar 1)) (fCons (fOp oMul (fTup (fCons (fCall 2 F_over (fCons (fC (.tup [.int 1, .int 1])) (fCons (fVar 3) fNil))) fNil)) (fVar 1)) fNil))))))
def F_round_prices : List PV → Sto → Res PV := fDef 3 5 B_round_prices
def B_look_at_few : SF := fSeq (fDrop (fCall 1 F_look_at_wears (fCons (fVar 0) fNil))) (fDrop (fCall 1 F_look_at_above (fCons (fVar 1) fNil)))
def F_look_at_few : List PV → Sto → Res PV := fDef 2 2 B_look_at_few
def B_unmoved_way : SF := fSeq (fDrop (fCall 2 F_look_at_few (fCons (fVar 0) (fCons (fVar 1) fNil)))) (fRet (fCall 2 F_over (fCons (fVar 1) (fCons (fCall 1 F_greatest_of (fCons (fCallB oListT (fCons (fVar 0) fNil)) fNil)) fNil))))
def F_unmoved_way : List PV → Sto → Res PV := fDef 2 2 B_unmoved_way
def B_gain_of : SF := fSeq (fDrop (fCall 3 F_look_at_like (fCons (fVar 0) (fCons (fVar 1) (fCons (fVar 2) fNil))))) (fRet (fCall 2 F_minus (fCons (fCall 3 F_told_round (fCons (fVar 0) (fCons (fVar 1) (fCons (fVar 2) fNil)))) (fCons (fCall 2 F_over (fCons (fVar 2) (fCons (fCall 1 F_greatest_of (fCons (fCallB oListT (fCons (fVar 0) fNil)) fNil)) fNil))) fNil))))
def F_gain_of : List PV → Sto → Res PV := fDef 3 3 B_gain_of
def B__law_pot : SF := fSeq (fAsg (fIf (fB (fOp oLt (fVar 1) (fCallB oLen (fCons (fVar 0) fNil)))) (fOp oIx (fVar 0) (fVar 1)) (fOp oAdd (fOp oAdd (fOp oMod (fCallB oInt1 (fCons (fCallB oSum (fCons (fSlH (fVar 0) (fC (.int 1))) fNil)) fNil)) (fC (.int 1000403))) (fOp oMul (fC (.int 5081)) (fVar 1))) (fC (.int 3127)))) (gfName 2)) (fSeq (fAsg (fOp oMul (fOp oMod (fCallB oInt1 (fCons (fCallB oAbs (fCons (fVar 2) fNil)) fNil)) (fOp oPow (fOp oPow (fC (.int 10)) (fC (.int 60))) (fC (.int 5)))) (fCallB oInt1 (fCons (fOp oGe (fCallB oAbs (fCons (fVar 2) fNil)) (fOp oPow (fC (.int 10)) (fC (.int 18)))) fNil))) (gfName 3)) (fSeq (fAsg (fOp oMod (fCallB oInt1 (fCons (fVar 2) fNil)) (fC (.int 2305843009213693921))) (gfName 4)) (fRet (fLst (fCons (fVar 3) (fCons (fOp oMod (fCallB oInt1 (fCons (fOp oAdd (fOp oAdd (fOp oMul (fVar 4) (fC (.int 70249))) (fOp oMul (fOp oMul (fC (.int 13103)) (fVar 1)) (fVar 1))) (fC (.int 2963))) fNil)) (fC (.int 2305843009213693921))) (fCons (fC (.int 0)) fNil)))))))
def F__law_pot : List PV → Sto → Res PV := fDef 2 5 B__law_pot
def B__law_take : SF := fSeq (fIfS (fB (fOp oGt (fOp oIx (fVar 0) (fC (.int 0))) (fC (.int 0)))) (fSeq (fAsg (fOp oMod (fCallB oInt1 (fCons (fOp oIx (fVar 0) (fC (.int 0))) fNil)) (fVar 1)) (gfName 2)) (fSeq (fAsg (fOp oDiv (fOp oIx (fVar 0) (fC (.int 0))) (fVar 1)) (gfSub (fVar 0) (fC (.int 0)))) (fRet (fVar 2)))) fNext) (fSeq (fAsg (fOp oAdd (fOp oIx (fVar 0) (fC (.int 2))) (fC (.int 1))) (gfSub (fVar 0) (fC (.int 2)))) (fSeq (fAsg (fOp oIx (fLstT (fCons (fC (.int 2147483647)) (fCons (fC (.int 2147483629)) (fCons (fC (.int 2147483587)) (fCons (fC (.int 2147483579)) (fCons (fC (.int 2147483563)) fNil)))))) (fOp oMod (fCallB oInt1 (fCons (fOp oIx (fVar 0) (fC (.int 2))) fNil)) (fC (.int 5)))) (gfName 3)) (fSeq (fAsg (fOp oMod (fCallB oInt1 (fCons (fOp oPow (fCallB oInt1 (fCons (fOp oAdd (fOp oAdd (fOp oIx (fVar 0) (fC (.int 1))) (fOp oMul (fOp oMul (fC (.int 90011)) (fOp oIx (fVar 0) (fC (.int 2)))) (fOp oIx (fVar 0) (fC (.int 2))))) (fC (.int 3019))) fNil)) (fC (.int 3))) fNil)) (fVar 3)) (gfName 4)) (fSeq (fAsg (fOp oMod (fCallB oInt1 (fCons (fOp oMul (fVar 4) (fOp oAdd (fOp oMod (fCallB oInt1 (fCons (fVar 4) fNil)) (fC (.int 13751))) (fOp oMul (fC (.int 439)) (fOp oIx (fVar 0) (fC (.int 2)))))) fNil)) (fC (.int 2305843009213693907))) (gfName 4)) (fRet (fOp oMod (fCallB oInt1 (fCons (fOp oDiv (fVar 4) (fC (.int 241))) fNil)) (fVar 1)))))))
def F__law_take : List PV → Sto → Res PV := fDef 2 5 B__law_take
def B__law_of : SF := fRet (fOp oIx (fVar 1) (fCall 2 F__law_take (fCons (fVar 0) (fCons (fCallB oLen (fCons (fVar 1) fNil)) fNil))))
def F__law_of : List PV → Sto → Res PV := fDef 2 2 B__law_of
def B__law_cells : SF := fRet (fLstRg1 (fCallB oMax2 (fCons (fC (.int 1)) (fCons (fCallB oMin2 (fCons (fVar 1) (fCons (fCallB oLen (fCons (fVar 0) fNil)) fNil))) fNil))))
def F__law_cells : List PV → Sto → Res PV := fDef 2 2 B__law_cells
def E_lam0 : EF := fCall 2 F_unmoved_way (fCons (fVar 0) (fCons (fC (.non)) fNil))
def L_0 : LamF := fLamB 0 1 ["bad"] E_lam0
def ftab3 (c : Nat) : Option (List PV → Sto → Res PV) := match c with
  | 4 => some F_stock_of
  | 5 => some F_round_way
  | 6 => some F_round_plan
  | 7 => some F_round_prices
  | 8 => some F_gain_of
  | _ => none
def E_lam1 : EF := fCallF ftab3 0 3 (fCons (fVar 1) (fCons (fC (.non)) (fCons (fC (.non)) fNil)))
def L_1 : LamF := fLamB 0 2 ["call", "bad"] E_lam1
def E_lam3 : EF := fCallF ftab3 0 3 (fCons (fVar 1) (fCons (fVar 2) (fCons (fC (.non)) fNil)))
def L_3 : LamF := fLamB 0 3 ["call", "wears", "odd"] E_lam3
def E_lam4 : EF := fCallF ftab3 0 3 (fCons (fVar 1) (fCons (fVar 2) (fCons (fVar 3) fNil)))
def L_4 : LamF := fLamB 0 4 ["call", "wears", "many", "wrong"] E_lam4
def E_lam5 : EF := fCall 2 F_unmoved_way (fCons (fVar 0) (fCons (fVar 1) fNil))
def L_5 : LamF := fLamB 0 2 ["wears", "wrong"] E_lam5
def tab0 (l : Nat) : Option LamF := match l with
  | 0 => some L_0
  | 1 => some L_1
  | 3 => some L_3
  | 4 => some L_4
  | 5 => some L_5
  | _ => none
def B__law_heard : SF := fSeq (fAsg (fTup (fCons (fC (.non)) (fCons (fC (.non)) fNil))) (gfTup 2 (gfCons (gfName 1) (gfCons (gfName 2) gfNil)))) (fSeq (fTryK 3 1 (fun c => isC c 0) (fAsg (fCallV tab0 0 0 fNil) (gfName 2))) (fRet (fTup (fCons (fVar 1) (fCons (fVar 2) fNil)))))
def F__law_heard : List PV → Sto → Res PV := fDef 1 4 B__law_heard
def B__law_is_int : SF := fRet (fAndV (fCallB (oIsi isC) (fCons (fVar 0) (fCons (fC (.ty "int")) fNil))) (fAndV (fNotV (fCallB (oIsi isC) (fCons (fVar 0) (fCons (fC (.ty "bool")) fNil)))) (fChain oLe oLe (fVar 1) (fVar 0) (fVar 2))))
def F__law_is_int : List PV → Sto → Res PV := fDef 3 3 B__law_is_int
def B__law_frac : SF := fSeq (fPar 2 3 (fCons (fCallB oAbs (fCons (fVar 0) fNil)) (fCons (fCallB oAbs (fCons (fVar 1) fNil)) fNil))) (fSeq (fWhile (measInt 3) (fB (fOp oNe (fVar 3) (fC (.int 0)))) (fPar 2 3 (fCons (fVar 3) (fCons (fOp oMod (fVar 2) (fVar 3)) fNil)))) (fSeq (fAsg (fIf (fB (fOp oLt (fVar 1) (fC (.int 0)))) (fUn oNeg (fC (.int 1))) (fC (.int 1))) (gfName 4)) (fRet (fTup (fCons (fOp oDiv (fOp oMul (fVar 4) (fVar 0)) (fVar 2)) (fCons (fOp oDiv (fOp oMul (fVar 4) (fVar 1)) (fVar 2)) fNil))))))
def F__law_frac : List PV → Sto → Res PV := fDef 2 5 B__law_frac
def B__law_plus : SF := fRet (fCall 2 F__law_frac (fCons (fOp oAdd (fOp oMul (fOp oIx (fVar 0) (fC (.int 0))) (fOp oIx (fVar 1) (fC (.int 1)))) (fOp oMul (fOp oIx (fVar 1) (fC (.int 0))) (fOp oIx (fVar 0) (fC (.int 1))))) (fCons (fOp oMul (fOp oIx (fVar 0) (fC (.int 1))) (fOp oIx (fVar 1) (fC (.int 1)))) fNil)))
def F__law_plus : List PV → Sto → Res PV := fDef 2 2 B__law_plus
def B__law_times : SF := fRet (fCall 2 F__law_frac (fCons (fOp oMul (fOp oIx (fVar 0) (fC (.int 0))) (fOp oIx (fVar 1) (fC (.int 0)))) (fCons (fOp oMul (fOp oIx (fVar 0) (fC (.int 1))) (fOp oIx (fVar 1) (fC (.int 1)))) fNil)))
def F__law_times : List PV → Sto → Res PV := fDef 2 2 B__law_times
def B__law_less : SF := fRet (fCall 2 F__law_frac (fCons (fOp oSub (fOp oMul (fOp oIx (fVar 0) (fC (.int 0))) (fOp oIx (fVar 1) (fC (.int 1)))) (fOp oMul (fOp oIx (fVar 1) (fC (.int 0))) (fOp oIx (fVar 0) (fC (.int 1))))) (fCons (fOp oMul (fOp oIx (fVar 0) (fC (.int 1))) (fOp oIx (fVar 1) (fC (.int 1)))) fNil)))
def F__law_less : List PV → Sto → Res PV := fDef 2 2 B__law_less
def B__law_over : SF := fRet (fCall 2 F__law_frac (fCons (fOp oMul (fOp oIx (fVar 0) (fC (.int 0))) (fOp oIx (fVar 1) (fC (.int 1)))) (fCons (fOp oMul (fOp oIx (fVar 0) (fC (.int 1))) (fOp oIx (fVar 1) (fC (.int 0)))) fNil)))
def F__law_over : List PV → Sto → Res PV := fDef 2 2 B__law_over
def B__law_sum : SF := fSeq (fAsg (fTup (fCons (fC (.int 0)) (fCons (fC (.int 1)) fNil))) (gfName 1)) (fSeq (fFor (srcE (fVar 0)) (gfName 2) (fAsg (fCall 2 F__law_plus (fCons (fVar 1) (fCons (fVar 2) fNil))) (gfName 1))) (fRet (fVar 1)))
def F__law_sum : List PV → Sto → Res PV := fDef 1 3 B__law_sum
def B__law_is_less : SF := fRet (fOp oLt (fOp oMul (fOp oIx (fVar 0) (fC (.int 0))) (fOp oIx (fVar 1) (fC (.int 1)))) (fOp oMul (fOp oIx (fVar 1) (fC (.int 0))) (fOp oIx (fVar 0) (fC (.int 1)))))
def F__law_is_less : List PV → Sto → Res PV := fDef 2 2 B__law_is_less
def B__law_is_exact : SF := fSeq (fIfS (fOr (fNot (fB (fCallB (oIsi isC) (fCons (fVar 0) (fCons (fC (.ty "tuple")) fNil))))) (fOr (fB (fOp oNe (fCallB oLen (fCons (fVar 0) fNil)) (fC (.int 2)))) (fNot (fB (fCallB oAll (fCons (fLcT [1] (srcE (fVar 0)) (gfName 1) fYes (fCallB (oIsi isC) (fCons (fVar 1) (fCons (fC (.ty "int")) fNil)))) fNil)))))) (fRet (fC (.bl false))) fNext) (fSeq (fIfS (fOr (fB (fCallB oAny (fCons (fLcT [1] (srcE (fVar 0)) (gfName 1) fYes (fCallB (oIsi isC) (fCons (fVar 1) (fCons (fC (.ty "bool")) fNil)))) fNil))) (fB (fOp oLt (fOp oIx (fVar 0) (fC (.int 1))) (fC (.int 1))))) (fRet (fC (.bl false))) fNext) (fRet (fOp oEq (fCall 2 F__law_frac (fCons (fOp oIx (fVar 0) (fC (.int 0))) (fCons (fOp oIx (fVar 0) (fC (.int 1))) fNil))) (fVar 0))))
def F__law_is_exact : List PV → Sto → Res PV := fDef 1 2 B__law_is_exact
def E_lam2 : EF := fCallB (oIsi isC) (fCons (fVar 0) (fCons (fC (.cls 2)) fNil))
def L_2 : LamF := fLamB 1 1 [] E_lam2
def E_lam6 : EF := fCallB (oIsi isC) (fCons (fVar 0) (fCons (fC (.cls 1)) fNil))
def L_6 : LamF := fLamB 1 1 [] E_lam6
def tab1 (l : Nat) : Option LamF := match l with
  | 2 => some L_2
  | 6 => some L_6
  | _ => none
def B__law_are_refused : SF := fSeq (fFor (srcE (fVar 0)) (gfName 3) (fSeq (fAsg (fOp oIx (fCall 1 F__law_heard (fCons (fVar 3) fNil)) (fC (.int 0))) (gfName 4)) (fIfS (fOr (fB (fOp oIsN (fVar 4) (fC (.non)))) (fOr (fNot (fB (fCallV tab1 1 1 (fCons (fVar 4) fNil)))) (fB (fOp oNe (fCallB oRepr (fCons (fVal okC (fVar 4)) fNil)) (fCallB oRepr (fCons (fVar 2) fNil)))))) (fRet (fC (.bl false))) fNext))) (fRet (fC (.bl true)))
def F__law_are_refused : List PV → Sto → Res PV := fDef 3 5 B__law_are_refused
def B__law_is_share : SF := fRet (fAndV (fCall 1 F__law_is_exact (fCons (fVar 0) fNil)) (fOp oGe (fOp oIx (fVar 0) (fC (.int 0))) (fC (.int 0))))
def F__law_is_share : List PV → Sto → Res PV := fDef 1 1 B__law_is_share
def B__law_number : SF := fRet (fCall 2 F__law_frac (fCons (fOp oAdd (fC (.int 1)) (fCallB oInt1 (fCons (fCall 2 F__law_take (fCons (fVar 0) (fCons (fVar 1) fNil))) fNil))) (fCons (fOp oAdd (fC (.int 1)) (fCallB oInt1 (fCons (fCall 2 F__law_take (fCons (fVar 0) (fCons (fC (.int 3)) fNil))) fNil))) fNil)))
def F__law_number : List PV → Sto → Res PV := fDef 2 2 B__law_number
def B__law_wear : SF := fRet (fIf (fB (fOp oEq (fCall 2 F__law_take (fCons (fVar 0) (fCons (fC (.int 7)) fNil))) (fC (.int 0)))) (fTup (fCons (fC (.int 0)) (fCons (fC (.int 1)) fNil))) (fCall 2 F__law_frac (fCons (fOp oAdd (fC (.int 1)) (fCallB oInt1 (fCons (fCall 2 F__law_take (fCons (fVar 0) (fCons (fC (.int 6)) fNil))) fNil))) (fCons (fOp oAdd (fC (.int 1)) (fCallB oInt1 (fCons (fCall 2 F__law_take (fCons (fVar 0) (fCons (fC (.int 2)) fNil))) fNil))) fNil))))
def F__law_wear : List PV → Sto → Res PV := fDef 1 1 B__law_wear
def B__law_is_seating : SF := fSeq (fIfS (fOr (fNot (fB (fCallB (oIsi isC) (fCons (fVar 1) (fCons (fC (.ty "tuple")) fNil))))) (fB (fOp oNe (fCallB oLen (fCons (fVar 1) fNil)) (fOp oIx (fVar 0) (fC (.int 0)))))) (fRet (fC (.bl false))) fNext) (fSeq (fIfS (fNot (fB (fCallB oAll (fCons (fLcT [2] (srcE (fVar 1)) (gfName 2) fYes (fCall 3 F__law_is_int (fCons (fVar 2) (fCons (fC (.int 0)) (fCons (fOp oSub (fCallB oLen (fCons (fOp oIx (fVar 0) (fC (.int 1))) fNil)) (fC (.int 1))) fNil))))) fNil)))) (fRet (fC (.bl false))) fNext) (fRet (fOp oEq (fLenSet (fCallB oListT (fCons (fVar 1) fNil))) (fCallB oLen (fCons (fVar 1) fNil)))))
def F__law_is_seating : List PV → Sto → Res PV := fDef 2 3 B__law_is_seating
def B__law_is_leg : SF := fSeq (fIfS (fOr (fNot (fB (fCallB (oIsi isC) (fCons (fVar 1) (fCons (fC (.ty "tuple")) fNil))))) (fOr (fB (fOp oNe (fCallB oLen (fCons (fVar 1) fNil)) (fC (.int 2)))) (fOr (fNot (fB (fCall 1 F__law_is_exact (fCons (fOp oIx (fVar 1) (fC (.int 0))) fNil)))) (fB (fOp oLt (fOp oIx (fOp oIx (fVar 1) (fC (.int 0))) (fC (.int 0))) (fC (.int 1))))))) (fRet (fC (.bl false))) fNext) (fRet (fCall 2 F__law_is_seating (fCons (fVar 0) (fCons (fOp oIx (fVar 1) (fC (.int 1))) fNil))))
def F__law_is_leg : List PV → Sto → Res PV := fDef 2 2 B__law_is_leg
def B__law_is_plan : SF := fRet (fAndV (fCallB (oIsi isC) (fCons (fVar 1) (fCons (fC (.ty "tuple")) fNil))) (fAndV (fOp oLe (fCallB oLen (fCons (fVar 1) fNil)) (fC (.int 200))) (fCallB oAll (fCons (fLcT [2] (srcE (fVar 1)) (gfName 2) fYes (fCall 2 F__law_is_leg (fCons (fVar 0) (fCons (fVar 2) fNil)))) fNil))))
def F__law_is_plan : List PV → Sto → Res PV := fDef 2 3 B__law_is_plan
def B__law_way : SF := fRet (fCall 1 F__law_sum (fCons (fLcT [1] (srcE (fVar 0)) (gfName 1) fYes (fOp oIx (fVar 1) (fC (.int 0)))) fNil))
def F__law_way : List PV → Sto → Res PV := fDef 1 2 B__law_way
def B__law_table : SF := fSeq (fAsg (fLcT [6] (srcE (fOp oIx (fVar 0) (fC (.int 1)))) (gfName 6) fYes (fMulL (fLstT (fCons (fTup (fCons (fC (.int 0)) (fCons (fC (.int 1)) fNil))) fNil)) (fOp oIx (fVar 0) (fC (.int 0))))) (gfName 2)) (fSeq (fFor (srcE (fVar 1)) (gfTup 2 (gfCons (gfName 3) (gfCons (gfName 4) gfNil))) (fFor (srcEnA (fCons (fVar 4) fNil)) (gfTup 2 (gfCons (gfName 5) (gfCons (gfName 6) gfNil))) (fAsg (fCall 2 F__law_plus (fCons (fOp oIx (fOp oIx (fVar 2) (fVar 6)) (fVar 5)) (fCons (fVar 3) fNil))) (gfSub (fOp oIx (fVar 2) (fVar 6)) (fVar 5))))) (fRet (fCallB oTuple (fCons (fLcT [7] (srcE (fVar 2)) (gfName 7) fYes (fCallB oTuple (fCons (fVar 7) fNil))) fNil))))
def F__law_table : List PV → Sto → Res PV := fDef 2 8 B__law_table
def B__law_worn : SF := fSeq (fAsg (fLst fNil) (gfName 2)) (fSeq (fFor (srcEnA (fCons (fVar 1) fNil)) (gfTup 2 (gfCons (gfName 3) (gfCons (gfName 4) gfNil))) (fDrop (fAppend (fVar 2) (fCall 1 F__law_sum (fCons (fLcT [5, 6] (srcEnA (fCons (fVar 4) fNil)) (gfTup 2 (gfCons (gfName 5) (gfCons (gfName 6) gfNil))) fYes (fCall 2 F__law_times (fCons (fOp oIx (fOp oIx (fOp oIx (fOp oIx (fVar 0) (fC (.int 1))) (fVar 3)) (fC (.int 1))) (fVar 5)) (fCons (fVar 6) fNil)))) fNil))))) (fRet (fVar 2)))
def F__law_worn : List PV → Sto → Res PV := fDef 2 7 B__law_worn
def B__law_serves : SF := fSeq (fAsg (fCall 2 F__law_worn (fCons (fVar 0) (fCons (fCall 2 F__law_table (fCons (fVar 0) (fCons (fVar 1) fNil))) fNil))) (gfName 2)) (fRet (fNotV (fCallB oAny (fCons (fLcT [3, 4] (srcEnA (fCons (fVar 2) fNil)) (gfTup 2 (gfCons (gfName 3) (gfCons (gfName 4) gfNil))) fYes (fCall 2 F__law_is_less (fCons (fOp oIx (fOp oIx (fOp oIx (fVar 0) (fC (.int 1))) (fVar 3)) (fC (.int 0))) (fCons (fVar 4) fNil)))) fNil))))
def F__law_serves : List PV → Sto → Res PV := fDef 2 5 B__law_serves
def B__law_do_bar : SF := fSeq (fIfS (fOr (fNot (fB (fCallB (oIsi isC) (fCons (fVar 2) (fCons (fC (.ty "tuple")) fNil))))) (fB (fOp oNe (fCallB oLen (fCons (fVar 2) fNil)) (fC (.int 3))))) (fRet (fC (.bl false))) fNext) (fSeq (fFor (srcZipB (fCons (fVar 2) (fCons (fLstT (fCons (fOp oIx (fVar 0) (fC (.int 0))) (fCons (fCallB oLen (fCons (fOp oIx (fVar 0) (fC (.int 1))) fNil)) (fCons (fCallB oLen (fCons (fOp oIx (fVar 0) (fC (.int 1))) fNil)) fNil)))) fNil))) (gfTup 2 (gfCons (gfName 3) (gfCons (gfName 4) gfNil))) (fIfS (fOr (fNot (fB (fCallB (oIsi isC) (fCons (fVar 3) (fCons (fC (.ty "tuple")) fNil))))) (fOr (fB (fOp oNe (fCallB oLen (fCons (fVar 3) fNil)) (fVar 4))) (fNot (fB (fCallB oAll (fCons (fLcT [10] (srcE (fVar 3)) (gfName 10) fYes (fCall 1 F__law_is_share (fCons (fVar 10) fNil))) fNil)))))) (fRet (fC (.bl false))) fNext)) (fSeq (fFor (srcEnA (fCons (fOp oIx (fVar 0) (fC (.int 1))) fNil)) (gfTup 2 (gfCons (gfName 5) (gfCons (gfTup 2 (gfCons (gfName 6) (gfCons (gfName 7) gfNil))) gfNil))) (fFor (srcR1 (fCons (fOp oIx (fVar 0) (fC (.int 0))) fNil)) (gfName 8) (fSeq (fAsg (fCall 2 F__law_plus (fCons (fOp oIx (fOp oIx (fVar 2) (fC (.int 1))) (fVar 5)) (fCons (fCall 2 F__law_times (fCons (fOp oIx (fOp oIx (fVar 2) (fC (.int 2))) (fVar 5)) (fCons (fOp oIx (fVar 7) (fVar 8)) fNil))) fNil))) (gfName 9)) (fIfS (fAnd (fB (fOp oNotIn2 (fTup (fCons (fVar 5) (fCons (fVar 8) fNil))) (fVar 1))) (fB (fCall 2 F__law_is_less (fCons (fVar 9) (fCons (fOp oIx (fOp oIx (fVar 2) (fC (.int 0))) (fVar 8)) fNil))))) (fRet (fC (.bl false))) fNext)))) (fRet (fNotV (fCall 2 F__law_is_less (fCons (fCall 1 F__law_sum (fCons (fCallB oListT (fCons (fOp oIx (fVar 2) (fC (.int 0))) fNil)) fNil)) (fCons (fCall 2 F__law_plus (fCons (fCall 1 F__law_sum (fCons (fCallB oListT (fCons (fOp oIx (fVar 2) (fC (.int 1))) fNil)) fNil)) (fCons (fTup (fCons (fC (.int 1)) (fCons (fC (.int 1)) fNil))) fNil))) fNil)))))))
def F__law_do_bar : List PV → Sto → Res PV := fDef 3 11 B__law_do_bar
def B__law_bound : SF := fRet (fCall 1 F__law_sum (fCons (fLcT [2, 3] (srcEnA (fCons (fOp oIx (fVar 1) (fC (.int 2))) fNil)) (gfTup 2 (gfCons (gfName 2) (gfCons (gfName 3) gfNil))) fYes (fCall 2 F__law_times (fCons (fOp oIx (fOp oIx (fOp oIx (fVar 0) (fC (.int 1))) (fVar 2)) (fC (.int 0))) (fCons (fVar 3) fNil)))) fNil))
def F__law_bound : List PV → Sto → Res PV := fDef 2 4 B__law_bound
def B__law_is_served : SF := fSeq (fIfS (fOr (fNot (fB (fCallB (oIsi isC) (fCons (fVar 2) (fCons (fC (.ty "tuple")) fNil))))) (fOr (fB (fOp oNotIn2 (fCallB oLen (fCons (fVar 2) fNil)) (fTup (fCons (fC (.int 2)) (fCons (fC (.int 4)) fNil))))) (fNot (fB (fCallB (oIsi isC) (fCons (fOp oIx (fVar 2) (fC (.int 0))) (fCons (fC (.ty "str")) fNil))))))) (fRet (fC (.bl false))) fNext) (fSeq (fIfS (fB (fOp oEq (fCallB oLen (fCons (fVar 2) fNil)) (fC (.int 2)))) (fSeq (fIfS (fOr (fB (fOp oNe (fOp oIx (fVar 2) (fC (.int 0))) (fC (.str "endless")))) (fNot (fB (fCall 2 F__law_is_seating (fCons (fVar 0) (fCons (fOp oIx (fVar 2) (fC (.int 1))) fNil)))))) (fRet (fC (.bl false))) fNext) (fSeq (fAsg (fLcT [6, 7] (srcEnA (fCons (fOp oIx (fVar 2) (fC (.int 1))) fNil)) (gfTup 2 (gfCons (gfName 6) (gfCons (gfName 7) gfNil))) fYes (fTup (fCons (fVar 7) (fCons (fVar 6) fNil)))) (gfName 3)) (fRet (fNotV (fCallB oAny (fCons (fLcT [8] (srcE (fVar 3)) (gfName 8) fYes (fOrV (fOp oIn2 (fVar 8) (fVar 1)) (fOp oNe (fOp oIx (fOp oIx (fOp oIx (fOp oIx (fVar 0) (fC (.int 1))) (fOp oIx (fVar 8) (fC (.int 0)))) (fC (.int 1))) (fOp oIx (fVar 8) (fC (.int 1)))) (fTup (fCons (fC (.int 0)) (fCons (fC (.int 1)) fNil)))))) fNil)))))) fNext) (fSeq (fIfS (fOr (fB (fOp oNe (fOp oIx (fVar 2) (fC (.int 0))) (fC (.str "served")))) (fOr (fNot (fB (fCall 1 F__law_is_exact (fCons (fOp oIx (fVar 2) (fC (.int 1))) fNil)))) (fNot (fB (fCall 2 F__law_is_plan (fCons (fVar 0) (fCons (fOp oIx (fVar 2) (fC (.int 2))) fNil))))))) (fRet (fC (.bl false))) fNext) (fSeq (fFor (srcE (fOp oIx (fVar 2) (fC (.int 2)))) (gfTup 2 (gfCons (gfName 4) (gfCons (gfName 5) gfNil))) (fIfS (fB (fCallB oAny (fCons (fLcT [6, 7] (srcEnA (fCons (fVar 5) fNil)) (gfTup 2 (gfCons (gfName 6) (gfCons (gfName 7) gfNil))) fYes (fOp oIn2 (fTup (fCons (fVar 7) (fCons (fVar 6) fNil))) (fVar 1))) fNil))) (fRet (fC (.bl false))) fNext)) (fSeq (fIfS (fOr (fB (fOp oNe (fCall 1 F__law_way (fCons (fOp oIx (fVar 2) (fC (.int 2))) fNil)) (fOp oIx (fVar 2) (fC (.int 1))))) (fNot (fB (fCall 2 F__law_serves (fCons (fVar 0) (fCons (fOp oIx (fVar 2) (fC (.int 2))) fNil)))))) (fRet (fC (.bl false))) fNext) (fRet (fAndV (fCall 3 F__law_do_bar (fCons (fVar 0) (fCons (fVar 1) (fCons (fOp oIx (fVar 2) (fC (.int 3))) fNil)))) (fOp oEq (fCall 2 F__law_bound (fCons (fVar 0) (fCons (fOp oIx (fVar 2) (fC (.int 3))) fNil))) (fOp oIx (fVar 2) (fC (.int 1))))))))))
def F__law_is_served : List PV → Sto → Res PV := fDef 3 9 B__law_is_served
def B__law_greatest : SF := fSeq (fAsg (fOp oIx (fVar 0) (fC (.int 0))) (gfName 1)) (fSeq (fFor (srcE (fVar 0)) (gfName 2) (fAsg (fIf (fB (fCall 2 F__law_is_less (fCons (fVar 1) (fCons (fVar 2) fNil)))) (fVar 2) (fVar 1)) (gfName 1))) (fRet (fVar 1)))
def F__law_greatest : List PV → Sto → Res PV := fDef 1 3 B__law_greatest
def B__law_are_like_right : SF := fSeq (fAsg (fTup (fCons (fTup (fCons (fCallB oLen (fCons (fVar 0) fNil)) (fCons (fOp oMul (fTup (fCons (fTup (fCons (fVar 2) (fCons (fVar 0) fNil))) fNil)) (fVar 1)) fNil))) (fCons (fCall 1 F__law_sum (fCons (fCallB oListT (fCons (fVar 0) fNil)) fNil)) fNil))) (gfTup 2 (gfCons (gfName 3) (gfCons (gfName 4) gfNil)))) (fSeq (fAsg (fCall 2 F__law_over (fCons (fCall 2 F__law_times (fCons (fTup (fCons (fVar 1) (fCons (fC (.int 1)) fNil))) (fCons (fVar 2) fNil))) (fCons (fVar 4) fNil))) (gfName 5)) (fSeq (fIfS (fOr (fB (fOp oNe (fCallB oRepr (fCons (fCallK 3 2 1 [0] F_stock_of (fCons (fVar 0) (fCons (fVar 1) fNil)) (fCons (fVar 2) fNil)) fNil)) (fCallB oRepr (fCons (fVar 3) fNil)))) (fB (fOp oNe (fCallB oRepr (fCons (fCallK 3 2 1 [0] F_round_way (fCons (fVar 0) (fCons (fVar 1) fNil)) (fCons (fVar 2) fNil)) fNil)) (fCallB oRepr (fCons (fVar 5) fNil))))) (fRet (fC (.bl false))) fNext) (fSeq (fPar 6 7 (fCons (fCallK 3 2 1 [0] F_round_plan (fCons (fVar 0) (fCons (fVar 1) fNil)) (fCons (fVar 2) fNil)) (fCons (fCall 2 F__law_over (fCons (fVar 2) (fCons (fVar 4) fNil))) fNil))) (fSeq (fAsg (fLst fNil) (gfName 8)) (fSeq (fFor (srcR1 (fCons (fVar 1) fNil)) (gfName 9) (fSeq (fAsg (fLcT [14] (srcR1 (fCons (fVar 1) fNil)) (gfName 14) fYes (fOp oMod (fOp oAdd (fVar 14) (fVar 9)) (fVar 1))) (gfName 10)) (fDrop (fAppend (fVar 8) (fTup (fCons (fVar 7) (fCons (fCallB oTuple (fCons (fLcT [15] (srcR1 (fCons (fCallB oLen (fCons (fVar 0) fNil)) fNil)) (gfName 15) fYes (fIndex (fVar 10) (fVar 15))) fNil)) fNil))))))) (fSeq (fIfS (fB (fOp oNe (fCallB oRepr (fCons (fVar 6) fNil)) (fCallB oRepr (fCons (fCallB oTuple (fCons (fVar 8) fNil)) fNil)))) (fRet (fC (.bl false))) fNext) (fSeq (fAsg (fCallK 3 2 1 [0] F_round_prices (fCons (fVar 0) (fCons (fVar 1) fNil)) (fCons (fVar 2) fNil)) (gfName 11)) (fSeq (fAsg (fCall 2 F__law_over (fCons (fTup (fCons (fC (.int 1)) (fCons (fC (.int 1)) fNil))) (fCons (fVar 4) fNil))) (gfName 12)) (fSeq (fIfS (fB (fOp oNe (fCallB oRepr (fCons (fVar 11) fNil)) (fCallB oRepr (fCons (fTup (fCons (fCallB oTuple (fCons (fLcT [16] (srcE (fVar 0)) (gfName 16) fYes (fCall 2 F__law_over (fCons (fVar 16) (fCons (fVar 4) fNil)))) fNil)) (fCons (fOp oMul (fTup (fCons (fTup (fCons (fC (.int 0)) (fCons (fC (.int 1)) fNil))) fNil)) (fVar 1)) (fCons (fOp oMul (fTup (fCons (fVar 12) fNil)) (fVar 1)) fNil)))) fNil)))) (fRet (fC (.bl false))) fNext) (fSeq (fIfS (fNot (fB (fCall 3 F__law_is_served (fCons (fVar 3) (fCons (fTup fNil) (fCons (fTup (fCons (fC (.str "served")) (fCons (fVar 5) (fCons (fVar 6) (fCons (fVar 11) fNil))))) fNil)))))) (fRet (fC (.bl false))) fNext) (fSeq (fAsg (fCall 2 F__law_over (fCons (fVar 2) (fCons (fCall 1 F__law_greatest (fCons (fCallB oListT (fCons (fVar 0) fNil)) fNil)) fNil))) (gfName 13)) (fSeq (fIfS (fOr (fB (fOp oNe (fCallB oRepr (fCons (fCallK 2 1 1 [0] F_unmoved_way (fCons (fVar 0) fNil) (fCons (fVar 2) fNil)) fNil)) (fCallB oRepr (fCons (fVar 13) fNil)))) (fB (fOp oNe (fCallB oRepr (fCons (fCallK 3 2 1 [0] F_gain_of (fCons (fVar 0) (fCons (fVar 1) fNil)) (fCons (fVar 2) fNil)) fNil)) (fCallB oRepr (fCons (fCall 2 F__law_less (fCons (fVar 5) (fCons (fVar 13) fNil))) fNil))))) (fRet (fC (.bl false))) fNext) (fRet (fNotV (fCall 2 F__law_is_less (fCons (fVar 5) (fCons (fVar 13) fNil)))))))))))))))))
def F__law_are_like_right : List PV → Sto → Res PV := fDef 3 17 B__law_are_like_right
def B__law_are_all_refused (fid : Nat) : SF := fSeq (fAsg (fCall 2 F__law_of (fCons (fVar 0) (fCons (fLstT (fCons (fC (.non)) (fCons (fTup fNil) (fCons (fOp oMul (fTup (fCons (fTup (fCons (fC (.int 0)) (fCons (fC (.int 1)) fNil))) fNil)) (fC (.int 3))) (fCons (fOp oMul (fTup (fCons (fTup (fCons (fC (.int 1)) (fCons (fC (.int 1)) fNil))) fNil)) (fC (.int 7))) (fCons (fLstT (fCons (fTup (fCons (fC (.int 1)) (fCons (fC (.int 1)) fNil))) fNil)) (fCons (fTup (fCons (fTup (fCons (fUn oNeg (fC (.int 1))) (fCons (fC (.int 1)) fNil))) fNil)) (fCons (fTup (fCons (fC (.int 1)) fNil)) (fCons (fTup (fCons (fTup (fCons (fC (.int 2)) (fCons (fC (.int 4)) fNil))) fNil)) fNil))))))))) fNil))) (gfName 3)) (fSeq (fAsg (fLstT (fCons (fLam 0 fid) fNil)) (gfName 4)) (fSeq (fFor (srcE (fLstT (fCons (fC (.cls 4)) (fCons (fC (.cls 5)) (fCons (fC (.cls 6)) (fCons (fC (.cls 7)) (fCons (fC (.cls 8)) fNil))))))) (gfName 5) (fSeq (fAsg (fOp oIx (fCallS fid [("wears", 1), ("many", 2), ("bad", 3), ("call", 5), ("odd", 7), ("wrong", 8)] 1 F__law_heard (fCons (fLam 1 fid) fNil)) (fC (.int 0))) (gfName 6)) (fIfS (fOr (fNot (fB (fCallB (oIsi isC) (fCons (fVar 6) (fCons (fC (.cls 2)) fNil))))) (fB (fOp oNe (fCallB oRepr (fCons (fVal okC (fVar 6)) fNil)) (fCallB oRepr (fCons (fVar 3) fNil))))) (fRet (fC (.bl false))) fNext))) (fSeq (fIfS (fNot (fB (fCallS fid [("wears", 1), ("many", 2), ("bad", 3), ("call", 5), ("odd", 7), ("wrong", 8)] 3 F__law_are_refused (fCons (fVar 4) (fCons (fLam 2 fid) (fCons (fVar 3) fNil)))))) (fRet (fC (.bl false))) fNext) (fSeq (fAsg (fCall 2 F__law_of (fCons (fVar 0) (fCons (fLstT (fCons (fC (.non)) (fCons (fOp oSub (fCallB oLen (fCons (fVar 1) fNil)) (fC (.int 1))) (fCons (fC (.int 9)) (fCons (fC (.bl true)) (fCons (fC (.str "4")) fNil)))))) fNil))) (gfName 7)) (fSeq (fAsg (fCall 2 F__law_of (fCons (fVar 0) (fCons (fLstT (fCons (fC (.non)) (fCons (fTup (fCons (fC (.int 0)) (fCons (fC (.int 1)) fNil))) (fCons (fTup (fCons (fUn oNeg (fC (.int 1))) (fCons (fC (.int 1)) fNil))) (fCons (fTup (fCons (fC (.int 2)) (fCons (fC (.int 4)) fNil))) (fCons (fC (.int 1)) fNil)))))) fNil))) (gfName 8)) (fSeq (fFor (srcE (fLstT (fCons (fC (.cls 4)) (fCons (fC (.cls 5)) (fCons (fC (.cls 6)) (fCons (fC (.cls 7)) (fCons (fC (.cls 8)) fNil))))))) (gfName 5) (fSeq (fAsg (fOp oIx (fCallS fid [("wears", 1), ("many", 2), ("bad", 3), ("call", 5), ("odd", 7), ("wrong", 8)] 1 F__law_heard (fCons (fLam 3 fid) fNil)) (fC (.int 0))) (gfName 6)) (fSeq (fIfS (fOr (fNot (fB (fCallB (oIsi isC) (fCons (fVar 6) (fCons (fC (.cls 3)) fNil))))) (fB (fOp oNe (fCallB oRepr (fCons (fVal okC (fVar 6)) fNil)) (fCallB oRepr (fCons (fVar 7) fNil))))) (fRet (fC (.bl false))) fNext) (fSeq (fAsg (fOp oIx (fCallS fid [("wears", 1), ("many", 2), ("bad", 3), ("call", 5), ("odd", 7), ("wrong", 8)] 1 F__law_heard (fCons (fLam 4 fid) fNil)) (fC (.int 0))) (gfName 6)) (fIfS (fOr (fNot (fB (fCallB (oIsi isC) (fCons (fVar 6) (fCons (fC (.cls 1)) fNil))))) (fB (fOp oNe (fCallB oRepr (fCons (fVal okC (fVar 6)) fNil)) (fCallB oRepr (fCons (fVar 8) fNil))))) (fRet (fC (.bl false))) fNext))))) (fRet (fCallS fid [("wears", 1), ("many", 2), ("bad", 3), ("call", 5), ("odd", 7), ("wrong", 8)] 3 F__law_are_refused (fCons (fLstT (fCons (fLam 5 fid) fNil)) (fCons (fLam 6 fid) (fCons (fVar 8) fNil)))))))))))
def F__law_are_all_refused : List PV → Sto → Res PV := fDefC 3 9 B__law_are_all_refused
def B__law_right : SF := fSeq (fFor (srcR1 (fCons (fC (.int 8)) fNil)) (gfName 1) (fSeq (fAsg (fCallB oTuple (fCons (fLcT [4] (srcR1 (fCons (fOp oAdd (fC (.int 1)) (fCall 2 F__law_take (fCons (fVar 0) (fCons (fC (.int 6)) fNil)))) fNil)) (gfName 4) fYes (fCall 1 F__law_wear (fCons (fVar 0) fNil))) fNil)) (gfName 2)) (fSeq (fIfS (fB (fCallB oAll (fCons (fLcT [5] (srcE (fVar 2)) (gfName 5) fYes (fOp oEq (fVar 5) (fTup (fCons (fC (.int 0)) (fCons (fC (.int 1)) fNil))))) fNil))) (fAsg (fOp oAdd (fSlL (fVar 2) (fC (.int 1))) (fTup (fCons (fTup (fCons (fC (.int 1)) (fCons (fC (.int 2)) fNil))) fNil))) (gfName 2)) fNext) (fSeq (fAsg (fOp oAdd (fCallB oLen (fCons (fVar 2) fNil)) (fCallB oInt1 (fCons (fCall 2 F__law_take (fCons (fVar 0) (fCons (fOp oSub (fC (.int 9)) (fCallB oLen (fCons (fVar 2) fNil))) fNil))) fNil))) (gfName 3)) (fIfS (fOr (fNot (fB (fCall 3 F__law_are_like_right (fCons (fVar 2) (fCons (fVar 3) (fCons (fCall 2 F__law_number (fCons (fVar 0) (fCons (fC (.int 40)) fNil))) fNil)))))) (fNot (fB (fCall 3 F__law_are_all_refused (fCons (fVar 0) (fCons (fVar 2) (fCons (fVar 3) fNil))))))) (fRet (fC (.bl false))) fNext))))) (fRet (fC (.bl true)))
def F__law_right : List PV → Sto → Res PV := fDef 1 6 B__law_right
def B_law : SF := fSeq (fAsg (fTup (fCons (fTup (fCons (fC (.int 1)) (fCons (fC (.int 20000)) fNil))) (fCons (fTup (fCons (fC (.int 1)) (fCons (fC (.int 40000)) fNil))) fNil))) (gfTup 2 (gfCons (gfName 1) (gfCons (gfName 2) gfNil)))) (fSeq (fIfS (fB (fOp oNe (fCall 3 F_round_way (fCons (fTup (fCons (fVar 1) (fCons (fVar 1) (fCons (fVar 2) (fCons (fVar 2) fNil))))) (fCons (fC (.int 5)) (fCons (fTup (fCons (fC (.int 1)) (fCons (fC (.int 1)) fNil))) fNil)))) (fTup (fCons (fC (.int 100000)) (fCons (fC (.int 3)) fNil))))) (fRet (fC (.bl false))) fNext) (fRet (fCallB oAll (fCons (fLcT [3] (srcE (fCall 2 F__law_cells (fCons (fVar 0) (fCons (fC (.int 3)) fNil)))) (gfName 3) fYes (fCall 1 F__law_right (fCons (fCall 2 F__law_pot (fCons (fVar 0) (fCons (fVar 3) fNil))) fNil))) fNil))))
def F_law : List PV → Sto → Res PV := fDef 1 4 B_law
end K08

namespace K08
open Pv PySem PySem.Spec PyProof.Rows L2
def top (i : Nat) : Stmt := PySem.Challenge.pw_servedlongest_k08_whole_like_parts_in_a.main.body.getD i (.Pass ⟨0, 0, 0, 0⟩)
abbrev s_is_int : Stmt := top 6
abbrev s_shared : Stmt := top 11
abbrev s_told_fraction : Stmt := top 12
abbrev s_is_exact : Stmt := top 13
abbrev s_is_fraction : Stmt := top 14
abbrev s_is_price : Stmt := top 15
abbrev s_look_at_above : Stmt := top 16
abbrev s_opposite : Stmt := top 17
abbrev s_minus : Stmt := top 18
abbrev s_times : Stmt := top 19
abbrev s_over : Stmt := top 20
abbrev s_is_less : Stmt := top 21
abbrev s_least_of : Stmt := top 22
abbrev s_greatest_of : Stmt := top 23
abbrev s_summed : Stmt := top 24
abbrev s_look_at_wears : Stmt := top 28
abbrev s_look_at_like : Stmt := top 29
abbrev s_stock_of : Stmt := top 30
abbrev s_told_round : Stmt := top 31
abbrev s_round_way : Stmt := top 32
abbrev s_round_plan : Stmt := top 33
abbrev s_round_prices : Stmt := top 34
abbrev s_look_at_few : Stmt := top 35
abbrev s_unmoved_way : Stmt := top 36
abbrev s_gain_of : Stmt := top 37
abbrev s__law_pot : Stmt := top 39
abbrev s__law_take : Stmt := top 40
abbrev s__law_of : Stmt := top 41
abbrev s__law_cells : Stmt := top 42
abbrev s__law_heard : Stmt := top 43
abbrev s__law_is_int : Stmt := top 44
abbrev s__law_frac : Stmt := top 45
abbrev s__law_plus : Stmt := top 46
abbrev s__law_times : Stmt := top 47
abbrev s__law_less : Stmt := top 48
abbrev s__law_over : Stmt := top 49
abbrev s__law_sum : Stmt := top 50
abbrev s__law_is_less : Stmt := top 51
abbrev s__law_is_exact : Stmt := top 52
abbrev s__law_are_refused : Stmt := top 53
abbrev s__law_is_share : Stmt := top 54
abbrev s__law_number : Stmt := top 55
abbrev s__law_wear : Stmt := top 56
abbrev s__law_is_leg : Stmt := top 57
abbrev s__law_is_seating : Stmt := top 58
abbrev s__law_is_plan : Stmt := top 59
abbrev s__law_way : Stmt := top 60
abbrev s__law_table : Stmt := top 61
abbrev s__law_worn : Stmt := top 62
abbrev s__law_serves : Stmt := top 63
abbrev s__law_do_bar : Stmt := top 64
abbrev s__law_bound : Stmt := top 65
abbrev s__law_is_served : Stmt := top 66
abbrev s__law_greatest : Stmt := top 67
abbrev s__law_are_like_right : Stmt := top 68
abbrev s__law_are_all_refused : Stmt := top 69
abbrev s__law_right : Stmt := top 70
abbrev s_law : Stmt := top 71
theorem sc_is_int : FnScope ["value", "low", "high"] ["value", "low", "high"] (defScope s_is_int) := ⟨rfl, rfl, rfl, by decide +kernel, rfl, by decide +kernel, by decide +kernel⟩
theorem sc_shared : FnScope ["one", "other"] ["one", "other"] (defScope s_shared) := ⟨rfl, rfl, rfl, by decide +kernel, rfl, by decide +kernel, by decide +kernel⟩
theorem sc_told_fraction : FnScope ["top", "bottom", "common"] ["top", "bottom"] (defScope s_told_fraction) := ⟨rfl, rfl, rfl, by decide +kernel, rfl, by decide +kernel, by decide +kernel⟩
theorem sc_is_exact : FnScope ["value", "one"] ["value"] (defScope s_is_exact) := ⟨rfl, rfl, rfl, by decide +kernel, rfl, by decide +kernel, by decide +kernel⟩
theorem sc_is_fraction : FnScope ["value"] ["value"] (defScope s_is_fraction) := ⟨rfl, rfl, rfl, by decide +kernel, rfl, by decide +kernel, by decide +kernel⟩
theorem sc_is_price : FnScope ["value"] ["value"] (defScope s_is_price) := ⟨rfl, rfl, rfl, by decide +kernel, rfl, by decide +kernel, by decide +kernel⟩
theorem sc_look_at_above : FnScope ["value"] ["value"] (defScope s_look_at_above) := ⟨rfl, rfl, rfl, by decide +kernel, rfl, by decide +kernel, by decide +kernel⟩
theorem sc_opposite : FnScope ["one"] ["one"] (defScope s_opposite) := ⟨rfl, rfl, rfl, by decide +kernel, rfl, by decide +kernel, by decide +kernel⟩
theorem sc_minus : FnScope ["one", "other"] ["one", "other"] (defScope s_minus) := ⟨rfl, rfl, rfl, by decide +kernel, rfl, by decide +kernel, by decide +kernel⟩
theorem sc_times : FnScope ["one", "other"] ["one", "other"] (defScope s_times) := ⟨rfl, rfl, rfl, by decide +kernel, rfl, by decide +kernel, by decide +kernel⟩
theorem sc_over : FnScope ["one", "other"] ["one", "other"] (defScope s_over) := ⟨rfl, rfl, rfl, by decide +kernel, rfl, by decide +kernel, by decide +kernel⟩
theorem sc_is_less : FnScope ["one", "other"] ["one", "other"] (defScope s_is_less) := ⟨rfl, rfl, rfl, by decide +kernel, rfl, by decide +kernel, by decide +kernel⟩
theorem sc_least_of : FnScope ["some", "found", "one"] ["some"] (defScope s_least_of) := ⟨rfl, rfl, rfl, by decide +kernel, rfl, by decide +kernel, by decide +kernel⟩
theorem sc_greatest_of : FnScope ["some", "one"] ["some"] (defScope s_greatest_of) := ⟨rfl, rfl, rfl, by decide +kernel, rfl, by decide +kernel, by decide +kernel⟩
theorem sc_summed : FnScope ["some", "top", "bottom", "one"] ["some"] (defScope s_summed) := ⟨rfl, rfl, rfl, by decide +kernel, rfl, by decide +kernel, by decide +kernel⟩
theorem sc_look_at_wears : FnScope ["wears", "one"] ["wears"] (defScope s_look_at_wears) := ⟨rfl, rfl, rfl, by decide +kernel, rfl, by decide +kernel, by decide +kernel⟩
theorem sc_look_at_like : FnScope ["wears", "many", "life"] ["wears", "many", "life"] (defScope s_look_at_like) := ⟨rfl, rfl, rfl, by decide +kernel, rfl, by decide +kernel, by decide +kernel⟩
theorem sc_stock_of : FnScope ["wears", "many", "life"] ["wears", "many", "life"] (defScope s_stock_of) := ⟨rfl, rfl, rfl, by decide +kernel, rfl, by decide +kernel, by decide +kernel⟩
theorem sc_told_round : FnScope ["wears", "many", "life"] ["wears", "many", "life"] (defScope s_told_round) := ⟨rfl, rfl, rfl, by decide +kernel, rfl, by decide +kernel, by decide +kernel⟩
theorem sc_round_way : FnScope ["wears", "many", "life"] ["wears", "many", "life"] (defScope s_round_way) := ⟨rfl, rfl, rfl, by decide +kernel, rfl, by decide +kernel, by decide +kernel⟩
theorem sc_round_plan : FnScope ["wears", "many", "life", "way", "leg", "place"] ["wears", "many", "life"] (defScope s_round_plan) := ⟨rfl, rfl, rfl, by decide +kernel, rfl, by decide +kernel, by decide +kernel⟩
theorem sc_round_prices : FnScope ["wears", "many", "life", "whole", "one"] ["wears", "many", "life"] (defScope s_round_prices) := ⟨rfl, rfl, rfl, by decide +kernel, rfl, by decide +kernel, by decide +kernel⟩
theorem sc_look_at_few : FnScope ["wears", "life"] ["wears", "life"] (defScope s_look_at_few) := ⟨rfl, rfl, rfl, by decide +kernel, rfl, by decide +kernel, by decide +kernel⟩
theorem sc_unmoved_way : FnScope ["wears", "life"] ["wears", "life"] (defScope s_unmoved_way) := ⟨rfl, rfl, rfl, by decide +kernel, rfl, by decide +kernel, by decide +kernel⟩
theorem sc_gain_of : FnScope ["wears", "many", "life"] ["wears", "many", "life"] (defScope s_gain_of) := ⟨rfl, rfl, rfl, by decide +kernel, rfl, by decide +kernel, by decide +kernel⟩
theorem sc__law_pot : FnScope ["script", "place", "cell", "own", "small"] ["script", "place"] (defScope s__law_pot) := ⟨rfl, rfl, rfl, by decide +kernel, rfl, by decide +kernel, by decide +kernel⟩
theorem sc__law_take : FnScope ["pot", "upto", "digit", "prime", "mixture"] ["pot", "upto"] (defScope s__law_take) := ⟨rfl, rfl, rfl, by decide +kernel, rfl, by decide +kernel, by decide +kernel⟩
theorem sc__law_of : FnScope ["pot", "some"] ["pot", "some"] (defScope s__law_of) := ⟨rfl, rfl, rfl, by decide +kernel, rfl, by decide +kernel, by decide +kernel⟩
theorem sc__law_cells : FnScope ["script", "most"] ["script", "most"] (defScope s__law_cells) := ⟨rfl, rfl, rfl, by decide +kernel, rfl, by decide +kernel, by decide +kernel⟩
theorem sc__law_heard : FnScope ["call", "caught", "gave", "error"] ["call"] (defScope s__law_heard) := ⟨rfl, rfl, rfl, by decide +kernel, rfl, by decide +kernel, by decide +kernel⟩
theorem sc__law_is_int : FnScope ["value", "low", "high"] ["value", "low", "high"] (defScope s__law_is_int) := ⟨rfl, rfl, rfl, by decide +kernel, rfl, by decide +kernel, by decide +kernel⟩
theorem sc__law_frac : FnScope ["top", "bottom", "one", "other", "sign"] ["top", "bottom"] (defScope s__law_frac) := ⟨rfl, rfl, rfl, by decide +kernel, rfl, by decide +kernel, by decide +kernel⟩
theorem sc__law_plus : FnScope ["one", "other"] ["one", "other"] (defScope s__law_plus) := ⟨rfl, rfl, rfl, by decide +kernel, rfl, by decide +kernel, by decide +kernel⟩
theorem sc__law_times : FnScope ["one", "other"] ["one", "other"] (defScope s__law_times) := ⟨rfl, rfl, rfl, by decide +kernel, rfl, by decide +kernel, by decide +kernel⟩
theorem sc__law_less : FnScope ["one", "other"] ["one", "other"] (defScope s__law_less) := ⟨rfl, rfl, rfl, by decide +kernel, rfl, by decide +kernel, by decide +kernel⟩
theorem sc__law_over : FnScope ["one", "other"] ["one", "other"] (defScope s__law_over) := ⟨rfl, rfl, rfl, by decide +kernel, rfl, by decide +kernel, by decide +kernel⟩
theorem sc__law_sum : FnScope ["some", "found", "one"] ["some"] (defScope s__law_sum) := ⟨rfl, rfl, rfl, by decide +kernel, rfl, by decide +kernel, by decide +kernel⟩
theorem sc__law_is_less : FnScope ["one", "other"] ["one", "other"] (defScope s__law_is_less) := ⟨rfl, rfl, rfl, by decide +kernel, rfl, by decide +kernel, by decide +kernel⟩
theorem sc__law_is_exact : FnScope ["value", "part"] ["value"] (defScope s__law_is_exact) := ⟨rfl, rfl, rfl, by decide +kernel, rfl, by decide +kernel, by decide +kernel⟩
theorem sc__law_are_refused : FnScope ["looks", "is_kind", "value", "look", "caught"] ["looks", "is_kind", "value"] (defScope s__law_are_refused) := ⟨rfl, rfl, rfl, by decide +kernel, rfl, by decide +kernel, by decide +kernel⟩
theorem sc__law_is_share : FnScope ["value"] ["value"] (defScope s__law_is_share) := ⟨rfl, rfl, rfl, by decide +kernel, rfl, by decide +kernel, by decide +kernel⟩
theorem sc__law_number : FnScope ["pot", "upto"] ["pot", "upto"] (defScope s__law_number) := ⟨rfl, rfl, rfl, by decide +kernel, rfl, by decide +kernel, by decide +kernel⟩
theorem sc__law_wear : FnScope ["pot"] ["pot"] (defScope s__law_wear) := ⟨rfl, rfl, rfl, by decide +kernel, rfl, by decide +kernel, by decide +kernel⟩
theorem sc__law_is_leg : FnScope ["stock", "value"] ["stock", "value"] (defScope s__law_is_leg) := ⟨rfl, rfl, rfl, by decide +kernel, rfl, by decide +kernel, by decide +kernel⟩
theorem sc__law_is_seating : FnScope ["stock", "value", "part"] ["stock", "value"] (defScope s__law_is_seating) := ⟨rfl, rfl, rfl, by decide +kernel, rfl, by decide +kernel, by decide +kernel⟩
theorem sc__law_is_plan : FnScope ["stock", "value", "leg"] ["stock", "value"] (defScope s__law_is_plan) := ⟨rfl, rfl, rfl, by decide +kernel, rfl, by decide +kernel, by decide +kernel⟩
theorem sc__law_way : FnScope ["plan", "leg"] ["plan"] (defScope s__law_way) := ⟨rfl, rfl, rfl, by decide +kernel, rfl, by decide +kernel, by decide +kernel⟩
theorem sc__law_table : FnScope ["stock", "plan", "found", "way", "seating", "place", "part", "row"] ["stock", "plan"] (defScope s__law_table) := ⟨rfl, rfl, rfl, by decide +kernel, rfl, by decide +kernel, by decide +kernel⟩
theorem sc__law_worn : FnScope ["stock", "table", "found", "part", "row", "place", "way"] ["stock", "table"] (defScope s__law_worn) := ⟨rfl, rfl, rfl, by decide +kernel, rfl, by decide +kernel, by decide +kernel⟩
theorem sc__law_serves : FnScope ["stock", "plan", "worn", "part", "one"] ["stock", "plan"] (defScope s__law_serves) := ⟨rfl, rfl, rfl, by decide +kernel, rfl, by decide +kernel, by decide +kernel⟩
theorem sc__law_do_bar : FnScope ["stock", "bars", "value", "row", "many", "part", "life", "wears", "place", "due", "one"] ["stock", "bars", "value"] (defScope s__law_do_bar) := ⟨rfl, rfl, rfl, by decide +kernel, rfl, by decide +kernel, by decide +kernel⟩
theorem sc__law_bound : FnScope ["stock", "prices", "part", "one"] ["stock", "prices"] (defScope s__law_bound) := ⟨rfl, rfl, rfl, by decide +kernel, rfl, by decide +kernel, by decide +kernel⟩
theorem sc__law_is_served : FnScope ["stock", "bars", "value", "pairs", "way", "seating", "place", "part", "pair"] ["stock", "bars", "value"] (defScope s__law_is_served) := ⟨rfl, rfl, rfl, by decide +kernel, rfl, by decide +kernel, by decide +kernel⟩
theorem sc__law_greatest : FnScope ["some", "found", "one"] ["some"] (defScope s__law_greatest) := ⟨rfl, rfl, rfl, by decide +kernel, rfl, by decide +kernel, by decide +kernel⟩
theorem sc__law_are_like_right : FnScope ["wears", "many", "life", "stock", "whole", "way", "plan", "leg", "due", "lap", "here", "prices", "one", "still", "part", "place", "wear"] ["wears", "many", "life"] (defScope s__law_are_like_right) := ⟨rfl, rfl, rfl, by decide +kernel, rfl, by decide +kernel, by decide +kernel⟩
theorem sc__law_are_all_refused : FnScope ["pot", "wears", "many", "bad", "looks", "call", "caught", "odd", "wrong"] ["pot", "wears", "many"] (defScope s__law_are_all_refused) := ⟨rfl, rfl, rfl, by decide +kernel, rfl, by decide +kernel, by decide +kernel⟩
theorem sc__law_right : FnScope ["pot", "lap", "wears", "many", "place", "wear"] ["pot"] (defScope s__law_right) := ⟨rfl, rfl, rfl, by decide +kernel, rfl, by decide +kernel, by decide +kernel⟩
theorem sc_law : FnScope ["script", "front", "back", "place"] ["script"] (defScope s_law) := ⟨rfl, rfl, rfl, by decide +kernel, rfl, by decide +kernel, by decide +kernel⟩
def lamE_0 : Expr := (elt (asgVal (sAt (defBody s__law_are_all_refused) 1)) 0)
def lamE_1 : Expr := (callArg (subVal (asgVal (sAt (forBody (sAt (defBody s__law_are_all_refused) 2)) 0))) 0)
def lamE_2 : Expr := (callArg (unOp (ifTest (sAt (defBody s__law_are_all_refused) 3))) 1)
def lamE_3 : Expr := (callArg (subVal (asgVal (sAt (forBody (sAt (defBody s__law_are_all_refused) 6)) 0))) 0)
def lamE_4 : Expr := (callArg (subVal (asgVal (sAt (forBody (sAt (defBody s__law_are_all_refused) 6)) 2))) 0)
def lamE_5 : Expr := (elt (callArg (retVal (sAt (defBody s__law_are_all_refused) 7)) 0) 0)
def lamE_6 : Expr := (callArg (retVal (sAt (defBody s__law_are_all_refused) 7)) 1)
/-- what the top has written -/
structure Txt (g : G) (D fI : Addr) (fdI : FuncData) : Prop where
  f_is_int : ∃ f fd, FunAt g "is_int" s_is_int ["value", "low", "high"] f fd
  f_shared : ∃ f fd, FunAt g "shared" s_shared ["one", "other"] f fd
  f_told_fraction : ∃ f fd, FunAt g "told_fraction" s_told_fraction ["top", "bottom"] f fd
  f_is_exact : ∃ f fd, FunAt g "is_exact" s_is_exact ["value"] f fd
  f_is_fraction : ∃ f fd, FunAt g "is_fraction" s_is_fraction ["value"] f fd
  f_is_price : ∃ f fd, FunAt g "is_price" s_is_price ["value"] f fd
  f_look_at_above : ∃ f fd, FunAt g "look_at_above" s_look_at_above ["value"] f fd
  f_opposite : ∃ f fd, FunAt g "opposite" s_opposite ["one"] f fd
  f_minus : ∃ f fd, FunAt g "minus" s_minus ["one", "other"] f fd
  f_times : ∃ f fd, FunAt g "times" s_times ["one", "other"] f fd
  f_over : ∃ f fd, FunAt g "over" s_over ["one", "other"] f fd
  f_is_less : ∃ f fd, FunAt g "is_less" s_is_less ["one", "other"] f fd
  f_least_of : ∃ f fd, FunAt g "least_of" s_least_of ["some"] f fd
  f_greatest_of : ∃ f fd, FunAt g "greatest_of" s_greatest_of ["some"] f fd
  f_summed : ∃ f fd, FunAt g "summed" s_summed ["some"] f fd
  f_look_at_wears : ∃ f fd, FunAt g "look_at_wears" s_look_at_wears ["wears"] f fd
  f_look_at_like : ∃ f fd, FunAt g "look_at_like" s_look_at_like ["wears", "many", "life"] f fd
  f_stock_of : ∃ f fd, FunAt g "stock_of" s_stock_of ["wears", "many", "life"] f fd
  f_told_round : ∃ f fd, FunAt g "told_round" s_told_round ["wears", "many", "life"] f fd
  f_round_way : ∃ f fd, FunAt g "round_way" s_round_way ["wears", "many", "life"] f fd
  f_round_plan : ∃ f fd, FunAt g "round_plan" s_round_plan ["wears", "many", "life"] f fd
  f_round_prices : ∃ f fd, FunAt g "round_prices" s_round_prices ["wears", "many", "life"] f fd
  f_look_at_few : ∃ f fd, FunAt g "look_at_few" s_look_at_few ["wears", "life"] f fd
  f_unmoved_way : ∃ f fd, FunAt g "unmoved_way" s_unmoved_way ["wears", "life"] f fd
  f_gain_of : ∃ f fd, FunAt g "gain_of" s_gain_of ["wears", "many", "life"] f fd
  f__law_pot : ∃ f fd, FunAt g "_law_pot" s__law_pot ["script", "place"] f fd
  f__law_take : ∃ f fd, FunAt g "_law_take" s__law_take ["pot", "upto"] f fd
  f__law_of : ∃ f fd, FunAt g "_law_of" s__law_of ["pot", "some"] f fd
  f__law_cells : ∃ f fd, FunAt g "_law_cells" s__law_cells ["script", "most"] f fd
  f__law_heard : ∃ f fd, FunAt g "_law_heard" s__law_heard ["call"] f fd
  f__law_is_int : ∃ f fd, FunAt g "_law_is_int" s__law_is_int ["value", "low", "high"] f fd
  f__law_frac : ∃ f fd, FunAt g "_law_frac" s__law_frac ["top", "bottom"] f fd
  f__law_plus : ∃ f fd, FunAt g "_law_plus" s__law_plus ["one", "other"] f fd
  f__law_times : ∃ f fd, FunAt g "_law_times" s__law_times ["one", "other"] f fd
  f__law_less : ∃ f fd, FunAt g "_law_less" s__law_less ["one", "other"] f fd
  f__law_over : ∃ f fd, FunAt g "_law_over" s__law_over ["one", "other"] f fd
  f__law_sum : ∃ f fd, FunAt g "_law_sum" s__law_sum ["some"] f fd
  f__law_is_less : ∃ f fd, FunAt g "_law_is_less" s__law_is_less ["one", "other"] f fd
  f__law_is_exact : ∃ f fd, FunAt g "_law_is_exact" s__law_is_exact ["value"] f fd
  f__law_are_refused : ∃ f fd, FunAt g "_law_are_refused" s__law_are_refused ["looks", "is_kind", "value"] f fd
  f__law_is_share : ∃ f fd, FunAt g "_law_is_share" s__law_is_share ["value"] f fd
  f__law_number : ∃ f fd, FunAt g "_law_number" s__law_number ["pot", "upto"] f fd
  f__law_wear : ∃ f fd, FunAt g "_law_wear" s__law_wear ["pot"] f fd
  f__law_is_leg : ∃ f fd, FunAt g "_law_is_leg" s__law_is_leg ["stock", "value"] f fd
  f__law_is_seating : ∃ f fd, FunAt g "_law_is_seating" s__law_is_seating ["stock", "value"] f fd
  f__law_is_plan : ∃ f fd, FunAt g "_law_is_plan" s__law_is_plan ["stock", "value"] f fd
  f__law_way : ∃ f fd, FunAt g "_law_way" s__law_way ["plan"] f fd
  f__law_table : ∃ f fd, FunAt g "_law_table" s__law_table ["stock", "plan"] f fd
  f__law_worn : ∃ f fd, FunAt g "_law_worn" s__law_worn ["stock", "table"] f fd
  f__law_serves : ∃ f fd, FunAt g "_law_serves" s__law_serves ["stock", "plan"] f fd
  f__law_do_bar : ∃ f fd, FunAt g "_law_do_bar" s__law_do_bar ["stock", "bars", "value"] f fd
  f__law_bound : ∃ f fd, FunAt g "_law_bound" s__law_bound ["stock", "prices"] f fd
  f__law_is_served : ∃ f fd, FunAt g "_law_is_served" s__law_is_served ["stock", "bars", "value"] f fd
  f__law_greatest : ∃ f fd, FunAt g "_law_greatest" s__law_greatest ["some"] f fd
  f__law_are_like_right : ∃ f fd, FunAt g "_law_are_like_right" s__law_are_like_right ["wears", "many", "life"] f fd
  f__law_are_all_refused : ∃ f fd c P, FunAt g "_law_are_all_refused" s__law_are_all_refused ["pot", "wears", "many"] f fd ∧ fd.code = .ref c ∧ LamX.TabB g.base g.mg c P ∧ (P, (fun _ _ => (("_law_are_all_refused" ++ ".<locals>.") ++ "<lambda>" : Str) : Nat → Nat → Str)) ∈ g.T ∧ ∀ p ∈ g.T, p.1 = P → p.2 = fun _ _ => (("_law_are_all_refused" ++ ".<locals>.") ++ "<lambda>" : Str)
  f__law_right : ∃ f fd, FunAt g "_law_right" s__law_right ["pot"] f fd
  f_law : ∃ f fd, FunAt g "law" s_law ["script"] f fd
  g_NOUGHT : GlobOk g "NOUGHT" (.tup [.int 0, .int 1])
  g_ONE : GlobOk g "ONE" (.tup [.int 1, .int 1])
  g_GREATEST : GlobOk g "GREATEST" (.int 1000000)
  g_MOST_PLACES : GlobOk g "MOST_PLACES" (.int 6)
  g_MOST_PARTS : GlobOk g "MOST_PARTS" (.int 8)
  n_abs : g.mg "abs" = none
  n_all : g.mg "all" = none
  n_any : g.mg "any" = none
  n_bool : g.mg "bool" = none
  n_enumerate : g.mg "enumerate" = none
  n_int : g.mg "int" = none
  n_isinstance : g.mg "isinstance" = none
  n_len : g.mg "len" = none
  n_list : g.mg "list" = none
  n_max : g.mg "max" = none
  n_min : g.mg "min" = none
  n_range : g.mg "range" = none
  n_repr : g.mg "repr" = none
  n_set : g.mg "set" = none
  n_str : g.mg "str" = none
  n_sum : g.mg "sum" = none
  n_tuple : g.mg "tuple" = none
  n_zip : g.mg "zip" = none
  m_WearError : g.mg "WearError" = some (.ref (g.cls 0))
  m_BadFraction : g.mg "BadFraction" = some (.ref (g.cls 1))
  m_BadRow : g.mg "BadRow" = some (.ref (g.cls 2))
  m_BadInt : g.mg "BadInt" = some (.ref (g.cls 3))
  fv_stock_of : g.mg "stock_of" = some (.ref (g.cls 4))
  fv_round_way : g.mg "round_way" = some (.ref (g.cls 5))
  fv_round_plan : g.mg "round_plan" = some (.ref (g.cls 6))
  fv_round_prices : g.mg "round_prices" = some (.ref (g.cls 7))
  fv_gain_of : g.mg "gain_of" = some (.ref (g.cls 8))
  e_BadFraction : ErrC g D fI 1
  e_BadRow : ErrC g D fI 2
  e_BadInt : ErrC g D fI 3
  errs : ∀ c, okC c = true → ErrC g D fI c
  init : FnOk g.P g.w g.K g.mg g.base (L2.CX g.P g.w) 3 fI fdI ["self", "value"] (spInit g.K D)
  tI : PySem.W.typeIn g.K (.ref fI) = some (.type "function")
  bI : L2.Binds g.K fdI ["self", "value"] []
  isC : ∀ c d b, isC c d = some b → ExcC g.K (g.cls c) ∧ PySem.W.kitOne g.K (.ref (g.cls c)) (.ref (g.cls d)) = some b
  exm : ∀ c d b, K08.isC c d = some b → PySem.W.exmOne g.K (.ref (g.cls c)) (.ref (g.cls d)) = some b
  lam_0 : ∀ cs c, g.lam 0 cs c = lfOf (("_law_are_all_refused" ++ ".<locals>.") ++ "<lambda>" : Str) lamE_0 cs c
  lam_1 : ∀ cs c, g.lam 1 cs c = lfOf (("_law_are_all_refused" ++ ".<locals>.") ++ "<lambda>" : Str) lamE_1 cs c
  lam_2 : ∀ cs c, g.lam 2 cs c = lfOf (("_law_are_all_refused" ++ ".<locals>.") ++ "<lambda>" : Str) lamE_2 cs c
  lam_3 : ∀ cs c, g.lam 3 cs c = lfOf (("_law_are_all_refused" ++ ".<locals>.") ++ "<lambda>" : Str) lamE_3 cs c
  lam_4 : ∀ cs c, g.lam 4 cs c = lfOf (("_law_are_all_refused" ++ ".<locals>.") ++ "<lambda>" : Str) lamE_4 cs c
  lam_5 : ∀ cs c, g.lam 5 cs c = lfOf (("_law_are_all_refused" ++ ".<locals>.") ++ "<lambda>" : Str) lamE_5 cs c
  lam_6 : ∀ cs c, g.lam 6 cs c = lfOf (("_law_are_all_refused" ++ ".<locals>.") ++ "<lambda>" : Str) lamE_6 cs c
theorem kb_gain_of_2_life : KwB "gain_of" s_gain_of ["wears", "many", "life"] ["life"] 2 1 [0] := fun _ _ _ _ _ _ us ws h1 h2 => match us, ws, h1, h2 with | [_, _], [_], _, _ => rfl
theorem kb_unmoved_way_1_life : KwB "unmoved_way" s_unmoved_way ["wears", "life"] ["life"] 1 1 [0] := fun _ _ _ _ _ _ us ws h1 h2 => match us, ws, h1, h2 with | [_], [_], _, _ => rfl
theorem kb_round_prices_2_life : KwB "round_prices" s_round_prices ["wears", "many", "life"] ["life"] 2 1 [0] := fun _ _ _ _ _ _ us ws h1 h2 => match us, ws, h1, h2 with | [_, _], [_], _, _ => rfl
theorem kb_round_plan_2_life : KwB "round_plan" s_round_plan ["wears", "many", "life"] ["life"] 2 1 [0] := fun _ _ _ _ _ _ us ws h1 h2 => match us, ws, h1, h2 with | [_, _], [_], _, _ => rfl
theorem kb_round_way_2_life : KwB "round_way" s_round_way ["wears", "many", "life"] ["life"] 2 1 [0] := fun _ _ _ _ _ _ us ws h1 h2 => match us, ws, h1, h2 with | [_, _], [_], _, _ => rfl
theorem kb_stock_of_2_life : KwB "stock_of" s_stock_of ["wears", "many", "life"] ["life"] 2 1 [0] := fun _ _ _ _ _ _ us ws h1 h2 => match us, ws, h1, h2 with | [_, _], [_], _, _ => rfl
section
variable {g : G} {D fI : Addr} {fdI : FuncData}
theorem ok_is_int (T : Txt g D fI fdI) : CalG g 1 "is_int" s_is_int ["value", "low", "high"] F_is_int := by
  have nd := sc_is_int.nd
  obtain ⟨f, fd, FA⟩ := T.f_is_int
  exact cal_ok FA sc_is_int (fun cdv A outer s H E hr hgu => ss_one (s_ret (x_and (x_cb call_isiP (by exact o_isi T.isC) (by exact T.n_isinstance) PyProof.Rows.Boot.«isinstance» (a_cons (x_v 0) (a_cons (x_bty (by exact T.n_int) PyProof.Rows.Boot.«int») a_nil))) (x_and (x_not (x_cb call_isiP (by exact o_isi T.isC) (by exact T.n_isinstance) PyProof.Rows.Boot.«isinstance» (a_cons (x_v 0) (a_cons (x_bty (by exact T.n_bool) PyProof.Rows.Boot.«bool») a_nil)))) (x_one (x_chain op_le op_le (o_cmpI _) (o_cmpI _) (x_v 1) (x_v 0) (x_v 2)))))))
theorem ok_shared (T : Txt g D fI fdI) : CalG g 1 "shared" s_shared ["one", "other"] F_shared := by
  have nd := sc_shared.nd
  obtain ⟨f, fd, FA⟩ := T.f_shared
  exact cal_ok FA sc_shared (fun cdv A outer s H E hr hgu => ss_cons (s_par (i := 0) (j := 1) (by exact rfl) (by exact nd) (a_cons (x_cb call_abs o_abs (by exact T.n_abs) PyProof.Rows.Boot.«abs» (a_cons (x_v 0) a_nil)) (a_cons (x_cb call_abs o_abs (by exact T.n_abs) PyProof.Rows.Boot.«abs» (a_cons (x_v 1) a_nil)) a_nil))) (ss_cons (s_while (measInt 1) (by exact passes_of rfl) (y_cmp (by exact op_neB (hu64 hr)) o_ne (nomark _) (x_v 1) x_int) (ss_one (s_par (i := 0) (j := 1) (by exact rfl) (by exact nd) (a_cons (x_v 1) (a_cons (x_op op_modN o_mod (x_v 0) (x_v 1)) a_nil))))) (ss_one (s_ret (x_cb (by exact call_max2 rfl) o_max2 (by exact T.n_max) PyProof.Rows.Boot.«max» (a_cons (x_v 0) (a_cons x_int a_nil)))))))
theorem ok_told_fraction (T : Txt g D fI fdI) : CalG g 2 "told_fraction" s_told_fraction ["top", "bottom"] F_told_fraction := by
  have nd := sc_told_fraction.nd
  obtain ⟨f, fd, FA⟩ := T.f_told_fraction
  exact cal_ok FA sc_told_fraction (fun cdv A outer s H E hr hgu => ss_cons (s_set (i := 2) (by exact nd) (x_callG (ps := ["one", "other"]) (by exact ⟨rfl, rfl, rfl, rfl, rfl, hgu⟩) (by have h := ok_shared T; exact h) (by exact hr) (by decide) (by exact takes_of rfl rfl rfl rfl) (a_cons (x_v 0) (a_cons (x_v 1) a_nil)))) (ss_cons (s_set (i := 2) (by exact nd) (x_ifExp (y_cmp op_lt (o_cmpI _) (nomark _) (x_v 1) x_int) (x_un un_neg o_neg (x_v 2)) (x_v 2))) (ss_one (s_ret (x_tup (a_cons (x_op op_divZ o_div (x_v 0) (x_v 2)) (a_cons (x_op op_divZ o_div (x_v 1) (x_v 2)) a_nil)))))))
theorem ok_is_exact (T : Txt g D fI fdI) : CalG g 3 "is_exact" s_is_exact ["value"] F_is_exact := by
  have nd := sc_is_exact.nd
  obtain ⟨f, fd, FA⟩ := T.f_is_exact
  exact cal_ok FA sc_is_exact (fun cdv A outer s H E hr hgu => ss_cons (s_if (y_w (w_or (y_not (y_val (x_cb call_isiP (by exact o_isi T.isC) (by exact T.n_isinstance) PyProof.Rows.Boot.«isinstance» (a_cons (x_v 0) (a_cons (x_bty (by exact T.n_tuple) PyProof.Rows.Boot.«tuple») a_nil))))) (w_or1 (y_cmp (by exact op_neB (hu64 hr)) o_ne (nomark _) (x_cb call_len_seq o_len (by exact T.n_len) PyProof.Rows.Boot.«len» (a_cons (x_v 0) a_nil)) x_int)))) (ss_one (s_ret x_bl)) ss_nil) (ss_cons (s_if (y_not (y_val (x_cb (by exact cr_all rfl) o_all (by exact T.n_all) PyProof.Rows.Boot.«all» (a_cons (x_lcT (own := [("one", 1)]) (by exact rfl) (by exact nd) (i_seq (by exact rfl) (x_v 0)) (blkOk_by (own := [("one", 1)]) (N := ["value", "one"]) (sc := defScope s_is_exact) (by decide +kernel)) (fun _ _ _ _ _ => c_name (i := 1) (by exact nd)) (fun _ _ _ _ _ => z_nil) (fun _ _ _ _ _ => x_and (x_cb call_isiP (by exact o_isi T.isC) (by exact T.n_isinstance) PyProof.Rows.Boot.«isinstance» (a_cons (x_v 1) (a_cons (x_bty (by exact T.n_int) PyProof.Rows.Boot.«int») a_nil))) (x_one (x_not (x_cb call_isiP (by exact o_isi T.isC) (by exact T.n_isinstance) PyProof.Rows.Boot.«isinstance» (a_cons (x_v 1) (a_cons (x_bty (by exact T.n_bool) PyProof.Rows.Boot.«bool») a_nil))))))) a_nil)))) (ss_one (s_ret x_bl)) ss_nil) (ss_one (s_ret (x_and (x_cmp op_gt (o_cmpI _) (nomark _) (x_ix (by exact ix_A) (by exact o_ix) (by exact fun _ _ => rfl) (x_v 0) x_int) x_int) (x_one (x_cmp (by exact op_eqB (hu64 hr)) o_eq (nomark _) (x_callG (ps := ["top", "bottom"]) (by exact ⟨rfl, rfl, rfl, rfl, rfl, hgu⟩) (by have h := ok_told_fraction T; exact h) (by exact hr) (by decide) (by exact takes_of rfl rfl rfl rfl) (a_cons (x_ix (by exact ix_A) (by exact o_ix) (by exact fun _ _ => rfl) (x_v 0) x_int) (a_cons (x_ix (by exact ix_A) (by exact o_ix) (by exact fun _ _ => rfl) (x_v 0) x_int) a_nil))) (x_v 0))))))))
theorem ok_is_fraction (T : Txt g D fI fdI) : CalG g 4 "is_fraction" s_is_fraction ["value"] F_is_fraction := by
  have nd := sc_is_fraction.nd
  obtain ⟨f, fd, FA⟩ := T.f_is_fraction
  exact cal_ok FA sc_is_fraction (fun cdv A outer s H E hr hgu => ss_one (s_ret (x_and (x_callG (ps := ["value"]) (by exact ⟨rfl, rfl, rfl, rfl, rfl, hgu⟩) (by have h := ok_is_exact T; exact h) (by exact hr) (by decide) (by exact takes_of rfl rfl rfl rfl) (a_cons (x_v 0) a_nil)) (x_and (x_callG (ps := ["value", "low", "high"]) (by exact ⟨rfl, rfl, rfl, rfl, rfl, hgu⟩) (by have h := ok_is_int T; exact h) (by exact hr) (by decide) (by exact takes_of rfl rfl rfl rfl) (a_cons (x_ix (by exact ix_A) (by exact o_ix) (by exact fun _ _ => rfl) (x_v 0) x_int) (a_cons (x_un un_neg o_neg (x_gl (by exact ⟨rfl, rfl, rfl, rfl, rfl, hgu⟩) (by exact T.g_GREATEST))) (a_cons (x_gl (by exact ⟨rfl, rfl, rfl, rfl, rfl, hgu⟩) (by exact T.g_GREATEST)) a_nil)))) (x_one (x_cmp op_le (o_cmpI _) (nomark _) (x_ix (by exact ix_A) (by exact o_ix) (by exact fun _ _ => rfl) (x_v 0) x_int) (x_gl (by exact ⟨rfl, rfl, rfl, rfl, rfl, hgu⟩) (by exact T.g_GREATEST))))))))
theorem ok_is_price (T : Txt g D fI fdI) : CalG g 5 "is_price" s_is_price ["value"] F_is_price := by
  have nd := sc_is_price.nd
  obtain ⟨f, fd, FA⟩ := T.f_is_price
  exact cal_ok FA sc_is_price (fun cdv A outer s H E hr hgu => ss_one (s_ret (x_and (x_callG (ps := ["value"]) (by exact ⟨rfl, rfl, rfl, rfl, rfl, hgu⟩) (by have h := ok_is_fraction T; exact h) (by exact hr) (by decide) (by exact takes_of rfl rfl rfl rfl) (a_cons (x_v 0) a_nil)) (x_one (x_cmp op_ge (o_cmpI _) (nomark _) (x_ix (by exact ix_A) (by exact o_ix) (by exact fun _ _ => rfl) (x_v 0) x_int) x_int)))))
theorem ok_look_at_above (T : Txt g D fI fdI) : CalG g 6 "look_at_above" s_look_at_above ["value"] F_look_at_above := by
  have nd := sc_look_at_above.nd
  obtain ⟨f, fd, FA⟩ := T.f_look_at_above
  exact cal_ok FA sc_look_at_above (fun cdv A outer s H E hr hgu => ss_one (s_if (y_w (w_or (y_not (y_val (x_callG (ps := ["value"]) (by exact ⟨rfl, rfl, rfl, rfl, rfl, hgu⟩) (by have h := ok_is_price T; exact h) (by exact hr) (by decide) (by exact takes_of rfl rfl rfl rfl) (a_cons (x_v 0) a_nil)))) (w_or1 (y_cmp (by exact op_eqB (hu64 hr)) o_eq (nomark _) (x_ix (by exact ix_A) (by exact o_ix) (by exact fun _ _ => rfl) (x_v 0) x_int) x_int)))) (ss_one (s_raise (by exact ⟨rfl, rfl, rfl, rfl, rfl, hgu⟩) (by exact rfl) (by exact takes_of rfl rfl rfl rfl) (by exact T.init) (by exact T.e_BadFraction) (by exact T.tI) (by exact T.bI) (by exact hr.mono (by decide)) (by exact T.m_BadFraction) (x_v 0))) ss_nil))
theorem ok_opposite (T : Txt g D fI fdI) : CalG g 1 "opposite" s_opposite ["one"] F_opposite := by
  have nd := sc_opposite.nd
  obtain ⟨f, fd, FA⟩ := T.f_opposite
  exact cal_ok FA sc_opposite (fun cdv A outer s H E hr hgu => ss_one (s_ret (x_tup (a_cons (x_un un_neg o_neg (x_ix (by exact ix_A) (by exact o_ix) (by exact fun _ _ => rfl) (x_v 0) x_int)) (a_cons (x_ix (by exact ix_A) (by exact o_ix) (by exact fun _ _ => rfl) (x_v 0) x_int) a_nil)))))
theorem ok_minus (T : Txt g D fI fdI) : CalG g 3 "minus" s_minus ["one", "other"] F_minus := by
  have nd := sc_minus.nd
  obtain ⟨f, fd, FA⟩ := T.f_minus
  exact cal_ok FA sc_minus (fun cdv A outer s H E hr hgu => ss_one (s_ret (x_callG (ps := ["top", "bottom"]) (by exact ⟨rfl, rfl, rfl, rfl, rfl, hgu⟩) (by have h := ok_told_fraction T; exact h) (by exact hr) (by decide) (by exact takes_of rfl rfl rfl rfl) (a_cons (x_op op_sub o_sub (x_op op_mulA o_mul (x_ix (by exact ix_A) (by exact o_ix) (by exact fun _ _ => rfl) (x_v 0) x_int) (x_ix (by exact ix_A) (by exact o_ix) (by exact fun _ _ => rfl) (x_v 1) x_int)) (x_op op_mulA o_mul (x_ix (by exact ix_A) (by exact o_ix) (by exact fun _ _ => rfl) (x_v 1) x_int) (x_ix (by exact ix_A) (by exact o_ix) (by exact fun _ _ => rfl) (x_v 0) x_int))) (a_cons (x_op op_mulA o_mul (x_ix (by exact ix_A) (by exact o_ix) (by exact fun _ _ => rfl) (x_v 0) x_int) (x_ix (by exact ix_A) (by exact o_ix) (by exact fun _ _ => rfl) (x_v 1) x_int)) a_nil)))))
theorem ok_times (T : Txt g D fI fdI) : CalG g 3 "times" s_times ["one", "other"] F_times := by
  have nd := sc_times.nd
  obtain ⟨f, fd, FA⟩ := T.f_times
  exact cal_ok FA sc_times (fun cdv A outer s H E hr hgu => ss_one (s_ret (x_callG (ps := ["top", "bottom"]) (by exact ⟨rfl, rfl, rfl, rfl, rfl, hgu⟩) (by have h := ok_told_fraction T; exact h) (by exact hr) (by decide) (by exact takes_of rfl rfl rfl rfl) (a_cons (x_op op_mulA o_mul (x_ix (by exact ix_A) (by exact o_ix) (by exact fun _ _ => rfl) (x_v 0) x_int) (x_ix (by exact ix_A) (by exact o_ix) (by exact fun _ _ => rfl) (x_v 1) x_int)) (a_cons (x_op op_mulA o_mul (x_ix (by exact ix_A) (by exact o_ix) (by exact fun _ _ => rfl) (x_v 0) x_int) (x_ix (by exact ix_A) (by exact o_ix) (by exact fun _ _ => rfl) (x_v 1) x_int)) a_nil)))))
theorem ok_over (T : Txt g D fI fdI) : CalG g 3 "over" s_over ["one", "other"] F_over := by
  have nd := sc_over.nd
  obtain ⟨f, fd, FA⟩ := T.f_over
  exact cal_ok FA sc_over (fun cdv A outer s H E hr hgu => ss_one (s_ret (x_callG (ps := ["top", "bottom"]) (by exact ⟨rfl, rfl, rfl, rfl, rfl, hgu⟩) (by have h := ok_told_fraction T; exact h) (by exact hr) (by decide) (by exact takes_of rfl rfl rfl rfl) (a_cons (x_op op_mulA o_mul (x_ix (by exact ix_A) (by exact o_ix) (by exact fun _ _ => rfl) (x_v 0) x_int) (x_ix (by exact ix_A) (by exact o_ix) (by exact fun _ _ => rfl) (x_v 1) x_int)) (a_cons (x_op op_mulA o_mul (x_ix (by exact ix_A) (by exact o_ix) (by exact fun _ _ => rfl) (x_v 0) x_int) (x_ix (by exact ix_A) (by exact o_ix) (by exact fun _ _ => rfl) (x_v 1) x_int)) a_nil)))))
theorem ok_is_less (T : Txt g D fI fdI) : CalG g 1 "is_less" s_is_less ["one", "other"] F_is_less := by
  have nd := sc_is_less.nd
  obtain ⟨f, fd, FA⟩ := T.f_is_less
  exact cal_ok FA sc_is_less (fun cdv A outer s H E hr hgu => ss_one (s_ret (x_cmp op_lt (o_cmpI _) (nomark _) (x_op op_mulA o_mul (x_ix (by exact ix_A) (by exact o_ix) (by exact fun _ _ => rfl) (x_v 0) x_int) (x_ix (by exact ix_A) (by exact o_ix) (by exact fun _ _ => rfl) (x_v 1) x_int)) (x_op op_mulA o_mul (x_ix (by exact ix_A) (by exact o_ix) (by exact fun _ _ => rfl) (x_v 1) x_int) (x_ix (by exact ix_A) (by exact o_ix) (by exact fun _ _ => rfl) (x_v 0) x_int)))))
theorem ok_least_of (T : Txt g D fI fdI) : CalG g 2 "least_of" s_least_of ["some"] F_least_of := by
  have nd := sc_least_of.nd
  obtain ⟨f, fd, FA⟩ := T.f_least_of
  exact cal_ok FA sc_least_of (fun cdv A outer s H E hr hgu => ss_cons (s_set (i := 1) (by exact nd) (x_ix (by exact ix_A) (by exact o_ix) (by exact fun _ _ => rfl) (x_v 0) x_int)) (ss_cons (s_for (by exact passes_of rfl) (by exact rfl) (i_seq (by exact rfl) (x_v 0)) (g_name (i := 2) (by exact nd)) (ss_one (s_set (i := 1) (by exact nd) (x_ifExp (y_val (x_callG (ps := ["one", "other"]) (by exact ⟨rfl, rfl, rfl, rfl, rfl, hgu⟩) (by have h := ok_is_less T; exact h) (by exact hr) (by decide) (by exact takes_of rfl rfl rfl rfl) (a_cons (x_v 2) (a_cons (x_v 1) a_nil)))) (x_v 2) (x_v 1))))) (ss_one (s_ret (x_v 1)))))
theorem ok_greatest_of (T : Txt g D fI fdI) : CalG g 3 "greatest_of" s_greatest_of ["some"] F_greatest_of := by
  have nd := sc_greatest_of.nd
  obtain ⟨f, fd, FA⟩ := T.f_greatest_of
  exact cal_ok FA sc_greatest_of (fun cdv A outer s H E hr hgu => ss_one (s_ret (x_callG (ps := ["one"]) (by exact ⟨rfl, rfl, rfl, rfl, rfl, hgu⟩) (by have h := ok_opposite T; exact h) (by exact hr) (by decide) (by exact takes_of rfl rfl rfl rfl) (a_cons (x_callG (ps := ["some"]) (by exact ⟨rfl, rfl, rfl, rfl, rfl, hgu⟩) (by have h := ok_least_of T; exact h) (by exact hr) (by decide) (by exact takes_of rfl rfl rfl rfl) (a_cons (x_lcT (own := [("one", 1)]) (by exact rfl) (by exact nd) (i_seq (by exact rfl) (x_v 0)) (blkOk_by (own := [("one", 1)]) (N := ["some", "one"]) (sc := defScope s_greatest_of) (by decide +kernel)) (fun _ _ _ _ _ => c_name (i := 1) (by exact nd)) (fun _ _ _ _ _ => z_nil) (fun _ _ _ _ _ => x_callG (ps := ["one"]) (by exact ⟨rfl, rfl, rfl, rfl, rfl, hgu⟩) (by have h := ok_opposite T; exact h) (by exact hr) (by decide) (by exact takes0) (a_cons (x_v 1) a_nil))) a_nil)) a_nil))))
theorem ok_summed (T : Txt g D fI fdI) : CalG g 3 "summed" s_summed ["some"] F_summed := by
  have nd := sc_summed.nd
  obtain ⟨f, fd, FA⟩ := T.f_summed
  exact cal_ok FA sc_summed (fun cdv A outer s H E hr hgu => ss_cons (s_asg (x_tup (a_cons x_int (a_cons x_int a_nil))) (g_tup (n := 2) (by exact rfl) (by exact rfl) (gs_cons (g_name (i := 1) (by exact nd)) (gs_cons (g_name (i := 2) (by exact nd)) gs_nil)))) (ss_cons (s_for (by exact passes_of rfl) (by exact rfl) (i_seq (by exact rfl) (x_v 0)) (g_name (i := 3) (by exact nd)) (ss_one (s_par (i := 1) (j := 2) (by exact rfl) (by exact nd) (a_cons (x_op op_addA o_add (x_op op_mulA o_mul (x_v 1) (x_ix (by exact ix_A) (by exact o_ix) (by exact fun _ _ => rfl) (x_v 3) x_int)) (x_op op_mulA o_mul (x_ix (by exact ix_A) (by exact o_ix) (by exact fun _ _ => rfl) (x_v 3) x_int) (x_v 2))) (a_cons (x_op op_mulA o_mul (x_v 2) (x_ix (by exact ix_A) (by exact o_ix) (by exact fun _ _ => rfl) (x_v 3) x_int)) a_nil))))) (ss_one (s_ret (x_callG (ps := ["top", "bottom"]) (by exact ⟨rfl, rfl, rfl, rfl, rfl, hgu⟩) (by have h := ok_told_fraction T; exact h) (by exact hr) (by decide) (by exact takes_of rfl rfl rfl rfl) (a_cons (x_v 1) (a_cons (x_v 2) a_nil)))))))
theorem ok_look_at_wears (T : Txt g D fI fdI) : CalG g 6 "look_at_wears" s_look_at_wears ["wears"] F_look_at_wears := by
  have nd := sc_look_at_wears.nd
  obtain ⟨f, fd, FA⟩ := T.f_look_at_wears
  exact cal_ok FA sc_look_at_wears (fun cdv A outer s H E hr hgu => ss_cons (s_if (y_w (w_or (y_not (y_val (x_cb call_isiP (by exact o_isi T.isC) (by exact T.n_isinstance) PyProof.Rows.Boot.«isinstance» (a_cons (x_v 0) (a_cons (x_bty (by exact T.n_tuple) PyProof.Rows.Boot.«tuple») a_nil))))) (w_or1 (y_not (y_chain op_le op_le (o_cmpI _) (o_cmpI _) x_int (x_cb call_len_seq o_len (by exact T.n_len) PyProof.Rows.Boot.«len» (a_cons (x_v 0) a_nil)) (x_gl (by exact ⟨rfl, rfl, rfl, rfl, rfl, hgu⟩) (by exact T.g_MOST_PLACES))))))) (ss_one (s_raise (by exact ⟨rfl, rfl, rfl, rfl, rfl, hgu⟩) (by exact rfl) (by exact takes_of rfl rfl rfl rfl) (by exact T.init) (by exact T.e_BadRow) (by exact T.tI) (by exact T.bI) (by exact hr.mono (by decide)) (by exact T.m_BadRow) (x_v 0))) ss_nil) (ss_one (s_if (y_w (w_or (y_not (y_val (x_cb (by exact cr_all rfl) o_all (by exact T.n_all) PyProof.Rows.Boot.«all» (a_cons (x_lcT (own := [("one", 1)]) (by exact rfl) (by exact nd) (i_seq (by exact rfl) (x_v 0)) (blkOk_by (own := [("one", 1)]) (N := ["wears", "one"]) (sc := defScope s_look_at_wears) (by decide +kernel)) (fun _ _ _ _ _ => c_name (i := 1) (by exact nd)) (fun _ _ _ _ _ => z_nil) (fun _ _ _ _ _ => x_callG (ps := ["value"]) (by exact ⟨rfl, rfl, rfl, rfl, rfl, hgu⟩) (by have h := ok_is_price T; exact h) (by exact hr) (by decide) (by exact takes0) (a_cons (x_v 1) a_nil))) a_nil)))) (w_or1 (y_val (x_cb (by exact cr_all rfl) o_all (by exact T.n_all) PyProof.Rows.Boot.«all» (a_cons (x_lcT (own := [("one", 1)]) (by exact rfl) (by exact nd) (i_seq (by exact rfl) (x_v 0)) (blkOk_by (own := [("one", 1)]) (N := ["wears", "one"]) (sc := defScope s_look_at_wears) (by decide +kernel)) (fun _ _ _ _ _ => c_name (i := 1) (by exact nd)) (fun _ _ _ _ _ => z_nil) (fun _ _ _ _ _ => x_cmp (by exact op_eqB (hu64 hr)) o_eq (nomark _) (x_v 1) (x_gl (by exact ⟨rfl, rfl, rfl, rfl, rfl, hgu⟩) (by exact T.g_NOUGHT)))) a_nil)))))) (ss_one (s_raise (by exact ⟨rfl, rfl, rfl, rfl, rfl, hgu⟩) (by exact rfl) (by exact takes_of rfl rfl rfl rfl) (by exact T.init) (by exact T.e_BadRow) (by exact T.tI) (by exact T.bI) (by exact hr.mono (by decide)) (by exact T.m_BadRow) (x_v 0))) ss_nil)))
theorem ok_look_at_like (T : Txt g D fI fdI) : CalG g 7 "look_at_like" s_look_at_like ["wears", "many", "life"] F_look_at_like := by
  have nd := sc_look_at_like.nd
  obtain ⟨f, fd, FA⟩ := T.f_look_at_like
  exact cal_ok FA sc_look_at_like (fun cdv A outer s H E hr hgu => ss_cons (s_expr (x_callG (ps := ["wears"]) (by exact ⟨rfl, rfl, rfl, rfl, rfl, hgu⟩) (by have h := ok_look_at_wears T; exact h) (by exact hr) (by decide) (by exact takes_of rfl rfl rfl rfl) (a_cons (x_v 0) a_nil))) (ss_cons (s_if (y_not (y_val (x_callG (ps := ["value", "low", "high"]) (by exact ⟨rfl, rfl, rfl, rfl, rfl, hgu⟩) (by have h := ok_is_int T; exact h) (by exact hr) (by decide) (by exact takes_of rfl rfl rfl rfl) (a_cons (x_v 1) (a_cons (x_cb call_len_seq o_len (by exact T.n_len) PyProof.Rows.Boot.«len» (a_cons (x_v 0) a_nil)) (a_cons (x_gl (by exact ⟨rfl, rfl, rfl, rfl, rfl, hgu⟩) (by exact T.g_MOST_PARTS)) a_nil)))))) (ss_one (s_raise (by exact ⟨rfl, rfl, rfl, rfl, rfl, hgu⟩) (by exact rfl) (by exact takes_of rfl rfl rfl rfl) (by exact T.init) (by exact T.e_BadInt) (by exact T.tI) (by exact T.bI) (by exact hr.mono (by decide)) (by exact T.m_BadInt) (x_v 1))) ss_nil) (ss_one (s_expr (x_callG (ps := ["value"]) (by exact ⟨rfl, rfl, rfl, rfl, rfl, hgu⟩) (by have h := ok_look_at_above T; exact h) (by exact hr) (by decide) (by exact takes_of rfl rfl rfl rfl) (a_cons (x_v 2) a_nil))))))
theorem ok_stock_of (T : Txt g D fI fdI) : CalG g 8 "stock_of" s_stock_of ["wears", "many", "life"] F_stock_of := by
  have nd := sc_stock_of.nd
  obtain ⟨f, fd, FA⟩ := T.f_stock_of
  exact cal_ok FA sc_stock_of (fun cdv A outer s H E hr hgu => ss_cons (s_expr (x_callG (ps := ["wears", "many", "life"]) (by exact ⟨rfl, rfl, rfl, rfl, rfl, hgu⟩) (by have h := ok_look_at_like T; exact h) (by exact hr) (by decide) (by exact takes_of rfl rfl rfl rfl) (a_cons (x_v 0) (a_cons (x_v 1) (a_cons (x_v 2) a_nil))))) (ss_one (s_ret (x_tup (a_cons (x_cb call_len_seq o_len (by exact T.n_len) PyProof.Rows.Boot.«len» (a_cons (x_v 0) a_nil)) (a_cons (x_op op_mulA o_mul (x_tup (a_cons (x_tup (a_cons (x_v 2) (a_cons (x_v 0) a_nil))) a_nil)) (x_v 1)) a_nil))))))
theorem ok_told_round (T : Txt g D fI fdI) : CalG g 4 "told_round" s_told_round ["wears", "many", "life"] F_told_round := by
  have nd := sc_told_round.nd
  obtain ⟨f, fd, FA⟩ := T.f_told_round
  exact cal_ok FA sc_told_round (fun cdv A outer s H E hr hgu => ss_one (s_ret (x_callG (ps := ["one", "other"]) (by exact ⟨rfl, rfl, rfl, rfl, rfl, hgu⟩) (by have h := ok_over T; exact h) (by exact hr) (by decide) (by exact takes_of rfl rfl rfl rfl) (a_cons (x_callG (ps := ["one", "other"]) (by exact ⟨rfl, rfl, rfl, rfl, rfl, hgu⟩) (by have h := ok_times T; exact h) (by exact hr) (by decide) (by exact takes_of rfl rfl rfl rfl) (a_cons (x_tup (a_cons (x_v 1) (a_cons x_int a_nil))) (a_cons (x_v 2) a_nil))) (a_cons (x_callG (ps := ["some"]) (by exact ⟨rfl, rfl, rfl, rfl, rfl, hgu⟩) (by have h := ok_summed T; exact h) (by exact hr) (by decide) (by exact takes_of rfl rfl rfl rfl) (a_cons (x_cty call_list_of o_listT (by exact T.n_list) PyProof.Rows.Boot.«list» (a_cons (x_v 0) a_nil)) a_nil)) a_nil)))))
theorem ok_round_way (T : Txt g D fI fdI) : CalG g 8 "round_way" s_round_way ["wears", "many", "life"] F_round_way := by
  have nd := sc_round_way.nd
  obtain ⟨f, fd, FA⟩ := T.f_round_way
  exact cal_ok FA sc_round_way (fun cdv A outer s H E hr hgu => ss_cons (s_expr (x_callG (ps := ["wears", "many", "life"]) (by exact ⟨rfl, rfl, rfl, rfl, rfl, hgu⟩) (by have h := ok_look_at_like T; exact h) (by exact hr) (by decide) (by exact takes_of rfl rfl rfl rfl) (a_cons (x_v 0) (a_cons (x_v 1) (a_cons (x_v 2) a_nil))))) (ss_one (s_ret (x_callG (ps := ["wears", "many", "life"]) (by exact ⟨rfl, rfl, rfl, rfl, rfl, hgu⟩) (by have h := ok_told_round T; exact h) (by exact hr) (by decide) (by exact takes_of rfl rfl rfl rfl) (a_cons (x_v 0) (a_cons (x_v 1) (a_cons (x_v 2) a_nil)))))))
theorem ok_round_plan (T : Txt g D fI fdI) : CalG g 8 "round_plan" s_round_plan ["wears", "many", "life"] F_round_plan := by
  have nd := sc_round_plan.nd
  obtain ⟨f, fd, FA⟩ := T.f_round_plan
  exact cal_ok FA sc_round_plan (fun cdv A outer s H E hr hgu => ss_cons (s_expr (x_callG (ps := ["wears", "many", "life"]) (by exact ⟨rfl, rfl, rfl, rfl, rfl, hgu⟩) (by have h := ok_look_at_like T; exact h) (by exact hr) (by decide) (by exact takes_of rfl rfl rfl rfl) (a_cons (x_v 0) (a_cons (x_v 1) (a_cons (x_v 2) a_nil))))) (ss_cons (s_set (i := 3) (by exact nd) (x_callG (ps := ["one", "other"]) (by exact ⟨rfl, rfl, rfl, rfl, rfl, hgu⟩) (by have h := ok_over T; exact h) (by exact hr) (by decide) (by exact takes_of rfl rfl rfl rfl) (a_cons (x_v 2) (a_cons (x_callG (ps := ["some"]) (by exact ⟨rfl, rfl, rfl, rfl, rfl, hgu⟩) (by have h := ok_summed T; exact h) (by exact hr) (by decide) (by exact takes_of rfl rfl rfl rfl) (a_cons (x_cty call_list_of o_listT (by exact T.n_list) PyProof.Rows.Boot.«list» (a_cons (x_v 0) a_nil)) a_nil)) a_nil)))) (ss_one (s_ret (x_cty call_tuple_of o_tuple (by exact T.n_tuple) PyProof.Rows.Boot.«tuple» (a_cons (x_lcT (own := [("leg", 4)]) (by exact rfl) (by exact nd) (i_range1 (by exact T.n_range) (a_cons (x_v 1) a_nil)) (blkOk_by (own := [("leg", 4)]) (N := ["wears", "many", "life", "way", "leg", "place"]) (sc := defScope s_round_plan) (by decide +kernel)) (fun _ _ _ _ _ => c_name (i := 4) (by exact nd)) (fun _ _ _ _ _ => z_nil) (fun _ _ _ _ _ => x_tup (a_cons (x_v 3) (a_cons (x_cty call_tuple_of o_tuple (by exact T.n_tuple) PyProof.Rows.Boot.«tuple» (a_cons (x_lcT (own := [("place", 5)]) (by exact rfl) (by exact nd) (i_range1 (by exact T.n_range) (a_cons (x_cb call_len_seq o_len (by exact T.n_len) PyProof.Rows.Boot.«len» (a_cons (x_v 0) a_nil)) a_nil)) (blkOk_by (own := [("place", 5)]) (N := ["wears", "many", "life", "way", "leg", "place"]) (sc := _) (by kernel_rfl)) (fun _ _ _ _ _ => c_name (i := 5) (by exact nd)) (fun _ _ _ _ _ => z_nil) (fun _ _ _ _ _ => x_op op_modN o_mod (x_op op_sub o_sub (x_v 5) (x_v 4)) (x_v 1))) a_nil)) a_nil)))) a_nil))))))
theorem ok_round_prices (T : Txt g D fI fdI) : CalG g 8 "round_prices" s_round_prices ["wears", "many", "life"] F_round_prices := by
  have nd := sc_round_prices.nd
  obtain ⟨f, fd, FA⟩ := T.f_round_prices
  exact cal_ok FA sc_round_prices (fun cdv A outer s H E hr hgu => ss_cons (s_expr (x_callG (ps := ["wears", "many", "life"]) (by exact ⟨rfl, rfl, rfl, rfl, rfl, hgu⟩) (by have h := ok_look_at_like T; exact h) (by exact hr) (by decide) (by exact takes_of rfl rfl rfl rfl) (a_cons (x_v 0) (a_cons (x_v 1) (a_cons (x_v 2) a_nil))))) (ss_cons (s_set (i := 3) (by exact nd) (x_callG (ps := ["some"]) (by exact ⟨rfl, rfl, rfl, rfl, rfl, hgu⟩) (by have h := ok_summed T; exact h) (by exact hr) (by decide) (by exact takes_of rfl rfl rfl rfl) (a_cons (x_cty call_list_of o_listT (by exact T.n_list) PyProof.Rows.Boot.«list» (a_cons (x_v 0) a_nil)) a_nil))) (ss_one (s_ret (x_tup (a_cons (x_cty call_tuple_of o_tuple (by exact T.n_tuple) PyProof.Rows.Boot.«tuple» (a_cons (x_lcT (own := [("one", 4)]) (by exact rfl) (by exact nd) (i_seq (by exact rfl) (x_v 0)) (blkOk_by (own := [("one", 4)]) (N := ["wears", "many", "life", "whole", "one"]) (sc := defScope s_round_prices) (by decide +kernel)) (fun _ _ _ _ _ => c_name (i := 4) (by exact nd)) (fun _ _ _ _ _ => z_nil) (fun _ _ _ _ _ => x_callG (ps := ["one", "other"]) (by exact ⟨rfl, rfl, rfl, rfl, rfl, hgu⟩) (by have h := ok_over T; exact h) (by exact hr) (by decide) (by exact takes0) (a_cons (x_v 4) (a_cons (x_v 3) a_nil)))) a_nil)) (a_cons (x_op op_mulA o_mul (x_tup (a_cons (x_gl (by exact ⟨rfl, rfl, rfl, rfl, rfl, hgu⟩) (by exact T.g_NOUGHT)) a_nil)) (x_v 1)) (a_cons (x_op op_mulA o_mul (x_tup (a_cons (x_callG (ps := ["one", "other"]) (by exact ⟨rfl, rfl, rfl, rfl, rfl, hgu⟩) (by have h := ok_over T; exact h) (by exact hr) (by decide) (by exact takes_of rfl rfl rfl rfl) (a_cons (x_gl (by exact ⟨rfl, rfl, rfl, rfl, rfl, hgu⟩) (by exact T.g_ONE)) (a_cons (x_v 3) a_nil))) a_nil)) (x_v 1)) a_nil))))))))
theorem ok_look_at_few (T : Txt g D fI fdI) : CalG g 7 "look_at_few" s_look_at_few ["wears", "life"] F_look_at_few := by
  have nd := sc_look_at_few.nd
  obtain ⟨f, fd, FA⟩ := T.f_look_at_few
  exact cal_ok FA sc_look_at_few (fun cdv A outer s H E hr hgu => ss_cons (s_expr (x_callG (ps := ["wears"]) (by exact ⟨rfl, rfl, rfl, rfl, rfl, hgu⟩) (by have h := ok_look_at_wears T; exact h) (by exact hr) (by decide) (by exact takes_of rfl rfl rfl rfl) (a_cons (x_v 0) a_nil))) (ss_one (s_expr (x_callG (ps := ["value"]) (by exact ⟨rfl, rfl, rfl, rfl, rfl, hgu⟩) (by have h := ok_look_at_above T; exact h) (by exact hr) (by decide) (by exact takes_of rfl rfl rfl rfl) (a_cons (x_v 1) a_nil)))))
theorem ok_unmoved_way (T : Txt g D fI fdI) : CalG g 8 "unmoved_way" s_unmoved_way ["wears", "life"] F_unmoved_way := by
  have nd := sc_unmoved_way.nd
  obtain ⟨f, fd, FA⟩ := T.f_unmoved_way
  exact cal_ok FA sc_unmoved_way (fun cdv A outer s H E hr hgu => ss_cons (s_expr (x_callG (ps := ["wears", "life"]) (by exact ⟨rfl, rfl, rfl, rfl, rfl, hgu⟩) (by have h := ok_look_at_few T; exact h) (by exact hr) (by decide) (by exact takes_of rfl rfl rfl rfl) (a_cons (x_v 0) (a_cons (x_v 1) a_nil)))) (ss_one (s_ret (x_callG (ps := ["one", "other"]) (by exact ⟨rfl, rfl, rfl, rfl, rfl, hgu⟩) (by have h := ok_over T; exact h) (by exact hr) (by decide) (by exact takes_of rfl rfl rfl rfl) (a_cons (x_v 1) (a_cons (x_callG (ps := ["some"]) (by exact ⟨rfl, rfl, rfl, rfl, rfl, hgu⟩) (by have h := ok_greatest_of T; exact h) (by exact hr) (by decide) (by exact takes_of rfl rfl rfl rfl) (a_cons (x_cty call_list_of o_listT (by exact T.n_list) PyProof.Rows.Boot.«list» (a_cons (x_v 0) a_nil)) a_nil)) a_nil))))))
theorem ok_gain_of (T : Txt g D fI fdI) : CalG g 8 "gain_of" s_gain_of ["wears", "many", "life"] F_gain_of := by
  have nd := sc_gain_of.nd
  obtain ⟨f, fd, FA⟩ := T.f_gain_of
  exact cal_ok FA sc_gain_of (fun cdv A outer s H E hr hgu => ss_cons (s_expr (x_callG (ps := ["wears", "many", "life"]) (by exact ⟨rfl, rfl, rfl, rfl, rfl, hgu⟩) (by have h := ok_look_at_like T; exact h) (by exact hr) (by decide) (by exact takes_of rfl rfl rfl rfl) (a_cons (x_v 0) (a_cons (x_v 1) (a_cons (x_v 2) a_nil))))) (ss_one (s_ret (x_callG (ps := ["one", "other"]) (by exact ⟨rfl, rfl, rfl, rfl, rfl, hgu⟩) (by have h := ok_minus T; exact h) (by exact hr) (by decide) (by exact takes_of rfl rfl rfl rfl) (a_cons (x_callG (ps := ["wears", "many", "life"]) (by exact ⟨rfl, rfl, rfl, rfl, rfl, hgu⟩) (by have h := ok_told_round T; exact h) (by exact hr) (by decide) (by exact takes_of rfl rfl rfl rfl) (a_cons (x_v 0) (a_cons (x_v 1) (a_cons (x_v 2) a_nil)))) (a_cons (x_callG (ps := ["one", "other"]) (by exact ⟨rfl, rfl, rfl, rfl, rfl, hgu⟩) (by have h := ok_over T; exact h) (by exact hr) (by decide) (by exact takes_of rfl rfl rfl rfl) (a_cons (x_v 2) (a_cons (x_callG (ps := ["some"]) (by exact ⟨rfl, rfl, rfl, rfl, rfl, hgu⟩) (by have h := ok_greatest_of T; exact h) (by exact hr) (by decide) (by exact takes_of rfl rfl rfl rfl) (a_cons (x_cty call_list_of o_listT (by exact T.n_list) PyProof.Rows.Boot.«list» (a_cons (x_v 0) a_nil)) a_nil)) a_nil))) a_nil))))))
theorem ok__law_pot (T : Txt g D fI fdI) : CalG g 1 "_law_pot" s__law_pot ["script", "place"] F__law_pot := by
  have nd := sc__law_pot.nd
  obtain ⟨f, fd, FA⟩ := T.f__law_pot
  exact cal_ok FA sc__law_pot (fun cdv A outer s H E hr hgu => ss_cons (s_set (i := 2) (by exact nd) (x_ifExp (y_cmp op_lt (o_cmpI _) (nomark _) (x_v 1) (x_cb call_len_seq o_len (by exact T.n_len) PyProof.Rows.Boot.«len» (a_cons (x_v 0) a_nil))) (x_ix (by exact ix_A) (by exact o_ix) (by exact fun _ _ => rfl) (x_v 0) (x_v 1)) (x_op op_addA o_add (x_op op_addA o_add (x_op op_modN o_mod (x_cty call_int1 o_int1 (by exact T.n_int) PyProof.Rows.Boot.«int» (a_cons (x_cb (by exact cr_sum rfl) o_sum (by exact T.n_sum) PyProof.Rows.Boot.«sum» (a_cons (x_slH (by exact rfl) (x_v 0) x_int) a_nil)) a_nil)) x_int) (x_op op_mulA o_mul x_int (x_v 1))) x_int))) (ss_cons (s_set (i := 3) (by exact nd) (x_op op_mulA o_mul (x_op op_modN o_mod (x_cty call_int1 o_int1 (by exact T.n_int) PyProof.Rows.Boot.«int» (a_cons (x_cb call_abs o_abs (by exact T.n_abs) PyProof.Rows.Boot.«abs» (a_cons (x_v 2) a_nil)) a_nil)) (x_op op_powZ o_pow (x_op op_powZ o_pow x_int x_int) x_int)) (x_cty call_int1 o_int1 (by exact T.n_int) PyProof.Rows.Boot.«int» (a_cons (x_cmp op_ge (o_cmpI _) (nomark _) (x_cb call_abs o_abs (by exact T.n_abs) PyProof.Rows.Boot.«abs» (a_cons (x_v 2) a_nil)) (x_op op_powZ o_pow x_int x_int)) a_nil)))) (ss_cons (s_set (i := 4) (by exact nd) (x_op op_modN o_mod (x_cty call_int1 o_int1 (by exact T.n_int) PyProof.Rows.Boot.«int» (a_cons (x_v 2) a_nil)) x_int)) (ss_one (s_ret (x_lst (a_cons (x_v 3) (a_cons (x_op op_modN o_mod (x_cty call_int1 o_int1 (by exact T.n_int) PyProof.Rows.Boot.«int» (a_cons (x_op op_addA o_add (x_op op_addA o_add (x_op op_mulA o_mul (x_v 4) x_int) (x_op op_mulA o_mul (x_op op_mulA o_mul x_int (x_v 1)) (x_v 1))) x_int) a_nil)) x_int) (a_cons x_int a_nil)))))))))
theorem ok__law_take (T : Txt g D fI fdI) : CalG g 1 "_law_take" s__law_take ["pot", "upto"] F__law_take := by
  have nd := sc__law_take.nd
  obtain ⟨f, fd, FA⟩ := T.f__law_take
  exact cal_ok FA sc__law_take (fun cdv A outer s H E hr hgu => ss_cons (s_if (y_cmp op_gt (o_cmpI _) (nomark _) (x_ix (by exact ix_A) (by exact o_ix) (by exact fun _ _ => rfl) (x_v 0) x_int) x_int) (ss_cons (s_set (i := 2) (by exact nd) (x_op op_modN o_mod (x_cty call_int1 o_int1 (by exact T.n_int) PyProof.Rows.Boot.«int» (a_cons (x_ix (by exact ix_A) (by exact o_ix) (by exact fun _ _ => rfl) (x_v 0) x_int) a_nil)) (x_v 1))) (ss_cons (s_asg (x_op op_divZ o_div (x_ix (by exact ix_A) (by exact o_ix) (by exact fun _ _ => rfl) (x_v 0) x_int) (x_v 1)) (g_sub (W := fun _ _ _ _ => False) (x_v 0) x_int)) (ss_one (s_ret (x_v 2))))) ss_nil) (ss_cons (s_asg (x_op op_addA o_add (x_ix (by exact ix_A) (by exact o_ix) (by exact fun _ _ => rfl) (x_v 0) x_int) x_int) (g_sub (W := fun _ _ _ _ => False) (x_v 0) x_int)) (ss_cons (s_set (i := 3) (by exact nd) (x_ix (by exact ix_A) (by exact o_ix) (by exact fun _ _ => rfl) (x_lstT (a_cons x_int (a_cons x_int (a_cons x_int (a_cons x_int (a_cons x_int a_nil)))))) (x_op op_modN o_mod (x_cty call_int1 o_int1 (by exact T.n_int) PyProof.Rows.Boot.«int» (a_cons (x_ix (by exact ix_A) (by exact o_ix) (by exact fun _ _ => rfl) (x_v 0) x_int) a_nil)) x_int))) (ss_cons (s_set (i := 4) (by exact nd) (x_op op_modN o_mod (x_cty call_int1 o_int1 (by exact T.n_int) PyProof.Rows.Boot.«int» (a_cons (x_op op_powZ o_pow (x_cty call_int1 o_int1 (by exact T.n_int) PyProof.Rows.Boot.«int» (a_cons (x_op op_addA o_add (x_op op_addA o_add (x_ix (by exact ix_A) (by exact o_ix) (by exact fun _ _ => rfl) (x_v 0) x_int) (x_op op_mulA o_mul (x_op op_mulA o_mul x_int (x_ix (by exact ix_A) (by exact o_ix) (by exact fun _ _ => rfl) (x_v 0) x_int)) (x_ix (by exact ix_A) (by exact o_ix) (by exact fun _ _ => rfl) (x_v 0) x_int))) x_int) a_nil)) x_int) a_nil)) (x_v 3))) (ss_cons (s_set (i := 4) (by exact nd) (x_op op_modN o_mod (x_cty call_int1 o_int1 (by exact T.n_int) PyProof.Rows.Boot.«int» (a_cons (x_op op_mulA o_mul (x_v 4) (x_op op_addA o_add (x_op op_modN o_mod (x_cty call_int1 o_int1 (by exact T.n_int) PyProof.Rows.Boot.«int» (a_cons (x_v 4) a_nil)) x_int) (x_op op_mulA o_mul x_int (x_ix (by exact ix_A) (by exact o_ix) (by exact fun _ _ => rfl) (x_v 0) x_int)))) a_nil)) x_int)) (ss_one (s_ret (x_op op_modN o_mod (x_cty call_int1 o_int1 (by exact T.n_int) PyProof.Rows.Boot.«int» (a_cons (x_op op_divZ o_div (x_v 4) x_int) a_nil)) (x_v 1)))))))))
theorem ok__law_of (T : Txt g D fI fdI) : CalG g 2 "_law_of" s__law_of ["pot", "some"] F__law_of := by
  have nd := sc__law_of.nd
  obtain ⟨f, fd, FA⟩ := T.f__law_of
  exact cal_ok FA sc__law_of (fun cdv A outer s H E hr hgu => ss_one (s_ret (x_ix (by exact ix_A) (by exact o_ix) (by exact fun _ _ => rfl) (x_v 1) (x_callG (ps := ["pot", "upto"]) (by exact ⟨rfl, rfl, rfl, rfl, rfl, hgu⟩) (by have h := ok__law_take T; exact h) (by exact hr) (by decide) (by exact takes_of rfl rfl rfl rfl) (a_cons (x_v 0) (a_cons (x_cb call_len_seq o_len (by exact T.n_len) PyProof.Rows.Boot.«len» (a_cons (x_v 1) a_nil)) a_nil))))))
theorem ok__law_cells (T : Txt g D fI fdI) : CalG g 1 "_law_cells" s__law_cells ["script", "most"] F__law_cells := by
  have nd := sc__law_cells.nd
  obtain ⟨f, fd, FA⟩ := T.f__law_cells
  exact cal_ok FA sc__law_cells (fun cdv A outer s H E hr hgu => ss_one (s_ret (x_lstRg1 (by exact rfl) (by exact T.n_list) (by exact T.n_range) (x_cb (by exact call_max2 rfl) o_max2 (by exact T.n_max) PyProof.Rows.Boot.«max» (a_cons x_int (a_cons (x_cb (by exact call_min2 rfl) o_min2 (by exact T.n_min) PyProof.Rows.Boot.«min» (a_cons (x_v 1) (a_cons (x_cb call_len_seq o_len (by exact T.n_len) PyProof.Rows.Boot.«len» (a_cons (x_v 0) a_nil)) a_nil))) a_nil))))))
theorem okl_0 (T : Txt g D fI fdI) : LamG g 9 0 0 L_0 := lam_ok (N := ["bad"]) (ps := []) (fr := ["bad"]) T.lam_0 (NdefX.nscope_by (by decide +kernel)) (fun _ _ _ _ us h => match us, h with | [], _ => rfl) (fun A outer s H cl c f E hr hgu => x_callG (ps := ["wears", "life"]) (by exact ⟨rfl, rfl, rfl, rfl, rfl, hgu⟩) (by have h := ok_unmoved_way T; exact h) (by exact hr) (by decide) (by exact takes_of rfl rfl rfl rfl) (a_cons (x_v 0) (a_cons x_non a_nil)))
theorem ftab3_ok (T : Txt g D fI fdI) : ∀ c F, ftab3 c = some F → HeldG g 8 c 3 F := by
  intro c F h
  unfold ftab3 at h
  split at h
  · cases h
    obtain ⟨f, fd, FA, Fn⟩ := (ok_stock_of T).ex
    have e : g.b.mg _ = some (.ref (g.b.cls 4)) := T.fv_stock_of
    rw [FA.m] at e
    exact ⟨_, _, _, f, fd, by cases e; rfl, FA, Fn.mono (by decide), rfl⟩
  · cases h
    obtain ⟨f, fd, FA, Fn⟩ := (ok_round_way T).ex
    have e : g.b.mg _ = some (.ref (g.b.cls 5)) := T.fv_round_way
    rw [FA.m] at e
    exact ⟨_, _, _, f, fd, by cases e; rfl, FA, Fn.mono (by decide), rfl⟩
  · cases h
    obtain ⟨f, fd, FA, Fn⟩ := (ok_round_plan T).ex
    have e : g.b.mg _ = some (.ref (g.b.cls 6)) := T.fv_round_plan
    rw [FA.m] at e
    exact ⟨_, _, _, f, fd, by cases e; rfl, FA, Fn.mono (by decide), rfl⟩
  · cases h
    obtain ⟨f, fd, FA, Fn⟩ := (ok_round_prices T).ex
    have e : g.b.mg _ = some (.ref (g.b.cls 7)) := T.fv_round_prices
    rw [FA.m] at e
    exact ⟨_, _, _, f, fd, by cases e; rfl, FA, Fn.mono (by decide), rfl⟩
  · cases h
    obtain ⟨f, fd, FA, Fn⟩ := (ok_gain_of T).ex
    have e : g.b.mg _ = some (.ref (g.b.cls 8)) := T.fv_gain_of
    rw [FA.m] at e
    exact ⟨_, _, _, f, fd, by cases e; rfl, FA, Fn.mono (by decide), rfl⟩
  · cases h
theorem okl_1 (T : Txt g D fI fdI) : LamG g 9 1 0 L_1 := lam_ok (N := ["call", "bad"]) (ps := []) (fr := ["call", "bad"]) T.lam_1 (NdefX.nscope_by (by decide +kernel)) (fun _ _ _ _ us h => match us, h with | [], _ => rfl) (fun A outer s H cl c f E hr hgu => x_callF (by exact ⟨rfl, rfl, rfl, rfl, rfl, hgu⟩) (by have h := ftab3_ok T; exact h) (by exact hr) (by decide) (by exact takes_of rfl rfl rfl rfl) (a_cons (x_v 1) (a_cons x_non (a_cons x_non a_nil))))
theorem okl_3 (T : Txt g D fI fdI) : LamG g 9 3 0 L_3 := lam_ok (N := ["call", "wears", "odd"]) (ps := []) (fr := ["call", "wears", "odd"]) T.lam_3 (NdefX.nscope_by (by decide +kernel)) (fun _ _ _ _ us h => match us, h with | [], _ => rfl) (fun A outer s H cl c f E hr hgu => x_callF (by exact ⟨rfl, rfl, rfl, rfl, rfl, hgu⟩) (by have h := ftab3_ok T; exact h) (by exact hr) (by decide) (by exact takes_of rfl rfl rfl rfl) (a_cons (x_v 1) (a_cons (x_v 2) (a_cons x_non a_nil))))
theorem okl_4 (T : Txt g D fI fdI) : LamG g 9 4 0 L_4 := lam_ok (N := ["call", "wears", "many", "wrong"]) (ps := []) (fr := ["call", "wears", "many", "wrong"]) T.lam_4 (NdefX.nscope_by (by decide +kernel)) (fun _ _ _ _ us h => match us, h with | [], _ => rfl) (fun A outer s H cl c f E hr hgu => x_callF (by exact ⟨rfl, rfl, rfl, rfl, rfl, hgu⟩) (by have h := ftab3_ok T; exact h) (by exact hr) (by decide) (by exact takes_of rfl rfl rfl rfl) (a_cons (x_v 1) (a_cons (x_v 2) (a_cons (x_v 3) a_nil))))
theorem okl_5 (T : Txt g D fI fdI) : LamG g 9 5 0 L_5 := lam_ok (N := ["wears", "wrong"]) (ps := []) (fr := ["wears", "wrong"]) T.lam_5 (NdefX.nscope_by (by decide +kernel)) (fun _ _ _ _ us h => match us, h with | [], _ => rfl) (fun A outer s H cl c f E hr hgu => x_callG (ps := ["wears", "life"]) (by exact ⟨rfl, rfl, rfl, rfl, rfl, hgu⟩) (by have h := ok_unmoved_way T; exact h) (by exact hr) (by decide) (by exact takes_of rfl rfl rfl rfl) (a_cons (x_v 0) (a_cons (x_v 1) a_nil)))
theorem tab0_ok (T : Txt g D fI fdI) : ∀ l L, tab0 l = some L → LamG g 9 l 0 L := by
  intro l L h
  unfold tab0 at h
  split at h
  · cases h; exact (okl_0 T).mono (by decide)
  · cases h; exact (okl_1 T).mono (by decide)
  · cases h; exact (okl_3 T).mono (by decide)
  · cases h; exact (okl_4 T).mono (by decide)
  · cases h; exact (okl_5 T).mono (by decide)
  · cases h
theorem ok__law_heard (T : Txt g D fI fdI) : CalG g 10 "_law_heard" s__law_heard ["call"] F__law_heard := by
  have nd := sc__law_heard.nd
  obtain ⟨f, fd, FA⟩ := T.f__law_heard
  exact cal_ok FA sc__law_heard (fun cdv A outer s H E hr hgu => ss_cons (s_asg (x_tup (a_cons x_non (a_cons x_non a_nil))) (g_tup (n := 2) (by exact rfl) (by exact rfl) (gs_cons (g_name (i := 1) (by exact nd)) (gs_cons (g_name (i := 2) (by exact nd)) gs_nil)))) (ss_cons (s_tryK (i := 3) (j := 1) (by exact ⟨rfl, rfl, rfl, rfl, rfl, hgu⟩) (by exact rfl) (by exact rfl) (by exact rfl) (by exact nd) (by exact rfl) (by exact rfl) (by exact rfl) (by exact rfl) (by decide) (by exact T.m_WearError) (by exact fun c b h => T.exm c 0 b h) (by exact takes_of rfl rfl rfl rfl) (fun W pn xe tk pp => ss_one (s_set (i := 2) (by exact nd) (x_callv0 (by exact ⟨rfl, rfl, rfl, rfl, rfl, hgu⟩) (by have h := tab0_ok T; exact h) (by exact hr) (by decide) (by exact tk))))) (ss_one (s_ret (x_tup (a_cons (x_v 1) (a_cons (x_v 2) a_nil)))))))
theorem ok__law_is_int (T : Txt g D fI fdI) : CalG g 1 "_law_is_int" s__law_is_int ["value", "low", "high"] F__law_is_int := by
  have nd := sc__law_is_int.nd
  obtain ⟨f, fd, FA⟩ := T.f__law_is_int
  exact cal_ok FA sc__law_is_int (fun cdv A outer s H E hr hgu => ss_one (s_ret (x_and (x_cb call_isiP (by exact o_isi T.isC) (by exact T.n_isinstance) PyProof.Rows.Boot.«isinstance» (a_cons (x_v 0) (a_cons (x_bty (by exact T.n_int) PyProof.Rows.Boot.«int») a_nil))) (x_and (x_not (x_cb call_isiP (by exact o_isi T.isC) (by exact T.n_isinstance) PyProof.Rows.Boot.«isinstance» (a_cons (x_v 0) (a_cons (x_bty (by exact T.n_bool) PyProof.Rows.Boot.«bool») a_nil)))) (x_one (x_chain op_le op_le (o_cmpI _) (o_cmpI _) (x_v 1) (x_v 0) (x_v 2)))))))
theorem ok__law_frac (T : Txt g D fI fdI) : CalG g 1 "_law_frac" s__law_frac ["top", "bottom"] F__law_frac := by
  have nd := sc__law_frac.nd
  obtain ⟨f, fd, FA⟩ := T.f__law_frac
  exact cal_ok FA sc__law_frac (fun cdv A outer s H E hr hgu => ss_cons (s_par (i := 2) (j := 3) (by exact rfl) (by exact nd) (a_cons (x_cb call_abs o_abs (by exact T.n_abs) PyProof.Rows.Boot.«abs» (a_cons (x_v 0) a_nil)) (a_cons (x_cb call_abs o_abs (by exact T.n_abs) PyProof.Rows.Boot.«abs» (a_cons (x_v 1) a_nil)) a_nil))) (ss_cons (s_while (measInt 3) (by exact passes_of rfl) (y_cmp (by exact op_neB (hu64 hr)) o_ne (nomark _) (x_v 3) x_int) (ss_one (s_par (i := 2) (j := 3) (by exact rfl) (by exact nd) (a_cons (x_v 3) (a_cons (x_op op_modN o_mod (x_v 2) (x_v 3)) a_nil))))) (ss_cons (s_set (i := 4) (by exact nd) (x_ifExp (y_cmp op_lt (o_cmpI _) (nomark _) (x_v 1) x_int) (x_un un_neg o_neg x_int) x_int)) (ss_one (s_ret (x_tup (a_cons (x_op op_divZ o_div (x_op op_mulA o_mul (x_v 4) (x_v 0)) (x_v 2)) (a_cons (x_op op_divZ o_div (x_op op_mulA o_mul (x_v 4) (x_v 1)) (x_v 2)) a_nil))))))))
theorem ok__law_plus (T : Txt g D fI fdI) : CalG g 2 "_law_plus" s__law_plus ["one", "other"] F__law_plus := by
  have nd := sc__law_plus.nd
  obtain ⟨f, fd, FA⟩ := T.f__law_plus
  exact cal_ok FA sc__law_plus (fun cdv A outer s H E hr hgu => ss_one (s_ret (x_callG (ps := ["top", "bottom"]) (by exact ⟨rfl, rfl, rfl, rfl, rfl, hgu⟩) (by have h := ok__law_frac T; exact h) (by exact hr) (by decide) (by exact takes_of rfl rfl rfl rfl) (a_cons (x_op op_addA o_add (x_op op_mulA o_mul (x_ix (by exact ix_A) (by exact o_ix) (by exact fun _ _ => rfl) (x_v 0) x_int) (x_ix (by exact ix_A) (by exact o_ix) (by exact fun _ _ => rfl) (x_v 1) x_int)) (x_op op_mulA o_mul (x_ix (by exact ix_A) (by exact o_ix) (by exact fun _ _ => rfl) (x_v 1) x_int) (x_ix (by exact ix_A) (by exact o_ix) (by exact fun _ _ => rfl) (x_v 0) x_int))) (a_cons (x_op op_mulA o_mul (x_ix (by exact ix_A) (by exact o_ix) (by exact fun _ _ => rfl) (x_v 0) x_int) (x_ix (by exact ix_A) (by exact o_ix) (by exact fun _ _ => rfl) (x_v 1) x_int)) a_nil)))))
theorem ok__law_times (T : Txt g D fI fdI) : CalG g 2 "_law_times" s__law_times ["one", "other"] F__law_times := by
  have nd := sc__law_times.nd
  obtain ⟨f, fd, FA⟩ := T.f__law_times
  exact cal_ok FA sc__law_times (fun cdv A outer s H E hr hgu => ss_one (s_ret (x_callG (ps := ["top", "bottom"]) (by exact ⟨rfl, rfl, rfl, rfl, rfl, hgu⟩) (by have h := ok__law_frac T; exact h) (by exact hr) (by decide) (by exact takes_of rfl rfl rfl rfl) (a_cons (x_op op_mulA o_mul (x_ix (by exact ix_A) (by exact o_ix) (by exact fun _ _ => rfl) (x_v 0) x_int) (x_ix (by exact ix_A) (by exact o_ix) (by exact fun _ _ => rfl) (x_v 1) x_int)) (a_cons (x_op op_mulA o_mul (x_ix (by exact ix_A) (by exact o_ix) (by exact fun _ _ => rfl) (x_v 0) x_int) (x_ix (by exact ix_A) (by exact o_ix) (by exact fun _ _ => rfl) (x_v 1) x_int)) a_nil)))))
theorem ok__law_less (T : Txt g D fI fdI) : CalG g 2 "_law_less" s__law_less ["one", "other"] F__law_less := by
  have nd := sc__law_less.nd
  obtain ⟨f, fd, FA⟩ := T.f__law_less
  exact cal_ok FA sc__law_less (fun cdv A outer s H E hr hgu => ss_one (s_ret (x_callG (ps := ["top", "bottom"]) (by exact ⟨rfl, rfl, rfl, rfl, rfl, hgu⟩) (by have h := ok__law_frac T; exact h) (by exact hr) (by decide) (by exact takes_of rfl rfl rfl rfl) (a_cons (x_op op_sub o_sub (x_op op_mulA o_mul (x_ix (by exact ix_A) (by exact o_ix) (by exact fun _ _ => rfl) (x_v 0) x_int) (x_ix (by exact ix_A) (by exact o_ix) (by exact fun _ _ => rfl) (x_v 1) x_int)) (x_op op_mulA o_mul (x_ix (by exact ix_A) (by exact o_ix) (by exact fun _ _ => rfl) (x_v 1) x_int) (x_ix (by exact ix_A) (by exact o_ix) (by exact fun _ _ => rfl) (x_v 0) x_int))) (a_cons (x_op op_mulA o_mul (x_ix (by exact ix_A) (by exact o_ix) (by exact fun _ _ => rfl) (x_v 0) x_int) (x_ix (by exact ix_A) (by exact o_ix) (by exact fun _ _ => rfl) (x_v 1) x_int)) a_nil)))))
theorem ok__law_over (T : Txt g D fI fdI) : CalG g 2 "_law_over" s__law_over ["one", "other"] F__law_over := by
  have nd := sc__law_over.nd
  obtain ⟨f, fd, FA⟩ := T.f__law_over
  exact cal_ok FA sc__law_over (fun cdv A outer s H E hr hgu => ss_one (s_ret (x_callG (ps := ["top", "bottom"]) (by exact ⟨rfl, rfl, rfl, rfl, rfl, hgu⟩) (by have h := ok__law_frac T; exact h) (by exact hr) (by decide) (by exact takes_of rfl rfl rfl rfl) (a_cons (x_op op_mulA o_mul (x_ix (by exact ix_A) (by exact o_ix) (by exact fun _ _ => rfl) (x_v 0) x_int) (x_ix (by exact ix_A) (by exact o_ix) (by exact fun _ _ => rfl) (x_v 1) x_int)) (a_cons (x_op op_mulA o_mul (x_ix (by exact ix_A) (by exact o_ix) (by exact fun _ _ => rfl) (x_v 0) x_int) (x_ix (by exact ix_A) (by exact o_ix) (by exact fun _ _ => rfl) (x_v 1) x_int)) a_nil)))))
theorem ok__law_sum (T : Txt g D fI fdI) : CalG g 3 "_law_sum" s__law_sum ["some"] F__law_sum := by
  have nd := sc__law_sum.nd
  obtain ⟨f, fd, FA⟩ := T.f__law_sum
  exact cal_ok FA sc__law_sum (fun cdv A outer s H E hr hgu => ss_cons (s_set (i := 1) (by exact nd) (x_tup (a_cons x_int (a_cons x_int a_nil)))) (ss_cons (s_for (by exact passes_of rfl) (by exact rfl) (i_seq (by exact rfl) (x_v 0)) (g_name (i := 2) (by exact nd)) (ss_one (s_set (i := 1) (by exact nd) (x_callG (ps := ["one", "other"]) (by exact ⟨rfl, rfl, rfl, rfl, rfl, hgu⟩) (by have h := ok__law_plus T; exact h) (by exact hr) (by decide) (by exact takes_of rfl rfl rfl rfl) (a_cons (x_v 1) (a_cons (x_v 2) a_nil)))))) (ss_one (s_ret (x_v 1)))))
theorem ok__law_is_less (T : Txt g D fI fdI) : CalG g 1 "_law_is_less" s__law_is_less ["one", "other"] F__law_is_less := by
  have nd := sc__law_is_less.nd
  obtain ⟨f, fd, FA⟩ := T.f__law_is_less
  exact cal_ok FA sc__law_is_less (fun cdv A outer s H E hr hgu => ss_one (s_ret (x_cmp op_lt (o_cmpI _) (nomark _) (x_op op_mulA o_mul (x_ix (by exact ix_A) (by exact o_ix) (by exact fun _ _ => rfl) (x_v 0) x_int) (x_ix (by exact ix_A) (by exact o_ix) (by exact fun _ _ => rfl) (x_v 1) x_int)) (x_op op_mulA o_mul (x_ix (by exact ix_A) (by exact o_ix) (by exact fun _ _ => rfl) (x_v 1) x_int) (x_ix (by exact ix_A) (by exact o_ix) (by exact fun _ _ => rfl) (x_v 0) x_int)))))
theorem ok__law_is_exact (T : Txt g D fI fdI) : CalG g 2 "_law_is_exact" s__law_is_exact ["value"] F__law_is_exact := by
  have nd := sc__law_is_exact.nd
  obtain ⟨f, fd, FA⟩ := T.f__law_is_exact
  exact cal_ok FA sc__law_is_exact (fun cdv A outer s H E hr hgu => ss_cons (s_if (y_w (w_or (y_not (y_val (x_cb call_isiP (by exact o_isi T.isC) (by exact T.n_isinstance) PyProof.Rows.Boot.«isinstance» (a_cons (x_v 0) (a_cons (x_bty (by exact T.n_tuple) PyProof.Rows.Boot.«tuple») a_nil))))) (w_or (y_cmp (by exact op_neB (hu64 hr)) o_ne (nomark _) (x_cb call_len_seq o_len (by exact T.n_len) PyProof.Rows.Boot.«len» (a_cons (x_v 0) a_nil)) x_int) (w_or1 (y_not (y_val (x_cb (by exact cr_all rfl) o_all (by exact T.n_all) PyProof.Rows.Boot.«all» (a_cons (x_lcT (own := [("part", 1)]) (by exact rfl) (by exact nd) (i_seq (by exact rfl) (x_v 0)) (blkOk_by (own := [("part", 1)]) (N := ["value", "part"]) (sc := defScope s__law_is_exact) (by decide +kernel)) (fun _ _ _ _ _ => c_name (i := 1) (by exact nd)) (fun _ _ _ _ _ => z_nil) (fun _ _ _ _ _ => x_cb call_isiP (by exact o_isi T.isC) (by exact T.n_isinstance) PyProof.Rows.Boot.«isinstance» (a_cons (x_v 1) (a_cons (x_bty (by exact T.n_int) PyProof.Rows.Boot.«int») a_nil)))) a_nil)))))))) (ss_one (s_ret x_bl)) ss_nil) (ss_cons (s_if (y_w (w_or (y_val (x_cb (by exact cr_any rfl) o_any (by exact T.n_any) PyProof.Rows.Boot.«any» (a_cons (x_lcT (own := [("part", 1)]) (by exact rfl) (by exact nd) (i_seq (by exact rfl) (x_v 0)) (blkOk_by (own := [("part", 1)]) (N := ["value", "part"]) (sc := defScope s__law_is_exact) (by decide +kernel)) (fun _ _ _ _ _ => c_name (i := 1) (by exact nd)) (fun _ _ _ _ _ => z_nil) (fun _ _ _ _ _ => x_cb call_isiP (by exact o_isi T.isC) (by exact T.n_isinstance) PyProof.Rows.Boot.«isinstance» (a_cons (x_v 1) (a_cons (x_bty (by exact T.n_bool) PyProof.Rows.Boot.«bool») a_nil)))) a_nil))) (w_or1 (y_cmp op_lt (o_cmpI _) (nomark _) (x_ix (by exact ix_A) (by exact o_ix) (by exact fun _ _ => rfl) (x_v 0) x_int) x_int)))) (ss_one (s_ret x_bl)) ss_nil) (ss_one (s_ret (x_cmp (by exact op_eqB (hu64 hr)) o_eq (nomark _) (x_callG (ps := ["top", "bottom"]) (by exact ⟨rfl, rfl, rfl, rfl, rfl, hgu⟩) (by have h := ok__law_frac T; exact h) (by exact hr) (by decide) (by exact takes_of rfl rfl rfl rfl) (a_cons (x_ix (by exact ix_A) (by exact o_ix) (by exact fun _ _ => rfl) (x_v 0) x_int) (a_cons (x_ix (by exact ix_A) (by exact o_ix) (by exact fun _ _ => rfl) (x_v 0) x_int) a_nil))) (x_v 0))))))
theorem okl_2 (T : Txt g D fI fdI) : LamG g 1 2 1 L_2 := lam_ok (N := ["miss"]) (ps := ["miss"]) (fr := []) T.lam_2 (NdefX.nscope_by (by decide +kernel)) (fun _ _ _ _ us h => match us, h with | [_], _ => rfl) (fun A outer s H cl c f E hr hgu => x_cb call_isiP (by exact o_isi T.isC) (by exact T.n_isinstance) PyProof.Rows.Boot.«isinstance» (a_cons (x_v 0) (a_cons (x_cls (by exact ⟨rfl, rfl, rfl, rfl, rfl, hgu⟩) (by exact T.m_BadRow)) a_nil)))
theorem okl_6 (T : Txt g D fI fdI) : LamG g 1 6 1 L_6 := lam_ok (N := ["miss"]) (ps := ["miss"]) (fr := []) T.lam_6 (NdefX.nscope_by (by decide +kernel)) (fun _ _ _ _ us h => match us, h with | [_], _ => rfl) (fun A outer s H cl c f E hr hgu => x_cb call_isiP (by exact o_isi T.isC) (by exact T.n_isinstance) PyProof.Rows.Boot.«isinstance» (a_cons (x_v 0) (a_cons (x_cls (by exact ⟨rfl, rfl, rfl, rfl, rfl, hgu⟩) (by exact T.m_BadFraction)) a_nil)))
theorem tab1_ok (T : Txt g D fI fdI) : ∀ l L, tab1 l = some L → LamG g 1 l 1 L := by
  intro l L h
  unfold tab1 at h
  split at h
  · cases h; exact (okl_2 T).mono (by decide)
  · cases h; exact (okl_6 T).mono (by decide)
  · cases h
theorem ok__law_are_refused (T : Txt g D fI fdI) : CalG g 11 "_law_are_refused" s__law_are_refused ["looks", "is_kind", "value"] F__law_are_refused := by
  have nd := sc__law_are_refused.nd
  obtain ⟨f, fd, FA⟩ := T.f__law_are_refused
  exact cal_ok FA sc__law_are_refused (fun cdv A outer s H E hr hgu => ss_cons (s_for (by exact passes_of rfl) (by exact rfl) (i_seq (by exact rfl) (x_v 0)) (g_name (i := 3) (by exact nd)) (ss_cons (s_set (i := 4) (by exact nd) (x_ix (by exact ix_A) (by exact o_ix) (by exact fun _ _ => rfl) (x_callG (ps := ["call"]) (by exact ⟨rfl, rfl, rfl, rfl, rfl, hgu⟩) (by have h := ok__law_heard T; exact h) (by exact hr) (by decide) (by exact takes_of rfl rfl rfl rfl) (a_cons (x_v 3) a_nil)) x_int)) (ss_one (s_if (y_w (w_or (y_cmp op_isN o_isN (nomark _) (x_v 4) x_non) (w_or (y_not (y_val (x_callv (by exact ⟨rfl, rfl, rfl, rfl, rfl, hgu⟩) (by have h := tab1_ok T; exact h) (by exact hr) (by decide) (by exact takes_of rfl rfl rfl rfl) (a_cons (x_v 4) a_nil)))) (w_or1 (y_cmp (by exact op_neB (hu64 hr)) o_ne (nomark _) (x_cb (by exact call_repr hgu (hu66 hr)) o_repr (by exact T.n_repr) PyProof.Rows.Boot.«repr» (a_cons (x_val (D := D) (fI := fI) (by exact ⟨rfl, rfl, rfl, rfl, rfl, hgu⟩) (by exact T.errs) (x_v 4)) a_nil)) (x_cb (by exact call_repr hgu (hu66 hr)) o_repr (by exact T.n_repr) PyProof.Rows.Boot.«repr» (a_cons (x_v 2) a_nil))))))) (ss_one (s_ret x_bl)) ss_nil)))) (ss_one (s_ret x_bl)))
theorem ok__law_is_share (T : Txt g D fI fdI) : CalG g 3 "_law_is_share" s__law_is_share ["value"] F__law_is_share := by
  have nd := sc__law_is_share.nd
  obtain ⟨f, fd, FA⟩ := T.f__law_is_share
  exact cal_ok FA sc__law_is_share (fun cdv A outer s H E hr hgu => ss_one (s_ret (x_and (x_callG (ps := ["value"]) (by exact ⟨rfl, rfl, rfl, rfl, rfl, hgu⟩) (by have h := ok__law_is_exact T; exact h) (by exact hr) (by decide) (by exact takes_of rfl rfl rfl rfl) (a_cons (x_v 0) a_nil)) (x_one (x_cmp op_ge (o_cmpI _) (nomark _) (x_ix (by exact ix_A) (by exact o_ix) (by exact fun _ _ => rfl) (x_v 0) x_int) x_int)))))
theorem ok__law_number (T : Txt g D fI fdI) : CalG g 2 "_law_number" s__law_number ["pot", "upto"] F__law_number := by
  have nd := sc__law_number.nd
  obtain ⟨f, fd, FA⟩ := T.f__law_number
  exact cal_ok FA sc__law_number (fun cdv A outer s H E hr hgu => ss_one (s_ret (x_callG (ps := ["top", "bottom"]) (by exact ⟨rfl, rfl, rfl, rfl, rfl, hgu⟩) (by have h := ok__law_frac T; exact h) (by exact hr) (by decide) (by exact takes_of rfl rfl rfl rfl) (a_cons (x_op op_addA o_add x_int (x_cty call_int1 o_int1 (by exact T.n_int) PyProof.Rows.Boot.«int» (a_cons (x_callG (ps := ["pot", "upto"]) (by exact ⟨rfl, rfl, rfl, rfl, rfl, hgu⟩) (by have h := ok__law_take T; exact h) (by exact hr) (by decide) (by exact takes_of rfl rfl rfl rfl) (a_cons (x_v 0) (a_cons (x_v 1) a_nil))) a_nil))) (a_cons (x_op op_addA o_add x_int (x_cty call_int1 o_int1 (by exact T.n_int) PyProof.Rows.Boot.«int» (a_cons (x_callG (ps := ["pot", "upto"]) (by exact ⟨rfl, rfl, rfl, rfl, rfl, hgu⟩) (by have h := ok__law_take T; exact h) (by exact hr) (by decide) (by exact takes_of rfl rfl rfl rfl) (a_cons (x_v 0) (a_cons x_int a_nil))) a_nil))) a_nil)))))
theorem ok__law_wear (T : Txt g D fI fdI) : CalG g 2 "_law_wear" s__law_wear ["pot"] F__law_wear := by
  have nd := sc__law_wear.nd
  obtain ⟨f, fd, FA⟩ := T.f__law_wear
  exact cal_ok FA sc__law_wear (fun cdv A outer s H E hr hgu => ss_one (s_ret (x_ifExp (y_cmp (by exact op_eqB (hu64 hr)) o_eq (nomark _) (x_callG (ps := ["pot", "upto"]) (by exact ⟨rfl, rfl, rfl, rfl, rfl, hgu⟩) (by have h := ok__law_take T; exact h) (by exact hr) (by decide) (by exact takes_of rfl rfl rfl rfl) (a_cons (x_v 0) (a_cons x_int a_nil))) x_int) (x_tup (a_cons x_int (a_cons x_int a_nil))) (x_callG (ps := ["top", "bottom"]) (by exact ⟨rfl, rfl, rfl, rfl, rfl, hgu⟩) (by have h := ok__law_frac T; exact h) (by exact hr) (by decide) (by exact takes_of rfl rfl rfl rfl) (a_cons (x_op op_addA o_add x_int (x_cty call_int1 o_int1 (by exact T.n_int) PyProof.Rows.Boot.«int» (a_cons (x_callG (ps := ["pot", "upto"]) (by exact ⟨rfl, rfl, rfl, rfl, rfl, hgu⟩) (by have h := ok__law_take T; exact h) (by exact hr) (by decide) (by exact takes_of rfl rfl rfl rfl) (a_cons (x_v 0) (a_cons x_int a_nil))) a_nil))) (a_cons (x_op op_addA o_add x_int (x_cty call_int1 o_int1 (by exact T.n_int) PyProof.Rows.Boot.«int» (a_cons (x_callG (ps := ["pot", "upto"]) (by exact ⟨rfl, rfl, rfl, rfl, rfl, hgu⟩) (by have h := ok__law_take T; exact h) (by exact hr) (by decide) (by exact takes_of rfl rfl rfl rfl) (a_cons (x_v 0) (a_cons x_int a_nil))) a_nil))) a_nil))))))
theorem ok__law_is_seating (T : Txt g D fI fdI) : CalG g 2 "_law_is_seating" s__law_is_seating ["stock", "value"] F__law_is_seating := by
  have nd := sc__law_is_seating.nd
  obtain ⟨f, fd, FA⟩ := T.f__law_is_seating
  exact cal_ok FA sc__law_is_seating (fun cdv A outer s H E hr hgu => ss_cons (s_if (y_w (w_or (y_not (y_val (x_cb call_isiP (by exact o_isi T.isC) (by exact T.n_isinstance) PyProof.Rows.Boot.«isinstance» (a_cons (x_v 1) (a_cons (x_bty (by exact T.n_tuple) PyProof.Rows.Boot.«tuple») a_nil))))) (w_or1 (y_cmp (by exact op_neB (hu64 hr)) o_ne (nomark _) (x_cb call_len_seq o_len (by exact T.n_len) PyProof.Rows.Boot.«len» (a_cons (x_v 1) a_nil)) (x_ix (by exact ix_A) (by exact o_ix) (by exact fun _ _ => rfl) (x_v 0) x_int))))) (ss_one (s_ret x_bl)) ss_nil) (ss_cons (s_if (y_not (y_val (x_cb (by exact cr_all rfl) o_all (by exact T.n_all) PyProof.Rows.Boot.«all» (a_cons (x_lcT (own := [("part", 2)]) (by exact rfl) (by exact nd) (i_seq (by exact rfl) (x_v 1)) (blkOk_by (own := [("part", 2)]) (N := ["stock", "value", "part"]) (sc := defScope s__law_is_seating) (by decide +kernel)) (fun _ _ _ _ _ => c_name (i := 2) (by exact nd)) (fun _ _ _ _ _ => z_nil) (fun _ _ _ _ _ => x_callG (ps := ["value", "low", "high"]) (by exact ⟨rfl, rfl, rfl, rfl, rfl, hgu⟩) (by have h := ok__law_is_int T; exact h) (by exact hr) (by decide) (by exact takes0) (a_cons (x_v 2) (a_cons x_int (a_cons (x_op op_sub o_sub (x_cb call_len_seq o_len (by exact T.n_len) PyProof.Rows.Boot.«len» (a_cons (x_ix (by exact ix_A) (by exact o_ix) (by exact fun _ _ => rfl) (x_v 0) x_int) a_nil)) x_int) a_nil))))) a_nil)))) (ss_one (s_ret x_bl)) ss_nil) (ss_one (s_ret (x_cmp (by exact op_eqB (hu64 hr)) o_eq (nomark _) (x_lenSet (by exact rfl) (by exact rfl) (by exact T.n_len) (by exact T.n_set) (x_cty call_list_of o_listT (by exact T.n_list) PyProof.Rows.Boot.«list» (a_cons (x_v 1) a_nil))) (x_cb call_len_seq o_len (by exact T.n_len) PyProof.Rows.Boot.«len» (a_cons (x_v 1) a_nil)))))))
theorem ok__law_is_leg (T : Txt g D fI fdI) : CalG g 3 "_law_is_leg" s__law_is_leg ["stock", "value"] F__law_is_leg := by
  have nd := sc__law_is_leg.nd
  obtain ⟨f, fd, FA⟩ := T.f__law_is_leg
  exact cal_ok FA sc__law_is_leg (fun cdv A outer s H E hr hgu => ss_cons (s_if (y_w (w_or (y_not (y_val (x_cb call_isiP (by exact o_isi T.isC) (by exact T.n_isinstance) PyProof.Rows.Boot.«isinstance» (a_cons (x_v 1) (a_cons (x_bty (by exact T.n_tuple) PyProof.Rows.Boot.«tuple») a_nil))))) (w_or (y_cmp (by exact op_neB (hu64 hr)) o_ne (nomark _) (x_cb call_len_seq o_len (by exact T.n_len) PyProof.Rows.Boot.«len» (a_cons (x_v 1) a_nil)) x_int) (w_or (y_not (y_val (x_callG (ps := ["value"]) (by exact ⟨rfl, rfl, rfl, rfl, rfl, hgu⟩) (by have h := ok__law_is_exact T; exact h) (by exact hr) (by decide) (by exact takes_of rfl rfl rfl rfl) (a_cons (x_ix (by exact ix_A) (by exact o_ix) (by exact fun _ _ => rfl) (x_v 1) x_int) a_nil)))) (w_or1 (y_cmp op_lt (o_cmpI _) (nomark _) (x_ix (by exact ix_A) (by exact o_ix) (by exact fun _ _ => rfl) (x_ix (by exact ix_A) (by exact o_ix) (by exact fun _ _ => rfl) (x_v 1) x_int) x_int) x_int)))))) (ss_one (s_ret x_bl)) ss_nil) (ss_one (s_ret (x_callG (ps := ["stock", "value"]) (by exact ⟨rfl, rfl, rfl, rfl, rfl, hgu⟩) (by have h := ok__law_is_seating T; exact h) (by exact hr) (by decide) (by exact takes_of rfl rfl rfl rfl) (a_cons (x_v 0) (a_cons (x_ix (by exact ix_A) (by exact o_ix) (by exact fun _ _ => rfl) (x_v 1) x_int) a_nil))))))
theorem ok__law_is_plan (T : Txt g D fI fdI) : CalG g 4 "_law_is_plan" s__law_is_plan ["stock", "value"] F__law_is_plan := by
  have nd := sc__law_is_plan.nd
  obtain ⟨f, fd, FA⟩ := T.f__law_is_plan
  exact cal_ok FA sc__law_is_plan (fun cdv A outer s H E hr hgu => ss_one (s_ret (x_and (x_cb call_isiP (by exact o_isi T.isC) (by exact T.n_isinstance) PyProof.Rows.Boot.«isinstance» (a_cons (x_v 1) (a_cons (x_bty (by exact T.n_tuple) PyProof.Rows.Boot.«tuple») a_nil))) (x_and (x_cmp op_le (o_cmpI _) (nomark _) (x_cb call_len_seq o_len (by exact T.n_len) PyProof.Rows.Boot.«len» (a_cons (x_v 1) a_nil)) x_int) (x_one (x_cb (by exact cr_all rfl) o_all (by exact T.n_all) PyProof.Rows.Boot.«all» (a_cons (x_lcT (own := [("leg", 2)]) (by exact rfl) (by exact nd) (i_seq (by exact rfl) (x_v 1)) (blkOk_by (own := [("leg", 2)]) (N := ["stock", "value", "leg"]) (sc := defScope s__law_is_plan) (by decide +kernel)) (fun _ _ _ _ _ => c_name (i := 2) (by exact nd)) (fun _ _ _ _ _ => z_nil) (fun _ _ _ _ _ => x_callG (ps := ["stock", "value"]) (by exact ⟨rfl, rfl, rfl, rfl, rfl, hgu⟩) (by have h := ok__law_is_leg T; exact h) (by exact hr) (by decide) (by exact takes0) (a_cons (x_v 0) (a_cons (x_v 2) a_nil)))) a_nil)))))))
theorem ok__law_way (T : Txt g D fI fdI) : CalG g 4 "_law_way" s__law_way ["plan"] F__law_way := by
  have nd := sc__law_way.nd
  obtain ⟨f, fd, FA⟩ := T.f__law_way
  exact cal_ok FA sc__law_way (fun cdv A outer s H E hr hgu => ss_one (s_ret (x_callG (ps := ["some"]) (by exact ⟨rfl, rfl, rfl, rfl, rfl, hgu⟩) (by have h := ok__law_sum T; exact h) (by exact hr) (by decide) (by exact takes_of rfl rfl rfl rfl) (a_cons (x_lcT (own := [("leg", 1)]) (by exact rfl) (by exact nd) (i_seq (by exact rfl) (x_v 0)) (blkOk_by (own := [("leg", 1)]) (N := ["plan", "leg"]) (sc := defScope s__law_way) (by decide +kernel)) (fun _ _ _ _ _ => c_name (i := 1) (by exact nd)) (fun _ _ _ _ _ => z_nil) (fun _ _ _ _ _ => x_ix (by exact ix_A) (by exact o_ix) (by exact fun _ _ => rfl) (x_v 1) x_int)) a_nil))))
theorem ok__law_table (T : Txt g D fI fdI) : CalG g 3 "_law_table" s__law_table ["stock", "plan"] F__law_table := by
  have nd := sc__law_table.nd
  obtain ⟨f, fd, FA⟩ := T.f__law_table
  exact cal_ok FA sc__law_table (fun cdv A outer s H E hr hgu => ss_cons (s_setLcT (i := 2) (own := [("part", 6)]) (by exact rfl) (by exact nd) (i_seq (by exact rfl) (x_ix (by exact ix_A) (by exact o_ix) (by exact fun _ _ => rfl) (x_v 0) x_int)) (blkOk_by (own := [("part", 6)]) (N := ["stock", "plan", "found", "way", "seating", "place", "part", "row"]) (sc := defScope s__law_table) (by decide +kernel)) (fun _ _ _ _ _ => c_name (i := 6) (by exact nd)) (fun _ _ _ _ _ => z_nil) (fun _ _ _ _ _ => x_mulL (x_lstT (a_cons (x_tup (a_cons x_int (a_cons x_int a_nil))) a_nil)) (x_ix (by exact ix_A) (by exact o_ix) (by exact fun _ _ => rfl) (x_v 0) x_int))) (ss_cons (s_for (by exact passes_of rfl) (by exact rfl) (i_seq (by exact rfl) (x_v 1)) (g_tup (n := 2) (by exact rfl) (by exact rfl) (gs_cons (g_name (i := 3) (by exact nd)) (gs_cons (g_name (i := 4) (by exact nd)) gs_nil))) (ss_one (s_for (by exact passes_of rfl) (by exact rfl) (i_enumA (by exact rfl) (by exact T.n_enumerate) (a_cons (x_v 4) a_nil)) (g_tup (n := 2) (by exact rfl) (by exact rfl) (gs_cons (g_name (i := 5) (by exact nd)) (gs_cons (g_name (i := 6) (by exact nd)) gs_nil))) (ss_one (s_asg (x_callG (ps := ["one", "other"]) (by exact ⟨rfl, rfl, rfl, rfl, rfl, hgu⟩) (by have h := ok__law_plus T; exact h) (by exact hr) (by decide) (by exact takes_of rfl rfl rfl rfl) (a_cons (x_ix (by exact ix_A) (by exact o_ix) (by exact fun _ _ => rfl) (x_ix (by exact ix_A) (by exact o_ix) (by exact fun _ _ => rfl) (x_v 2) (x_v 6)) (x_v 5)) (a_cons (x_v 3) a_nil))) (g_sub (W := fun _ _ _ _ => False) (x_ix (by exact ix_A) (by exact o_ix) (by exact fun _ _ => rfl) (x_v 2) (x_v 6)) (x_v 5))))))) (ss_one (s_ret (x_cty call_tuple_of o_tuple (by exact T.n_tuple) PyProof.Rows.Boot.«tuple» (a_cons (x_lcT (own := [("row", 7)]) (by exact rfl) (by exact nd) (i_seq (by exact rfl) (x_v 2)) (blkOk_by (own := [("row", 7)]) (N := ["stock", "plan", "found", "way", "seating", "place", "part", "row"]) (sc := defScope s__law_table) (by decide +kernel)) (fun _ _ _ _ _ => c_name (i := 7) (by exact nd)) (fun _ _ _ _ _ => z_nil) (fun _ _ _ _ _ => x_cty call_tuple_of o_tuple (by exact T.n_tuple) PyProof.Rows.Boot.«tuple» (a_cons (x_v 7) a_nil))) a_nil))))))
theorem ok__law_worn (T : Txt g D fI fdI) : CalG g 4 "_law_worn" s__law_worn ["stock", "table"] F__law_worn := by
  have nd := sc__law_worn.nd
  obtain ⟨f, fd, FA⟩ := T.f__law_worn
  exact cal_ok FA sc__law_worn (fun cdv A outer s H E hr hgu => ss_cons (s_set (i := 2) (by exact nd) (x_lst a_nil)) (ss_cons (s_for (by exact passes_of rfl) (by exact rfl) (i_enumA (by exact rfl) (by exact T.n_enumerate) (a_cons (x_v 1) a_nil)) (g_tup (n := 2) (by exact rfl) (by exact rfl) (gs_cons (g_name (i := 3) (by exact nd)) (gs_cons (g_name (i := 4) (by exact nd)) gs_nil))) (ss_one (s_expr (x_append (by exact rfl) (x_v 2) (x_callG (ps := ["some"]) (by exact ⟨rfl, rfl, rfl, rfl, rfl, hgu⟩) (by have h := ok__law_sum T; exact h) (by exact hr) (by decide) (by exact takes_of rfl rfl rfl rfl) (a_cons (x_lcT (own := [("place", 5), ("way", 6)]) (by exact rfl) (by exact nd) (i_enumA (by exact rfl) (by exact T.n_enumerate) (a_cons (x_v 4) a_nil)) (blkOk_by (own := [("place", 5), ("way", 6)]) (N := ["stock", "table", "found", "part", "row", "place", "way"]) (sc := defScope s__law_worn) (by decide +kernel)) (fun _ _ _ _ _ => c_tup (n := 2) (by exact rfl) (by exact rfl) (cs_cons (c_name (i := 5) (by exact nd)) (cs_cons (c_name (i := 6) (by exact nd)) cs_nil))) (fun _ _ _ _ _ => z_nil) (fun _ _ _ _ _ => x_callG (ps := ["one", "other"]) (by exact ⟨rfl, rfl, rfl, rfl, rfl, hgu⟩) (by have h := ok__law_times T; exact h) (by exact hr) (by decide) (by exact takes0) (a_cons (x_ix (by exact ix_A) (by exact o_ix) (by exact fun _ _ => rfl) (x_ix (by exact ix_A) (by exact o_ix) (by exact fun _ _ => rfl) (x_ix (by exact ix_A) (by exact o_ix) (by exact fun _ _ => rfl) (x_ix (by exact ix_A) (by exact o_ix) (by exact fun _ _ => rfl) (x_v 0) x_int) (x_v 3)) x_int) (x_v 5)) (a_cons (x_v 6) a_nil)))) a_nil)))))) (ss_one (s_ret (x_v 2)))))
theorem ok__law_serves (T : Txt g D fI fdI) : CalG g 5 "_law_serves" s__law_serves ["stock", "plan"] F__law_serves := by
  have nd := sc__law_serves.nd
  obtain ⟨f, fd, FA⟩ := T.f__law_serves
  exact cal_ok FA sc__law_serves (fun cdv A outer s H E hr hgu => ss_cons (s_set (i := 2) (by exact nd) (x_callG (ps := ["stock", "table"]) (by exact ⟨rfl, rfl, rfl, rfl, rfl, hgu⟩) (by have h := ok__law_worn T; exact h) (by exact hr) (by decide) (by exact takes_of rfl rfl rfl rfl) (a_cons (x_v 0) (a_cons (x_callG (ps := ["stock", "plan"]) (by exact ⟨rfl, rfl, rfl, rfl, rfl, hgu⟩) (by have h := ok__law_table T; exact h) (by exact hr) (by decide) (by exact takes_of rfl rfl rfl rfl) (a_cons (x_v 0) (a_cons (x_v 1) a_nil))) a_nil)))) (ss_one (s_ret (x_not (x_cb (by exact cr_any rfl) o_any (by exact T.n_any) PyProof.Rows.Boot.«any» (a_cons (x_lcT (own := [("part", 3), ("one", 4)]) (by exact rfl) (by exact nd) (i_enumA (by exact rfl) (by exact T.n_enumerate) (a_cons (x_v 2) a_nil)) (blkOk_by (own := [("part", 3), ("one", 4)]) (N := ["stock", "plan", "worn", "part", "one"]) (sc := defScope s__law_serves) (by decide +kernel)) (fun _ _ _ _ _ => c_tup (n := 2) (by exact rfl) (by exact rfl) (cs_cons (c_name (i := 3) (by exact nd)) (cs_cons (c_name (i := 4) (by exact nd)) cs_nil))) (fun _ _ _ _ _ => z_nil) (fun _ _ _ _ _ => x_callG (ps := ["one", "other"]) (by exact ⟨rfl, rfl, rfl, rfl, rfl, hgu⟩) (by have h := ok__law_is_less T; exact h) (by exact hr) (by decide) (by exact takes0) (a_cons (x_ix (by exact ix_A) (by exact o_ix) (by exact fun _ _ => rfl) (x_ix (by exact ix_A) (by exact o_ix) (by exact fun _ _ => rfl) (x_ix (by exact ix_A) (by exact o_ix) (by exact fun _ _ => rfl) (x_v 0) x_int) (x_v 3)) x_int) (a_cons (x_v 4) a_nil)))) a_nil))))))
theorem ok__law_do_bar (T : Txt g D fI fdI) : CalG g 4 "_law_do_bar" s__law_do_bar ["stock", "bars", "value"] F__law_do_bar := by
  have nd := sc__law_do_bar.nd
  obtain ⟨f, fd, FA⟩ := T.f__law_do_bar
  exact cal_ok FA sc__law_do_bar (fun cdv A outer s H E hr hgu => ss_cons (s_if (y_w (w_or (y_not (y_val (x_cb call_isiP (by exact o_isi T.isC) (by exact T.n_isinstance) PyProof.Rows.Boot.«isinstance» (a_cons (x_v 2) (a_cons (x_bty (by exact T.n_tuple) PyProof.Rows.Boot.«tuple») a_nil))))) (w_or1 (y_cmp (by exact op_neB (hu64 hr)) o_ne (nomark _) (x_cb call_len_seq o_len (by exact T.n_len) PyProof.Rows.Boot.«len» (a_cons (x_v 2) a_nil)) x_int)))) (ss_one (s_ret x_bl)) ss_nil) (ss_cons (s_for (by exact passes_of rfl) (by exact rfl) (i_zipB (by exact rfl) (by exact T.n_zip) (a_cons (x_v 2) (a_cons (x_lstT (a_cons (x_ix (by exact ix_A) (by exact o_ix) (by exact fun _ _ => rfl) (x_v 0) x_int) (a_cons (x_cb call_len_seq o_len (by exact T.n_len) PyProof.Rows.Boot.«len» (a_cons (x_ix (by exact ix_A) (by exact o_ix) (by exact fun _ _ => rfl) (x_v 0) x_int) a_nil)) (a_cons (x_cb call_len_seq o_len (by exact T.n_len) PyProof.Rows.Boot.«len» (a_cons (x_ix (by exact ix_A) (by exact o_ix) (by exact fun _ _ => rfl) (x_v 0) x_int) a_nil)) a_nil)))) a_nil))) (g_tup (n := 2) (by exact rfl) (by exact rfl) (gs_cons (g_name (i := 3) (by exact nd)) (gs_cons (g_name (i := 4) (by exact nd)) gs_nil))) (ss_one (s_if (y_w (w_or (y_not (y_val (x_cb call_isiP (by exact o_isi T.isC) (by exact T.n_isinstance) PyProof.Rows.Boot.«isinstance» (a_cons (x_v 3) (a_cons (x_bty (by exact T.n_tuple) PyProof.Rows.Boot.«tuple») a_nil))))) (w_or (y_cmp (by exact op_neB (hu64 hr)) o_ne (nomark _) (x_cb call_len_seq o_len (by exact T.n_len) PyProof.Rows.Boot.«len» (a_cons (x_v 3) a_nil)) (x_v 4)) (w_or1 (y_not (y_val (x_cb (by exact cr_all rfl) o_all (by exact T.n_all) PyProof.Rows.Boot.«all» (a_cons (x_lcT (own := [("one", 10)]) (by exact rfl) (by exact nd) (i_seq (by exact rfl) (x_v 3)) (blkOk_by (own := [("one", 10)]) (N := ["stock", "bars", "value", "row", "many", "part", "life", "wears", "place", "due", "one"]) (sc := defScope s__law_do_bar) (by decide +kernel)) (fun _ _ _ _ _ => c_name (i := 10) (by exact nd)) (fun _ _ _ _ _ => z_nil) (fun _ _ _ _ _ => x_callG (ps := ["value"]) (by exact ⟨rfl, rfl, rfl, rfl, rfl, hgu⟩) (by have h := ok__law_is_share T; exact h) (by exact hr) (by decide) (by exact takes0) (a_cons (x_v 10) a_nil))) a_nil)))))))) (ss_one (s_ret x_bl)) ss_nil))) (ss_cons (s_for (by exact passes_of rfl) (by exact rfl) (i_enumA (by exact rfl) (by exact T.n_enumerate) (a_cons (x_ix (by exact ix_A) (by exact o_ix) (by exact fun _ _ => rfl) (x_v 0) x_int) a_nil)) (g_tup (n := 2) (by exact rfl) (by exact rfl) (gs_cons (g_name (i := 5) (by exact nd)) (gs_cons (g_tup (n := 2) (by exact rfl) (by exact rfl) (gs_cons (g_name (i := 6) (by exact nd)) (gs_cons (g_name (i := 7) (by exact nd)) gs_nil))) gs_nil))) (ss_one (s_for (by exact passes_of rfl) (by exact rfl) (i_range1 (by exact T.n_range) (a_cons (x_ix (by exact ix_A) (by exact o_ix) (by exact fun _ _ => rfl) (x_v 0) x_int) a_nil)) (g_name (i := 8) (by exact nd)) (ss_cons (s_set (i := 9) (by exact nd) (x_callG (ps := ["one", "other"]) (by exact ⟨rfl, rfl, rfl, rfl, rfl, hgu⟩) (by have h := ok__law_plus T; exact h) (by exact hr) (by decide) (by exact takes_of rfl rfl rfl rfl) (a_cons (x_ix (by exact ix_A) (by exact o_ix) (by exact fun _ _ => rfl) (x_ix (by exact ix_A) (by exact o_ix) (by exact fun _ _ => rfl) (x_v 2) x_int) (x_v 5)) (a_cons (x_callG (ps := ["one", "other"]) (by exact ⟨rfl, rfl, rfl, rfl, rfl, hgu⟩) (by have h := ok__law_times T; exact h) (by exact hr) (by decide) (by exact takes_of rfl rfl rfl rfl) (a_cons (x_ix (by exact ix_A) (by exact o_ix) (by exact fun _ _ => rfl) (x_ix (by exact ix_A) (by exact o_ix) (by exact fun _ _ => rfl) (x_v 2) x_int) (x_v 5)) (a_cons (x_ix (by exact ix_A) (by exact o_ix) (by exact fun _ _ => rfl) (x_v 7) (x_v 8)) a_nil))) a_nil)))) (ss_one (s_if (y_w (w_and (y_cmp (by exact op_notIn2 (hu65 hr)) o_notIn2 (by with_unfolding_all rfl) (x_tup (a_cons (x_v 5) (a_cons (x_v 8) a_nil))) (x_v 1)) (w_and1 (y_val (x_callG (ps := ["one", "other"]) (by exact ⟨rfl, rfl, rfl, rfl, rfl, hgu⟩) (by have h := ok__law_is_less T; exact h) (by exact hr) (by decide) (by exact takes_of rfl rfl rfl rfl) (a_cons (x_v 9) (a_cons (x_ix (by exact ix_A) (by exact o_ix) (by exact fun _ _ => rfl) (x_ix (by exact ix_A) (by exact o_ix) (by exact fun _ _ => rfl) (x_v 2) x_int) (x_v 8)) a_nil))))))) (ss_one (s_ret x_bl)) ss_nil)))))) (ss_one (s_ret (x_not (x_callG (ps := ["one", "other"]) (by exact ⟨rfl, rfl, rfl, rfl, rfl, hgu⟩) (by have h := ok__law_is_less T; exact h) (by exact hr) (by decide) (by exact takes_of rfl rfl rfl rfl) (a_cons (x_callG (ps := ["some"]) (by exact ⟨rfl, rfl, rfl, rfl, rfl, hgu⟩) (by have h := ok__law_sum T; exact h) (by exact hr) (by decide) (by exact takes_of rfl rfl rfl rfl) (a_cons (x_cty call_list_of o_listT (by exact T.n_list) PyProof.Rows.Boot.«list» (a_cons (x_ix (by exact ix_A) (by exact o_ix) (by exact fun _ _ => rfl) (x_v 2) x_int) a_nil)) a_nil)) (a_cons (x_callG (ps := ["one", "other"]) (by exact ⟨rfl, rfl, rfl, rfl, rfl, hgu⟩) (by have h := ok__law_plus T; exact h) (by exact hr) (by decide) (by exact takes_of rfl rfl rfl rfl) (a_cons (x_callG (ps := ["some"]) (by exact ⟨rfl, rfl, rfl, rfl, rfl, hgu⟩) (by have h := ok__law_sum T; exact h) (by exact hr) (by decide) (by exact takes_of rfl rfl rfl rfl) (a_cons (x_cty call_list_of o_listT (by exact T.n_list) PyProof.Rows.Boot.«list» (a_cons (x_ix (by exact ix_A) (by exact o_ix) (by exact fun _ _ => rfl) (x_v 2) x_int) a_nil)) a_nil)) (a_cons (x_tup (a_cons x_int (a_cons x_int a_nil))) a_nil))) a_nil)))))))))
theorem ok__law_bound (T : Txt g D fI fdI) : CalG g 4 "_law_bound" s__law_bound ["stock", "prices"] F__law_bound := by
  have nd := sc__law_bound.nd
  obtain ⟨f, fd, FA⟩ := T.f__law_bound
  exact cal_ok FA sc__law_bound (fun cdv A outer s H E hr hgu => ss_one (s_ret (x_callG (ps := ["some"]) (by exact ⟨rfl, rfl, rfl, rfl, rfl, hgu⟩) (by have h := ok__law_sum T; exact h) (by exact hr) (by decide) (by exact takes_of rfl rfl rfl rfl) (a_cons (x_lcT (own := [("part", 2), ("one", 3)]) (by exact rfl) (by exact nd) (i_enumA (by exact rfl) (by exact T.n_enumerate) (a_cons (x_ix (by exact ix_A) (by exact o_ix) (by exact fun _ _ => rfl) (x_v 1) x_int) a_nil)) (blkOk_by (own := [("part", 2), ("one", 3)]) (N := ["stock", "prices", "part", "one"]) (sc := defScope s__law_bound) (by decide +kernel)) (fun _ _ _ _ _ => c_tup (n := 2) (by exact rfl) (by exact rfl) (cs_cons (c_name (i := 2) (by exact nd)) (cs_cons (c_name (i := 3) (by exact nd)) cs_nil))) (fun _ _ _ _ _ => z_nil) (fun _ _ _ _ _ => x_callG (ps := ["one", "other"]) (by exact ⟨rfl, rfl, rfl, rfl, rfl, hgu⟩) (by have h := ok__law_times T; exact h) (by exact hr) (by decide) (by exact takes0) (a_cons (x_ix (by exact ix_A) (by exact o_ix) (by exact fun _ _ => rfl) (x_ix (by exact ix_A) (by exact o_ix) (by exact fun _ _ => rfl) (x_ix (by exact ix_A) (by exact o_ix) (by exact fun _ _ => rfl) (x_v 0) x_int) (x_v 2)) x_int) (a_cons (x_v 3) a_nil)))) a_nil))))
theorem ok__law_is_served (T : Txt g D fI fdI) : CalG g 6 "_law_is_served" s__law_is_served ["stock", "bars", "value"] F__law_is_served := by
  have nd := sc__law_is_served.nd
  obtain ⟨f, fd, FA⟩ := T.f__law_is_served
  exact cal_ok FA sc__law_is_served (fun cdv A outer s H E hr hgu => ss_cons (s_if (y_w (w_or (y_not (y_val (x_cb call_isiP (by exact o_isi T.isC) (by exact T.n_isinstance) PyProof.Rows.Boot.«isinstance» (a_cons (x_v 2) (a_cons (x_bty (by exact T.n_tuple) PyProof.Rows.Boot.«tuple») a_nil))))) (w_or (y_cmp (by exact op_notIn2 (hu65 hr)) o_notIn2 (by with_unfolding_all rfl) (x_cb call_len_seq o_len (by exact T.n_len) PyProof.Rows.Boot.«len» (a_cons (x_v 2) a_nil)) (x_tup (a_cons x_int (a_cons x_int a_nil)))) (w_or1 (y_not (y_val (x_cb call_isiP (by exact o_isi T.isC) (by exact T.n_isinstance) PyProof.Rows.Boot.«isinstance» (a_cons (x_ix (by exact ix_A) (by exact o_ix) (by exact fun _ _ => rfl) (x_v 2) x_int) (a_cons (x_bty (by exact T.n_str) PyProof.Rows.Boot.«str») a_nil))))))))) (ss_one (s_ret x_bl)) ss_nil) (ss_cons (s_if (y_cmp (by exact op_eqB (hu64 hr)) o_eq (nomark _) (x_cb call_len_seq o_len (by exact T.n_len) PyProof.Rows.Boot.«len» (a_cons (x_v 2) a_nil)) x_int) (ss_cons (s_if (y_w (w_or (y_cmp (by exact op_neB (hu64 hr)) o_ne (nomark _) (x_ix (by exact ix_A) (by exact o_ix) (by exact fun _ _ => rfl) (x_v 2) x_int) x_str) (w_or1 (y_not (y_val (x_callG (ps := ["stock", "value"]) (by exact ⟨rfl, rfl, rfl, rfl, rfl, hgu⟩) (by have h := ok__law_is_seating T; exact h) (by exact hr) (by decide) (by exact takes_of rfl rfl rfl rfl) (a_cons (x_v 0) (a_cons (x_ix (by exact ix_A) (by exact o_ix) (by exact fun _ _ => rfl) (x_v 2) x_int) a_nil)))))))) (ss_one (s_ret x_bl)) ss_nil) (ss_cons (s_setLcT (i := 3) (own := [("place", 6), ("part", 7)]) (by exact rfl) (by exact nd) (i_enumA (by exact rfl) (by exact T.n_enumerate) (a_cons (x_ix (by exact ix_A) (by exact o_ix) (by exact fun _ _ => rfl) (x_v 2) x_int) a_nil)) (blkOk_by (own := [("place", 6), ("part", 7)]) (N := ["stock", "bars", "value", "pairs", "way", "seating", "place", "part", "pair"]) (sc := defScope s__law_is_served) (by decide +kernel)) (fun _ _ _ _ _ => c_tup (n := 2) (by exact rfl) (by exact rfl) (cs_cons (c_name (i := 6) (by exact nd)) (cs_cons (c_name (i := 7) (by exact nd)) cs_nil))) (fun _ _ _ _ _ => z_nil) (fun _ _ _ _ _ => x_tup (a_cons (x_v 7) (a_cons (x_v 6) a_nil)))) (ss_one (s_ret (x_not (x_cb (by exact cr_any rfl) o_any (by exact T.n_any) PyProof.Rows.Boot.«any» (a_cons (x_lcT (own := [("pair", 8)]) (by exact rfl) (by exact nd) (i_seq (by exact rfl) (x_v 3)) (blkOk_by (own := [("pair", 8)]) (N := ["stock", "bars", "value", "pairs", "way", "seating", "place", "part", "pair"]) (sc := defScope s__law_is_served) (by decide +kernel)) (fun _ _ _ _ _ => c_name (i := 8) (by exact nd)) (fun _ _ _ _ _ => z_nil) (fun _ _ _ _ _ => x_or (x_cmp (by exact op_in2 (hu65 hr)) o_in2 (by with_unfolding_all rfl) (x_v 8) (x_v 1)) (x_one (x_cmp (by exact op_neB (hu64 hr)) o_ne (nomark _) (x_ix (by exact ix_A) (by exact o_ix) (by exact fun _ _ => rfl) (x_ix (by exact ix_A) (by exact o_ix) (by exact fun _ _ => rfl) (x_ix (by exact ix_A) (by exact o_ix) (by exact fun _ _ => rfl) (x_ix (by exact ix_A) (by exact o_ix) (by exact fun _ _ => rfl) (x_v 0) x_int) (x_ix (by exact ix_A) (by exact o_ix) (by exact fun _ _ => rfl) (x_v 8) x_int)) x_int) (x_ix (by exact ix_A) (by exact o_ix) (by exact fun _ _ => rfl) (x_v 8) x_int)) (x_tup (a_cons x_int (a_cons x_int a_nil))))))) a_nil))))))) ss_nil) (ss_cons (s_if (y_w (w_or (y_cmp (by exact op_neB (hu64 hr)) o_ne (nomark _) (x_ix (by exact ix_A) (by exact o_ix) (by exact fun _ _ => rfl) (x_v 2) x_int) x_str) (w_or (y_not (y_val (x_callG (ps := ["value"]) (by exact ⟨rfl, rfl, rfl, rfl, rfl, hgu⟩) (by have h := ok__law_is_exact T; exact h) (by exact hr) (by decide) (by exact takes_of rfl rfl rfl rfl) (a_cons (x_ix (by exact ix_A) (by exact o_ix) (by exact fun _ _ => rfl) (x_v 2) x_int) a_nil)))) (w_or1 (y_not (y_val (x_callG (ps := ["stock", "value"]) (by exact ⟨rfl, rfl, rfl, rfl, rfl, hgu⟩) (by have h := ok__law_is_plan T; exact h) (by exact hr) (by decide) (by exact takes_of rfl rfl rfl rfl) (a_cons (x_v 0) (a_cons (x_ix (by exact ix_A) (by exact o_ix) (by exact fun _ _ => rfl) (x_v 2) x_int) a_nil))))))))) (ss_one (s_ret x_bl)) ss_nil) (ss_cons (s_for (by exact passes_of rfl) (by exact rfl) (i_seq (by exact rfl) (x_ix (by exact ix_A) (by exact o_ix) (by exact fun _ _ => rfl) (x_v 2) x_int)) (g_tup (n := 2) (by exact rfl) (by exact rfl) (gs_cons (g_name (i := 4) (by exact nd)) (gs_cons (g_name (i := 5) (by exact nd)) gs_nil))) (ss_one (s_if (y_val (x_cb (by exact cr_any rfl) o_any (by exact T.n_any) PyProof.Rows.Boot.«any» (a_cons (x_lcT (own := [("place", 6), ("part", 7)]) (by exact rfl) (by exact nd) (i_enumA (by exact rfl) (by exact T.n_enumerate) (a_cons (x_v 5) a_nil)) (blkOk_by (own := [("place", 6), ("part", 7)]) (N := ["stock", "bars", "value", "pairs", "way", "seating", "place", "part", "pair"]) (sc := defScope s__law_is_served) (by decide +kernel)) (fun _ _ _ _ _ => c_tup (n := 2) (by exact rfl) (by exact rfl) (cs_cons (c_name (i := 6) (by exact nd)) (cs_cons (c_name (i := 7) (by exact nd)) cs_nil))) (fun _ _ _ _ _ => z_nil) (fun _ _ _ _ _ => x_cmp (by exact op_in2 (hu65 hr)) o_in2 (by with_unfolding_all rfl) (x_tup (a_cons (x_v 7) (a_cons (x_v 6) a_nil))) (x_v 1))) a_nil))) (ss_one (s_ret x_bl)) ss_nil))) (ss_cons (s_if (y_w (w_or (y_cmp (by exact op_neB (hu64 hr)) o_ne (nomark _) (x_callG (ps := ["plan"]) (by exact ⟨rfl, rfl, rfl, rfl, rfl, hgu⟩) (by have h := ok__law_way T; exact h) (by exact hr) (by decide) (by exact takes_of rfl rfl rfl rfl) (a_cons (x_ix (by exact ix_A) (by exact o_ix) (by exact fun _ _ => rfl) (x_v 2) x_int) a_nil)) (x_ix (by exact ix_A) (by exact o_ix) (by exact fun _ _ => rfl) (x_v 2) x_int)) (w_or1 (y_not (y_val (x_callG (ps := ["stock", "plan"]) (by exact ⟨rfl, rfl, rfl, rfl, rfl, hgu⟩) (by have h := ok__law_serves T; exact h) (by exact hr) (by decide) (by exact takes_of rfl rfl rfl rfl) (a_cons (x_v 0) (a_cons (x_ix (by exact ix_A) (by exact o_ix) (by exact fun _ _ => rfl) (x_v 2) x_int) a_nil)))))))) (ss_one (s_ret x_bl)) ss_nil) (ss_one (s_ret (x_and (x_callG (ps := ["stock", "bars", "value"]) (by exact ⟨rfl, rfl, rfl, rfl, rfl, hgu⟩) (by have h := ok__law_do_bar T; exact h) (by exact hr) (by decide) (by exact takes_of rfl rfl rfl rfl) (a_cons (x_v 0) (a_cons (x_v 1) (a_cons (x_ix (by exact ix_A) (by exact o_ix) (by exact fun _ _ => rfl) (x_v 2) x_int) a_nil)))) (x_one (x_cmp (by exact op_eqB (hu64 hr)) o_eq (nomark _) (x_callG (ps := ["stock", "prices"]) (by exact ⟨rfl, rfl, rfl, rfl, rfl, hgu⟩) (by have h := ok__law_bound T; exact h) (by exact hr) (by decide) (by exact takes_of rfl rfl rfl rfl) (a_cons (x_v 0) (a_cons (x_ix (by exact ix_A) (by exact o_ix) (by exact fun _ _ => rfl) (x_v 2) x_int) a_nil))) (x_ix (by exact ix_A) (by exact o_ix) (by exact fun _ _ => rfl) (x_v 2) x_int)))))))))))
theorem ok__law_greatest (T : Txt g D fI fdI) : CalG g 2 "_law_greatest" s__law_greatest ["some"] F__law_greatest := by
  have nd := sc__law_greatest.nd
  obtain ⟨f, fd, FA⟩ := T.f__law_greatest
  exact cal_ok FA sc__law_greatest (fun cdv A outer s H E hr hgu => ss_cons (s_set (i := 1) (by exact nd) (x_ix (by exact ix_A) (by exact o_ix) (by exact fun _ _ => rfl) (x_v 0) x_int)) (ss_cons (s_for (by exact passes_of rfl) (by exact rfl) (i_seq (by exact rfl) (x_v 0)) (g_name (i := 2) (by exact nd)) (ss_one (s_set (i := 1) (by exact nd) (x_ifExp (y_val (x_callG (ps := ["one", "other"]) (by exact ⟨rfl, rfl, rfl, rfl, rfl, hgu⟩) (by have h := ok__law_is_less T; exact h) (by exact hr) (by decide) (by exact takes_of rfl rfl rfl rfl) (a_cons (x_v 1) (a_cons (x_v 2) a_nil)))) (x_v 2) (x_v 1))))) (ss_one (s_ret (x_v 1)))))
theorem ok__law_are_like_right (T : Txt g D fI fdI) : CalG g 9 "_law_are_like_right" s__law_are_like_right ["wears", "many", "life"] F__law_are_like_right := by
  have nd := sc__law_are_like_right.nd
  obtain ⟨f, fd, FA⟩ := T.f__law_are_like_right
  exact cal_ok FA sc__law_are_like_right (fun cdv A outer s H E hr hgu => ss_cons (s_asg (x_tup (a_cons (x_tup (a_cons (x_cb call_len_seq o_len (by exact T.n_len) PyProof.Rows.Boot.«len» (a_cons (x_v 0) a_nil)) (a_cons (x_op op_mulA o_mul (x_tup (a_cons (x_tup (a_cons (x_v 2) (a_cons (x_v 0) a_nil))) a_nil)) (x_v 1)) a_nil))) (a_cons (x_callG (ps := ["some"]) (by exact ⟨rfl, rfl, rfl, rfl, rfl, hgu⟩) (by have h := ok__law_sum T; exact h) (by exact hr) (by decide) (by exact takes_of rfl rfl rfl rfl) (a_cons (x_cty call_list_of o_listT (by exact T.n_list) PyProof.Rows.Boot.«list» (a_cons (x_v 0) a_nil)) a_nil)) a_nil))) (g_tup (n := 2) (by exact rfl) (by exact rfl) (gs_cons (g_name (i := 3) (by exact nd)) (gs_cons (g_name (i := 4) (by exact nd)) gs_nil)))) (ss_cons (s_set (i := 5) (by exact nd) (x_callG (ps := ["one", "other"]) (by exact ⟨rfl, rfl, rfl, rfl, rfl, hgu⟩) (by have h := ok__law_over T; exact h) (by exact hr) (by decide) (by exact takes_of rfl rfl rfl rfl) (a_cons (x_callG (ps := ["one", "other"]) (by exact ⟨rfl, rfl, rfl, rfl, rfl, hgu⟩) (by have h := ok__law_times T; exact h) (by exact hr) (by decide) (by exact takes_of rfl rfl rfl rfl) (a_cons (x_tup (a_cons (x_v 1) (a_cons x_int a_nil))) (a_cons (x_v 2) a_nil))) (a_cons (x_v 4) a_nil)))) (ss_cons (s_if (y_w (w_or (y_cmp (by exact op_neB (hu64 hr)) o_ne (nomark _) (x_cb (by exact call_repr hgu (hu66 hr)) o_repr (by exact T.n_repr) PyProof.Rows.Boot.«repr» (a_cons (x_callGK (ps := ["wears", "many", "life"]) (ks := ["life"]) (a := 2) (b := 1) (ord := [0]) (by exact ⟨rfl, rfl, rfl, rfl, rfl, hgu⟩) (by have h := ok_stock_of T; exact h) (by exact hr) (by decide) (by exact takes_of rfl rfl rfl rfl) kb_stock_of_2_life (a_cons (x_v 0) (a_cons (x_v 1) a_nil)) (k_cons (x_v 2) k_nil)) a_nil)) (x_cb (by exact call_repr hgu (hu66 hr)) o_repr (by exact T.n_repr) PyProof.Rows.Boot.«repr» (a_cons (x_v 3) a_nil))) (w_or1 (y_cmp (by exact op_neB (hu64 hr)) o_ne (nomark _) (x_cb (by exact call_repr hgu (hu66 hr)) o_repr (by exact T.n_repr) PyProof.Rows.Boot.«repr» (a_cons (x_callGK (ps := ["wears", "many", "life"]) (ks := ["life"]) (a := 2) (b := 1) (ord := [0]) (by exact ⟨rfl, rfl, rfl, rfl, rfl, hgu⟩) (by have h := ok_round_way T; exact h) (by exact hr) (by decide) (by exact takes_of rfl rfl rfl rfl) kb_round_way_2_life (a_cons (x_v 0) (a_cons (x_v 1) a_nil)) (k_cons (x_v 2) k_nil)) a_nil)) (x_cb (by exact call_repr hgu (hu66 hr)) o_repr (by exact T.n_repr) PyProof.Rows.Boot.«repr» (a_cons (x_v 5) a_nil)))))) (ss_one (s_ret x_bl)) ss_nil) (ss_cons (s_par (i := 6) (j := 7) (by exact rfl) (by exact nd) (a_cons (x_callGK (ps := ["wears", "many", "life"]) (ks := ["life"]) (a := 2) (b := 1) (ord := [0]) (by exact ⟨rfl, rfl, rfl, rfl, rfl, hgu⟩) (by have h := ok_round_plan T; exact h) (by exact hr) (by decide) (by exact takes_of rfl rfl rfl rfl) kb_round_plan_2_life (a_cons (x_v 0) (a_cons (x_v 1) a_nil)) (k_cons (x_v 2) k_nil)) (a_cons (x_callG (ps := ["one", "other"]) (by exact ⟨rfl, rfl, rfl, rfl, rfl, hgu⟩) (by have h := ok__law_over T; exact h) (by exact hr) (by decide) (by exact takes_of rfl rfl rfl rfl) (a_cons (x_v 2) (a_cons (x_v 4) a_nil))) a_nil))) (ss_cons (s_set (i := 8) (by exact nd) (x_lst a_nil)) (ss_cons (s_for (by exact passes_of rfl) (by exact rfl) (i_range1 (by exact T.n_range) (a_cons (x_v 1) a_nil)) (g_name (i := 9) (by exact nd)) (ss_cons (s_set (i := 10) (by exact nd) (x_lcT (own := [("part", 14)]) (by exact rfl) (by exact nd) (i_range1 (by exact T.n_range) (a_cons (x_v 1) a_nil)) (blkOk_by (own := [("part", 14)]) (N := ["wears", "many", "life", "stock", "whole", "way", "plan", "leg", "due", "lap", "here", "prices", "one", "still", "part", "place", "wear"]) (sc := defScope s__law_are_like_right) (by decide +kernel)) (fun _ _ _ _ _ => c_name (i := 14) (by exact nd)) (fun _ _ _ _ _ => z_nil) (fun _ _ _ _ _ => x_op op_modN o_mod (x_op op_addA o_add (x_v 14) (x_v 9)) (x_v 1)))) (ss_one (s_expr (x_append (by exact rfl) (x_v 8) (x_tup (a_cons (x_v 7) (a_cons (x_cty call_tuple_of o_tuple (by exact T.n_tuple) PyProof.Rows.Boot.«tuple» (a_cons (x_lcT (own := [("place", 15)]) (by exact rfl) (by exact nd) (i_range1 (by exact T.n_range) (a_cons (x_cb call_len_seq o_len (by exact T.n_len) PyProof.Rows.Boot.«len» (a_cons (x_v 0) a_nil)) a_nil)) (blkOk_by (own := [("place", 15)]) (N := ["wears", "many", "life", "stock", "whole", "way", "plan", "leg", "due", "lap", "here", "prices", "one", "still", "part", "place", "wear"]) (sc := defScope s__law_are_like_right) (by decide +kernel)) (fun _ _ _ _ _ => c_name (i := 15) (by exact nd)) (fun _ _ _ _ _ => z_nil) (fun _ _ _ _ _ => x_index (by exact rfl) (by exact hu65 hr) (x_v 10) (x_v 15))) a_nil)) a_nil)))))))) (ss_cons (s_if (y_cmp (by exact op_neB (hu64 hr)) o_ne (nomark _) (x_cb (by exact call_repr hgu (hu66 hr)) o_repr (by exact T.n_repr) PyProof.Rows.Boot.«repr» (a_cons (x_v 6) a_nil)) (x_cb (by exact call_repr hgu (hu66 hr)) o_repr (by exact T.n_repr) PyProof.Rows.Boot.«repr» (a_cons (x_cty call_tuple_of o_tuple (by exact T.n_tuple) PyProof.Rows.Boot.«tuple» (a_cons (x_v 8) a_nil)) a_nil))) (ss_one (s_ret x_bl)) ss_nil) (ss_cons (s_set (i := 11) (by exact nd) (x_callGK (ps := ["wears", "many", "life"]) (ks := ["life"]) (a := 2) (b := 1) (ord := [0]) (by exact ⟨rfl, rfl, rfl, rfl, rfl, hgu⟩) (by have h := ok_round_prices T; exact h) (by exact hr) (by decide) (by exact takes_of rfl rfl rfl rfl) kb_round_prices_2_life (a_cons (x_v 0) (a_cons (x_v 1) a_nil)) (k_cons (x_v 2) k_nil))) (ss_cons (s_set (i := 12) (by exact nd) (x_callG (ps := ["one", "other"]) (by exact ⟨rfl, rfl, rfl, rfl, rfl, hgu⟩) (by have h := ok__law_over T; exact h) (by exact hr) (by decide) (by exact takes_of rfl rfl rfl rfl) (a_cons (x_tup (a_cons x_int (a_cons x_int a_nil))) (a_cons (x_v 4) a_nil)))) (ss_cons (s_if (y_cmp (by exact op_neB (hu64 hr)) o_ne (nomark _) (x_cb (by exact call_repr hgu (hu66 hr)) o_repr (by exact T.n_repr) PyProof.Rows.Boot.«repr» (a_cons (x_v 11) a_nil)) (x_cb (by exact call_repr hgu (hu66 hr)) o_repr (by exact T.n_repr) PyProof.Rows.Boot.«repr» (a_cons (x_tup (a_cons (x_cty call_tuple_of o_tuple (by exact T.n_tuple) PyProof.Rows.Boot.«tuple» (a_cons (x_lcT (own := [("wear", 16)]) (by exact rfl) (by exact nd) (i_seq (by exact rfl) (x_v 0)) (blkOk_by (own := [("wear", 16)]) (N := ["wears", "many", "life", "stock", "whole", "way", "plan", "leg", "due", "lap", "here", "prices", "one", "still", "part", "place", "wear"]) (sc := defScope s__law_are_like_right) (by decide +kernel)) (fun _ _ _ _ _ => c_name (i := 16) (by exact nd)) (fun _ _ _ _ _ => z_nil) (fun _ _ _ _ _ => x_callG (ps := ["one", "other"]) (by exact ⟨rfl, rfl, rfl, rfl, rfl, hgu⟩) (by have h := ok__law_over T; exact h) (by exact hr) (by decide) (by exact takes0) (a_cons (x_v 16) (a_cons (x_v 4) a_nil)))) a_nil)) (a_cons (x_op op_mulA o_mul (x_tup (a_cons (x_tup (a_cons x_int (a_cons x_int a_nil))) a_nil)) (x_v 1)) (a_cons (x_op op_mulA o_mul (x_tup (a_cons (x_v 12) a_nil)) (x_v 1)) a_nil)))) a_nil))) (ss_one (s_ret x_bl)) ss_nil) (ss_cons (s_if (y_not (y_val (x_callG (ps := ["stock", "bars", "value"]) (by exact ⟨rfl, rfl, rfl, rfl, rfl, hgu⟩) (by have h := ok__law_is_served T; exact h) (by exact hr) (by decide) (by exact takes_of rfl rfl rfl rfl) (a_cons (x_v 3) (a_cons (x_tup a_nil) (a_cons (x_tup (a_cons x_str (a_cons (x_v 5) (a_cons (x_v 6) (a_cons (x_v 11) a_nil))))) a_nil)))))) (ss_one (s_ret x_bl)) ss_nil) (ss_cons (s_set (i := 13) (by exact nd) (x_callG (ps := ["one", "other"]) (by exact ⟨rfl, rfl, rfl, rfl, rfl, hgu⟩) (by have h := ok__law_over T; exact h) (by exact hr) (by decide) (by exact takes_of rfl rfl rfl rfl) (a_cons (x_v 2) (a_cons (x_callG (ps := ["some"]) (by exact ⟨rfl, rfl, rfl, rfl, rfl, hgu⟩) (by have h := ok__law_greatest T; exact h) (by exact hr) (by decide) (by exact takes_of rfl rfl rfl rfl) (a_cons (x_cty call_list_of o_listT (by exact T.n_list) PyProof.Rows.Boot.«list» (a_cons (x_v 0) a_nil)) a_nil)) a_nil)))) (ss_cons (s_if (y_w (w_or (y_cmp (by exact op_neB (hu64 hr)) o_ne (nomark _) (x_cb (by exact call_repr hgu (hu66 hr)) o_repr (by exact T.n_repr) PyProof.Rows.Boot.«repr» (a_cons (x_callGK (ps := ["wears", "life"]) (ks := ["life"]) (a := 1) (b := 1) (ord := [0]) (by exact ⟨rfl, rfl, rfl, rfl, rfl, hgu⟩) (by have h := ok_unmoved_way T; exact h) (by exact hr) (by decide) (by exact takes_of rfl rfl rfl rfl) kb_unmoved_way_1_life (a_cons (x_v 0) a_nil) (k_cons (x_v 2) k_nil)) a_nil)) (x_cb (by exact call_repr hgu (hu66 hr)) o_repr (by exact T.n_repr) PyProof.Rows.Boot.«repr» (a_cons (x_v 13) a_nil))) (w_or1 (y_cmp (by exact op_neB (hu64 hr)) o_ne (nomark _) (x_cb (by exact call_repr hgu (hu66 hr)) o_repr (by exact T.n_repr) PyProof.Rows.Boot.«repr» (a_cons (x_callGK (ps := ["wears", "many", "life"]) (ks := ["life"]) (a := 2) (b := 1) (ord := [0]) (by exact ⟨rfl, rfl, rfl, rfl, rfl, hgu⟩) (by have h := ok_gain_of T; exact h) (by exact hr) (by decide) (by exact takes_of rfl rfl rfl rfl) kb_gain_of_2_life (a_cons (x_v 0) (a_cons (x_v 1) a_nil)) (k_cons (x_v 2) k_nil)) a_nil)) (x_cb (by exact call_repr hgu (hu66 hr)) o_repr (by exact T.n_repr) PyProof.Rows.Boot.«repr» (a_cons (x_callG (ps := ["one", "other"]) (by exact ⟨rfl, rfl, rfl, rfl, rfl, hgu⟩) (by have h := ok__law_less T; exact h) (by exact hr) (by decide) (by exact takes_of rfl rfl rfl rfl) (a_cons (x_v 5) (a_cons (x_v 13) a_nil))) a_nil)))))) (ss_one (s_ret x_bl)) ss_nil) (ss_one (s_ret (x_not (x_callG (ps := ["one", "other"]) (by exact ⟨rfl, rfl, rfl, rfl, rfl, hgu⟩) (by have h := ok__law_is_less T; exact h) (by exact hr) (by decide) (by exact takes_of rfl rfl rfl rfl) (a_cons (x_v 5) (a_cons (x_v 13) a_nil)))))))))))))))))))
theorem ok__law_are_all_refused (T : Txt g D fI fdI) : CalG g 12 "_law_are_all_refused" s__law_are_all_refused ["pot", "wears", "many"] F__law_are_all_refused := by
  have nd := sc__law_are_all_refused.nd
  obtain ⟨f, fd, cc, PP, FA, hcv, TB, hmT, huT⟩ := T.f__law_are_all_refused
  exact cal_okC (.ref cc) hcv FA sc__law_are_all_refused (fun fid A outer s H E hr hgu => ss_cons (s_set (i := 3) (by exact nd) (x_callG (ps := ["pot", "some"]) (by exact ⟨rfl, rfl, rfl, rfl, rfl, hgu⟩) (by have h := ok__law_of T; exact h) (by exact hr) (by decide) (by exact takes_of rfl rfl rfl rfl) (a_cons (x_v 0) (a_cons (x_lstT (a_cons x_non (a_cons (x_tup a_nil) (a_cons (x_op op_mulA o_mul (x_tup (a_cons (x_tup (a_cons x_int (a_cons x_int a_nil))) a_nil)) x_int) (a_cons (x_op op_mulA o_mul (x_tup (a_cons (x_tup (a_cons x_int (a_cons x_int a_nil))) a_nil)) x_int) (a_cons (x_lstT (a_cons (x_tup (a_cons x_int (a_cons x_int a_nil))) a_nil)) (a_cons (x_tup (a_cons (x_tup (a_cons (x_un un_neg o_neg x_int) (a_cons x_int a_nil))) a_nil)) (a_cons (x_tup (a_cons x_int a_nil)) (a_cons (x_tup (a_cons (x_tup (a_cons x_int (a_cons x_int a_nil))) a_nil)) a_nil))))))))) a_nil)))) (ss_cons (s_set (i := 4) (by exact nd) (x_lstT (a_cons (x_lam (by exact TB) (by exact rfl) (by exact hmT) (by exact rfl) (by exact huT) (by exact rfl) (by exact fun c => T.lam_0 _ c) (by exact rfl) (lam_free (sc := defScope s__law_are_all_refused) (nsc := lamScope lamE_0) (by decide +kernel))) a_nil))) (ss_cons (s_for (by exact passes_of rfl) (by exact rfl) (i_seq (by exact rfl) (x_lstT (a_cons (x_fn (by exact ⟨rfl, rfl, rfl, rfl, rfl, hgu⟩) (by exact T.fv_stock_of)) (a_cons (x_fn (by exact ⟨rfl, rfl, rfl, rfl, rfl, hgu⟩) (by exact T.fv_round_way)) (a_cons (x_fn (by exact ⟨rfl, rfl, rfl, rfl, rfl, hgu⟩) (by exact T.fv_round_plan)) (a_cons (x_fn (by exact ⟨rfl, rfl, rfl, rfl, rfl, hgu⟩) (by exact T.fv_round_prices)) (a_cons (x_fn (by exact ⟨rfl, rfl, rfl, rfl, rfl, hgu⟩) (by exact T.fv_gain_of)) a_nil))))))) (g_name (i := 5) (by exact nd)) (ss_cons (s_set (i := 6) (by exact nd) (x_ix (by exact ix_A) (by exact o_ix) (by exact fun _ _ => rfl) (x_callGS (ps := ["call"]) (caps := [("wears", 1), ("many", 2), ("bad", 3), ("call", 5), ("odd", 7), ("wrong", 8)]) (by exact ⟨rfl, rfl, rfl, rfl, rfl, hgu⟩) (by have h := ok__law_heard T; exact h) (by exact hr) (by decide) (by exact takes_of rfl rfl rfl rfl) (a_cons (x_lam (by exact TB) (by exact rfl) (by exact hmT) (by exact rfl) (by exact huT) (by exact rfl) (by exact fun c => T.lam_1 _ c) (by exact rfl) (lam_free (sc := defScope s__law_are_all_refused) (nsc := lamScope lamE_1) (by decide +kernel))) a_nil) (by exact rfl) (by exact fun _ => rfl) (by exact caps_by (N := ["pot", "wears", "many", "bad", "looks", "call", "caught", "odd", "wrong"]) (sc := defScope s__law_are_all_refused) (by decide +kernel))) x_int)) (ss_one (s_if (y_w (w_or (y_not (y_val (x_cb call_isiP (by exact o_isi T.isC) (by exact T.n_isinstance) PyProof.Rows.Boot.«isinstance» (a_cons (x_v 6) (a_cons (x_cls (by exact ⟨rfl, rfl, rfl, rfl, rfl, hgu⟩) (by exact T.m_BadRow)) a_nil))))) (w_or1 (y_cmp (by exact op_neB (hu64 hr)) o_ne (nomark _) (x_cb (by exact call_repr hgu (hu66 hr)) o_repr (by exact T.n_repr) PyProof.Rows.Boot.«repr» (a_cons (x_val (D := D) (fI := fI) (by exact ⟨rfl, rfl, rfl, rfl, rfl, hgu⟩) (by exact T.errs) (x_v 6)) a_nil)) (x_cb (by exact call_repr hgu (hu66 hr)) o_repr (by exact T.n_repr) PyProof.Rows.Boot.«repr» (a_cons (x_v 3) a_nil)))))) (ss_one (s_ret x_bl)) ss_nil)))) (ss_cons (s_if (y_not (y_val (x_callGS (ps := ["looks", "is_kind", "value"]) (caps := [("wears", 1), ("many", 2), ("bad", 3), ("call", 5), ("odd", 7), ("wrong", 8)]) (by exact ⟨rfl, rfl, rfl, rfl, rfl, hgu⟩) (by have h := ok__law_are_refused T; exact h) (by exact hr) (by decide) (by exact takes_of rfl rfl rfl rfl) (a_cons (x_v 4) (a_cons (x_lam (by exact TB) (by exact rfl) (by exact hmT) (by exact rfl) (by exact huT) (by exact rfl) (by exact fun c => T.lam_2 _ c) (by exact rfl) (lam_free (sc := defScope s__law_are_all_refused) (nsc := lamScope lamE_2) (by decide +kernel))) (a_cons (x_v 3) a_nil))) (by exact rfl) (by exact fun _ => rfl) (by exact caps_by (N := ["pot", "wears", "many", "bad", "looks", "call", "caught", "odd", "wrong"]) (sc := defScope s__law_are_all_refused) (by decide +kernel))))) (ss_one (s_ret x_bl)) ss_nil) (ss_cons (s_set (i := 7) (by exact nd) (x_callG (ps := ["pot", "some"]) (by exact ⟨rfl, rfl, rfl, rfl, rfl, hgu⟩) (by have h := ok__law_of T; exact h) (by exact hr) (by decide) (by exact takes_of rfl rfl rfl rfl) (a_cons (x_v 0) (a_cons (x_lstT (a_cons x_non (a_cons (x_op op_sub o_sub (x_cb call_len_seq o_len (by exact T.n_len) PyProof.Rows.Boot.«len» (a_cons (x_v 1) a_nil)) x_int) (a_cons x_int (a_cons x_bl (a_cons x_str a_nil)))))) a_nil)))) (ss_cons (s_set (i := 8) (by exact nd) (x_callG (ps := ["pot", "some"]) (by exact ⟨rfl, rfl, rfl, rfl, rfl, hgu⟩) (by have h := ok__law_of T; exact h) (by exact hr) (by decide) (by exact takes_of rfl rfl rfl rfl) (a_cons (x_v 0) (a_cons (x_lstT (a_cons x_non (a_cons (x_tup (a_cons x_int (a_cons x_int a_nil))) (a_cons (x_tup (a_cons (x_un un_neg o_neg x_int) (a_cons x_int a_nil))) (a_cons (x_tup (a_cons x_int (a_cons x_int a_nil))) (a_cons x_int a_nil)))))) a_nil)))) (ss_cons (s_for (by exact passes_of rfl) (by exact rfl) (i_seq (by exact rfl) (x_lstT (a_cons (x_fn (by exact ⟨rfl, rfl, rfl, rfl, rfl, hgu⟩) (by exact T.fv_stock_of)) (a_cons (x_fn (by exact ⟨rfl, rfl, rfl, rfl, rfl, hgu⟩) (by exact T.fv_round_way)) (a_cons (x_fn (by exact ⟨rfl, rfl, rfl, rfl, rfl, hgu⟩) (by exact T.fv_round_plan)) (a_cons (x_fn (by exact ⟨rfl, rfl, rfl, rfl, rfl, hgu⟩) (by exact T.fv_round_prices)) (a_cons (x_fn (by exact ⟨rfl, rfl, rfl, rfl, rfl, hgu⟩) (by exact T.fv_gain_of)) a_nil))))))) (g_name (i := 5) (by exact nd)) (ss_cons (s_set (i := 6) (by exact nd) (x_ix (by exact ix_A) (by exact o_ix) (by exact fun _ _ => rfl) (x_callGS (ps := ["call"]) (caps := [("wears", 1), ("many", 2), ("bad", 3), ("call", 5), ("odd", 7), ("wrong", 8)]) (by exact ⟨rfl, rfl, rfl, rfl, rfl, hgu⟩) (by have h := ok__law_heard T; exact h) (by exact hr) (by decide) (by exact takes_of rfl rfl rfl rfl) (a_cons (x_lam (by exact TB) (by exact rfl) (by exact hmT) (by exact rfl) (by exact huT) (by exact rfl) (by exact fun c => T.lam_3 _ c) (by exact rfl) (lam_free (sc := defScope s__law_are_all_refused) (nsc := lamScope lamE_3) (by decide +kernel))) a_nil) (by exact rfl) (by exact fun _ => rfl) (by exact caps_by (N := ["pot", "wears", "many", "bad", "looks", "call", "caught", "odd", "wrong"]) (sc := defScope s__law_are_all_refused) (by decide +kernel))) x_int)) (ss_cons (s_if (y_w (w_or (y_not (y_val (x_cb call_isiP (by exact o_isi T.isC) (by exact T.n_isinstance) PyProof.Rows.Boot.«isinstance» (a_cons (x_v 6) (a_cons (x_cls (by exact ⟨rfl, rfl, rfl, rfl, rfl, hgu⟩) (by exact T.m_BadInt)) a_nil))))) (w_or1 (y_cmp (by exact op_neB (hu64 hr)) o_ne (nomark _) (x_cb (by exact call_repr hgu (hu66 hr)) o_repr (by exact T.n_repr) PyProof.Rows.Boot.«repr» (a_cons (x_val (D := D) (fI := fI) (by exact ⟨rfl, rfl, rfl, rfl, rfl, hgu⟩) (by exact T.errs) (x_v 6)) a_nil)) (x_cb (by exact call_repr hgu (hu66 hr)) o_repr (by exact T.n_repr) PyProof.Rows.Boot.«repr» (a_cons (x_v 7) a_nil)))))) (ss_one (s_ret x_bl)) ss_nil) (ss_cons (s_set (i := 6) (by exact nd) (x_ix (by exact ix_A) (by exact o_ix) (by exact fun _ _ => rfl) (x_callGS (ps := ["call"]) (caps := [("wears", 1), ("many", 2), ("bad", 3), ("call", 5), ("odd", 7), ("wrong", 8)]) (by exact ⟨rfl, rfl, rfl, rfl, rfl, hgu⟩) (by have h := ok__law_heard T; exact h) (by exact hr) (by decide) (by exact takes_of rfl rfl rfl rfl) (a_cons (x_lam (by exact TB) (by exact rfl) (by exact hmT) (by exact rfl) (by exact huT) (by exact rfl) (by exact fun c => T.lam_4 _ c) (by exact rfl) (lam_free (sc := defScope s__law_are_all_refused) (nsc := lamScope lamE_4) (by decide +kernel))) a_nil) (by exact rfl) (by exact fun _ => rfl) (by exact caps_by (N := ["pot", "wears", "many", "bad", "looks", "call", "caught", "odd", "wrong"]) (sc := defScope s__law_are_all_refused) (by decide +kernel))) x_int)) (ss_one (s_if (y_w (w_or (y_not (y_val (x_cb call_isiP (by exact o_isi T.isC) (by exact T.n_isinstance) PyProof.Rows.Boot.«isinstance» (a_cons (x_v 6) (a_cons (x_cls (by exact ⟨rfl, rfl, rfl, rfl, rfl, hgu⟩) (by exact T.m_BadFraction)) a_nil))))) (w_or1 (y_cmp (by exact op_neB (hu64 hr)) o_ne (nomark _) (x_cb (by exact call_repr hgu (hu66 hr)) o_repr (by exact T.n_repr) PyProof.Rows.Boot.«repr» (a_cons (x_val (D := D) (fI := fI) (by exact ⟨rfl, rfl, rfl, rfl, rfl, hgu⟩) (by exact T.errs) (x_v 6)) a_nil)) (x_cb (by exact call_repr hgu (hu66 hr)) o_repr (by exact T.n_repr) PyProof.Rows.Boot.«repr» (a_cons (x_v 8) a_nil)))))) (ss_one (s_ret x_bl)) ss_nil)))))) (ss_one (s_ret (x_callGS (ps := ["looks", "is_kind", "value"]) (caps := [("wears", 1), ("many", 2), ("bad", 3), ("call", 5), ("odd", 7), ("wrong", 8)]) (by exact ⟨rfl, rfl, rfl, rfl, rfl, hgu⟩) (by have h := ok__law_are_refused T; exact h) (by exact hr) (by decide) (by exact takes_of rfl rfl rfl rfl) (a_cons (x_lstT (a_cons (x_lam (by exact TB) (by exact rfl) (by exact hmT) (by exact rfl) (by exact huT) (by exact rfl) (by exact fun c => T.lam_5 _ c) (by exact rfl) (lam_free (sc := defScope s__law_are_all_refused) (nsc := lamScope lamE_5) (by decide +kernel))) a_nil)) (a_cons (x_lam (by exact TB) (by exact rfl) (by exact hmT) (by exact rfl) (by exact huT) (by exact rfl) (by exact fun c => T.lam_6 _ c) (by exact rfl) (lam_free (sc := defScope s__law_are_all_refused) (nsc := lamScope lamE_6) (by decide +kernel))) (a_cons (x_v 8) a_nil))) (by exact rfl) (by exact fun _ => rfl) (by exact caps_by (N := ["pot", "wears", "many", "bad", "looks", "call", "caught", "odd", "wrong"]) (sc := defScope s__law_are_all_refused) (by decide +kernel))))))))))))
theorem ok__law_right (T : Txt g D fI fdI) : CalG g 13 "_law_right" s__law_right ["pot"] F__law_right := by
  have nd := sc__law_right.nd
  obtain ⟨f, fd, FA⟩ := T.f__law_right
  exact cal_ok FA sc__law_right (fun cdv A outer s H E hr hgu => ss_cons (s_for (by exact passes_of rfl) (by exact rfl) (i_range1 (by exact T.n_range) (a_cons x_int a_nil)) (g_name (i := 1) (by exact nd)) (ss_cons (s_set (i := 2) (by exact nd) (x_cty call_tuple_of o_tuple (by exact T.n_tuple) PyProof.Rows.Boot.«tuple» (a_cons (x_lcT (own := [("place", 4)]) (by exact rfl) (by exact nd) (i_range1 (by exact T.n_range) (a_cons (x_op op_addA o_add x_int (x_callG (ps := ["pot", "upto"]) (by exact ⟨rfl, rfl, rfl, rfl, rfl, hgu⟩) (by have h := ok__law_take T; exact h) (by exact hr) (by decide) (by exact takes_of rfl rfl rfl rfl) (a_cons (x_v 0) (a_cons x_int a_nil)))) a_nil)) (blkOk_by (own := [("place", 4)]) (N := ["pot", "lap", "wears", "many", "place", "wear"]) (sc := defScope s__law_right) (by decide +kernel)) (fun _ _ _ _ _ => c_name (i := 4) (by exact nd)) (fun _ _ _ _ _ => z_nil) (fun _ _ _ _ _ => x_callG (ps := ["pot"]) (by exact ⟨rfl, rfl, rfl, rfl, rfl, hgu⟩) (by have h := ok__law_wear T; exact h) (by exact hr) (by decide) (by exact takes0) (a_cons (x_v 0) a_nil))) a_nil))) (ss_cons (s_if (y_val (x_cb (by exact cr_all rfl) o_all (by exact T.n_all) PyProof.Rows.Boot.«all» (a_cons (x_lcT (own := [("wear", 5)]) (by exact rfl) (by exact nd) (i_seq (by exact rfl) (x_v 2)) (blkOk_by (own := [("wear", 5)]) (N := ["pot", "lap", "wears", "many", "place", "wear"]) (sc := defScope s__law_right) (by decide +kernel)) (fun _ _ _ _ _ => c_name (i := 5) (by exact nd)) (fun _ _ _ _ _ => z_nil) (fun _ _ _ _ _ => x_cmp (by exact op_eqB (hu64 hr)) o_eq (nomark _) (x_v 5) (x_tup (a_cons x_int (a_cons x_int a_nil))))) a_nil))) (ss_one (s_set (i := 2) (by exact nd) (x_op op_addA o_add (x_slL (by exact rfl) (x_v 2) x_int) (x_tup (a_cons (x_tup (a_cons x_int (a_cons x_int a_nil))) a_nil))))) ss_nil) (ss_cons (s_set (i := 3) (by exact nd) (x_op op_addA o_add (x_cb call_len_seq o_len (by exact T.n_len) PyProof.Rows.Boot.«len» (a_cons (x_v 2) a_nil)) (x_cty call_int1 o_int1 (by exact T.n_int) PyProof.Rows.Boot.«int» (a_cons (x_callG (ps := ["pot", "upto"]) (by exact ⟨rfl, rfl, rfl, rfl, rfl, hgu⟩) (by have h := ok__law_take T; exact h) (by exact hr) (by decide) (by exact takes_of rfl rfl rfl rfl) (a_cons (x_v 0) (a_cons (x_op op_sub o_sub x_int (x_cb call_len_seq o_len (by exact T.n_len) PyProof.Rows.Boot.«len» (a_cons (x_v 2) a_nil))) a_nil))) a_nil)))) (ss_one (s_if (y_w (w_or (y_not (y_val (x_callG (ps := ["wears", "many", "life"]) (by exact ⟨rfl, rfl, rfl, rfl, rfl, hgu⟩) (by have h := ok__law_are_like_right T; exact h) (by exact hr) (by decide) (by exact takes_of rfl rfl rfl rfl) (a_cons (x_v 2) (a_cons (x_v 3) (a_cons (x_callG (ps := ["pot", "upto"]) (by exact ⟨rfl, rfl, rfl, rfl, rfl, hgu⟩) (by have h := ok__law_number T; exact h) (by exact hr) (by decide) (by exact takes_of rfl rfl rfl rfl) (a_cons (x_v 0) (a_cons x_int a_nil))) a_nil)))))) (w_or1 (y_not (y_val (x_callG (ps := ["pot", "wears", "many"]) (by exact ⟨rfl, rfl, rfl, rfl, rfl, hgu⟩) (by have h := ok__law_are_all_refused T; exact h) (by exact hr) (by decide) (by exact takes_of rfl rfl rfl rfl) (a_cons (x_v 0) (a_cons (x_v 2) (a_cons (x_v 3) a_nil))))))))) (ss_one (s_ret x_bl)) ss_nil)))))) (ss_one (s_ret x_bl)))
theorem ok_law (T : Txt g D fI fdI) : CalG g 14 "law" s_law ["script"] F_law := by
  have nd := sc_law.nd
  obtain ⟨f, fd, FA⟩ := T.f_law
  exact cal_ok FA sc_law (fun cdv A outer s H E hr hgu => ss_cons (s_asg (x_tup (a_cons (x_tup (a_cons x_int (a_cons x_int a_nil))) (a_cons (x_tup (a_cons x_int (a_cons x_int a_nil))) a_nil))) (g_tup (n := 2) (by exact rfl) (by exact rfl) (gs_cons (g_name (i := 1) (by exact nd)) (gs_cons (g_name (i := 2) (by exact nd)) gs_nil)))) (ss_cons (s_if (y_cmp (by exact op_neB (hu64 hr)) o_ne (nomark _) (x_callG (ps := ["wears", "many", "life"]) (by exact ⟨rfl, rfl, rfl, rfl, rfl, hgu⟩) (by have h := ok_round_way T; exact h) (by exact hr) (by decide) (by exact takes_of rfl rfl rfl rfl) (a_cons (x_tup (a_cons (x_v 1) (a_cons (x_v 1) (a_cons (x_v 2) (a_cons (x_v 2) a_nil))))) (a_cons x_int (a_cons (x_tup (a_cons x_int (a_cons x_int a_nil))) a_nil)))) (x_tup (a_cons x_int (a_cons x_int a_nil)))) (ss_one (s_ret x_bl)) ss_nil) (ss_one (s_ret (x_cb (by exact cr_all rfl) o_all (by exact T.n_all) PyProof.Rows.Boot.«all» (a_cons (x_lcT (own := [("place", 3)]) (by exact rfl) (by exact nd) (i_seq (by exact rfl) (x_callG (ps := ["script", "most"]) (by exact ⟨rfl, rfl, rfl, rfl, rfl, hgu⟩) (by have h := ok__law_cells T; exact h) (by exact hr) (by decide) (by exact takes_of rfl rfl rfl rfl) (a_cons (x_v 0) (a_cons x_int a_nil)))) (blkOk_by (own := [("place", 3)]) (N := ["script", "front", "back", "place"]) (sc := defScope s_law) (by decide +kernel)) (fun _ _ _ _ _ => c_name (i := 3) (by exact nd)) (fun _ _ _ _ _ => z_nil) (fun _ _ _ _ _ => x_callG (ps := ["pot"]) (by exact ⟨rfl, rfl, rfl, rfl, rfl, hgu⟩) (by have h := ok__law_right T; exact h) (by exact hr) (by decide) (by exact takes0) (a_cons (x_callG (ps := ["script", "place"]) (by exact ⟨rfl, rfl, rfl, rfl, rfl, hgu⟩) (by have h := ok__law_pot T; exact h) (by exact hr) (by decide) (by exact takes0) (a_cons (x_v 0) (a_cons (x_v 3) a_nil))) a_nil))) a_nil))))))
end
end K08

namespace K08
open Pv PySem L2
def S_look_at_wears_1 : SF := fIfS (fOr (fNot (fB (fCallB (oIsi isC) (fCons (fVar 0) (fCons (fC (.ty "tuple")) fNil))))) (fNot (fB (fChain oLe oLe (fC (.int 1)) (fCallB oLen (fCons (fVar 0) fNil)) (fC (.int 6)))))) (fRaise 2 (fVar 0)) fNext
def S_look_at_wears_2 : SF := fIfS (fOr (fNot (fB (fCallB oAll (fCons (fLcT [1] (srcE (fVar 0)) (gfName 1) fYes (fCall 1 F_is_price (fCons (fVar 1) fNil))) fNil)))) (fB (fCallB oAll (fCons (fLcT [1] (srcE (fVar 0)) (gfName 1) fYes (fOp oEq (fVar 1) (fC (.tup [.int 0, .int 1])))) fNil)))) (fRaise 2 (fVar 0)) fNext
def S_look_at_wears : SF := fSeq S_look_at_wears_1 S_look_at_wears_2
theorem S_look_at_wears_eq : B_look_at_wears = S_look_at_wears := rfl
def S_stock_of_1 : SF := fDrop (fCall 3 F_look_at_like (fCons (fVar 0) (fCons (fVar 1) (fCons (fVar 2) fNil))))
def S_stock_of_2 : SF := fRet (fTup (fCons (fCallB oLen (fCons (fVar 0) fNil)) (fCons (fOp oMul (fTup (fCons (fTup (fCons (fVar 2) (fCons (fVar 0) fNil))) fNil)) (fVar 1)) fNil)))
def S_stock_of : SF := fSeq S_stock_of_1 S_stock_of_2
theorem S_stock_of_eq : B_stock_of = S_stock_of := rfl
def S_round_way_1 : SF := fDrop (fCall 3 F_look_at_like (fCons (fVar 0) (fCons (fVar 1) (fCons (fVar 2) fNil))))
def S_round_way_2 : SF := fRet (fCall 3 F_told_round (fCons (fVar 0) (fCons (fVar 1) (fCons (fVar 2) fNil))))
def S_round_way : SF := fSeq S_round_way_1 S_round_way_2
theorem S_round_way_eq : B_round_way = S_round_way := rfl
def S_round_plan_1 : SF := fDrop (fCall 3 F_look_at_like (fCons (fVar 0) (fCons (fVar 1) (fCons (fVar 2) fNil))))
def S_round_plan_2 : SF := fAsg (fCall 2 F_over (fCons (fVar 2) (fCons (fCall 1 F_summed (fCons (fCallB oListT (fCons (fVar 0) fNil)) fNil)) fNil))) (gfName 3)
def S_round_plan_3 : SF := fRet (fCallB oTuple (fCons (fLcT [4] (srcR1 (fCons (fVar 1) fNil)) (gfName 4) fYes (fTup (fCons (fVar 3) (fCons (fCallB oTuple (fCons (fLcT [5] (srcR1 (fCons (fCallB oLen (fCons (fVar 0) fNil)) fNil)) (gfName 5) fYes (fOp oMod (fOp oSub (fVar 5) (fVar 4)) (fVar 1))) fNil)) fNil)))) fNil))
def S_round_plan : SF := fSeq S_round_plan_1 (fSeq S_round_plan_2 S_round_plan_3)
theorem S_round_plan_eq : B_round_plan = S_round_plan := rfl
def S_round_prices_1 : SF := fDrop (fCall 3 F_look_at_like (fCons (fVar 0) (fCons (fVar 1) (fCons (fVar 2) fNil))))
def S_round_prices_2 : SF := fAsg (fCall 1 F_summed (fCons (fCallB oListT (fCons (fVar 0) fNil)) fNil)) (gfName 3)
def S_round_prices_3 : SF := fRet (fTup (fCons (fCallB oTuple (fCons (fLcT [4] (srcE (fVar 0)) (gfName 4) fYes (fCall 2 F_over (fCons (fVar 4) (fCons (fVar 3) fNil)))) fNil)) (fCons (fOp oMul (fTup (fCons (fC (.tup [.int 0, .int 1])) fNil)) (fVar 1)) (fCons (fOp oMul (fTup (fCons (fCall 2 F_over (fCons (fC (.tup [.int 1, .int 1])) (fCons (fVar 3) fNil))) fNil)) (fVar 1)) fNil))))
def S_round_prices : SF := fSeq S_round_prices_1 (fSeq S_round_prices_2 S_round_prices_3)
theorem S_round_prices_eq : B_round_prices = S_round_prices := rfl
def S_least_of_1 : SF := fAsg (fOp oIx (fVar 0) (fC (.int 0))) (gfName 1)
def S_least_of_2b_1 : SF := fAsg (fIf (fB (fCall 2 F_is_less (fCons (fVar 2) (fCons (fVar 1) fNil)))) (fVar 2) (fVar 1)) (gfName 1)
def S_least_of_2b : SF := S_least_of_2b_1
def S_least_of_2 : SF := fFor (srcE (fVar 0)) (gfName 2) (S_least_of_2b)
def S_least_of_3 : SF := fRet (fVar 1)
def S_least_of : SF := fSeq S_least_of_1 (fSeq S_least_of_2 S_least_of_3)
theorem S_least_of_eq : B_least_of = S_least_of := rfl
def S_summed_1 : SF := fAsg (fTup (fCons (fC (.int 0)) (fCons (fC (.int 1)) fNil))) (gfTup 2 (gfCons (gfName 1) (gfCons (gfName 2) gfNil)))
def S_summed_2b_1 : SF := fPar 1 2 (fCons (fOp oAdd (fOp oMul (fVar 1) (fOp oIx (fVar 3) (fC (.int 1)))) (fOp oMul (fOp oIx (fVar 3) (fC (.int 0))) (fVar 2))) (fCons (fOp oMul (fVar 2) (fOp oIx (fVar 3) (fC (.int 1)))) fNil))
def S_summed_2b : SF := S_summed_2b_1
def S_summed_2 : SF := fFor (srcE (fVar 0)) (gfName 3) (S_summed_2b)
def S_summed_3 : SF := fRet (fCall 2 F_told_fraction (fCons (fVar 1) (fCons (fVar 2) fNil)))
def S_summed : SF := fSeq S_summed_1 (fSeq S_summed_2 S_summed_3)
theorem S_summed_eq : B_summed = S_summed := rfl
def S__law_sum_1 : SF := fAsg (fTup (fCons (fC (.int 0)) (fCons (fC (.int 1)) fNil))) (gfName 1)
def S__law_sum_2b_1 : SF := fAsg (fCall 2 F__law_plus (fCons (fVar 1) (fCons (fVar 2) fNil))) (gfName 1)
def S__law_sum_2b : SF := S__law_sum_2b_1
def S__law_sum_2 : SF := fFor (srcE (fVar 0)) (gfName 2) (S__law_sum_2b)
def S__law_sum_3 : SF := fRet (fVar 1)
def S__law_sum : SF := fSeq S__law_sum_1 (fSeq S__law_sum_2 S__law_sum_3)
theorem S__law_sum_eq : B__law_sum = S__law_sum := rfl
def S__law_table_1 : SF := fAsg (fLcT [6] (srcE (fOp oIx (fVar 0) (fC (.int 1)))) (gfName 6) fYes (fMulL (fLstT (fCons (fTup (fCons (fC (.int 0)) (fCons (fC (.int 1)) fNil))) fNil)) (fOp oIx (fVar 0) (fC (.int 0))))) (gfName 2)
def S__law_table_2b_1b_1 : SF := fAsg (fCall 2 F__law_plus (fCons (fOp oIx (fOp oIx (fVar 2) (fVar 6)) (fVar 5)) (fCons (fVar 3) fNil))) (gfSub (fOp oIx (fVar 2) (fVar 6)) (fVar 5))
def S__law_table_2b_1b : SF := S__law_table_2b_1b_1
def S__law_table_2b_1 : SF := fFor (srcEnA (fCons (fVar 4) fNil)) (gfTup 2 (gfCons (gfName 5) (gfCons (gfName 6) gfNil))) (S__law_table_2b_1b)
def S__law_table_2b : SF := S__law_table_2b_1
def S__law_table_2 : SF := fFor (srcE (fVar 1)) (gfTup 2 (gfCons (gfName 3) (gfCons (gfName 4) gfNil))) (S__law_table_2b)
def S__law_table_3 : SF := fRet (fCallB oTuple (fCons (fLcT [7] (srcE (fVar 2)) (gfName 7) fYes (fCallB oTuple (fCons (fVar 7) fNil))) fNil))
def S__law_table : SF := fSeq S__law_table_1 (fSeq S__law_table_2 S__law_table_3)
theorem S__law_table_eq : B__law_table = S__law_table := rfl
def S__law_worn_1 : SF := fAsg (fLst fNil) (gfName 2)
def S__law_worn_2b_1 : SF := fDrop (fAppend (fVar 2) (fCall 1 F__law_sum (fCons (fLcT [5, 6] (srcEnA (fCons (fVar 4) fNil)) (gfTup 2 (gfCons (gfName 5) (gfCons (gfName 6) gfNil))) fYes (fCall 2 F__law_times (fCons (fOp oIx (fOp oIx (fOp oIx (fOp oIx (fVar 0) (fC (.int 1))) (fVar 3)) (fC (.int 1))) (fVar 5)) (fCons (fVar 6) fNil)))) fNil)))
def S__law_worn_2b : SF := S__law_worn_2b_1
def S__law_worn_2 : SF := fFor (srcEnA (fCons (fVar 1) fNil)) (gfTup 2 (gfCons (gfName 3) (gfCons (gfName 4) gfNil))) (S__law_worn_2b)
def S__law_worn_3 : SF := fRet (fVar 2)
def S__law_worn : SF := fSeq S__law_worn_1 (fSeq S__law_worn_2 S__law_worn_3)
theorem S__law_worn_eq : B__law_worn = S__law_worn := rfl
def S__law_serves_1 : SF := fAsg (fCall 2 F__law_worn (fCons (fVar 0) (fCons (fCall 2 F__law_table (fCons (fVar 0) (fCons (fVar 1) fNil))) fNil))) (gfName 2)
def S__law_serves_2 : SF := fRet (fNotV (fCallB oAny (fCons (fLcT [3, 4] (srcEnA (fCons (fVar 2) fNil)) (gfTup 2 (gfCons (gfName 3) (gfCons (gfName 4) gfNil))) fYes (fCall 2 F__law_is_less (fCons (fOp oIx (fOp oIx (fOp oIx (fVar 0) (fC (.int 1))) (fVar 3)) (fC (.int 0))) (fCons (fVar 4) fNil)))) fNil)))
def S__law_serves : SF := fSeq S__law_serves_1 S__law_serves_2
theorem S__law_serves_eq : B__law_serves = S__law_serves := rfl
def S__law_do_bar_1 : SF := fIfS (fOr (fNot (fB (fCallB (oIsi isC) (fCons (fVar 2) (fCons (fC (.ty "tuple")) fNil))))) (fB (fOp oNe (fCallB oLen (fCons (fVar 2) fNil)) (fC (.int 3))))) (fRet (fC (.bl false))) fNext
def S__law_do_bar_2b_1 : SF := fIfS (fOr (fNot (fB (fCallB (oIsi isC) (fCons (fVar 3) (fCons (fC (.ty "tuple")) fNil))))) (fOr (fB (fOp oNe (fCallB oLen (fCons (fVar 3) fNil)) (fVar 4))) (fNot (fB (fCallB oAll (fCons (fLcT [10] (srcE (fVar 3)) (gfName 10) fYes (fCall 1 F__law_is_share (fCons (fVar 10) fNil))) fNil)))))) (fRet (fC (.bl false))) fNext
def S__law_do_bar_2b : SF := S__law_do_bar_2b_1
def S__law_do_bar_2 : SF := fFor (srcZipB (fCons (fVar 2) (fCons (fLstT (fCons (fOp oIx (fVar 0) (fC (.int 0))) (fCons (fCallB oLen (fCons (fOp oIx (fVar 0) (fC (.int 1))) fNil)) (fCons (fCallB oLen (fCons (fOp oIx (fVar 0) (fC (.int 1))) fNil)) fNil)))) fNil))) (gfTup 2 (gfCons (gfName 3) (gfCons (gfName 4) gfNil))) (S__law_do_bar_2b)
def S__law_do_bar_3b_1b_1 : SF := fAsg (fCall 2 F__law_plus (fCons (fOp oIx (fOp oIx (fVar 2) (fC (.int 1))) (fVar 5)) (fCons (fCall 2 F__law_times (fCons (fOp oIx (fOp oIx (fVar 2) (fC (.int 2))) (fVar 5)) (fCons (fOp oIx (fVar 7) (fVar 8)) fNil))) fNil))) (gfName 9)
def S__law_do_bar_3b_1b_2 : SF := fIfS (fAnd (fB (fOp oNotIn2 (fTup (fCons (fVar 5) (fCons (fVar 8) fNil))) (fVar 1))) (fB (fCall 2 F__law_is_less (fCons (fVar 9) (fCons (fOp oIx (fOp oIx (fVar 2) (fC (.int 0))) (fVar 8)) fNil))))) (fRet (fC (.bl false))) fNext
def S__law_do_bar_3b_1b : SF := fSeq S__law_do_bar_3b_1b_1 S__law_do_bar_3b_1b_2
def S__law_do_bar_3b_1 : SF := fFor (srcR1 (fCons (fOp oIx (fVar 0) (fC (.int 0))) fNil)) (gfName 8) (S__law_do_bar_3b_1b)
def S__law_do_bar_3b : SF := S__law_do_bar_3b_1
def S__law_do_bar_3 : SF := fFor (srcEnA (fCons (fOp oIx (fVar 0) (fC (.int 1))) fNil)) (gfTup 2 (gfCons (gfName 5) (gfCons (gfTup 2 (gfCons (gfName 6) (gfCons (gfName 7) gfNil))) gfNil))) (S__law_do_bar_3b)
def S__law_do_bar_4 : SF := fRet (fNotV (fCall 2 F__law_is_less (fCons (fCall 1 F__law_sum (fCons (fCallB oListT (fCons (fOp oIx (fVar 2) (fC (.int 0))) fNil)) fNil)) (fCons (fCall 2 F__law_plus (fCons (fCall 1 F__law_sum (fCons (fCallB oListT (fCons (fOp oIx (fVar 2) (fC (.int 1))) fNil)) fNil)) (fCons (fTup (fCons (fC (.int 1)) (fCons (fC (.int 1)) fNil))) fNil))) fNil))))
def S__law_do_bar : SF := fSeq S__law_do_bar_1 (fSeq S__law_do_bar_2 (fSeq S__law_do_bar_3 S__law_do_bar_4))
theorem S__law_do_bar_eq : B__law_do_bar = S__law_do_bar := rfl
def S__law_is_served_1 : SF := fIfS (fOr (fNot (fB (fCallB (oIsi isC) (fCons (fVar 2) (fCons (fC (.ty "tuple")) fNil))))) (fOr (fB (fOp oNotIn2 (fCallB oLen (fCons (fVar 2) fNil)) (fTup (fCons (fC (.int 2)) (fCons (fC (.int 4)) fNil))))) (fNot (fB (fCallB (oIsi isC) (fCons (fOp oIx (fVar 2) (fC (.int 0))) (fCons (fC (.ty "str")) fNil))))))) (fRet (fC (.bl false))) fNext
def S__law_is_served_2 : SF := fIfS (fB (fOp oEq (fCallB oLen (fCons (fVar 2) fNil)) (fC (.int 2)))) (fSeq (fIfS (fOr (fB (fOp oNe (fOp oIx (fVar 2) (fC (.int 0))) (fC (.str "endless")))) (fNot (fB (fCall 2 F__law_is_seating (fCons (fVar 0) (fCons (fOp oIx (fVar 2) (fC (.int 1))) fNil)))))) (fRet (fC (.bl false))) fNext) (fSeq (fAsg (fLcT [6, 7] (srcEnA (fCons (fOp oIx (fVar 2) (fC (.int 1))) fNil)) (gfTup 2 (gfCons (gfName 6) (gfCons (gfName 7) gfNil))) fYes (fTup (fCons (fVar 7) (fCons (fVar 6) fNil)))) (gfName 3)) (fRet (fNotV (fCallB oAny (fCons (fLcT [8] (srcE (fVar 3)) (gfName 8) fYes (fOrV (fOp oIn2 (fVar 8) (fVar 1)) (fOp oNe (fOp oIx (fOp oIx (fOp oIx (fOp oIx (fVar 0) (fC (.int 1))) (fOp oIx (fVar 8) (fC (.int 0)))) (fC (.int 1))) (fOp oIx (fVar 8) (fC (.int 1)))) (fTup (fCons (fC (.int 0)) (fCons (fC (.int 1)) fNil)))))) fNil)))))) fNext
def S__law_is_served_3 : SF := fIfS (fOr (fB (fOp oNe (fOp oIx (fVar 2) (fC (.int 0))) (fC (.str "served")))) (fOr (fNot (fB (fCall 1 F__law_is_exact (fCons (fOp oIx (fVar 2) (fC (.int 1))) fNil)))) (fNot (fB (fCall 2 F__law_is_plan (fCons (fVar 0) (fCons (fOp oIx (fVar 2) (fC (.int 2))) fNil))))))) (fRet (fC (.bl false))) fNext
def S__law_is_served_4b_1 : SF := fIfS (fB (fCallB oAny (fCons (fLcT [6, 7] (srcEnA (fCons (fVar 5) fNil)) (gfTup 2 (gfCons (gfName 6) (gfCons (gfName 7) gfNil))) fYes (fOp oIn2 (fTup (fCons (fVar 7) (fCons (fVar 6) fNil))) (fVar 1))) fNil))) (fRet (fC (.bl false))) fNext
def S__law_is_served_4b : SF := S__law_is_served_4b_1
def S__law_is_served_4 : SF := fFor (srcE (fOp oIx (fVar 2) (fC (.int 2)))) (gfTup 2 (gfCons (gfName 4) (gfCons (gfName 5) gfNil))) (S__law_is_served_4b)
def S__law_is_served_5 : SF := fIfS (fOr (fB (fOp oNe (fCall 1 F__law_way (fCons (fOp oIx (fVar 2) (fC (.int 2))) fNil)) (fOp oIx (fVar 2) (fC (.int 1))))) (fNot (fB (fCall 2 F__law_serves (fCons (fVar 0) (fCons (fOp oIx (fVar 2) (fC (.int 2))) fNil)))))) (fRet (fC (.bl false))) fNext
def S__law_is_served_6 : SF := fRet (fAndV (fCall 3 F__law_do_bar (fCons (fVar 0) (fCons (fVar 1) (fCons (fOp oIx (fVar 2) (fC (.int 3))) fNil)))) (fOp oEq (fCall 2 F__law_bound (fCons (fVar 0) (fCons (fOp oIx (fVar 2) (fC (.int 3))) fNil))) (fOp oIx (fVar 2) (fC (.int 1)))))
def S__law_is_served : SF := fSeq S__law_is_served_1 (fSeq S__law_is_served_2 (fSeq S__law_is_served_3 (fSeq S__law_is_served_4 (fSeq S__law_is_served_5 S__law_is_served_6))))
theorem S__law_is_served_eq : B__law_is_served = S__law_is_served := rfl
def S__law_are_like_right_1 : SF := fAsg (fTup (fCons (fTup (fCons (fCallB oLen (fCons (fVar 0) fNil)) (fCons (fOp oMul (fTup (fCons (fTup (fCons (fVar 2) (fCons (fVar 0) fNil))) fNil)) (fVar 1)) fNil))) (fCons (fCall 1 F__law_sum (fCons (fCallB oListT (fCons (fVar 0) fNil)) fNil)) fNil))) (gfTup 2 (gfCons (gfName 3) (gfCons (gfName 4) gfNil)))
def S__law_are_like_right_2 : SF := fAsg (fCall 2 F__law_over (fCons (fCall 2 F__law_times (fCons (fTup (fCons (fVar 1) (fCons (fC (.int 1)) fNil))) (fCons (fVar 2) fNil))) (fCons (fVar 4) fNil))) (gfName 5)
def S__law_are_like_right_3 : SF := fIfS (fOr (fB (fOp oNe (fCallB oRepr (fCons (fCallK 3 2 1 [0] F_stock_of (fCons (fVar 0) (fCons (fVar 1) fNil)) (fCons (fVar 2) fNil)) fNil)) (fCallB oRepr (fCons (fVar 3) fNil)))) (fB (fOp oNe (fCallB oRepr (fCons (fCallK 3 2 1 [0] F_round_way (fCons (fVar 0) (fCons (fVar 1) fNil)) (fCons (fVar 2) fNil)) fNil)) (fCallB oRepr (fCons (fVar 5) fNil))))) (fRet (fC (.bl false))) fNext
def S__law_are_like_right_4 : SF := fPar 6 7 (fCons (fCallK 3 2 1 [0] F_round_plan (fCons (fVar 0) (fCons (fVar 1) fNil)) (fCons (fVar 2) fNil)) (fCons (fCall 2 F__law_over (fCons (fVar 2) (fCons (fVar 4) fNil))) fNil))
def S__law_are_like_right_5 : SF := fAsg (fLst fNil) (gfName 8)
def S__law_are_like_right_6b_1 : SF := fAsg (fLcT [14] (srcR1 (fCons (fVar 1) fNil)) (gfName 14) fYes (fOp oMod (fOp oAdd (fVar 14) (fVar 9)) (fVar 1))) (gfName 10)
def S__law_are_like_right_6b_2 : SF := fDrop (fAppend (fVar 8) (fTup (fCons (fVar 7) (fCons (fCallB oTuple (fCons (fLcT [15] (srcR1 (fCons (fCallB oLen (fCons (fVar 0) fNil)) fNil)) (gfName 15) fYes (fIndex (fVar 10) (fVar 15))) fNil)) fNil))))
def S__law_are_like_right_6b : SF := fSeq S__law_are_like_right_6b_1 S__law_are_like_right_6b_2
def S__law_are_like_right_6 : SF := fFor (srcR1 (fCons (fVar 1) fNil)) (gfName 9) (S__law_are_like_right_6b)
def S__law_are_like_right_7 : SF := fIfS (fB (fOp oNe (fCallB oRepr (fCons (fVar 6) fNil)) (fCallB oRepr (fCons (fCallB oTuple (fCons (fVar 8) fNil)) fNil)))) (fRet (fC (.bl false))) fNext
def S__law_are_like_right_8 : SF := fAsg (fCallK 3 2 1 [0] F_round_prices (fCons (fVar 0) (fCons (fVar 1) fNil)) (fCons (fVar 2) fNil)) (gfName 11)
def S__law_are_like_right_9 : SF := fAsg (fCall 2 F__law_over (fCons (fTup (fCons (fC (.int 1)) (fCons (fC (.int 1)) fNil))) (fCons (fVar 4) fNil))) (gfName 12)
def S__law_are_like_right_10 : SF := fIfS (fB (fOp oNe (fCallB oRepr (fCons (fVar 11) fNil)) (fCallB oRepr (fCons (fTup (fCons (fCallB oTuple (fCons (fLcT [16] (srcE (fVar 0)) (gfName 16) fYes (fCall 2 F__law_over (fCons (fVar 16) (fCons (fVar 4) fNil)))) fNil)) (fCons (fOp oMul (fTup (fCons (fTup (fCons (fC (.int 0)) (fCons (fC (.int 1)) fNil))) fNil)) (fVar 1)) (fCons (fOp oMul (fTup (fCons (fVar 12) fNil)) (fVar 1)) fNil)))) fNil)))) (fRet (fC (.bl false))) fNext
def S__law_are_like_right_11 : SF := fIfS (fNot (fB (fCall 3 F__law_is_served (fCons (fVar 3) (fCons (fTup fNil) (fCons (fTup (fCons (fC (.str "served")) (fCons (fVar 5) (fCons (fVar 6) (fCons (fVar 11) fNil))))) fNil)))))) (fRet (fC (.bl false))) fNext
def S__law_are_like_right_12 : SF := fAsg (fCall 2 F__law_over (fCons (fVar 2) (fCons (fCall 1 F__law_greatest (fCons (fCallB oListT (fCons (fVar 0) fNil)) fNil)) fNil))) (gfName 13)
def S__law_are_like_right_13 : SF := fIfS (fOr (fB (fOp oNe (fCallB oRepr (fCons (fCallK 2 1 1 [0] F_unmoved_way (fCons (fVar 0) fNil) (fCons (fVar 2) fNil)) fNil)) (fCallB oRepr (fCons (fVar 13) fNil)))) (fB (fOp oNe (fCallB oRepr (fCons (fCallK 3 2 1 [0] F_gain_of (fCons (fVar 0) (fCons (fVar 1) fNil)) (fCons (fVar 2) fNil)) fNil)) (fCallB oRepr (fCons (fCall 2 F__law_less (fCons (fVar 5) (fCons (fVar 13) fNil))) fNil))))) (fRet (fC (.bl false))) fNext
def S__law_are_like_right_14 : SF := fRet (fNotV (fCall 2 F__law_is_less (fCons (fVar 5) (fCons (fVar 13) fNil))))
def S__law_are_like_right : SF := fSeq S__law_are_like_right_1 (fSeq S__law_are_like_right_2 (fSeq S__law_are_like_right_3 (fSeq S__law_are_like_right_4 (fSeq S__law_are_like_right_5 (fSeq S__law_are_like_right_6 (fSeq S__law_are_like_right_7 (fSeq S__law_are_like_right_8 (fSeq S__law_are_like_right_9 (fSeq S__law_are_like_right_10 (fSeq S__law_are_like_right_11 (fSeq S__law_are_like_right_12 (fSeq S__law_are_like_right_13 S__law_are_like_right_14))))))))))))
theorem S__law_are_like_right_eq : B__law_are_like_right = S__law_are_like_right := rfl
def S__law_are_all_refused_1 (fid : Nat) : SF := fAsg (fCall 2 F__law_of (fCons (fVar 0) (fCons (fLstT (fCons (fC (.non)) (fCons (fTup fNil) (fCons (fOp oMul (fTup (fCons (fTup (fCons (fC (.int 0)) (fCons (fC (.int 1)) fNil))) fNil)) (fC (.int 3))) (fCons (fOp oMul (fTup (fCons (fTup (fCons (fC (.int 1)) (fCons (fC (.int 1)) fNil))) fNil)) (fC (.int 7))) (fCons (fLstT (fCons (fTup (fCons (fC (.int 1)) (fCons (fC (.int 1)) fNil))) fNil)) (fCons (fTup (fCons (fTup (fCons (fUn oNeg (fC (.int 1))) (fCons (fC (.int 1)) fNil))) fNil)) (fCons (fTup (fCons (fC (.int 1)) fNil)) (fCons (fTup (fCons (fTup (fCons (fC (.int 2)) (fCons (fC (.int 4)) fNil))) fNil)) fNil))))))))) fNil))) (gfName 3)
def S__law_are_all_refused_2 (fid : Nat) : SF := fAsg (fLstT (fCons (fLam 0 fid) fNil)) (gfName 4)
def S__law_are_all_refused_3b_1 (fid : Nat) : SF := fAsg (fOp oIx (fCallS fid [("wears", 1), ("many", 2), ("bad", 3), ("call", 5), ("odd", 7), ("wrong", 8)] 1 F__law_heard (fCons (fLam 1 fid) fNil)) (fC (.int 0))) (gfName 6)
def S__law_are_all_refused_3b_2 (fid : Nat) : SF := fIfS (fOr (fNot (fB (fCallB (oIsi isC) (fCons (fVar 6) (fCons (fC (.cls 2)) fNil))))) (fB (fOp oNe (fCallB oRepr (fCons (fVal okC (fVar 6)) fNil)) (fCallB oRepr (fCons (fVar 3) fNil))))) (fRet (fC (.bl false))) fNext
def S__law_are_all_refused_3b (fid : Nat) : SF := fSeq (S__law_are_all_refused_3b_1 fid) (S__law_are_all_refused_3b_2 fid)
def S__law_are_all_refused_3 (fid : Nat) : SF := fFor (srcE (fLstT (fCons (fC (.cls 4)) (fCons (fC (.cls 5)) (fCons (fC (.cls 6)) (fCons (fC (.cls 7)) (fCons (fC (.cls 8)) fNil))))))) (gfName 5) (S__law_are_all_refused_3b fid)
def S__law_are_all_refused_4 (fid : Nat) : SF := fIfS (fNot (fB (fCallS fid [("wears", 1), ("many", 2), ("bad", 3), ("call", 5), ("odd", 7), ("wrong", 8)] 3 F__law_are_refused (fCons (fVar 4) (fCons (fLam 2 fid) (fCons (fVar 3) fNil)))))) (fRet (fC (.bl false))) fNext
def S__law_are_all_refused_5 (fid : Nat) : SF := fAsg (fCall 2 F__law_of (fCons (fVar 0) (fCons (fLstT (fCons (fC (.non)) (fCons (fOp oSub (fCallB oLen (fCons (fVar 1) fNil)) (fC (.int 1))) (fCons (fC (.int 9)) (fCons (fC (.bl true)) (fCons (fC (.str "4")) fNil)))))) fNil))) (gfName 7)
def S__law_are_all_refused_6 (fid : Nat) : SF := fAsg (fCall 2 F__law_of (fCons (fVar 0) (fCons (fLstT (fCons (fC (.non)) (fCons (fTup (fCons (fC (.int 0)) (fCons (fC (.int 1)) fNil))) (fCons (fTup (fCons (fUn oNeg (fC (.int 1))) (fCons (fC (.int 1)) fNil))) (fCons (fTup (fCons (fC (.int 2)) (fCons (fC (.int 4)) fNil))) (fCons (fC (.int 1)) fNil)))))) fNil))) (gfName 8)
def S__law_are_all_refused_7b_1 (fid : Nat) : SF := fAsg (fOp oIx (fCallS fid [("wears", 1), ("many", 2), ("bad", 3), ("call", 5), ("odd", 7), ("wrong", 8)] 1 F__law_heard (fCons (fLam 3 fid) fNil)) (fC (.int 0))) (gfName 6)
def S__law_are_all_refused_7b_2 (fid : Nat) : SF := fIfS (fOr (fNot (fB (fCallB (oIsi isC) (fCons (fVar 6) (fCons (fC (.cls 3)) fNil))))) (fB (fOp oNe (fCallB oRepr (fCons (fVal okC (fVar 6)) fNil)) (fCallB oRepr (fCons (fVar 7) fNil))))) (fRet (fC (.bl false))) fNext
def S__law_are_all_refused_7b_3 (fid : Nat) : SF := fAsg (fOp oIx (fCallS fid [("wears", 1), ("many", 2), ("bad", 3), ("call", 5), ("odd", 7), ("wrong", 8)] 1 F__law_heard (fCons (fLam 4 fid) fNil)) (fC (.int 0))) (gfName 6)
def S__law_are_all_refused_7b_4 (fid : Nat) : SF := fIfS (fOr (fNot (fB (fCallB (oIsi isC) (fCons (fVar 6) (fCons (fC (.cls 1)) fNil))))) (fB (fOp oNe (fCallB oRepr (fCons (fVal okC (fVar 6)) fNil)) (fCallB oRepr (fCons (fVar 8) fNil))))) (fRet (fC (.bl false))) fNext
def S__law_are_all_refused_7b (fid : Nat) : SF := fSeq (S__law_are_all_refused_7b_1 fid) (fSeq (S__law_are_all_refused_7b_2 fid) (fSeq (S__law_are_all_refused_7b_3 fid) (S__law_are_all_refused_7b_4 fid)))
def S__law_are_all_refused_7 (fid : Nat) : SF := fFor (srcE (fLstT (fCons (fC (.cls 4)) (fCons (fC (.cls 5)) (fCons (fC (.cls 6)) (fCons (fC (.cls 7)) (fCons (fC (.cls 8)) fNil))))))) (gfName 5) (S__law_are_all_refused_7b fid)
def S__law_are_all_refused_8 (fid : Nat) : SF := fRet (fCallS fid [("wears", 1), ("many", 2), ("bad", 3), ("call", 5), ("odd", 7), ("wrong", 8)] 3 F__law_are_refused (fCons (fLstT (fCons (fLam 5 fid) fNil)) (fCons (fLam 6 fid) (fCons (fVar 8) fNil))))
def S__law_are_all_refused (fid : Nat) : SF := fSeq (S__law_are_all_refused_1 fid) (fSeq (S__law_are_all_refused_2 fid) (fSeq (S__law_are_all_refused_3 fid) (fSeq (S__law_are_all_refused_4 fid) (fSeq (S__law_are_all_refused_5 fid) (fSeq (S__law_are_all_refused_6 fid) (fSeq (S__law_are_all_refused_7 fid) (S__law_are_all_refused_8 fid)))))))
theorem S__law_are_all_refused_eq (fid : Nat) : B__law_are_all_refused fid = S__law_are_all_refused fid := rfl
def S__law_right_1b_1 : SF := fAsg (fCallB oTuple (fCons (fLcT [4] (srcR1 (fCons (fOp oAdd (fC (.int 1)) (fCall 2 F__law_take (fCons (fVar 0) (fCons (fC (.int 6)) fNil)))) fNil)) (gfName 4) fYes (fCall 1 F__law_wear (fCons (fVar 0) fNil))) fNil)) (gfName 2)
def S__law_right_1b_2 : SF := fIfS (fB (fCallB oAll (fCons (fLcT [5] (srcE (fVar 2)) (gfName 5) fYes (fOp oEq (fVar 5) (fTup (fCons (fC (.int 0)) (fCons (fC (.int 1)) fNil))))) fNil))) (fAsg (fOp oAdd (fSlL (fVar 2) (fC (.int 1))) (fTup (fCons (fTup (fCons (fC (.int 1)) (fCons (fC (.int 2)) fNil))) fNil))) (gfName 2)) fNext
def S__law_right_1b_3 : SF := fAsg (fOp oAdd (fCallB oLen (fCons (fVar 2) fNil)) (fCallB oInt1 (fCons (fCall 2 F__law_take (fCons (fVar 0) (fCons (fOp oSub (fC (.int 9)) (fCallB oLen (fCons (fVar 2) fNil))) fNil))) fNil))) (gfName 3)
def S__law_right_1b_4 : SF := fIfS (fOr (fNot (fB (fCall 3 F__law_are_like_right (fCons (fVar 2) (fCons (fVar 3) (fCons (fCall 2 F__law_number (fCons (fVar 0) (fCons (fC (.int 40)) fNil))) fNil)))))) (fNot (fB (fCall 3 F__law_are_all_refused (fCons (fVar 0) (fCons (fVar 2) (fCons (fVar 3) fNil))))))) (fRet (fC (.bl false))) fNext
def S__law_right_1b : SF := fSeq S__law_right_1b_1 (fSeq S__law_right_1b_2 (fSeq S__law_right_1b_3 S__law_right_1b_4))
def S__law_right_1 : SF := fFor (srcR1 (fCons (fC (.int 8)) fNil)) (gfName 1) (S__law_right_1b)
def S__law_right_2 : SF := fRet (fC (.bl true))
def S__law_right : SF := fSeq S__law_right_1 S__law_right_2
theorem S__law_right_eq : B__law_right = S__law_right := rfl
def S_law_1 : SF := fAsg (fTup (fCons (fTup (fCons (fC (.int 1)) (fCons (fC (.int 20000)) fNil))) (fCons (fTup (fCons (fC (.int 1)) (fCons (fC (.int 40000)) fNil))) fNil))) (gfTup 2 (gfCons (gfName 1) (gfCons (gfName 2) gfNil)))
def S_law_2 : SF := fIfS (fB (fOp oNe (fCall 3 F_round_way (fCons (fTup (fCons (fVar 1) (fCons (fVar 1) (fCons (fVar 2) (fCons (fVar 2) fNil))))) (fCons (fC (.int 5)) (fCons (fTup (fCons (fC (.int 1)) (fCons (fC (.int 1)) fNil))) fNil)))) (fTup (fCons (fC (.int 100000)) (fCons (fC (.int 3)) fNil))))) (fRet (fC (.bl false))) fNext
def S_law_3 : SF := fRet (fCallB oAll (fCons (fLcT [3] (srcE (fCall 2 F__law_cells (fCons (fVar 0) (fCons (fC (.int 3)) fNil)))) (gfName 3) fYes (fCall 1 F__law_right (fCons (fCall 2 F__law_pot (fCons (fVar 0) (fCons (fVar 3) fNil))) fNil))) fNil))
def S_law : SF := fSeq S_law_1 (fSeq S_law_2 S_law_3)
theorem S_law_eq : B_law = S_law := rfl
end K08

namespace K08
open Pv PySem PySem.Spec PyProof.Rows L2
theorem b_price : K08.F_is_price = Pv.F_is_price K08.isC := rfl
theorem b_int : K08.F_is_int = Pv.F_is_int K08.isC := rfl
theorem b_over : K08.F_over = Pv.F_over := rfl
theorem b_times : K08.F_times = Pv.F_times := rfl
theorem b_minus : K08.F_minus = Pv.F_minus := rfl
theorem b_summed : K08.F_summed = Pv.F_summed := rfl
theorem b_greatest : K08.F_greatest_of = Pv.F_greatest_of := rfl
theorem b_less : K08.F_is_less = Pv.F_is_less := rfl
theorem b_lplus : K08.F__law_plus = Pv.F__law_plus := rfl
theorem b_ltimes : K08.F__law_times = Pv.F__law_times := rfl
theorem b_lless : K08.F__law_less = Pv.F__law_less := rfl
theorem b_lover : K08.F__law_over = Pv.F__law_over := rfl
theorem b_lsum : K08.F__law_sum = Pv.F__law_sum := rfl
theorem b_lisless : K08.F__law_is_less = Pv.F__law_is_less := rfl
theorem b_lexact : K08.F__law_is_exact = Pv.F__law_is_exact K08.isC := rfl
theorem b_lshare : K08.F__law_is_share = Pv.F__law_is_share K08.isC := rfl
theorem b_lgreatest : K08.F__law_greatest = Pv.F__law_greatest := rfl
theorem b_lnumber : K08.F__law_number = Pv.F__law_number := rfl
theorem b_take : K08.F__law_take = Pv.F__law_take := rfl
theorem b_of : K08.F__law_of = Pv.F__law_of := rfl
theorem b_pot : K08.F__law_pot = Pv.F__law_pot := rfl
theorem b_cells : K08.F__law_cells = Pv.F__law_cells := rfl
theorem b_frac : K08.F__law_frac = Pv.F_law_frac := rfl
theorem b_heard : K08.F__law_heard = Pv.F_heard K08.isC K08.tab0 := rfl
theorem b_refused : K08.F__law_are_refused = Pv.F_refused K08.isC K08.okC K08.tab0 K08.tab1 := rfl
def wsV (ws : List Rat) : PV := .tup (ws.map rV)
structure Wr (ws : List Rat) : Prop where
  w : ∀ w ∈ ws, 0 ≤ w ∧ Bd 3 w
  l1 : 1 ≤ ws.length
  l6 : ws.length ≤ 6
  pos : ∃ w ∈ ws, 0 < w
theorem rsum_cons (rs : List Rat) : ∀ a : Rat, rs.foldl (· + ·) a = a + rs.foldl (· + ·) 0 := by
  induction rs with
  | nil => intro a; show a = a + 0; grind
  | cons r rs ih =>
    intro a
    show rs.foldl (· + ·) (a + r) = a + rs.foldl (· + ·) (0 + r)
    rw [ih (a + r), ih (0 + r)]
    grind
theorem rsum_cons' (r : Rat) (rs : List Rat) : rsum (r :: rs) = r + rsum rs := by
  show rs.foldl (· + ·) (0 + r) = _
  rw [rsum_cons]
  show 0 + r + rsum rs = _
  grind
theorem rsum_nn : ∀ {rs : List Rat}, (∀ r ∈ rs, 0 ≤ r) → 0 ≤ rsum rs ∧ ∀ r ∈ rs, r ≤ rsum rs
  | [], _ => ⟨by decide, fun r hr => by simp at hr⟩
  | r :: rs, h => by
    obtain ⟨h1, h2⟩ := rsum_nn fun x hx => h x (List.mem_cons_of_mem _ hx)
    have h0 := h r List.mem_cons_self
    rw [rsum_cons']
    refine ⟨by grind, fun x hx => ?_⟩
    rcases List.mem_cons.mp hx with q | q
    · rw [q]; grind
    · have := h2 x q
      grind
theorem Wr.sum_pos {ws : List Rat} (h : Wr ws) : 0 < rsum ws := by
  obtain ⟨w, hw, hp⟩ := h.pos
  have := (rsum_nn fun r hr => (h.w r hr).1).2 w hw
  grind
theorem Wr.sum_bd {ws : List Rat} (h : Wr ws) : Bd 24 (rsum ws) := (rsum_all fun r hr => (h.w r hr).2).mono (by have := h.l6; omega)
theorem ws_len (ws : List Rat) (s : Sto) : oLen [wsV ws] s = some (.int (ws.length : Nat)) := by unfold wsV; rw [oLen_tup, List.length_map]
theorem ws_list (ws : List Rat) (s : Sto) : oListT [wsV ws] s = some (.tmp (ws.map rV)) := rfl
theorem isi_ws (ws : List Rat) (s : Sto) : oIsi isC [wsV ws, .ty "tuple"] s = some (.bl true) := rfl
theorem look_wears_k {k : Nat} {ws : List Rat} (hw : ∀ w ∈ ws, 0 ≤ w ∧ Bd k w) (hk : k ≤ 19) (h1 : 1 ≤ ws.length) (h6 : ws.length ≤ 6) (hpos : ∃ w ∈ ws, 0 < w) (s : Sto) : F_look_at_wears [wsV ws] s = .ok .non s := by
  have src : SrcAt (srcE (fVar 0)) [some (wsV ws), none] s (ws.map rV) := srcAt_seq (p := wsV ws) rfl rfl
  have c1 := fLcT_map (vs := [1]) (gt := gfName 1) (fe := fCall 1 F_is_price (fCons (fVar 1) fNil)) (ρ0 := [some (wsV ws), none]) ws rV (fun r => .bl (decide (0 ≤ r))) src rfl (by omega)
    (fun r hr => ⟨[some (wsV ws), some (rV r)], rfl, fCall_ok (xs := [rV r]) rfl rfl (by rw [b_price]; exact price_r _ (hw r hr).2 hk s)⟩)
  have a1 : (ws.all fun r => decide (0 ≤ r)) = true := List.all_eq_true.mpr fun r hr => decide_eq_true (hw r hr).1
  have c2 := fLcT_map (vs := [1]) (gt := gfName 1) (fe := fOp oEq (fVar 1) (fC (.tup [.int 0, .int 1]))) (ρ0 := [some (wsV ws), none]) ws rV (fun r => .bl (decide (r = 0))) src rfl (by omega)
    (fun r hr => ⟨[some (wsV ws), some (rV r)], rfl, fOp_ok (p := rV r) (q := rV 0) rfl rfl (oEq_r r 0 s)⟩)
  have a2 : (ws.all fun r => decide (r = 0)) = false := by
    obtain ⟨w, hw, hp⟩ := hpos
    rw [List.all_eq_false]
    exact ⟨w, hw, by simp; grind⟩
  have e1 := fCallB_ok (fCons_ok c1 fNil_ok) (oAll_map ws (fun r => decide (0 ≤ r)) s)
  have e2 := fCallB_ok (fCons_ok c2 fNil_ok) (oAll_map ws (fun r => decide (r = 0)) s)
  rw [a1] at e1
  rw [a2] at e2
  have hA : S_look_at_wears_1 [some (wsV ws), none] s = .nx [some (wsV ws), none] s := by
    refine fIfS_f (fOr_f (fNot_ok (b := true) (fB_ok (fCallB_ok (xs := [wsV ws, .ty "tuple"]) rfl rfl))) (fNot_ok (b := true) (fB_ok ?_))) rfl
    have x1 : (1 : Int) ≤ (ws.length : Nat) := by omega
    have x2 : ((ws.length : Nat) : Int) ≤ 6 := by omega
    simp only [fChain, fC, fCallB, fCons, fNil, fVar, List.getElem?_cons_zero, Res.bind_ok, ws_len, lift1_some, oLe_int, x1, x2, decide_true]
  have hB : S_look_at_wears_2 [some (wsV ws), none] s = .nx [some (wsV ws), none] s :=
    fIfS_f (fOr_f (fNot_ok (b := true) (fB_ok e1)) (fB_ok e2)) rfl
  unfold F_look_at_wears
  rw [fDef_of (by rfl), S_look_at_wears_eq]
  show ofS (S_look_at_wears [some (wsV ws), none] s) = _
  rw [show S_look_at_wears [some (wsV ws), none] s = .nx [some (wsV ws), none] s from fSeq_nx hA hB]
  rfl
theorem look_wears_ok {ws : List Rat} (h : Wr ws) (s : Sto) : F_look_at_wears [wsV ws] s = .ok .non s := look_wears_k h.w (by decide) h.l1 h.l6 h.pos s
theorem look_above_ok {l : Rat} {k : Nat} (h : 0 < l) (hb : Bd k l) (hk : k ≤ 19) (s : Sto) : F_look_at_above [rV l] s = .ok .non s := by
  have e1 : F_is_price [rV l] s = .ok (.bl true) s := by
    rw [b_price, price_r _ hb hk s]
    have : (0 : Rat) ≤ l := by grind
    simp [this]
  have hn : l.num ≠ 0 := fun z => by
    have := Rat.num_eq_zero.mp z
    grind
  have e2 : oEq (.int l.num) (.int 0) s = some (.bl false) := by rw [oEq_int]; simp [hn]
  have hA : B_look_at_above [some (rV l)] s = .nx [some (rV l)] s := fIfS_f (fOr_f (fNot_ok (b := true) (fB_ok (fCall_ok (xs := [rV l]) rfl rfl e1))) (fB_ok (fOp_ok (p := .int l.num) (q := .int 0) (fOp_ok (p := rV l) (q := .int 0) rfl rfl (oIx_0 _ _ _)) rfl e2))) rfl
  unfold F_look_at_above
  rw [fDef_of (by rfl)]
  show ofS (B_look_at_above [some (rV l)] s) = _
  rw [hA]
  rfl
structure Ok (ws : List Rat) (m : Nat) (l : Rat) : Prop where
  w : Wr ws
  m1 : ws.length ≤ m
  m8 : m ≤ 8
  l0 : 0 < l
  lb : Bd 6 l
section
variable {ws : List Rat} {m : Nat} {l : Rat} (h : Ok ws m l) (s : Sto)
include h
theorem many_ok : F_is_int [.int (m : Nat), .int (ws.length : Nat), .int 8] s = .ok (.bl true) s := by
  have h1 := h.m1
  have h2 := h.m8
  rw [b_int, is_int_int]
  simp
  omega
theorem look_like_ok : F_look_at_like [wsV ws, .int (m : Nat), rV l] s = .ok .non s := by
  have e1 := look_wears_ok h.w s
  have e2 := many_ok h s
  have e3 := look_above_ok h.l0 h.lb (by decide) s
  have hA : B_look_at_like [some (wsV ws), some (.int (m : Nat)), some (rV l)] s = .nx [some (wsV ws), some (.int (m : Nat)), some (rV l)] s := by
    refine fSeq_nx (fDrop_ok (fCall_ok (xs := [wsV ws]) rfl rfl e1)) (fSeq_nx (fIfS_f (fNot_ok (b := true) (fB_ok (fCall_ok (xs := [.int (m : Nat), .int (ws.length : Nat), .int 8]) ?_ rfl e2))) rfl) (fDrop_ok (fCall_ok (xs := [rV l]) rfl rfl e3)))
    exact fCons_ok (fVar_ok rfl) (fCons_ok (fCallB_ok (xs := [wsV ws]) rfl (ws_len ws s)) rfl)
  unfold F_look_at_like
  rw [fDef_of (by rfl)]
  show ofS (B_look_at_like [some (wsV ws), some (.int (m : Nat)), some (rV l)] s) = _
  rw [hA]
  rfl
theorem look_few_ok : F_look_at_few [wsV ws, rV l] s = .ok .non s := by
  have e1 := look_wears_ok h.w s
  have e3 := look_above_ok h.l0 h.lb (by decide) s
  have hA : B_look_at_few [some (wsV ws), some (rV l)] s = .nx [some (wsV ws), some (rV l)] s := fSeq_nx (fDrop_ok (fCall_ok (xs := [wsV ws]) rfl rfl e1)) (fDrop_ok (fCall_ok (xs := [rV l]) rfl rfl e3))
  unfold F_look_at_few
  rw [fDef_of (by rfl)]
  show ofS (B_look_at_few [some (wsV ws), some (rV l)] s) = _
  rw [hA]
  rfl
theorem m_bd : Bd 3 (m : Rat) := bd_nat (by have := h.m8; omega)
theorem wsum_ok : F_summed [.tmp (ws.map rV)] s = .ok (rV (rsum ws)) s := by
  rw [b_summed]
  exact summed_b (k := 3) (fun r hr => (h.w.w r hr).2) (by have := h.w.l6; omega) (by decide) s
def wayR (ws : List Rat) (m : Nat) (l : Rat) : Rat := (m : Rat) * l / rsum ws
def legR (ws : List Rat) (l : Rat) : Rat := l / rsum ws
theorem way_bd : Bd 33 (wayR ws m l) := ((m_bd h).mul h.lb).div h.w.sum_bd h.w.sum_pos
theorem leg_bd : Bd 30 (legR ws l) := h.lb.div h.w.sum_bd h.w.sum_pos
theorem told_round_ok : F_told_round [wsV ws, .int (m : Nat), rV l] s = .ok (rV (wayR ws m l)) s := by
  have e1 : F_times [rV (m : Rat), rV l] s = .ok (rV ((m : Rat) * l)) s := by rw [b_times]; exact times_r ((m_bd h).mono (by decide)) (h.lb.mono (by decide)) s
  have e2 := wsum_ok h s
  have e3 : F_over [rV ((m : Rat) * l), rV (rsum ws)] s = .ok (rV (wayR ws m l)) s := by rw [b_over]; exact over_r (((m_bd h).mul h.lb).mono (by decide)) (h.w.sum_bd.mono (by decide)) s h.w.sum_pos
  refine fDef_ok (ρ := [some (wsV ws), some (.int (m : Nat)), some (rV l)]) rfl rfl (fRet_ok (fCall_ok (s1 := s) (xs := [rV ((m : Rat) * l), rV (rsum ws)]) ?_ rfl e3))
  exact fCons_ok (fCall_ok (xs := [rV (m : Rat), rV l]) rfl rfl e1) (fCons_ok (fCall_ok (xs := [.tmp (ws.map rV)]) rfl rfl e2) fNil_ok)
theorem round_way_ok : F_round_way [wsV ws, .int (m : Nat), rV l] s = .ok (rV (wayR ws m l)) s :=
  fDef_ok (ρ := [some (wsV ws), some (.int (m : Nat)), some (rV l)]) rfl rfl (fSeq_nx (fDrop_ok (fCall_ok (xs := [wsV ws, .int (m : Nat), rV l]) rfl rfl (look_like_ok h s))) (fRet_ok (fCall_ok (xs := [wsV ws, .int (m : Nat), rV l]) rfl rfl (told_round_ok h s))))
theorem m_pos : 1 ≤ m := Nat.le_trans h.w.l1 h.m1
def stkV (ws : List Rat) (m : Nat) (l : Rat) : PV := .tup [.int (ws.length : Nat), .tup (List.replicate m (.tup [rV l, wsV ws]))]
theorem stock_ok : F_stock_of [wsV ws, .int (m : Nat), rV l] s = .ok (stkV ws m l) s := by
  refine fDef_ok (ρ := [some (wsV ws), some (.int (m : Nat)), some (rV l)]) rfl rfl (fSeq_nx (fDrop_ok (fCall_ok (xs := [wsV ws, .int (m : Nat), rV l]) rfl rfl (look_like_ok h s))) (fRet_ok (fTup_ok (fCons_ok (fCallB_ok (xs := [wsV ws]) rfl (ws_len ws s)) (fCons_ok ?_ fNil_ok)) (by simp))))
  exact fOp_ok (p := .tup [.tup [rV l, wsV ws]]) (q := .int (m : Nat)) rfl rfl (oMul_rep _ (m_pos h) (by have := h.m8; omega) s)
/-- the i-th leg's seating -/
def seatV (n m i : Nat) : PV := .tup ((List.range n).map fun (p : Nat) => .int (((p : Int) - (i : Nat)).fmod (m : Nat)))
def planV (ws : List Rat) (m : Nat) (l : Rat) : PV := .tup ((List.range m).map fun i => .tup [rV (legR ws l), seatV ws.length m i])
theorem leg_ok : F_over [rV l, rV (rsum ws)] s = .ok (rV (legR ws l)) s := by
  rw [b_over]
  exact over_r (h.lb.mono (by decide)) (h.w.sum_bd.mono (by decide)) s h.w.sum_pos
theorem plan_ok : F_round_plan [wsV ws, .int (m : Nat), rV l] s = .ok (planV ws m l) s := by
  have h8 := h.m8
  have hp := m_pos h
  have h6 := h.w.l6
  have e2 := wsum_ok h s
  have e3 := leg_ok h s
  have hA : S_round_plan_2 [some (wsV ws), some (.int (m : Nat)), some (rV l), none, none, none] s = .nx [some (wsV ws), some (.int (m : Nat)), some (rV l), some (rV (legR ws l)), none, none] s :=
    fAsgN_ok (fCall_ok (xs := [rV l, rV (rsum ws)]) (fCons_ok (fVar_ok rfl) (fCons_ok (fCall_ok (xs := [.tmp (ws.map rV)]) rfl rfl e2) fNil_ok)) rfl e3)
  have src := srcAt_rng1 (fs := fCons (fVar 1) fNil) (ρ := [some (wsV ws), some (.int (m : Nat)), some (rV l), some (rV (legR ws l)), none, none]) (s := s) (n := m) rfl (by omega)
  have c1 := fLcT_map (vs := [4]) (gt := gfName 4) (fe := fTup (fCons (fVar 3) (fCons (fCallB oTuple (fCons (fLcT [5] (srcR1 (fCons (fCallB oLen (fCons (fVar 0) fNil)) fNil)) (gfName 5) fYes (fOp oMod (fOp oSub (fVar 5) (fVar 4)) (fVar 1))) fNil)) fNil))) (ρ0 := [some (wsV ws), some (.int (m : Nat)), some (rV l), some (rV (legR ws l)), none, none]) (List.range m) (fun i => .int (i : Nat)) (fun i => .tup [rV (legR ws l), seatV ws.length m i]) src rfl (by simp; omega)
    (fun i hi => by
      refine ⟨[some (wsV ws), some (.int (m : Nat)), some (rV l), some (rV (legR ws l)), some (.int (i : Nat)), none], rfl, ?_⟩
      have src2 := srcAt_rng1 (fs := fCons (fCallB oLen (fCons (fVar 0) fNil)) fNil) (ρ := [some (wsV ws), some (.int (m : Nat)), some (rV l), some (rV (legR ws l)), some (.int (i : Nat)), none]) (s := s) (n := ws.length) (fCons_ok (fCallB_ok (xs := [wsV ws]) rfl (ws_len ws s)) fNil_ok) (by omega)
      have c2 := fLcT_map (vs := [5]) (gt := gfName 5) (fe := fOp oMod (fOp oSub (fVar 5) (fVar 4)) (fVar 1)) (ρ0 := [some (wsV ws), some (.int (m : Nat)), some (rV l), some (rV (legR ws l)), some (.int (i : Nat)), none]) (List.range ws.length) (fun p => .int (p : Nat)) (fun (p : Nat) => .int (((p : Int) - (i : Nat)).fmod (m : Nat))) src2 rfl (by simp; omega)
        (fun p hp => ⟨[some (wsV ws), some (.int (m : Nat)), some (rV l), some (rV (legR ws l)), some (.int (i : Nat)), some (.int (p : Nat))], rfl, fOp_ok (p := .int ((p : Int) - (i : Nat))) (q := .int (m : Nat)) rfl rfl (oMod_int _ _ _ (by omega))⟩)
      exact fTup_ok (fCons_ok (fVar_ok rfl) (fCons_ok (fCallB_ok (fCons_ok c2 fNil_ok) rfl) fNil_ok)) (by simp))
  refine fDef_ok (ρ := [some (wsV ws), some (.int (m : Nat)), some (rV l), none, none, none]) rfl rfl ?_
  rw [S_round_plan_eq]
  exact fSeq_nx (fDrop_ok (fCall_ok (xs := [wsV ws, .int (m : Nat), rV l]) rfl rfl (look_like_ok h s))) (fSeq_nx hA (fRet_ok (fCallB_ok (fCons_ok c1 fNil_ok) rfl)))
def prcV (ws : List Rat) (m : Nat) : PV := .tup [.tup (ws.map fun w => rV (w / rsum ws)), .tup (List.replicate m (rV 0)), .tup (List.replicate m (rV (1 / rsum ws)))]
theorem prices_ok : F_round_prices [wsV ws, .int (m : Nat), rV l] s = .ok (prcV ws m) s := by
  have h8 := h.m8
  have hp := m_pos h
  have h6 := h.w.l6
  have e2 := wsum_ok h s
  have hA : S_round_prices_2 [some (wsV ws), some (.int (m : Nat)), some (rV l), none, none] s = .nx [some (wsV ws), some (.int (m : Nat)), some (rV l), some (rV (rsum ws)), none] s :=
    fAsgN_ok (fCall_ok (xs := [.tmp (ws.map rV)]) rfl rfl e2)
  have src : SrcAt (srcE (fVar 0)) [some (wsV ws), some (.int (m : Nat)), some (rV l), some (rV (rsum ws)), none] s (ws.map rV) := srcAt_seq (p := wsV ws) rfl rfl
  have c1 := fLcT_map (vs := [4]) (gt := gfName 4) (fe := fCall 2 F_over (fCons (fVar 4) (fCons (fVar 3) fNil))) (ρ0 := [some (wsV ws), some (.int (m : Nat)), some (rV l), some (rV (rsum ws)), none]) ws rV (fun w => rV (w / rsum ws)) src rfl (by omega)
    (fun w hw => ⟨[some (wsV ws), some (.int (m : Nat)), some (rV l), some (rV (rsum ws)), some (rV w)], rfl, fCall_ok (xs := [rV w, rV (rsum ws)]) rfl rfl (by rw [b_over]; exact over_r ((h.w.w w hw).2.mono (by decide)) (h.w.sum_bd.mono (by decide)) s h.w.sum_pos)⟩)
  have e4 : F_over [rV 1, rV (rsum ws)] s = .ok (rV (1 / rsum ws)) s := by rw [b_over]; exact over_r (bd_1 _) (h.w.sum_bd.mono (by decide)) s h.w.sum_pos
  have q1 := oMul_rep (rV 0) hp (by omega : m ≤ 1000) s
  have q2 := oMul_rep (rV (1 / rsum ws)) hp (by omega : m ≤ 1000) s
  refine fDef_ok (ρ := [some (wsV ws), some (.int (m : Nat)), some (rV l), none, none]) rfl rfl ?_
  rw [S_round_prices_eq]
  refine fSeq_nx (fDrop_ok (fCall_ok (xs := [wsV ws, .int (m : Nat), rV l]) rfl rfl (look_like_ok h s))) (fSeq_nx hA (fRet_ok (fTup_ok (fCons_ok (fCallB_ok (fCons_ok c1 fNil_ok) rfl) (fCons_ok (fOp_ok (p := .tup [rV 0]) (q := .int (m : Nat)) rfl rfl q1) (fCons_ok (fOp_ok (p := .tup [rV (1 / rsum ws)]) (q := .int (m : Nat)) ?_ rfl q2) fNil_ok))) (by simp))))
  exact fTup_ok (fCons_ok (fCall_ok (xs := [rV 1, rV (rsum ws)]) rfl rfl e4) fNil_ok) (by simp)
def wmax : List Rat → Rat
  | [] => 0
  | a :: r => rmax a (a :: r)
theorem wmax_ok : F_greatest_of [.tmp (ws.map rV)] s = .ok (rV (wmax ws)) s ∧ F__law_greatest [.tmp (ws.map rV)] s = .ok (rV (wmax ws)) s ∧ Bd 3 (wmax ws) ∧ 0 < wmax ws ∧ ∀ w ∈ ws, w ≤ wmax ws := by
  have h1 := h.w.l1
  have h6 := h.w.l6
  have hw := h.w
  clear h
  cases ws with
  | nil => simp at h1
  | cons a r =>
    have hs : ∀ x ∈ a :: r, Sr x := fun x hx => (hw.w x hx).2.mono (by decide)
    have hge := (rmax_ge (a :: r) a).2
    refine ⟨by rw [b_greatest]; exact greatest_r hs (by simp at h6; omega) s, by rw [b_lgreatest]; exact lgreatest_r hs s, ?_, ?_, hge⟩
    · show Bd 3 (rmax a (a :: r))
      rcases rmax_mem (a :: r) a with q | q
      · rw [q]; exact (hw.w a List.mem_cons_self).2
      · exact (hw.w _ q).2
    · obtain ⟨w, hw1, hp⟩ := hw.pos
      have := hge w hw1
      show 0 < rmax a (a :: r)
      grind
def stillR (ws : List Rat) (l : Rat) : Rat := l / wmax ws
theorem still_bd : Bd 9 (stillR ws l) := h.lb.div (wmax_ok h default).2.2.1 (wmax_ok h default).2.2.2.1
theorem still_ok : F_over [rV l, rV (wmax ws)] s = .ok (rV (stillR ws l)) s := by
  obtain ⟨_, _, w3, w4, _⟩ := wmax_ok h s
  rw [b_over]
  exact over_r (h.lb.mono (by decide)) (w3.mono (by decide)) s w4
theorem unmoved_ok : F_unmoved_way [wsV ws, rV l] s = .ok (rV (stillR ws l)) s := by
  obtain ⟨w1, _, _, _, _⟩ := wmax_ok h s
  refine fDef_ok (ρ := [some (wsV ws), some (rV l)]) rfl rfl (fSeq_nx (fDrop_ok (fCall_ok (xs := [wsV ws, rV l]) rfl rfl (look_few_ok h s))) (fRet_ok (fCall_ok (s1 := s) (xs := [rV l, rV (wmax ws)]) ?_ rfl (still_ok h s))))
  exact fCons_ok (fVar_ok rfl) (fCons_ok (fCall_ok (xs := [.tmp (ws.map rV)]) rfl rfl w1) fNil_ok)
theorem gain_ok : F_gain_of [wsV ws, .int (m : Nat), rV l] s = .ok (rV (wayR ws m l - stillR ws l)) s := by
  obtain ⟨w1, _, _, _, _⟩ := wmax_ok h s
  have e : F_minus [rV (wayR ws m l), rV (stillR ws l)] s = .ok (rV (wayR ws m l - stillR ws l)) s := by
    rw [b_minus]
    exact minus_r ((way_bd h).mono (by decide)) ((still_bd h).mono (by decide)) s
  refine fDef_ok (ρ := [some (wsV ws), some (.int (m : Nat)), some (rV l)]) rfl rfl (fSeq_nx (fDrop_ok (fCall_ok (xs := [wsV ws, .int (m : Nat), rV l]) rfl rfl (look_like_ok h s))) (fRet_ok (fCall_ok (s1 := s) (xs := [rV (wayR ws m l), rV (stillR ws l)]) ?_ rfl e)))
  exact fCons_ok (fCall_ok (xs := [wsV ws, .int (m : Nat), rV l]) rfl rfl (told_round_ok h s)) (fCons_ok (fCall_ok (s1 := s) (xs := [rV l, rV (wmax ws)]) (fCons_ok (fVar_ok rfl) (fCons_ok (fCall_ok (xs := [.tmp (ws.map rV)]) rfl rfl w1) fNil_ok)) rfl (still_ok h s)) fNil_ok)
end
end K08

namespace K08
open Pv PySem PySem.Spec PyProof.Rows L2
theorem b_lint : K08.F__law_is_int = Pv.F_is_int K08.isC := rfl
def sN (m i p : Nat) : Nat := if i ≤ p then p - i else p + m - i
theorem sN_lt {m i p : Nat} (hi : i < m) (hp : p < m) : sN m i p < m := by unfold sN; split <;> omega
theorem sN_sw {m i p a : Nat} (hi : i < m) (hp : p < m) (ha : a < m) : sN m i p = a ↔ sN m a p = i := by unfold sN; split <;> split <;> omega
theorem sN_inj {m i p q : Nat} (hi : i < m) (hp : p < m) (hq : q < m) (h : sN m i p = sN m i q) : p = q := by unfold sN at h; split at h <;> split at h <;> omega
theorem sN_fmod {m i p : Nat} (hi : i < m) (hp : p < m) : ((p : Int) - (i : Nat)).fmod (m : Nat) = (sN m i p : Nat) := by
  rw [Int.fmod_eq_emod_of_nonneg _ (by omega)]
  unfold sN
  split
  · rw [Int.emod_eq_of_lt (by omega) (by omega)]; omega
  · rw [← Int.add_emod_right, Int.emod_eq_of_lt (by omega) (by omega)]; omega
def seatL (n m i : Nat) : List PV := (List.range n).map fun p => .int (sN m i p : Nat)
theorem seat_eq {n m i : Nat} (hn : n ≤ m) (hi : i < m) : seatV n m i = .tup (seatL n m i) := by
  unfold seatV seatL
  congr 1
  refine List.map_congr_left fun p hp => ?_
  rw [List.mem_range] at hp
  rw [sN_fmod hi (by omega)]
section
variable {ws : List Rat} {m : Nat} {l : Rat} (h : Ok ws m l) (s : Sto)
include h
theorem stk0 : oIx (stkV ws m l) (.int 0) s = some (.int (ws.length : Nat)) := oIx_0 _ _ _
theorem stk1 : oIx (stkV ws m l) (.int 1) s = some (.tup (List.replicate m (.tup [rV l, wsV ws]))) := oIx_1 _ _ _ _
theorem rep_get {α : Type} {x : α} {n i : Nat} (hi : i < n) : (List.replicate n x)[i]? = some x := by simp [hi]
theorem seating_ok {i : Nat} (hi : i < m) : F__law_is_seating [stkV ws m l, seatV ws.length m i] s = .ok (.bl true) s := by
  have hm := h.m1
  have h8 := h.m8
  have h6 := h.w.l6
  rw [seat_eq hm hi]
  have hlen : (seatL ws.length m i).length = ws.length := by simp [seatL]
  have e0 : oLen [.tup (seatL ws.length m i)] s = some (.int (ws.length : Nat)) := by rw [oLen_tup, hlen]
  have e1 : oLen [.tup (List.replicate m (PV.tup [rV l, wsV ws]))] s = some (.int (m : Nat)) := by rw [oLen_tup, List.length_replicate]
  have src : SrcAt (srcE (fVar 1)) [some (stkV ws m l), some (.tup (seatL ws.length m i)), none] s ((List.range ws.length).map fun p => .int (sN m i p : Nat)) := srcAt_seq (p := .tup (seatL ws.length m i)) rfl rfl
  have c1 := fLcT_map (vs := [2]) (gt := gfName 2) (fe := fCall 3 F__law_is_int (fCons (fVar 2) (fCons (fC (.int 0)) (fCons (fOp oSub (fCallB oLen (fCons (fOp oIx (fVar 0) (fC (.int 1))) fNil)) (fC (.int 1))) fNil)))) (ρ0 := [some (stkV ws m l), some (.tup (seatL ws.length m i)), none]) (List.range ws.length) (fun p => .int (sN m i p : Nat)) (fun p => .bl true) src rfl (by simp; omega)
    (fun p hp => by
      rw [List.mem_range] at hp
      have hlt := sN_lt hi (show p < m by omega)
      refine ⟨[some (stkV ws m l), some (.tup (seatL ws.length m i)), some (.int (sN m i p : Nat))], rfl, fCall_ok (s1 := s) (xs := [.int (sN m i p : Nat), .int 0, .int ((m : Nat) - 1)]) (fCons_ok (fVar_ok rfl) (fCons_ok fC_ok (fCons_ok (fOp_ok (q := .int 1) (fCallB_ok (fCons_ok (fOp_ok (p := stkV ws m l) (q := .int 1) rfl rfl (stk1 h s)) fNil_ok) e1) rfl (oSub_int _ _ _)) fNil_ok))) rfl ?_⟩
      rw [b_lint, is_int_int]
      have : decide ((0 : Int) ≤ (sN m i p : Nat) ∧ ((sN m i p : Nat) : Int) ≤ (m : Nat) - 1) = true := by simp; omega
      rw [this])
  have e2 := fCallB_ok (fCons_ok c1 fNil_ok) (oAll_map (List.range ws.length) (fun _ => true) s)
  have a2 : ((List.range ws.length).all fun _ => true) = true := by simp
  rw [a2] at e2
  have hin : intsP (seatL ws.length m i) = some ((List.range ws.length).map fun p => ((sN m i p : Nat) : Int)) := by
    have := intsP_map ((List.range ws.length).map fun p => ((sN m i p : Nat) : Int))
    rw [List.map_map] at this
    exact this
  have hnd : ((List.range ws.length).map fun p => ((sN m i p : Nat) : Int)).Nodup := by
    refine nodup_map List.nodup_range (fun p hp q hq e => ?_)
    rw [List.mem_range] at hp hq
    exact sN_inj hi (by omega) (by omega) (by omega)
  have e3 : fLenSet (fCallB oListT (fCons (fVar 1) fNil)) [some (stkV ws m l), some (.tup (seatL ws.length m i)), none] s = .ok (.int (ws.length : Nat)) s := by
    unfold fLenSet
    rw [fCallB_ok (xs := [.tup (seatL ws.length m i)]) (p := .tmp (seatL ws.length m i)) rfl rfl]
    show (match (liveL (.tmp (seatL ws.length m i)) s).bind intsP with | some ns => if ns.Nodup ∧ ns.length ≤ 4000 then Res.ok (PV.int (ns.length : Nat)) s else .stk | none => .stk) = _
    have : (liveL (.tmp (seatL ws.length m i)) s).bind intsP = some ((List.range ws.length).map fun p => ((sN m i p : Nat) : Int)) := hin
    rw [this]
    show (if _ then _ else _) = _
    rw [if_pos ⟨hnd, by simp; omega⟩, List.length_map, List.length_range]
  refine fDef_ok (ρ := [some (stkV ws m l), some (.tup (seatL ws.length m i)), none]) rfl rfl (fSeq_nx (fIfS_f (fOr_f (fNot_ok (b := true) (fB_ok (fCallB_ok (xs := [.tup (seatL ws.length m i), .ty "tuple"]) rfl rfl))) (fB_ok (fOp_ok (fCallB_ok (xs := [.tup (seatL ws.length m i)]) rfl e0) (fOp_ok (p := stkV ws m l) (q := .int 0) rfl rfl (stk0 h s)) ?_))) rfl) (fSeq_nx (fIfS_f (fNot_ok (b := true) (fB_ok e2)) rfl) (fRet_ok (fOp_ok e3 (fCallB_ok (xs := [.tup (seatL ws.length m i)]) rfl e0) ?_))))
  · rw [oNe_int]; simp
  · rw [oEq_int]; simp
theorem leg_pos : 0 < legR ws l := by
  unfold legR
  have h1 := h.l0
  have h2 := h.w.sum_pos
  rw [Rat.div_def]
  exact Rat.mul_pos h1 (Rat.inv_pos.mpr h2)
theorem lleg_ok {i : Nat} (hi : i < m) : F__law_is_leg [stkV ws m l, .tup [rV (legR ws l), seatV ws.length m i]] s = .ok (.bl true) s := by
  have e1 : F__law_is_exact [rV (legR ws l)] s = .ok (.bl true) s := by rw [b_lexact]; exact lexact_r _ (leg_bd h) (by decide) s
  have hn := num_pos (leg_pos h)
  have e2 : oLt (.int (legR ws l).num) (.int 1) s = some (.bl false) := by rw [oLt_int]; simp; omega
  have e3 := seating_ok h s hi
  generalize seatV ws.length m i = q at *
  refine fDef_ok (ρ := [some (stkV ws m l), some (.tup [rV (legR ws l), q])]) rfl rfl (fSeq_nx (fIfS_f (fOr_f (fNot_ok (b := true) (fB_ok (fCallB_ok (xs := [.tup [rV (legR ws l), q], .ty "tuple"]) rfl rfl))) (fOr_f (fB_ok (fOp_ok (p := .int 2) (q := .int 2) (fCallB_ok (xs := [.tup [rV (legR ws l), q]]) rfl rfl) rfl ?_)) (fOr_f (fNot_ok (b := true) (fB_ok (fCall_ok (s1 := s) (xs := [rV (legR ws l)]) (fCons_ok (fOp_ok (p := .tup [rV (legR ws l), q]) (q := .int 0) rfl rfl (oIx_0 _ _ _)) fNil_ok) rfl e1))) (fB_ok (fOp_ok (q := .int 1) (fOp_ok (q := .int 0) (fOp_ok (p := .tup [rV (legR ws l), q]) (q := .int 0) rfl rfl (oIx_0 _ _ _)) rfl (oIx_0 _ _ _)) rfl e2))))) rfl) (fRet_ok (fCall_ok (s1 := s) (xs := [stkV ws m l, q]) (fCons_ok (fVar_ok rfl) (fCons_ok (fOp_ok (p := .tup [rV (legR ws l), q]) (q := .int 1) rfl rfl (oIx_1 _ _ _ _)) fNil_ok)) rfl e3)))
  rw [oNe_int]; simp
theorem plan_src (ρ : Sl) (i : Nat) (hi : ρ[i]? = some (some (planV ws m l))) : SrcAt (srcE (fVar i)) ρ s ((List.range m).map fun i => .tup [rV (legR ws l), seatV ws.length m i]) := srcAt_seq (p := planV ws m l) (fVar_ok hi) rfl
theorem lplan_ok : F__law_is_plan [stkV ws m l, planV ws m l] s = .ok (.bl true) s := by
  have h8 := h.m8
  have src := plan_src h s [some (stkV ws m l), some (planV ws m l), none] 1 rfl
  have c1 := fLcT_map (vs := [2]) (gt := gfName 2) (fe := fCall 2 F__law_is_leg (fCons (fVar 0) (fCons (fVar 2) fNil))) (ρ0 := [some (stkV ws m l), some (planV ws m l), none]) (List.range m) (fun i => .tup [rV (legR ws l), seatV ws.length m i]) (fun _ => .bl true) src rfl (by simp; omega)
    (fun i hi => ⟨[some (stkV ws m l), some (planV ws m l), some (.tup [rV (legR ws l), seatV ws.length m i])], rfl, fCall_ok (xs := [stkV ws m l, .tup [rV (legR ws l), seatV ws.length m i]]) rfl rfl (lleg_ok h s (List.mem_range.mp hi))⟩)
  have e2 := fCallB_ok (fCons_ok c1 fNil_ok) (oAll_map (List.range m) (fun _ => true) s)
  have a2 : ((List.range m).all fun _ => true) = true := by simp
  rw [a2] at e2
  have e0 : oLen [planV ws m l] s = some (.int (m : Nat)) := by unfold planV; rw [oLen_tup, List.length_map, List.length_range]
  have e1 : oLe (.int (m : Nat)) (.int 200) s = some (.bl true) := by rw [oLe_int]; simp; omega
  refine fDef_ok (ρ := [some (stkV ws m l), some (planV ws m l), none]) rfl rfl (fRet_ok ?_)
  exact fAndV_t (fCallB_ok (xs := [planV ws m l, .ty "tuple"]) rfl rfl) (fAndV_t (fOp_ok (p := .int (m : Nat)) (q := .int 200) (fCallB_ok (xs := [planV ws m l]) rfl e0) rfl e1) e2)
theorem rsum_rep (a : Rat) : ∀ n : Nat, rsum (List.replicate n a) = (n : Rat) * a
  | 0 => by show (0 : Rat) = ((0 : Nat) : Rat) * a; grind
  | n + 1 => by
    rw [List.replicate_succ, rsum_cons', rsum_rep a n]
    have : ((n + 1 : Nat) : Rat) = (n : Rat) + 1 := by grind
    rw [this]
    grind
theorem map_rep {α β : Type} (f : α → β) (a : α) (n : Nat) : ((List.range n).map fun _ => f a) = (List.replicate n a).map f := by
  rw [List.map_replicate, List.map_const']
  simp
theorem lway_ok : F__law_way [planV ws m l] s = .ok (rV (wayR ws m l)) s := by
  have h8 := h.m8
  have src := plan_src h s [some (planV ws m l), none] 0 rfl
  have c1 := fLcT_map (vs := [1]) (gt := gfName 1) (fe := fOp oIx (fVar 1) (fC (.int 0))) (ρ0 := [some (planV ws m l), none]) (List.range m) (fun i => .tup [rV (legR ws l), seatV ws.length m i]) (fun _ => rV (legR ws l)) src rfl (by simp; omega)
    (fun i hi => ⟨[some (planV ws m l), some (.tup [rV (legR ws l), seatV ws.length m i])], rfl, fOp_ok (p := .tup [rV (legR ws l), seatV ws.length m i]) (q := .int 0) rfl rfl (oIx_0 _ _ _)⟩)
  rw [map_rep h rV (legR ws l) m] at c1
  have e1 : F__law_sum [.tmp ((List.replicate m (legR ws l)).map rV)] s = .ok (rV (rsum (List.replicate m (legR ws l)))) s := by
    rw [b_lsum]
    exact lsum_b (k := 30) (fun r hr => by rw [List.eq_of_mem_replicate hr]; exact leg_bd h) (by decide) (by rw [List.length_replicate]; omega) s
  rw [rsum_rep h] at e1
  have e2 : (m : Rat) * legR ws l = wayR ws m l := by
    unfold legR wayR
    rw [Rat.div_def, Rat.div_def, Rat.mul_assoc]
  rw [e2] at e1
  exact fDef_ok (ρ := [some (planV ws m l), none]) rfl rfl (fRet_ok (fCall_ok (fCons_ok c1 fNil_ok) rfl e1))
end
end K08

namespace K08
open Pv PySem PySem.Spec PyProof.Rows L2
theorem grow_set {s s' : Sto} (h : Grow s s') {L : Nat} (hL : s.objs.length ≤ L) (o : PObj) : Grow s (s'.set L o) := by
  obtain ⟨x, rfl⟩ := h
  refine ⟨x.set (L - s.objs.length) o, ?_⟩
  show { s with objs := (s.objs ++ x).set L o } = _
  rw [List.set_append_right _ _ hL]
/-- the rows of the table at L0 -/
structure TabS (s0 s : Sto) (m n : Nat) (V : Nat → Nat → Rat) : Prop where
  g : Grow s0 s
  r : ∀ a, a < m → s.objs[s0.objs.length + a]? = some (.lst ((List.range n).map fun p => rV (V a p)))
def locs (s0 : Sto) (m : Nat) : List PV := (List.range m).map fun a => .loc (s0.objs.length + a)
section
variable {ws : List Rat} {m : Nat} {l : Rat} (h : Ok ws m l) (s : Sto)
include h
theorem ltab1 : ∃ s', S__law_table_1 [some (stkV ws m l), some (planV ws m l), none, none, none, none, none, none] s = .nx [some (stkV ws m l), some (planV ws m l), some (.tmp (locs s m)), none, none, none, none, none] s' ∧ TabS s s' m ws.length (fun _ _ => 0) := by
  have h8 := h.m8
  have h6 := h.w.l6
  obtain ⟨acc, s', e, rfl, hg, hr⟩ := compN_inv (it := fun i _ => some (List.replicate m (PV.tup [rV l, wsV ws]))[i]?) (gt := gfName 6) (ft := fYes) (fe := fMulL (fLstT (fCons (fTup (fCons (fC (.int 0)) (fCons (fC (.int 1)) fNil))) fNil)) (fOp oIx (fVar 0) (fC (.int 0)))) (ρ0 := [some (stkV ws m l), some (planV ws m l), none, none, none, none, none, none]) (N := m) (fun _ => PV.tup [rV l, wsV ws])
    (fun i s' acc => acc = locs s i ∧ ((Grow s s' ∧ s'.objs.length = s.objs.length + i) ∧ ∀ a, a < i → s'.objs[s.objs.length + a]? = some (.lst ((List.range ws.length).map fun p => rV 0)))) (by omega)
    (fun i s' acc _ => by
      by_cases hi : i < m
      · rw [if_pos hi]; simp [hi]
      · rw [if_neg hi, List.getElem?_eq_none (by rw [List.length_replicate]; omega)])
    (fun i s' acc hi hI => by
      obtain ⟨rfl, ⟨hg, hl⟩, hr⟩ := hI
      refine ⟨[some (stkV ws m l), some (planV ws m l), none, none, none, none, some (.tup [rV l, wsV ws]), none], s', by simp [gfName], .inl ⟨s', .loc s'.objs.length, s'.alloc (.lst ((List.range ws.length).map fun p => rV 0)), rfl, ?_, ?_, ⟨hg.trans (Grow.alloc _ _), by simp [Sto.alloc, hl]; omega⟩, ?_⟩⟩
      · have := fMulL_ok (fa := fLstT (fCons (fTup (fCons (fC (.int 0)) (fCons (fC (.int 1)) fNil))) fNil)) (fb := fOp oIx (fVar 0) (fC (.int 0))) (x := rV 0) (s := s') (s1 := s') (n := ws.length) rfl (fOp_ok (p := stkV ws m l) (q := .int 0) rfl rfl (stk0 h s')) (ρ := [some (stkV ws m l), some (planV ws m l), none, none, none, none, some (.tup [rV l, wsV ws]), none]) (by omega)
        rw [this, List.map_const', List.length_range]
      · unfold locs
        rw [List.range_succ, List.map_append, hl]
        rfl
      · intro a ha
        by_cases hai : a = i
        · subst hai
          rw [← hl]
          show (s'.objs ++ [_])[s'.objs.length]? = _
          rw [List.getElem?_concat_length]
        · exact (Grow.alloc s' _).at (hr a (by omega)))
    (m + 1) 0 s [] (by omega) (Nat.zero_le _) (Nat.zero_le _) ⟨rfl, ⟨Grow.refl _, by omega⟩, fun a ha => by omega⟩
  refine ⟨s', ?_, hg.1, hr⟩
  have hs := srcE_tup (fe := fOp oIx (fVar 0) (fC (.int 1))) (ρ := [some (stkV ws m l), some (planV ws m l), none, none, none, none, none, none]) (s := s) (fOp_ok (p := stkV ws m l) (q := .int 1) rfl rfl (stk1 h s))
  rw [List.length_replicate] at hs
  exact fAsgN_ok (fLcT_ok hs (ρ0 := [some (stkV ws m l), some (planV ws m l), none, none, none, none, none, none]) rfl e)
/-- what stands at part a, place p, when i legs and p0 places of the next one are told -/
def tv (g : Rat) (m i p0 a p : Nat) : Rat := if sN m a p < i ∨ (sN m a p = i ∧ p < p0) then g else 0
theorem tv_upd {g : Rat} {i p0 a p : Nat} (hi : i < m) (hp0 : p0 < m) (ha : a < m) (hp : p < m) : tv g m i (p0 + 1) a p = if a = sN m i p0 ∧ p = p0 then g else tv g m i p0 a p := by
  have sw := sN_sw (m := m) (i := i) (p := p0) (a := a) hi hp0 ha
  unfold tv
  by_cases h1 : a = sN m i p0 ∧ p = p0
  · rw [if_pos h1]
    obtain ⟨h1, rfl⟩ := h1
    have := sw.mp h1.symm
    rw [if_pos (.inr ⟨this, by omega⟩)]
  · rw [if_neg h1]
    by_cases hpp : p = p0
    · subst hpp
      have hne : sN m a p ≠ i := fun e => h1 ⟨(sw.mpr e).symm, rfl⟩
      congr 1
      apply propext
      constructor <;> intro q <;> omega
    · congr 1
      apply propext
      constructor <;> intro q <;> omega
theorem locs_get {a : Nat} (ha : a < m) : (locs s m)[a]? = some (.loc (s.objs.length + a)) := by simp [locs, ha]
theorem ltab2b {s' : Sto} {i p0 : Nat} (hi : i < m) (hp0 : p0 < ws.length) (T : TabS s s' m ws.length (tv (legR ws l) m i p0)) (c0 c1 c4 : Option PV) (R : Sl) :
    ∃ s2, S__law_table_2b_1b (c0 :: c1 :: some (.tmp (locs s m)) :: some (rV (legR ws l)) :: c4 :: some (.int (p0 : Nat)) :: some (.int (sN m i p0 : Nat)) :: R) s' = .nx (c0 :: c1 :: some (.tmp (locs s m)) :: some (rV (legR ws l)) :: c4 :: some (.int (p0 : Nat)) :: some (.int (sN m i p0 : Nat)) :: R) s2 ∧ TabS s s2 m ws.length (tv (legR ws l) m i (p0 + 1)) := by
  have hm := h.m1
  have ha := sN_lt hi (show p0 < m by omega)
  have hrow := T.r _ ha
  have h0 : tv (legR ws l) m i p0 (sN m i p0) p0 = 0 := by
    have := (sN_sw (m := m) (i := i) (p := p0) (a := sN m i p0) hi (by omega) ha).mp rfl
    unfold tv
    rw [if_neg (by omega)]
  have e1 : oIx (.tmp (locs s m)) (.int (sN m i p0 : Nat)) s' = some (.loc (s.objs.length + sN m i p0)) := oIx_tmpN (locs_get h s ha) s'
  have hget : ((List.range ws.length).map fun p => rV (tv (legR ws l) m i p0 (sN m i p0) p))[p0]? = some (rV 0) := by
    simp [hp0, h0]
  have e2 : oIx (.loc (s.objs.length + sN m i p0)) (.int (p0 : Nat)) s' = some (rV 0) := by
    simp only [oIx, seqOf, liveL, hrow, Option.bind_some]
    rw [ixP_get _ p0 (by simpa using hp0), ← hget, List.getElem?_eq_getElem (by simpa using hp0)]
  have e3 : F__law_plus [rV 0, rV (legR ws l)] s' = .ok (rV (legR ws l)) s' := by
    rw [b_lplus, lplus_r (bd_0 _) ((leg_bd h).mono (by decide)) s']
    congr 2
    grind
  have hset : setP (p0 : Nat) (rV (legR ws l)) ((List.range ws.length).map fun p => rV (tv (legR ws l) m i p0 (sN m i p0) p)) = some (((List.range ws.length).map fun p => rV (tv (legR ws l) m i p0 (sN m i p0) p)).set p0 (rV (legR ws l))) := by
    have hlt : ((p0 : Nat) : Int) < ((((List.range ws.length).map fun p => rV (tv (legR ws l) m i p0 (sN m i p0) p)).length : Nat) : Int) := by simp; omega
    simp only [setP, ixN, hlt, if_true]
    simp
  refine ⟨s'.set (s.objs.length + sN m i p0) (.lst (((List.range ws.length).map fun p => rV (tv (legR ws l) m i p0 (sN m i p0) p)).set p0 (rV (legR ws l)))), ?_, grow_set T.g (by omega) _, ?_⟩
  · refine fAsg_ok (fCall_ok (s1 := s') (xs := [rV 0, rV (legR ws l)]) (fCons_ok (fOp_ok (q := .int (p0 : Nat)) (fOp_ok (p := .tmp (locs s m)) (q := .int (sN m i p0 : Nat)) rfl rfl e1) rfl e2) (fCons_ok (fVar_ok rfl) fNil_ok)) rfl e3) ?_
    exact gfSub_ok (fOp_ok (p := .tmp (locs s m)) (q := .int (sN m i p0 : Nat)) rfl rfl e1) (fVar_ok rfl) hrow hset
  · intro a hal
    by_cases hae : a = sN m i p0
    · subst hae
      rw [set_at hrow]
      congr 2
      apply List.ext_getElem?
      intro p
      by_cases hp : p < ws.length
      · have hu := tv_upd h (g := legR ws l) (a := sN m i p0) (p := p) hi (show p0 < m by omega) ha (by omega)
        by_cases hpp : p = p0
        · subst hpp
          rw [List.getElem?_set_self (by simpa using hp)]
          simp [hp, hu]
        · rw [List.getElem?_set_ne (Ne.symm hpp)]
          rw [if_neg (fun z => hpp z.2)] at hu
          simp [hp, hu]
      · rw [List.getElem?_eq_none (by simp; omega), List.getElem?_eq_none (by simp; omega)]
    · show (s'.objs.set _ _)[_]? = _
      rw [List.getElem?_set_ne (by omega), T.r a hal]
      congr 2
      refine List.map_congr_left fun p hp => ?_
      rw [List.mem_range] at hp
      rw [tv_upd h (g := legR ws l) hi (show p0 < m by omega) hal (by omega), if_neg (fun z => hae z.1)]
theorem ltab2 {s' : Sto} (T : TabS s s' m ws.length (fun _ _ => 0)) : ∃ ρ' s2, S__law_table_2 [some (stkV ws m l), some (planV ws m l), some (.tmp (locs s m)), none, none, none, none, none] s' = .nx ρ' s2 ∧ (∃ c3 c4 c5 c6, ρ' = [some (stkV ws m l), some (planV ws m l), some (.tmp (locs s m)), c3, c4, c5, c6, none]) ∧ TabS s s2 m ws.length (fun _ _ => legR ws l) := by
  have hm := h.m1
  have hs := srcE_tup (fe := fVar 1) (ρ := [some (stkV ws m l), some (planV ws m l), some (.tmp (locs s m)), none, none, none, none, none]) (s := s') (s1 := s') (xs := (List.range m).map fun i => .tup [rV (legR ws l), seatV ws.length m i]) rfl
  have T0 : TabS s s' m ws.length (tv (legR ws l) m 0 0) := by
    refine ⟨T.g, fun a ha => ?_⟩
    rw [T.r a ha]
    congr 2
    simp [tv]
  obtain ⟨ρ', s2, e, ⟨c3, c4, c5, c6, rfl⟩, T2⟩ := fFor_any (gt := gfTup 2 (gfCons (gfName 3) (gfCons (gfName 4) gfNil))) (fb := S__law_table_2b) (ys := (List.range m).map fun i => .tup [rV (legR ws l), seatV ws.length m i]) hs rfl (fun i ρ s' => (∃ c3 c4 c5 c6, ρ = [some (stkV ws m l), some (planV ws m l), some (.tmp (locs s m)), c3, c4, c5, c6, none]) ∧ TabS s s' m ws.length (tv (legR ws l) m i 0))
    (fun _ _ _ _ _ => rfl) ⟨⟨none, none, none, none, rfl⟩, T0⟩ (fun i ρ s1 hi hI => by
      obtain ⟨⟨c3, c4, c5, c6, rfl⟩, Ti⟩ := hI
      have hi' : i < m := by simpa using hi
      have hget : ((List.range m).map fun i => PV.tup [rV (legR ws l), seatV ws.length m i])[i] = .tup [rV (legR ws l), .tup (seatL ws.length m i)] := by
        rw [← seat_eq hm hi']; simp
      rw [hget]
      have hsl : (seatL ws.length m i).length = ws.length := by simp [seatL]
      have hs2 : srcEnA (fCons (fVar 4) fNil) [some (stkV ws m l), some (planV ws m l), some (.tmp (locs s m)), some (rV (legR ws l)), some (.tup (seatL ws.length m i)), c5, c6, none] s1 = .ok ⟨(seatL ws.length m i).length, fun j _ => some ((seatL ws.length m i)[j]?.map fun x => .tup [.int j, x])⟩ s1 := rfl
      obtain ⟨ρ2, s3, e3, ⟨c5', c6', rfl⟩, T3⟩ := fFor_any (gt := gfTup 2 (gfCons (gfName 5) (gfCons (gfName 6) gfNil))) (fb := S__law_table_2b_1b) (ys := enL (seatL ws.length m i)) hs2 (by rw [enL_len]) (fun p ρ s' => (∃ c5 c6, ρ = [some (stkV ws m l), some (planV ws m l), some (.tmp (locs s m)), some (rV (legR ws l)), some (.tup (seatL ws.length m i)), c5, c6, none]) ∧ TabS s s' m ws.length (tv (legR ws l) m i p))
        (fun p _ _ _ _ => by rw [enL_get]) ⟨⟨c5, c6, rfl⟩, Ti⟩ (fun p ρ s4 hp hI => by
          obtain ⟨⟨c5, c6, rfl⟩, Tp⟩ := hI
          have hp' : p < ws.length := by rw [enL_len, hsl] at hp; exact hp
          have hg2 : (enL (seatL ws.length m i))[p] = .tup [.int (p : Nat), .int (sN m i p : Nat)] := by
            have := enL_get (seatL ws.length m i) p
            rw [List.getElem?_eq_getElem hp] at this
            have h3 : (seatL ws.length m i)[p]? = some (.int (sN m i p : Nat)) := by simp [seatL, hp']
            rw [h3] at this
            exact Option.some.inj this
          rw [hg2]
          obtain ⟨s5, e5, T5⟩ := ltab2b h s hi' hp' Tp (some (stkV ws m l)) (some (planV ws m l)) (some (.tup (seatL ws.length m i))) [none]
          exact ⟨_, _, _, _, rfl, e5, ⟨_, _, rfl⟩, T5⟩)
      rw [enL_len, hsl] at T3
      refine ⟨_, _, _, _, rfl, e3, ⟨_, _, _, _, rfl⟩, T3.g, fun a ha => ?_⟩
      rw [T3.r a ha]
      congr 2
      refine List.map_congr_left fun p hp => ?_
      rw [List.mem_range] at hp
      unfold tv
      congr 2
      apply propext
      constructor <;> intro q <;> omega)
  refine ⟨_, s2, e, ⟨_, _, _, _, rfl⟩, T2.g, fun a ha => ?_⟩
  rw [T2.r a ha]
  congr 2
  refine List.map_congr_left fun p hp => ?_
  rw [List.mem_range] at hp
  unfold tv
  rw [if_pos (.inl (by rw [List.length_map, List.length_range]; exact sN_lt ha (by omega)))]
def tabV (n m : Nat) (g : Rat) : PV := .tup (List.replicate m (.tup (List.replicate n (rV g))))
theorem ltable_ok : ∃ s', F__law_table [stkV ws m l, planV ws m l] s = .ok (tabV ws.length m (legR ws l)) s' ∧ Grow s s' := by
  have h8 := h.m8
  obtain ⟨s1, e1, T1⟩ := ltab1 h s
  obtain ⟨ρ2, s2, e2, ⟨c3, c4, c5, c6, rfl⟩, T2⟩ := ltab2 h s T1
  have src : SrcAt (srcE (fVar 2)) [some (stkV ws m l), some (planV ws m l), some (.tmp (locs s m)), c3, c4, c5, c6, none] s2 ((List.range m).map fun a => .loc (s.objs.length + a)) := srcAt_seq (p := .tmp (locs s m)) rfl rfl
  have c1 := fLcT_map (vs := [7]) (gt := gfName 7) (fe := fCallB oTuple (fCons (fVar 7) fNil)) (ρ0 := [some (stkV ws m l), some (planV ws m l), some (.tmp (locs s m)), c3, c4, c5, c6, none]) (List.range m) (fun a => .loc (s.objs.length + a)) (fun _ => .tup (List.replicate ws.length (rV (legR ws l)))) src rfl (by simp; omega)
    (fun a ha => ⟨[some (stkV ws m l), some (planV ws m l), some (.tmp (locs s m)), c3, c4, c5, c6, some (.loc (s.objs.length + a))], rfl, fCallB_ok (xs := [.loc (s.objs.length + a)]) rfl (by
      have := T2.r a (List.mem_range.mp ha)
      simp only [oTuple, seqOf, liveL, this, Option.map_some]
      rw [List.map_const', List.length_range])⟩)
  refine ⟨s2, ?_, T2.g⟩
  refine fDef_ok (ρ := [some (stkV ws m l), some (planV ws m l), none, none, none, none, none, none]) rfl rfl ?_
  rw [S__law_table_eq]
  refine fSeq_nx e1 (fSeq_nx e2 (fRet_ok (fCallB_ok (fCons_ok c1 fNil_ok) ?_)))
  rw [List.map_const', List.length_range]
  rfl
end
end K08

namespace K08
open Pv PySem PySem.Spec PyProof.Rows L2
theorem rsum_mulR (a : Rat) : ∀ rs : List Rat, rsum (rs.map fun r => r * a) = rsum rs * a
  | [] => by show (0 : Rat) = 0 * a; grind
  | r :: rs => by
    rw [List.map_cons, rsum_cons', rsum_cons', rsum_mulR a rs]
    grind
theorem rsum_divR (a : Rat) (rs : List Rat) : rsum (rs.map fun r => r / a) = rsum rs / a := by
  have := rsum_mulR a⁻¹ rs
  simp only [Rat.div_def]
  exact this
theorem div_self {a : Rat} (h : 0 < a) : a / a = 1 := by
  rw [Rat.div_def]
  exact Rat.mul_inv_cancel a (by grind)
theorem div_mul_cancel {a b : Rat} (h : 0 < b) : a / b * b = a := by
  rw [Rat.div_def, Rat.mul_assoc, Rat.inv_mul_cancel b (by grind), Rat.mul_one]
section
variable {ws : List Rat} {m : Nat} {l : Rat} (h : Ok ws m l) (s : Sto)
include h
theorem rep_at {α : Type} {x : α} {n i : Nat} (hi : i < n) : (List.replicate n x)[i]? = some x := by simp [hi]
theorem stkpart {i : Nat} (hi : i < m) : oIx (.tup (List.replicate m (PV.tup [rV l, wsV ws]))) (.int (i : Nat)) s = some (.tup [rV l, wsV ws]) := oIx_tupN (rep_get h hi) s
theorem wsat {p : Nat} (hp : p < ws.length) : oIx (wsV ws) (.int (p : Nat)) s = some (rV ws[p]) := oIx_tupN (by simp [hp]) s
/-- stock[1][part] -/
theorem eStk {ρ : Sl} {i j : Nat} {a : Nat} (h0 : ρ[i]? = some (some (stkV ws m l))) (h1 : ρ[j]? = some (some (.int (a : Nat)))) (ha : a < m) : fOp oIx (fOp oIx (fVar i) (fC (.int 1))) (fVar j) ρ s = .ok (.tup [rV l, wsV ws]) s :=
  fOp_ok (fOp_ok (p := stkV ws m l) (q := .int 1) (fVar_ok h0) rfl (stk1 h s)) (fVar_ok h1) (stkpart h s ha)
theorem worn_row {a : Nat} (ha : a < m) (c2 c3 c5 c6 : Option PV) : fLcT [5, 6] (srcEnA (fCons (fVar 4) fNil)) (gfTup 2 (gfCons (gfName 5) (gfCons (gfName 6) gfNil))) fYes (fCall 2 F__law_times (fCons (fOp oIx (fOp oIx (fOp oIx (fOp oIx (fVar 0) (fC (.int 1))) (fVar 3)) (fC (.int 1))) (fVar 5)) (fCons (fVar 6) fNil))) [some (stkV ws m l), c2, c3, some (.int (a : Nat)), some (.tup (List.replicate ws.length (rV (legR ws l)))), c5, c6] s =
    .ok (.tmp ((ws.map fun w => w * legR ws l).map rV)) s := by
  have h6 := h.w.l6
  have src := srcAt_en (fs := fCons (fVar 4) fNil) (ρ := [some (stkV ws m l), c2, c3, some (.int (a : Nat)), some (.tup (List.replicate ws.length (rV (legR ws l)))), c5, c6]) (s := s) (p := .tup (List.replicate ws.length (rV (legR ws l)))) rfl rfl
  have he : enL (List.replicate ws.length (rV (legR ws l))) = (List.range ws.length).map fun p => .tup [.int (p : Nat), rV (legR ws l)] := by
    unfold enL
    rw [List.length_replicate]
    refine List.map_congr_left fun p hp => ?_
    rw [List.mem_range] at hp
    rw [List.getD_eq_getElem?_getD, rep_get h hp]
    rfl
  rw [he] at src
  have c := fLcT_map (vs := [5, 6]) (gt := gfTup 2 (gfCons (gfName 5) (gfCons (gfName 6) gfNil))) (fe := fCall 2 F__law_times (fCons (fOp oIx (fOp oIx (fOp oIx (fOp oIx (fVar 0) (fC (.int 1))) (fVar 3)) (fC (.int 1))) (fVar 5)) (fCons (fVar 6) fNil))) (ρ0 := [some (stkV ws m l), c2, c3, some (.int (a : Nat)), some (.tup (List.replicate ws.length (rV (legR ws l)))), none, none]) (List.range ws.length) (fun p => .tup [.int (p : Nat), rV (legR ws l)]) (fun p => rV (ws.getD p 0 * legR ws l)) src rfl (by simp; omega)
    (fun p hp => by
      rw [List.mem_range] at hp
      have hg : ws.getD p 0 = ws[p] := by simp [List.getD_eq_getElem?_getD, hp]
      have hw := h.w.w _ (List.getElem_mem hp)
      rw [hg]
      refine ⟨[some (stkV ws m l), c2, c3, some (.int (a : Nat)), some (.tup (List.replicate ws.length (rV (legR ws l)))), some (.int (p : Nat)), some (rV (legR ws l))], rfl, fCall_ok (s1 := s) (xs := [rV ws[p], rV (legR ws l)]) (fCons_ok (fOp_ok (fOp_ok (q := .int 1) (eStk h s (i := 0) (j := 3) rfl rfl ha) rfl (oIx_1 _ _ _ _)) (fVar_ok rfl) (wsat h s hp)) (fCons_ok (fVar_ok rfl) fNil_ok)) rfl ?_⟩
      rw [b_ltimes]
      exact ltimes_r (hw.2.mono (by decide)) ((leg_bd h).mono (by decide)) s)
  rw [c]
  congr 2
  rw [List.map_map]
  apply List.ext_getElem?
  intro p
  by_cases hp : p < ws.length
  · simp [hp, List.getD_eq_getElem?_getD]
  · rw [List.getElem?_eq_none (by simp; omega), List.getElem?_eq_none (by simp; omega)]
theorem worn_val : rsum (ws.map fun w => w * legR ws l) = l := by
  rw [rsum_mulR]
  have := div_mul_cancel (a := l) h.w.sum_pos
  unfold legR
  rw [Rat.mul_comm]
  exact this
theorem lworn_ok : ∃ L s', F__law_worn [stkV ws m l, tabV ws.length m (legR ws l)] s = .ok (.loc L) s' ∧ s'.objs[L]? = some (.lst (List.replicate m (rV l))) ∧ Grow s s' := by
  have h8 := h.m8
  have h6 := h.w.l6
  let row : PV := .tup (List.replicate ws.length (rV (legR ws l)))
  have hs : srcEnA (fCons (fVar 1) fNil) [some (stkV ws m l), some (tabV ws.length m (legR ws l)), some (.loc s.objs.length), none, none, none, none] (s.alloc (.lst [])) = .ok ⟨(List.replicate m row).length, fun j _ => some ((List.replicate m row)[j]?.map fun x => .tup [.int j, x])⟩ (s.alloc (.lst [])) := rfl
  obtain ⟨ρ', s', e, ⟨c3, c4, c5, c6, rfl⟩, hL, hg⟩ := fFor_any (gt := gfTup 2 (gfCons (gfName 3) (gfCons (gfName 4) gfNil))) (fb := S__law_worn_2b) (ys := enL (List.replicate m row)) hs (by rw [enL_len]) (fun i ρ s' => (∃ c3 c4 c5 c6, ρ = [some (stkV ws m l), some (tabV ws.length m (legR ws l)), some (.loc s.objs.length), c3, c4, c5, c6]) ∧ s'.objs[s.objs.length]? = some (.lst (List.replicate i (rV l))) ∧ Grow s s')
    (fun p _ _ _ _ => by rw [enL_get]) ⟨⟨none, none, none, none, rfl⟩, by simp [Sto.alloc], Grow.alloc _ _⟩ (fun i ρ s1 hi hI => by
      obtain ⟨⟨c3, c4, c5, c6, rfl⟩, hL, hg⟩ := hI
      have hi' : i < m := by rw [enL_len, List.length_replicate] at hi; exact hi
      have hget : (enL (List.replicate m row))[i] = .tup [.int (i : Nat), row] := by
        have := enL_get (List.replicate m row) i
        rw [List.getElem?_eq_getElem hi, rep_get h hi'] at this
        exact Option.some.inj this
      rw [hget]
      have e1 := worn_row h s1 hi' (some (tabV ws.length m (legR ws l))) (some (.loc s.objs.length)) c5 c6
      have hsum : F__law_sum [.tmp ((ws.map fun w => w * legR ws l).map rV)] s1 = .ok (rV l) s1 := by
        have := lsum_b (k := 33) (rs := ws.map fun w => w * legR ws l) (fun r hr => by
          obtain ⟨w, hw, rfl⟩ := List.mem_map.mp hr
          exact (h.w.w w hw).2.mul (leg_bd h)) (by decide) (by rw [List.length_map]; omega) s1
        rw [worn_val h] at this
        rw [b_lsum]
        exact this
      refine ⟨[some (stkV ws m l), some (tabV ws.length m (legR ws l)), some (.loc s.objs.length), some (.int (i : Nat)), some row, c5, c6], s1, _, _, rfl, fDrop_ok (fAppend_ok (L := s.objs.length) (q := rV l) rfl (fCall_ok (fCons_ok e1 fNil_ok) rfl hsum) hL (by rw [List.length_replicate]; omega)), ⟨_, _, _, _, rfl⟩, ?_, grow_set hg (Nat.le_refl _) _⟩
      rw [set_at hL, List.replicate_succ'])
  rw [enL_len, List.length_replicate] at hL
  refine ⟨s.objs.length, s', ?_, hL, hg⟩
  refine fDef_ok (ρ := [some (stkV ws m l), some (tabV ws.length m (legR ws l)), none, none, none, none, none]) rfl rfl ?_
  rw [S__law_worn_eq]
  exact fSeq_nx (ρ1 := [some (stkV ws m l), some (tabV ws.length m (legR ws l)), some (.loc s.objs.length), none, none, none, none]) (s1 := s.alloc (.lst [])) rfl (fSeq_nx e rfl)
theorem lserves_ok : ∃ s', F__law_serves [stkV ws m l, planV ws m l] s = .ok (.bl true) s' ∧ Grow s s' := by
  have h8 := h.m8
  obtain ⟨s1, e1, g1⟩ := ltable_ok h s
  obtain ⟨L, s2, e2, hL, g2⟩ := lworn_ok h s1
  have hsq : seqOf (.loc L) s2 = some (List.replicate m (rV l)) := by simp [seqOf, liveL, hL]
  have src := srcAt_en (fs := fCons (fVar 2) fNil) (ρ := [some (stkV ws m l), some (planV ws m l), some (.loc L), none, none]) (s := s2) (p := .loc L) rfl hsq
  have he : enL (List.replicate m (rV l)) = (List.range m).map fun p => .tup [.int (p : Nat), rV l] := by
    unfold enL
    rw [List.length_replicate]
    refine List.map_congr_left fun p hp => ?_
    rw [List.mem_range] at hp
    rw [List.getD_eq_getElem?_getD, rep_get h hp]
    rfl
  rw [he] at src
  have hl : ¬ (l < l) := by grind
  have c := fLcT_map (vs := [3, 4]) (gt := gfTup 2 (gfCons (gfName 3) (gfCons (gfName 4) gfNil))) (fe := fCall 2 F__law_is_less (fCons (fOp oIx (fOp oIx (fOp oIx (fVar 0) (fC (.int 1))) (fVar 3)) (fC (.int 0))) (fCons (fVar 4) fNil))) (ρ0 := [some (stkV ws m l), some (planV ws m l), some (.loc L), none, none]) (List.range m) (fun p => .tup [.int (p : Nat), rV l]) (fun p => .bl false) src rfl (by simp; omega)
    (fun p hp => by
      rw [List.mem_range] at hp
      refine ⟨[some (stkV ws m l), some (planV ws m l), some (.loc L), some (.int (p : Nat)), some (rV l)], rfl, fCall_ok (s1 := s2) (xs := [rV l, rV l]) (fCons_ok (fOp_ok (q := .int 0) (eStk h s2 (i := 0) (j := 3) rfl rfl hp) rfl (oIx_0 _ _ _)) (fCons_ok (fVar_ok rfl) fNil_ok)) rfl ?_⟩
      rw [b_lisless, lless_r (h.lb.mono (by decide)) (h.lb.mono (by decide)) s2, decide_eq_false hl])
  have e3 := fCallB_ok (fCons_ok c fNil_ok) (oAny_map (List.range m) (fun _ => false) s2)
  have a3 : ((List.range m).any fun _ => false) = false := by simp
  rw [a3] at e3
  refine ⟨s2, ?_, g1.trans g2⟩
  refine fDef_ok (ρ := [some (stkV ws m l), some (planV ws m l), none, none, none]) rfl rfl ?_
  rw [S__law_serves_eq]
  refine fSeq_nx (ρ1 := [some (stkV ws m l), some (planV ws m l), some (.loc L), none, none]) (s1 := s2) (fAsgN_ok (fCall_ok (s1 := s1) (xs := [stkV ws m l, tabV ws.length m (legR ws l)]) (fCons_ok (fVar_ok rfl) (fCons_ok (fCall_ok (xs := [stkV ws m l, planV ws m l]) rfl rfl e1) fNil_ok)) rfl e2)) (fRet_ok (fNotV_ok (b := false) e3))
theorem inv_bd : Bd 24 (1 / rsum ws) := ((bd_1 0).div h.w.sum_bd h.w.sum_pos).mono (by decide)
theorem lbound_ok : F__law_bound [stkV ws m l, prcV ws m] s = .ok (rV (wayR ws m l)) s := by
  have h8 := h.m8
  have e0 : oIx (prcV ws m) (.int 2) s = some (.tup (List.replicate m (rV (1 / rsum ws)))) := oIx_2 _ _ _ _ _
  have src := srcAt_en (fs := fCons (fOp oIx (fVar 1) (fC (.int 2))) fNil) (ρ := [some (stkV ws m l), some (prcV ws m), none, none]) (s := s) (p := .tup (List.replicate m (rV (1 / rsum ws)))) (fCons_ok (fOp_ok (p := prcV ws m) (q := .int 2) rfl rfl e0) fNil_ok) rfl
  have he : enL (List.replicate m (rV (1 / rsum ws))) = (List.range m).map fun p => .tup [.int (p : Nat), rV (1 / rsum ws)] := by
    unfold enL
    rw [List.length_replicate]
    refine List.map_congr_left fun p hp => ?_
    rw [List.mem_range] at hp
    rw [List.getD_eq_getElem?_getD, rep_get h hp]
    rfl
  rw [he] at src
  have c := fLcT_map (vs := [2, 3]) (gt := gfTup 2 (gfCons (gfName 2) (gfCons (gfName 3) gfNil))) (fe := fCall 2 F__law_times (fCons (fOp oIx (fOp oIx (fOp oIx (fVar 0) (fC (.int 1))) (fVar 2)) (fC (.int 0))) (fCons (fVar 3) fNil))) (ρ0 := [some (stkV ws m l), some (prcV ws m), none, none]) (List.range m) (fun p => .tup [.int (p : Nat), rV (1 / rsum ws)]) (fun _ => rV (l * (1 / rsum ws))) src rfl (by simp; omega)
    (fun p hp => by
      rw [List.mem_range] at hp
      refine ⟨[some (stkV ws m l), some (prcV ws m), some (.int (p : Nat)), some (rV (1 / rsum ws))], rfl, fCall_ok (s1 := s) (xs := [rV l, rV (1 / rsum ws)]) (fCons_ok (fOp_ok (q := .int 0) (eStk h s (i := 0) (j := 2) rfl rfl hp) rfl (oIx_0 _ _ _)) (fCons_ok (fVar_ok rfl) fNil_ok)) rfl ?_⟩
      rw [b_ltimes]
      exact ltimes_r (h.lb.mono (by decide)) ((inv_bd h).mono (by decide)) s)
  rw [map_rep h rV (l * (1 / rsum ws)) m] at c
  have e1 : F__law_sum [.tmp ((List.replicate m (l * (1 / rsum ws))).map rV)] s = .ok (rV (rsum (List.replicate m (l * (1 / rsum ws))))) s := by
    rw [b_lsum]
    exact lsum_b (k := 30) (fun r hr => by rw [List.eq_of_mem_replicate hr]; exact h.lb.mul (inv_bd h)) (by decide) (by rw [List.length_replicate]; omega) s
  rw [rsum_rep h] at e1
  have e2 : (m : Rat) * (l * (1 / rsum ws)) = wayR ws m l := by
    unfold wayR
    rw [Rat.div_def, Rat.div_def, Rat.one_mul, Rat.mul_assoc]
  rw [e2] at e1
  exact fDef_ok (ρ := [some (stkV ws m l), some (prcV ws m), none, none]) rfl rfl (fRet_ok (fCall_ok (fCons_ok c fNil_ok) rfl e1))
end
end K08

namespace K08
open Pv PySem PySem.Spec PyProof.Rows L2
section
variable {ws : List Rat} {m : Nat} {l : Rat} (h : Ok ws m l) (s : Sto)
include h
theorem price_w {w : Rat} (hw : w ∈ ws) : Bd 27 (w / rsum ws) ∧ 0 ≤ w / rsum ws := by
  have hb := (h.w.w w hw).2.div h.w.sum_bd h.w.sum_pos
  refine ⟨hb, ?_⟩
  rw [Rat.div_def]
  exact Rat.mul_nonneg (h.w.w w hw).1 (by have := Rat.inv_pos.mpr h.w.sum_pos; grind)
theorem inv_nn : (0 : Rat) ≤ 1 / rsum ws := by
  rw [Rat.div_def, Rat.one_mul]
  have := Rat.inv_pos.mpr h.w.sum_pos
  grind
/-- one row of the prices is one -/
theorem bar_row {rs : List Rat} {n : Nat} (hr : ∀ r ∈ rs, Bd 27 r ∧ 0 ≤ r) (hn : rs.length = n) (hn2 : n < 100) (c0 c1 c2 c5 c6 c7 c8 c9 c10 : Option PV) :
    S__law_do_bar_2b [c0, c1, c2, some (.tup (rs.map rV)), some (.int (n : Nat)), c5, c6, c7, c8, c9, c10] s = .nx [c0, c1, c2, some (.tup (rs.map rV)), some (.int (n : Nat)), c5, c6, c7, c8, c9, c10] s := by
  have src : SrcAt (srcE (fVar 3)) [c0, c1, c2, some (.tup (rs.map rV)), some (.int (n : Nat)), c5, c6, c7, c8, c9, c10] s (rs.map rV) := srcAt_seq (p := .tup (rs.map rV)) rfl rfl
  have c := fLcT_map (vs := [10]) (gt := gfName 10) (fe := fCall 1 F__law_is_share (fCons (fVar 10) fNil)) (ρ0 := [c0, c1, c2, some (.tup (rs.map rV)), some (.int (n : Nat)), c5, c6, c7, c8, c9, none]) rs rV (fun r => .bl (decide (0 ≤ r))) src rfl (by omega)
    (fun r hrm => ⟨[c0, c1, c2, some (.tup (rs.map rV)), some (.int (n : Nat)), c5, c6, c7, c8, c9, some (rV r)], rfl, fCall_ok (xs := [rV r]) rfl rfl (by rw [b_lshare]; exact lshare_r _ (hr r hrm).1 (by decide) s)⟩)
  have e := fCallB_ok (fCons_ok c fNil_ok) (oAll_map rs (fun r => decide (0 ≤ r)) s)
  have a : (rs.all fun r => decide (0 ≤ r)) = true := List.all_eq_true.mpr fun r hrm => decide_eq_true (hr r hrm).2
  rw [a] at e
  have el : oLen [.tup (rs.map rV)] s = some (.int (n : Nat)) := by rw [oLen_tup, List.length_map, hn]
  refine fIfS_f (fOr_f (fNot_ok (b := true) (fB_ok (fCallB_ok (xs := [.tup (rs.map rV), .ty "tuple"]) rfl rfl))) (fOr_f (fB_ok (fOp_ok (q := .int (n : Nat)) (fCallB_ok (xs := [.tup (rs.map rV)]) rfl el) rfl ?_)) (fNot_ok (b := true) (fB_ok e)))) rfl
  rw [oNe_int]; simp
theorem notin_nil (a p : Nat) : oNotIn2 (.tup [.int (a : Nat), .int (p : Nat)]) (.tup []) s = some (.bl true) := by
  simp [oNotIn2, inD, rd, toD, toDs, SeqAt.shaped, PyData.canLay0, PyData.canLayAll0, PyData.depth, PyData.depthAll]
theorem prc0 : oIx (prcV ws m) (.int 0) s = some (.tup (ws.map fun w => rV (w / rsum ws))) := oIx_0 _ _ _
theorem prc1 : oIx (prcV ws m) (.int 1) s = some (.tup (List.replicate m (rV 0))) := oIx_1 _ _ _ _
theorem prc2 : oIx (prcV ws m) (.int 2) s = some (.tup (List.replicate m (rV (1 / rsum ws)))) := oIx_2 _ _ _ _ _
theorem bar3b {a p : Nat} (ha : a < m) (hp : p < ws.length) (c0 c3 c4 c6 c9 c10 : Option PV) :
    ∃ c9', S__law_do_bar_3b_1b [c0, some (.tup []), some (prcV ws m), c3, c4, some (.int (a : Nat)), c6, some (wsV ws), some (.int (p : Nat)), c9, c10] s = .nx [c0, some (.tup []), some (prcV ws m), c3, c4, some (.int (a : Nat)), c6, some (wsV ws), some (.int (p : Nat)), c9', c10] s := by
  have hw := h.w.w _ (List.getElem_mem hp)
  have e1 : oIx (.tup (List.replicate m (rV 0))) (.int (a : Nat)) s = some (rV 0) := oIx_tupN (rep_get h ha) s
  have e2 : oIx (.tup (List.replicate m (rV (1 / rsum ws)))) (.int (a : Nat)) s = some (rV (1 / rsum ws)) := oIx_tupN (rep_get h ha) s
  have e3 := wsat h s hp
  have e4 : oIx (.tup (ws.map fun w => rV (w / rsum ws))) (.int (p : Nat)) s = some (rV (ws[p] / rsum ws)) := oIx_tupN (by simp [hp]) s
  have t1 : F__law_times [rV (1 / rsum ws), rV ws[p]] s = .ok (rV (1 / rsum ws * ws[p])) s := by rw [b_ltimes]; exact ltimes_r ((inv_bd h).mono (by decide)) (hw.2.mono (by decide)) s
  have hb := (inv_bd h).mul hw.2
  have t2 : F__law_plus [rV 0, rV (1 / rsum ws * ws[p])] s = .ok (rV (ws[p] / rsum ws)) s := by
    rw [b_lplus, lplus_r (bd_0 _) (hb.mono (by decide)) s]
    congr 2
    rw [Rat.div_def, Rat.div_def, Rat.one_mul]
    grind
  have hb2 := (price_w h (List.getElem_mem hp)).1
  have hlt : ¬ (ws[p] / rsum ws < ws[p] / rsum ws) := by grind
  have t3 : F__law_is_less [rV (ws[p] / rsum ws), rV (ws[p] / rsum ws)] s = .ok (.bl false) s := by rw [b_lisless, lless_r (hb2.mono (by decide)) (hb2.mono (by decide)) s, decide_eq_false hlt]
  refine ⟨some (rV (ws[p] / rsum ws)), fSeq_nx (ρ1 := [c0, some (.tup []), some (prcV ws m), c3, c4, some (.int (a : Nat)), c6, some (wsV ws), some (.int (p : Nat)), some (rV (ws[p] / rsum ws)), c10]) (s1 := s) (fAsgN_ok (fCall_ok (s1 := s) (xs := [rV 0, rV (1 / rsum ws * ws[p])]) (fCons_ok (fOp_ok (fOp_ok (p := prcV ws m) (q := .int 1) rfl rfl (prc1 h s)) (fVar_ok rfl) e1) (fCons_ok (fCall_ok (s1 := s) (xs := [rV (1 / rsum ws), rV ws[p]]) (fCons_ok (fOp_ok (fOp_ok (p := prcV ws m) (q := .int 2) rfl rfl (prc2 h s)) (fVar_ok rfl) e2) (fCons_ok (fOp_ok (fVar_ok rfl) (fVar_ok rfl) e3) fNil_ok)) rfl t1) fNil_ok)) rfl t2)) ?_⟩
  exact fIfS_f (fAnd_t (fB_ok (fOp_ok (p := .tup [.int (a : Nat), .int (p : Nat)]) (q := .tup []) rfl rfl (notin_nil h s a p))) (fB_ok (fCall_ok (s1 := s) (xs := [rV (ws[p] / rsum ws), rV (ws[p] / rsum ws)]) (fCons_ok (fVar_ok rfl) (fCons_ok (fOp_ok (fOp_ok (p := prcV ws m) (q := .int 0) rfl rfl (prc0 h s)) (fVar_ok rfl) e4) fNil_ok)) rfl t3))) rfl
theorem bar3 (c3 c4 : Option PV) : ∃ ρ', S__law_do_bar_3 [some (stkV ws m l), some (.tup []), some (prcV ws m), c3, c4, none, none, none, none, none, none] s = .nx ρ' s ∧ ∃ c5 c6 c7 c8 c9, ρ' = [some (stkV ws m l), some (.tup []), some (prcV ws m), c3, c4, c5, c6, c7, c8, c9, none] := by
  have h6 := h.w.l6
  have src := srcAt_en (fs := fCons (fOp oIx (fVar 0) (fC (.int 1))) fNil) (ρ := [some (stkV ws m l), some (.tup []), some (prcV ws m), c3, c4, none, none, none, none, none, none]) (s := s) (p := .tup (List.replicate m (PV.tup [rV l, wsV ws]))) (fCons_ok (fOp_ok (p := stkV ws m l) (q := .int 1) rfl rfl (stk1 h s)) fNil_ok) rfl
  obtain ⟨ρ', e, c5, c6, c7, c8, c9, rfl⟩ := fFor_pure (gt := gfTup 2 (gfCons (gfName 5) (gfCons (gfTup 2 (gfCons (gfName 6) (gfCons (gfName 7) gfNil))) gfNil))) (fb := S__law_do_bar_3b) src (fun i ρ => ∃ c5 c6 c7 c8 c9, ρ = [some (stkV ws m l), some (.tup []), some (prcV ws m), c3, c4, c5, c6, c7, c8, c9, none]) ⟨none, none, none, none, none, rfl⟩ (fun i ρ hi hI => by
    obtain ⟨c5, c6, c7, c8, c9, rfl⟩ := hI
    have hi' : i < m := by rw [enL_len, List.length_replicate] at hi; exact hi
    have hget : (enL (List.replicate m (PV.tup [rV l, wsV ws])))[i] = .tup [.int (i : Nat), .tup [rV l, wsV ws]] := by
      have := enL_get (List.replicate m (PV.tup [rV l, wsV ws])) i
      rw [List.getElem?_eq_getElem hi, rep_get h hi'] at this
      exact Option.some.inj this
    rw [hget]
    have src2 := srcAt_rng1 (fs := fCons (fOp oIx (fVar 0) (fC (.int 0))) fNil) (ρ := [some (stkV ws m l), some (.tup []), some (prcV ws m), c3, c4, some (.int (i : Nat)), some (rV l), some (wsV ws), c8, c9, none]) (s := s) (n := ws.length) (fCons_ok (fOp_ok (p := stkV ws m l) (q := .int 0) rfl rfl (stk0 h s)) fNil_ok) (by omega)
    obtain ⟨ρ2, e2, c8', c9', rfl⟩ := fFor_pure (gt := gfName 8) (fb := S__law_do_bar_3b_1b) src2 (fun p ρ => ∃ c8 c9, ρ = [some (stkV ws m l), some (.tup []), some (prcV ws m), c3, c4, some (.int (i : Nat)), some (rV l), some (wsV ws), c8, c9, none]) ⟨c8, c9, rfl⟩ (fun p ρ hp hI => by
      obtain ⟨c8, c9, rfl⟩ := hI
      have hp' : p < ws.length := by simpa using hp
      have hg2 : ((List.range ws.length).map fun i => PV.int (i : Nat))[p] = .int (p : Nat) := by simp
      rw [hg2]
      obtain ⟨c9', e3⟩ := bar3b h s hi' hp' (some (stkV ws m l)) c3 c4 (some (rV l)) c9 none
      exact ⟨_, _, rfl, e3, _, _, rfl⟩)
    exact ⟨_, _, rfl, e2, _, _, _, _, _, rfl⟩)
  exact ⟨_, e, _, _, _, _, _, rfl⟩
theorem ldo_bar_ok : F__law_do_bar [stkV ws m l, .tup [], prcV ws m] s = .ok (.bl true) s := by
  have h8 := h.m8
  have h6 := h.w.l6
  have hW := h.w.sum_pos
  let x : List Rat := ws.map fun w => w / rsum ws
  have hx : prcV ws m = .tup [.tup (x.map rV), .tup ((List.replicate m (0 : Rat)).map rV), .tup ((List.replicate m (1 / rsum ws)).map rV)] := by
    unfold prcV
    rw [List.map_replicate, List.map_replicate, List.map_map]
    rfl
  have hxr : ∀ r ∈ x, Bd 27 r ∧ 0 ≤ r := fun r hr => by
    obtain ⟨w, hw, rfl⟩ := List.mem_map.mp hr
    exact price_w h hw
  have hxl : x.length = ws.length := by simp [x]
  have q0 : oIx (stkV ws m l) (.int 0) s = some (.int (ws.length : Nat)) := stk0 h s
  have q1 : ∀ ρ : Sl, ρ[0]? = some (some (stkV ws m l)) → fCallB oLen (fCons (fOp oIx (fVar 0) (fC (.int 1))) fNil) ρ s = .ok (.int (m : Nat)) s := fun ρ hρ => fCallB_ok (fCons_ok (fOp_ok (p := stkV ws m l) (q := .int 1) (fVar_ok hρ) rfl (stk1 h s)) fNil_ok) (by rw [oLen_tup, List.length_replicate])
  have A1 : S__law_do_bar_1 [some (stkV ws m l), some (.tup []), some (prcV ws m), none, none, none, none, none, none, none, none] s = .nx [some (stkV ws m l), some (.tup []), some (prcV ws m), none, none, none, none, none, none, none, none] s := by
    refine fIfS_f (fOr_f (fNot_ok (b := true) (fB_ok (fCallB_ok (xs := [prcV ws m, .ty "tuple"]) rfl rfl))) (fB_ok (fOp_ok (p := .int 3) (q := .int 3) (fCallB_ok (xs := [prcV ws m]) rfl rfl) rfl ?_))) rfl
    rw [oNe_int]; simp
  have src : SrcAt (srcZipB (fCons (fVar 2) (fCons (fLstT (fCons (fOp oIx (fVar 0) (fC (.int 0))) (fCons (fCallB oLen (fCons (fOp oIx (fVar 0) (fC (.int 1))) fNil)) (fCons (fCallB oLen (fCons (fOp oIx (fVar 0) (fC (.int 1))) fNil)) fNil)))) fNil))) [some (stkV ws m l), some (.tup []), some (prcV ws m), none, none, none, none, none, none, none, none] s
      [.tup [.tup (x.map rV), .int (ws.length : Nat)], .tup [.tup ((List.replicate m (0 : Rat)).map rV), .int (m : Nat)], .tup [.tup ((List.replicate m (1 / rsum ws)).map rV), .int (m : Nat)]] := by
    have := srcAt_zip (fs := fCons (fVar 2) (fCons (fLstT (fCons (fOp oIx (fVar 0) (fC (.int 0))) (fCons (fCallB oLen (fCons (fOp oIx (fVar 0) (fC (.int 1))) fNil)) (fCons (fCallB oLen (fCons (fOp oIx (fVar 0) (fC (.int 1))) fNil)) fNil)))) fNil)) (ρ := [some (stkV ws m l), some (.tup []), some (prcV ws m), none, none, none, none, none, none, none, none]) (s := s) (p := prcV ws m) (q := .tmp [.int (ws.length : Nat), .int (m : Nat), .int (m : Nat)]) (xs := [.tup (x.map rV), .tup ((List.replicate m (0 : Rat)).map rV), .tup ((List.replicate m (1 / rsum ws)).map rV)]) (ys := [.int (ws.length : Nat), .int (m : Nat), .int (m : Nat)])
      (fCons_ok (fVar_ok rfl) (fCons_ok (fLstT_ok (fCons_ok (fOp_ok (p := stkV ws m l) (q := .int 0) rfl rfl q0) (fCons_ok (q1 _ rfl) (fCons_ok (q1 _ rfl) fNil_ok))) (by simp)) fNil_ok)) (by rw [hx]; rfl) rfl
    exact this
  obtain ⟨ρ2, A2, c3, c4, rfl⟩ := fFor_pure (gt := gfTup 2 (gfCons (gfName 3) (gfCons (gfName 4) gfNil))) (fb := S__law_do_bar_2b) src (fun i ρ => ∃ c3 c4, ρ = [some (stkV ws m l), some (.tup []), some (prcV ws m), c3, c4, none, none, none, none, none, none]) ⟨none, none, rfl⟩ (fun i ρ hi hI => by
    obtain ⟨c3, c4, rfl⟩ := hI
    match i, hi with
    | 0, _ => exact ⟨_, _, rfl, bar_row h s hxr hxl (by omega) _ _ _ _ _ _ _ _ _, _, _, rfl⟩
    | 1, _ => exact ⟨_, _, rfl, bar_row h s (rs := List.replicate m (0 : Rat)) (fun r hr => by rw [List.eq_of_mem_replicate hr]; exact ⟨bd_0 _, by decide⟩) (List.length_replicate ..) (by omega) _ _ _ _ _ _ _ _ _, _, _, rfl⟩
    | 2, _ => exact ⟨_, _, rfl, bar_row h s (rs := List.replicate m (1 / rsum ws)) (fun r hr => by rw [List.eq_of_mem_replicate hr]; exact ⟨(inv_bd h).mono (by decide), inv_nn h⟩) (List.length_replicate ..) (by omega) _ _ _ _ _ _ _ _ _, _, _, rfl⟩
    | n + 3, hi => simp at hi; omega)
  obtain ⟨ρ3, A3, c5, c6, c7, c8, c9, rfl⟩ := bar3 h s c3 c4
  have hx1 : rsum x = 1 := by
    show rsum (ws.map fun w => w / rsum ws) = 1
    rw [rsum_divR, div_self hW]
  have e1 : F__law_sum [.tmp (x.map rV)] s = .ok (rV 1) s := by
    rw [b_lsum, lsum_b (k := 27) (fun r hr => (hxr r hr).1) (by decide) (by omega) s, hx1]
  have e2 : F__law_sum [.tmp ((List.replicate m (0 : Rat)).map rV)] s = .ok (rV 0) s := by
    rw [b_lsum, lsum_b (k := 0) (fun r hr => by rw [List.eq_of_mem_replicate hr]; exact bd_0 _) (by decide) (by rw [List.length_replicate]; omega) s, rsum_rep h]
    congr 2
    grind
  have e3 : F__law_plus [rV 0, rV 1] s = .ok (rV 1) s := by
    rw [b_lplus, lplus_r (bd_0 _) (bd_1 _) s]
    congr 2
    grind
  have e4 : F__law_is_less [rV 1, rV 1] s = .ok (.bl false) s := by
    rw [b_lisless, lless_r (bd_1 _) (bd_1 _) s]
    congr 2
  have f0 : oIx (prcV ws m) (.int 0) s = some (.tup (x.map rV)) := by rw [hx]; exact oIx_0 _ _ _
  have f1 : oIx (prcV ws m) (.int 1) s = some (.tup ((List.replicate m (0 : Rat)).map rV)) := by rw [hx]; exact oIx_1 _ _ _ _
  refine fDef_ok (ρ := [some (stkV ws m l), some (.tup []), some (prcV ws m), none, none, none, none, none, none, none, none]) rfl rfl ?_
  rw [S__law_do_bar_eq]
  refine fSeq_nx A1 (fSeq_nx A2 (fSeq_nx A3 (fRet_ok (fNotV_ok (b := false) (fCall_ok (s1 := s) (xs := [rV 1, rV 1]) (fCons_ok (fCall_ok (fCons_ok (fCallB_ok (fCons_ok (fOp_ok (p := prcV ws m) (q := .int 0) rfl rfl f0) fNil_ok) rfl) fNil_ok) rfl e1) (fCons_ok (fCall_ok (s1 := s) (xs := [rV 0, rV 1]) (fCons_ok (fCall_ok (fCons_ok (fCallB_ok (fCons_ok (fOp_ok (p := prcV ws m) (q := .int 1) rfl rfl f1) fNil_ok) rfl) fNil_ok) rfl e2) (fCons_ok rfl fNil_ok)) rfl e3) fNil_ok)) rfl e4)))))
end
end K08

namespace K08
open Pv PySem PySem.Spec PyProof.Rows L2
section
variable {ws : List Rat} {m : Nat} {l : Rat} (h : Ok ws m l) (s : Sto)
include h
def toldV (ws : List Rat) (m : Nat) (l : Rat) : PV := .tup [.str "served", rV (wayR ws m l), planV ws m l, prcV ws m]
theorem told0 : oIx (toldV ws m l) (.int 0) s = some (.str "served") := oIx_0 _ _ _
theorem told1 : oIx (toldV ws m l) (.int 1) s = some (rV (wayR ws m l)) := oIx_1 _ _ _ _
theorem told2 : oIx (toldV ws m l) (.int 2) s = some (planV ws m l) := oIx_2 _ _ _ _ _
theorem told3 : oIx (toldV ws m l) (.int 3) s = some (prcV ws m) := oIx_tupN (i := 3) rfl s
theorem notin_24 : oNotIn2 (.int 4) (.tup [.int 2, .int 4]) s = some (.bl false) := by
  simp [oNotIn2, inD, rd, toD, toDs, SeqAt.shaped, PyData.canLay0, PyData.canLayAll0, PyData.depth, PyData.depthAll, PyData.eqv]
theorem in_nil (a p : Nat) : oIn2 (.tup [.int (a : Nat), .int (p : Nat)]) (.tup []) s = some (.bl false) := by
  simp [oIn2, inD, rd, toD, toDs, SeqAt.shaped, PyData.canLay0, PyData.canLayAll0, PyData.depth, PyData.depthAll]
theorem served4 : ∃ ρ', S__law_is_served_4 [some (stkV ws m l), some (.tup []), some (toldV ws m l), none, none, none, none, none, none] s = .nx ρ' s ∧ ∃ c4 c5, ρ' = [some (stkV ws m l), some (.tup []), some (toldV ws m l), none, c4, c5, none, none, none] := by
  have hm := h.m1
  have h6 := h.w.l6
  have src : SrcAt (srcE (fOp oIx (fVar 2) (fC (.int 2)))) [some (stkV ws m l), some (.tup []), some (toldV ws m l), none, none, none, none, none, none] s ((List.range m).map fun i => .tup [rV (legR ws l), seatV ws.length m i]) := srcAt_seq (fOp_ok (p := toldV ws m l) (q := .int 2) rfl rfl (told2 h s)) rfl
  obtain ⟨ρ', e, c4, c5, rfl⟩ := fFor_pure (gt := gfTup 2 (gfCons (gfName 4) (gfCons (gfName 5) gfNil))) (fb := S__law_is_served_4b) src (fun i ρ => ∃ c4 c5, ρ = [some (stkV ws m l), some (.tup []), some (toldV ws m l), none, c4, c5, none, none, none]) ⟨none, none, rfl⟩ (fun i ρ hi hI => by
    obtain ⟨c4, c5, rfl⟩ := hI
    have hi' : i < m := by simpa using hi
    have hget : ((List.range m).map fun i => PV.tup [rV (legR ws l), seatV ws.length m i])[i] = .tup [rV (legR ws l), .tup (seatL ws.length m i)] := by
      rw [← seat_eq hm hi']; simp
    rw [hget]
    have src2 := srcAt_en (fs := fCons (fVar 5) fNil) (ρ := [some (stkV ws m l), some (.tup []), some (toldV ws m l), none, some (rV (legR ws l)), some (.tup (seatL ws.length m i)), none, none, none]) (s := s) (p := .tup (seatL ws.length m i)) rfl rfl
    have he : enL (seatL ws.length m i) = (List.range ws.length).map fun p => .tup [.int (p : Nat), .int (sN m i p : Nat)] := by
      unfold enL
      have hsl : (seatL ws.length m i).length = ws.length := by simp [seatL]
      rw [hsl]
      refine List.map_congr_left fun p hp => ?_
      rw [List.mem_range] at hp
      have : (seatL ws.length m i)[p]? = some (.int (sN m i p : Nat)) := by simp [seatL, hp]
      rw [List.getD_eq_getElem?_getD, this]
      rfl
    rw [he] at src2
    have c := fLcT_map (vs := [6, 7]) (gt := gfTup 2 (gfCons (gfName 6) (gfCons (gfName 7) gfNil))) (fe := fOp oIn2 (fTup (fCons (fVar 7) (fCons (fVar 6) fNil))) (fVar 1)) (ρ0 := [some (stkV ws m l), some (.tup []), some (toldV ws m l), none, some (rV (legR ws l)), some (.tup (seatL ws.length m i)), none, none, none]) (List.range ws.length) (fun p => .tup [.int (p : Nat), .int (sN m i p : Nat)]) (fun _ => .bl false) src2 rfl (by simp; omega)
      (fun p hp => ⟨[some (stkV ws m l), some (.tup []), some (toldV ws m l), none, some (rV (legR ws l)), some (.tup (seatL ws.length m i)), some (.int (p : Nat)), some (.int (sN m i p : Nat)), none], rfl, fOp_ok (p := .tup [.int (sN m i p : Nat), .int (p : Nat)]) (q := .tup []) rfl rfl (in_nil h s _ _)⟩)
    have e3 := fCallB_ok (fCons_ok c fNil_ok) (oAny_map (List.range ws.length) (fun _ => false) s)
    have a3 : ((List.range ws.length).any fun _ => false) = false := by simp
    rw [a3] at e3
    exact ⟨_, _, rfl, fIfS_f (fB_ok e3) rfl, _, _, rfl⟩)
  exact ⟨_, e, _, _, rfl⟩
theorem lserved_ok : ∃ s', F__law_is_served [stkV ws m l, .tup [], toldV ws m l] s = .ok (.bl true) s' ∧ Grow s s' := by
  have A1 : S__law_is_served_1 [some (stkV ws m l), some (.tup []), some (toldV ws m l), none, none, none, none, none, none] s = .nx [some (stkV ws m l), some (.tup []), some (toldV ws m l), none, none, none, none, none, none] s :=
    fIfS_f (fOr_f (fNot_ok (b := true) (fB_ok (fCallB_ok (xs := [toldV ws m l, .ty "tuple"]) rfl rfl))) (fOr_f (fB_ok (fOp_ok (p := .int 4) (q := .tup [.int 2, .int 4]) (fCallB_ok (xs := [toldV ws m l]) rfl rfl) rfl (notin_24 h s))) (fNot_ok (b := true) (fB_ok (fCallB_ok (xs := [.str "served", .ty "str"]) (fCons_ok (fOp_ok (p := toldV ws m l) (q := .int 0) rfl rfl (told0 h s)) rfl) rfl))))) rfl
  have A2 : S__law_is_served_2 [some (stkV ws m l), some (.tup []), some (toldV ws m l), none, none, none, none, none, none] s = .nx [some (stkV ws m l), some (.tup []), some (toldV ws m l), none, none, none, none, none, none] s := by
    refine fIfS_f (fB_ok (fOp_ok (p := .int 4) (q := .int 2) (fCallB_ok (xs := [toldV ws m l]) rfl rfl) rfl ?_)) rfl
    rw [oEq_int]; simp
  have x1 : F__law_is_exact [rV (wayR ws m l)] s = .ok (.bl true) s := by rw [b_lexact]; exact lexact_r _ (way_bd h) (by decide) s
  have A3 : S__law_is_served_3 [some (stkV ws m l), some (.tup []), some (toldV ws m l), none, none, none, none, none, none] s = .nx [some (stkV ws m l), some (.tup []), some (toldV ws m l), none, none, none, none, none, none] s := by
    refine fIfS_f (fOr_f (fB_ok (fOp_ok (p := .str "served") (q := .str "served") (fOp_ok (p := toldV ws m l) (q := .int 0) rfl rfl (told0 h s)) rfl ?_)) (fOr_f (fNot_ok (b := true) (fB_ok (fCall_ok (s1 := s) (xs := [rV (wayR ws m l)]) (fCons_ok (fOp_ok (p := toldV ws m l) (q := .int 1) rfl rfl (told1 h s)) fNil_ok) rfl x1))) (fNot_ok (b := true) (fB_ok (fCall_ok (s1 := s) (xs := [stkV ws m l, planV ws m l]) (fCons_ok (fVar_ok rfl) (fCons_ok (fOp_ok (p := toldV ws m l) (q := .int 2) rfl rfl (told2 h s)) fNil_ok)) rfl (lplan_ok h s)))))) rfl
    rw [oNe_str]; simp
  obtain ⟨ρ4, A4, c4, c5, rfl⟩ := served4 h s
  obtain ⟨s5, x5, g5⟩ := lserves_ok h s
  have A5 : S__law_is_served_5 [some (stkV ws m l), some (.tup []), some (toldV ws m l), none, c4, c5, none, none, none] s = .nx [some (stkV ws m l), some (.tup []), some (toldV ws m l), none, c4, c5, none, none, none] s5 := by
    refine fIfS_f (fOr_f (fB_ok (fOp_ok (p := rV (wayR ws m l)) (q := rV (wayR ws m l)) (fCall_ok (s1 := s) (xs := [planV ws m l]) (fCons_ok (fOp_ok (p := toldV ws m l) (q := .int 2) rfl rfl (told2 h s)) fNil_ok) rfl (lway_ok h s)) (fOp_ok (p := toldV ws m l) (q := .int 1) rfl rfl (told1 h s)) ?_)) (fNot_ok (b := true) (fB_ok (fCall_ok (s1 := s) (xs := [stkV ws m l, planV ws m l]) (fCons_ok (fVar_ok rfl) (fCons_ok (fOp_ok (p := toldV ws m l) (q := .int 2) rfl rfl (told2 h s)) fNil_ok)) rfl x5)))) rfl
    rw [oNe_r]; simp
  refine ⟨s5, ?_, g5⟩
  refine fDef_ok (ρ := [some (stkV ws m l), some (.tup []), some (toldV ws m l), none, none, none, none, none, none]) rfl rfl ?_
  rw [S__law_is_served_eq]
  refine fSeq_nx A1 (fSeq_nx A2 (fSeq_nx A3 (fSeq_nx A4 (fSeq_nx A5 (fRet_ok (fAndV_t (fCall_ok (s1 := s5) (xs := [stkV ws m l, .tup [], prcV ws m]) (fCons_ok (fVar_ok rfl) (fCons_ok (fVar_ok rfl) (fCons_ok (fOp_ok (p := toldV ws m l) (q := .int 3) rfl rfl (told3 h s5)) fNil_ok))) rfl (ldo_bar_ok h s5)) (fOp_ok (p := rV (wayR ws m l)) (q := rV (wayR ws m l)) (fCall_ok (s1 := s5) (xs := [stkV ws m l, prcV ws m]) (fCons_ok (fVar_ok rfl) (fCons_ok (fOp_ok (p := toldV ws m l) (q := .int 3) rfl rfl (told3 h s5)) fNil_ok)) rfl (lbound_ok h s5)) (fOp_ok (p := toldV ws m l) (q := .int 1) rfl rfl (told1 h s5)) ?_)))))))
  rw [oEq_r]; simp
/-! what is shown -/
theorem r_okR {a : Rat} {k : Nat} (hb : Bd k a) (hk : k ≤ 190) : okR 60 (rV a) = true := by
  have e : (2 : Nat) ^ k < 10 ^ 60 := Nat.lt_of_le_of_lt (Nat.pow_le_pow_right (by decide) hk) (by decide)
  rw [rV_frV]
  exact frV_okR (Nat.lt_of_le_of_lt hb.n e) (Nat.lt_of_le_of_lt (by simpa using hb.d) e)
theorem r_sh {a : Rat} {k : Nat} (hb : Bd k a) (hk : k ≤ 190) : ∃ x, ∀ s, oRepr [rV a] s = some (.str x) := ⟨_, fun s => repr_ok (r_okR h hb hk) (by simp [rV, szR, szRs]) (by simp [rV, dpR, dpRs]) s⟩
theorem ws_okR : okRs 60 (ws.map rV) = true := okRs_of fun p hp => by
  obtain ⟨w, hw, rfl⟩ := List.mem_map.mp hp
  exact r_okR h (h.w.w w hw).2 (by decide)
theorem rs_sz (rs : List Rat) : szRs (rs.map rV) ≤ 3 * rs.length := by
  have := szRs_le (c := 2) (xs := rs.map rV) fun p hp => by
    obtain ⟨w, hw, rfl⟩ := List.mem_map.mp hp
    simp [rV, szR, szRs]
  rwa [List.length_map] at this
theorem rs_dp (rs : List Rat) : dpRs (rs.map rV) ≤ 1 := dpRs_le fun p hp => by
  obtain ⟨w, hw, rfl⟩ := List.mem_map.mp hp
  simp [rV, dpR, dpRs]
theorem rep_sz (x : PV) (n : Nat) : szRs (List.replicate n x) ≤ (szR x + 1) * n := by
  have := szRs_le (c := szR x) (xs := List.replicate n x) fun p hp => by rw [List.eq_of_mem_replicate hp]; exact Nat.le_refl _
  rwa [List.length_replicate] at this
theorem rep_dp (x : PV) (n : Nat) : dpRs (List.replicate n x) ≤ dpR x := dpRs_le fun p hp => by rw [List.eq_of_mem_replicate hp]; exact Nat.le_refl _
theorem rep_ok' {x : PV} (hx : okR 60 x = true) (n : Nat) : okRs 60 (List.replicate n x) = true := okRs_of fun p hp => by rw [List.eq_of_mem_replicate hp]; exact hx
theorem rV_sz (a : Rat) : szR (rV a) = 2 := by simp [rV, szR, szRs]
theorem rV_dp (a : Rat) : dpR (rV a) = 1 := by simp [rV, dpR, dpRs]
theorem stk_sh : ∃ x, ∀ s, oRepr [stkV ws m l] s = some (.str x) := by
  have h8 := h.m8
  have h6 := h.w.l6
  have hz := rs_sz h ws
  have hd := rs_dp h ws
  have hit : okR 60 (PV.tup [rV l, wsV ws]) = true := by
    have h1 := r_okR h h.lb (by decide)
    have h2 : okR 60 (wsV ws) = true := by unfold wsV; rw [okR]; exact ws_okR h
    simp [okR, okRs, h1, h2]
  have hisz : szR (PV.tup [rV l, wsV ws]) ≤ 22 := by
    have : szR (wsV ws) = szRs (ws.map rV) := by unfold wsV; rw [szR]
    simp only [szR, szRs, rV_sz h, this]
    omega
  have hidp : dpR (PV.tup [rV l, wsV ws]) ≤ 4 := by
    have : dpR (wsV ws) = dpRs (ws.map rV) + 1 := by unfold wsV; rw [dpR]
    simp only [dpR, dpRs, rV_dp h, this]
    omega
  refine ⟨_, fun s => repr_ok ?_ ?_ ?_ s⟩
  · unfold stkV
    have h1 := rep_ok' h hit m
    have h2 : ((ws.length : Nat) : Int).natAbs < 10 ^ 60 := Nat.lt_of_le_of_lt (show _ ≤ 6 by simpa using h6) (by decide)
    simp only [okR, okRs, h1, Bool.and_true, decide_eq_true_eq]
    exact h2
  · unfold stkV
    have h1 := rep_sz h (PV.tup [rV l, wsV ws]) m
    have h2 : (szR (PV.tup [rV l, wsV ws]) + 1) * m ≤ 23 * 8 := Nat.mul_le_mul (by omega) h8
    simp only [szR, szRs] at h1 h2 ⊢
    omega
  · unfold stkV
    have h1 := rep_dp h (PV.tup [rV l, wsV ws]) m
    simp only [dpR, dpRs] at h1 hidp ⊢
    omega
end
end K08

namespace K08
open Pv PySem PySem.Spec PyProof.Rows L2
section
variable {ws : List Rat} {m : Nat} {l : Rat} (h : Ok ws m l) (s : Sto)
include h
theorem seat_okR {i : Nat} (hi : i < m) : okR 60 (seatV ws.length m i) = true ∧ szR (seatV ws.length m i) ≤ 6 ∧ dpR (seatV ws.length m i) = 1 := by
  have hm := h.m1
  have h8 := h.m8
  have h6 := h.w.l6
  rw [seat_eq hm hi]
  refine ⟨?_, ?_, ?_⟩
  · rw [okR]
    refine okRs_of fun p hp => ?_
    obtain ⟨q, hq, rfl⟩ := List.mem_map.mp hp
    rw [List.mem_range] at hq
    have := sN_lt hi (show q < m by omega)
    have h2 : ((sN m i q : Nat) : Int).natAbs < 10 ^ 60 := Nat.lt_of_le_of_lt (show _ ≤ 8 by simp; omega) (by decide)
    simp only [okR, decide_eq_true_eq]
    exact h2
  · have := szRs_le (c := 0) (xs := seatL ws.length m i) fun p hp => by
      obtain ⟨q, hq, rfl⟩ := List.mem_map.mp hp
      simp [szR]
    rw [szR]
    have hl : (seatL ws.length m i).length = ws.length := by simp [seatL]
    rw [hl] at this
    omega
  · have : dpRs (seatL ws.length m i) ≤ 0 := dpRs_le fun p hp => by
      obtain ⟨q, hq, rfl⟩ := List.mem_map.mp hp
      simp [dpR]
    rw [dpR]
    omega
theorem plan_sh : ∃ x, ∀ s, oRepr [planV ws m l] s = some (.str x) := by
  have h8 := h.m8
  have hit : ∀ p ∈ (List.range m).map (fun i => PV.tup [rV (legR ws l), seatV ws.length m i]), okR 60 p = true ∧ szR p ≤ 10 ∧ dpR p ≤ 2 := by
    intro p hp
    obtain ⟨i, hi, rfl⟩ := List.mem_map.mp hp
    obtain ⟨a1, a2, a3⟩ := seat_okR h (List.mem_range.mp hi)
    have h1 := r_okR h (leg_bd h) (by decide)
    refine ⟨by simp [okR, okRs, h1, a1], ?_, ?_⟩
    · simp only [szR, szRs, rV_sz h]; omega
    · simp only [dpR, dpRs, rV_dp h, a3]; omega
  refine ⟨_, fun s => repr_ok ?_ ?_ ?_ s⟩
  · unfold planV; rw [okR]; exact okRs_of fun p hp => (hit p hp).1
  · unfold planV; rw [szR]
    have := szRs_le (c := 10) fun p hp => (hit p hp).2.1
    rw [List.length_map, List.length_range] at this
    omega
  · unfold planV; rw [dpR]
    have := dpRs_le (c := 2) fun p hp => (hit p hp).2.2
    omega
theorem prc_sh : ∃ x, ∀ s, oRepr [prcV ws m] s = some (.str x) := by
  have h8 := h.m8
  have h6 := h.w.l6
  have o1 : okRs 60 (ws.map fun w => rV (w / rsum ws)) = true := okRs_of fun p hp => by
    obtain ⟨w, hw, rfl⟩ := List.mem_map.mp hp
    exact r_okR h (price_w h hw).1 (by decide)
  have z1 : szRs (ws.map fun w => rV (w / rsum ws)) ≤ 3 * 6 := by
    have := szRs_le (c := 2) (xs := ws.map fun w => rV (w / rsum ws)) fun p hp => by
      obtain ⟨w, hw, rfl⟩ := List.mem_map.mp hp
      rw [rV_sz h]; exact Nat.le_refl _
    rw [List.length_map] at this
    omega
  have d1 : dpRs (ws.map fun w => rV (w / rsum ws)) ≤ 1 := dpRs_le fun p hp => by
    obtain ⟨w, hw, rfl⟩ := List.mem_map.mp hp
    rw [rV_dp h]; exact Nat.le_refl _
  have o2 := rep_ok' h (r_okR h (bd_0 3) (by decide)) m
  have o3 := rep_ok' h (r_okR h (inv_bd h) (by decide)) m
  have z2 := rep_sz h (rV 0) m
  have z3 := rep_sz h (rV (1 / rsum ws)) m
  have d2 := rep_dp h (rV 0) m
  have d3 := rep_dp h (rV (1 / rsum ws)) m
  rw [rV_sz h] at z2 z3
  rw [rV_dp h] at d2 d3
  refine ⟨_, fun s => repr_ok ?_ ?_ ?_ s⟩
  · unfold prcV; simp only [okR, okRs, o1, o2, o3, Bool.and_true, Bool.and_self]
  · unfold prcV; simp only [szR, szRs]; omega
  · unfold prcV; simp only [dpR, dpRs]; omega
/-- a look at what two things show -/
theorem same_sh {v : PV} {f g : EF} {ρ : Sl} {s1 s2 : Sto} (hs : ∃ x, ∀ s, oRepr [v] s = some (.str x)) (hf : f ρ s = .ok v s1) (hg : g ρ s1 = .ok v s2) : fB (fOp oNe (fCallB oRepr (fCons f fNil)) (fCallB oRepr (fCons g fNil))) ρ s = .ok false s2 := by
  obtain ⟨x, hx⟩ := hs
  refine fB_ok (fOp_ok (fCallB_ok (fCons_ok hf fNil_ok) (hx _)) (fCallB_ok (fCons_ok hg fNil_ok) (hx _)) ?_)
  rw [oNe_str]; simp
theorem callK_ok {n a b : Nat} {ord : List Nat} {F : List PV → Sto → Res PV} {fs fk : Sl → Sto → Res (List PV)} {ρ : Sl} {s s1 s2 : Sto} {xs zs : List PV} {r : Res PV} (h1 : fs ρ s = .ok xs s1) (h2 : fk ρ s1 = .ok zs s2) (ha : xs.length = a) (hb : zs.length = b) (hr : F (xs ++ ordV .non ord zs) s2 = r) : fCallK n a b ord F fs fk ρ s = r := by
  unfold fCallK
  rw [h1]
  show ((fk ρ s1).bind fun zs s2 => if xs.length = a ∧ zs.length = b then F (xs ++ ordV .non ord zs) s2 else .stk) = _
  rw [h2]
  show (if xs.length = a ∧ zs.length = b then F (xs ++ ordV .non ord zs) s2 else .stk) = _
  rw [if_pos ⟨ha, hb⟩, hr]
theorem lw_sum : F__law_sum [.tmp (ws.map rV)] s = .ok (rV (rsum ws)) s := by
  rw [b_lsum]
  exact lsum_b (fun r hr => (h.w.w r hr).2) (by decide) (by have := h.w.l6; omega) s
/-- (part + lap) % many where it is the place asked for -/
theorem idx_ok {i p : Nat} (hi : i < m) (hp : p < m) : oIndex (.tmp ((List.range m).map fun (a : Nat) => .int (((a : Int) + (i : Nat)).fmod (m : Nat)))) (.int (p : Nat)) s = some (.int (sN m i p : Nat)) := by
  have h8 := h.m8
  let ns : List Int := (List.range m).map fun (a : Nat) => ((a : Int) + (i : Nat)).fmod (m : Nat)
  have e : ((List.range m).map fun (a : Nat) => PV.int (((a : Int) + (i : Nat)).fmod (m : Nat))) = ns.map PV.int := by simp [ns]
  have hv : ∀ a, a < m → ((a : Int) + (i : Nat)).fmod (m : Nat) = (if a + i < m then a + i else a + i - m : Nat) := by
    intro a ha
    rw [Int.fmod_eq_emod_of_nonneg _ (by omega)]
    split
    · rw [Int.emod_eq_of_lt (by omega) (by omega)]; omega
    · rw [show (a : Int) + (i : Nat) = ((a + i - m : Nat) : Int) + (m : Nat) by omega, Int.add_emod_right, Int.emod_eq_of_lt (by omega) (by omega)]
  have hge : ∀ a, a < m → ns[a]? = some (((if a + i < m then a + i else a + i - m : Nat) : Nat) : Int) := by
    intro a ha
    have : ns[a]? = some (((a : Int) + (i : Nat)).fmod (m : Nat)) := by simp [ns, ha]
    rw [this, hv a ha]
  have hk := sN_lt hi hp
  have key : ∀ (j : Nat) (l : List Int) (k : Nat), (∀ b, b < j → ∃ z, l[b]? = some z ∧ z ≠ (p : Nat)) → l[j]? = some ((p : Nat) : Int) → firstE (.int (p : Nat)) (l.map .int) k = some (k + j) := by
    intro j
    induction j with
    | zero =>
      intro l k _ h2
      cases l with
      | nil => simp at h2
      | cons z r =>
        simp at h2
        subst h2
        simp [firstE, PyData.eqv]
    | succ j ih =>
      intro l k h1 h2
      cases l with
      | nil => simp at h2
      | cons z r =>
        obtain ⟨z', e1, e2⟩ := h1 0 (by omega)
        simp at e1
        subst e1
        have := ih r (k + 1) (fun b hb => by simpa using h1 (b + 1) (by omega)) (by simpa using h2)
        have q : PyData.eqv (.int z) (.int (p : Nat)) = false := by simpa [PyData.eqv] using e2
        have e3 : firstE (.int (p : Nat)) ((z :: r).map .int) k = firstE (.int (p : Nat)) (r.map .int) (k + 1) := by
          rw [List.map_cons, firstE, if_neg (by rw [q]; simp)]
        rw [e3, this]
        congr 1
        omega
  have hf := key (sN m i p) ns 0 (fun b hb => ⟨_, hge b (by omega), fun z => by
    have z' : (if b + i < m then b + i else b + i - m : Nat) = p := by omega
    unfold sN at hb
    split at hb <;> split at z' <;> omega⟩) (by
      rw [hge _ hk]
      congr 2
      unfold sN
      split <;> split <;> omega)
  have h1 : SeqAt.shaped (.int (p : Nat)) = true := by simp [SeqAt.shaped, PyData.canLay0, PyData.depth]
  have h2 : SeqAt.shaped (.list (ns.map PyData.int)) = true := by simp [SeqAt.shaped, PyData.canLay0, PyData.depth, canLay_ints, depth_ints]
  rw [e]
  have e1 : (toD (rd s (.tmp (ns.map PV.int)))).bind listD = some (ns.map PyData.int) := by simp only [rd, toD, toDs_ints, Option.map_some, Option.bind_some, listD]
  have e2 : toD (rd s (.int (p : Nat))) = some (.int (p : Nat)) := by simp only [rd, toD]
  unfold oIndex
  rw [e1, e2]
  show (if (SeqAt.shaped (.list (ns.map PyData.int)) && SeqAt.shaped (.int (p : Nat))) = true then _ else _) = _
  rw [h1, h2, hf]
  simp
theorem like6 {c0 c2 c3 c4 c5 c6 c9 c10 c11 c12 c13 c14 c15 c16 : Option PV} (hc0 : c0 = some (wsV ws)) {s1 : Sto} {L : Nat} (hL : s1.objs[L]? = some (.lst [])) (hg : Grow s s1) (hLs : s.objs.length ≤ L) :
    ∃ ρ' s', S__law_are_like_right_6 [c0, some (.int (m : Nat)), c2, c3, c4, c5, c6, some (rV (legR ws l)), some (.loc L), c9, c10, c11, c12, c13, c14, c15, c16] s1 = .nx ρ' s' ∧ (∃ c9 c10, ρ' = [c0, some (.int (m : Nat)), c2, c3, c4, c5, c6, some (rV (legR ws l)), some (.loc L), c9, c10, c11, c12, c13, c14, c15, c16]) ∧ s'.objs[L]? = some (.lst ((List.range m).map fun i => .tup [rV (legR ws l), seatV ws.length m i])) ∧ Grow s s' := by
  subst hc0
  have hm := h.m1
  have h8 := h.m8
  have h6 := h.w.l6
  have hp := m_pos h
  have hs := srcR1_eq (fs := fCons (fVar 1) fNil) (ρ := [some (wsV ws), some (.int (m : Nat)), c2, c3, c4, c5, c6, some (rV (legR ws l)), some (.loc L), c9, c10, c11, c12, c13, c14, c15, c16]) (s := s1) (s1 := s1) (b := (m : Nat)) rfl (by omega) (by omega)
  rw [Int.toNat_natCast] at hs
  obtain ⟨ρ', s', e, ⟨c9', c10', rfl⟩, hL', hg'⟩ := fFor_any (gt := gfName 9) (fb := S__law_are_like_right_6b) (ys := (List.range m).map fun i => .int (i : Nat)) hs (by simp) (fun i ρ s' => (∃ c9 c10, ρ = [some (wsV ws), some (.int (m : Nat)), c2, c3, c4, c5, c6, some (rV (legR ws l)), some (.loc L), c9, c10, c11, c12, c13, c14, c15, c16]) ∧ s'.objs[L]? = some (.lst ((List.range i).map fun i => .tup [rV (legR ws l), seatV ws.length m i])) ∧ Grow s s')
    (fun i ρ s' _ hi => by
      show some (if i < m then some (PV.int (i : Int)) else none) = _
      by_cases q : i < m
      · rw [if_pos q, List.getElem?_map, List.getElem?_range q]; rfl
      · rw [if_neg q, List.getElem?_eq_none (by simpa using q)]) ⟨⟨c9, c10, rfl⟩, hL, hg⟩ (fun i ρ s2 hi hI => by
      obtain ⟨⟨c9, c10, rfl⟩, hL2, hg2⟩ := hI
      have hi' : i < m := by simpa using hi
      have hget : ((List.range m).map fun i => PV.int (i : Nat))[i] = .int (i : Nat) := by simp
      rw [hget]
      have src := srcAt_rng1 (fs := fCons (fVar 1) fNil) (ρ := [some (wsV ws), some (.int (m : Nat)), c2, c3, c4, c5, c6, some (rV (legR ws l)), some (.loc L), some (.int (i : Nat)), c10, c11, c12, c13, c14, c15, c16]) (s := s2) (n := m) rfl (by omega)
      have k1 := fLcT_map (vs := [14]) (gt := gfName 14) (fe := fOp oMod (fOp oAdd (fVar 14) (fVar 9)) (fVar 1)) (ρ0 := [some (wsV ws), some (.int (m : Nat)), c2, c3, c4, c5, c6, some (rV (legR ws l)), some (.loc L), some (.int (i : Nat)), c10, c11, c12, c13, none, c15, c16]) (List.range m) (fun a => .int (a : Nat)) (fun (a : Nat) => .int (((a : Int) + (i : Nat)).fmod (m : Nat))) src rfl (by simp; omega)
        (fun a ha => ⟨[some (wsV ws), some (.int (m : Nat)), c2, c3, c4, c5, c6, some (rV (legR ws l)), some (.loc L), some (.int (i : Nat)), c10, c11, c12, c13, some (.int (a : Nat)), c15, c16], rfl, fOp_ok (p := .int ((a : Int) + (i : Nat))) (q := .int (m : Nat)) rfl rfl (oMod_int _ _ _ (by omega))⟩)
      have src2 := srcAt_rng1 (fs := fCons (fCallB oLen (fCons (fVar 0) fNil)) fNil) (ρ := [some (wsV ws), some (.int (m : Nat)), c2, c3, c4, c5, c6, some (rV (legR ws l)), some (.loc L), some (.int (i : Nat)), some (.tmp ((List.range m).map fun (a : Nat) => .int (((a : Int) + (i : Nat)).fmod (m : Nat)))), c11, c12, c13, c14, c15, c16]) (s := s2) (n := ws.length) (fCons_ok (fCallB_ok (xs := [wsV ws]) rfl (ws_len ws s2)) fNil_ok) (by omega)
      have k2 := fLcT_map (vs := [15]) (gt := gfName 15) (fe := fIndex (fVar 10) (fVar 15)) (ρ0 := [some (wsV ws), some (.int (m : Nat)), c2, c3, c4, c5, c6, some (rV (legR ws l)), some (.loc L), some (.int (i : Nat)), some (.tmp ((List.range m).map fun (a : Nat) => .int (((a : Int) + (i : Nat)).fmod (m : Nat)))), c11, c12, c13, c14, none, c16]) (List.range ws.length) (fun a => .int (a : Nat)) (fun p => .int (sN m i p : Nat)) src2 rfl (by simp; omega)
        (fun p hp2 => by
          rw [List.mem_range] at hp2
          refine ⟨[some (wsV ws), some (.int (m : Nat)), c2, c3, c4, c5, c6, some (rV (legR ws l)), some (.loc L), some (.int (i : Nat)), some (.tmp ((List.range m).map fun (a : Nat) => .int (((a : Int) + (i : Nat)).fmod (m : Nat)))), c11, c12, c13, c14, some (.int (p : Nat)), c16], rfl, ?_⟩
          have := idx_ok h s2 hi' (show p < m by omega)
          exact fIndex_ok (p := .tmp ((List.range m).map fun (a : Nat) => .int (((a : Int) + (i : Nat)).fmod (m : Nat)))) (fVar_ok rfl) rfl (fVar_ok rfl) this)
      have hseat : PV.tup ((List.range ws.length).map fun p => .int (sN m i p : Nat)) = seatV ws.length m i := (seat_eq hm hi').symm
      refine ⟨[some (wsV ws), some (.int (m : Nat)), c2, c3, c4, c5, c6, some (rV (legR ws l)), some (.loc L), some (.int (i : Nat)), c10, c11, c12, c13, c14, c15, c16], s2, _, _, rfl, fSeq_nx (ρ1 := [some (wsV ws), some (.int (m : Nat)), c2, c3, c4, c5, c6, some (rV (legR ws l)), some (.loc L), some (.int (i : Nat)), some (.tmp ((List.range m).map fun (a : Nat) => .int (((a : Int) + (i : Nat)).fmod (m : Nat)))), c11, c12, c13, c14, c15, c16]) (s1 := s2) (fAsgN_ok k1) (fDrop_ok (fAppend_ok (L := L) (q := .tup [rV (legR ws l), seatV ws.length m i]) (fVar_ok rfl) (fTup_ok (fCons_ok (fVar_ok rfl) (fCons_ok (fCallB_ok (fCons_ok k2 fNil_ok) (by rw [oTuple_tmp, hseat])) fNil_ok)) (by simp)) hL2 (by simp; omega))), ⟨_, _, rfl⟩, ?_, grow_set hg2 hLs _⟩
      rw [set_at hL2, List.range_succ, List.map_append]
      rfl)
  rw [List.length_map, List.length_range] at hL'
  exact ⟨_, s', e, ⟨_, _, rfl⟩, hL', hg'⟩
end
end K08

namespace K08
open Pv PySem PySem.Spec PyProof.Rows L2
section
variable {ws : List Rat} {m : Nat} {l : Rat} (h : Ok ws m l) (s : Sto)
include h
theorem way_ge : ¬ (wayR ws m l < stillR ws l) := by
  obtain ⟨_, _, w3, w4, w5⟩ := wmax_ok h default
  have hW := h.w.sum_pos
  have hl := h.l0
  have hm := h.m1
  -- the sum is at most so many times the greatest
  have hle : ∀ rs : List Rat, (∀ r ∈ rs, r ≤ wmax ws) → rsum rs ≤ (rs.length : Rat) * wmax ws := by
    intro rs
    induction rs with
    | nil => intro _; show (0 : Rat) ≤ ((0 : Nat) : Rat) * _; grind
    | cons r rs ih =>
      intro hr
      rw [rsum_cons']
      have h1 := hr r List.mem_cons_self
      have h2 := ih fun x hx => hr x (List.mem_cons_of_mem _ hx)
      have e : (((r :: rs).length : Nat) : Rat) = (rs.length : Rat) + 1 := by simp [List.length_cons]
      rw [e]
      grind
  have h1 := hle ws w5
  have h2 : (ws.length : Rat) ≤ (m : Rat) := by exact_mod_cast hm
  have h3 : (ws.length : Rat) * wmax ws ≤ (m : Rat) * wmax ws := Rat.mul_le_mul_of_nonneg_right h2 (by grind)
  have h4 : rsum ws ≤ (m : Rat) * wmax ws := by grind
  intro hc
  have e1 : wayR ws m l * rsum ws = (m : Rat) * l := by
    unfold wayR
    exact div_mul_cancel hW
  have e2 : stillR ws l * wmax ws = l := by
    unfold stillR
    exact div_mul_cancel w4
  have c1 := (Rat.mul_lt_mul_right hW).mpr hc
  rw [e1] at c1
  have c2 := (Rat.mul_lt_mul_right w4).mpr c1
  have c3 : stillR ws l * rsum ws * wmax ws = l * rsum ws := by
    have : stillR ws l * rsum ws * wmax ws = (stillR ws l * wmax ws) * rsum ws := by grind
    rw [this, e2]
  rw [c3] at c2
  have c4 := Rat.mul_le_mul_of_nonneg_right h4 (show (0 : Rat) ≤ l by grind)
  have c5 : (m : Rat) * wmax ws * l = (m : Rat) * l * wmax ws := by grind
  rw [c5] at c4
  have c6 : rsum ws * l = l * rsum ws := by grind
  rw [c6] at c4
  grind
theorem like_ok : ∃ s', F__law_are_like_right [wsV ws, .int (m : Nat), rV l] s = .ok (.bl true) s' ∧ Grow s s' := by
  have h8 := h.m8
  have h6 := h.w.l6
  have hp := m_pos h
  obtain ⟨w1, w2, w3, w4, w5⟩ := wmax_ok h s
  let z : List (Option PV) := [none, none, none, none, none, none, none, none, none, none]
  -- 1
  have A1 : S__law_are_like_right_1 [some (wsV ws), some (.int (m : Nat)), some (rV l), none, none, none, none, none, none, none, none, none, none, none, none, none, none] s = .nx [some (wsV ws), some (.int (m : Nat)), some (rV l), some (stkV ws m l), some (rV (rsum ws)), none, none, none, none, none, none, none, none, none, none, none, none] s := by
    refine fAsg_ok (p := .tup [stkV ws m l, rV (rsum ws)]) (s1 := s) (fTup_ok (fCons_ok (fTup_ok (xs := [.int (ws.length : Nat), .tup (List.replicate m (.tup [rV l, wsV ws]))]) (fCons_ok (fCallB_ok (xs := [wsV ws]) rfl (ws_len ws s)) (fCons_ok (fOp_ok (p := .tup [.tup [rV l, wsV ws]]) (q := .int (m : Nat)) rfl rfl (oMul_rep _ hp (by omega) s)) fNil_ok)) (by simp)) (fCons_ok (fCall_ok (xs := [.tmp (ws.map rV)]) rfl rfl (lw_sum h s)) fNil_ok)) (by simp)) rfl
  -- 2
  have t1 : F__law_times [rV (m : Rat), rV l] s = .ok (rV ((m : Rat) * l)) s := by rw [b_ltimes]; exact ltimes_r ((m_bd h).mono (by decide)) (h.lb.mono (by decide)) s
  have t2 : F__law_over [rV ((m : Rat) * l), rV (rsum ws)] s = .ok (rV (wayR ws m l)) s := by rw [b_lover]; exact lover_r (((m_bd h).mul h.lb).mono (by decide)) (h.w.sum_bd.mono (by decide)) s h.w.sum_pos
  have A2 : S__law_are_like_right_2 [some (wsV ws), some (.int (m : Nat)), some (rV l), some (stkV ws m l), some (rV (rsum ws)), none, none, none, none, none, none, none, none, none, none, none, none] s = .nx [some (wsV ws), some (.int (m : Nat)), some (rV l), some (stkV ws m l), some (rV (rsum ws)), some (rV (wayR ws m l)), none, none, none, none, none, none, none, none, none, none, none] s :=
    fAsgN_ok (fCall_ok (s1 := s) (xs := [rV ((m : Rat) * l), rV (rsum ws)]) (fCons_ok (fCall_ok (xs := [rV (m : Rat), rV l]) rfl rfl t1) (fCons_ok (fVar_ok rfl) fNil_ok)) rfl t2)
  -- 3
  have A3 : S__law_are_like_right_3 [some (wsV ws), some (.int (m : Nat)), some (rV l), some (stkV ws m l), some (rV (rsum ws)), some (rV (wayR ws m l)), none, none, none, none, none, none, none, none, none, none, none] s = .nx [some (wsV ws), some (.int (m : Nat)), some (rV l), some (stkV ws m l), some (rV (rsum ws)), some (rV (wayR ws m l)), none, none, none, none, none, none, none, none, none, none, none] s :=
    fIfS_f (fOr_f (same_sh h s (stk_sh h) (callK_ok h (xs := [wsV ws, .int (m : Nat)]) (zs := [rV l]) rfl rfl rfl rfl (stock_ok h s)) (fVar_ok rfl)) (same_sh h s (r_sh h (way_bd h) (by decide)) (callK_ok h (xs := [wsV ws, .int (m : Nat)]) (zs := [rV l]) rfl rfl rfl rfl (round_way_ok h s)) (fVar_ok rfl))) rfl
  -- 4
  have t4 : F__law_over [rV l, rV (rsum ws)] s = .ok (rV (legR ws l)) s := by rw [b_lover]; exact lover_r (h.lb.mono (by decide)) (h.w.sum_bd.mono (by decide)) s h.w.sum_pos
  have A4 : S__law_are_like_right_4 [some (wsV ws), some (.int (m : Nat)), some (rV l), some (stkV ws m l), some (rV (rsum ws)), some (rV (wayR ws m l)), none, none, none, none, none, none, none, none, none, none, none] s = .nx [some (wsV ws), some (.int (m : Nat)), some (rV l), some (stkV ws m l), some (rV (rsum ws)), some (rV (wayR ws m l)), some (planV ws m l), some (rV (legR ws l)), none, none, none, none, none, none, none, none, none] s := by
    unfold S__law_are_like_right_4 fPar
    rw [fCons_ok (callK_ok h (n := 3) (a := 2) (b := 1) (xs := [wsV ws, .int (m : Nat)]) (zs := [rV l]) rfl rfl rfl rfl (plan_ok h s)) (fCons_ok (fCall_ok (n := 2) (xs := [rV l, rV (rsum ws)]) rfl rfl t4) fNil_ok)]
    rfl
  -- 5, 6
  have A5 : S__law_are_like_right_5 [some (wsV ws), some (.int (m : Nat)), some (rV l), some (stkV ws m l), some (rV (rsum ws)), some (rV (wayR ws m l)), some (planV ws m l), some (rV (legR ws l)), none, none, none, none, none, none, none, none, none] s = .nx [some (wsV ws), some (.int (m : Nat)), some (rV l), some (stkV ws m l), some (rV (rsum ws)), some (rV (wayR ws m l)), some (planV ws m l), some (rV (legR ws l)), some (.loc s.objs.length), none, none, none, none, none, none, none, none] (s.alloc (.lst [])) := rfl
  obtain ⟨ρ6, s6, A6, ⟨c9, c10, rfl⟩, hL6, g6⟩ := like6 h s (c2 := some (rV l)) (c3 := some (stkV ws m l)) (c4 := some (rV (rsum ws))) (c5 := some (rV (wayR ws m l))) (c6 := some (planV ws m l)) (c9 := none) (c10 := none) (c11 := none) (c12 := none) (c13 := none) (c14 := none) (c15 := none) (c16 := none) rfl (s1 := s.alloc (.lst [])) (L := s.objs.length) (by simp [Sto.alloc]) (Grow.alloc _ _) (Nat.le_refl _)
  -- 7
  have A7 : S__law_are_like_right_7 [some (wsV ws), some (.int (m : Nat)), some (rV l), some (stkV ws m l), some (rV (rsum ws)), some (rV (wayR ws m l)), some (planV ws m l), some (rV (legR ws l)), some (.loc s.objs.length), c9, c10, none, none, none, none, none, none] s6 = .nx [some (wsV ws), some (.int (m : Nat)), some (rV l), some (stkV ws m l), some (rV (rsum ws)), some (rV (wayR ws m l)), some (planV ws m l), some (rV (legR ws l)), some (.loc s.objs.length), c9, c10, none, none, none, none, none, none] s6 :=
    fIfS_f (same_sh h s6 (plan_sh h) (fVar_ok rfl) (fCallB_ok (xs := [.loc s.objs.length]) rfl (by simp only [oTuple, seqOf, liveL, hL6, Option.map_some]; rfl))) rfl
  -- 8, 9
  have A8 : S__law_are_like_right_8 [some (wsV ws), some (.int (m : Nat)), some (rV l), some (stkV ws m l), some (rV (rsum ws)), some (rV (wayR ws m l)), some (planV ws m l), some (rV (legR ws l)), some (.loc s.objs.length), c9, c10, none, none, none, none, none, none] s6 = .nx [some (wsV ws), some (.int (m : Nat)), some (rV l), some (stkV ws m l), some (rV (rsum ws)), some (rV (wayR ws m l)), some (planV ws m l), some (rV (legR ws l)), some (.loc s.objs.length), c9, c10, some (prcV ws m), none, none, none, none, none] s6 :=
    fAsgN_ok (callK_ok h (xs := [wsV ws, .int (m : Nat)]) (zs := [rV l]) rfl rfl rfl rfl (prices_ok h s6))
  have t9 : F__law_over [rV 1, rV (rsum ws)] s6 = .ok (rV (1 / rsum ws)) s6 := by rw [b_lover]; exact lover_r (bd_1 _) (h.w.sum_bd.mono (by decide)) s6 h.w.sum_pos
  have A9 : S__law_are_like_right_9 [some (wsV ws), some (.int (m : Nat)), some (rV l), some (stkV ws m l), some (rV (rsum ws)), some (rV (wayR ws m l)), some (planV ws m l), some (rV (legR ws l)), some (.loc s.objs.length), c9, c10, some (prcV ws m), none, none, none, none, none] s6 = .nx [some (wsV ws), some (.int (m : Nat)), some (rV l), some (stkV ws m l), some (rV (rsum ws)), some (rV (wayR ws m l)), some (planV ws m l), some (rV (legR ws l)), some (.loc s.objs.length), c9, c10, some (prcV ws m), some (rV (1 / rsum ws)), none, none, none, none] s6 :=
    fAsgN_ok (fCall_ok (xs := [rV 1, rV (rsum ws)]) rfl rfl t9)
  -- 10
  have src : SrcAt (srcE (fVar 0)) [some (wsV ws), some (.int (m : Nat)), some (rV l), some (stkV ws m l), some (rV (rsum ws)), some (rV (wayR ws m l)), some (planV ws m l), some (rV (legR ws l)), some (.loc s.objs.length), c9, c10, some (prcV ws m), some (rV (1 / rsum ws)), none, none, none, none] s6 (ws.map rV) := srcAt_seq (p := wsV ws) rfl rfl
  have k10 := fLcT_map (vs := [16]) (gt := gfName 16) (fe := fCall 2 F__law_over (fCons (fVar 16) (fCons (fVar 4) fNil))) (ρ0 := [some (wsV ws), some (.int (m : Nat)), some (rV l), some (stkV ws m l), some (rV (rsum ws)), some (rV (wayR ws m l)), some (planV ws m l), some (rV (legR ws l)), some (.loc s.objs.length), c9, c10, some (prcV ws m), some (rV (1 / rsum ws)), none, none, none, none]) ws rV (fun w => rV (w / rsum ws)) src rfl (by omega)
    (fun w hw => ⟨[some (wsV ws), some (.int (m : Nat)), some (rV l), some (stkV ws m l), some (rV (rsum ws)), some (rV (wayR ws m l)), some (planV ws m l), some (rV (legR ws l)), some (.loc s.objs.length), c9, c10, some (prcV ws m), some (rV (1 / rsum ws)), none, none, none, some (rV w)], rfl, fCall_ok (xs := [rV w, rV (rsum ws)]) rfl rfl (by rw [b_lover]; exact lover_r ((h.w.w w hw).2.mono (by decide)) (h.w.sum_bd.mono (by decide)) s6 h.w.sum_pos)⟩)
  have A10 : S__law_are_like_right_10 [some (wsV ws), some (.int (m : Nat)), some (rV l), some (stkV ws m l), some (rV (rsum ws)), some (rV (wayR ws m l)), some (planV ws m l), some (rV (legR ws l)), some (.loc s.objs.length), c9, c10, some (prcV ws m), some (rV (1 / rsum ws)), none, none, none, none] s6 = .nx [some (wsV ws), some (.int (m : Nat)), some (rV l), some (stkV ws m l), some (rV (rsum ws)), some (rV (wayR ws m l)), some (planV ws m l), some (rV (legR ws l)), some (.loc s.objs.length), c9, c10, some (prcV ws m), some (rV (1 / rsum ws)), none, none, none, none] s6 :=
    fIfS_f (same_sh h s6 (prc_sh h) (fVar_ok rfl) (fTup_ok (fCons_ok (fCallB_ok (fCons_ok k10 fNil_ok) rfl) (fCons_ok (fOp_ok (p := .tup [rV 0]) (q := .int (m : Nat)) rfl rfl (oMul_rep _ hp (by omega) s6)) (fCons_ok (fOp_ok (p := .tup [rV (1 / rsum ws)]) (q := .int (m : Nat)) rfl rfl (oMul_rep _ hp (by omega) s6)) fNil_ok))) (by simp))) rfl
  -- 11
  obtain ⟨s11, x11, g11⟩ := lserved_ok h s6
  have A11 : S__law_are_like_right_11 [some (wsV ws), some (.int (m : Nat)), some (rV l), some (stkV ws m l), some (rV (rsum ws)), some (rV (wayR ws m l)), some (planV ws m l), some (rV (legR ws l)), some (.loc s.objs.length), c9, c10, some (prcV ws m), some (rV (1 / rsum ws)), none, none, none, none] s6 = .nx [some (wsV ws), some (.int (m : Nat)), some (rV l), some (stkV ws m l), some (rV (rsum ws)), some (rV (wayR ws m l)), some (planV ws m l), some (rV (legR ws l)), some (.loc s.objs.length), c9, c10, some (prcV ws m), some (rV (1 / rsum ws)), none, none, none, none] s11 :=
    fIfS_f (fNot_ok (b := true) (fB_ok (fCall_ok (xs := [stkV ws m l, .tup [], toldV ws m l]) rfl rfl x11))) rfl
  -- 12
  obtain ⟨_, w2', _, _, _⟩ := wmax_ok h s11
  have t12 : F__law_over [rV l, rV (wmax ws)] s11 = .ok (rV (stillR ws l)) s11 := by rw [b_lover]; exact lover_r (h.lb.mono (by decide)) (w3.mono (by decide)) s11 w4
  have A12 : S__law_are_like_right_12 [some (wsV ws), some (.int (m : Nat)), some (rV l), some (stkV ws m l), some (rV (rsum ws)), some (rV (wayR ws m l)), some (planV ws m l), some (rV (legR ws l)), some (.loc s.objs.length), c9, c10, some (prcV ws m), some (rV (1 / rsum ws)), none, none, none, none] s11 = .nx [some (wsV ws), some (.int (m : Nat)), some (rV l), some (stkV ws m l), some (rV (rsum ws)), some (rV (wayR ws m l)), some (planV ws m l), some (rV (legR ws l)), some (.loc s.objs.length), c9, c10, some (prcV ws m), some (rV (1 / rsum ws)), some (rV (stillR ws l)), none, none, none] s11 :=
    fAsgN_ok (fCall_ok (s1 := s11) (xs := [rV l, rV (wmax ws)]) (fCons_ok (fVar_ok rfl) (fCons_ok (fCall_ok (xs := [.tmp (ws.map rV)]) rfl rfl w2') fNil_ok)) rfl t12)
  -- 13
  have gb : Bd 43 (wayR ws m l - stillR ws l) := ((way_bd h).sub (still_bd h))
  have t13 : F__law_less [rV (wayR ws m l), rV (stillR ws l)] s11 = .ok (rV (wayR ws m l - stillR ws l)) s11 := by rw [b_lless]; exact lminus_r ((way_bd h).mono (by decide)) ((still_bd h).mono (by decide)) s11
  have A13 : S__law_are_like_right_13 [some (wsV ws), some (.int (m : Nat)), some (rV l), some (stkV ws m l), some (rV (rsum ws)), some (rV (wayR ws m l)), some (planV ws m l), some (rV (legR ws l)), some (.loc s.objs.length), c9, c10, some (prcV ws m), some (rV (1 / rsum ws)), some (rV (stillR ws l)), none, none, none] s11 = .nx [some (wsV ws), some (.int (m : Nat)), some (rV l), some (stkV ws m l), some (rV (rsum ws)), some (rV (wayR ws m l)), some (planV ws m l), some (rV (legR ws l)), some (.loc s.objs.length), c9, c10, some (prcV ws m), some (rV (1 / rsum ws)), some (rV (stillR ws l)), none, none, none] s11 :=
    fIfS_f (fOr_f (same_sh h s11 (r_sh h (still_bd h) (by decide)) (callK_ok h (xs := [wsV ws]) (zs := [rV l]) rfl rfl rfl rfl (unmoved_ok h s11)) (fVar_ok rfl)) (same_sh h s11 (r_sh h gb (by decide)) (callK_ok h (xs := [wsV ws, .int (m : Nat)]) (zs := [rV l]) rfl rfl rfl rfl (gain_ok h s11)) (fCall_ok (xs := [rV (wayR ws m l), rV (stillR ws l)]) rfl rfl t13))) rfl
  -- 14
  have t14 : F__law_is_less [rV (wayR ws m l), rV (stillR ws l)] s11 = .ok (.bl false) s11 := by rw [b_lisless, lless_r ((way_bd h).mono (by decide)) ((still_bd h).mono (by decide)) s11, decide_eq_false (way_ge h)]
  refine ⟨s11, ?_, g6.trans g11⟩
  refine fDef_ok (ρ := [some (wsV ws), some (.int (m : Nat)), some (rV l), none, none, none, none, none, none, none, none, none, none, none, none, none, none]) rfl rfl ?_
  rw [S__law_are_like_right_eq]
  exact fSeq_nx A1 (fSeq_nx A2 (fSeq_nx A3 (fSeq_nx A4 (fSeq_nx A5 (fSeq_nx A6 (fSeq_nx A7 (fSeq_nx A8 (fSeq_nx A9 (fSeq_nx A10 (fSeq_nx A11 (fSeq_nx A12 (fSeq_nx A13 (fRet_ok (fNotV_ok (b := false) (fCall_ok (xs := [rV (wayR ws m l), rV (stillR ws l)]) rfl rfl t14)))))))))))))))
end
end K08

namespace K08
open Pv PySem PySem.Spec PyProof.Rows L2
structure RowBad (p : PV) : Prop where
  no : ∀ s, F_look_at_wears [p] s = .exc 2 p s
  sh : ∃ r, ∀ s, oRepr [p] s = some (.str r)
structure FrBad (p : PV) : Prop where
  no : ∀ s, F_look_at_above [p] s = .exc 1 p s
  sh : ∃ r, ∀ s, oRepr [p] s = some (.str r)
structure OddBad (n : Nat) (p : PV) : Prop where
  no : ∀ s, F_is_int [p, .int (n : Nat), .int 8] s = .ok (.bl false) s
  sh : ∃ r, ∀ s, oRepr [p] s = some (.str r)
theorem sh_of {p : PV} (h : okR 60 p = true) (hs : szR p ≤ 600) (hd : dpR p ≤ 64) : ∃ r, ∀ s, oRepr [p] s = some (.str r) := ⟨_, fun s => repr_ok h hs hd s⟩
theorem wears_notup {p : PV} (h : ∀ s, oIsi isC [p, .ty "tuple"] s = some (.bl false)) (s : Sto) : F_look_at_wears [p] s = .exc 2 p s :=
  fDef_exc (ρ := [some p, none]) rfl rfl (fSeq_exc (fIfS_t (fOr_t (fNot_ok (b := false) (fB_ok (fCallB_ok (xs := [p, .ty "tuple"]) rfl (h s))))) (fRaise_ok rfl)))
theorem wears_len {xs : List PV} (h : ¬ (1 ≤ xs.length ∧ xs.length ≤ 6)) (s : Sto) : F_look_at_wears [.tup xs] s = .exc 2 (.tup xs) s := by
  refine fDef_exc (ρ := [some (.tup xs), none]) rfl rfl (fSeq_exc (fIfS_t (fOr_f (fNot_ok (b := true) (fB_ok (fCallB_ok (xs := [.tup xs, .ty "tuple"]) rfl rfl))) (fNot_ok (b := false) (fB_ok ?_))) (fRaise_ok rfl)))
  by_cases h1 : (1 : Int) ≤ (xs.length : Nat)
  · have h2 : ¬ (((xs.length : Nat) : Int) ≤ 6) := by omega
    simp only [fChain, fC, fCallB, fCons, fNil, fVar, List.getElem?_cons_zero, Res.bind_ok, oLen_tup, lift1_some, oLe_int, h1, h2, decide_true, decide_false]
  · simp only [fChain, fC, fCallB, fCons, fNil, fVar, List.getElem?_cons_zero, Res.bind_ok, oLen_tup, lift1_some, oLe_int, h1, decide_false]
theorem wears_in {xs : List PV} (h : 1 ≤ xs.length ∧ xs.length ≤ 6) {pr nz : PV → Bool} (hp : ∀ p ∈ xs, ∀ s, F_is_price [p] s = .ok (.bl (pr p)) s) (hz : ∀ p ∈ xs, ∀ s, oEq p (.tup [.int 0, .int 1]) s = some (.bl (nz p))) (hb : xs.all pr = false ∨ xs.all nz = true) (s : Sto) : F_look_at_wears [.tup xs] s = .exc 2 (.tup xs) s := by
  have src : SrcAt (srcE (fVar 0)) [some (.tup xs), none] s (xs.map id) := by rw [List.map_id]; exact srcAt_seq (p := .tup xs) rfl rfl
  have c1 := fLcT_map (vs := [1]) (gt := gfName 1) (fe := fCall 1 F_is_price (fCons (fVar 1) fNil)) (ρ0 := [some (.tup xs), none]) xs id (fun p => .bl (pr p)) src rfl (by omega)
    (fun p hpm => ⟨[some (.tup xs), some p], rfl, fCall_ok (xs := [p]) rfl rfl (hp p hpm s)⟩)
  have c2 := fLcT_map (vs := [1]) (gt := gfName 1) (fe := fOp oEq (fVar 1) (fC (.tup [.int 0, .int 1]))) (ρ0 := [some (.tup xs), none]) xs id (fun p => .bl (nz p)) src rfl (by omega)
    (fun p hpm => ⟨[some (.tup xs), some p], rfl, fOp_ok (p := p) (q := .tup [.int 0, .int 1]) rfl rfl (hz p hpm s)⟩)
  have e1 := fCallB_ok (fCons_ok c1 fNil_ok) (oAll_map xs pr s)
  have e2 := fCallB_ok (fCons_ok c2 fNil_ok) (oAll_map xs nz s)
  have hA : S_look_at_wears_1 [some (.tup xs), none] s = .nx [some (.tup xs), none] s := by
    refine fIfS_f (fOr_f (fNot_ok (b := true) (fB_ok (fCallB_ok (xs := [.tup xs, .ty "tuple"]) rfl rfl))) (fNot_ok (b := true) (fB_ok ?_))) rfl
    have x1 : (1 : Int) ≤ (xs.length : Nat) := by omega
    have x2 : ((xs.length : Nat) : Int) ≤ 6 := by omega
    simp only [fChain, fC, fCallB, fCons, fNil, fVar, List.getElem?_cons_zero, Res.bind_ok, oLen_tup, lift1_some, oLe_int, x1, x2, decide_true]
  refine fDef_exc (ρ := [some (.tup xs), none]) (ρ' := [some (.tup xs), none]) rfl rfl ?_
  rw [S_look_at_wears_eq]
  refine fSeq_nx hA ?_
  rcases hb with hb | hb
  · rw [hb] at e1
    exact fIfS_t (fOr_t (fNot_ok (b := false) (fB_ok e1))) (fRaise_ok rfl)
  · rw [hb] at e2
    cases ha : xs.all pr with
    | false =>
      rw [ha] at e1
      exact fIfS_t (fOr_t (fNot_ok (b := false) (fB_ok e1))) (fRaise_ok rfl)
    | true =>
      rw [ha] at e1
      exact fIfS_t (fOr_f (fNot_ok (b := true) (fB_ok e1)) (fB_ok e2)) (fRaise_ok rfl)
theorem above_no {p : PV} (h : ∀ s, F_is_price [p] s = .ok (.bl false) s) (s : Sto) : F_look_at_above [p] s = .exc 1 p s :=
  fDef_exc (ρ := [some p]) rfl rfl (fIfS_t (fOr_t (fNot_ok (b := false) (fB_ok (fCall_ok (xs := [p]) rfl rfl (h s))))) (fRaise_ok rfl))
theorem f0 : Frac (0, 1) := ⟨by decide, by decide, by decide, by decide, by decide⟩
theorem f1 : Frac (1, 1) := ⟨by decide, by decide, by decide, by decide, by decide⟩
theorem fm1 : Frac (-1, 1) := ⟨by decide, by decide, by decide, by decide, by decide⟩
theorem above_0 (s : Sto) : F_look_at_above [.tup [.int 0, .int 1]] s = .exc 1 (.tup [.int 0, .int 1]) s := by
  have e1 : F_is_price [.tup [.int 0, .int 1]] s = .ok (.bl true) s := by
    have := is_price_fr isC f0 s
    rw [b_price]
    exact this
  refine fDef_exc (ρ := [some (.tup [.int 0, .int 1])]) rfl rfl (fIfS_t (fOr_f (fNot_ok (b := true) (fB_ok (fCall_ok (xs := [.tup [.int 0, .int 1]]) rfl rfl e1))) (fB_ok (fOp_ok (p := .int 0) (q := .int 0) (fOp_ok (p := .tup [.int 0, .int 1]) (q := .int 0) rfl rfl (oIx_0 _ _ _)) rfl ?_))) (fRaise_ok rfl))
  rw [oEq_int]; rfl
theorem p_24 (s : Sto) : F_is_price [.tup [.int 2, .int 4]] s = .ok (.bl false) s := by
  rw [b_price]
  exact price_not isC (fun s => exact_no isC (t := 2) (b := 4) (by decide) (by show 4 < _; exact Nat.lt_of_lt_of_le (show 4 < 2 ^ 3 by decide) (Nat.pow_le_pow_right (by decide) (by decide))) (by decide) s) s
theorem p_m1 (s : Sto) : F_is_price [.tup [.int (-1), .int 1]] s = .ok (.bl false) s := by
  have := is_price_fr isC fm1 s
  rw [b_price]
  exact this
theorem p_1 (s : Sto) : F_is_price [.int 1] s = .ok (.bl false) s := by
  rw [b_price]
  exact price_not isC (fun s => exact_notup isC (fun _ => rfl) s) s
theorem p_11 (s : Sto) : F_is_price [.tup [.int 1, .int 1]] s = .ok (.bl true) s := by
  have := is_price_fr isC f1 s
  rw [b_price]
  exact this
theorem p_01 (s : Sto) : F_is_price [.tup [.int 0, .int 1]] s = .ok (.bl true) s := by
  have := is_price_fr isC f0 s
  rw [b_price]
  exact this
theorem p_non (s : Sto) : F_is_price [.non] s = .ok (.bl false) s := by
  rw [b_price]
  exact price_not isC (fun s => exact_notup isC (fun _ => rfl) s) s
def badL : List PV := [.non, .tup [], .tup (List.replicate 3 [PV.tup [.int 0, .int 1]]).flatten, .tup (List.replicate 7 [PV.tup [.int 1, .int 1]]).flatten, .tmp [.tup [.int 1, .int 1]], .tup [.tup [.int (-1), .int 1]], .tup [.int 1], .tup [.tup [.int 2, .int 4]]]
theorem eq0_fr (t b : Int) (s : Sto) : oEq (.tup [.int t, .int b]) (.tup [.int 0, .int 1]) s = some (.bl (decide ((t, b) = (0, 1)))) := oEq_fr (t, b) (0, 1) s
theorem badL_ok : ∀ p ∈ badL, RowBad p := by
  intro p hp
  simp only [badL, List.mem_cons, List.not_mem_nil, or_false] at hp
  rcases hp with rfl | rfl | rfl | rfl | rfl | rfl | rfl | rfl
  · exact ⟨wears_notup fun _ => rfl, sh_of rfl (by decide) (by decide)⟩
  · exact ⟨wears_len (by simp), sh_of rfl (by decide) (by decide)⟩
  · refine ⟨wears_in (by decide) (pr := fun _ => true) (nz := fun _ => true) (fun p hp s => ?_) (fun p hp s => ?_) (.inr rfl), sh_of (by decide +kernel) (by decide +kernel) (by decide +kernel)⟩
    · have : p = .tup [.int 0, .int 1] := by simpa using hp
      rw [this]; exact p_01 s
    · have : p = .tup [.int 0, .int 1] := by simpa using hp
      rw [this, eq0_fr]; rfl
  · exact ⟨wears_len (by decide), sh_of (by decide +kernel) (by decide +kernel) (by decide +kernel)⟩
  · exact ⟨wears_notup fun _ => rfl, sh_of (by decide +kernel) (by decide +kernel) (by decide +kernel)⟩
  · refine ⟨wears_in (by decide) (pr := fun _ => false) (nz := fun _ => false) (fun p hp s => ?_) (fun p hp s => ?_) (.inl rfl), sh_of (by decide +kernel) (by decide +kernel) (by decide +kernel)⟩
    · have : p = .tup [.int (-1), .int 1] := by simpa using hp
      rw [this]; exact p_m1 s
    · have : p = .tup [.int (-1), .int 1] := by simpa using hp
      rw [this, eq0_fr]; rfl
  · refine ⟨wears_in (by decide) (pr := fun _ => false) (nz := fun _ => false) (fun p hp s => ?_) (fun p hp s => ?_) (.inl rfl), sh_of (by decide +kernel) (by decide +kernel) (by decide +kernel)⟩
    · have : p = .int 1 := by simpa using hp
      rw [this]; exact p_1 s
    · have : p = .int 1 := by simpa using hp
      rw [this]
      simp [oEq, oEqD, rd, toD, toDs, SeqAt.shaped, PyData.eqv, PyData.canLay0, PyData.canLayAll0, PyData.depth, PyData.depthAll]
  · refine ⟨wears_in (by decide) (pr := fun _ => false) (nz := fun _ => false) (fun p hp s => ?_) (fun p hp s => ?_) (.inl rfl), sh_of (by decide +kernel) (by decide +kernel) (by decide +kernel)⟩
    · have : p = .tup [.int 2, .int 4] := by simpa using hp
      rw [this]; exact p_24 s
    · have : p = .tup [.int 2, .int 4] := by simpa using hp
      rw [this, eq0_fr]; rfl
def oddL (n : Nat) : List PV := [.non, .int ((n : Nat) - 1), .int 9, .bl true, .str "4"]
theorem int_not {q a b : PV} (h : ∀ s, oIsi isC [q, .ty "int"] s = some (.bl false)) (s : Sto) : F_is_int [q, a, b] s = .ok (.bl false) s :=
  fDef_ok (ρ := [some q, some a, some b]) rfl rfl (fRet_ok (fAndV_f (fCallB_ok (xs := [q, .ty "int"]) rfl (h s))))
theorem int_bool {x : Bool} {a b : PV} (s : Sto) : F_is_int [.bl x, a, b] s = .ok (.bl false) s :=
  fDef_ok (ρ := [some (.bl x), some a, some b]) rfl rfl (fRet_ok (fAndV_t (fCallB_ok (xs := [.bl x, .ty "int"]) rfl rfl) (fAndV_f (fNotV_ok (b := true) (fCallB_ok (xs := [.bl x, .ty "bool"]) rfl rfl)))))
theorem oddL_ok {n : Nat} (h1 : 1 ≤ n) (h6 : n ≤ 6) : ∀ p ∈ oddL n, OddBad n p := by
  intro p hp
  simp only [oddL, List.mem_cons, List.not_mem_nil, or_false] at hp
  rcases hp with rfl | rfl | rfl | rfl | rfl
  · exact ⟨int_not fun _ => rfl, sh_of rfl (by decide) (by decide)⟩
  · refine ⟨fun s => by rw [b_int, is_int_int]; simp; omega, sh_of ?_ (by simp [szR]) (by simp [dpR])⟩
    have : (100 : Nat) < 10 ^ 60 := by decide
    simp only [okR, decide_eq_true_eq]
    omega
  · exact ⟨fun s => by rw [b_int, is_int_int]; simp, sh_of (by decide +kernel) (by decide) (by decide)⟩
  · exact ⟨int_bool, sh_of rfl (by decide) (by decide)⟩
  · exact ⟨int_not fun _ => rfl, sh_of (by decide +kernel) (by decide +kernel) (by decide +kernel)⟩
def wrongL : List PV := [.non, .tup [.int 0, .int 1], .tup [.int (-1), .int 1], .tup [.int 2, .int 4], .int 1]
theorem wrongL_ok : ∀ p ∈ wrongL, FrBad p := by
  intro p hp
  simp only [wrongL, List.mem_cons, List.not_mem_nil, or_false] at hp
  rcases hp with rfl | rfl | rfl | rfl | rfl
  · exact ⟨above_no p_non, sh_of rfl (by decide) (by decide)⟩
  · exact ⟨above_0, sh_of (by decide +kernel) (by decide +kernel) (by decide +kernel)⟩
  · exact ⟨above_no p_m1, sh_of (by decide +kernel) (by decide +kernel) (by decide +kernel)⟩
  · exact ⟨above_no p_24, sh_of (by decide +kernel) (by decide +kernel) (by decide +kernel)⟩
  · exact ⟨above_no p_1, sh_of (by decide +kernel) (by decide) (by decide)⟩
/-! what look_at_like raises -/
theorem like_bad {p q r : PV} (h : ∀ s, F_look_at_wears [p] s = .exc 2 p s) (s : Sto) : F_look_at_like [p, q, r] s = .exc 2 p s := by
  refine fDef_exc (ρ := [some p, some q, some r]) rfl rfl (fSeq_drop_exc ?_)
  unfold fCall
  show (if ([p] : List PV).length = 1 then F_look_at_wears [p] s else .stk) = _
  rw [if_pos (by rfl), h s]
theorem callX {n : Nat} {F : List PV → Sto → Res PV} {fs : Sl → Sto → Res (List PV)} {ρ : Sl} {s s1 : Sto} {xs : List PV} {r : Res PV} (h : fs ρ s = .ok xs s1) (hn : xs.length = n) (k : F xs s1 = r) : fCall n F fs ρ s = r := fCall_ok h hn k
section
variable {ws : List Rat} (hw : Wr ws)
include hw
theorem like_odd {q r : PV} (h : OddBad ws.length q) (s : Sto) : F_look_at_like [wsV ws, q, r] s = .exc 3 q s := by
  refine fDef_exc (ρ := [some (wsV ws), some q, some r]) rfl rfl (fSeq_nx (fDrop_ok (fCall_ok (xs := [wsV ws]) rfl rfl (look_wears_ok hw s))) (fSeq_exc (fIfS_t (fNot_ok (b := false) (fB_ok (fCall_ok (s1 := s) (xs := [q, .int (ws.length : Nat), .int 8]) ?_ rfl (h.no s)))) (fRaise_ok rfl))))
  exact fCons_ok (fVar_ok rfl) (fCons_ok (fCallB_ok (xs := [wsV ws]) rfl (ws_len ws s)) rfl)
theorem like_wrong {m : Nat} (hm : ws.length ≤ m) (h8 : m ≤ 8) {r : PV} (h : FrBad r) (s : Sto) : F_look_at_like [wsV ws, .int (m : Nat), r] s = .exc 1 r s := by
  have e : F_is_int [.int (m : Nat), .int (ws.length : Nat), .int 8] s = .ok (.bl true) s := by
    rw [b_int, is_int_int]; simp; omega
  refine fDef_exc (ρ := [some (wsV ws), some (.int (m : Nat)), some r]) rfl rfl (fSeq_nx (fDrop_ok (fCall_ok (xs := [wsV ws]) rfl rfl (look_wears_ok hw s))) (fSeq_nx (fIfS_f (fNot_ok (b := true) (fB_ok (fCall_ok (s1 := s) (xs := [.int (m : Nat), .int (ws.length : Nat), .int 8]) ?_ rfl e))) rfl) (fDrop_exc (callX (xs := [r]) rfl rfl (h.no s)))))
  exact fCons_ok (fVar_ok rfl) (fCons_ok (fCallB_ok (xs := [wsV ws]) rfl (ws_len ws s)) rfl)
theorem unmoved_wrong {r : PV} (h : FrBad r) (s : Sto) : F_unmoved_way [wsV ws, r] s = .exc 1 r s := by
  have e : F_look_at_few [wsV ws, r] s = .exc 1 r s := fDef_exc (ρ := [some (wsV ws), some r]) rfl rfl (fSeq_nx (fDrop_ok (fCall_ok (xs := [wsV ws]) rfl rfl (look_wears_ok hw s))) (fDrop_exc (callX (xs := [r]) rfl rfl (h.no s))))
  exact fDef_exc (ρ := [some (wsV ws), some r]) rfl rfl (fSeq_drop_exc (callX (xs := [wsV ws, r]) rfl rfl e))
end
theorem unmoved_bad {p q : PV} (h : RowBad p) (s : Sto) : F_unmoved_way [p, q] s = .exc 2 p s := by
  have e : F_look_at_few [p, q] s = .exc 2 p s := fDef_exc (ρ := [some p, some q]) rfl rfl (fSeq_drop_exc (callX (xs := [p]) rfl rfl (h.no s)))
  exact fDef_exc (ρ := [some p, some q]) rfl rfl (fSeq_drop_exc (callX (xs := [p, q]) rfl rfl e))
/-- the five that look at like parts first -/
theorem five : ∀ c, 4 ≤ c → c ≤ 8 → ∃ F, ftab3 c = some F ∧ ∀ p q r k x s, F_look_at_like [p, q, r] s = .exc k x s → F [p, q, r] s = .exc k x s := by
  intro c h4 h8
  have : c = 4 ∨ c = 5 ∨ c = 6 ∨ c = 7 ∨ c = 8 := by omega
  rcases this with rfl | rfl | rfl | rfl | rfl
  · exact ⟨_, rfl, fun p q r k x s e => fDef_exc (ρ := [some p, some q, some r]) rfl rfl (fSeq_drop_exc (callX (xs := [p, q, r]) rfl rfl e))⟩
  · exact ⟨_, rfl, fun p q r k x s e => fDef_exc (ρ := [some p, some q, some r]) rfl rfl (fSeq_drop_exc (callX (xs := [p, q, r]) rfl rfl e))⟩
  · exact ⟨_, rfl, fun p q r k x s e => fDef_exc (ρ := [some p, some q, some r, none, none, none]) rfl rfl (fSeq_drop_exc (callX (xs := [p, q, r]) rfl rfl e))⟩
  · exact ⟨_, rfl, fun p q r k x s e => fDef_exc (ρ := [some p, some q, some r, none, none]) rfl rfl (fSeq_drop_exc (callX (xs := [p, q, r]) rfl rfl e))⟩
  · exact ⟨_, rfl, fun p q r k x s e => fDef_exc (ρ := [some p, some q, some r]) rfl rfl (fSeq_drop_exc (callX (xs := [p, q, r]) rfl rfl e))⟩
end K08

namespace K08
open Pv PySem PySem.Spec PyProof.Rows L2
theorem asg_heard {L : LamF} {k fid c i : Nat} {caps : List (Str × Nat)} {x : PV} {ρ : Sl} {s : Sto} (hT : tab0 k = some L) (hL : ∀ s, L (capsOf ρ caps) [] s = .exc c x s) (hc : isC c 0 = some true) : fAsg (fOp oIx (fCallS fid caps 1 F__law_heard (fCons (fLam k fid) fNil)) (fC (.int 0))) (gfName i) ρ s = .nx (ρ.set i (some (.exc c x))) s := by
  rw [b_heard]
  exact fAsgN_ok (fOp_ok (heardS hT hL hc) fC_ok (oIx_0 _ _ _))
theorem chk {i j c d : Nat} {x : PV} {ρ : Sl} {s : Sto} (hi : ρ[i]? = some (some (.exc c x))) (hj : ρ[j]? = some (some x)) (hc : isC c d = some true) (ho : okC c = true) (hr : ∃ r, ∀ s, oRepr [x] s = some (.str r)) :
    fIfS (fOr (fNot (fB (fCallB (oIsi isC) (fCons (fVar i) (fCons (fC (.cls d)) fNil))))) (fB (fOp oNe (fCallB oRepr (fCons (fVal okC (fVar i)) fNil)) (fCallB oRepr (fCons (fVar j) fNil))))) (fRet (fC (.bl false))) fNext ρ s = .nx ρ s := by
  obtain ⟨r, hr⟩ := hr
  have e1 : oIsi isC [.exc c x, .cls d] s = some (.bl true) := by simp [oIsi, hc]
  have e7 : fVal okC (fVar i) ρ s = .ok x s := by
    unfold fVal
    rw [fVar_ok hi]
    simp only [Res.bind_ok, ho, if_true]
  refine fIfS_f (fOr_f (fNot_ok (b := true) (fB_ok (fCallB_ok (fCons_ok (fVar_ok hi) (fCons_ok fC_ok fNil_ok)) e1))) ?_) rfl
  refine fB_ok (fOp_ok (fCallB_ok (fCons_ok e7 fNil_ok) (hr _)) (fCallB_ok (fCons_ok (fVar_ok hj) fNil_ok) (hr _)) ?_)
  rw [oNe_str]; simp
theorem callF_ok {c : Nat} {F : List PV → Sto → Res PV} {i n : Nat} {fs : Sl → Sto → Res (List PV)} {ρ : Sl} {s s1 : Sto} {xs : List PV} {r : Res PV} (h : ρ[i]? = some (some (.cls c))) (hF : ftab3 c = some F) (h1 : fs ρ s = .ok xs s1) (hn : xs.length = n) (k : F xs s1 = r) : fCallF ftab3 i n fs ρ s = r := by
  unfold fCallF
  rw [h]
  simp only [hF]
  exact fCall_ok h1 hn k
section
variable {ws : List Rat} (hw : Wr ws) {m : Nat} (hm : ws.length ≤ m) (h8 : m ≤ 8)
def capsR : List (Str × Nat) := [("wears", 1), ("many", 2), ("bad", 3), ("call", 5), ("odd", 7), ("wrong", 8)]
def clsL : List PV := [.cls 4, .cls 5, .cls 6, .cls 7, .cls 8]
theorem clsL_get {i : Nat} (hi : i < clsL.length) : clsL[i] = .cls (4 + i) := by
  have : i < 5 := hi
  have : i = 0 ∨ i = 1 ∨ i = 2 ∨ i = 3 ∨ i = 4 := by omega
  rcases this with rfl | rfl | rfl | rfl | rfl <;> rfl
theorem cls_src (ρ : Sl) (s : Sto) : SrcAt (srcE (fLstT (fCons (fC (.cls 4)) (fCons (fC (.cls 5)) (fCons (fC (.cls 6)) (fCons (fC (.cls 7)) (fCons (fC (.cls 8)) fNil))))))) ρ s clsL := srcAt_seq (p := .tmp clsL) rfl rfl
theorem loop3 {b q0 q1 q2 : PV} (hb : RowBad b) {fid : Nat} {a5 a6 a7 a8 : Option PV} (s : Sto) :
    ∃ b5 b6, S__law_are_all_refused_3 fid [some q0, some q1, some q2, some b, some (.tmp [.clo 0 fid]), a5, a6, a7, a8] s = .nx [some q0, some q1, some q2, some b, some (.tmp [.clo 0 fid]), b5, b6, a7, a8] s := by
  obtain ⟨ρ', e, b5, b6, rfl⟩ := fFor_pure (gt := gfName 5) (fb := S__law_are_all_refused_3b fid) (cls_src [some q0, some q1, some q2, some b, some (.tmp [.clo 0 fid]), a5, a6, a7, a8] s) (fun _ ρ => ∃ c5 c6, ρ = [some q0, some q1, some q2, some b, some (.tmp [.clo 0 fid]), c5, c6, a7, a8]) ⟨_, _, rfl⟩
    (fun i ρ hi hI => by
      obtain ⟨c5, c6, rfl⟩ := hI
      rw [clsL_get hi]
      have hi5 : i < 5 := hi
      obtain ⟨F, hF, hX⟩ := five (4 + i) (by omega) (by omega)
      refine ⟨_, _, rfl, fSeq_nx (asg_heard (L := L_1) (c := 2) (x := b) rfl (fun s => ?_) rfl) (chk rfl rfl rfl rfl hb.sh), _, _, rfl⟩
      let ρ1 : Sl := [some q0, some q1, some q2, some b, some (.tmp [.clo 0 fid]), some (.cls (4 + i)), c6, a7, a8]
      have k1 : (capsOf ρ1 capsR).lookup ("call" : Str) = some (.cls (4 + i)) := caps_lk (i := 5) rfl rfl
      have k2 : (capsOf ρ1 capsR).lookup ("bad" : Str) = some b := caps_lk (i := 3) rfl rfl
      show E_lam1 [(capsOf ρ1 capsR).lookup ("call" : Str), (capsOf ρ1 capsR).lookup ("bad" : Str)] s = _
      rw [k1, k2]
      exact callF_ok (c := 4 + i) (xs := [b, .non, .non]) rfl hF rfl rfl (hX _ _ _ _ _ _ (like_bad hb.no s)))
  exact ⟨b5, b6, e⟩
include hw in
theorem loop7 {o r b q0 : PV} (ho : OddBad ws.length o) (hr : FrBad r) (hm : ws.length ≤ m) (h8 : m ≤ 8) {fid : Nat} {a4 a5 a6 : Option PV} (s : Sto) :
    ∃ b5 b6, S__law_are_all_refused_7 fid [some q0, some (wsV ws), some (.int (m : Nat)), some b, a4, a5, a6, some o, some r] s = .nx [some q0, some (wsV ws), some (.int (m : Nat)), some b, a4, b5, b6, some o, some r] s := by
  obtain ⟨ρ', e, b5, b6, rfl⟩ := fFor_pure (gt := gfName 5) (fb := S__law_are_all_refused_7b fid) (cls_src [some q0, some (wsV ws), some (.int (m : Nat)), some b, a4, a5, a6, some o, some r] s) (fun _ ρ => ∃ c5 c6, ρ = [some q0, some (wsV ws), some (.int (m : Nat)), some b, a4, c5, c6, some o, some r]) ⟨_, _, rfl⟩
    (fun i ρ hi hI => by
      obtain ⟨c5, c6, rfl⟩ := hI
      rw [clsL_get hi]
      have hi5 : i < 5 := hi
      obtain ⟨F, hF, hX⟩ := five (4 + i) (by omega) (by omega)
      refine ⟨_, _, rfl, fSeq_nx (asg_heard (L := L_3) (c := 3) (x := o) rfl (fun s => ?_) rfl) (fSeq_nx (chk rfl rfl rfl rfl ho.sh) (fSeq_nx (asg_heard (L := L_4) (c := 1) (x := r) rfl (fun s => ?_) rfl) (chk rfl rfl rfl rfl hr.sh))), _, _, rfl⟩
      · let ρ1 : Sl := [some q0, some (wsV ws), some (.int (m : Nat)), some b, a4, some (.cls (4 + i)), c6, some o, some r]
        have k1 : (capsOf ρ1 capsR).lookup ("call" : Str) = some (.cls (4 + i)) := caps_lk (i := 5) rfl rfl
        have k2 : (capsOf ρ1 capsR).lookup ("wears" : Str) = some (wsV ws) := caps_lk (i := 1) rfl rfl
        have k3 : (capsOf ρ1 capsR).lookup ("odd" : Str) = some o := caps_lk (i := 7) rfl rfl
        show E_lam3 [(capsOf ρ1 capsR).lookup ("call" : Str), (capsOf ρ1 capsR).lookup ("wears" : Str), (capsOf ρ1 capsR).lookup ("odd" : Str)] s = _
        rw [k1, k2, k3]
        exact callF_ok (c := 4 + i) (xs := [wsV ws, o, .non]) rfl hF rfl rfl (hX _ _ _ _ _ _ (like_odd hw ho s))
      · let ρ1 : Sl := [some q0, some (wsV ws), some (.int (m : Nat)), some b, a4, some (.cls (4 + i)), some (.exc 3 o), some o, some r]
        have k1 : (capsOf ρ1 capsR).lookup ("call" : Str) = some (.cls (4 + i)) := caps_lk (i := 5) rfl rfl
        have k2 : (capsOf ρ1 capsR).lookup ("wears" : Str) = some (wsV ws) := caps_lk (i := 1) rfl rfl
        have k3 : (capsOf ρ1 capsR).lookup ("many" : Str) = some (.int (m : Nat)) := caps_lk (i := 2) rfl rfl
        have k4 : (capsOf ρ1 capsR).lookup ("wrong" : Str) = some r := caps_lk (i := 8) rfl rfl
        show E_lam4 [(capsOf ρ1 capsR).lookup ("call" : Str), (capsOf ρ1 capsR).lookup ("wears" : Str), (capsOf ρ1 capsR).lookup ("many" : Str), (capsOf ρ1 capsR).lookup ("wrong" : Str)] s = _
        rw [k1, k2, k3, k4]
        exact callF_ok (c := 4 + i) (xs := [wsV ws, .int (m : Nat), r]) rfl hF rfl rfl (hX _ _ _ _ _ _ (like_wrong hw hm h8 hr s)))
  exact ⟨b5, b6, e⟩
include hw in
theorem all_refused {s : Sto} {l n : Nat} (hm : ws.length ≤ m) (h8 : m ≤ 8) (P : Pot s l n) (hn : n + 5000 < 2 ^ 30) :
    ∃ s', F__law_are_all_refused [.loc l, wsV ws, .int (m : Nat)] s = .ok (.bl true) s' ∧ Pot s' l (n + 3) := by
  obtain ⟨s0, hs0⟩ : ∃ s0 : Sto, s0 = { s with nf := s.nf + 1 } := ⟨_, rfl⟩
  have P0 : Pot s0 l n := by
    obtain ⟨a, b, c, P⟩ := P
    rw [hs0]
    exact ⟨a, b, c, P.at_, P.a0, P.a1, P.b0, P.b1, P.c0, P.c1⟩
  generalize hf : s.nf = fid
  have hof : ∃ b s3, F__law_of [.loc l, .tmp badL] s0 = .ok b s3 ∧ b ∈ badL ∧ Pot s3 l (n + 1) ∧ PotFrm l s0 s3 := by
    rw [b_of]; exact of_eq P0 (by omega) (by simp [badL]) (by simp [badL])
  obtain ⟨b, s1, e1, hb, P1, f1⟩ := hof
  have B := badL_ok b hb
  obtain ⟨rb, hrb⟩ := B.sh
  let W : PV := wsV ws
  let M : PV := .int (m : Nat)
  have A1 : S__law_are_all_refused_1 fid [some (.loc l), some W, some M, none, none, none, none, none, none] s0 = .nx [some (.loc l), some W, some M, some b, none, none, none, none, none] s1 :=
    fAsgN_ok (fCall_ok (xs := [.loc l, .tmp badL]) (fCons_ok (fVar_ok rfl) (fCons_ok (fLstT_ok (xs := badL) rfl (by simp [badL])) fNil_ok)) rfl e1)
  have A2 : S__law_are_all_refused_2 fid [some (.loc l), some W, some M, some b, none, none, none, none, none] s1 = .nx [some (.loc l), some W, some M, some b, some (.tmp [.clo 0 fid]), none, none, none, none] s1 := rfl
  obtain ⟨b5, b6, A3⟩ := loop3 (q0 := .loc l) (q1 := W) (q2 := M) B (fid := fid) (a5 := none) (a6 := none) (a7 := none) (a8 := none) s1
  let ρ4 : Sl := [some (.loc l), some W, some M, some b, some (.tmp [.clo 0 fid]), b5, b6, none, none]
  let kv := capsOf ρ4 capsR
  have kb : kv.lookup ("bad" : Str) = some b := caps_lk (i := 3) rfl rfl
  obtain ⟨s5, e5, g5⟩ := refused_ok (C := isC) (T := tab0) (T1 := tab1) (okC := okC) (k1 := 2) (L1 := L_2) (fid := fid) (c := 2) (kv := kv) (x := b) (s := s1.susp0 ((fid, kv) :: s1.susp)) (q := .tmp [.clo 0 fid]) (xs := [.clo 0 fid]) (r := rb) (J := fun _ => True)
    (fun s s' h g => trivial) trivial (fun s h => rfl) (fun p hp => by
      simp only [List.mem_cons, List.not_mem_nil, or_false] at hp
      subst hp
      refine ⟨0, L_0, rfl, rfl, fun s _ => ⟨_, ?_, Grow.refl _⟩⟩
      show E_lam0 [kv.lookup ("bad" : Str)] (s.susp0 []) = _
      rw [kb]
      exact fCall_ok (xs := [b, .non]) rfl rfl (unmoved_bad B _))
    (by show List.lookup fid ((fid, kv) :: s1.susp) = some kv; simp [List.lookup]) rfl rfl rfl (fun s => rfl) hrb
  have P5 := (grow_susp0 g5).pot P1
  have A4 : S__law_are_all_refused_4 fid ρ4 s1 = .nx ρ4 (s5.susp0 s1.susp) := by
    have E : fCallS fid capsR 3 F__law_are_refused (fCons (fVar 4) (fCons (fLam 2 fid) (fCons (fVar 3) fNil))) ρ4 s1 = .ok (.bl true) (s5.susp0 s1.susp) := by
      refine fCallS_ok (n := 3) (xs := [.tmp [.clo 0 fid], .clo 2 fid, b]) rfl rfl ?_
      rw [b_refused]
      exact e5
    exact fIfS_f (fNot_ok (b := true) (fB_ok E)) rfl
  generalize s5.susp0 s1.susp = s6 at A4 P5
  have hof2 : ∃ q s7, F__law_of [.loc l, .tmp (oddL ws.length)] s6 = .ok q s7 ∧ q ∈ oddL ws.length ∧ Pot s7 l (n + 1 + 1) ∧ PotFrm l s6 s7 := by
    rw [b_of]; exact of_eq P5 (by omega) (by simp [oddL]) (by simp [oddL])
  obtain ⟨o, s7, e7, hq, P7, f7⟩ := hof2
  have O := oddL_ok hw.l1 hw.l6 o hq
  have A5 : S__law_are_all_refused_5 fid ρ4 s6 = .nx [some (.loc l), some W, some M, some b, some (.tmp [.clo 0 fid]), b5, b6, some o, none] s7 := by
    refine fAsgN_ok (fCall_ok (xs := [.loc l, .tmp (oddL ws.length)]) (fCons_ok (fVar_ok rfl) (fCons_ok (fLstT_ok (xs := oddL ws.length) ?_ (by simp [oddL])) fNil_ok)) rfl e7)
    refine fCons_ok fC_ok (fCons_ok (fOp_ok (fCallB_ok (xs := [wsV ws]) rfl (ws_len ws s6)) fC_ok ?_) (fCons_ok fC_ok (fCons_ok fC_ok (fCons_ok fC_ok fNil_ok))))
    rfl
  have hof3 : ∃ q s8, F__law_of [.loc l, .tmp wrongL] s7 = .ok q s8 ∧ q ∈ wrongL ∧ Pot s8 l (n + 1 + 1 + 1) ∧ PotFrm l s7 s8 := by
    rw [b_of]; exact of_eq P7 (by omega) (by simp [wrongL]) (by simp [wrongL])
  obtain ⟨r, s8, e8, hr, P8, f8⟩ := hof3
  have R := wrongL_ok r hr
  obtain ⟨rr, hrr⟩ := R.sh
  have A6 : S__law_are_all_refused_6 fid [some (.loc l), some W, some M, some b, some (.tmp [.clo 0 fid]), b5, b6, some o, none] s7 = .nx [some (.loc l), some W, some M, some b, some (.tmp [.clo 0 fid]), b5, b6, some o, some r] s8 :=
    fAsgN_ok (fCall_ok (xs := [.loc l, .tmp wrongL]) (fCons_ok (fVar_ok rfl) (fCons_ok (fLstT_ok (xs := wrongL) rfl (by simp [wrongL])) fNil_ok)) rfl e8)
  obtain ⟨d5, d6, A7⟩ := loop7 hw (q0 := .loc l) (b := b) O R hm h8 (fid := fid) (a4 := some (.tmp [.clo 0 fid])) (a5 := b5) (a6 := b6) s8
  let ρ8 : Sl := [some (.loc l), some W, some M, some b, some (.tmp [.clo 0 fid]), d5, d6, some o, some r]
  let kv2 := capsOf ρ8 capsR
  have kw : kv2.lookup ("wears" : Str) = some (wsV ws) := caps_lk (i := 1) rfl rfl
  have kr : kv2.lookup ("wrong" : Str) = some r := caps_lk (i := 8) rfl rfl
  obtain ⟨s9, e9, g9⟩ := refused_ok (C := isC) (T := tab0) (T1 := tab1) (okC := okC) (k1 := 6) (L1 := L_6) (fid := fid) (c := 1) (kv := kv2) (x := r) (s := s8.susp0 ((fid, kv2) :: s8.susp)) (q := .tmp [.clo 5 fid]) (xs := [.clo 5 fid]) (r := rr) (J := fun _ => True)
    (fun s s' h g => trivial) trivial (fun s h => rfl) (fun p hp => by
      simp only [List.mem_cons, List.not_mem_nil, or_false] at hp
      subst hp
      refine ⟨5, L_5, rfl, rfl, fun s _ => ⟨_, ?_, Grow.refl _⟩⟩
      show E_lam5 [kv2.lookup ("wears" : Str), kv2.lookup ("wrong" : Str)] (s.susp0 []) = _
      rw [kw, kr]
      exact fCall_ok (xs := [wsV ws, r]) rfl rfl (unmoved_wrong hw R _))
    (by show List.lookup fid ((fid, kv2) :: s8.susp) = some kv2; simp [List.lookup]) rfl rfl rfl (fun s => rfl) hrr
  have P9 := (grow_susp0 g9).pot P8
  have A8 : S__law_are_all_refused_8 fid ρ8 s8 = .rt (.bl true) (s9.susp0 s8.susp) := by
    have E : fCallS fid capsR 3 F__law_are_refused (fCons (fLstT (fCons (fLam 5 fid) fNil)) (fCons (fLam 6 fid) (fCons (fVar 8) fNil))) ρ8 s8 = .ok (.bl true) (s9.susp0 s8.susp) := by
      refine fCallS_ok (n := 3) (xs := [.tmp [.clo 5 fid], .clo 6 fid, r]) rfl rfl ?_
      rw [b_refused]
      exact e9
    exact fRet_ok E
  have AA : B__law_are_all_refused fid [some (.loc l), some W, some M, none, none, none, none, none, none] s0 = .rt (.bl true) (s9.susp0 s8.susp) := by
    rw [S__law_are_all_refused_eq]
    exact fSeq_nx A1 (fSeq_nx A2 (fSeq_nx A3 (fSeq_nx A4 (fSeq_nx A5 (fSeq_nx A6 (fSeq_nx A7 A8))))))
  refine ⟨s9.susp0 s8.susp, ?_, P9⟩
  unfold F__law_are_all_refused fDefC
  rw [if_pos (by rfl)]
  show ofS (B__law_are_all_refused s.nf [some (.loc l), some W, some M, none, none, none, none, none, none] { s with nf := s.nf + 1 }) = _
  rw [← hs0, hf, AA]
  rfl
end
end K08

namespace K08
open Pv PySem PySem.Spec PyProof.Rows L2
def qH : Rat := ⟨1, 2, by decide, by decide⟩
theorem wear_ok {s : Sto} {l n : Nat} (P : Pot s l n) (hn : n + 10 < 2 ^ 30) : ∃ (r : Rat) (s' : Sto), F__law_wear [.loc l] s = .ok (rV r) s' ∧ 0 ≤ r ∧ Bd 3 r ∧ ∃ k, k ≤ 3 ∧ Pot s' l (n + k) := by
  rw [show K08.F__law_wear = fDef 1 1 K08.B__law_wear from rfl]
  obtain ⟨z, s0, e0, z0, z1, P0, f0⟩ := take_eq (u := 7) P (by omega) (by decide) (by decide)
  rw [← b_take] at e0
  have c0 : fCall 2 F__law_take (fCons (fVar 0) (fCons (fC (.int 7)) fNil)) [some (.loc l)] s = .ok (.int z) s0 := fCall_ok (xs := [.loc l, .int 7]) rfl rfl e0
  by_cases hz : z = 0
  · refine ⟨0, s0, ?_, by decide, bd_0 3, 1, by decide, P0⟩
    refine fDef_ok (ρ := [some (.loc l)]) rfl rfl (fRet_ok ?_)
    unfold fIf
    rw [fB_ok (b := true) (fOp_ok c0 fC_ok (by rw [oEq_int, hz]; rfl))]
    rfl
  · obtain ⟨t, s1, e1, t0, t1, P1, f1⟩ := take_eq (u := 6) P0 (by omega) (by decide) (by decide)
    obtain ⟨b, s2, e2, b0, b1, P2, f2⟩ := take_eq (u := 2) P1 (by omega) (by decide) (by decide)
    rw [← b_take] at e1 e2
    refine ⟨Rat.divInt (1 + t) (1 + b), s2, ?_, ?_, bd_div (by omega) (by omega) (by omega), 3, by decide, P2⟩
    · have hb : (1 + b).natAbs < 2 ^ 1000 := Nat.lt_of_lt_of_le (show _ < 4 by omega) (Nat.pow_le_pow_right (n := 2) (by decide) (show 2 ≤ 1000 by decide))
      have h3 := law_frac_eq (1 + t) (1 + b) s2 (by omega) hb
      rw [dv_eq (by omega)] at h3
      refine fDef_ok (ρ := [some (.loc l)]) rfl rfl (fRet_ok ?_)
      unfold fIf
      rw [fB_ok (b := false) (fOp_ok c0 fC_ok (by rw [oEq_int, decide_eq_false hz]))]
      refine fCall_ok (s1 := s2) (xs := [.int (1 + t), .int (1 + b)]) ?_ rfl (by rw [b_frac]; exact h3)
      exact fCons_ok (fOp_ok (p := .int 1) rfl (fCallB_ok (fCons_ok (fCall_ok (xs := [.loc l, .int 6]) rfl rfl e1) fNil_ok) (oInt1_int _ _)) (oAdd_int _ _ _)) (fCons_ok (fOp_ok (p := .int 1) rfl (fCallB_ok (fCons_ok (fCall_ok (xs := [.loc l, .int 2]) rfl rfl e2) fNil_ok) (oInt1_int _ _)) (oAdd_int _ _ _)) fNil_ok)
    · have := divInt_pos (t := 1 + t) (b := 1 + b) (by omega) (by omega)
      grind
theorem Pot.mono {s : Sto} {l n m : Nat} (P : Pot s l n) (h : n ≤ m) : Pot s l m := by
  obtain ⟨a, b, c, P⟩ := P
  exact ⟨a, b, c, P.at_, P.a0, P.a1, P.b0, P.b1, P.c0, Int.le_trans P.c1 (by omega)⟩
abbrev RL := List (Option PV)
theorem lap1 {s : Sto} {l n : Nat} (P : Pot s l n) (hn : n + 100 < 2 ^ 30) (c1 c2 c3 c4 c5 : Option PV) :
    ∃ (ws : List Rat) (s' : Sto), S__law_right_1b_1 [some (.loc l), c1, c2, c3, c4, c5] s = .nx [some (.loc l), c1, some (wsV ws), c3, c4, c5] s' ∧ (∀ w ∈ ws, 0 ≤ w ∧ Bd 3 w) ∧ 1 ≤ ws.length ∧ ws.length ≤ 6 ∧ Pot s' l (n + 19) := by
  obtain ⟨z, s0, e0, z0, z1, P0, f0⟩ := take_eq (u := 6) P (by omega) (by decide) (by decide)
  rw [← b_take] at e0
  obtain ⟨d, rfl⟩ := Int.eq_ofNat_of_zero_le z0
  have hs := srcR1_eq (fs := fCons (fOp oAdd (fC (.int 1)) (fCall 2 F__law_take (fCons (fVar 0) (fCons (fC (.int 6)) fNil)))) fNil) (ρ := [some (.loc l), c1, c2, c3, c4, c5]) (s := s) (s1 := s0) (b := 1 + (d : Int))
    (fCons_ok (fOp_ok (p := .int 1) fC_ok (fCall_ok (xs := [.loc l, .int 6]) rfl rfl e0) (oAdd_int _ _ _)) fNil_ok) (by omega) (by omega)
  have hN : (1 + (d : Int)).toNat = 1 + d := by omega
  rw [hN] at hs
  obtain ⟨acc, s', e, ws, rfl, hw, hl, P'⟩ := compN_inv (it := fun i _ => some (if i < 1 + d then some (.int (i : Int)) else none)) (gt := gfName 4) (ft := fYes) (fe := fCall 1 F__law_wear (fCons (fVar 0) fNil)) (ρ0 := [some (.loc l), c1, c2, c3, none, c5]) (N := 1 + d) (fun i => .int (i : Int))
    (fun i s' acc => ∃ ws : List Rat, acc = ws.map rV ∧ (∀ w ∈ ws, 0 ≤ w ∧ Bd 3 w) ∧ ws.length = i ∧ Pot s' l (n + 1 + 3 * i)) (by omega)
    (fun i s' acc _ => rfl)
    (fun i s' acc hi hI => by
      obtain ⟨ws, rfl, hw, hl, P'⟩ := hI
      obtain ⟨r, s2, e2, r0, rb, k, hk, P2⟩ := wear_ok P' (by omega)
      refine ⟨[some (.loc l), c1, c2, c3, some (.int (i : Int)), c5], s', rfl, .inl ⟨s', rV r, s2, rfl, fCall_ok (xs := [.loc l]) rfl rfl e2, ws ++ [r], by simp, ?_, by simp [hl], Pot.mono P2 (by omega)⟩⟩
      intro w hm
      rcases List.mem_append.mp hm with q | q
      · exact hw w q
      · rw [List.mem_singleton.mp q]; exact ⟨r0, rb⟩)
    (1 + d + 1) 0 s0 [] (by omega) (Nat.zero_le _) (Nat.zero_le _) ⟨[], rfl, by simp, rfl, P0⟩
  refine ⟨ws, s', ?_, hw, by omega, by omega, Pot.mono P' (by omega)⟩
  exact fAsgN_ok (fCallB_ok (fCons_ok (fLcT_ok hs (ρ0 := [some (.loc l), c1, c2, c3, none, c5]) rfl e) fNil_ok) rfl)
theorem lap2 {ws : List Rat} (hw : ∀ w ∈ ws, 0 ≤ w ∧ Bd 3 w) (h1 : 1 ≤ ws.length) (h6 : ws.length ≤ 6) {q c1 c3 c4 c5 : Option PV} (s : Sto) :
    ∃ us : List Rat, Wr us ∧ S__law_right_1b_2 [q, c1, some (wsV ws), c3, c4, c5] s = .nx [q, c1, some (wsV us), c3, c4, c5] s := by
  have src : SrcAt (srcE (fVar 2)) [q, c1, some (wsV ws), c3, c4, c5] s (ws.map rV) := srcAt_seq (p := wsV ws) rfl rfl
  have c2 := fLcT_map (vs := [5]) (gt := gfName 5) (fe := fOp oEq (fVar 5) (fTup (fCons (fC (.int 0)) (fCons (fC (.int 1)) fNil)))) (ρ0 := [q, c1, some (wsV ws), c3, c4, none]) ws rV (fun r => .bl (decide (r = 0))) src rfl (by omega)
    (fun r hr => ⟨[q, c1, some (wsV ws), c3, c4, some (rV r)], rfl, fOp_ok (p := rV r) (q := rV 0) rfl rfl (oEq_r r 0 s)⟩)
  have e2 := fB_ok (fCallB_ok (fCons_ok c2 fNil_ok) (oAll_map ws (fun r => decide (r = 0)) s))
  cases ha : ws.all (fun r => decide (r = 0)) with
  | false =>
    rw [ha] at e2
    refine ⟨ws, ⟨hw, h1, h6, ?_⟩, fIfS_f e2 rfl⟩
    rw [List.all_eq_false] at ha
    obtain ⟨w, hm, hz⟩ := ha
    have := (hw w hm).1
    simp at hz
    exact ⟨w, hm, by grind⟩
  | true =>
    rw [ha] at e2
    refine ⟨ws.drop 1 ++ [qH], ⟨?_, by simp, by simp; omega, qH, by simp, by decide +kernel⟩, fIfS_t e2 (fAsgN_ok ?_)⟩
    · intro w hm
      rcases List.mem_append.mp hm with x | x
      · exact hw w (List.mem_of_mem_drop x)
      · rw [List.mem_singleton.mp x]; exact ⟨by decide +kernel, ⟨by decide +kernel, by decide +kernel⟩⟩
    · refine fOp_ok (p := .tup ((ws.drop 1).map rV)) (q := .tup [rV qH]) (fSlL_ok (p := wsV ws) (i := 1) rfl rfl ?_) rfl ?_
      · unfold wsV
        rw [List.map_drop]
        have := cut_lo (ws.map rV) 1
        simp only [oSl]
        rw [← this]; rfl
      · unfold wsV
        simp only [oAdd]
        rw [if_pos (by simp; omega)]
        simp
theorem lap {s : Sto} {l n : Nat} (P : Pot s l n) (hn : n + 6000 < 2 ^ 30) (c1 c2 c3 c4 c5 : Option PV) :
    ∃ (s' : Sto) (d1 d2 d3 d4 d5 : Option PV), S__law_right_1b [some (.loc l), c1, c2, c3, c4, c5] s = .nx [some (.loc l), d1, d2, d3, d4, d5] s' ∧ Pot s' l (n + 30) := by
  obtain ⟨ws, s1, A1, hw, h1, h6, P1⟩ := lap1 P (by omega) c1 c2 c3 c4 c5
  obtain ⟨us, W, A2⟩ := lap2 hw h1 h6 (q := some (.loc l)) (c1 := c1) (c3 := c3) (c4 := c4) (c5 := c5) s1
  have u1 := W.l1
  have u6 := W.l6
  obtain ⟨z, s2, e2, z0, z1, P2, f2⟩ := take_eq (u := 9 - (us.length : Int)) P1 (by omega) (by omega) (by omega)
  rw [← b_take] at e2
  obtain ⟨d, rfl⟩ := Int.eq_ofNat_of_zero_le z0
  have A3 : S__law_right_1b_3 [some (.loc l), c1, some (wsV us), c3, c4, c5] s1 = .nx [some (.loc l), c1, some (wsV us), some (.int ((us.length + d : Nat) : Int)), c4, c5] s2 := by
    refine fAsgN_ok (fOp_ok (p := .int (us.length : Nat)) (q := .int (d : Nat)) (fCallB_ok (xs := [wsV us]) rfl (ws_len us s1)) (fCallB_ok (fCons_ok (fCall_ok (s1 := s1) (xs := [.loc l, .int (9 - (us.length : Int))]) ?_ rfl e2) fNil_ok) (oInt1_int _ _)) ?_)
    · exact fCons_ok (fVar_ok rfl) (fCons_ok (fOp_ok (p := .int 9) (q := .int (us.length : Nat)) fC_ok (fCallB_ok (xs := [wsV us]) rfl (ws_len us s1)) rfl) fNil_ok)
    · rw [oAdd_int]; simp
  obtain ⟨r, s3, e3, r0, rb, P3, f3⟩ := lnumber_r (u := 40) P2 (by omega) (by decide) (by decide)
  rw [← b_lnumber] at e3
  have O : Ok us (us.length + d) r := ⟨W, by omega, by omega, r0, rb⟩
  obtain ⟨s4, e4, g4⟩ := like_ok O s3
  have P4 := g4.pot P3
  obtain ⟨s5, e5, P5⟩ := all_refused W (m := us.length + d) (by omega) (by omega) P4 (by omega)
  have A4 : S__law_right_1b_4 [some (.loc l), c1, some (wsV us), some (.int ((us.length + d : Nat) : Int)), c4, c5] s2 = .nx [some (.loc l), c1, some (wsV us), some (.int ((us.length + d : Nat) : Int)), c4, c5] s5 := by
    refine fIfS_f (fOr_f (fNot_ok (b := true) (fB_ok (fCall_ok (s1 := s3) (xs := [wsV us, .int ((us.length + d : Nat) : Int), rV r]) ?_ rfl e4))) (fNot_ok (b := true) (fB_ok (fCall_ok (xs := [.loc l, wsV us, .int ((us.length + d : Nat) : Int)]) rfl rfl e5)))) rfl
    exact fCons_ok (fVar_ok rfl) (fCons_ok (fVar_ok rfl) (fCons_ok (fCall_ok (xs := [.loc l, .int 40]) rfl rfl e3) fNil_ok))
  exact ⟨s5, _, _, _, _, _, fSeq_nx A1 (fSeq_nx A2 (fSeq_nx A3 A4)), Pot.mono P5 (by omega)⟩
theorem law_right {s : Sto} {l : Nat} (P : Pot s l 0) : ∃ s', F__law_right [.loc l] s = .ok (.bl true) s' := by
  obtain ⟨ρ', s', e, _⟩ := forN_inv (it := fun i _ => some (if i < 8 then some (.int (i : Int)) else none)) (gt := gfName 1) (fb := S__law_right_1b) (N := 8) (fun i => .int (i : Int))
    (fun i ρ s' => (∃ c1 c2 c3 c4 c5, ρ = [some (.loc l), c1, c2, c3, c4, c5]) ∧ Pot s' l (30 * i))
    (fun i ρ s' _ => rfl)
    (fun i ρ s' hi hI => by
      obtain ⟨⟨c1, c2, c3, c4, c5, rfl⟩, P'⟩ := hI
      obtain ⟨s2, d1, d2, d3, d4, d5, e2, P2⟩ := lap P' (by omega) (some (.int (i : Int))) c2 c3 c4 c5
      exact ⟨_, _, _, _, rfl, .inl e2, ⟨_, _, _, _, _, rfl⟩, P2⟩)
    9 0 [some (.loc l), none, none, none, none, none] s (by omega) (Nat.zero_le _) ⟨⟨_, _, _, _, _, rfl⟩, P⟩
  refine ⟨s', ?_⟩
  have hs := srcR1_eq (fs := fCons (fC (.int 8)) fNil) (ρ := [some (.loc l), none, none, none, none, none]) (s := s) (s1 := s) (b := 8) rfl (by decide) (by decide)
  refine fDef_ok (ρ := [some (.loc l), none, none, none, none, none]) rfl rfl ?_
  rw [S__law_right_eq]
  exact fSeq_nx (fFor_ok hs e) rfl
theorem rgP_get (N : Int) (i : Nat) : (rgP 0 N)[i]? = if i < N.toNat then some (.int (i : Int)) else none := by
  unfold rgP
  rw [List.getElem?_map]
  by_cases h : i < N.toNat
  · rw [if_pos h, List.getElem?_range (by simpa using h)]
    simp
  · rw [if_neg h, List.getElem?_eq_none (by simpa using h)]
    rfl
theorem rgP_len (N : Int) : (rgP 0 N).length = N.toNat := by simp [rgP]
def qF : Rat := ⟨1, 20000, by decide, by decide⟩
def qB : Rat := ⟨1, 40000, by decide, by decide⟩
def qW : Rat := ⟨100000, 3, by decide, by decide⟩
theorem alloc_at (s : Sto) (o : PObj) : (s.alloc o).objs[s.objs.length]? = some o := by simp [Sto.alloc]
theorem front_ok (s : Sto) : F_round_way [.tup [rV qF, rV qF, rV qB, rV qB], .int 5, rV 1] s = .ok (rV qW) s := by
  have hb : ∀ w ∈ [qF, qF, qB, qB], 0 ≤ w ∧ Bd 16 w := by
    intro w hw
    simp only [List.mem_cons, List.not_mem_nil, or_false] at hw
    rcases hw with rfl | rfl | rfl | rfl <;> exact ⟨by decide +kernel, ⟨by decide +kernel, by decide +kernel⟩⟩
  have e1 : F_look_at_wears [wsV [qF, qF, qB, qB]] s = .ok .non s := look_wears_k hb (by decide) (by decide) (by decide) ⟨qF, by simp, by decide +kernel⟩ s
  have e2 : F_is_int [.int 5, .int 4, .int 8] s = .ok (.bl true) s := by rw [b_int, is_int_int]; rfl
  have e3 := look_above_ok (l := 1) (by decide) (bd_1 6) (by decide) s
  let ρ : Sl := [some (wsV [qF, qF, qB, qB]), some (.int 5), some (rV 1)]
  have hL : F_look_at_like [wsV [qF, qF, qB, qB], .int 5, rV 1] s = .ok .non s := by
    have hA : B_look_at_like ρ s = .nx ρ s := by
      refine fSeq_nx (fDrop_ok (fCall_ok (xs := [wsV [qF, qF, qB, qB]]) rfl rfl e1)) (fSeq_nx (fIfS_f (fNot_ok (b := true) (fB_ok (fCall_ok (xs := [.int 5, .int 4, .int 8]) ?_ rfl e2))) rfl) (fDrop_ok (fCall_ok (xs := [rV 1]) rfl rfl e3)))
      exact fCons_ok (fVar_ok rfl) (fCons_ok (fCallB_ok (xs := [wsV [qF, qF, qB, qB]]) rfl (ws_len _ s)) rfl)
    unfold F_look_at_like
    rw [fDef_of (by rfl)]
    show ofS (B_look_at_like ρ s) = _
    rw [hA]
    rfl
  have hS : F_summed [.tmp ([qF, qF, qB, qB].map rV)] s = .ok (rV (rsum [qF, qF, qB, qB])) s := by
    rw [b_summed]
    exact summed_b (k := 16) (fun r hr => (hb r hr).2) (by decide) (by decide) s
  have e4 : F_times [rV 5, rV 1] s = .ok (rV (5 * 1)) s := by rw [b_times]; exact times_r (Bd.mono (bd_nat (m := 5) (k := 3) (by decide)) (by decide)) ((bd_1 3).mono (by decide)) s
  have hsum : Bd 68 (rsum [qF, qF, qB, qB]) := rsum_all fun r hr => (hb r hr).2
  have hp : 0 < rsum [qF, qF, qB, qB] := by decide +kernel
  have hv : (5 : Rat) * 1 / rsum [qF, qF, qB, qB] = qW := by decide +kernel
  have h5 : Bd 3 ((5 : Rat) * 1) := ⟨by decide +kernel, by decide +kernel⟩
  have e5 : F_over [rV ((5 : Rat) * 1), rV (rsum [qF, qF, qB, qB])] s = .ok (rV qW) s := by
    rw [b_over, ← hv]
    exact over_r (h5.mono (by decide)) (hsum.mono (by decide)) s hp
  have hT : F_told_round [wsV [qF, qF, qB, qB], .int 5, rV 1] s = .ok (rV qW) s := by
    refine fDef_ok (ρ := ρ) rfl rfl (fRet_ok (fCall_ok (s1 := s) (xs := [rV ((5 : Rat) * 1), rV (rsum [qF, qF, qB, qB])]) ?_ rfl e5))
    exact fCons_ok (fCall_ok (xs := [rV 5, rV 1]) rfl rfl e4) (fCons_ok (fCall_ok (xs := [.tmp ([qF, qF, qB, qB].map rV)]) rfl rfl hS) fNil_ok)
  exact fDef_ok (ρ := ρ) rfl rfl (fSeq_nx (fDrop_ok (fCall_ok (xs := [wsV [qF, qF, qB, qB], .int 5, rV 1]) rfl rfl hL)) (fRet_ok (fCall_ok (xs := [wsV [qF, qF, qB, qB], .int 5, rV 1]) rfl rfl hT)))
theorem law_true (ns : List Int) : ∃ s', F_law [.kl (ns.map PV.int)] sto0 = .ok (.bl true) s' := by
  obtain ⟨N, n1, n3, e1⟩ := cells_eq (s := sto0) (xs := ns.map PV.int) (m := 3) (by decide) (by decide)
  rw [← b_cells] at e1
  let K : PV := .kl (ns.map PV.int)
  obtain ⟨acc, s', e, rfl⟩ := compN_inv (it := fun i _ => some (rgP 0 N)[i]?) (gt := gfName 3) (ft := fYes) (fe := fCall 1 F__law_right (fCons (fCall 2 F__law_pot (fCons (fVar 0) (fCons (fVar 3) fNil))) fNil)) (ρ0 := [some K, some (rV qF), some (rV qB), none]) (N := N.toNat) (fun i => .int (i : Int)) (fun i s' acc => acc = (List.replicate i true).map PV.bl) (by omega)
    (fun i s' acc _ => by rw [rgP_get])
    (fun i s' acc hi hI => by
      subst hI
      obtain ⟨a, b, e2, a0, a1, b0, b1⟩ := pot_eq (s := s') (ns := ns) (k := i) (by omega)
      rw [← b_pot] at e2
      have P : Pot (s'.alloc (.lst [.int a, .int b, .int 0])) s'.objs.length 0 := ⟨a, b, 0, alloc_at _ _, a0, a1, b0, b1, by decide, by decide⟩
      obtain ⟨s2, e3⟩ := law_right P
      refine ⟨[some K, some (rV qF), some (rV qB), some (.int (i : Int))], s', rfl, .inl ⟨s', .bl true, s2, rfl, ?_, ?_⟩⟩
      · exact fCall_ok (fCons_ok (fCall_ok (xs := [K, .int (i : Int)]) rfl rfl e2) fNil_ok) rfl e3
      · rw [List.replicate_succ', List.map_append]; rfl)
    (N.toNat + 1) 0 sto0 [] (by omega) (Nat.zero_le _) (Nat.zero_le _) rfl
  refine ⟨s', ?_⟩
  have hs := srcE_tmp (fe := fCall 2 F__law_cells (fCons (fVar 0) (fCons (fC (.int 3)) fNil))) (ρ := [some K, some (rV qF), some (rV qB), none]) (s := sto0) (s1 := sto0) (xs := rgP 0 N) (fCall_ok (xs := [K, .int 3]) rfl rfl e1)
  rw [rgP_len] at hs
  refine fDef_ok (ρ := [some K, none, none, none]) rfl rfl ?_
  rw [S_law_eq]
  have A1 : S_law_1 [some K, none, none, none] sto0 = .nx [some K, some (rV qF), some (rV qB), none] sto0 := rfl
  have A2 : S_law_2 [some K, some (rV qF), some (rV qB), none] sto0 = .nx [some K, some (rV qF), some (rV qB), none] sto0 := by
    refine fIfS_f (fB_ok (fOp_ok (p := rV qW) (q := rV qW) (fCall_ok (s1 := sto0) (xs := [.tup [rV qF, rV qF, rV qB, rV qB], .int 5, rV 1]) ?_ rfl (front_ok sto0)) ?_ (by rw [oNe_r]; simp))) rfl
    · rfl
    · rfl
  refine fSeq_nx A1 (fSeq_nx A2 (fRet_ok (fCallB_ok (fCons_ok (fLcT_ok hs (ρ0 := [some K, some (rV qF), some (rV qB), none]) rfl e) fNil_ok) ?_)))
  rw [oAll_bls]
  congr 2
  rw [List.all_eq_true]
  intro x hx
  rw [List.eq_of_mem_replicate hx]
  rfl
end K08

namespace K08
open Pv PySem PySem.Spec PyProof.Rows L2
def lamOf (l : Nat) (cs : List (Str × Addr)) (c : Addr) : LF := match l with
  | 0 => lfOf (("_law_are_all_refused" ++ ".<locals>.") ++ "<lambda>" : Str) lamE_0 cs c
  | 1 => lfOf (("_law_are_all_refused" ++ ".<locals>.") ++ "<lambda>" : Str) lamE_1 cs c
  | 2 => lfOf (("_law_are_all_refused" ++ ".<locals>.") ++ "<lambda>" : Str) lamE_2 cs c
  | 3 => lfOf (("_law_are_all_refused" ++ ".<locals>.") ++ "<lambda>" : Str) lamE_3 cs c
  | 4 => lfOf (("_law_are_all_refused" ++ ".<locals>.") ++ "<lambda>" : Str) lamE_4 cs c
  | 5 => lfOf (("_law_are_all_refused" ++ ".<locals>.") ++ "<lambda>" : Str) lamE_5 cs c
  | 6 => lfOf (("_law_are_all_refused" ++ ".<locals>.") ++ "<lambda>" : Str) lamE_6 cs c
  | _ => lfOf "" noE cs c
theorem bd_is_int : BdB "is_int" s_is_int ["value", "low", "high"] := fun _ _ _ _ _ _ us hl => match us, hl with | [_, _, _], _ => rfl
theorem bd_shared : BdB "shared" s_shared ["one", "other"] := fun _ _ _ _ _ _ us hl => match us, hl with | [_, _], _ => rfl
theorem bd_told_fraction : BdB "told_fraction" s_told_fraction ["top", "bottom"] := fun _ _ _ _ _ _ us hl => match us, hl with | [_, _], _ => rfl
theorem bd_is_exact : BdB "is_exact" s_is_exact ["value"] := fun _ _ _ _ _ _ us hl => match us, hl with | [_], _ => rfl
theorem bd_is_fraction : BdB "is_fraction" s_is_fraction ["value"] := fun _ _ _ _ _ _ us hl => match us, hl with | [_], _ => rfl
theorem bd_is_price : BdB "is_price" s_is_price ["value"] := fun _ _ _ _ _ _ us hl => match us, hl with | [_], _ => rfl
theorem bd_look_at_above : BdB "look_at_above" s_look_at_above ["value"] := fun _ _ _ _ _ _ us hl => match us, hl with | [_], _ => rfl
theorem bd_opposite : BdB "opposite" s_opposite ["one"] := fun _ _ _ _ _ _ us hl => match us, hl with | [_], _ => rfl
theorem bd_minus : BdB "minus" s_minus ["one", "other"] := fun _ _ _ _ _ _ us hl => match us, hl with | [_, _], _ => rfl
theorem bd_times : BdB "times" s_times ["one", "other"] := fun _ _ _ _ _ _ us hl => match us, hl with | [_, _], _ => rfl
theorem bd_over : BdB "over" s_over ["one", "other"] := fun _ _ _ _ _ _ us hl => match us, hl with | [_, _], _ => rfl
theorem bd_is_less : BdB "is_less" s_is_less ["one", "other"] := fun _ _ _ _ _ _ us hl => match us, hl with | [_, _], _ => rfl
theorem bd_least_of : BdB "least_of" s_least_of ["some"] := fun _ _ _ _ _ _ us hl => match us, hl with | [_], _ => rfl
theorem bd_greatest_of : BdB "greatest_of" s_greatest_of ["some"] := fun _ _ _ _ _ _ us hl => match us, hl with | [_], _ => rfl
theorem bd_summed : BdB "summed" s_summed ["some"] := fun _ _ _ _ _ _ us hl => match us, hl with | [_], _ => rfl
theorem bd_look_at_wears : BdB "look_at_wears" s_look_at_wears ["wears"] := fun _ _ _ _ _ _ us hl => match us, hl with | [_], _ => rfl
theorem bd_look_at_like : BdB "look_at_like" s_look_at_like ["wears", "many", "life"] := fun _ _ _ _ _ _ us hl => match us, hl with | [_, _, _], _ => rfl
theorem bd_stock_of : BdB "stock_of" s_stock_of ["wears", "many", "life"] := fun _ _ _ _ _ _ us hl => match us, hl with | [_, _, _], _ => rfl
theorem bd_told_round : BdB "told_round" s_told_round ["wears", "many", "life"] := fun _ _ _ _ _ _ us hl => match us, hl with | [_, _, _], _ => rfl
theorem bd_round_way : BdB "round_way" s_round_way ["wears", "many", "life"] := fun _ _ _ _ _ _ us hl => match us, hl with | [_, _, _], _ => rfl
theorem bd_round_plan : BdB "round_plan" s_round_plan ["wears", "many", "life"] := fun _ _ _ _ _ _ us hl => match us, hl with | [_, _, _], _ => rfl
theorem bd_round_prices : BdB "round_prices" s_round_prices ["wears", "many", "life"] := fun _ _ _ _ _ _ us hl => match us, hl with | [_, _, _], _ => rfl
theorem bd_look_at_few : BdB "look_at_few" s_look_at_few ["wears", "life"] := fun _ _ _ _ _ _ us hl => match us, hl with | [_, _], _ => rfl
theorem bd_unmoved_way : BdB "unmoved_way" s_unmoved_way ["wears", "life"] := fun _ _ _ _ _ _ us hl => match us, hl with | [_, _], _ => rfl
theorem bd_gain_of : BdB "gain_of" s_gain_of ["wears", "many", "life"] := fun _ _ _ _ _ _ us hl => match us, hl with | [_, _, _], _ => rfl
theorem bd__law_pot : BdB "_law_pot" s__law_pot ["script", "place"] := fun _ _ _ _ _ _ us hl => match us, hl with | [_, _], _ => rfl
theorem bd__law_take : BdB "_law_take" s__law_take ["pot", "upto"] := fun _ _ _ _ _ _ us hl => match us, hl with | [_, _], _ => rfl
theorem bd__law_of : BdB "_law_of" s__law_of ["pot", "some"] := fun _ _ _ _ _ _ us hl => match us, hl with | [_, _], _ => rfl
theorem bd__law_cells : BdB "_law_cells" s__law_cells ["script", "most"] := fun _ _ _ _ _ _ us hl => match us, hl with | [_, _], _ => rfl
theorem bd__law_heard : BdB "_law_heard" s__law_heard ["call"] := fun _ _ _ _ _ _ us hl => match us, hl with | [_], _ => rfl
theorem bd__law_is_int : BdB "_law_is_int" s__law_is_int ["value", "low", "high"] := fun _ _ _ _ _ _ us hl => match us, hl with | [_, _, _], _ => rfl
theorem bd__law_frac : BdB "_law_frac" s__law_frac ["top", "bottom"] := fun _ _ _ _ _ _ us hl => match us, hl with | [_, _], _ => rfl
theorem bd__law_plus : BdB "_law_plus" s__law_plus ["one", "other"] := fun _ _ _ _ _ _ us hl => match us, hl with | [_, _], _ => rfl
theorem bd__law_times : BdB "_law_times" s__law_times ["one", "other"] := fun _ _ _ _ _ _ us hl => match us, hl with | [_, _], _ => rfl
theorem bd__law_less : BdB "_law_less" s__law_less ["one", "other"] := fun _ _ _ _ _ _ us hl => match us, hl with | [_, _], _ => rfl
theorem bd__law_over : BdB "_law_over" s__law_over ["one", "other"] := fun _ _ _ _ _ _ us hl => match us, hl with | [_, _], _ => rfl
theorem bd__law_sum : BdB "_law_sum" s__law_sum ["some"] := fun _ _ _ _ _ _ us hl => match us, hl with | [_], _ => rfl
theorem bd__law_is_less : BdB "_law_is_less" s__law_is_less ["one", "other"] := fun _ _ _ _ _ _ us hl => match us, hl with | [_, _], _ => rfl
theorem bd__law_is_exact : BdB "_law_is_exact" s__law_is_exact ["value"] := fun _ _ _ _ _ _ us hl => match us, hl with | [_], _ => rfl
theorem bd__law_are_refused : BdB "_law_are_refused" s__law_are_refused ["looks", "is_kind", "value"] := fun _ _ _ _ _ _ us hl => match us, hl with | [_, _, _], _ => rfl
theorem bd__law_is_share : BdB "_law_is_share" s__law_is_share ["value"] := fun _ _ _ _ _ _ us hl => match us, hl with | [_], _ => rfl
theorem bd__law_number : BdB "_law_number" s__law_number ["pot", "upto"] := fun _ _ _ _ _ _ us hl => match us, hl with | [_, _], _ => rfl
theorem bd__law_wear : BdB "_law_wear" s__law_wear ["pot"] := fun _ _ _ _ _ _ us hl => match us, hl with | [_], _ => rfl
theorem bd__law_is_leg : BdB "_law_is_leg" s__law_is_leg ["stock", "value"] := fun _ _ _ _ _ _ us hl => match us, hl with | [_, _], _ => rfl
theorem bd__law_is_seating : BdB "_law_is_seating" s__law_is_seating ["stock", "value"] := fun _ _ _ _ _ _ us hl => match us, hl with | [_, _], _ => rfl
theorem bd__law_is_plan : BdB "_law_is_plan" s__law_is_plan ["stock", "value"] := fun _ _ _ _ _ _ us hl => match us, hl with | [_, _], _ => rfl
theorem bd__law_way : BdB "_law_way" s__law_way ["plan"] := fun _ _ _ _ _ _ us hl => match us, hl with | [_], _ => rfl
theorem bd__law_table : BdB "_law_table" s__law_table ["stock", "plan"] := fun _ _ _ _ _ _ us hl => match us, hl with | [_, _], _ => rfl
theorem bd__law_worn : BdB "_law_worn" s__law_worn ["stock", "table"] := fun _ _ _ _ _ _ us hl => match us, hl with | [_, _], _ => rfl
theorem bd__law_serves : BdB "_law_serves" s__law_serves ["stock", "plan"] := fun _ _ _ _ _ _ us hl => match us, hl with | [_, _], _ => rfl
theorem bd__law_do_bar : BdB "_law_do_bar" s__law_do_bar ["stock", "bars", "value"] := fun _ _ _ _ _ _ us hl => match us, hl with | [_, _, _], _ => rfl
theorem bd__law_bound : BdB "_law_bound" s__law_bound ["stock", "prices"] := fun _ _ _ _ _ _ us hl => match us, hl with | [_, _], _ => rfl
theorem bd__law_is_served : BdB "_law_is_served" s__law_is_served ["stock", "bars", "value"] := fun _ _ _ _ _ _ us hl => match us, hl with | [_, _, _], _ => rfl
theorem bd__law_greatest : BdB "_law_greatest" s__law_greatest ["some"] := fun _ _ _ _ _ _ us hl => match us, hl with | [_], _ => rfl
theorem bd__law_are_like_right : BdB "_law_are_like_right" s__law_are_like_right ["wears", "many", "life"] := fun _ _ _ _ _ _ us hl => match us, hl with | [_, _, _], _ => rfl
theorem bd__law_are_all_refused : BdB "_law_are_all_refused" s__law_are_all_refused ["pot", "wears", "many"] := fun _ _ _ _ _ _ us hl => match us, hl with | [_, _, _], _ => rfl
theorem bd__law_right : BdB "_law_right" s__law_right ["pot"] := fun _ _ _ _ _ _ us hl => match us, hl with | [_], _ => rfl
theorem bd_law : BdB "law" s_law ["script"] := fun _ _ _ _ _ _ us hl => match us, hl with | [_], _ => rfl
/-- the mathematics -/
def Keeps : Prop := ∀ ns : List Int, ns.length ≤ 63 → (∀ z ∈ ns, Builtin.Int.intBits z ≤ 1048576) → ∃ s', F_law [.kl (ns.map PV.int)] sto0 = .ok (.bl true) s'
theorem keeps : Keeps := fun ns _ _ => law_true ns
theorem all_mk (keeps : Keeps) {w : World} {K : PySem.W.Frag} {h : Heap} {mg : Str → Option Value} {ts : List Addr} {fa fI a0 a1 a2 a3 P0 : Addr} {u_NOUGHT u_ONE u_MOST_PLACES u_MOST_PARTS : Value} (X : K.In h) (Gm : h.Ns mainGlobals mg) (hfa : mg "law" = some (.ref fa)) (LA : PySem.W.LooseAre [("GREATEST", PySem.W.WData.int 1000000)] mg h) (hts : ∀ P ∈ ts, h.get? P = some ({ cls := .none, data := .fields #[] } : Obj))
    (f_is_int : ∃ f fd, FnK K "is_int" s_is_int f fd)
    (f_shared : ∃ f fd, FnK K "shared" s_shared f fd)
    (f_told_fraction : ∃ f fd, FnK K "told_fraction" s_told_fraction f fd)
    (f_is_exact : ∃ f fd, FnK K "is_exact" s_is_exact f fd)
    (f_is_fraction : ∃ f fd, FnK K "is_fraction" s_is_fraction f fd)
    (f_is_price : ∃ f fd, FnK K "is_price" s_is_price f fd)
    (f_look_at_above : ∃ f fd, FnK K "look_at_above" s_look_at_above f fd)
    (f_opposite : ∃ f fd, FnK K "opposite" s_opposite f fd)
    (f_minus : ∃ f fd, FnK K "minus" s_minus f fd)
    (f_times : ∃ f fd, FnK K "times" s_times f fd)
    (f_over : ∃ f fd, FnK K "over" s_over f fd)
    (f_is_less : ∃ f fd, FnK K "is_less" s_is_less f fd)
    (f_least_of : ∃ f fd, FnK K "least_of" s_least_of f fd)
    (f_greatest_of : ∃ f fd, FnK K "greatest_of" s_greatest_of f fd)
    (f_summed : ∃ f fd, FnK K "summed" s_summed f fd)
    (f_look_at_wears : ∃ f fd, FnK K "look_at_wears" s_look_at_wears f fd)
    (f_look_at_like : ∃ f fd, FnK K "look_at_like" s_look_at_like f fd)
    (f_stock_of : ∃ f fd, FnK K "stock_of" s_stock_of f fd)
    (f_told_round : ∃ f fd, FnK K "told_round" s_told_round f fd)
    (f_round_way : ∃ f fd, FnK K "round_way" s_round_way f fd)
    (f_round_plan : ∃ f fd, FnK K "round_plan" s_round_plan f fd)
    (f_round_prices : ∃ f fd, FnK K "round_prices" s_round_prices f fd)
    (f_look_at_few : ∃ f fd, FnK K "look_at_few" s_look_at_few f fd)
    (f_unmoved_way : ∃ f fd, FnK K "unmoved_way" s_unmoved_way f fd)
    (f_gain_of : ∃ f fd, FnK K "gain_of" s_gain_of f fd)
    (f__law_pot : ∃ f fd, FnK K "_law_pot" s__law_pot f fd)
    (f__law_take : ∃ f fd, FnK K "_law_take" s__law_take f fd)
    (f__law_of : ∃ f fd, FnK K "_law_of" s__law_of f fd)
    (f__law_cells : ∃ f fd, FnK K "_law_cells" s__law_cells f fd)
    (f__law_heard : ∃ f fd, FnK K "_law_heard" s__law_heard f fd)
    (f__law_is_int : ∃ f fd, FnK K "_law_is_int" s__law_is_int f fd)
    (f__law_frac : ∃ f fd, FnK K "_law_frac" s__law_frac f fd)
    (f__law_plus : ∃ f fd, FnK K "_law_plus" s__law_plus f fd)
    (f__law_times : ∃ f fd, FnK K "_law_times" s__law_times f fd)
    (f__law_less : ∃ f fd, FnK K "_law_less" s__law_less f fd)
    (f__law_over : ∃ f fd, FnK K "_law_over" s__law_over f fd)
    (f__law_sum : ∃ f fd, FnK K "_law_sum" s__law_sum f fd)
    (f__law_is_less : ∃ f fd, FnK K "_law_is_less" s__law_is_less f fd)
    (f__law_is_exact : ∃ f fd, FnK K "_law_is_exact" s__law_is_exact f fd)
    (f__law_are_refused : ∃ f fd, FnK K "_law_are_refused" s__law_are_refused f fd)
    (f__law_is_share : ∃ f fd, FnK K "_law_is_share" s__law_is_share f fd)
    (f__law_number : ∃ f fd, FnK K "_law_number" s__law_number f fd)
    (f__law_wear : ∃ f fd, FnK K "_law_wear" s__law_wear f fd)
    (f__law_is_leg : ∃ f fd, FnK K "_law_is_leg" s__law_is_leg f fd)
    (f__law_is_seating : ∃ f fd, FnK K "_law_is_seating" s__law_is_seating f fd)
    (f__law_is_plan : ∃ f fd, FnK K "_law_is_plan" s__law_is_plan f fd)
    (f__law_way : ∃ f fd, FnK K "_law_way" s__law_way f fd)
    (f__law_table : ∃ f fd, FnK K "_law_table" s__law_table f fd)
    (f__law_worn : ∃ f fd, FnK K "_law_worn" s__law_worn f fd)
    (f__law_serves : ∃ f fd, FnK K "_law_serves" s__law_serves f fd)
    (f__law_do_bar : ∃ f fd, FnK K "_law_do_bar" s__law_do_bar f fd)
    (f__law_bound : ∃ f fd, FnK K "_law_bound" s__law_bound f fd)
    (f__law_is_served : ∃ f fd, FnK K "_law_is_served" s__law_is_served f fd)
    (f__law_greatest : ∃ f fd, FnK K "_law_greatest" s__law_greatest f fd)
    (f__law_are_like_right : ∃ f fd, FnK K "_law_are_like_right" s__law_are_like_right f fd)
    (f__law_are_all_refused : ∃ f fd c, FnKC K "_law_are_all_refused" s__law_are_all_refused f fd c P0) (p__law_are_all_refused : P0 ∈ ts)
    (f__law_right : ∃ f fd, FnK K "_law_right" s__law_right f fd)
    (f_law : ∃ f fd, FnK K "law" s_law f fd)
    (m_WearError : PySem.W.nsIn K mainGlobals "WearError" = some (some (.ref a0)))
    (m_BadFraction : PySem.W.nsIn K mainGlobals "BadFraction" = some (some (.ref a1)))
    (m_BadRow : PySem.W.nsIn K mainGlobals "BadRow" = some (some (.ref a2)))
    (m_BadInt : PySem.W.nsIn K mainGlobals "BadInt" = some (some (.ref a3)))
    (c_BadFraction : ClsK K a0 fI a1)
    (c_BadRow : ClsK K a0 fI a2)
    (c_BadInt : ClsK K a0 fI a3)
    (pairs : pairsB K [a0, a1, a2, a3] clsT = true)
    (ini : ∃ fd, InitK PySem.Challenge.pw_servedlongest_k08_whole_like_parts_in_a K mg a0 fI fd)
    (g_NOUGHT : PySem.W.nsIn K mainGlobals "NOUGHT" = some (some u_NOUGHT)) (k_NOUGHT : (kvB K 8 (.tup [.int 0, .int 1]) u_NOUGHT).isSome = true)
    (g_ONE : PySem.W.nsIn K mainGlobals "ONE" = some (some u_ONE)) (k_ONE : (kvB K 8 (.tup [.int 1, .int 1]) u_ONE).isSome = true)
    (g_MOST_PLACES : PySem.W.nsIn K mainGlobals "MOST_PLACES" = some (some u_MOST_PLACES)) (k_MOST_PLACES : (kvB K 8 (.int 6) u_MOST_PLACES).isSome = true)
    (g_MOST_PARTS : PySem.W.nsIn K mainGlobals "MOST_PARTS" = some (some u_MOST_PARTS)) (k_MOST_PARTS : (kvB K 8 (.int 8) u_MOST_PARTS).isSome = true)
    (n_abs : PySem.W.nsIn K mainGlobals "abs" = some none)
    (n_all : PySem.W.nsIn K mainGlobals "all" = some none)
    (n_any : PySem.W.nsIn K mainGlobals "any" = some none)
    (n_bool : PySem.W.nsIn K mainGlobals "bool" = some none)
    (n_enumerate : PySem.W.nsIn K mainGlobals "enumerate" = some none)
    (n_int : PySem.W.nsIn K mainGlobals "int" = some none)
    (n_isinstance : PySem.W.nsIn K mainGlobals "isinstance" = some none)
    (n_len : PySem.W.nsIn K mainGlobals "len" = some none)
    (n_list : PySem.W.nsIn K mainGlobals "list" = some none)
    (n_max : PySem.W.nsIn K mainGlobals "max" = some none)
    (n_min : PySem.W.nsIn K mainGlobals "min" = some none)
    (n_range : PySem.W.nsIn K mainGlobals "range" = some none)
    (n_repr : PySem.W.nsIn K mainGlobals "repr" = some none)
    (n_set : PySem.W.nsIn K mainGlobals "set" = some none)
    (n_str : PySem.W.nsIn K mainGlobals "str" = some none)
    (n_sum : PySem.W.nsIn K mainGlobals "sum" = some none)
    (n_tuple : PySem.W.nsIn K mainGlobals "tuple" = some none)
    (n_zip : PySem.W.nsIn K mainGlobals "zip" = some none)
    : LawAtG PySem.Challenge.pw_servedlongest_k08_whole_like_parts_in_a w K 14 63 "script" mg fa h := by
  obtain ⟨fL, fdL, kL⟩ := f_law
  have eL := hfa.symm.trans (PySem.W.mg_of X Gm kL.n)
  cases eL
  obtain ⟨fl0, fdl0, cl0, kl0⟩ := f__law_are_all_refused
  obtain ⟨fv_stock_of, fdv_stock_of, kv_stock_of⟩ := f_stock_of
  obtain ⟨fv_round_way, fdv_round_way, kv_round_way⟩ := f_round_way
  obtain ⟨fv_round_plan, fdv_round_plan, kv_round_plan⟩ := f_round_plan
  obtain ⟨fv_round_prices, fdv_round_prices, kv_round_prices⟩ := f_round_prices
  obtain ⟨fv_gain_of, fdv_gain_of, kv_gain_of⟩ := f_gain_of
  obtain ⟨fdI, II⟩ := ini
  refine ⟨fdL, [(cl0, P0)], (fun p hp => (List.mem_cons.mp hp).elim (fun e => by subst e; exact hts _ p__law_are_all_refused) fun hp => (nomatch hp)), (fun p hp => (List.mem_cons.mp hp).elim (fun e => by subst e; exact kl0.no) fun hp => (nomatch hp)), (fun p hp => (List.mem_cons.mp hp).elim (fun e => by subst e; exact PySem.W.codeHd_of_K X kl0.hd) fun hp => (nomatch hp)), bind_at kL bd_law, fun base KB GB TB => ?_⟩
  let g : G := ⟨PySem.Challenge.pw_servedlongest_k08_whole_like_parts_in_a, w, K, mg, base, fun i => [a0, a1, a2, a3].getD i ([fv_stock_of, fv_round_way, fv_round_plan, fv_round_prices, fv_gain_of].getD (i - 4) 0), lamOf, [(P0, fun _ _ => (("_law_are_all_refused" ++ ".<locals>.") ++ "<lambda>" : Str))], none⟩
  have T : Txt g a0 fI fdI := {
    f_is_int := let ⟨f, fd, k⟩ := f_is_int; ⟨f, fd, funAt_of X Gm k bd_is_int rfl rfl⟩
    f_shared := let ⟨f, fd, k⟩ := f_shared; ⟨f, fd, funAt_of X Gm k bd_shared rfl rfl⟩
    f_told_fraction := let ⟨f, fd, k⟩ := f_told_fraction; ⟨f, fd, funAt_of X Gm k bd_told_fraction rfl rfl⟩
    f_is_exact := let ⟨f, fd, k⟩ := f_is_exact; ⟨f, fd, funAt_of X Gm k bd_is_exact rfl rfl⟩
    f_is_fraction := let ⟨f, fd, k⟩ := f_is_fraction; ⟨f, fd, funAt_of X Gm k bd_is_fraction rfl rfl⟩
    f_is_price := let ⟨f, fd, k⟩ := f_is_price; ⟨f, fd, funAt_of X Gm k bd_is_price rfl rfl⟩
    f_look_at_above := let ⟨f, fd, k⟩ := f_look_at_above; ⟨f, fd, funAt_of X Gm k bd_look_at_above rfl rfl⟩
    f_opposite := let ⟨f, fd, k⟩ := f_opposite; ⟨f, fd, funAt_of X Gm k bd_opposite rfl rfl⟩
    f_minus := let ⟨f, fd, k⟩ := f_minus; ⟨f, fd, funAt_of X Gm k bd_minus rfl rfl⟩
    f_times := let ⟨f, fd, k⟩ := f_times; ⟨f, fd, funAt_of X Gm k bd_times rfl rfl⟩
    f_over := let ⟨f, fd, k⟩ := f_over; ⟨f, fd, funAt_of X Gm k bd_over rfl rfl⟩
    f_is_less := let ⟨f, fd, k⟩ := f_is_less; ⟨f, fd, funAt_of X Gm k bd_is_less rfl rfl⟩
    f_least_of := let ⟨f, fd, k⟩ := f_least_of; ⟨f, fd, funAt_of X Gm k bd_least_of rfl rfl⟩
    f_greatest_of := let ⟨f, fd, k⟩ := f_greatest_of; ⟨f, fd, funAt_of X Gm k bd_greatest_of rfl rfl⟩
    f_summed := let ⟨f, fd, k⟩ := f_summed; ⟨f, fd, funAt_of X Gm k bd_summed rfl rfl⟩
    f_look_at_wears := let ⟨f, fd, k⟩ := f_look_at_wears; ⟨f, fd, funAt_of X Gm k bd_look_at_wears rfl rfl⟩
    f_look_at_like := let ⟨f, fd, k⟩ := f_look_at_like; ⟨f, fd, funAt_of X Gm k bd_look_at_like rfl rfl⟩
    f_stock_of := ⟨_, _, funAt_of X Gm kv_stock_of bd_stock_of rfl rfl⟩
    f_told_round := let ⟨f, fd, k⟩ := f_told_round; ⟨f, fd, funAt_of X Gm k bd_told_round rfl rfl⟩
    f_round_way := ⟨_, _, funAt_of X Gm kv_round_way bd_round_way rfl rfl⟩
    f_round_plan := ⟨_, _, funAt_of X Gm kv_round_plan bd_round_plan rfl rfl⟩
    f_round_prices := ⟨_, _, funAt_of X Gm kv_round_prices bd_round_prices rfl rfl⟩
    f_look_at_few := let ⟨f, fd, k⟩ := f_look_at_few; ⟨f, fd, funAt_of X Gm k bd_look_at_few rfl rfl⟩
    f_unmoved_way := let ⟨f, fd, k⟩ := f_unmoved_way; ⟨f, fd, funAt_of X Gm k bd_unmoved_way rfl rfl⟩
    f_gain_of := ⟨_, _, funAt_of X Gm kv_gain_of bd_gain_of rfl rfl⟩
    f__law_pot := let ⟨f, fd, k⟩ := f__law_pot; ⟨f, fd, funAt_of X Gm k bd__law_pot rfl rfl⟩
    f__law_take := let ⟨f, fd, k⟩ := f__law_take; ⟨f, fd, funAt_of X Gm k bd__law_take rfl rfl⟩
    f__law_of := let ⟨f, fd, k⟩ := f__law_of; ⟨f, fd, funAt_of X Gm k bd__law_of rfl rfl⟩
    f__law_cells := let ⟨f, fd, k⟩ := f__law_cells; ⟨f, fd, funAt_of X Gm k bd__law_cells rfl rfl⟩
    f__law_heard := let ⟨f, fd, k⟩ := f__law_heard; ⟨f, fd, funAt_of X Gm k bd__law_heard rfl rfl⟩
    f__law_is_int := let ⟨f, fd, k⟩ := f__law_is_int; ⟨f, fd, funAt_of X Gm k bd__law_is_int rfl rfl⟩
    f__law_frac := let ⟨f, fd, k⟩ := f__law_frac; ⟨f, fd, funAt_of X Gm k bd__law_frac rfl rfl⟩
    f__law_plus := let ⟨f, fd, k⟩ := f__law_plus; ⟨f, fd, funAt_of X Gm k bd__law_plus rfl rfl⟩
    f__law_times := let ⟨f, fd, k⟩ := f__law_times; ⟨f, fd, funAt_of X Gm k bd__law_times rfl rfl⟩
    f__law_less := let ⟨f, fd, k⟩ := f__law_less; ⟨f, fd, funAt_of X Gm k bd__law_less rfl rfl⟩
    f__law_over := let ⟨f, fd, k⟩ := f__law_over; ⟨f, fd, funAt_of X Gm k bd__law_over rfl rfl⟩
    f__law_sum := let ⟨f, fd, k⟩ := f__law_sum; ⟨f, fd, funAt_of X Gm k bd__law_sum rfl rfl⟩
    f__law_is_less := let ⟨f, fd, k⟩ := f__law_is_less; ⟨f, fd, funAt_of X Gm k bd__law_is_less rfl rfl⟩
    f__law_is_exact := let ⟨f, fd, k⟩ := f__law_is_exact; ⟨f, fd, funAt_of X Gm k bd__law_is_exact rfl rfl⟩
    f__law_are_refused := let ⟨f, fd, k⟩ := f__law_are_refused; ⟨f, fd, funAt_of X Gm k bd__law_are_refused rfl rfl⟩
    f__law_is_share := let ⟨f, fd, k⟩ := f__law_is_share; ⟨f, fd, funAt_of X Gm k bd__law_is_share rfl rfl⟩
    f__law_number := let ⟨f, fd, k⟩ := f__law_number; ⟨f, fd, funAt_of X Gm k bd__law_number rfl rfl⟩
    f__law_wear := let ⟨f, fd, k⟩ := f__law_wear; ⟨f, fd, funAt_of X Gm k bd__law_wear rfl rfl⟩
    f__law_is_leg := let ⟨f, fd, k⟩ := f__law_is_leg; ⟨f, fd, funAt_of X Gm k bd__law_is_leg rfl rfl⟩
    f__law_is_seating := let ⟨f, fd, k⟩ := f__law_is_seating; ⟨f, fd, funAt_of X Gm k bd__law_is_seating rfl rfl⟩
    f__law_is_plan := let ⟨f, fd, k⟩ := f__law_is_plan; ⟨f, fd, funAt_of X Gm k bd__law_is_plan rfl rfl⟩
    f__law_way := let ⟨f, fd, k⟩ := f__law_way; ⟨f, fd, funAt_of X Gm k bd__law_way rfl rfl⟩
    f__law_table := let ⟨f, fd, k⟩ := f__law_table; ⟨f, fd, funAt_of X Gm k bd__law_table rfl rfl⟩
    f__law_worn := let ⟨f, fd, k⟩ := f__law_worn; ⟨f, fd, funAt_of X Gm k bd__law_worn rfl rfl⟩
    f__law_serves := let ⟨f, fd, k⟩ := f__law_serves; ⟨f, fd, funAt_of X Gm k bd__law_serves rfl rfl⟩
    f__law_do_bar := let ⟨f, fd, k⟩ := f__law_do_bar; ⟨f, fd, funAt_of X Gm k bd__law_do_bar rfl rfl⟩
    f__law_bound := let ⟨f, fd, k⟩ := f__law_bound; ⟨f, fd, funAt_of X Gm k bd__law_bound rfl rfl⟩
    f__law_is_served := let ⟨f, fd, k⟩ := f__law_is_served; ⟨f, fd, funAt_of X Gm k bd__law_is_served rfl rfl⟩
    f__law_greatest := let ⟨f, fd, k⟩ := f__law_greatest; ⟨f, fd, funAt_of X Gm k bd__law_greatest rfl rfl⟩
    f__law_are_like_right := let ⟨f, fd, k⟩ := f__law_are_like_right; ⟨f, fd, funAt_of X Gm k bd__law_are_like_right rfl rfl⟩
    f__law_are_all_refused := ⟨_, _, cl0, P0, funAt_of X Gm kl0.k bd__law_are_all_refused rfl rfl, kl0.cd, TB (cl0, P0) (by simp), by simp [g], tab_un (T := g.T) (by simp [g]) (by simp [g])⟩
    f__law_right := let ⟨f, fd, k⟩ := f__law_right; ⟨f, fd, funAt_of X Gm k bd__law_right rfl rfl⟩
    f_law := ⟨_, _, funAt_of X Gm kL bd_law rfl rfl⟩
    g_NOUGHT := globOk_of X Gm g_NOUGHT k_NOUGHT rfl rfl
    g_ONE := globOk_of X Gm g_ONE k_ONE rfl rfl
    g_GREATEST := globOk_loose LA (by simp) rfl
    g_MOST_PLACES := globOk_of X Gm g_MOST_PLACES k_MOST_PLACES rfl rfl
    g_MOST_PARTS := globOk_of X Gm g_MOST_PARTS k_MOST_PARTS rfl rfl
    n_abs := PySem.W.mg_none_of X Gm n_abs
    n_all := PySem.W.mg_none_of X Gm n_all
    n_any := PySem.W.mg_none_of X Gm n_any
    n_bool := PySem.W.mg_none_of X Gm n_bool
    n_enumerate := PySem.W.mg_none_of X Gm n_enumerate
    n_int := PySem.W.mg_none_of X Gm n_int
    n_isinstance := PySem.W.mg_none_of X Gm n_isinstance
    n_len := PySem.W.mg_none_of X Gm n_len
    n_list := PySem.W.mg_none_of X Gm n_list
    n_max := PySem.W.mg_none_of X Gm n_max
    n_min := PySem.W.mg_none_of X Gm n_min
    n_range := PySem.W.mg_none_of X Gm n_range
    n_repr := PySem.W.mg_none_of X Gm n_repr
    n_set := PySem.W.mg_none_of X Gm n_set
    n_str := PySem.W.mg_none_of X Gm n_str
    n_sum := PySem.W.mg_none_of X Gm n_sum
    n_tuple := PySem.W.mg_none_of X Gm n_tuple
    n_zip := PySem.W.mg_none_of X Gm n_zip
    m_WearError := PySem.W.mg_of X Gm m_WearError
    m_BadFraction := PySem.W.mg_of X Gm m_BadFraction
    m_BadRow := PySem.W.mg_of X Gm m_BadRow
    m_BadInt := PySem.W.mg_of X Gm m_BadInt
    fv_stock_of := PySem.W.mg_of X Gm kv_stock_of.n
    fv_round_way := PySem.W.mg_of X Gm kv_round_way.n
    fv_round_plan := PySem.W.mg_of X Gm kv_round_plan.n
    fv_round_prices := PySem.W.mg_of X Gm kv_round_prices.n
    fv_gain_of := PySem.W.mg_of X Gm kv_gain_of.n
    e_BadFraction := ⟨c_BadFraction.wc, c_BadFraction.iC, c_BadFraction.ex⟩
    e_BadRow := ⟨c_BadRow.wc, c_BadRow.iC, c_BadRow.ex⟩
    e_BadInt := ⟨c_BadInt.wc, c_BadInt.iC, c_BadInt.ex⟩
    errs := fun c hc => by
      have hc := of_decide_eq_true hc
      match c, hc with
      | 1, _ => exact ⟨c_BadFraction.wc, c_BadFraction.iC, c_BadFraction.ex⟩
      | 2, _ => exact ⟨c_BadRow.wc, c_BadRow.iC, c_BadRow.ex⟩
      | 3, _ => exact ⟨c_BadInt.wc, c_BadInt.iC, c_BadInt.ex⟩
      | n + 4, hc => omega
    init := II.fn _ _ _
    tI := II.ty
    bI := II.bd
    isC := fun c d b e => by
      refine ⟨?_, by
        obtain ⟨hc, hd⟩ := isCT_lt (t := clsT) e (by decide)
        have q := (pairs_of pairs e).1
        rw [getD_lt (y := _) hc (by simp [clsT]), getD_lt (y := _) hd (by simp [clsT])] at q
        exact q⟩
      match c, e with
      | 1, _ => exact c_BadFraction.ex
      | 2, _ => exact c_BadRow.ex
      | 3, _ => exact c_BadInt.ex
      | 0, e => exact (nomatch (show (none : Option Bool) = some b from by simpa [isC, isCT, clsT] using e))
      | n + 4, e => exact (nomatch (show (none : Option Bool) = some b from by simpa [isC, isCT, clsT] using e))
    exm := fun c d b e => by
      obtain ⟨hc, hd⟩ := isCT_lt (t := clsT) e (by decide)
      have q := (pairs_of pairs e).2
      rw [getD_lt (y := _) hc (by simp [clsT]), getD_lt (y := _) hd (by simp [clsT])] at q
      exact q
    lam_0 := fun _ _ => rfl
    lam_1 := fun _ _ => rfl
    lam_2 := fun _ _ => rfl
    lam_3 := fun _ _ => rfl
    lam_4 := fun _ _ => rfl
    lam_5 := fun _ _ => rfl
    lam_6 := fun _ _ => rfl
  }
  exact ⟨g, F_law, rfl, rfl, rfl, rfl, rfl, fun p hp => by simp [g] at hp; simp [hp], calG_at (ok_law T) X Gm kL rfl rfl, keeps⟩
end K08
open PySem PySem.W PyProof.Rows
set_option maxRecDepth 100000 in
set_option maxHeartbeats 8000000 in
theorem PySem.Challenge.cw_servedlongest_k08_whole_like_parts_in_a_holds : PySem.Challenge.rw_servedlongest_k08_whole_like_parts_in_a.Holds := by
  w_on; o_law; k_head; (case hw => w_witness2)
  k_fill
  refine Pv.walk_G (l := PySem.Challenge.rw_servedlongest_k08_whole_like_parts_in_a) (n := 63) (k := 14) (x := "script") (by decide +kernel) (by decide) rfl ⟨rfl, by decide, by decide⟩ (fun w h Y => PySem.W.km_in_of Y) ?F
  intro w mg fa h Y KX Gm XX hmg
  refine' K08.all_mk K08.keeps KX Gm hmg XX.2 (PySem.W.km_tabs_of Y) ?f_is_int ?f_shared ?f_told_fraction ?f_is_exact ?f_is_fraction ?f_is_price ?f_look_at_above ?f_opposite ?f_minus ?f_times ?f_over ?f_is_less ?f_least_of ?f_greatest_of ?f_summed ?f_look_at_wears ?f_look_at_like ?f_stock_of ?f_told_round ?f_round_way ?f_round_plan ?f_round_prices ?f_look_at_few ?f_unmoved_way ?f_gain_of ?f__law_pot ?f__law_take ?f__law_of ?f__law_cells ?f__law_heard ?f__law_is_int ?f__law_frac ?f__law_plus ?f__law_times ?f__law_less ?f__law_over ?f__law_sum ?f__law_is_less ?f__law_is_exact ?f__law_are_refused ?f__law_is_share ?f__law_number ?f__law_wear ?f__law_is_leg ?f__law_is_seating ?f__law_is_plan ?f__law_way ?f__law_table ?f__law_worn ?f__law_serves ?f__law_do_bar ?f__law_bound ?f__law_is_served ?f__law_greatest ?f__law_are_like_right ?f__law_are_all_refused ?p__law_are_all_refused ?f__law_right ?f_law ?m_WearError ?m_BadFraction ?m_BadRow ?m_BadInt ?c_BadFraction ?c_BadRow ?c_BadInt ?pairs ?ini ?g_NOUGHT ?k_NOUGHT ?g_ONE ?k_ONE ?g_MOST_PLACES ?k_MOST_PLACES ?g_MOST_PARTS ?k_MOST_PARTS ?n_abs ?n_all ?n_any ?n_bool ?n_enumerate ?n_int ?n_isinstance ?n_len ?n_list ?n_max ?n_min ?n_range ?n_repr ?n_set ?n_str ?n_sum ?n_tuple ?n_zip
  (case f_is_int => ((refine' Exists.intro _ (Exists.intro _ (Pv.fnK_mk ?n ?l ?c ?k)); (case n => k_is); (case l => k_is); (case c => k_is); (case k => k_is))))
  (case f_shared => ((refine' Exists.intro _ (Exists.intro _ (Pv.fnK_mk ?n ?l ?c ?k)); (case n => k_is); (case l => k_is); (case c => k_is); (case k => k_is))))
  (case f_told_fraction => ((refine' Exists.intro _ (Exists.intro _ (Pv.fnK_mk ?n ?l ?c ?k)); (case n => k_is); (case l => k_is); (case c => k_is); (case k => k_is))))
  (case f_is_exact => ((refine' Exists.intro _ (Exists.intro _ (Pv.fnK_mk ?n ?l ?c ?k)); (case n => k_is); (case l => k_is); (case c => k_is); (case k => k_is))))
  (case f_is_fraction => ((refine' Exists.intro _ (Exists.intro _ (Pv.fnK_mk ?n ?l ?c ?k)); (case n => k_is); (case l => k_is); (case c => k_is); (case k => k_is))))
  (case f_is_price => ((refine' Exists.intro _ (Exists.intro _ (Pv.fnK_mk ?n ?l ?c ?k)); (case n => k_is); (case l => k_is); (case c => k_is); (case k => k_is))))
  (case f_look_at_above => ((refine' Exists.intro _ (Exists.intro _ (Pv.fnK_mk ?n ?l ?c ?k)); (case n => k_is); (case l => k_is); (case c => k_is); (case k => k_is))))
  (case f_opposite => ((refine' Exists.intro _ (Exists.intro _ (Pv.fnK_mk ?n ?l ?c ?k)); (case n => k_is); (case l => k_is); (case c => k_is); (case k => k_is))))
  (case f_minus => ((refine' Exists.intro _ (Exists.intro _ (Pv.fnK_mk ?n ?l ?c ?k)); (case n => k_is); (case l => k_is); (case c => k_is); (case k => k_is))))
  (case f_times => ((refine' Exists.intro _ (Exists.intro _ (Pv.fnK_mk ?n ?l ?c ?k)); (case n => k_is); (case l => k_is); (case c => k_is); (case k => k_is))))
  (case f_over => ((refine' Exists.intro _ (Exists.intro _ (Pv.fnK_mk ?n ?l ?c ?k)); (case n => k_is); (case l => k_is); (case c => k_is); (case k => k_is))))
  (case f_is_less => ((refine' Exists.intro _ (Exists.intro _ (Pv.fnK_mk ?n ?l ?c ?k)); (case n => k_is); (case l => k_is); (case c => k_is); (case k => k_is))))
  (case f_least_of => ((refine' Exists.intro _ (Exists.intro _ (Pv.fnK_mk ?n ?l ?c ?k)); (case n => k_is); (case l => k_is); (case c => k_is); (case k => k_is))))
  (case f_greatest_of => ((refine' Exists.intro _ (Exists.intro _ (Pv.fnK_mk ?n ?l ?c ?k)); (case n => k_is); (case l => k_is); (case c => k_is); (case k => k_is))))
  (case f_summed => ((refine' Exists.intro _ (Exists.intro _ (Pv.fnK_mk ?n ?l ?c ?k)); (case n => k_is); (case l => k_is); (case c => k_is); (case k => k_is))))
  (case f_look_at_wears => ((refine' Exists.intro _ (Exists.intro _ (Pv.fnK_mk ?n ?l ?c ?k)); (case n => k_is); (case l => k_is); (case c => k_is); (case k => k_is))))
  (case f_look_at_like => ((refine' Exists.intro _ (Exists.intro _ (Pv.fnK_mk ?n ?l ?c ?k)); (case n => k_is); (case l => k_is); (case c => k_is); (case k => k_is))))
  (case f_stock_of => ((refine' Exists.intro _ (Exists.intro _ (Pv.fnK_mk ?n ?l ?c ?k)); (case n => k_is); (case l => k_is); (case c => k_is); (case k => k_is))))
  (case f_told_round => ((refine' Exists.intro _ (Exists.intro _ (Pv.fnK_mk ?n ?l ?c ?k)); (case n => k_is); (case l => k_is); (case c => k_is); (case k => k_is))))
  (case f_round_way => ((refine' Exists.intro _ (Exists.intro _ (Pv.fnK_mk ?n ?l ?c ?k)); (case n => k_is); (case l => k_is); (case c => k_is); (case k => k_is))))
  (case f_round_plan => ((refine' Exists.intro _ (Exists.intro _ (Pv.fnK_mk ?n ?l ?c ?k)); (case n => k_is); (case l => k_is); (case c => k_is); (case k => k_is))))
  (case f_round_prices => ((refine' Exists.intro _ (Exists.intro _ (Pv.fnK_mk ?n ?l ?c ?k)); (case n => k_is); (case l => k_is); (case c => k_is); (case k => k_is))))
  (case f_look_at_few => ((refine' Exists.intro _ (Exists.intro _ (Pv.fnK_mk ?n ?l ?c ?k)); (case n => k_is); (case l => k_is); (case c => k_is); (case k => k_is))))
  (case f_unmoved_way => ((refine' Exists.intro _ (Exists.intro _ (Pv.fnK_mk ?n ?l ?c ?k)); (case n => k_is); (case l => k_is); (case c => k_is); (case k => k_is))))
  (case f_gain_of => ((refine' Exists.intro _ (Exists.intro _ (Pv.fnK_mk ?n ?l ?c ?k)); (case n => k_is); (case l => k_is); (case c => k_is); (case k => k_is))))
  (case f__law_pot => ((refine' Exists.intro _ (Exists.intro _ (Pv.fnK_mk ?n ?l ?c ?k)); (case n => k_is); (case l => k_is); (case c => k_is); (case k => k_is))))
  (case f__law_take => ((refine' Exists.intro _ (Exists.intro _ (Pv.fnK_mk ?n ?l ?c ?k)); (case n => k_is); (case l => k_is); (case c => k_is); (case k => k_is))))
  (case f__law_of => ((refine' Exists.intro _ (Exists.intro _ (Pv.fnK_mk ?n ?l ?c ?k)); (case n => k_is); (case l => k_is); (case c => k_is); (case k => k_is))))
  (case f__law_cells => ((refine' Exists.intro _ (Exists.intro _ (Pv.fnK_mk ?n ?l ?c ?k)); (case n => k_is); (case l => k_is); (case c => k_is); (case k => k_is))))
  (case f__law_heard => ((refine' Exists.intro _ (Exists.intro _ (Pv.fnK_mk ?n ?l ?c ?k)); (case n => k_is); (case l => k_is); (case c => k_is); (case k => k_is))))
  (case f__law_is_int => ((refine' Exists.intro _ (Exists.intro _ (Pv.fnK_mk ?n ?l ?c ?k)); (case n => k_is); (case l => k_is); (case c => k_is); (case k => k_is))))
  (case f__law_frac => ((refine' Exists.intro _ (Exists.intro _ (Pv.fnK_mk ?n ?l ?c ?k)); (case n => k_is); (case l => k_is); (case c => k_is); (case k => k_is))))
  (case f__law_plus => ((refine' Exists.intro _ (Exists.intro _ (Pv.fnK_mk ?n ?l ?c ?k)); (case n => k_is); (case l => k_is); (case c => k_is); (case k => k_is))))
  (case f__law_times => ((refine' Exists.intro _ (Exists.intro _ (Pv.fnK_mk ?n ?l ?c ?k)); (case n => k_is); (case l => k_is); (case c => k_is); (case k => k_is))))
  (case f__law_less => ((refine' Exists.intro _ (Exists.intro _ (Pv.fnK_mk ?n ?l ?c ?k)); (case n => k_is); (case l => k_is); (case c => k_is); (case k => k_is))))
  (case f__law_over => ((refine' Exists.intro _ (Exists.intro _ (Pv.fnK_mk ?n ?l ?c ?k)); (case n => k_is); (case l => k_is); (case c => k_is); (case k => k_is))))
  (case f__law_sum => ((refine' Exists.intro _ (Exists.intro _ (Pv.fnK_mk ?n ?l ?c ?k)); (case n => k_is); (case l => k_is); (case c => k_is); (case k => k_is))))
  (case f__law_is_less => ((refine' Exists.intro _ (Exists.intro _ (Pv.fnK_mk ?n ?l ?c ?k)); (case n => k_is); (case l => k_is); (case c => k_is); (case k => k_is))))
  (case f__law_is_exact => ((refine' Exists.intro _ (Exists.intro _ (Pv.fnK_mk ?n ?l ?c ?k)); (case n => k_is); (case l => k_is); (case c => k_is); (case k => k_is))))
  (case f__law_are_refused => ((refine' Exists.intro _ (Exists.intro _ (Pv.fnK_mk ?n ?l ?c ?k)); (case n => k_is); (case l => k_is); (case c => k_is); (case k => k_is))))
  (case f__law_is_share => ((refine' Exists.intro _ (Exists.intro _ (Pv.fnK_mk ?n ?l ?c ?k)); (case n => k_is); (case l => k_is); (case c => k_is); (case k => k_is))))
  (case f__law_number => ((refine' Exists.intro _ (Exists.intro _ (Pv.fnK_mk ?n ?l ?c ?k)); (case n => k_is); (case l => k_is); (case c => k_is); (case k => k_is))))
  (case f__law_wear => ((refine' Exists.intro _ (Exists.intro _ (Pv.fnK_mk ?n ?l ?c ?k)); (case n => k_is); (case l => k_is); (case c => k_is); (case k => k_is))))
  (case f__law_is_leg => ((refine' Exists.intro _ (Exists.intro _ (Pv.fnK_mk ?n ?l ?c ?k)); (case n => k_is); (case l => k_is); (case c => k_is); (case k => k_is))))
  (case f__law_is_seating => ((refine' Exists.intro _ (Exists.intro _ (Pv.fnK_mk ?n ?l ?c ?k)); (case n => k_is); (case l => k_is); (case c => k_is); (case k => k_is))))
  (case f__law_is_plan => ((refine' Exists.intro _ (Exists.intro _ (Pv.fnK_mk ?n ?l ?c ?k)); (case n => k_is); (case l => k_is); (case c => k_is); (case k => k_is))))
  (case f__law_way => ((refine' Exists.intro _ (Exists.intro _ (Pv.fnK_mk ?n ?l ?c ?k)); (case n => k_is); (case l => k_is); (case c => k_is); (case k => k_is))))
  (case f__law_table => ((refine' Exists.intro _ (Exists.intro _ (Pv.fnK_mk ?n ?l ?c ?k)); (case n => k_is); (case l => k_is); (case c => k_is); (case k => k_is))))
  (case f__law_worn => ((refine' Exists.intro _ (Exists.intro _ (Pv.fnK_mk ?n ?l ?c ?k)); (case n => k_is); (case l => k_is); (case c => k_is); (case k => k_is))))
  (case f__law_serves => ((refine' Exists.intro _ (Exists.intro _ (Pv.fnK_mk ?n ?l ?c ?k)); (case n => k_is); (case l => k_is); (case c => k_is); (case k => k_is))))
  (case f__law_do_bar => ((refine' Exists.intro _ (Exists.intro _ (Pv.fnK_mk ?n ?l ?c ?k)); (case n => k_is); (case l => k_is); (case c => k_is); (case k => k_is))))
  (case f__law_bound => ((refine' Exists.intro _ (Exists.intro _ (Pv.fnK_mk ?n ?l ?c ?k)); (case n => k_is); (case l => k_is); (case c => k_is); (case k => k_is))))
  (case f__law_is_served => ((refine' Exists.intro _ (Exists.intro _ (Pv.fnK_mk ?n ?l ?c ?k)); (case n => k_is); (case l => k_is); (case c => k_is); (case k => k_is))))
  (case f__law_greatest => ((refine' Exists.intro _ (Exists.intro _ (Pv.fnK_mk ?n ?l ?c ?k)); (case n => k_is); (case l => k_is); (case c => k_is); (case k => k_is))))
  (case f__law_are_like_right => ((refine' Exists.intro _ (Exists.intro _ (Pv.fnK_mk ?n ?l ?c ?k)); (case n => k_is); (case l => k_is); (case c => k_is); (case k => k_is))))
  (case f__law_are_all_refused => ((refine' Exists.intro _ (Exists.intro _ (Exists.intro _ (Pv.fnKC_mk ?n ?l ?c ?k ?lc ?l11 ?hd ?no))); (case n => k_is); (case l => k_is); (case c => k_is); (case k => k_is); (case lc => k_is); (case l11 => exact rfl); (case hd => kernel_rfl); (case no => kernel_rfl))))
  (case p__law_are_all_refused => decide)
  (case f__law_right => ((refine' Exists.intro _ (Exists.intro _ (Pv.fnK_mk ?n ?l ?c ?k)); (case n => k_is); (case l => k_is); (case c => k_is); (case k => k_is))))
  (case f_law => ((refine' Exists.intro _ (Exists.intro _ (Pv.fnK_mk ?n ?l ?c ?k)); (case n => k_is); (case l => k_is); (case c => k_is); (case k => k_is))))
  (case m_WearError => k_is)
  (case m_BadFraction => k_is)
  (case m_BadRow => k_is)
  (case m_BadInt => k_is)
  (case c_BadFraction => ((refine' Pv.clsK_mk ?lk ?bmr ?sa ?exC ?tyC ?kC ?sup ?ve ?sb ?no ?iC ?hg ?hk ?hd ?ha ?hn ?ht ?hm; (case lk => k_is); (case bmr => decide +kernel); (case sa => k_is); (case exC => k_is); (case tyC => k_is); (case kC => k_is); (case sup => ks_is); (case ve => k_is); (case sb => k_is); (case no => k_is); (case iC => k_is); (case hg => k_is); (case hk => k_is); (case hd => k_is); (case ha => k_is); (case hn => k_is); (case ht => k_is); (case hm => k_is))))
  (case c_BadRow => ((refine' Pv.clsK_mk ?lk ?bmr ?sa ?exC ?tyC ?kC ?sup ?ve ?sb ?no ?iC ?hg ?hk ?hd ?ha ?hn ?ht ?hm; (case lk => k_is); (case bmr => decide +kernel); (case sa => k_is); (case exC => k_is); (case tyC => k_is); (case kC => k_is); (case sup => ks_is); (case ve => k_is); (case sb => k_is); (case no => k_is); (case iC => k_is); (case hg => k_is); (case hk => k_is); (case hd => k_is); (case ha => k_is); (case hn => k_is); (case ht => k_is); (case hm => k_is))))
  (case c_BadInt => ((refine' Pv.clsK_mk ?lk ?bmr ?sa ?exC ?tyC ?kC ?sup ?ve ?sb ?no ?iC ?hg ?hk ?hd ?ha ?hn ?ht ?hm; (case lk => k_is); (case bmr => decide +kernel); (case sa => k_is); (case exC => k_is); (case tyC => k_is); (case kC => k_is); (case sup => ks_is); (case ve => k_is); (case sb => k_is); (case no => k_is); (case iC => k_is); (case hg => k_is); (case hk => k_is); (case hd => k_is); (case ha => k_is); (case hn => k_is); (case ht => k_is); (case hm => k_is))))
  (case pairs => kernel_rfl)
  (case ini => ((refine' Exists.intro _ (Pv.initK_mk (st := (Pv.clsStmt (K08.top 1) 0)) KX Gm ?lk ?hcd ?S ?hbody ?hks ?hp ?har ?hcode ?hvs ?hfile ?hcell ?hD ?hop ?hsup ?htop ?ty ?hev ?hb); (case lk => k_is); (case hcd => k_is); (case S => exact NdefX.nscope_by (by decide +kernel)); (case hbody => exact rfl); (case hks => exact rfl); (case hp => exact rfl); (case har => exact rfl); (case hcode => k_is); (case hvs => exact rfl); (case hfile => exact rfl); (case hcell => k_is); (case hD => k_is); (case hop => k_is); (case hsup => k_is); (case htop => exact rfl); (case ty => k_is); (case hev => exact fun _ => rfl); (case hb => exact fun us hl => match us, hl with | [_, _], _ => rfl))))
  (case g_NOUGHT => k_is)
  (case k_NOUGHT => kernel_rfl)
  (case g_ONE => k_is)
  (case k_ONE => kernel_rfl)
  (case g_MOST_PLACES => k_is)
  (case k_MOST_PLACES => kernel_rfl)
  (case g_MOST_PARTS => k_is)
  (case k_MOST_PARTS => kernel_rfl)
  (case n_abs => k_is)
  (case n_all => k_is)
  (case n_any => k_is)
  (case n_bool => k_is)
  (case n_enumerate => k_is)
  (case n_int => k_is)
  (case n_isinstance => k_is)
  (case n_len => k_is)
  (case n_list => k_is)
  (case n_max => k_is)
  (case n_min => k_is)
  (case n_range => k_is)
  (case n_repr => k_is)
  (case n_set => k_is)
  (case n_str => k_is)
  (case n_sum => k_is)
  (case n_tuple => k_is)
  (case n_zip => k_is)

