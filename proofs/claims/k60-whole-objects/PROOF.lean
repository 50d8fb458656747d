import PyProof.Rows.All
import Wide.All
import OpenK.AllK
import Wide.FinOn
import PyProof.EqAt
import PyProof.EqKinds
import PyProof.TupleCall
import Open.SpecLaws
import KE.OsGo
import PySem.Challenge.RW_openchange_k60_whole_objects
import HandS.ForMost
import HandS.Star
import HandS.ExcOwn
import HandS.CallSlots
import KE.KeyNested
import HandS.ExcInit
import HandS.ExcField
import HandS.TupAny
import HandS.TupMul
import HandS.Wide
import HandS.Text
import HandS.Gcd
import HandS.IsInst
import HandS.Deep
import HandS.Flow
import HandS.WordsDict
import HandS.RaiseMore
import HandS.Iter
import HandS.Comp
import HandS.Style
import HandS.Small
import HandS.WordsExc
import HandS.Codes
import HandS.TryOnly
import HandS.TryMany
import HandS.DictEq
import PyProof.NeKinds
import HandS.OwnEq
import KE.KDictDisplayH
import HandS.ListItems
import KE.KDictOf
import KE.KDictCopyH
import HandS.DictComp
import HandS.SortRule
set_option Elab.async false
set_option linter.all false
set_option maxRecDepth 100000
set_option maxHeartbeats 0
/-! VMa: a small machine for a part of Python, over plain data; how its data lie in the layer's abstract heap. -/
namespace VM
open PySem PySem.Spec PyProof.Rows L2
/-! ### data -/
abbrev Tx := List Nat
def toS (s : Tx) : Str := ⟨s.toArray⟩
theorem toS_inj {s t : Tx} (h : toS s = toS t) : s = t := by
  have h1 : s.toArray = t.toArray := by injection h
  simpa using h1
inductive Va where
  | non | bl (b : Bool) | int (i : Int) | str (s : Tx) | tup (xs : List Va) | ref (n : Nat) | cl (k : Nat) | ty (n : String) | xr (c n : Nat)
inductive VO where
  | lst (fz : Bool) (xs : List Va)
  | dct (lk : Bool) (kvs : List (Va × Va))
  | ins (c : Nat) (fs : List (Nat × Va))
  | deq (xs : List Va)
  /-- the attributes of an exception -/
  | exc (fs : List (Nat × Va))
  /-- a dict whose keys are tuples -/
  | dtu (lk : Bool) (kvs : List (Va × Va))
def VO.tr : VO → Bool
  | .lst true _ => false
  | .exc _ => false
  | _ => true
abbrev Gh := List VO
abbrev Lo := List (Option Va)
/-- what comes of a piece of code -/
inductive Res (α : Type) where
  | ok (a : α) (G : Gh)
  | ex (c : Nat) (fs : List (Nat × Va)) (G : Gh)
  | no
def Res.bind {α β : Type} (r : Res α) (f : α → Gh → Res β) : Res β :=
  match r with
  | .ok a G => f a G
  | .ex c fs G => .ex c fs G
  | .no => .no
@[simp] theorem Res.bind_ok {α β : Type} (a : α) (G : Gh) (f : α → Gh → Res β) : (Res.ok a G).bind f = f a G := rfl
@[simp] theorem Res.bind_ex {α β : Type} (c : Nat) (fs : List (Nat × Va)) (G : Gh) (f : α → Gh → Res β) : (Res.ex c fs G : Res α).bind f = .ex c fs G := rfl
@[simp] theorem Res.bind_no {α β : Type} (f : α → Gh → Res β) : (Res.no : Res α).bind f = .no := rfl
/-! ### what is fixed through a run -/
/-- a class: its attributes, methods, constants -/
structure Cd where
  flds : List Nat
  mth : Nat → Option Nat
  con : Nat → Option Va
  init : Option Nat
  bool : Option Nat
  eq : Option Nat
structure Sx where
  P : Program
  w : World
  K : PySem.W.Frag
  mg : Str → Option Value
  base : Heap
  ca : Nat → Addr
  fa : Nat → Addr
  nm : Nat → Str
  nn : Nat
  nc : Nat
  nf : Nat
  cd : Nat → Cd
  /-- whether a class is another one or below it -/
  sub : Nat → Nat → Bool
  isl : List (Nat × Nat)
  ibl : List (Nat × String)
  call : Nat → List Va → Gh → Res Va
  /-- names of the text's own: none of them is the module's -/
  bl : List Str
  /-- the module's constants, classes, defs -/
  gl : List (Str × Va)
  cg : List (Str × Nat)
  fg : List (Str × Nat)
  /-- the module's names for built-in functions, types -/
  bg : List (Str × String)
  tg : List (Str × String)
  /-- exception classes: names, the attributes that their __init__ gives, which is below which -/
  xc : List (Str × Nat)
  xf : Nat → List Nat
  xm : List (Nat × Nat)
  xsub : Nat → Nat → Bool
  /-- in an except suite: the caught exception, its class, the place of its attributes -/
  hot : Addr → Nat → Addr → Prop
  /-- in an except suite -/
  hq : Bool
mutual
def VR (S : Sx) (ρ : Nat → Addr) (n : Nat) (H : Hp) : Va → V → Prop
  | .non, v => v = .non
  | .bl b, v => v = .bl b
  | .int i, v => v = .int i
  | .str s, v => v = .str (toS s)
  | .tup xs, v => ∃ a ys, v = .ref a ∧ SqT S.K H a ys ∧ VRs S ρ n H xs ys
  | .ref m, v => m < n ∧ v = .ref (ρ m)
  | .cl k, v => v = .ref (S.ca k)
  | .ty t, v => v = .ty t
  | .xr c m, v => m < n ∧ ∃ a, v = .ref a ∧ S.hot a c (ρ m)
def VRs (S : Sx) (ρ : Nat → Addr) (n : Nat) (H : Hp) : List Va → List V → Prop
  | [], ys => ys = []
  | x :: xs, ys => ∃ y r, ys = y :: r ∧ VR S ρ n H x y ∧ VRs S ρ n H xs r
end
structure Ext (ρ : Nat → Addr) (n : Nat) (H : Hp) (ρ' : Nat → Addr) (n' : Nat) (H' : Hp) : Prop where
  le : n ≤ n'
  eq : ∀ i, i < n → ρ' i = ρ i
  tu : ∀ a xs, H a = some (.tup xs) → H' a = some (.tup xs)
  fz : ∀ a o u, H a = some (.frz o u) → H' a = some (.frz o u)
  xd : ∀ a gs, H a = some (.xd gs) → H' a = some (.xd gs)
theorem Ext.refl (ρ : Nat → Addr) (n : Nat) (H : Hp) : Ext ρ n H ρ n H := ⟨Nat.le_refl _, fun _ _ => rfl, fun _ _ h => h, fun _ _ _ h => h, fun _ _ h => h⟩
theorem Ext.trans {ρ ρ1 ρ2 : Nat → Addr} {n n1 n2 : Nat} {H H1 H2 : Hp} (a : Ext ρ n H ρ1 n1 H1) (b : Ext ρ1 n1 H1 ρ2 n2 H2) : Ext ρ n H ρ2 n2 H2 :=
  ⟨Nat.le_trans a.le b.le, fun i h => (b.eq i (Nat.lt_of_lt_of_le h a.le)).trans (a.eq i h), fun c xs h => b.tu c xs (a.tu c xs h), fun c o u h => b.fz c o u (a.fz c o u h), fun c gs h => b.xd c gs (a.xd c gs h)⟩
section
variable {S : Sx} {ρ ρ' : Nat → Addr} {n n' : Nat} {H H' : Hp}
theorem sqt_mono (e : Ext ρ n H ρ' n' H') {a : Addr} {xs : List V} (h : SqT S.K H a xs) : SqT S.K H' a xs := by
  rcases h with (h | ⟨o, h⟩) | h
  · exact .inl (.inl (e.tu _ _ h))
  · exact .inl (.inr ⟨o, e.fz _ _ _ h⟩)
  · exact .inr h
mutual
theorem VR.mono (e : Ext ρ n H ρ' n' H') : ∀ {x : Va} {v : V}, VR S ρ n H x v → VR S ρ' n' H' x v
  | .non, _, h => by simpa [VR] using h
  | .bl _, _, h => by simpa [VR] using h
  | .int _, _, h => by simpa [VR] using h
  | .str _, _, h => by simpa [VR] using h
  | .tup xs, _, h => by
    unfold VR at h ⊢
    obtain ⟨a, ys, h1, h2, h3⟩ := h
    exact ⟨a, ys, h1, sqt_mono e h2, VRs.mono e h3⟩
  | .ref m, _, h => by
    unfold VR at h ⊢
    obtain ⟨h1, h2⟩ := h
    exact ⟨Nat.lt_of_lt_of_le h1 e.le, by rw [h2, e.eq m h1]⟩
  | .cl _, _, h => by simpa [VR] using h
  | .ty _, _, h => by simpa [VR] using h
  | .xr c m, _, h => by
    unfold VR at h ⊢
    obtain ⟨h1, a, h2, h3⟩ := h
    exact ⟨Nat.lt_of_lt_of_le h1 e.le, a, h2, by rw [e.eq m h1]; exact h3⟩
theorem VRs.mono (e : Ext ρ n H ρ' n' H') : ∀ {x : List Va} {v : List V}, VRs S ρ n H x v → VRs S ρ' n' H' x v
  | [], _, h => by simpa [VRs] using h
  | x :: xs, _, h => by
    unfold VRs at h ⊢
    obtain ⟨y, r, h1, h2, h3⟩ := h
    exact ⟨y, r, h1, VR.mono e h2, VRs.mono e h3⟩
end
theorem VRs.nil_iff {ys : List V} : VRs S ρ n H [] ys ↔ ys = [] := by unfold VRs; exact Iff.rfl
theorem VRs.cons {x : Va} {xs : List Va} {y : V} {ys : List V} (h : VR S ρ n H x y) (t : VRs S ρ n H xs ys) : VRs S ρ n H (x :: xs) (y :: ys) := by
  unfold VRs
  exact ⟨y, ys, rfl, h, t⟩
theorem VRs.nil : VRs S ρ n H [] [] := by unfold VRs; rfl
theorem VRs.length : ∀ {xs : List Va} {ys : List V}, VRs S ρ n H xs ys → ys.length = xs.length
  | [], _, h => by unfold VRs at h; subst h; rfl
  | _ :: xs, _, h => by
    unfold VRs at h
    obtain ⟨y, r, rfl, _, h3⟩ := h
    simp [VRs.length h3]
theorem VRs.get : ∀ {xs : List Va} {ys : List V} {i : Nat} {x : Va}, VRs S ρ n H xs ys → xs[i]? = some x → ∃ y, ys[i]? = some y ∧ VR S ρ n H x y
  | [], _, _, _, _, h => by simp at h
  | x0 :: xs, _, i, x, h, e => by
    unfold VRs at h
    obtain ⟨y, r, rfl, h2, h3⟩ := h
    cases i with
    | zero => simp at e; subst e; exact ⟨y, rfl, h2⟩
    | succ i =>
      obtain ⟨z, h4, h5⟩ := VRs.get (i := i) (x := x) h3 (by simpa using e)
      exact ⟨z, by simpa using h4, h5⟩
theorem VRs.append : ∀ {xs xs' : List Va} {ys ys' : List V}, VRs S ρ n H xs ys → VRs S ρ n H xs' ys' → VRs S ρ n H (xs ++ xs') (ys ++ ys')
  | [], _, _, _, h, h' => by unfold VRs at h; subst h; exact h'
  | x :: xs, _, _, _, h, h' => by
    unfold VRs at h
    obtain ⟨y, r, rfl, h2, h3⟩ := h
    exact VRs.cons h2 (VRs.append h3 h')
theorem VRs.set : ∀ {xs : List Va} {ys : List V} {i : Nat} {x : Va} {y : V}, VRs S ρ n H xs ys → VR S ρ n H x y → VRs S ρ n H (xs.set i x) (ys.set i y)
  | [], _, _, _, _, h, _ => by unfold VRs at h; subst h; exact VRs.nil
  | x0 :: xs, _, i, x, y, h, h' => by
    unfold VRs at h
    obtain ⟨z, r, rfl, h2, h3⟩ := h
    cases i with
    | zero => exact VRs.cons h' h3
    | succ i => exact VRs.cons h2 (VRs.set h3 h')
theorem VRs.take (k : Nat) : ∀ {xs : List Va} {ys : List V}, VRs S ρ n H xs ys → VRs S ρ n H (xs.take k) (ys.take k) := by
  induction k with
  | zero => intro xs ys _; simpa using VRs.nil
  | succ k ih =>
    intro xs ys h
    cases xs with
    | nil => unfold VRs at h; subst h; exact VRs.nil
    | cons x xs =>
      unfold VRs at h
      obtain ⟨y, r, rfl, h2, h3⟩ := h
      exact VRs.cons h2 (ih h3)
theorem VRs.drop (k : Nat) : ∀ {xs : List Va} {ys : List V}, VRs S ρ n H xs ys → VRs S ρ n H (xs.drop k) (ys.drop k) := by
  induction k with
  | zero => intro xs ys h; exact h
  | succ k ih =>
    intro xs ys h
    cases xs with
    | nil => unfold VRs at h; subst h; exact VRs.nil
    | cons x xs =>
      unfold VRs at h
      obtain ⟨y, r, rfl, h2, h3⟩ := h
      exact ih h3
end
/-! ### objects -/
/-- a written list of the text, as it stands -/
def Kl (K : PySem.W.Frag) (a : Addr) (xs : List V) : Prop :=
  ∃ (o : Obj) (its : Array Value) (n : Nat), K.lookup a = some o ∧ o.cls = .type "list" ∧ o.dict = none ∧ o.data = .seq its n ∧ its.size ≤ sizeLine ∧ Vals xs its.toList
/-- attributes by their numbers -/
def FR (S : Sx) (ρ : Nat → Addr) (n : Nat) (H : Hp) : List (Nat × Va) → List (Str × V) → Prop
  | [], gs => gs = []
  | (f, x) :: fs, gs => ∃ y r, gs = (S.nm f, y) :: r ∧ f < S.nn ∧ VR S ρ n H x y ∧ FR S ρ n H fs r
/-- keys that are ints or texts -/
def keyS : Va → Option Key
  | .int i => some (.inl i)
  | .str s => some (.inr (toS s))
  | _ => none
def DRk (S : Sx) (ρ : Nat → Addr) (n : Nat) (H : Hp) : List (Va × Va) → List (Key × V) → Prop
  | [], gs => gs = []
  | (k, x) :: fs, gs => ∃ k' y r, gs = (k', y) :: r ∧ keyS k = some k' ∧ VR S ρ n H x y ∧ DRk S ρ n H fs r
/-- a dict whose keys are tuples, as it stands -/
def dN (w : World) (a : Addr) (xs : List (NestedKey × Addr × Value)) : HO := .ext fun h => ∃ o es ep, h.get? a = some o ∧ o.ExactDict ∧ o.data = .dict es ep ∧ xs.length ≤ sizeLine ∧ (a == sysModules) = false ∧ es.toList = xs.map (fun x => (⟨x.1.hash w, .ref x.2.1, x.2.2⟩ : DictEntry)) ∧ (xs.map (·.1)).Nodup
mutual
/-- keys as data -/
def nkV : Va → Option NestedKey
  | .non => some .none
  | .int i => some (.num i)
  | .str s => some (.text (toS s))
  | .tup xs => (nkVs xs).map NestedKey.tup
  | _ => none
def nkVs : List Va → Option (List NestedKey)
  | [] => some []
  | x :: xs => (nkV x).bind fun k => (nkVs xs).map fun ks => k :: ks
end
def DRt (S : Sx) (ρ : Nat → Addr) (n : Nat) (H : Hp) : List (Va × Va) → List (NestedKey × Addr × Value) → Prop
  | [], xs => xs = []
  | (k, x) :: kvs, xs => ∃ k' b u y r, xs = (k', b, u) :: r ∧ nkV k = some k' ∧ k'.depth ≤ 8 ∧ VR S ρ n H k (.ref b) ∧ VR S ρ n H x y ∧ RelV y u ∧ DRt S ρ n H kvs r
def OR (S : Sx) (ρ : Nat → Addr) (n : Nat) (H : Hp) : VO → Addr → Prop
  | .lst false xs, a => ∃ ys, H a = some (.lst ys) ∧ VRs S ρ n H xs ys
  | .lst true xs, a => ∃ ys, ((∃ o, H a = some (.frz o (.lst ys))) ∨ Kl S.K a ys) ∧ VRs S ρ n H xs ys
  | .dct false kvs, a => ∃ ks, H a = some (.dK ks) ∧ DRk S ρ n H kvs ks
  | .dct true kvs, a => ∃ o ks, H a = some (.frz o (.dK ks)) ∧ DRk S ρ n H kvs ks
  | .ins c fs, a => ∃ dx gs, H a = some (.ins (S.ca c) dx gs) ∧ FR S ρ n H fs gs ∧ fs.length ≤ 900 ∧ c < S.nc ∧ ∀ p ∈ fs, p.1 ∈ (S.cd c).flds
  | .deq _, _ => False
  | .exc fs, a => ∃ gs, H a = some (.xd gs) ∧ FR S ρ n H fs gs
  | .dtu false kvs, a => ∃ xs, H a = some (dN S.w a xs) ∧ DRt S ρ n H kvs xs
  | .dtu true kvs, a => ∃ o xs, H a = some (.frz o (dN S.w a xs)) ∧ DRt S ρ n H kvs xs
structure Rl (S : Sx) (ρ : Nat → Addr) (G : Gh) (H : Hp) : Prop where
  ob : ∀ (m : Nat) (o : VO), G[m]? = some o → OR S ρ G.length H o (ρ m)
  inj : ∀ (i j : Nat) (oi oj : VO), G[i]? = some oi → G[j]? = some oj → oi.tr = true → oj.tr = true → ρ i = ρ j → i = j
section
variable {S : Sx} {ρ ρ' : Nat → Addr} {n n' : Nat} {H H' : Hp} {G : Gh}
theorem FR.mono (e : Ext ρ n H ρ' n' H') : ∀ {fs : List (Nat × Va)} {gs : List (Str × V)}, FR S ρ n H fs gs → FR S ρ' n' H' fs gs
  | [], _, h => h
  | (f, x) :: fs, _, h => by
    obtain ⟨y, r, h1, h0, h2, h3⟩ := h
    exact ⟨y, r, h1, h0, h2.mono e, FR.mono e h3⟩
theorem DRk.mono (e : Ext ρ n H ρ' n' H') : ∀ {fs : List (Va × Va)} {gs : List (Key × V)}, DRk S ρ n H fs gs → DRk S ρ' n' H' fs gs
  | [], _, h => h
  | (f, x) :: fs, _, h => by
    obtain ⟨k', y, r, h1, h0, h2, h3⟩ := h
    exact ⟨k', y, r, h1, h0, h2.mono e, DRk.mono e h3⟩
theorem DRt.mono (e : Ext ρ n H ρ' n' H') : ∀ {fs : List (Va × Va)} {gs : List (NestedKey × Addr × Value)}, DRt S ρ n H fs gs → DRt S ρ' n' H' fs gs
  | [], _, h => h
  | (f, x) :: fs, _, h => by
    obtain ⟨k', b, u, y, r, h1, h2, h3, h4, h5, h6, h7⟩ := h
    exact ⟨k', b, u, y, r, h1, h2, h3, h4.mono e, h5.mono e, h6, DRt.mono e h7⟩
/-- an object's description where its own place is as it was -/
theorem OR.mono (e : Ext ρ n H ρ' n' H') {a : Addr} (ha : ∀ o, H a = some o → H' a = some o) : ∀ {o : VO}, OR S ρ n H o a → OR S ρ' n' H' o a
  | .lst false xs, ⟨ys, h1, h2⟩ => ⟨ys, ha _ h1, h2.mono e⟩
  | .lst true xs, ⟨ys, h1, h2⟩ => ⟨ys, h1.elim (fun ⟨o, q⟩ => .inl ⟨o, e.fz _ _ _ q⟩) .inr, h2.mono e⟩
  | .dct false kvs, ⟨ks, h1, h2⟩ => ⟨ks, ha _ h1, h2.mono e⟩
  | .dct true kvs, ⟨o, ks, h1, h2⟩ => ⟨o, ks, ha _ h1, h2.mono e⟩
  | .ins c fs, ⟨dx, gs, h1, h2, h3, h5, h4⟩ => ⟨dx, gs, ha _ h1, h2.mono e, h3, h5, h4⟩
  | .exc fs, ⟨gs, h1, h2⟩ => ⟨gs, ha _ h1, h2.mono e⟩
  | .dtu false kvs, ⟨ks, h1, h2⟩ => ⟨ks, ha _ h1, h2.mono e⟩
  | .dtu true kvs, ⟨o, ks, h1, h2⟩ => ⟨o, ks, ha _ h1, h2.mono e⟩
/-- what is tracked stands -/
theorem OR.there : ∀ {o : VO} {a : Addr}, OR S ρ n H o a → o.tr = true → ∃ u, H a = some u
  | .lst false xs, _, ⟨ys, h1, _⟩, _ => ⟨_, h1⟩
  | .lst true xs, _, _, h => by simp [VO.tr] at h
  | .dct false kvs, _, ⟨ks, h1, _⟩, _ => ⟨_, h1⟩
  | .dct true kvs, _, ⟨_, ks, h1, _⟩, _ => ⟨_, h1⟩
  | .ins c fs, _, ⟨dx, gs, h1, _⟩, _ => ⟨_, h1⟩
  | .exc fs, _, ⟨gs, h1, _⟩, _ => ⟨_, h1⟩
  | .dtu false kvs, _, ⟨ks, h1, _⟩, _ => ⟨_, h1⟩
  | .dtu true kvs, _, ⟨_, ks, h1, _⟩, _ => ⟨_, h1⟩
/-- where the place stays as it was -/
theorem OR.same (e : Ext ρ n H ρ' n' H') {a : Addr} {o : VO} (h : OR S ρ n H o a) (ha : o.tr = true → H' a = H a) : OR S ρ' n' H' o a := by
  cases ho : o.tr with
  | true => exact h.mono e fun u q => (ha ho).trans q
  | false =>
    cases o with
    | lst fz xs =>
      cases fz with
      | true =>
        obtain ⟨ys, h1, h2⟩ := h
        exact ⟨ys, h1.elim (fun ⟨o, q⟩ => .inl ⟨o, e.fz _ _ _ q⟩) .inr, h2.mono e⟩
      | false => simp [VO.tr] at ho
    | dct lk kvs => simp [VO.tr] at ho
    | ins c fs => simp [VO.tr] at ho
    | deq xs => simp [VO.tr] at ho
    | exc fs =>
      obtain ⟨gs, h1, h2⟩ := h
      exact ⟨gs, e.xd _ _ h1, h2.mono e⟩
    | dtu lk kvs => simp [VO.tr] at ho
/-- the map with one place more -/
def put (ρ : Nat → Addr) (n : Nat) (p : Addr) : Nat → Addr := fun i => if i = n then p else ρ i
theorem put_same {p : Addr} : put ρ n p n = p := if_pos rfl
theorem put_old {p : Addr} {i : Nat} (h : i < n) : put ρ n p i = ρ i := if_neg (Nat.ne_of_lt h)
/-- a new thing that is no object of ours is laid at p -/
theorem Ext.new {p : Addr} {o : HO} (hp : H p = none) : Ext ρ n H ρ n (upd H p o) :=
  ⟨Nat.le_refl _, fun _ _ => rfl, fun a xs h => by rw [upd_ne (ne_of_none h hp)]; exact h, fun a o u h => by rw [upd_ne (ne_of_none h hp)]; exact h, fun a gs h => by rw [upd_ne (ne_of_none h hp)]; exact h⟩
theorem Ext.newO {p : Addr} {o : HO} (hp : H p = none) : Ext ρ n H (put ρ n p) (n + 1) (upd H p o) :=
  ⟨Nat.le_succ _, fun i h => put_old h, fun a xs h => by rw [upd_ne (ne_of_none h hp)]; exact h, fun a o u h => by rw [upd_ne (ne_of_none h hp)]; exact h, fun a gs h => by rw [upd_ne (ne_of_none h hp)]; exact h⟩
/-- all that is tracked stays -/
theorem Rl.keep (R : Rl S ρ G H) (h : ∀ a u, H a = some u → H' a = some u) : Rl S ρ G H' :=
  ⟨fun m o q => (R.ob m o q).mono ⟨Nat.le_refl _, fun _ _ => rfl, fun a xs => h a _, fun a o u => h a _, fun a gs => h a _⟩ fun u => h _ u, R.inj⟩
theorem Rl.new {p : Addr} {o : HO} (R : Rl S ρ G H) (hp : H p = none) : Rl S ρ G (upd H p o) := R.keep fun a u h => by rw [upd_ne (ne_of_none h hp)]; exact h
theorem getElem?_snoc {α : Type} {l : List α} {x y : α} {i : Nat} (h : (l ++ [x])[i]? = some y) : (i < l.length ∧ l[i]? = some y) ∨ (i = l.length ∧ y = x) := by
  by_cases hi : i < l.length
  · rw [List.getElem?_append_left hi] at h
    exact .inl ⟨hi, h⟩
  · rw [List.getElem?_append_right (by omega)] at h
    have : i - l.length = 0 := by
      cases e : i - l.length with
      | zero => rfl
      | succ k => rw [e] at h; simp at h
    rw [this] at h
    simp at h
    exact .inr ⟨by omega, h.symm⟩
/-- a new object of ours at p -/
theorem Rl.push {p : Addr} {o : VO} (R : Rl S ρ G H) (e : Ext ρ G.length H (put ρ G.length p) (G.length + 1) H') (keep : ∀ a u, H a = some u → H' a = some u) (hp : H p = none) (new : OR S (put ρ G.length p) (G.length + 1) H' o p) :
    Rl S (put ρ G.length p) (G ++ [o]) H' := by
  have el : (G ++ [o]).length = G.length + 1 := by simp
  refine ⟨fun m u h => ?_, fun i j oi oj hi hj ti tj q => ?_⟩
  · rw [el]
    rcases getElem?_snoc h with ⟨h1, h2⟩ | ⟨h1, h2⟩
    · rw [put_old h1]
      exact (R.ob m u h2).mono e fun u => keep _ u
    · subst h1; subst h2; rw [put_same]; exact new
  · rcases getElem?_snoc hi with ⟨h1, h2⟩ | ⟨h1, h2⟩
    · rcases getElem?_snoc hj with ⟨h3, h4⟩ | ⟨h3, h4⟩
      · rw [put_old h1, put_old h3] at q
        exact R.inj i j oi oj h2 h4 ti tj q
      · exfalso
        rw [put_old h1, h3, put_same] at q
        obtain ⟨u, hu⟩ := (R.ob i oi h2).there ti
        rw [q, hp] at hu; cases hu
    · rcases getElem?_snoc hj with ⟨h3, h4⟩ | ⟨h3, h4⟩
      · exfalso
        rw [h1, put_same, put_old h3] at q
        obtain ⟨u, hu⟩ := (R.ob j oj h4).there tj
        rw [← q, hp] at hu; cases hu
      · omega
/-- an object of ours is changed -/
theorem Rl.write {m : Nat} {o o' : VO} {u : HO} (R : Rl S ρ G H) (hm : G[m]? = some o) (ho : o.tr = true) (ho' : o'.tr = true) (nt : ∀ xs, H (ρ m) ≠ some (.tup xs)) (nf : ∀ b v, H (ρ m) ≠ some (.frz b v)) (nx : ∀ gs, H (ρ m) ≠ some (.xd gs)) (new : ∀ ρ', ρ' = ρ → Ext ρ G.length H ρ' G.length (upd H (ρ m) u) → OR S ρ' G.length (upd H (ρ m) u) o' (ρ m)) :
    Rl S ρ (G.set m o') (upd H (ρ m) u) ∧ Ext ρ G.length H ρ (G.set m o').length (upd H (ρ m) u) := by
  have e : Ext ρ G.length H ρ G.length (upd H (ρ m) u) := ⟨Nat.le_refl _, fun _ _ => rfl, fun a xs h => by
      rw [upd_ne (fun z => by rw [z] at h; exact nt _ h)]; exact h, fun a b v h => by
      rw [upd_ne (fun z => by rw [z] at h; exact nf _ _ h)]; exact h, fun a gs h => by
      rw [upd_ne (fun z => by rw [z] at h; exact nx _ h)]; exact h⟩
  have el : (G.set m o').length = G.length := List.length_set ..
  have hl : m < G.length := (List.getElem?_eq_some_iff.mp hm).1
  refine ⟨⟨fun i v h => ?_, fun i j oi oj hi hj ti tj q => ?_⟩, by rw [el]; exact e⟩
  · rw [el]
    by_cases hi : i = m
    · subst hi
      rw [List.getElem?_set_self hl] at h
      cases h
      exact new ρ rfl e
    · rw [List.getElem?_set_ne (Ne.symm hi)] at h
      exact (R.ob i v h).same e fun tv => upd_ne fun z => hi (R.inj i m v o h hm tv ho z)
  · have g : ∀ {k : Nat} {v : VO}, (G.set m o')[k]? = some v → v.tr = true → ∃ v', G[k]? = some v' ∧ v'.tr = true := fun {k v} h t => by
      by_cases hk : k = m
      · subst hk; exact ⟨o, hm, ho⟩
      · rw [List.getElem?_set_ne (Ne.symm hk)] at h; exact ⟨v, h, t⟩
    obtain ⟨vi, a1, a2⟩ := g hi ti
    obtain ⟨vj, b1, b2⟩ := g hj tj
    exact R.inj i j vi vj a1 b1 a2 b2 q
end
end VM
namespace VM
open PySem PySem.Spec PyProof.Rows L2
/-! ### wishes -/
def LR (S : Sx) (ρ : Nat → Addr) (n : Nat) (H : Hp) (L : Lo) (σ : L2.St) : Prop := ∀ (i : Nat) (x : Va), L[i]? = some (some x) → ∃ v, σ[i]? = some (some v) ∧ VR S ρ n H x v
theorem LR.mono {S : Sx} {ρ ρ' : Nat → Addr} {n n' : Nat} {H H' : Hp} {L : Lo} {σ : L2.St} (e : Ext ρ n H ρ' n' H') (h : LR S ρ n H L σ) : LR S ρ' n' H' L σ := fun i x q => by
  obtain ⟨v, h1, h2⟩ := h i x q
  exact ⟨v, h1, h2.mono e⟩
abbrev RelT (α β : Type) := (Nat → Addr) → Nat → Hp → α → β → Prop
def Post {α β : Type} (S : Sx) (rel : RelT α β) (E : XK) (ρ : Nat → Addr) (n : Nat) (H : Hp) (Q : β → Hp → Prop) (r : Res α) : Prop :=
  match r with
  | .ok v G' => ∀ ρ' H' v', Ext ρ n H ρ' G'.length H' → Rl S ρ' G' H' → rel ρ' G'.length H' v v' → Q v' H'
  | .ex c fs G' => ∀ ρ' H' d fs', Ext ρ n H ρ' G'.length H' → Rl S ρ' G' H' → FR S ρ' G'.length H' fs fs' → H' d = some (.xd fs') → E (.ref (S.ca c)) (some d) H'
  | .no => False
section
variable {α β γ δ : Type} {S : Sx} {ra : RelT α β} {rb : RelT γ δ} {E : XK} {ρ ρ' : Nat → Addr} {n n' : Nat} {H H' : Hp} {Q : δ → Hp → Prop} {Q1 : β → Hp → Prop}
theorem Post.after {r : Res γ} (p : Post S rb E ρ n H Q r) (e : Ext ρ n H ρ' n' H') : Post S rb E ρ' n' H' Q r := by
  cases r with
  | ok v G => exact fun ρ2 H2 v2 e2 => p ρ2 H2 v2 (e.trans e2)
  | ex c fs G => exact fun ρ2 H2 d fs' e2 => p ρ2 H2 d fs' (e.trans e2)
  | no => exact p
theorem Post.bind {r : Res α} {f : α → Gh → Res γ} (p : Post S rb E ρ n H Q (r.bind f))
    (k : ∀ (a : α) (G' : Gh) (ρ' : Nat → Addr) (H' : Hp) (x : β), Ext ρ n H ρ' G'.length H' → Rl S ρ' G' H' → ra ρ' G'.length H' a x → Post S rb E ρ' G'.length H' Q (f a G') → Q1 x H') : Post S ra E ρ n H Q1 r := by
  cases r with
  | ok v G => exact fun ρ2 H2 v2 e2 R2 r2 => k v G ρ2 H2 v2 e2 R2 r2 (Post.after (r := f v G) p e2)
  | ex c fs G => exact p
  | no => exact p
theorem Post.bindE {r : Res α} {f : α → Gh → Res γ} (p : Post S rb E ρ n H Q (r.bind f))
    (k : ∀ (a : α) (G' : Gh) (ρ' : Nat → Addr) (H' : Hp) (x : β), r = .ok a G' → Ext ρ n H ρ' G'.length H' → Rl S ρ' G' H' → ra ρ' G'.length H' a x → Post S rb E ρ' G'.length H' Q (f a G') → Q1 x H') : Post S ra E ρ n H Q1 r := by
  cases r with
  | ok v G => exact fun ρ2 H2 v2 e2 R2 r2 => k v G ρ2 H2 v2 rfl e2 R2 r2 (Post.after (r := f v G) p e2)
  | ex c fs G => exact p
  | no => exact p
theorem Post.mono {Q' : δ → Hp → Prop} {r : Res γ} (p : Post S rb E ρ n H Q r) (h : ∀ v H, Q v H → Q' v H) : Post S rb E ρ n H Q' r := by
  cases r with
  | ok v G => exact fun ρ2 H2 v2 e2 R2 r2 => h _ _ (p ρ2 H2 v2 e2 R2 r2)
  | ex c fs G => exact p
  | no => exact p
end
abbrev EW := L2.St → XK
abbrev relB : RelT Bool Bool := fun _ _ _ a b => a = b
def WG {α β : Type} (S : Sx) (rel : RelT α β) (E : EW) (ev : Lo → Gh → Res α) : L2.St → Hp → (β → Hp → Prop) → Prop := fun σ H Q => ∃ ρ L G, Rl S ρ G H ∧ LR S ρ G.length H L σ ∧ Post S rel (E σ) ρ G.length H Q (ev L G)
abbrev WE (S : Sx) (E : EW) (ev : Lo → Gh → Res Va) : TE := WG S (VR S) E ev
abbrev WT (S : Sx) (E : EW) (ev : Lo → Gh → Res Bool) : TT := WG S relB E ev
abbrev WA (S : Sx) (E : EW) (ev : Lo → Gh → Res (List Va)) : TA := WG S (VRs S) E ev
def lift {α : Type} : Option (α × Gh) → Res α
  | some (a, G) => .ok a G
  | none => .no
theorem bind_inv {α β : Type} {r : Res α} {f : α → Gh → Res β} {v : β} {G : Gh} (h : r.bind f = .ok v G) : ∃ a G1, r = .ok a G1 ∧ f a G1 = .ok v G := by
  cases r with
  | ok a G1 => exact ⟨a, G1, rfl, h⟩
  | ex c fs G1 => cases h
  | no => cases h
theorem lift_inv {α : Type} {o : Option (α × Gh)} {v : α} {G : Gh} (h : lift o = .ok v G) : o = some (v, G) := by
  cases o with
  | none => cases h
  | some p => cases h; rfl
def noex {α : Type} : Res α → Res α
  | .ex _ _ _ => .no
  | r => r
/-- operations on values that raise nothing -/
abbrev Op1 := Va → Gh → Option (Va × Gh)
abbrev Op2 := Va → Va → Gh → Option (Va × Gh)
abbrev OpN := List Va → Gh → Option (Va × Gh)
def Fin1 (S : Sx) (ρ : Nat → Addr) (n : Nat) (H : Hp) (Q : VK) (r : Option (Va × Gh)) : Prop := ∃ v G', r = some (v, G') ∧ ∀ ρ' H' v', Ext ρ n H ρ' G'.length H' → Rl S ρ' G' H' → VR S ρ' G'.length H' v v' → Q v' H'
def rO1 (S : Sx) (op : Op1) : V → Hp → VK → Prop := fun x H Q => ∃ ρ G a, Rl S ρ G H ∧ VR S ρ G.length H a x ∧ Fin1 S ρ G.length H Q (op a G)
def rO2 (S : Sx) (op : Op2) : R2 := fun x y H Q => ∃ ρ G a b, Rl S ρ G H ∧ VR S ρ G.length H a x ∧ VR S ρ G.length H b y ∧ Fin1 S ρ G.length H Q (op a b G)
def rON (S : Sx) (op : OpN) : List V → Hp → VK → Prop := fun xs H Q => ∃ ρ G as, Rl S ρ G H ∧ VRs S ρ G.length H as xs ∧ Fin1 S ρ G.length H Q (op as G)
theorem fin_of_lift {S : Sx} {E : XK} {ρ : Nat → Addr} {n : Nat} {H : Hp} {Q : VK} {r : Option (Va × Gh)} (p : Post S (VR S) E ρ n H Q (lift r)) : Fin1 S ρ n H Q r := by
  cases r with
  | none => exact p.elim
  | some x => exact ⟨x.1, x.2, rfl, p⟩
/-- the result stands already -/
theorem Fin1.old {S : Sx} {ρ : Nat → Addr} {G : Gh} {H : Hp} {Q : VK} {v : Va} {v' : V} (h : Fin1 S ρ G.length H Q (some (v, G))) (R : Rl S ρ G H) (r : VR S ρ G.length H v v') : Q v' H := by
  obtain ⟨a, b, e, k⟩ := h
  cases e
  exact k ρ H v' (Ext.refl _ _ _) R r
theorem Fin1.ex1 {S : Sx} {ρ : Nat → Addr} {n : Nat} {H : Hp} {Q : VK} {r : Option (Va × Gh)} (h : Fin1 S ρ n H Q r) : ∃ v G', r = some (v, G') := let ⟨v, G', e, _⟩ := h; ⟨v, G', e⟩
/-- a value without parts at hand, on the heap as it is, or with things that are not ours -/
theorem Fin1.now {S : Sx} {ρ : Nat → Addr} {G : Gh} {H H' : Hp} {Q : VK} {v : Va} {v' : V} (h : Fin1 S ρ G.length H Q (some (v, G))) (e : Ext ρ G.length H ρ G.length H') (R : Rl S ρ G H') (r : VR S ρ G.length H' v v') : Q v' H' := by
  obtain ⟨a, b, q, k⟩ := h
  cases q
  exact k ρ H' v' e R r
/-- a new tuple -/
theorem Fin1.tup {S : Sx} {ρ : Nat → Addr} {G : Gh} {H : Hp} {Q : VK} {xs : List Va} {ys : List V} (h : Fin1 S ρ G.length H Q (some (.tup xs, G))) (R : Rl S ρ G H) (r : VRs S ρ G.length H xs ys) {p : Addr} (hp : H p = none) : Q (.ref p) (upd H p (.tup ys)) := by
  have e : Ext ρ G.length H ρ G.length (upd H p (.tup ys)) := Ext.new hp
  refine h.now e (R.new hp) ?_
  unfold VR
  exact ⟨p, ys, rfl, SqT.of upd_same, r.mono e⟩
/-- a new list -/
theorem rl_lst {S : Sx} {ρ : Nat → Addr} {G : Gh} {H : Hp} {xs : List Va} {ys : List V} (R : Rl S ρ G H) (r : VRs S ρ G.length H xs ys) {p : Addr} (hp : H p = none) :
    Rl S (put ρ G.length p) (G ++ [.lst false xs]) (upd H p (.lst ys)) ∧ Ext ρ G.length H (put ρ G.length p) (G ++ [VO.lst false xs]).length (upd H p (.lst ys)) ∧ VR S (put ρ G.length p) (G ++ [VO.lst false xs]).length (upd H p (.lst ys)) (.ref G.length) (.ref p) := by
  have e : Ext ρ G.length H (put ρ G.length p) (G.length + 1) (upd H p (.lst ys)) := Ext.newO hp
  have el : (G ++ [VO.lst false xs]).length = G.length + 1 := by simp
  refine ⟨R.push e (fun a u h => by rw [upd_ne (ne_of_none h hp)]; exact h) hp ⟨ys, upd_same, r.mono e⟩, by rw [el]; exact e, ?_⟩
  unfold VR
  exact ⟨by rw [el]; exact Nat.lt_succ_self _, by rw [put_same]⟩
theorem Fin1.lst {S : Sx} {ρ : Nat → Addr} {G : Gh} {H : Hp} {Q : VK} {xs : List Va} {ys : List V} (h : Fin1 S ρ G.length H Q (some (.ref G.length, G ++ [.lst false xs]))) (R : Rl S ρ G H) (r : VRs S ρ G.length H xs ys) {p : Addr} (hp : H p = none) : Q (.ref p) (upd H p (.lst ys)) := by
  obtain ⟨a, b, q, k⟩ := h
  cases q
  obtain ⟨a1, a2, a3⟩ := rl_lst R r hp
  exact k _ _ _ a2 a1 a3
/-! ### the context of a piece of code -/
def scIs (sc : Scope) (x : Str) (k : NameKind) : Bool := decide (sc.names.lookup x = some k)
def scVis (sc : Scope) (x : Str) : Bool := scIs sc x .local || scIs sc x .cell || scIs sc x .free
def scLoc (sc : Scope) (x : Str) : Bool := scIs sc x .local || scIs sc x .cell
def tagL : List String := ["NoneType", "bool", "int", "str", "tuple", "list", "dict"]
/-- what the text has of a class, of a def -/
structure ClsOk (S : Sx) (c : Nat) : Prop where
  cl : Cls S.K (S.ca c)
  nf : ∀ f ∈ (S.cd c).flds, NoAttr S.K (S.ca c) (S.nm f)
  mt : ∀ m k, (S.cd c).mth m = some k → k < S.nf ∧ Meth S.K (S.ca c) (S.nm m) (S.fa k)
  co : ∀ f v, (S.cd c).con f = some v → ∃ v' u, Con S.K (S.ca c) (S.nm f) v' u ∧ ∀ ρ n H, VR S ρ n H v v'
  mak : ∀ k, (S.cd c).init = some k → k < S.nf ∧ Mk S.K (S.ca c) (S.fa k)
  ic : PySem.W.findIn S.K (.ref (S.ca c)) "__class__" = some (some (.builtin "object.__class__"))
  im : PySem.W.mroIn S.K (S.ca c) (.type "object") = some true
  it : ∀ m ∈ tagL, PySem.W.kitOne S.K (.type m) (.ref (S.ca c)) = some false
  ib : ∀ m, (c, m) ∈ S.ibl → PySem.W.kitOne S.K (.ref (S.ca c)) (.type m) = some false
  is : ∀ c', (c', c) ∈ S.isl → PySem.W.kitOne S.K (.ref (S.ca c')) (.ref (S.ca c)) = some (S.sub c' c)
  bo : ∀ k, (S.cd c).bool = some k → k < S.nf ∧ PySem.W.findIn S.K (.ref (S.ca c)) "__bool__" = some (some (.ref (S.fa k))) ∧ PySem.W.isFn S.K (.ref (S.fa k)) = true
  eo : ∀ k, (S.cd c).eq = some k → k < S.nf ∧ PySem.W.findIn S.K (.ref (S.ca c)) "__eq__" = some (some (.ref (S.fa k))) ∧ PySem.W.isFn S.K (.ref (S.fa k)) = true ∧ PySem.W.findIn S.K (.ref (S.ca c)) "__ne__" = some (some (.builtin "object.__ne__"))
  es : ∀ k c', (S.cd c).eq = some k → c' < S.nc → PySem.W.notFirst S.K (S.ca c) (.ref (S.ca c')) = true
def spV (S : Sx) (k : Nat) (ar : Nat) : Sp := fun vs H Q E => ∃ ρ G as, Rl S ρ G H ∧ VRs S ρ G.length H as vs ∧ as.length = ar ∧ Post S (VR S) E ρ G.length H Q (S.call k as G)
def FnG (S : Sx) (lev k : Nat) : Prop := PySem.W.keepIn S.K (.ref (S.fa k)) = true ∧ ∃ fd ps, FnOk S.P S.w S.K S.mg S.base (CX S.P S.w) lev (S.fa k) fd ps (spV S k ps.length) ∧ Binds S.K fd ps [] ∧ ∀ as G, as.length ≠ ps.length → S.call k as G = .no
/-- what an own exception's __init__ asks and gives: its parameters are laid down as attributes -/
def spX (C : Addr) (f1 : Str) : Option Str → Sp
  | none => fun vs H Q _ => ∃ a y, vs = [.ref a, y] ∧ H a = some (exo a C none) ∧ ∀ dx, H dx = none → dx ≠ a → Q .non (upd (upd H dx (exd dx [(f1, y)])) a (exo a C (some dx)))
  | some f2 => fun vs H Q _ => ∃ a y z, vs = [.ref a, y, z] ∧ H a = some (exo a C none) ∧ ∀ dx, H dx = none → dx ≠ a → Q .non (upd (upd (upd H dx (exd dx [(f1, y)])) a (exo a C (some dx))) dx (exd dx [(f2, z), (f1, y)]))
/-- what the text has of an own exception class -/
structure XcOk (S : Sx) (c : Nat) : Prop where
  T : OexC S.K (S.ca c)
  F : XfC S.K (S.ca c)
  nf : ∀ f ∈ S.xf c, PySem.W.findIn S.K (.ref (S.ca c)) (S.nm f) = some none ∧ f < S.nn
  ini : ∃ (f1 : Nat) (f2 : Option Nat) (fI : Addr) (fd : FuncData) (ps : List Str), S.xf c = f1 :: f2.toList ∧ PySem.W.findIn S.K (.ref (S.ca c)) "__init__" = some (some (.ref fI)) ∧ PySem.W.typeIn S.K (.ref fI) = some (.type "function") ∧
    Binds S.K fd ps [] ∧ FnOk S.P S.w S.K S.mg S.base (CX S.P S.w) 1 fI fd ps (spX (S.ca c) (S.nm f1) (f2.map S.nm))
structure Good (S : Sx) (lev : Nat) : Prop where
  cls : ∀ c, c < S.nc → ClsOk S c
  fn : ∀ k, k < S.nf → FnG S lev k
  nmi : ∀ i j, i < S.nn → j < S.nn → S.nm i = S.nm j → i = j
  cg1 : PySem.W.specialIn S.K (.builtin "object.__class__") "__get__" = some (some (.builtin "getset_descriptor.__get__"))
  cg2 : PySem.W.takesIn S.K (.builtin "object.__class__") = some true
  bl : ∀ x ∈ S.bl, S.mg x = none
  gl : ∀ p ∈ S.gl, ∃ v' u, S.mg p.1 = some u ∧ RelV v' u ∧ ∀ ρ n H, VR S ρ n H p.2 v'
  cg : ∀ p ∈ S.cg, p.2 < S.nc ∧ S.mg p.1 = some (.ref (S.ca p.2)) ∧ PySem.W.keepIn S.K (.ref (S.ca p.2)) = true
  fg : ∀ p ∈ S.fg, p.2 < S.nf ∧ S.mg p.1 = some (.ref (S.fa p.2))
  bg : ∀ p ∈ S.bg, S.mg p.1 = some (.builtin p.2)
  tg : ∀ p ∈ S.tg, S.mg p.1 = some (.type p.2)
  xg : ∀ p ∈ S.xc, S.mg p.1 = some (.ref (S.ca p.2)) ∧ XcOk S p.2
  xe : ∀ p ∈ S.xm, PySem.W.exmOne S.K (.ref (S.ca p.1)) (.ref (S.ca p.2)) = some (S.xsub p.1 p.2)
/-- what the calls of the text's defs need of the context -/
structure Okw (S : Sx) (lev : Nat) (E : EW) (X : Cx) : Prop where
  P : X.prog = S.P
  w : X.w = S.w
  K : X.K = S.K
  mg : X.mg = S.mg
  base : X.base = S.base
  room : S.hq = false → Room lev X.A
  hc : S.hq = true → ∀ k as G, S.call k as G = .no
  good : Good S lev
  pass : ∀ σ, PassesAt (CX S.P S.w) X σ (E σ)
structure Okx (S : Sx) (sc : Scope) (N : List Str) (lev : Nat) (E : EW) (X : Cx) : Prop where
  P : X.prog = S.P
  w : X.w = S.w
  K : X.K = S.K
  mg : X.mg = S.mg
  N : X.N = N
  nd : X.N.Nodup
  calm : S.hq = false → X.calm = true
  base : X.base = S.base
  room : S.hq = false → Room (lev + 2) X.A
  un : X.A.units + 65 < cLine
  hc : S.hq = true → ∀ k as G, S.call k as G = .no
  good : Good S lev
  sub : ∀ x k, sc.names.lookup x = some k → k ≠ .free → X.env.scope.names.lookup x = some k
  subF : ∀ x, sc.names.lookup x = some .free → X.env.scope.names.lookup x = some .cell ∨ X.env.scope.names.lookup x = some .free
  stf : ∀ x, scLoc sc x = true → X.fn x = true ∨ X.env.scope.names.lookup x = some .local
  pass : ∀ σ, PassesAt (CX S.P S.w) X σ (E σ)
  own : PassesOwn (model X.prog X.w) X.A X.env X.xe
  tk : Takes X fun c d σ H => E σ c d H
section
variable {S : Sx} {sc : Scope} {N : List Str} {lev : Nat} {E : EW} {X : Cx}
theorem scIs_iff {x : Str} {k : NameKind} : scIs sc x k = true ↔ sc.names.lookup x = some k := by unfold scIs; simp
theorem Okx.vis (o : Okx S sc N lev E X) {x : Str} (h : scVis sc x = true) : Vis X.env.scope x := by
  simp only [scVis, Bool.or_eq_true, scIs_iff] at h
  rcases h with (h | h) | h
  · exact .inl (o.sub _ _ h (by decide))
  · exact .inr (.inl (o.sub _ _ h (by decide)))
  · exact (o.subF _ h).elim (fun z => .inr (.inl z)) fun z => .inr (.inr z)
theorem Okx.loc (o : Okx S sc N lev E X) {x : Str} (h : scLoc sc x = true) : Loc X.env.scope x := by
  simp only [scLoc, Bool.or_eq_true, scIs_iff] at h
  rcases h with h | h
  · exact .inl (o.sub _ _ h (by decide))
  · exact .inr (o.sub _ _ h (by decide))
theorem Okx.gl (o : Okx S sc N lev E X) {x : Str} (h : scIs sc x .globalImplicit = true) : Gl X x := o.sub _ _ (scIs_iff.mp h) (by decide)
end
/-! ### the text's shapes -/
def isStar : Expr → Bool
  | .Starred .. => true
  | _ => false
theorem starEach_cons {e : Expr} {es : List Expr} {env : Env} (h : isStar e = false) : starEach (e :: es) env = (false, eval e env) :: starEach es env := by
  cases e <;> first | rfl | (exact absurd h (by simp [isStar]))
def noStars (es : List Expr) : Bool := es.all fun e => !isStar e
theorem noStars_cons {e : Expr} {es : List Expr} (h : noStars (e :: es) = true) : isStar e = false ∧ noStars es = true := by
  unfold noStars at h ⊢
  simpa using h
theorem backTo_plain {pos : Pos} {env : Env} : ∀ {es : List Expr}, noStars es = true → (backTo pos (starEach es env)).any (·.1) = false
  | [], _ => rfl
  | e :: es, h => by
    obtain ⟨h1, h2⟩ := noStars_cons h
    rw [starEach_cons h1]
    show (false || (backTo pos (starEach es env)).any (·.1)) = false
    rw [backTo_plain h2]
    rfl
/-- what is asked for its truth as a value -/
def plainT : Expr → Bool
  | .UnaryOp .Not _ _ => false
  | .BoolOp .. => false
  | .IfExp .. => false
  | .Compare .. => false
  | _ => true
theorem isTrue_plainT {e : Expr} {env : Env} (h : plainT e = true) (whole : Sem Value) : isTrue e env whole = (do let v ← whole; standAt e.pos; holding [v] (truthy v)) := by
  cases e with
  | UnaryOp op x pos => cases op <;> first | rfl | (exact absurd h (by simp [plainT]))
  | BoolOp op xs pos => exact absurd h (by simp [plainT])
  | IfExp a b c pos => exact absurd h (by simp [plainT])
  | Compare a b c pos => exact absurd h (by simp [plainT])
  | _ => rfl
def isComp : Expr → Bool
  | .ListComp .. => true
  | .SetComp .. => true
  | .DictComp .. => true
  | _ => false
theorem swaps_plain {e : Expr} {t : Option Expr} {l : Nat} {env : Env} (h : isComp e = false) : swapsWith e t l env = pure false := by
  cases e <;> first | rfl | (exact absurd h (by simp [isComp]))
def isSetE : Expr → Bool
  | .Set .. => true
  | _ => false
theorem folded_plain {e : Expr} {env : Env} (h : isSetE e = false) : ∀ x, foldedSetIterable e env x = pure x := by
  intro x
  cases e <;> first | rfl | (exact absurd h (by simp [isSetE]))
theorem marks_plain {op : CmpOp} {e : Expr} (h : isSetE e = false) : behindInMarks op e = false := by
  cases e <;> first | rfl | (exact absurd h (by simp [isSetE]))
def isSuper : Expr → Bool
  | .Call (.Name id _) [] [] _ => id == ("super" : Str)
  | _ => false
theorem base_plain {e : Expr} {a : Str} {env : Env} {whole : Sem Value} (h : isSuper e = false) : attributeBase e a env whole = whole := by
  unfold attributeBase
  split
  · rename_i id _ pos
    have h' : (id == ("super" : Str)) = false := h
    have h2 : (id != ("super" : Str)) = true := by simp only [bne, h', Bool.not_false]
    simp only [h2, Bool.true_or, if_true]
  · rfl
/-! ### truth, calls -/
def asB : Va → Gh → Res Bool
  | .bl b, G => .ok b G
  | _, _ => .no
def trI (S : Sx) (n : Nat) (G : Gh) : Option Nat → Res Bool
  | some k => (S.call k [.ref n] G).bind asB
  | none => .no
def trO (S : Sx) (n : Nat) (G : Gh) : Option VO → Res Bool
  | some (.lst _ xs) => .ok (!xs.isEmpty) G
  | some (.dct false kvs) => .ok (!kvs.isEmpty) G
  | some (.ins c _) => trI S n G (S.cd c).bool
  | _ => .no
def trS (s : Tx) (G : Gh) : Res Bool := if s.length ≤ sizeLine then .ok (!s.isEmpty) G else .no
def tr (S : Sx) : Va → Gh → Res Bool
  | .non, G => .ok false G
  | .bl b, G => .ok b G
  | .int i, G => .ok (i != 0) G
  | .str s, G => trS s G
  | .tup xs, G => .ok (!xs.isEmpty) G
  | .ref n, G => trO S n G G[n]?
  | _, _ => .no
section
variable {S : Sx} {sc : Scope} {N : List Str} {lev : Nat} {E : EW} {X : Cx} {pins : List (Addr × Obj)} {σ : L2.St} {H : Hp} {s : Shared}
theorem toS_len (s : Tx) : (toS s).length = s.length := by simp [toS, Str.length]
theorem DRk.len {ρ : Nat → Addr} {n : Nat} : ∀ {fs : List (Va × Va)} {gs : List (Key × V)}, DRk S ρ n H fs gs → gs.length = fs.length
  | [], _, h => by cases h; rfl
  | (f, x) :: fs, _, h => by
    obtain ⟨k', y, r, rfl, _, _, h3⟩ := h
    simp [DRk.len h3]
theorem isEmpty_len {α β : Type} {a : List α} {b : List β} (h : a.length = b.length) : a.isEmpty = b.isEmpty := by
  cases a <;> cases b <;> first | rfl | simp at h
/-- the context within a built-in function -/
abbrev inn (X : Cx) : Cx := { X with A := X.A.in1.in1 }
theorem ok_inn {X : Cx} (o : X.Ok) : (inn X).Ok := ⟨o.mod, o.kind, o.glob, o.blt, o.above, o.inj, o.has, o.cab, o.hd, o.frames, o.stk, o.exf, o.bs, o.bsz, o.noex, o.exfs, o.funs, o.frf⟩
theorem ok_out {X : Cx} (o : (inn X).Ok) : X.Ok := ⟨o.mod, o.kind, o.glob, o.blt, o.above, o.inj, o.has, o.cab, o.hd, o.frames, o.stk, o.exf, o.bs, o.bsz, o.noex, o.exfs, o.funs, o.frf⟩
theorem inv_inn {X : Cx} {pins : List (Addr × Obj)} {σ : L2.St} {H : Hp} {s : Shared} (I : Inv X pins σ H s) : Inv (inn X) pins σ H s := ⟨ok_inn I.ok, I.os, I.bare, I.base, I.loc, I.cell, I.free, I.freeC, I.pin, I.hok, I.len⟩
theorem inv_out {X : Cx} {pins : List (Addr × Obj)} {σ : L2.St} {H : Hp} {s : Shared} (I : Inv (inn X) pins σ H s) : Inv X pins σ H s := ⟨ok_out I.ok, I.os, I.bare, I.base, I.loc, I.cell, I.free, I.freeC, I.pin, I.hok, I.len⟩
theorem Okx.wk (o : Okx S sc N lev E X) : Okw S lev E X := ⟨o.P, o.w, o.K, o.mg, o.base, fun h => (o.room h).mono (Nat.le_add_right _ _), o.hc, o.good, o.pass⟩
theorem Okx.inw (o : Okx S sc N lev E X) : Okw S lev E (inn X) := ⟨o.P, o.w, o.K, o.mg, o.base, fun h => (show Room (lev + 1) X.A.in1 from Room.in1 (o.room h)).in1, o.hc, o.good, fun σ pins H s e s' I h => o.pass σ pins H s e s' (inv_out I) h⟩
/-- one of the text's defs runs -/
theorem Okw.run (o : Okw S lev E X) {k : Nat} (hk : k < S.nf) {us : List Value} {vs : List V} {Q : VK} (I : Inv X pins σ H s) (r : Vals vs us)
    (h : ∃ ρ G as, Rl S ρ G H ∧ VRs S ρ G.length H as vs ∧ Post S (VR S) (E σ) ρ G.length H Q (S.call k as G)) : wpAny (model X.prog X.w) X.A (call (.ref (S.fa k)) us) (EP X pins σ Q) X.xe s := by
  obtain ⟨_, fd, ps, F, b, ha⟩ := o.good.fn k hk
  obtain ⟨ρ, G, as, R, va, p⟩ := h
  have hl : as.length = ps.length := by
    by_cases z : as.length = ps.length
    · exact z
    · rw [ha as G z] at p; exact p.elim
  have F' : FnOk X.prog X.w X.K X.mg X.base (CX S.P S.w) lev (S.fa k) fd ps (spV S k ps.length) := by rw [o.P, o.w, o.K, o.mg, o.base]; exact F
  have b' : Binds X.K fd ps [] := by rw [o.K]; exact b
  cases hq : S.hq with
  | true => rw [o.hc hq] at p; exact p.elim
  | false =>
  exact run_fnS (E := E) F' (o.room hq) b' (o.pass σ) I r ⟨ρ, G, as, R, va, hl, p⟩
theorem Okx.run (o : Okx S sc N lev E X) {k : Nat} (hk : k < S.nf) {us : List Value} {vs : List V} {Q : VK} (I : Inv X pins σ H s) (r : Vals vs us)
    (h : ∃ ρ G as, Rl S ρ G H ∧ VRs S ρ G.length H as vs ∧ Post S (VR S) (E σ) ρ G.length H Q (S.call k as G)) : wpAny (model X.prog X.w) X.A (call (.ref (S.fa k)) us) (EP X pins σ Q) X.xe s := o.wk.run hk I r h
theorem tr_okW (o : Okw S lev E X) {x : V} {v : Value} {Q : Bool → Hp → Prop} (I : Inv X pins σ H s) (rx : RelV x v)
    (h : ∃ ρ G a, Rl S ρ G H ∧ VR S ρ G.length H a x ∧ Post S relB (E σ) ρ G.length H Q (tr S a G)) : wpAny (model X.prog X.w) X.A (truthy v) (TP X pins σ Q) X.xe s := by
  obtain ⟨ρ, G, a, R, ra, p⟩ := h
  have base : ∀ {k : Bool}, tr S a G = .ok k G → TruV X.K x H k → wpAny (model X.prog X.w) X.A (truthy v) (TP X pins σ Q) X.xe s := fun {k} e t => by
    rw [e] at p
    exact tru_ok pins s σ H x v Q I rx ⟨k, t, p ρ H k (Ext.refl _ _ _) R rfl⟩
  cases a with
  | non =>
    unfold VR at ra; subst ra
    exact base rfl rfl
  | bl b =>
    unfold VR at ra; subst ra
    exact base rfl rfl
  | int i =>
    unfold VR at ra; subst ra
    exact base rfl rfl
  | str t =>
    unfold VR at ra; subst ra
    have p : Post S relB (E σ) ρ G.length H Q (trS t G) := p
    unfold trS at p
    by_cases hz : t.length ≤ sizeLine
    · refine base (k := !t.isEmpty) (by show trS t G = _; unfold trS; rw [if_pos hz]) ⟨by rw [toS_len]; exact hz, ?_⟩
      rw [toS_len]
      cases t <;> simp
      omega
    · rw [if_neg hz] at p; exact p.elim
  | tup xs =>
    unfold VR at ra
    obtain ⟨b, ys, rfl, h2, h3⟩ := ra
    refine base (k := !xs.isEmpty) rfl (.inr (.inl ⟨ys, by rw [o.K]; exact h2, ?_⟩))
    rw [isEmpty_len h3.length]
  | ref n =>
    unfold VR at ra
    obtain ⟨hn, rfl⟩ := ra
    obtain ⟨u, hu⟩ : ∃ u, G[n]? = some u := ⟨G[n], by simp [hn]⟩
    have ob := R.ob n u hu
    cases u with
    | lst fz xs =>
      have e : tr S (.ref n) G = .ok (!xs.isEmpty) G := by show trO S n G G[n]? = _; rw [hu]; rfl
      cases fz with
      | false =>
        obtain ⟨ys, h1, h2⟩ := ob
        exact base e (.inl ⟨ys, SqL.of h1, by rw [isEmpty_len h2.length]⟩)
      | true =>
        obtain ⟨ys, h1, h2⟩ := ob
        refine base e (.inl ⟨ys, ?_, by rw [isEmpty_len h2.length]⟩)
        rw [o.K]
        exact h1.elim (fun z => .inl (.inr z)) .inr
    | dct lk kvs =>
      cases lk with
      | false =>
        have e : tr S (.ref n) G = .ok (!kvs.isEmpty) G := by show trO S n G G[n]? = _; rw [hu]; rfl
        obtain ⟨ks, h1, h2⟩ := ob
        exact base e (.inr (.inr ⟨ks, h1, by rw [isEmpty_len h2.len]⟩))
      | true =>
        have e : tr S (.ref n) G = .no := by show trO S n G G[n]? = _; rw [hu]; rfl
        rw [e] at p; exact p.elim
    | ins c fs =>
      obtain ⟨dx, gs, h1, h2, h3, h5, h4⟩ := ob
      cases hb : (S.cd c).bool with
      | none =>
        have e : tr S (.ref n) G = .no := by show trO S n G G[n]? = _; rw [hu]; show trI S n G (S.cd c).bool = _; rw [hb]; rfl
        rw [e] at p; exact p.elim
      | some k =>
        have e : tr S (.ref n) G = (S.call k [.ref n] G).bind asB := by show trO S n G G[n]? = _; rw [hu]; show trI S n G (S.cd c).bool = _; rw [hb]; rfl
        rw [e] at p
        cases (show v = Value.ref (ρ n) from rx)
        obtain ⟨b1, b2, b3⟩ := (o.good.cls c h5).bo k hb
        obtain ⟨mA, O, _⟩ := ins_get I.hok h1
        obtain ⟨od, J, _⟩ := O.look
        have lt := (I.lt)
        obtain ⟨m, F⟩ := I.fr
        refine PySem.W.truthy_K F I.ok.mod.kin J (by rw [o.K]; exact b2) (by rw [o.K]; exact b3) (thn (o.run (vs := [V.ref (ρ n)]) b1 I (.cons rfl .nil) (Q := fun v H' => ∃ b, v = .bl b ∧ Q b H') ⟨ρ, G, [.ref n], R, VRs.cons (by unfold VR; exact ⟨hn, rfl⟩) .nil, Post.bind p fun a1 G1 ρ1 H1 x1 e1 R1 r1 p1 => ?_⟩) fun u s1 hh => ?_)
        · cases a1 with
          | bl b =>
            unfold VR at r1; subst r1
            exact ⟨b, rfl, p1 ρ1 H1 b (Ext.refl _ _ _) R1 rfl⟩
          | _ => exact p1.elim
        · obtain ⟨w1, H1, I1, rw1, b, rfl, q⟩ := hh
          cases (show u = Value.bool b from rw1)
          exact ⟨H1, I1, q⟩
    | deq xs => exact ob.elim
    | exc fs =>
      have e : tr S (.ref n) G = .no := by show trO S n G G[n]? = _; rw [hu]; rfl
      rw [e] at p; exact p.elim
    | dtu lk kvs =>
      have e : tr S (.ref n) G = .no := by show trO S n G G[n]? = _; rw [hu]; rfl
      rw [e] at p; exact p.elim
  | xr c k =>
    have e : tr S (.xr c k) G = .no := rfl
    rw [e] at p; exact p.elim
  | cl k =>
    have e : tr S (.cl k) G = .no := rfl
    rw [e] at p; exact p.elim
  | ty t =>
    have e : tr S (.ty t) G = .no := rfl
    rw [e] at p; exact p.elim
theorem tr_ok (o : Okx S sc N lev E X) {x : V} {v : Value} {Q : Bool → Hp → Prop} (I : Inv X pins σ H s) (rx : RelV x v)
    (h : ∃ ρ G a, Rl S ρ G H ∧ VR S ρ G.length H a x ∧ Post S relB (E σ) ρ G.length H Q (tr S a G)) : wpAny (model X.prog X.w) X.A (truthy v) (TP X pins σ Q) X.xe s := tr_okW o.wk I rx h
end
end VM
namespace VM
open PySem PySem.Spec PyProof.Rows L2
/-! ### operators -/
def lstO : Option VO → Option (List Va)
  | some (.lst _ xs) => some xs
  | _ => none
def mlsO : Option VO → Option (List Va)
  | some (.lst false xs) => some xs
  | _ => none
section
variable {S : Sx} {ρ : Nat → Addr} {G : Gh} {H : Hp} {m : Nat} {xs : List Va}
theorem mls_eq {u : Option VO} (h : mlsO u = some xs) : u = some (.lst false xs) := by
  unfold mlsO at h
  split at h
  · cases h; rfl
  · cases h
theorem mls_ok (R : Rl S ρ G H) (h : mlsO G[m]? = some xs) : ∃ ys, H (ρ m) = some (.lst ys) ∧ VRs S ρ G.length H xs ys := R.ob m _ (mls_eq h)
theorem lst_ok (R : Rl S ρ G H) (h : lstO G[m]? = some xs) : ∃ ys, SqL S.K H (ρ m) ys ∧ VRs S ρ G.length H xs ys := by
  unfold lstO at h
  split at h
  · rename_i fz zs e
    cases h
    have ob := R.ob m _ e
    cases fz with
    | false =>
      obtain ⟨ys, h1, h2⟩ := ob
      exact ⟨ys, SqL.of h1, h2⟩
    | true =>
      obtain ⟨ys, h1, h2⟩ := ob
      exact ⟨ys, h1.elim (fun z => .inl (.inr z)) .inr, h2⟩
  · cases h
end
def addL : Option (List Va) → Option (List Va) → Gh → Option (Va × Gh)
  | some xs, some ys, G => if xs.length + ys.length ≤ sizeLine then some (.ref G.length, G ++ [.lst false (xs ++ ys)]) else none
  | _, _, _ => none
def addS (s t : Tx) (G : Gh) : Option (Va × Gh) := if s.length + t.length ≤ sizeLine then some (.str (s ++ t), G) else none
def addT (s t : List Va) (G : Gh) : Option (Va × Gh) := if s.length + t.length ≤ sizeLine then some (.tup (s ++ t), G) else none
def opAdd : Op2
  | .int i, .int j, G => some (.int (i + j), G)
  | .int i, .bl b, G => some (.int (i + if b then 1 else 0), G)
  | .str s, .str t, G => addS s t G
  | .tup xs, .tup ys, G => addT xs ys G
  | .ref m, .ref n, G => addL (mlsO G[m]?) (mlsO G[n]?) G
  | _, _, _ => none
def opSub : Op2
  | .int i, .int j, G => some (.int (i - j), G)
  | _, _, _ => none
def mulI (i j : Int) (G : Gh) : Option (Va × Gh) := if (-(2 ^ 64) < i ∧ i < 2 ^ 64) ∨ (-(2 ^ 64) < j ∧ j < 2 ^ 64) then some (.int (i * j), G) else none
def mulT (xs : List Va) (k : Int) (G : Gh) : Option (Va × Gh) := if xs ≠ [] ∧ 2 ≤ k ∧ k ≤ 1000 ∧ xs.length ≤ 1000 then some (.tup (List.replicate k.toNat xs).flatten, G) else if k = 1 ∧ False then some (.tup xs, G) else none
def mulL : Option (List Va) → Int → Gh → Option (Va × Gh)
  | some xs, k, G => if -(2 ^ 63) ≤ k ∧ k < 2 ^ 63 ∧ xs.length * k.toNat ≤ sizeLine then some (.ref G.length, G ++ [.lst false (List.replicate k.toNat xs).flatten]) else none
  | _, _, _ => none
def opMul : Op2
  | .int i, .int j, G => mulI i j G
  | .tup xs, .int k, G => mulT xs k G
  | .ref m, .int k, G => mulL (mlsO G[m]?) k G
  | _, _, _ => none
def divI (i j : Int) (G : Gh) : Option (Va × Gh) := if 0 < j ∧ j.natAbs.log2 < 9000 then some (.int (i / j), G) else none
def opDiv : Op2
  | .int i, .int j, G => divI i j G
  | _, _, _ => none
def modI (i j : Int) (G : Gh) : Option (Va × Gh) := if 0 < j then some (.int (i % j), G) else none
def opMod : Op2
  | .int i, .int j, G => modI i j G
  | _, _, _ => none
def powI (i j : Int) (G : Gh) : Option (Va × Gh) := if 0 ≤ j ∧ j ≤ 1000000 ∧ i.natAbs < 2 ^ 64 then some (.int (i ^ j.toNat), G) else none
def opPow : Op2
  | .int i, .int j, G => powI i j G
  | _, _, _ => none
def binF : Operator → Op2
  | .Add => opAdd
  | .Sub => opSub
  | .Mult => opMul
  | .FloorDiv => opDiv
  | .Mod => opMod
  | .Pow => opPow
  | _ => fun _ _ _ => none
theorem toS_app (s t : Tx) : toS s ++ toS t = toS (s ++ t) := by
  show (⟨s.toArray ++ t.toArray⟩ : Str) = ⟨(s ++ t).toArray⟩
  simp
theorem VRs.flat {S : Sx} {ρ : Nat → Addr} {n : Nat} {H : Hp} {xs : List Va} {ys : List V} (h : VRs S ρ n H xs ys) : ∀ k : Nat, VRs S ρ n H (List.replicate k xs).flatten (List.replicate k ys).flatten
  | 0 => by simpa using VRs.nil
  | k + 1 => by
    rw [List.replicate_succ, List.replicate_succ, List.flatten_cons, List.flatten_cons]
    exact VRs.append h (VRs.flat h k)
theorem VRs.isNil {S : Sx} {ρ : Nat → Addr} {n : Nat} {H : Hp} {xs : List Va} {ys : List V} (h : VRs S ρ n H xs ys) : xs = [] ↔ ys = [] := by
  have := h.length
  constructor
  · intro e; subst e; exact List.eq_nil_of_length_eq_zero (by simpa using this)
  · intro e; subst e; exact List.eq_nil_of_length_eq_zero (by simpa using this.symm)
section
variable {S : Sx} {sc : Scope} {N : List Str} {lev : Nat} {E : EW} {X : Cx}
theorem fin_no {S : Sx} {ρ : Nat → Addr} {n : Nat} {H : Hp} {Q : VK} (h : Fin1 S ρ n H Q none) : False := by
  obtain ⟨_, _, e, _⟩ := h; cases e
theorem op_no (o : Okx S sc N lev E X) {f : Value → Value → Sem Value} {op : Op2} (h : ∀ a b G, op a b G = none) : OpR X f (rO2 S op) := by
  intro pins s σ H x y v u Q I rx ry ⟨ρ, G, a, b, R, ra, rb, p⟩
  rw [h] at p; exact (fin_no p).elim
theorem add_ok (o : Okx S sc N lev E X) : OpR X (binaryOp .Add) (rO2 S opAdd) := by
  intro pins s σ H x y v u Q I rx ry ⟨ρ, G, a, b, R, ra, rb, p⟩
  cases a with
  | int i =>
    unfold VR at ra; subst ra
    cases b with
    | int j =>
      unfold VR at rb; subst rb
      exact op_add pins s σ H _ _ v u Q I rx ry ⟨i, j, rfl, rfl, p.old R (by unfold VR; rfl)⟩
    | bl j =>
      unfold VR at rb; subst rb
      refine op_add_ib pins s σ H _ _ v u Q I rx ry ⟨i, j, rfl, rfl, p.old R ?_⟩
      unfold VR; cases j <;> rfl
    | _ => exact (fin_no p).elim
  | str i =>
    unfold VR at ra; subst ra
    cases b with
    | str j =>
      unfold VR at rb; subst rb
      have p : Fin1 S ρ G.length H Q (addS i j G) := p
      unfold addS at p
      split at p
      · rename_i hz
        refine op_add_str pins s σ H _ _ v u Q I rx ry ⟨_, _, rfl, rfl, by rw [toS_len, toS_len]; exact hz, p.old R ?_⟩
        unfold VR; rw [toS_app]
      · exact (fin_no p).elim
    | _ => exact (fin_no p).elim
  | tup xs =>
    cases b with
    | tup ys =>
      unfold VR at ra rb
      obtain ⟨a1, zs, rfl, h1, h2⟩ := ra
      obtain ⟨b1, ws, rfl, h3, h4⟩ := rb
      have p : Fin1 S ρ G.length H Q (addT xs ys G) := p
      unfold addT at p
      split at p
      · rename_i hz
        have e1 := h2.length
        have e2 := h4.length
        refine op_catA pins s σ H _ _ v u Q I rx ry ⟨a1, b1, zs, ws, rfl, rfl, by rw [o.K]; exact h1, by rw [o.K]; exact h3, by omega, fun e => ?_, fun _ e => ?_, fun _ _ q hq => p.tup R (h2.append h4) hq⟩
        · refine p.old R ?_
          unfold VR
          refine ⟨b1, ws, rfl, h3, ?_⟩
          rw [h2.isNil.mpr e]; exact h4
        · refine p.old R ?_
          unfold VR
          refine ⟨a1, zs, rfl, h1, ?_⟩
          rw [h4.isNil.mpr e, List.append_nil]; exact h2
      · exact (fin_no p).elim
    | _ => exact (fin_no p).elim
  | ref m =>
    cases b with
    | ref n =>
      unfold VR at ra rb
      obtain ⟨_, rfl⟩ := ra
      obtain ⟨_, rfl⟩ := rb
      have p : Fin1 S ρ G.length H Q (addL (mlsO G[m]?) (mlsO G[n]?) G) := p
      cases h1 : mlsO G[m]? with
      | none => rw [h1] at p; exact (fin_no p).elim
      | some xs =>
        cases h2 : mlsO G[n]? with
        | none => rw [h1, h2] at p; exact (fin_no p).elim
        | some ys =>
          rw [h1, h2] at p
          have p : Fin1 S ρ G.length H Q (if xs.length + ys.length ≤ sizeLine then some (.ref G.length, G ++ [.lst false (xs ++ ys)]) else none) := p
          split at p
          · rename_i hz
            obtain ⟨zs, k1, k2⟩ := mls_ok R h1
            obtain ⟨ws, k3, k4⟩ := mls_ok R h2
            have e1 := k2.length
            have e2 := k4.length
            exact op_cat pins s σ H _ _ v u Q I rx ry ⟨_, _, zs, ws, rfl, rfl, k1, k3, by omega, fun q hq => p.lst R (k2.append k4) hq⟩
          · exact (fin_no p).elim
    | _ => exact (fin_no p).elim
  | _ => exact (fin_no p).elim
theorem sub_ok (o : Okx S sc N lev E X) : OpR X (binaryOp .Sub) (rO2 S opSub) := by
  intro pins s σ H x y v u Q I rx ry ⟨ρ, G, a, b, R, ra, rb, p⟩
  cases a with
  | int i =>
    unfold VR at ra; subst ra
    cases b with
    | int j =>
      unfold VR at rb; subst rb
      exact op_sub pins s σ H _ _ v u Q I rx ry ⟨i, j, rfl, rfl, p.old R (by unfold VR; rfl)⟩
    | _ => exact (fin_no p).elim
  | _ => exact (fin_no p).elim
theorem mul_ok (o : Okx S sc N lev E X) : OpR X (binaryOp .Mult) (rO2 S opMul) := by
  intro pins s σ H x y v u Q I rx ry ⟨ρ, G, a, b, R, ra, rb, p⟩
  cases a with
  | int i =>
    unfold VR at ra; subst ra
    cases b with
    | int j =>
      unfold VR at rb; subst rb
      have p : Fin1 S ρ G.length H Q (mulI i j G) := p
      unfold mulI at p
      split at p
      · rename_i hz
        exact op_mul pins s σ H _ _ v u Q I rx ry ⟨i, j, rfl, rfl, hz, p.old R (by unfold VR; rfl)⟩
      · exact (fin_no p).elim
    | _ => exact (fin_no p).elim
  | tup xs =>
    cases b with
    | int k =>
      unfold VR at ra rb
      obtain ⟨a1, zs, rfl, h1, h2⟩ := ra
      subst rb
      have p : Fin1 S ρ G.length H Q (mulT xs k G) := p
      unfold mulT at p
      split at p
      · rename_i hz
        obtain ⟨z1, z2, z3, z4⟩ := hz
        have e1 := h2.length
        exact op_repT pins s σ H _ _ v u Q I rx ry ⟨a1, k, zs, rfl, rfl, by rw [o.K]; exact h1, fun e => z1 (h2.isNil.mpr e), z2, z3, by omega, fun q hq => p.tup R (h2.flat _) hq⟩
      · rw [if_neg (by simp)] at p
        exact (fin_no p).elim
    | _ => exact (fin_no p).elim
  | ref m =>
    cases b with
    | int k =>
      unfold VR at ra rb
      obtain ⟨_, rfl⟩ := ra
      subst rb
      have p : Fin1 S ρ G.length H Q (mulL (mlsO G[m]?) k G) := p
      cases h1 : mlsO G[m]? with
      | none => rw [h1] at p; exact (fin_no p).elim
      | some xs =>
        rw [h1] at p
        have p : Fin1 S ρ G.length H Q (if -(2 ^ 63) ≤ k ∧ k < 2 ^ 63 ∧ xs.length * k.toNat ≤ sizeLine then some (.ref G.length, G ++ [.lst false (List.replicate k.toNat xs).flatten]) else none) := p
        split at p
        · rename_i hz
          obtain ⟨z1, z2, z3⟩ := hz
          obtain ⟨zs, k1, k2⟩ := mls_ok R h1
          have e1 := k2.length
          exact op_rep pins s σ H _ _ v u Q I rx ry ⟨_, k, zs, rfl, rfl, k1, z1, z2, by rw [e1]; exact z3, fun q hq => p.lst R (k2.flat _) hq⟩
        · exact (fin_no p).elim
    | _ => exact (fin_no p).elim
  | _ => exact (fin_no p).elim
theorem div_ok (o : Okx S sc N lev E X) : OpR X (binaryOp .FloorDiv) (rO2 S opDiv) := by
  intro pins s σ H x y v u Q I rx ry ⟨ρ, G, a, b, R, ra, rb, p⟩
  cases a with
  | int i =>
    unfold VR at ra; subst ra
    cases b with
    | int j =>
      unfold VR at rb; subst rb
      have p : Fin1 S ρ G.length H Q (divI i j G) := p
      unfold divI at p
      split at p
      · rename_i hz
        exact op_fdivW pins s σ H _ _ v u Q I rx ry ⟨i, j, rfl, rfl, hz, p.old R (by unfold VR; rfl)⟩
      · exact (fin_no p).elim
    | _ => exact (fin_no p).elim
  | _ => exact (fin_no p).elim
theorem mod_ok (o : Okx S sc N lev E X) : OpR X (binaryOp .Mod) (rO2 S opMod) := by
  intro pins s σ H x y v u Q I rx ry ⟨ρ, G, a, b, R, ra, rb, p⟩
  cases a with
  | int i =>
    unfold VR at ra; subst ra
    cases b with
    | int j =>
      unfold VR at rb; subst rb
      have p : Fin1 S ρ G.length H Q (modI i j G) := p
      unfold modI at p
      split at p
      · rename_i hz
        exact op_mod pins s σ H _ _ v u Q I rx ry ⟨i, j, rfl, rfl, hz, p.old R (by unfold VR; rfl)⟩
      · exact (fin_no p).elim
    | _ => exact (fin_no p).elim
  | _ => exact (fin_no p).elim
theorem pow_ok (o : Okx S sc N lev E X) : OpR X (binaryOp .Pow) (rO2 S opPow) := by
  intro pins s σ H x y v u Q I rx ry ⟨ρ, G, a, b, R, ra, rb, p⟩
  cases a with
  | int i =>
    unfold VR at ra; subst ra
    cases b with
    | int j =>
      unfold VR at rb; subst rb
      have p : Fin1 S ρ G.length H Q (powI i j G) := p
      unfold powI at p
      split at p
      · rename_i hz
        exact op_pow pins s σ H _ _ v u Q I rx ry ⟨i, j, rfl, rfl, hz, p.old R (by unfold VR; rfl)⟩
      · exact (fin_no p).elim
    | _ => exact (fin_no p).elim
  | _ => exact (fin_no p).elim
theorem bin_ok (o : Okx S sc N lev E X) (op : Operator) : OpR X (binaryOp op) (rO2 S (binF op)) := by
  cases op with
  | Add => exact add_ok o
  | Sub => exact sub_ok o
  | Mult => exact mul_ok o
  | FloorDiv => exact div_ok o
  | Mod => exact mod_ok o
  | Pow => exact pow_ok o
  | _ => exact op_no o fun _ _ _ => rfl
end
end VM
namespace VM
open PySem PySem.Spec PyProof.Rows L2
/-! ### data, compared -/
def mapO {α β : Type} (f : α → Option β) : List α → Option (List β)
  | [] => some []
  | x :: xs => match f x, mapO f xs with
    | some y, some ys => some (y :: ys)
    | _, _ => none
theorem mapO_cons {α β : Type} {f : α → Option β} {x : α} {xs : List α} {zs : List β} (h : mapO f (x :: xs) = some zs) : ∃ y ys, f x = some y ∧ mapO f xs = some ys ∧ zs = y :: ys := by
  unfold mapO at h
  split at h
  · rename_i y ys h1 h2
    cases h
    exact ⟨y, ys, h1, h2, rfl⟩
  · cases h
def toD : Nat → Gh → Va → Option PyData
  | _, _, .non => some .none
  | _, _, .bl b => some (.bool b)
  | _, _, .int i => some (.int i)
  | _, _, .str s => some (.str (toS s))
  | k + 1, G, .tup xs => (mapO (toD k G) xs).map .tuple
  | k + 1, G, .ref n => ((lstO G[n]?).bind (mapO (toD k G))).map .list
  | _, _, _ => none
def eqSc : Va → Va → Option Bool
  | .int i, .int j => some (decide (i = j))
  | .str s, .str t => some (decide (s = t))
  | .bl a, .bl b => some (decide (a = b))
  | .non, .non => some true
  | .non, .int _ => some false
  | .int _, .non => some false
  | .non, .bl _ => some false
  | .bl _, .non => some false
  | .non, .str _ => some false
  | .str _, .non => some false
  | .int _, .str _ => some false
  | .str _, .int _ => some false
  | .bl _, .str _ => some false
  | .str _, .bl _ => some false
  | _, _ => none
def eqDD : Option PyData → Option PyData → Option Bool
  | some d, some e => if SeqAt.shaped d = true ∧ SeqAt.shaped e = true then some (PyData.eqv d e) else none
  | _, _ => none
def eqD (G : Gh) (x y : Va) : Option Bool := match eqSc x y with
  | some b => some b
  | none => eqDD (toD 30 G x) (toD 30 G y)
section
variable {S : Sx} {ρ : Nat → Addr} {G : Gh} {H : Hp}
theorem dpAll {f : Va → Option PyData} {K : PySem.W.Frag} {n : Nat} (h : ∀ x v d, f x = some d → VR S ρ n H x v → Dp K H v d) : ∀ {xs : List Va} {ys : List V} {ds : List PyData}, mapO f xs = some ds → VRs S ρ n H xs ys → DpAll K H ys ds
  | [], _, _, e, r => by
    cases e
    unfold VRs at r; subst r
    exact .nil
  | x :: xs, _, _, e, r => by
    obtain ⟨d, ds, h1, h2, rfl⟩ := mapO_cons e
    unfold VRs at r
    obtain ⟨y, t, rfl, r1, r2⟩ := r
    exact .cons (h x y d h1 r1) (dpAll h h2 r2)
theorem toD_ok (R : Rl S ρ G H) : ∀ (k : Nat) (x : Va) (v : V) (d : PyData), toD k G x = some d → VR S ρ G.length H x v → Dp S.K H v d := by
  intro k
  induction k with
  | zero =>
    intro x v d e r
    cases x <;> first | (cases e; unfold VR at r; subst r; constructor) | (exfalso; simp [toD] at e)
  | succ k ih =>
    intro x v d e r
    cases x with
    | non => cases e; unfold VR at r; subst r; constructor
    | bl b => cases e; unfold VR at r; subst r; constructor
    | int i => cases e; unfold VR at r; subst r; constructor
    | str s => cases e; unfold VR at r; subst r; constructor
    | tup xs =>
      have e : (mapO (toD k G) xs).map PyData.tuple = some d := e
      obtain ⟨ds, h1, rfl⟩ := Option.map_eq_some_iff.mp e
      unfold VR at r
      obtain ⟨a, ys, rfl, h2, h3⟩ := r
      exact .tup h2 (dpAll ih h1 h3)
    | ref n =>
      have e : ((lstO G[n]?).bind (mapO (toD k G))).map PyData.list = some d := e
      obtain ⟨ds, h1, rfl⟩ := Option.map_eq_some_iff.mp e
      obtain ⟨xs, h0, h1⟩ := Option.bind_eq_some_iff.mp h1
      unfold VR at r
      obtain ⟨hn, rfl⟩ := r
      obtain ⟨ys, h2, h3⟩ := lst_ok R h0
      exact .lst h2 (dpAll ih h1 h3)
    | cl k => exact absurd e (by simp [toD])
    | ty t => exact absurd e (by simp [toD])
    | xr c t => exact absurd e (by simp [toD])
theorem toS_dec (s t : Tx) : decide (toS s = toS t) = decide (s = t) := by
  by_cases h : s = t
  · subst h; simp
  · rw [decide_eq_false h, decide_eq_false fun e => h (toS_inj e)]
theorem eqSc_ok {x y : Va} {v u : V} {b : Bool} {n : Nat} (h : eqSc x y = some b) (r1 : VR S ρ n H x v) (r2 : VR S ρ n H y u) : scal v u = true ∧ decide (v = u) = b := by
  unfold eqSc at h
  split at h <;> first
    | (cases h; unfold VR at r1 r2; subst r1; subst r2; exact ⟨rfl, decide_eq_false (fun z => nomatch z)⟩)
    | (cases h; unfold VR at r1 r2; subst r1; subst r2; exact ⟨rfl, decide_eq_true rfl⟩)
    | (cases h; unfold VR at r1 r2; subst r1; subst r2; refine ⟨rfl, ?_⟩; simp only [V.int.injEq]; done)
    | (cases h; unfold VR at r1 r2; subst r1; subst r2; refine ⟨rfl, ?_⟩; simp only [V.bl.injEq]; done)
    | (cases h; unfold VR at r1 r2; subst r1; subst r2; refine ⟨rfl, ?_⟩; simp only [V.str.injEq]; exact toS_dec _ _)
    | (cases h; done)
end
def opEq : Op2 := fun x y G => (eqD G x y).map fun b => (.bl b, G)
def opNe : Op2 := fun x y G => (eqD G x y).map fun b => (.bl (!b), G)
def opLt : Op2
  | .int i, .int j, G => some (.bl (decide (i < j)), G)
  | .str i, .str j, G => some (.bl (decide (i < j)), G)
  | _, _, _ => none
def opLe : Op2
  | .int i, .int j, G => some (.bl (decide (i ≤ j)), G)
  | .str i, .str j, G => some (.bl (!decide (j < i)), G)
  | _, _, _ => none
def opGt : Op2
  | .int i, .int j, G => some (.bl (decide (j < i)), G)
  | .str i, .str j, G => some (.bl (decide (j < i)), G)
  | _, _, _ => none
def opGe : Op2
  | .int i, .int j, G => some (.bl (decide (j ≤ i)), G)
  | .str i, .str j, G => some (.bl (!decide (i < j)), G)
  | _, _, _ => none
def isNon : Va → Bool
  | .non => true
  | _ => false
def opIs : Op2
  | x, .non, G => some (.bl (isNon x), G)
  | _, _, _ => none
def opIsNot : Op2
  | x, .non, G => some (.bl (!isNon x), G)
  | _, _, _ => none
def flatA : Va → Bool
  | .non => true
  | .bl _ => true
  | .int _ => true
  | .str _ => true
  | _ => false
/-- == of flat values -/
def eqA : Va → Va → Bool
  | .non, .non => true
  | .bl a, .bl b => a == b
  | .bl a, .int b => (if a then 1 else 0) == b
  | .int a, .bl b => a == (if b then 1 else 0)
  | .int a, .int b => a == b
  | .str a, .str b => a == b
  | _, _ => false
def seqO (G : Gh) : Va → Option (List Va)
  | .tup xs => some xs
  | .ref n => lstO G[n]?
  | _ => none
def inDD : Option PyData → Option (List PyData) → Option Bool
  | some d, some ds => if SeqAt.shaped d = true ∧ SeqAt.shaped (.list ds) = true then some (ds.any fun z => PyData.eqv z d) else none
  | _, _ => none
def inR (G : Gh) (x : Va) (xs : List Va) : Va → Option Bool
  | .ref _ => inDD (toD 29 G x) (mapO (toD 29 G) xs)
  | _ => none
def inS (G : Gh) (x : Va) (xs : List Va) (y : Va) : Option Bool := if flatA x = true ∧ xs.all flatA = true then some (xs.any fun z => eqA z x) else inR G x xs y
def inSeq (G : Gh) (x : Va) : Option (List Va) → Va → Option Bool
  | some xs, y => inS G x xs y
  | none, _ => none
def opIn : Op2 := fun x y G => (inSeq G x (seqO G y) y).map fun b => (.bl b, G)
def opNotIn : Op2 := fun x y G => (inSeq G x (seqO G y) y).map fun b => (.bl (!b), G)
def cmpF : CmpOp → Op2
  | .Eq => opEq
  | .NotEq => opNe
  | .Lt => opLt
  | .LtE => opLe
  | .Gt => opGt
  | .GtE => opGe
  | .Is => opIs
  | .IsNot => opIsNot
  | .In => opIn
  | .NotIn => opNotIn
section
variable {S : Sx} {sc : Scope} {N : List Str} {lev : Nat} {E : EW} {X : Cx}
theorem Okx.u64 (o : Okx S sc N lev E X) : X.A.units + 64 < cLine := by have := o.un; omega
theorem Okx.u65 (o : Okx S sc N lev E X) : X.A.units + 65 < cLine := o.un
theorem eq_ok (o : Okx S sc N lev E X) : OpR X (compareOp .Eq) (rO2 S opEq) := by
  intro pins s σ H x y v u Q I rx ry ⟨ρ, G, a, b, R, ra, rb, p⟩
  obtain ⟨w, G', e, k⟩ := p
  obtain ⟨c, h1, h2⟩ := Option.map_eq_some_iff.mp e
  cases h2
  have q : Q (.bl c) H := k ρ H _ (Ext.refl _ _ _) R (by unfold VR; rfl)
  unfold eqD at h1
  split at h1
  · rename_i hb
    cases h1
    obtain ⟨z1, z2⟩ := eqSc_ok hb ra rb
    exact op_eq pins s σ H x y v u Q I rx ry ⟨z1, by rw [z2]; exact q⟩
  · unfold eqDD at h1
    split at h1
    · rename_i d e' hd he
      split at h1
      · rename_i hz
        cases h1
        exact op_eqD o.u64 pins s σ H x y v u Q I rx ry ⟨d, e', by rw [o.K]; exact toD_ok R _ _ _ _ hd ra, by rw [o.K]; exact toD_ok R _ _ _ _ he rb, hz.1, hz.2, q⟩
      · cases h1
    · cases h1
theorem ne_ok (o : Okx S sc N lev E X) : OpR X (compareOp .NotEq) (rO2 S opNe) := by
  intro pins s σ H x y v u Q I rx ry ⟨ρ, G, a, b, R, ra, rb, p⟩
  obtain ⟨w, G', e, k⟩ := p
  obtain ⟨c, h1, h2⟩ := Option.map_eq_some_iff.mp e
  cases h2
  have q : Q (.bl (!c)) H := k ρ H _ (Ext.refl _ _ _) R (by unfold VR; rfl)
  unfold eqD at h1
  split at h1
  · rename_i hb
    cases h1
    obtain ⟨z1, z2⟩ := eqSc_ok hb ra rb
    exact op_ne pins s σ H x y v u Q I rx ry ⟨z1, by rw [z2]; exact q⟩
  · unfold eqDD at h1
    split at h1
    · rename_i d e' hd he
      split at h1
      · rename_i hz
        cases h1
        exact op_neD o.u64 pins s σ H x y v u Q I rx ry ⟨d, e', by rw [o.K]; exact toD_ok R _ _ _ _ hd ra, by rw [o.K]; exact toD_ok R _ _ _ _ he rb, hz.1, hz.2, q⟩
      · cases h1
    · cases h1
/-- an order of ints and of texts -/
theorem ord_ok (o : Okx S sc N lev E X) {f : Value → Value → Sem Value} {op : Op2} {g : Int → Int → Bool} {t : List Nat → List Nat → Bool} (h1 : OpR X f (rI0 fun i j => .bl (g i j))) (h2 : OpR X f (fun x y H Q => ∃ i j, x = .str i ∧ y = .str j ∧ Q (.bl (t i.cps.toList j.cps.toList)) H))
    (e1 : ∀ i j G, op (.int i) (.int j) G = some (.bl (g i j), G)) (e2 : ∀ i j G, op (.str i) (.str j) G = some (.bl (t i j), G)) (e3 : ∀ x y G, op x y G ≠ none → (∃ i j, x = .int i ∧ y = .int j) ∨ ∃ i j, x = .str i ∧ y = .str j) : OpR X f (rO2 S op) := by
  intro pins s σ H x y v u Q I rx ry ⟨ρ, G, a, b, R, ra, rb, p⟩
  obtain ⟨w, G', e⟩ := p.ex1
  rcases e3 a b G (by rw [e]; simp) with ⟨i, j, rfl, rfl⟩ | ⟨i, j, rfl, rfl⟩
  · unfold VR at ra rb
    subst ra; subst rb
    rw [e1] at p
    exact h1 pins s σ H _ _ v u Q I rx ry ⟨i, j, rfl, rfl, p.old R (by unfold VR; rfl)⟩
  · unfold VR at ra rb
    subst ra; subst rb
    rw [e2] at p
    exact h2 pins s σ H _ _ v u Q I rx ry ⟨_, _, rfl, rfl, p.old R (by unfold VR; simp [toS])⟩
theorem vr_isN {ρ : Nat → Addr} {n : Nat} {H : Hp} {a : Va} {x : V} (r : VR S ρ n H a x) : isNon a = decide (x = .non) := by
  cases a with
  | tup xs => unfold VR at r; obtain ⟨b, ys, rfl, _⟩ := r; rfl
  | ref m => unfold VR at r; obtain ⟨_, rfl⟩ := r; rfl
  | xr c m => unfold VR at r; obtain ⟨_, a, rfl, _⟩ := r; rfl
  | _ => unfold VR at r; subst r; rfl
theorem is_ok (o : Okx S sc N lev E X) : OpR X (compareOp .Is) (rO2 S opIs) := by
  intro pins s σ H x y v u Q I rx ry ⟨ρ, G, a, b, R, ra, rb, p⟩
  cases b with
  | non =>
    unfold VR at rb; subst rb
    have e : opIs a .non G = some (.bl (isNon a), G) := by cases a <;> rfl
    rw [e] at p
    exact op_isN pins s σ H _ _ v u Q I rx ry ⟨rfl, p.old R (by unfold VR; rw [vr_isN ra])⟩
  | _ => cases a <;> exact (fin_no p).elim
theorem isnot_ok (o : Okx S sc N lev E X) : OpR X (compareOp .IsNot) (rO2 S opIsNot) := by
  intro pins s σ H x y v u Q I rx ry ⟨ρ, G, a, b, R, ra, rb, p⟩
  cases b with
  | non =>
    unfold VR at rb; subst rb
    have e : opIsNot a .non G = some (.bl (!isNon a), G) := by cases a <;> rfl
    rw [e] at p
    exact op_notN pins s σ H _ _ v u Q I rx ry ⟨rfl, p.old R (by unfold VR; rw [vr_isN ra])⟩
  | _ => cases a <;> exact (fin_no p).elim
end
end VM
namespace VM
open PySem PySem.Spec PyProof.Rows L2
section
variable {S : Sx} {sc : Scope} {N : List Str} {lev : Nat} {E : EW} {X : Cx} {ρ : Nat → Addr} {G : Gh} {H : Hp} {n : Nat}
theorem vr_flat {a : Va} {x : V} (r : VR S ρ n H a x) (h : flatA a = true) : flatV x = true := by
  cases a with
  | tup xs => exact absurd h (by simp [flatA])
  | ref m => exact absurd h (by simp [flatA])
  | cl m => exact absurd h (by simp [flatA])
  | ty m => exact absurd h (by simp [flatA])
  | xr c m => exact absurd h (by simp [flatA])
  | _ => unfold VR at r; subst r; rfl
theorem toS_beq (s t : Tx) : (toS s == toS t) = (s == t) := by
  rw [Bool.eq_iff_iff]
  simp only [beq_iff_eq]
  exact ⟨toS_inj, fun e => by rw [e]⟩
theorem vr_eqA {a b : Va} {x y : V} (r : VR S ρ n H a x) (q : VR S ρ n H b y) (h : flatA a = true) (h' : flatA b = true) : eqV x y = eqA a b := by
  cases a with
  | tup xs => exact absurd h (by simp [flatA])
  | ref m => exact absurd h (by simp [flatA])
  | cl m => exact absurd h (by simp [flatA])
  | ty m => exact absurd h (by simp [flatA])
  | xr c m => exact absurd h (by simp [flatA])
  | _ =>
    unfold VR at r; subst r
    cases b with
    | tup xs => exact absurd h' (by simp [flatA])
    | ref m => exact absurd h' (by simp [flatA])
    | cl m => exact absurd h' (by simp [flatA])
    | ty m => exact absurd h' (by simp [flatA])
    | xr c m => exact absurd h' (by simp [flatA])
    | _ => unfold VR at q; subst q; first | rfl | exact toS_beq _ _
theorem vrs_flat : ∀ {xs : List Va} {ys : List V}, VRs S ρ n H xs ys → xs.all flatA = true → ys.all flatV = true
  | [], _, r, _ => by unfold VRs at r; subst r; rfl
  | x :: xs, _, r, h => by
    unfold VRs at r
    obtain ⟨y, t, rfl, r1, r2⟩ := r
    simp only [List.all_cons, Bool.and_eq_true] at h ⊢
    exact ⟨vr_flat r1 h.1, vrs_flat r2 h.2⟩
theorem vrs_any {a : Va} {x : V} (r : VR S ρ n H a x) (h : flatA a = true) : ∀ {xs : List Va} {ys : List V}, VRs S ρ n H xs ys → xs.all flatA = true → (ys.any fun z => eqV z x) = xs.any fun z => eqA z a
  | [], _, q, _ => by unfold VRs at q; subst q; rfl
  | z :: xs, _, q, h' => by
    unfold VRs at q
    obtain ⟨y, t, rfl, r1, r2⟩ := q
    simp only [List.all_cons, Bool.and_eq_true] at h'
    simp only [List.any_cons]
    rw [vr_eqA r1 r h'.1 h, vrs_any r h r2 h'.2]
theorem seq_ok {b : Va} {y : V} {xs : List Va} (R : Rl S ρ G H) (h : seqO G b = some xs) (r : VR S ρ G.length H b y) : ∃ p ys, y = .ref p ∧ (SqL S.K H p ys ∨ SqT S.K H p ys) ∧ VRs S ρ G.length H xs ys := by
  cases b with
  | tup zs =>
    cases h
    unfold VR at r
    obtain ⟨a, ys, rfl, h1, h2⟩ := r
    exact ⟨a, ys, rfl, .inr h1, h2⟩
  | ref m =>
    unfold VR at r
    obtain ⟨_, rfl⟩ := r
    obtain ⟨ys, h1, h2⟩ := lst_ok R h
    exact ⟨_, ys, rfl, .inl h1, h2⟩
  | _ => cases h
theorem inAny_ok (o : Okx S sc N lev E X) {cop : CmpOp} {neg : Bool} {op : Op2} (hop : ∀ x y G, op x y G = (inSeq G x (seqO G y) y).map fun b => (.bl (if neg then !b else b), G)) (h1 : OpR X (compareOp cop) (rIn X.K neg))
    (h2 : OpR X (compareOp cop) (fun x y H Q => ∃ d ds, Dp X.K H x d ∧ Dp X.K H y (.list ds) ∧ SeqAt.shaped d = true ∧ SeqAt.shaped (.list ds) = true ∧ Q (.bl (if neg then !(ds.any fun z => PyData.eqv z d) else ds.any fun z => PyData.eqv z d)) H)) : OpR X (compareOp cop) (rO2 S op) := by
  intro pins s σ H x y v u Q I rx ry ⟨ρ, G, a, b, R, ra, rb, p⟩
  rw [hop] at p
  obtain ⟨w, G', e, k⟩ := p
  obtain ⟨c, e1, e2⟩ := Option.map_eq_some_iff.mp e
  cases e2
  have q : Q (.bl (if neg then !c else c)) H := k ρ H _ (Ext.refl _ _ _) R (by unfold VR; rfl)
  cases hs : seqO G b with
  | none => rw [hs] at e1; cases e1
  | some xs =>
    rw [hs] at e1
    have e1 : inS G a xs b = some c := e1
    unfold inS at e1
    split at e1
    · rename_i hf
      cases e1
      obtain ⟨pp, ys, rfl, hq, hv⟩ := seq_ok R hs rb
      refine h1 pins s σ H _ _ v u Q I rx ry ⟨pp, ys, rfl, by rw [o.K]; exact hq, vr_flat ra hf.1, vrs_flat hv hf.2, ?_⟩
      unfold inV
      rw [vrs_any ra hf.1 hv hf.2]
      exact q
    · cases b with
      | ref m =>
        have e1 : inDD (toD 29 G a) (mapO (toD 29 G) xs) = some c := e1
        unfold inDD at e1
        split at e1
        · rename_i d ds hd hds
          split at e1
          · rename_i hz
            cases e1
            refine h2 pins s σ H _ _ v u Q I rx ry ⟨d, ds, by rw [o.K]; exact toD_ok R _ _ _ _ hd ra, ?_, hz.1, hz.2, q⟩
            have hl : toD 30 G (.ref m) = some (.list ds) := by
              show ((lstO G[m]?).bind (mapO (toD 29 G))).map PyData.list = _
              rw [show lstO G[m]? = some xs from hs]
              show (mapO (toD 29 G) xs).map PyData.list = _
              rw [hds]; rfl
            rw [o.K]
            exact toD_ok R _ _ _ _ hl rb
          · cases e1
        · cases e1
      | _ => cases e1
theorem in_ok (o : Okx S sc N lev E X) : OpR X (compareOp .In) (rO2 S opIn) :=
  inAny_ok (neg := false) o (fun _ _ _ => rfl) op_in_seq (op_inD o.u65)
theorem notin_ok (o : Okx S sc N lev E X) : OpR X (compareOp .NotIn) (rO2 S opNotIn) :=
  inAny_ok (neg := true) o (fun _ _ _ => rfl) op_notIn_seq (op_notInD o.u65)
theorem cmp_ok (o : Okx S sc N lev E X) (op : CmpOp) : OpR X (compareOp op) (rO2 S (cmpF op)) := by
  cases op with
  | Eq => exact eq_ok o
  | NotEq => exact ne_ok o
  | Lt =>
    refine ord_ok o (g := fun i j => decide (i < j)) (t := fun i j => decide (i < j)) op_lt op_lt_str (fun _ _ _ => rfl) (fun _ _ _ => rfl) fun x y G h => ?_
    cases x <;> cases y <;> first | exact .inl ⟨_, _, rfl, rfl⟩ | exact .inr ⟨_, _, rfl, rfl⟩ | exact absurd rfl h
  | LtE =>
    refine ord_ok o (g := fun i j => decide (i ≤ j)) (t := fun i j => !decide (j < i)) op_le op_le_str (fun _ _ _ => rfl) (fun _ _ _ => rfl) fun x y G h => ?_
    cases x <;> cases y <;> first | exact .inl ⟨_, _, rfl, rfl⟩ | exact .inr ⟨_, _, rfl, rfl⟩ | exact absurd rfl h
  | Gt =>
    refine ord_ok o (g := fun i j => decide (j < i)) (t := fun i j => decide (j < i)) op_gt op_gt_str (fun _ _ _ => rfl) (fun _ _ _ => rfl) fun x y G h => ?_
    cases x <;> cases y <;> first | exact .inl ⟨_, _, rfl, rfl⟩ | exact .inr ⟨_, _, rfl, rfl⟩ | exact absurd rfl h
  | GtE =>
    refine ord_ok o (g := fun i j => decide (j ≤ i)) (t := fun i j => !decide (i < j)) op_ge op_ge_str (fun _ _ _ => rfl) (fun _ _ _ => rfl) fun x y G h => ?_
    cases x <;> cases y <;> first | exact .inl ⟨_, _, rfl, rfl⟩ | exact .inr ⟨_, _, rfl, rfl⟩ | exact absurd rfl h
  | Is => exact is_ok o
  | IsNot => exact isnot_ok o
  | In => exact in_ok o
  | NotIn => exact notin_ok o
end
end VM
namespace VM
open PySem PySem.Spec PyProof.Rows L2
theorem pe_imp {X : Cx} {e : Expr} {t t' : TE} (h : PE X e t) (k : ∀ σ H Q, t' σ H Q → t σ H Q) : PE X e t' := ⟨fun pins s σ H Q I q => h.run pins s σ H Q I (k σ H Q q)⟩
theorem pt_imp {X : Cx} {e : Expr} {t t' : TT} (h : PT X e t) (k : ∀ σ H Q, t' σ H Q → t σ H Q) : PT X e t' := ⟨fun pins s σ H Q I q => h.run pins s σ H Q I (k σ H Q q)⟩
theorem pa_imp {X : Cx} {e : List Expr} {t t' : TA} (h : PA X e t) (k : ∀ σ H Q, t' σ H Q → t σ H Q) : PA X e t' := ⟨fun pos pins s σ H Q I q => h.run pos pins s σ H Q I (k σ H Q q)⟩
/-- an expression as code: what it does, which text it stands for, that it does what the text does -/
structure CE (S : Sx) where
  ev : Lo → Gh → Res Va
  tv : Lo → Gh → Res Bool
  chk : List Str → Scope → Expr → Bool
  pe : ∀ {sc N lev E X e}, Okx S sc N lev E X → chk N sc e = true → PE X e (WE S E ev)
  pt : ∀ {sc N lev E X e}, Okx S sc N lev E X → chk N sc e = true → PT X e (WT S E tv)
  ns : ∀ {N sc e}, chk N sc e = true → isStar e = false
/-- a list of arguments -/
structure CA (S : Sx) where
  ev : Lo → Gh → Res (List Va)
  chk : List Str → Scope → List Expr → Bool
  pl : Bool
  pa : ∀ {sc N lev E X es}, Okx S sc N lev E X → chk N sc es = true → PA X es (WA S E ev)
  ns : ∀ {N sc es}, pl = true → chk N sc es = true → noStars es = true
section
variable {S : Sx}
theorem pt_of_pe {sc : Scope} {N : List Str} {lev : Nat} {E : EW} {X : Cx} {e : Expr} {ev : Lo → Gh → Res Va} (o : Okx S sc N lev E X) (he : PE X e (WE S E ev)) (hp : plainT e = true) : PT X e (WT S E fun L G => (ev L G).bind (tr S)) := by
  refine ⟨fun pins s σ H Q I h => ?_⟩
  obtain ⟨ρ, L, G, R, l, p⟩ := h
  refine isTrue_plain (thn (he.run pins s σ H (fun x H1 => ∃ ρ G a, Rl S ρ G H1 ∧ VR S ρ G.length H1 a x ∧ Post S relB (E σ) ρ G.length H1 Q (tr S a G)) I ⟨ρ, L, G, R, l, Post.bind p fun a G1 ρ1 H1 x e1 R1 r1 p1 => ⟨ρ1, G1, a, R1, r1, p1⟩⟩) fun v s1 ⟨x, H1, I1, rx, q⟩ => tr_ok o I1 rx q) (isTrue_plainT hp _)
def CE.plain (ev : Lo → Gh → Res Va) (chk : List Str → Scope → Expr → Bool) (pe : ∀ {sc N lev E X e}, Okx S sc N lev E X → chk N sc e = true → PE X e (WE S E ev)) (hp : ∀ N sc e, chk N sc e = true → plainT e = true ∧ isStar e = false) : CE S :=
  ⟨ev, fun L G => (ev L G).bind (tr S), chk, pe, fun o h => pt_of_pe o (pe o h) (hp _ _ _ h).1, fun h => (hp _ _ _ h).2⟩
/-! ### names and constants -/
def getL : Option (Option Va) → Gh → Res Va
  | some (some v), G => .ok v G
  | _, _ => .no
def kVar (i : Nat) (N : List Str) (sc : Scope) : Expr → Bool
  | .Name x _ => decide (N[i]? = some x) && (scVis sc x && (!(x == ("__debug__" : Str)) && !(x == ("__classdict__" : Str))))
  | _ => false
def cVar (i : Nat) : CE S := .plain (fun L G => getL L[i]? G) (kVar i) (fun {sc N lev E X e} o h => by
  cases e with
  | Name x pos =>
    simp only [kVar, Bool.and_eq_true, decide_eq_true_eq, Bool.not_eq_true'] at h
    obtain ⟨h1, h2, h3, h4⟩ := h
    refine pe_imp (pe_var (i := i) (by rw [o.N]; exact h1) (o.vis h2) h3 h4) fun σ H Q q => ?_
    obtain ⟨ρ, L, G, R, l, p⟩ := q
    have p : Post S (VR S) (E σ) ρ G.length H Q (getL L[i]? G) := p
    cases hl : L[i]? with
    | none => rw [hl] at p; exact p.elim
    | some a =>
      cases a with
      | none => rw [hl] at p; exact p.elim
      | some a =>
        rw [hl] at p
        obtain ⟨v, h5, h6⟩ := l i a hl
        exact ⟨v, h5, p ρ H v (Ext.refl _ _ _) R h6⟩
  | _ => cases h) fun N sc e h => by cases e <;> first | exact ⟨rfl, rfl⟩ | cases h
theorem we_now {E : EW} {σ : L2.St} {H : Hp} {Q : VK} {a : Va} {v : V} (h : WE S E (fun _ G => .ok a G) σ H Q) (hv : ∀ ρ n H, VR S ρ n H a v) : Q v H := by
  obtain ⟨ρ, L, G, R, l, p⟩ := h
  exact p ρ H v (Ext.refl _ _ _) R (hv _ _ _)
def kI (i : Int) (N : List Str) (sc : Scope) : Expr → Bool
  | .Constant (.int j) _ _ => decide (i = j)
  | _ => false
def cI (i : Int) : CE S := .plain (fun _ G => .ok (.int i) G) (kI i) (fun {sc N lev E X e} o h => by
  cases e with
  | Constant c j pos =>
    cases c with
    | int j =>
      have e : i = j := by simpa [kI] using h
      subst e
      exact pe_imp pe_int fun σ H Q q => we_now q fun _ _ _ => by unfold VR; rfl
    | _ => cases h
  | _ => cases h) fun N sc e h => by cases e <;> first | exact ⟨rfl, rfl⟩ | cases h
def kS (i : Tx) (N : List Str) (sc : Scope) : Expr → Bool
  | .Constant (.str j) _ _ => decide (toS i = j)
  | _ => false
def cS (i : Tx) : CE S := .plain (fun _ G => .ok (.str i) G) (kS i) (fun {sc N lev E X e} o h => by
  cases e with
  | Constant c j pos =>
    cases c with
    | str j =>
      have e : toS i = j := by simpa [kS] using h
      subst e
      exact pe_imp pe_str fun σ H Q q => we_now q fun _ _ _ => by unfold VR; rfl
    | _ => cases h
  | _ => cases h) fun N sc e h => by cases e <;> first | exact ⟨rfl, rfl⟩ | cases h
def kB (i : Bool) (N : List Str) (sc : Scope) : Expr → Bool
  | .Constant (.bool j) _ _ => decide (i = j)
  | _ => false
def cB (i : Bool) : CE S := .plain (fun _ G => .ok (.bl i) G) (kB i) (fun {sc N lev E X e} o h => by
  cases e with
  | Constant c j pos =>
    cases c with
    | bool j =>
      have e : i = j := by simpa [kB] using h
      subst e
      exact pe_imp pe_bl fun σ H Q q => we_now q fun _ _ _ => by unfold VR; rfl
    | _ => cases h
  | _ => cases h) fun N sc e h => by cases e <;> first | exact ⟨rfl, rfl⟩ | cases h
def kN (N : List Str) (sc : Scope) : Expr → Bool
  | .Constant .none _ _ => true
  | _ => false
def cN : CE S := .plain (fun _ G => .ok .non G) kN (fun {sc N lev E X e} o h => by
  cases e with
  | Constant c j pos =>
    cases c with
    | none => exact pe_imp pe_non fun σ H Q q => we_now q fun _ _ _ => by unfold VR; rfl
    | _ => cases h
  | _ => cases h) fun N sc e h => by cases e <;> first | exact ⟨rfl, rfl⟩ | cases h
/-- a constant of the module -/
def glv (S : Sx) (j : Nat) : Va := ((S.gl[j]?).map (·.2)).getD .non
def kGl (S : Sx) (j : Nat) (N : List Str) (sc : Scope) : Expr → Bool
  | .Name x _ => decide ((S.gl[j]?).map (·.1) = some x) && (scIs sc x .globalImplicit && !(x == ("__debug__" : Str)))
  | _ => false
def cGl (j : Nat) : CE S := .plain (fun _ G => .ok (glv S j) G) (kGl S j) (fun {sc N lev E X e} o h => by
  cases e with
  | Name x pos =>
    simp only [kGl, Bool.and_eq_true, decide_eq_true_eq, Bool.not_eq_true'] at h
    obtain ⟨h1, h2, h3⟩ := h
    obtain ⟨p, hp, rfl⟩ := Option.map_eq_some_iff.mp h1
    obtain ⟨v', u, g1, g2, g3⟩ := o.good.gl p (List.mem_of_getElem? hp)
    refine pe_imp (pe_glob (v := v') (o.gl h2) (by rw [o.mg]; exact g1) g2 h3) fun σ H Q q => ?_
    refine we_now q fun ρ n H => ?_
    have e : glv S j = p.2 := by unfold glv; rw [hp]; rfl
    rw [e]; exact g3 ρ n H
  | _ => cases h) fun N sc e h => by cases e <;> first | exact ⟨rfl, rfl⟩ | cases h
/-- a class as a value -/
def kCl (S : Sx) (c : Nat) (N : List Str) (sc : Scope) : Expr → Bool
  | .Name x _ => decide ((x, c) ∈ S.cg) && (scIs sc x .globalImplicit && !(x == ("__debug__" : Str)))
  | _ => false
def cCl (c : Nat) : CE S := .plain (fun _ G => .ok (.cl c) G) (kCl S c) (fun {sc N lev E X e} o h => by
  cases e with
  | Name x pos =>
    simp only [kCl, Bool.and_eq_true, decide_eq_true_eq, Bool.not_eq_true'] at h
    obtain ⟨h1, h2, h3⟩ := h
    obtain ⟨_, g1, _⟩ := o.good.cg _ h1
    exact pe_imp (pe_glob (v := .ref (S.ca c)) (o.gl h2) (by rw [o.mg]; exact g1) rfl h3) fun σ H Q q => we_now q fun ρ n H => by unfold VR; rfl
  | _ => cases h) fun N sc e h => by cases e <;> first | exact ⟨rfl, rfl⟩ | cases h
/-- a built-in type as a value -/
def isTyB (n : String) : Option Value → Bool
  | some (.type m) => decide (n = m)
  | _ => false
theorem isTyB_eq {n : String} {o : Option Value} (h : isTyB n o = true) : o = some (.type n) := by
  unfold isTyB at h
  split at h
  · rw [of_decide_eq_true h]
  · cases h
def kTy (S : Sx) (n : String) (N : List Str) (sc : Scope) : Expr → Bool
  | .Name x _ => decide (x ∈ S.bl) && (isTyB n (bootBuiltins x) && (scIs sc x .globalImplicit && (!(x == ("__debug__" : Str)) && !decide (x = "__name__"))))
  | _ => false
def cTy (n : String) : CE S := .plain (fun _ G => .ok (.ty n) G) (kTy S n) (fun {sc N lev E X e} o h => by
  cases e with
  | Name x pos =>
    simp only [kTy, Bool.and_eq_true, decide_eq_true_eq, Bool.not_eq_true', decide_eq_false_iff_not] at h
    obtain ⟨h1, h2, h3, h4, h5⟩ := h
    exact pe_imp (pe_bltn (v := .ty n) (o.gl h3) (by rw [o.mg]; exact o.good.bl _ h1) (isTyB_eq h2) rfl h5 h4) fun σ H Q q => we_now q fun ρ n H => by unfold VR; rfl
  | _ => cases h) fun N sc e h => by cases e <;> first | exact ⟨rfl, rfl⟩ | cases h
/-! ### lists of arguments, displays -/
theorem aNil_pa {sc : Scope} {N : List Str} {lev : Nat} {E : EW} {X : Cx} {es : List Expr} (o : Okx S sc N lev E X) (h : es.isEmpty = true) : PA X es (WA S E fun _ G => .ok [] G) := by
  cases es with
  | nil =>
    refine pa_imp pa_nil fun σ H Q q => ?_
    obtain ⟨ρ, L, G, R, l, p⟩ := q
    exact p ρ H [] (Ext.refl _ _ _) R .nil
  | cons _ _ => cases h
theorem aNil_ns {es : List Expr} (h : es.isEmpty = true) : noStars es = true := by
  cases es with
  | nil => rfl
  | cons _ _ => cases h
def aNil : CA S := ⟨fun _ G => .ok [] G, fun _ _ es => es.isEmpty, true, aNil_pa, fun _ h => aNil_ns h⟩
def kCons (a : CE S) (r : CA S) (N : List Str) (sc : Scope) : List Expr → Bool
  | e :: es => a.chk N sc e && r.chk N sc es
  | [] => false
def eCons (a : CE S) (r : CA S) : Lo → Gh → Res (List Va) := fun L G => (a.ev L G).bind fun v G1 => (r.ev L G1).bind fun vs G2 => .ok (v :: vs) G2
theorem aCons_pa (a : CE S) (r : CA S) {sc : Scope} {N : List Str} {lev : Nat} {E : EW} {X : Cx} {es : List Expr} (o : Okx S sc N lev E X) (h : kCons a r N sc es = true) : PA X es (WA S E (eCons a r)) := by
  cases es with
  | nil => cases h
  | cons e es =>
    simp only [kCons, Bool.and_eq_true] at h
    refine pa_imp (pa_cons (a.pe o h.1) (r.pa o h.2) (starEach_cons (a.ns h.1))) fun σ H Q q => ?_
    obtain ⟨ρ, L, G, R, l, p⟩ := q
    refine ⟨ρ, L, G, R, l, Post.bind p fun v G1 ρ1 H1 x e1 R1 r1 p1 => ?_⟩
    refine ⟨ρ1, L, G1, R1, l.mono e1, Post.bind p1 fun vs G2 ρ2 H2 xs e2 R2 r2 p2 => ?_⟩
    exact p2 ρ2 H2 (x :: xs) (Ext.refl _ _ _) R2 (VRs.cons (r1.mono e2) r2)
theorem aCons_ns (a : CE S) (r : CA S) {sc : Scope} {N : List Str} {es : List Expr} (hp : r.pl = true) (h : kCons a r N sc es = true) : noStars es = true := by
  cases es with
  | nil => cases h
  | cons e es =>
    simp only [kCons, Bool.and_eq_true] at h
    have h2 := r.ns hp h.2
    unfold noStars at h2 ⊢
    simp only [List.all_cons, Bool.and_eq_true, Bool.not_eq_true']
    exact ⟨a.ns h.1, h2⟩
def aCons (a : CE S) (r : CA S) : CA S := ⟨eCons a r, kCons a r, r.pl, aCons_pa a r, aCons_ns a r⟩
def seqR (G : Gh) : Option (List Va) → Res (List Va)
  | some xs => .ok xs G
  | none => .no
def kStar (a : CE S) (r : CA S) (N : List Str) (sc : Scope) : List Expr → Bool
  | .Starred e _ :: es => a.chk N sc e && r.chk N sc es
  | _ => false
def eStar (a : CE S) (r : CA S) : Lo → Gh → Res (List Va) := fun L G => (a.ev L G).bind fun v G1 => (seqR G1 (seqO G1 v)).bind fun xs G1 => (r.ev L G1).bind fun vs G2 => .ok (xs ++ vs) G2
theorem aStar_pa (a : CE S) (r : CA S) {sc : Scope} {N : List Str} {lev : Nat} {E : EW} {X : Cx} {es : List Expr} (o : Okx S sc N lev E X) (h : kStar a r N sc es = true) : PA X es (WA S E (eStar a r)) := by
  cases es with
  | nil => cases h
  | cons e es =>
    cases e with
    | Starred e pos =>
      simp only [kStar, Bool.and_eq_true] at h
      refine pa_imp (StX.pa_star (a.pe o h.1) (r.pa o h.2) rfl) fun σ H Q q => ?_
      obtain ⟨ρ, L, G, R, l, p⟩ := q
      refine ⟨ρ, L, G, R, l, Post.bind p fun v G1 ρ1 H1 x e1 R1 r1 p1 => ?_⟩
      cases hs : seqO G1 v with
      | none => rw [hs] at p1; exact p1.elim
      | some zs =>
        rw [hs] at p1
        obtain ⟨b, ys, rfl, hq, hv⟩ := seq_ok R1 hs r1
        refine ⟨b, ys, rfl, by rw [o.K]; exact hq.symm, ρ1, L, G1, R1, l.mono e1, Post.bind (r := r.ev L G1) p1 fun vs G2 ρ2 H2 xs e2 R2 r2 p2 => ?_⟩
        exact p2 ρ2 H2 (ys ++ xs) (Ext.refl _ _ _) R2 ((hv.mono e2).append r2)
    | _ => cases h
def aStar (a : CE S) (r : CA S) : CA S := ⟨eStar a r, kStar a r, false, aStar_pa a r, fun hp _ => by cases hp⟩
def tupR (xs : List Va) (G : Gh) : Res Va := if xs.length ≤ sizeLine then .ok (.tup xs) G else .no
def lstR (xs : List Va) (G : Gh) : Res Va := if xs.length ≤ sizeLine then .ok (.ref G.length) (G ++ [.lst false xs]) else .no
def kTup (r : CA S) (N : List Str) (sc : Scope) : Expr → Bool
  | .Tuple es _ _ => r.chk N sc es
  | _ => false
def cTup (r : CA S) : CE S := .plain (fun L G => (r.ev L G).bind tupR) (kTup r) (fun {sc N lev E X e} o h => by
  cases e with
  | Tuple es k pos =>
    refine pe_imp (pe_tup (r.pa o h)) fun σ H Q q => ?_
    obtain ⟨ρ, L, G, R, l, p⟩ := q
    refine ⟨ρ, L, G, R, l, Post.bind p fun vs G1 ρ1 H1 xs e1 R1 r1 p1 => ?_⟩
    unfold tupR at p1
    split at p1
    · rename_i hz
      refine ⟨by rw [r1.length]; exact hz, fun q hq => ?_⟩
      have e2 : Ext ρ1 G1.length H1 ρ1 G1.length (upd H1 q (.tup xs)) := Ext.new hq
      refine p1 ρ1 _ _ e2 (R1.new hq) ?_
      unfold VR
      exact ⟨q, xs, rfl, SqT.of upd_same, r1.mono e2⟩
    · exact p1.elim
  | _ => cases h) fun N sc e h => by cases e <;> first | exact ⟨rfl, rfl⟩ | cases h
def kLst (r : CA S) (N : List Str) (sc : Scope) : Expr → Bool
  | .List es _ => r.chk N sc es
  | _ => false
def cLst (r : CA S) : CE S := .plain (fun L G => (r.ev L G).bind lstR) (kLst r) (fun {sc N lev E X e} o h => by
  cases e with
  | List es pos =>
    refine pe_imp (pe_lst (r.pa o h)) fun σ H Q q => ?_
    obtain ⟨ρ, L, G, R, l, p⟩ := q
    refine ⟨ρ, L, G, R, l, Post.bind p fun vs G1 ρ1 H1 xs e1 R1 r1 p1 => ?_⟩
    unfold lstR at p1
    split at p1
    · rename_i hz
      refine ⟨by rw [r1.length]; exact hz, fun q hq => ?_⟩
      obtain ⟨a1, a2, a3⟩ := rl_lst R1 r1 hq
      exact p1 _ _ _ a2 a1 a3
    · exact p1.elim
  | _ => cases h) fun N sc e h => by cases e <;> first | exact ⟨rfl, rfl⟩ | cases h
/-! ### operators -/
def kBin (op : Operator) (a b : CE S) (N : List Str) (sc : Scope) : Expr → Bool
  | .BinOp x op' y _ => decide (op = op') && (a.chk N sc x && b.chk N sc y)
  | _ => false
/-- two operands, then what is done with them -/
theorem two_ok {sc : Scope} {N : List Str} {lev : Nat} {E : EW} {X : Cx} (a b : CE S) (op : Op2) {σ : L2.St} {H : Hp} {Q : VK} (q : WE S E (fun L G => (a.ev L G).bind fun x G1 => (b.ev L G1).bind fun y G2 => lift (op x y G2)) σ H Q) : tOp (rO2 S op) (WE S E a.ev) (WE S E b.ev) σ H Q := by
  obtain ⟨ρ, L, G, R, l, p⟩ := q
  refine ⟨ρ, L, G, R, l, Post.bind p fun v G1 ρ1 H1 x e1 R1 r1 p1 => ?_⟩
  refine ⟨ρ1, L, G1, R1, l.mono e1, Post.bind p1 fun w G2 ρ2 H2 y e2 R2 r2 p2 => ?_⟩
  exact ⟨ρ2, G2, v, w, R2, r1.mono e2, r2, fin_of_lift p2⟩
def cBin (op : Operator) (a b : CE S) : CE S := .plain (fun L G => (a.ev L G).bind fun x G1 => (b.ev L G1).bind fun y G2 => lift (binF op x y G2)) (kBin op a b) (fun {sc N lev E X e} o h => by
  cases e with
  | BinOp x op' y pos =>
    simp only [kBin, Bool.and_eq_true, decide_eq_true_eq] at h
    obtain ⟨rfl, h1, h2⟩ := h
    exact pe_imp (pe_op (bin_ok o op) (a.pe o h1) (b.pe o h2)) fun σ H Q q => two_ok (sc := sc) (N := N) (lev := lev) (X := X) a b (binF op) q
  | _ => cases h) fun N sc e h => by cases e <;> first | exact ⟨rfl, rfl⟩ | cases h
def negF : Op1
  | .int i, G => some (.int (-i), G)
  | _, _ => none
def kNeg (a : CE S) (N : List Str) (sc : Scope) : Expr → Bool
  | .UnaryOp .USub x _ => a.chk N sc x
  | _ => false
def cNeg (a : CE S) : CE S := .plain (fun L G => (a.ev L G).bind fun x G1 => lift (negF x G1)) (kNeg a) (fun {sc N lev E X e} o h => by
  cases e with
  | UnaryOp op x pos =>
    cases op with
    | USub =>
      refine pe_imp (pe_un un_neg (a.pe o h)) fun σ H Q q => ?_
      obtain ⟨ρ, L, G, R, l, p⟩ := q
      refine ⟨ρ, L, G, R, l, Post.bind p fun v G1 ρ1 H1 x e1 R1 r1 p1 => ?_⟩
      cases v with
      | int i =>
        unfold VR at r1; subst r1
        exact ⟨i, rfl, p1 ρ1 H1 _ (Ext.refl _ _ _) R1 (by unfold VR; rfl)⟩
      | _ => exact p1.elim
    | _ => cases h
  | _ => cases h) fun N sc e h => by
    cases e with
    | UnaryOp op x pos => cases op <;> first | exact ⟨rfl, rfl⟩ | cases h
    | _ => cases h
end
end VM
namespace VM
open PySem PySem.Spec PyProof.Rows L2
section
variable {S : Sx}
theorem cmpF_bl {op : CmpOp} {a b : Va} {G G' : Gh} {v : Va} (h : cmpF op a b G = some (v, G')) : ∃ c, v = .bl c ∧ G' = G := by
  have mp : ∀ {o : Option Bool} {g : Bool → Bool}, (o.map fun b => (Va.bl (g b), G)) = some (v, G') → ∃ c, v = .bl c ∧ G' = G := fun {o g} q => by
    obtain ⟨c, _, e⟩ := Option.map_eq_some_iff.mp q
    cases e
    exact ⟨_, rfl, rfl⟩
  cases op with
  | Eq => exact mp (g := fun b => b) h
  | NotEq => exact mp (g := fun b => !b) h
  | In => exact mp (g := fun b => b) h
  | NotIn => exact mp (g := fun b => !b) h
  | Lt => cases a <;> cases b <;> first | (cases h; exact ⟨_, rfl, rfl⟩) | cases h
  | LtE => cases a <;> cases b <;> first | (cases h; exact ⟨_, rfl, rfl⟩) | cases h
  | Gt => cases a <;> cases b <;> first | (cases h; exact ⟨_, rfl, rfl⟩) | cases h
  | GtE => cases a <;> cases b <;> first | (cases h; exact ⟨_, rfl, rfl⟩) | cases h
  | Is => cases a <;> cases b <;> first | (cases h; exact ⟨_, rfl, rfl⟩) | cases h
  | IsNot => cases a <;> cases b <;> first | (cases h; exact ⟨_, rfl, rfl⟩) | cases h
def kCmp (op : CmpOp) (a b : CE S) (N : List Str) (sc : Scope) : Expr → Bool
  | .Compare x [op'] [y] _ => decide (op = op') && (!isSetE y && (a.chk N sc x && b.chk N sc y))
  | _ => false
def eCmp (op : CmpOp) (a b : CE S) : Lo → Gh → Res Va := fun L G => (a.ev L G).bind fun x G1 => (b.ev L G1).bind fun y G2 => lift (cmpF op x y G2)
theorem cCmp_pe (op : CmpOp) (a b : CE S) {sc : Scope} {N : List Str} {lev : Nat} {E : EW} {X : Cx} {e : Expr} (o : Okx S sc N lev E X) (h : kCmp op a b N sc e = true) : PE X e (WE S E (eCmp op a b)) := by
  unfold kCmp at h
  split at h
  · simp only [Bool.and_eq_true, decide_eq_true_eq, Bool.not_eq_true'] at h
    obtain ⟨rfl, h0, h1, h2⟩ := h
    exact pe_imp (pe_cmpR (cmp_ok o op) (a.pe o h1) (b.pe o h2) (marks_plain h0)) fun σ H Q q => two_ok (sc := sc) (N := N) (lev := lev) (X := X) a b (cmpF op) q
  · cases h
theorem eCmp_bl {op : CmpOp} {a b : CE S} {L : Lo} {G G' : Gh} {v : Va} (h : eCmp op a b L G = .ok v G') : ∃ c, v = .bl c := by
  obtain ⟨x, G1, _, h2⟩ := bind_inv h
  obtain ⟨y, G2, _, h3⟩ := bind_inv h2
  obtain ⟨c, e, _⟩ := cmpF_bl (lift_inv h3)
  exact ⟨c, e⟩
theorem cCmp_pt (op : CmpOp) (a b : CE S) {sc : Scope} {N : List Str} {lev : Nat} {E : EW} {X : Cx} {e : Expr} (o : Okx S sc N lev E X) (h : kCmp op a b N sc e = true) : PT X e (WT S E fun L G => (eCmp op a b L G).bind (tr S)) := by
  unfold kCmp at h
  split at h
  · simp only [Bool.and_eq_true, decide_eq_true_eq, Bool.not_eq_true'] at h
    obtain ⟨rfl, h0, h1, h2⟩ := h
    refine pt_imp (pt_cmpR (cmp_ok o op) (a.pe o h1) (b.pe o h2) (marks_plain h0)) fun σ H Q q => ?_
    refine two_ok (sc := sc) (N := N) (lev := lev) (X := X) a b (cmpF op) (Q := fun x H' => ∃ k, x = .bl k ∧ Q k H') ?_
    obtain ⟨ρ, L, G, R, l, p⟩ := q
    refine ⟨ρ, L, G, R, l, Post.bindE (r := eCmp op a b L G) p fun v G1 ρ1 H1 x er e1 R1 r1 p1 => ?_⟩
    obtain ⟨c, rfl⟩ := eCmp_bl er
    unfold VR at r1; subst r1
    exact ⟨c, rfl, p1 ρ1 H1 c (Ext.refl _ _ _) R1 rfl⟩
  · cases h
def cCmp (op : CmpOp) (a b : CE S) : CE S := ⟨eCmp op a b, fun L G => (eCmp op a b L G).bind (tr S), kCmp op a b, cCmp_pe op a b, cCmp_pt op a b, fun {N sc e} h => by cases e <;> first | rfl | cases h⟩
/-! ### a op b op c -/
def chnK (op : CmpOp) (c : CE S) (L : Lo) (y : Va) : Va → Gh → Res Va
  | .bl true, G => (c.ev L G).bind fun z G1 => lift (cmpF op y z G1)
  | .bl false, G => .ok (.bl false) G
  | _, _ => .no
def eChn (o1 o2 : CmpOp) (a b c : CE S) : Lo → Gh → Res Va := fun L G => (a.ev L G).bind fun x G1 => (b.ev L G1).bind fun y G2 => (lift (cmpF o1 x y G2)).bind (chnK o2 c L y)
def kChn (o1 o2 : CmpOp) (a b c : CE S) (N : List Str) (sc : Scope) : Expr → Bool
  | .Compare x [p1, p2] [y, z] _ => decide (o1 = p1) && (decide (o2 = p2) && (!isSetE z && (a.chk N sc x && (b.chk N sc y && c.chk N sc z))))
  | _ => false
theorem eChn_bl {o1 o2 : CmpOp} {a b c : CE S} {L : Lo} {G G' : Gh} {v : Va} (h : eChn o1 o2 a b c L G = .ok v G') : ∃ c, v = .bl c := by
  obtain ⟨x, G1, _, h2⟩ := bind_inv h
  obtain ⟨y, G2, _, h3⟩ := bind_inv h2
  obtain ⟨z, G3, h4, h5⟩ := bind_inv h3
  obtain ⟨k, rfl, rfl⟩ := cmpF_bl (lift_inv h4)
  cases k with
  | false => cases h5; exact ⟨_, rfl⟩
  | true =>
    obtain ⟨w, G4, _, h6⟩ := bind_inv (r := c.ev L G3) h5
    obtain ⟨k, e, _⟩ := cmpF_bl (lift_inv h6)
    exact ⟨k, e⟩
theorem chn_ok {sc : Scope} {N : List Str} {lev : Nat} {E : EW} {X : Cx} {o1 o2 : CmpOp} (a b c : CE S) {σ : L2.St} {H : Hp} {Q : VK} (q : WE S E (eChn o1 o2 a b c) σ H Q) :
    tChain (rO2 S (cmpF o1)) (rO2 S (cmpF o2)) (WE S E a.ev) (WE S E b.ev) (WE S E c.ev) σ H Q := by
  obtain ⟨ρ, L, G, R, l, p⟩ := q
  refine ⟨ρ, L, G, R, l, Post.bind p fun v G1 ρ1 H1 x e1 R1 r1 p1 => ?_⟩
  refine ⟨ρ1, L, G1, R1, l.mono e1, Post.bind p1 fun w G2 ρ2 H2 y e2 R2 r2 p2 => ?_⟩
  refine ⟨ρ2, G2, v, w, R2, r1.mono e2, r2, ?_⟩
  cases hc : cmpF o1 v w G2 with
  | none => rw [hc] at p2; exact p2.elim
  | some z =>
    obtain ⟨z, G3⟩ := z
    obtain ⟨k, rfl, rfl⟩ := cmpF_bl hc
    rw [hc] at p2
    refine ⟨_, _, rfl, fun ρ3 H3 z' e3 R3 r3 => ?_⟩
    unfold VR at r3; subst r3
    refine ⟨k, rfl, ?_⟩
    cases k with
    | false =>
      rw [if_neg Bool.false_ne_true]
      exact p2 ρ3 H3 _ e3 R3 (by unfold VR; rfl)
    | true =>
      rw [if_pos rfl]
      have p3 : Post S (VR S) (E σ) ρ3 G3.length H3 Q ((c.ev L G3).bind fun z G1 => lift (cmpF o2 w z G1)) := Post.after p2 e3
      refine ⟨ρ3, L, G3, R3, (l.mono e1).mono (e2.trans e3), Post.bind p3 fun u G4 ρ4 H4 z e4 R4 r4 p4 => ?_⟩
      exact ⟨ρ4, G4, w, u, R4, r2.mono (e3.trans e4), r4, fin_of_lift p4⟩
theorem chn_marks {o1 o2 : CmpOp} {y z : Expr} (h : isSetE z = false) : lastMarks [o1, o2] [y, z] = false := by
  show behindInMarks o2 z = false
  exact marks_plain h
theorem cChn_pe (o1 o2 : CmpOp) (a b c : CE S) {sc : Scope} {N : List Str} {lev : Nat} {E : EW} {X : Cx} {e : Expr} (o : Okx S sc N lev E X) (h : kChn o1 o2 a b c N sc e = true) : PE X e (WE S E (eChn o1 o2 a b c)) := by
  unfold kChn at h
  split at h
  · simp only [Bool.and_eq_true, decide_eq_true_eq, Bool.not_eq_true'] at h
    obtain ⟨rfl, rfl, h0, h1, h2, h3⟩ := h
    exact pe_imp (pe_chain (cmp_ok o o1) (cmp_ok o o2) (a.pe o h1) (b.pe o h2) (c.pe o h3) (chn_marks h0)) fun σ H Q q => chn_ok (sc := sc) (N := N) (lev := lev) (X := X) a b c q
  · cases h
theorem cChn_pt (o1 o2 : CmpOp) (a b c : CE S) {sc : Scope} {N : List Str} {lev : Nat} {E : EW} {X : Cx} {e : Expr} (o : Okx S sc N lev E X) (h : kChn o1 o2 a b c N sc e = true) : PT X e (WT S E fun L G => (eChn o1 o2 a b c L G).bind (tr S)) := by
  unfold kChn at h
  split at h
  · simp only [Bool.and_eq_true, decide_eq_true_eq, Bool.not_eq_true'] at h
    obtain ⟨rfl, rfl, h0, h1, h2, h3⟩ := h
    refine pt_imp (pt_chain (cmp_ok o o1) (cmp_ok o o2) (a.pe o h1) (b.pe o h2) (c.pe o h3) (chn_marks h0)) fun σ H Q q => ?_
    refine chn_ok (sc := sc) (N := N) (lev := lev) (X := X) (Q := fun x H' => ∃ k, x = .bl k ∧ Q k H') a b c ?_
    obtain ⟨ρ, L, G, R, l, p⟩ := q
    refine ⟨ρ, L, G, R, l, Post.bindE (r := eChn o1 o2 a b c L G) p fun v G1 ρ1 H1 x er e1 R1 r1 p1 => ?_⟩
    obtain ⟨k, rfl⟩ := eChn_bl er
    unfold VR at r1; subst r1
    exact ⟨k, rfl, p1 ρ1 H1 k (Ext.refl _ _ _) R1 rfl⟩
  · cases h
def cChn (o1 o2 : CmpOp) (a b c : CE S) : CE S := ⟨eChn o1 o2 a b c, fun L G => (eChn o1 o2 a b c L G).bind (tr S), kChn o1 o2 a b c, cChn_pe o1 o2 a b c, cChn_pt o1 o2 a b c, fun {N sc e} h => by cases e <;> first | rfl | cases h⟩
/-! ### not, and, or, a if t else b -/
def eT (a : CE S) : Lo → Gh → Res Bool := fun L G => (a.ev L G).bind (tr S)
def eNot (a : CE S) : Lo → Gh → Res Va := fun L G => (eT a L G).bind fun b G1 => .ok (.bl (!b)) G1
def kNot (a : CE S) (N : List Str) (sc : Scope) : Expr → Bool
  | .UnaryOp .Not x _ => a.chk N sc x
  | _ => false
theorem bind_assoc {α β γ : Type} (r : Res α) (f : α → Gh → Res β) (g : β → Gh → Res γ) : (r.bind f).bind g = r.bind fun a G => (f a G).bind g := by
  cases r <;> rfl
theorem cNot_pe (a : CE S) {sc : Scope} {N : List Str} {lev : Nat} {E : EW} {X : Cx} {e : Expr} (o : Okx S sc N lev E X) (h : kNot a N sc e = true) : PE X e (WE S E (eNot a)) := by
  unfold kNot at h
  split at h
  · refine ⟨fun pins s σ H Q I q => ?_⟩
    obtain ⟨ρ, L, G, R, l, p⟩ := q
    have p : Post S (VR S) (E σ) ρ G.length H Q ((a.ev L G).bind fun v G1 => (tr S v G1).bind fun b G2 => .ok (.bl (!b)) G2) := by
      have p := p
      unfold eNot eT at p
      rw [bind_assoc] at p
      exact p
    refine UnaryOp_ (thn ((a.pe o h).run pins s σ H (fun x H1 => ∃ ρ G v, Rl S ρ G H1 ∧ VR S ρ G.length H1 v x ∧ Post S (VR S) (E σ) ρ G.length H1 Q ((tr S v G).bind fun b G2 => .ok (.bl (!b)) G2)) I ⟨ρ, L, G, R, l, Post.bind p fun v G1 ρ1 H1 x e1 R1 r1 p1 => ⟨ρ1, G1, v, R1, r1, p1⟩⟩) fun u s1 hh => ?_)
    obtain ⟨x, H1, I1, rx, ρ1, G1, v, R1, r1, p1⟩ := hh
    refine not_of (thn (tr_ok o I1 rx (Q := fun b H' => Q (.bl (!b)) H') ⟨ρ1, G1, v, R1, r1, Post.bind p1 fun b G2 ρ2 H2 c e2 R2 r2 p2 => ?_⟩) fun c s2 hh => ?_)
    · cases r2
      exact p2 ρ2 H2 _ (Ext.refl _ _ _) R2 (by unfold VR; rfl)
    · obtain ⟨H2, I2, q2⟩ := hh
      exact ⟨.bl (!c), H2, I2, rfl, q2⟩
  · cases h
def tNt (a : CE S) : Lo → Gh → Res Bool := fun L G => (a.tv L G).bind fun b G1 => .ok (!b) G1
theorem cNot_pt (a : CE S) {sc : Scope} {N : List Str} {lev : Nat} {E : EW} {X : Cx} {e : Expr} (o : Okx S sc N lev E X) (h : kNot a N sc e = true) : PT X e (WT S E (tNt a)) := by
  unfold kNot at h
  split at h
  · refine pt_imp (pt_not (a.pt o h)) fun σ H Q q => ?_
    obtain ⟨ρ, L, G, R, l, p⟩ := q
    refine ⟨ρ, L, G, R, l, Post.bind (r := a.tv L G) p fun v G1 ρ1 H1 x e1 R1 r1 p1 => ?_⟩
    cases r1
    exact p1 ρ1 H1 _ (Ext.refl _ _ _) R1 rfl
  · cases h
def cNot (a : CE S) : CE S := ⟨eNot a, tNt a, kNot a, cNot_pe a, cNot_pt a, fun {N sc e} h => by cases e <;> first | rfl | cases h⟩
/-- and (true), or (false): the values as Python hands them on -/
def eBop (c : Bool) : CE S → List (CE S) → Lo → Gh → Res Va
  | a, [] => a.ev
  | a, b :: r => fun L G => (a.ev L G).bind fun v G1 => (tr S v G1).bind fun t G2 => if t = c then eBop c b r L G2 else .ok v G2
def kList : List (CE S) → List Str → Scope → List Expr → Bool
  | [], _, _, es => es.isEmpty
  | a :: r, N, sc, e :: es => a.chk N sc e && kList r N sc es
  | _ :: _, _, _, [] => false
def boolC (c : Bool) : BoolOp := if c then .And else .Or
def kBop (c : Bool) (a : CE S) (r : List (CE S)) (N : List Str) (sc : Scope) : Expr → Bool
  | .BoolOp op xs _ => decide (op = boolC c) && kList (a :: r) N sc xs
  | _ => false
theorem bop_pe {sc : Scope} {N : List Str} {lev : Nat} {E : EW} {X : Cx} (o : Okx S sc N lev E X) (c : Bool) {pos : Pos} : ∀ (r : List (CE S)) (a : CE S) (xs : List Expr), kList (a :: r) N sc xs = true → PE X (.BoolOp (boolC c) xs pos) (WE S E (eBop c a r))
  | [], a, xs, h => by
    cases xs with
    | nil => cases h
    | cons x xs =>
      simp only [kList, Bool.and_eq_true] at h
      cases xs with
      | nil => exact pe_one (a.pe o h.1)
      | cons _ _ => exact absurd h.2 (by simp)
  | b :: r, a, xs, h => by
    cases xs with
    | nil => cases h
    | cons x xs =>
      cases xs with
      | nil => exact absurd h (by simp [kList])
      | cons y xs =>
        have h1 : a.chk N sc x = true ∧ kList (b :: r) N sc (y :: xs) = true := by
          have h := h
          unfold kList at h
          simpa only [Bool.and_eq_true] using h
        have ih := bop_pe o c (pos := pos) r b (y :: xs) h1.2
        refine ⟨fun pins s σ H Q I q => ?_⟩
        obtain ⟨ρ, L, G, R, l, p⟩ := q
        have first : wpAny (model X.prog X.w) X.A (eval x X.env) (fun v s1 => wpAny (model X.prog X.w) X.A (truthy v) (fun t s2 => if t = c then wpAny (model X.prog X.w) X.A (eval (.BoolOp (boolC c) (y :: xs) pos) X.env) (EP X pins σ Q) X.xe s2 else EP X pins σ Q v s2) X.xe s1) X.xe s := by
          refine thn ((a.pe o h1.1).run pins s σ H (fun x H1 => ∃ ρ G v, Rl S ρ G H1 ∧ LR S ρ G.length H1 L σ ∧ VR S ρ G.length H1 v x ∧ Post S (VR S) (E σ) ρ G.length H1 Q ((tr S v G).bind fun t G2 => if t = c then eBop c b r L G2 else .ok v G2)) I ⟨ρ, L, G, R, l, Post.bind p fun v G1 ρ1 H1 x e1 R1 r1 p1 => ⟨ρ1, G1, v, R1, l.mono e1, r1, p1⟩⟩) fun u s1 hh => ?_
          obtain ⟨x1, H1, I1, rx, ρ1, G1, v, R1, l1, r1, p1⟩ := hh
          refine thn (tr_ok o I1 rx (Q := fun t H' => if t = c then WE S E (eBop c b r) σ H' Q else Q x1 H') ⟨ρ1, G1, v, R1, r1, Post.bind p1 fun t G2 ρ2 H2 t' e2 R2 r2 p2 => ?_⟩) fun t s2 hh => ?_
          · cases r2
            by_cases ht : t = c
            · rw [if_pos ht] at p2 ⊢
              exact ⟨ρ2, L, G2, R2, l1.mono e2, p2⟩
            · rw [if_neg ht] at p2 ⊢
              exact p2 ρ2 H2 _ (Ext.refl _ _ _) R2 (r1.mono e2)
          · obtain ⟨H2, I2, q2⟩ := hh
            by_cases ht : t = c
            · rw [if_pos ht] at q2 ⊢
              exact ih.run pins s2 σ H2 Q I2 q2
            · rw [if_neg ht] at q2 ⊢
              exact ⟨x1, H2, I2, rx, q2⟩
        cases c with
        | true => exact BoolOp_and first
        | false =>
          refine BoolOp_or (wpAny_mono first (fun v s1 h1 => wpAny_mono h1 (fun t s2 h2 => ?_) fun _ _ z => z) fun _ _ z => z)
          cases t with
          | true => exact h2
          | false => exact h2
def tBop (c : Bool) : CE S → List (CE S) → Lo → Gh → Res Bool
  | a, [] => a.tv
  | a, b :: r => fun L G => (a.tv L G).bind fun t G1 => if t = c then tBop c b r L G1 else .ok t G1
theorem bop_pt {sc : Scope} {N : List Str} {lev : Nat} {E : EW} {X : Cx} (o : Okx S sc N lev E X) (c : Bool) {pos : Pos} : ∀ (r : List (CE S)) (a : CE S) (xs : List Expr), kList (a :: r) N sc xs = true → PW X (.BoolOp (boolC c) xs pos) (WT S E (tBop c a r))
  | [], a, xs, h => by
    cases xs with
    | nil => cases h
    | cons x xs =>
      simp only [kList, Bool.and_eq_true] at h
      cases xs with
      | nil =>
        cases c with
        | true => exact pw_and1 (a.pt o h.1)
        | false => exact pw_or1 (a.pt o h.1)
      | cons _ _ => exact absurd h.2 (by simp)
  | b :: r, a, xs, h => by
    cases xs with
    | nil => cases h
    | cons x xs =>
      cases xs with
      | nil => exact absurd h (by simp [kList])
      | cons y xs =>
        have h1 : a.chk N sc x = true ∧ kList (b :: r) N sc (y :: xs) = true := by
          have h := h
          unfold kList at h
          simpa only [Bool.and_eq_true] using h
        have ih := bop_pt o c (pos := pos) r b (y :: xs) h1.2
        have go : ∀ σ H Q, WT S E (tBop c a (b :: r)) σ H Q → WT S E a.tv σ H fun t H1 => if t = c then WT S E (tBop c b r) σ H1 Q else Q t H1 := fun σ H Q q => by
          obtain ⟨ρ, L, G, R, l, p⟩ := q
          refine ⟨ρ, L, G, R, l, Post.bind (r := a.tv L G) p fun t G1 ρ1 H1 t' e1 R1 r1 p1 => ?_⟩
          cases r1
          by_cases ht : t = c
          · rw [if_pos ht] at p1 ⊢
            exact ⟨ρ1, L, G1, R1, l.mono e1, p1⟩
          · rw [if_neg ht] at p1 ⊢
            exact p1 ρ1 H1 _ (Ext.refl _ _ _) R1 rfl
        cases c with
        | true =>
          refine ⟨fun wh pins s σ H Q I q => (pw_and (a.pt o h1.1) ih).run wh pins s σ H Q I ?_⟩
          refine (show WT S E a.tv σ H (fun c H1 => if c = true then WT S E (tBop true b r) σ H1 Q else Q false H1) from ?_)
          obtain ⟨ρ, L, G, R, l, p⟩ := go σ H Q q
          refine ⟨ρ, L, G, R, l, p.mono fun t H1 z => ?_⟩
          cases t with
          | true => exact z
          | false => exact z
        | false =>
          refine ⟨fun wh pins s σ H Q I q => (pw_or (a.pt o h1.1) ih).run wh pins s σ H Q I ?_⟩
          refine (show WT S E a.tv σ H (fun c H1 => if c = true then Q true H1 else WT S E (tBop false b r) σ H1 Q) from ?_)
          obtain ⟨ρ, L, G, R, l, p⟩ := go σ H Q q
          refine ⟨ρ, L, G, R, l, p.mono fun t H1 z => ?_⟩
          cases t with
          | true => exact z
          | false => exact z
theorem cBop_pe (c : Bool) (a : CE S) (r : List (CE S)) {sc : Scope} {N : List Str} {lev : Nat} {E : EW} {X : Cx} {e : Expr} (o : Okx S sc N lev E X) (h : kBop c a r N sc e = true) : PE X e (WE S E (eBop c a r)) := by
  unfold kBop at h
  split at h
  · simp only [Bool.and_eq_true, decide_eq_true_eq] at h
    obtain ⟨rfl, h1⟩ := h
    exact bop_pe o c r a _ h1
  · cases h
theorem cBop_pt (c : Bool) (a : CE S) (r : List (CE S)) {sc : Scope} {N : List Str} {lev : Nat} {E : EW} {X : Cx} {e : Expr} (o : Okx S sc N lev E X) (h : kBop c a r N sc e = true) : PT X e (WT S E (tBop c a r)) := by
  unfold kBop at h
  split at h
  · simp only [Bool.and_eq_true, decide_eq_true_eq] at h
    obtain ⟨rfl, h1⟩ := h
    exact (bop_pt o c r a _ h1).pt
  · cases h
def cBop (c : Bool) (a : CE S) (r : List (CE S)) : CE S := ⟨eBop c a r, tBop c a r, kBop c a r, cBop_pe c a r, cBop_pt c a r, fun {N sc e} h => by cases e <;> first | rfl | cases h⟩
def eIf (c a b : CE S) : Lo → Gh → Res Va := fun L G => (c.tv L G).bind fun t G1 => if t = true then a.ev L G1 else b.ev L G1
def tIfx (c a b : CE S) : Lo → Gh → Res Bool := fun L G => (c.tv L G).bind fun t G1 => if t = true then a.tv L G1 else b.tv L G1
def kIf (c a b : CE S) (N : List Str) (sc : Scope) : Expr → Bool
  | .IfExp x y z _ => c.chk N sc x && (a.chk N sc y && b.chk N sc z)
  | _ => false
theorem cIf_pe (c a b : CE S) {sc : Scope} {N : List Str} {lev : Nat} {E : EW} {X : Cx} {e : Expr} (o : Okx S sc N lev E X) (h : kIf c a b N sc e = true) : PE X e (WE S E (eIf c a b)) := by
  unfold kIf at h
  split at h
  · simp only [Bool.and_eq_true] at h
    obtain ⟨h1, h2, h3⟩ := h
    refine pe_imp (pe_ifExp (c.pt o h1) (a.pe o h2) (b.pe o h3)) fun σ H Q q => ?_
    obtain ⟨ρ, L, G, R, l, p⟩ := q
    refine ⟨ρ, L, G, R, l, Post.bind (r := c.tv L G) p fun t G1 ρ1 H1 t' e1 R1 r1 p1 => ?_⟩
    cases r1
    cases t with
    | true => exact ⟨ρ1, L, G1, R1, l.mono e1, p1⟩
    | false => exact ⟨ρ1, L, G1, R1, l.mono e1, p1⟩
  · cases h
theorem isTrue_ifx {M : Model} {A : Around} {E : Value → Shared → Prop} {env : Env} {s : Shared} {x y z : Expr} {pos : Pos} {whole : Sem Value} {Q : Bool → Shared → Prop}
    (h : wpAny M A (isTrue x env (eval x env)) (fun c s' => if c = true then wpAny M A (isTrue y env (eval y env)) Q E s' else wpAny M A (isTrue z env (eval z env)) Q E s') E s) : wpAny M A (isTrue (.IfExp x y z pos) env whole) Q E s := by
  show wpAny M A (do if ← isTrue x env (eval x env) then isTrue y env (eval y env) else isTrue z env (eval z env)) Q E s
  refine wpAny_bind (wpAny_mono h (fun c s' h' => ?_) fun _ _ x => x)
  cases c with
  | true => exact h'
  | false => exact h'
theorem cIf_pt (c a b : CE S) {sc : Scope} {N : List Str} {lev : Nat} {E : EW} {X : Cx} {e : Expr} (o : Okx S sc N lev E X) (h : kIf c a b N sc e = true) : PT X e (WT S E (tIfx c a b)) := by
  unfold kIf at h
  split at h
  · simp only [Bool.and_eq_true] at h
    obtain ⟨h1, h2, h3⟩ := h
    refine ⟨fun pins s σ H Q I q => ?_⟩
    obtain ⟨ρ, L, G, R, l, p⟩ := q
    refine isTrue_ifx (thn ((c.pt o h1).run pins s σ H (fun t H1 => if t = true then WT S E a.tv σ H1 Q else WT S E b.tv σ H1 Q) I ⟨ρ, L, G, R, l, Post.bind (r := c.tv L G) p fun t G1 ρ1 H1 t' e1 R1 r1 p1 => ?_⟩) fun t s1 hh => ?_)
    · cases r1
      cases t with
      | true => exact ⟨ρ1, L, G1, R1, l.mono e1, p1⟩
      | false => exact ⟨ρ1, L, G1, R1, l.mono e1, p1⟩
    · obtain ⟨H1, I1, q1⟩ := hh
      cases t with
      | true => exact (a.pt o h2).run pins s1 σ H1 Q I1 q1
      | false => exact (b.pt o h3).run pins s1 σ H1 Q I1 q1
  · cases h
def cIf (c a b : CE S) : CE S := ⟨eIf c a b, tIfx c a b, kIf c a b, cIf_pe c a b, cIf_pt c a b, fun {N sc e} h => by cases e <;> first | rfl | cases h⟩
end
end VM
namespace VM
open PySem PySem.Spec PyProof.Rows L2
/-! ### keys -/
mutual
def kEq : Va → Va → Bool
  | .int i, .int j => decide (i = j)
  | .str s, .str t => decide (s = t)
  | .non, .non => true
  | .tup xs, .tup ys => kEqs xs ys
  | _, _ => false
def kEqs : List Va → List Va → Bool
  | [], [] => true
  | x :: xs, y :: ys => kEq x y && kEqs xs ys
  | _, _ => false
end
def dGet (kvs : List (Va × Va)) (k : Va) : Option Va := (kvs.find? fun p => kEq p.1 k).map (·.2)
def dPut (kvs : List (Va × Va)) (k v : Va) : List (Va × Va) := if (kvs.any fun p => kEq p.1 k) = true then kvs.map (fun p => if kEq p.1 k = true then (p.1, v) else p) else kvs ++ [(k, v)]
def dDrop (kvs : List (Va × Va)) (k : Va) : List (Va × Va) := kvs.filter fun p => !kEq p.1 k
section
variable {S : Sx} {sc : Scope} {N : List Str} {lev : Nat} {E : EW} {X : Cx} {ρ : Nat → Addr} {G : Gh} {H : Hp} {n : Nat}
theorem keyS_eq {a b : Va} {k l : Key} (h : keyS a = some k) (h' : keyS b = some l) : kEq a b = decide (k = l) := by
  cases a with
  | int i =>
    cases h
    cases b with
    | int j => cases h'; unfold kEq; rw [key_ll]; simp only [Bool.beq_eq_decide_eq]
    | str t => cases h'; unfold kEq; rw [key_lr]
    | _ => cases h'
  | str s =>
    cases h
    cases b with
    | int j => cases h'; unfold kEq; rw [key_rl]
    | str t => cases h'; unfold kEq; rw [key_rr, toS_dec]
    | _ => cases h'
  | _ => cases h
theorem keyS_V {a : Va} {k : Key} {v : V} (h : keyS a = some k) (r : VR S ρ n H a v) : v = kV k := by
  cases a <;> first | (cases h; unfold VR at r; subst r; rfl) | exact absurd h (by simp [keyS])
theorem drk_get {k : Va} {k' : Key} (hk : keyS k = some k') : ∀ {kvs : List (Va × Va)} {ks : List (Key × V)}, DRk S ρ n H kvs ks → (dGet kvs k = none ∧ valV ks k' = none) ∨ ∃ x v, dGet kvs k = some x ∧ valV ks k' = some v ∧ VR S ρ n H x v
  | [], _, h => by cases h; exact .inl ⟨rfl, rfl⟩
  | (a, x) :: kvs, _, h => by
    obtain ⟨a', y, r, rfl, h1, h2, h3⟩ := h
    have e := keyS_eq h1 hk
    by_cases q : a' = k'
    · rw [decide_eq_true q] at e
      refine .inr ⟨x, y, ?_, valV_pos q, h2⟩
      unfold dGet; rw [List.find?_cons, e]; rfl
    · rw [decide_eq_false q] at e
      have g : dGet ((a, x) :: kvs) k = dGet kvs k := by unfold dGet; rw [List.find?_cons, e]
      rw [g, valV_neg (p := (a', y)) q]
      exact drk_get hk h3
theorem vrs_at {xs : List Va} {ys : List V} {i : Int} {x : Va} (r : VRs S ρ n H xs ys) (h : atI xs i = some x) : ∃ y, atI ys i = some y ∧ VR S ρ n H x y := by
  unfold atI at h ⊢
  rw [r.length]
  obtain ⟨j, h1, h2⟩ := Option.bind_eq_some_iff.mp h
  obtain ⟨y, h3, h4⟩ := r.get h2
  exact ⟨y, by rw [h1]; exact h3, h4⟩
end
/-! ### a[i] -/
def okV (G : Gh) : Option Va → Option (Va × Gh)
  | some v => some (v, G)
  | none => none
def idxO (G : Gh) : Option VO → Va → Option (Va × Gh)
  | some (.lst _ xs), .int i => okV G (atI xs i)
  | some (.dct _ kvs), k => if (keyS k).isSome = true then okV G (dGet kvs k) else none
  | _, _ => none
def idxS (s : Tx) (i : Int) (G : Gh) : Option (Va × Gh) := if s.length ≤ sizeLine then okV G ((atI s i).map fun c => .str [c]) else none
def opIdx : Op2
  | .tup xs, .int i, G => okV G (atI xs i)
  | .str s, .int i, G => idxS s i G
  | .ref n, k, G => idxO G G[n]? k
  | _, _, _ => none
def isSl : Expr → Bool
  | .Slice .. => true
  | _ => false
theorem plainIx {b : Expr} (h : isSl b = false) : PlainIx b := by
  intro o i
  cases b <;> first | rfl | exact absurd h (by simp [isSl])
section
variable {S : Sx} {sc : Scope} {N : List Str} {lev : Nat} {E : EW} {X : Cx}
theorem okV_inv {G : Gh} {o : Option Va} {p : Va × Gh} (h : okV G o = some p) : ∃ v, o = some v ∧ p = (v, G) := by
  cases o with
  | none => cases h
  | some v => cases h; exact ⟨v, rfl, rfl⟩
theorem Okx.u1 (o : Okx S sc N lev E X) : X.A.units + 1 < cLine := by have := o.u64; omega
theorem dget_of {ρ : Nat → Addr} {G : Gh} {H : Hp} {m : Nat} {lk : Bool} {kvs : List (Va × Va)} (R : Rl S ρ G H) (h : G[m]? = some (.dct lk kvs)) : ∃ ks, Rd H (ρ m) (.dK ks) ∧ DRk S ρ G.length H kvs ks := by
  have ob := R.ob m _ h
  cases lk with
  | false =>
    obtain ⟨ks, h1, h2⟩ := ob
    exact ⟨ks, .inl h1, h2⟩
  | true =>
    obtain ⟨o, ks, h1, h2⟩ := ob
    exact ⟨ks, .inr ⟨o, h1⟩, h2⟩
theorem idx_ok (o : Okx S sc N lev E X) : IxR X (rO2 S opIdx) := by
  intro value slice pins s σ H x y v u Q I rx ry ⟨ρ, G, a, b, R, ra, rb, p⟩ hs
  cases a with
  | tup xs =>
    cases b with
    | int i =>
      unfold VR at ra rb
      obtain ⟨a1, zs, rfl, h1, h2⟩ := ra
      subst rb
      have p : Fin1 S ρ G.length H Q (okV G (atI xs i)) := p
      cases hx : atI xs i with
      | none => rw [hx] at p; exact (fin_no p).elim
      | some z =>
        rw [hx] at p
        obtain ⟨w, h3, h4⟩ := vrs_at h2 hx
        exact ix_tup value slice pins s σ H _ _ v u Q I rx ry ⟨a1, zs, i, w, rfl, rfl, by rw [o.K]; exact h1, h3, p.old R h4⟩ hs
    | _ => exact (fin_no p).elim
  | str t =>
    cases b with
    | int i =>
      unfold VR at ra rb
      subst ra; subst rb
      have p : Fin1 S ρ G.length H Q (idxS t i G) := p
      unfold idxS at p
      split at p
      · rename_i hz
        cases hx : atI t i with
        | none => rw [hx] at p; exact (fin_no p).elim
        | some c =>
          rw [hx] at p
          refine ix_str value slice pins s σ H _ _ v u Q I rx ry ⟨toS t, i, c, rfl, rfl, by rw [toS_len]; exact hz, hx, p.old R ?_⟩ hs
          unfold VR; rfl
      · exact (fin_no p).elim
    | _ => exact (fin_no p).elim
  | ref m =>
    unfold VR at ra
    obtain ⟨hm, rfl⟩ := ra
    have p : Fin1 S ρ G.length H Q (idxO G G[m]? b) := p
    obtain ⟨w, hw⟩ : ∃ w, G[m]? = some w := ⟨G[m], by simp [hm]⟩
    rw [hw] at p
    cases w with
    | lst fz xs =>
      cases b with
      | int i =>
        unfold VR at rb; subst rb
        have p : Fin1 S ρ G.length H Q (okV G (atI xs i)) := p
        obtain ⟨zs, h1, h2⟩ := lst_ok R (m := m) (xs := xs) (by rw [hw]; rfl)
        cases hx : atI xs i with
        | none => rw [hx] at p; exact (fin_no p).elim
        | some z =>
          rw [hx] at p
          obtain ⟨w, h3, h4⟩ := vrs_at h2 hx
          exact ix_list value slice pins s σ H _ _ v u Q I rx ry ⟨_, zs, i, w, rfl, rfl, by rw [o.K]; exact h1, h3, p.old R h4⟩ hs
      | _ => exact (fin_no p).elim
    | dct lk kvs =>
      have p : Fin1 S ρ G.length H Q (if (keyS b).isSome = true then okV G (dGet kvs b) else none) := p
      split at p
      · rename_i hk
        obtain ⟨k', hk'⟩ := Option.isSome_iff_exists.mp hk
        obtain ⟨ks, h1, h2⟩ := dget_of R hw
        have ey := keyS_V hk' rb
        rcases drk_get hk' h2 with ⟨g1, g2⟩ | ⟨z, w, g1, g2, g3⟩
        · rw [g1] at p; exact (fin_no p).elim
        · rw [g1] at p
          cases (show v = Value.ref (ρ m) from rx)
          have g : DGet H (ρ m) y (some w) := .inl ⟨ks, k', h1, ey, g2.symm⟩
          exact tail_any (dict_typeIs I g) PySem.F.slot_dict_getitem.lookup (d_getItem o.u1 I g ry fun w' s3 I3 rw' => ⟨w, H, I3, rw', p.old R g3⟩) hs
      · exact (fin_no p).elim
    | _ => exact (fin_no p).elim
  | _ => cases b <;> exact (fin_no p).elim
def kIdx (a b : CE S) (N : List Str) (sc : Scope) : Expr → Bool
  | .Subscript x y _ => !isSl y && (a.chk N sc x && b.chk N sc y)
  | _ => false
def cIdx (a b : CE S) : CE S := .plain (fun L G => (a.ev L G).bind fun x G1 => (b.ev L G1).bind fun y G2 => lift (opIdx x y G2)) (kIdx a b) (fun {sc N lev E X e} o h => by
  cases e with
  | Subscript x y pos =>
    simp only [kIdx, Bool.and_eq_true, Bool.not_eq_true'] at h
    obtain ⟨h0, h1, h2⟩ := h
    exact pe_imp (pe_ix (idx_ok o) (a.pe o h1) (b.pe o h2) (plainIx h0)) fun σ H Q q => two_ok (sc := sc) (N := N) (lev := lev) (X := X) a b opIdx q
  | _ => cases h) fun N sc e h => by cases e <;> first | exact ⟨rfl, rfl⟩ | cases h
/-! ### a[lo:hi] -/
def cut {α : Type} (xs : List α) (lo hi : Option Int) : List α := (xs.drop (HT.sIx xs.length 0 lo)).take (HT.sIx xs.length xs.length hi - HT.sIx xs.length 0 lo)
def slO (G : Gh) (lo hi : Option Int) : Option (List Va) → Option (Va × Gh)
  | some xs => some (.ref G.length, G ++ [.lst false (cut xs lo hi)])
  | none => none
def opSl (lo hi : Option Int) : Op1
  | .tup xs, G => some (.tup (cut xs lo hi), G)
  | .str s, G => if s.length ≤ sizeLine then some (.str (cut s lo hi), G) else none
  | .ref n, G => slO G lo hi (lstO G[n]?)
  | _, _ => none
theorem vrs_cut {ρ : Nat → Addr} {n : Nat} {H : Hp} {xs : List Va} {ys : List V} (r : VRs S ρ n H xs ys) (lo hi : Option Int) : VRs S ρ n H (cut xs lo hi) (cutV ys lo hi) := by
  unfold cut cutV
  rw [r.length]
  exact (r.drop _).take _
/-- a bound of a slice: nothing, or a whole number -/
def part : Option (CE S) → Lo → Gh → Res (Option Int)
  | none, _, G => .ok none G
  | some a, L, G => (a.ev L G).bind fun v G1 => match v with
    | .int i => .ok (some i) G1
    | _ => .no
def kPart : Option (CE S) → List Str → Scope → Option Expr → Bool
  | none, _, _, none => true
  | some a, N, sc, some e => a.chk N sc e
  | _, _, _, _ => false
abbrev relP : RelT (Option Int) (Option Int) := fun _ _ _ a b => a = b
theorem part_po {E : EW} {a : Option (CE S)} {e : Option Expr} (o : Okx S sc N lev E X) (h : kPart a N sc e = true) : ∃ t, PO X e t ∧ ∀ σ H Q, WG S relP E (part a) σ H Q → t σ H Q := by
  cases a with
  | none =>
    cases e with
    | none =>
      refine ⟨_, po_none, fun σ H Q q => ?_⟩
      obtain ⟨ρ, L, G, R, l, p⟩ := q
      exact p ρ H none (Ext.refl _ _ _) R rfl
    | some e => cases h
  | some a =>
    cases e with
    | none => cases h
    | some e =>
      refine ⟨_, po_some (a.pe o h), fun σ H Q q => ?_⟩
      obtain ⟨ρ, L, G, R, l, p⟩ := q
      refine ⟨ρ, L, G, R, l, Post.bind (r := a.ev L G) p fun v G1 ρ1 H1 x e1 R1 r1 p1 => ?_⟩
      cases v with
      | int i =>
        unfold VR at r1; subst r1
        exact ⟨i, rfl, p1 ρ1 H1 _ (Ext.refl _ _ _) R1 rfl⟩
      | _ => exact p1.elim
theorem cutS_eq (s : Tx) (lo hi : Option Int) : cutS (toS s) lo hi = toS (cut s lo hi) := by
  unfold cutS toS cut
  first | rfl | simp
theorem sl_ok (o : Okx S sc N lev E X) : SlR X (fun x lo hi H Q => ∃ ρ G a, Rl S ρ G H ∧ VR S ρ G.length H a x ∧ Fin1 S ρ G.length H Q (opSl lo hi a G)) := by
  intro pins s σ H x v vl vu lo hi sl Q I rx hsl pl pu h
  obtain ⟨ρ, G, a, R, ra, p⟩ := h
  cases a with
  | tup xs =>
    unfold VR at ra
    obtain ⟨a1, zs, rfl, h1, h2⟩ := ra
    have p : Fin1 S ρ G.length H Q (some (.tup (cut xs lo hi), G)) := p
    refine sl_tupA pins s σ H _ v vl vu lo hi sl Q I rx hsl pl pu ⟨a1, zs, rfl, by rw [o.K]; exact h1, fun hw => ?_, fun _ q hq => p.tup R (vrs_cut h2 lo hi) hq⟩
    refine p.old R ?_
    unfold VR
    refine ⟨a1, zs, rfl, h1, ?_⟩
    have e : cut xs lo hi = xs := by
      unfold cut
      rw [← h2.length, hw.1, hw.2, List.drop_zero, Nat.sub_zero, h2.length, List.take_length]
    rw [e]; exact h2
  | str t =>
    unfold VR at ra; subst ra
    have p : Fin1 S ρ G.length H Q (if t.length ≤ sizeLine then some (.str (cut t lo hi), G) else none) := p
    split at p
    · rename_i hz
      refine sl_str pins s σ H _ v vl vu lo hi sl Q I rx hsl pl pu ⟨toS t, rfl, by rw [toS_len]; exact hz, p.old R ?_⟩
      unfold VR
      rw [cutS_eq]
    · exact (fin_no p).elim
  | ref m =>
    unfold VR at ra
    obtain ⟨hm, rfl⟩ := ra
    have p : Fin1 S ρ G.length H Q (slO G lo hi (lstO G[m]?)) := p
    cases hx : lstO G[m]? with
    | none => rw [hx] at p; exact (fin_no p).elim
    | some xs =>
      rw [hx] at p
      have p : Fin1 S ρ G.length H Q (some (.ref G.length, G ++ [.lst false (cut xs lo hi)])) := p
      obtain ⟨zs, h1, h2⟩ := lst_ok R hx
      exact sl_list pins s σ H _ v vl vu lo hi sl Q I rx hsl pl pu ⟨_, zs, rfl, by rw [o.K]; exact h1, fun q hq => p.lst R (vrs_cut h2 lo hi) hq⟩
  | _ => exact (fin_no p).elim
def kSl (a : CE S) (lo hi : Option (CE S)) (N : List Str) (sc : Scope) : Expr → Bool
  | .Subscript x (.Slice l u none _) _ => a.chk N sc x && (kPart lo N sc l && kPart hi N sc u)
  | _ => false
def eSl (a : CE S) (lo hi : Option (CE S)) : Lo → Gh → Res Va := fun L G => (a.ev L G).bind fun x G1 => (part lo L G1).bind fun l G2 => (part hi L G2).bind fun u G3 => lift (opSl l u x G3)
theorem cSl_pe (a : CE S) (lo hi : Option (CE S)) {sc : Scope} {N : List Str} {lev : Nat} {E : EW} {X : Cx} {e : Expr} (o : Okx S sc N lev E X) (h : kSl a lo hi N sc e = true) : PE X e (WE S E (eSl a lo hi)) := by
  unfold kSl at h
  split at h
  · simp only [Bool.and_eq_true] at h
    obtain ⟨h0, h1, h2⟩ := h
    obtain ⟨t1, P1, k1⟩ := part_po o h1
    obtain ⟨t2, P2, k2⟩ := part_po o h2
    refine pe_imp (pe_slice (sl_ok o) (a.pe o h0) P1 P2) fun σ H Q q => ?_
    obtain ⟨ρ, L, G, R, l, p⟩ := q
    refine ⟨ρ, L, G, R, l, Post.bind p fun v G1 ρ1 H1 x e1 R1 r1 p1 => ?_⟩
    refine k1 _ _ _ ⟨ρ1, L, G1, R1, l.mono e1, Post.bind p1 fun l1 G2 ρ2 H2 l1' e2 R2 r2 p2 => ?_⟩
    refine k2 _ _ _ ⟨ρ2, L, G2, R2, (l.mono e1).mono e2, Post.bind p2 fun l2 G3 ρ3 H3 l2' e3 R3 r3 p3 => ?_⟩
    cases r2; cases r3
    exact ⟨ρ3, G3, v, R3, (r1.mono e2).mono e3, fin_of_lift p3⟩
  · cases h
def cSl (a : CE S) (lo hi : Option (CE S)) : CE S := .plain (eSl a lo hi) (kSl a lo hi) (cSl_pe a lo hi) fun N sc e h => by cases e <;> first | exact ⟨rfl, rfl⟩ | cases h
end
end VM
namespace VM
open PySem PySem.Spec PyProof.Rows L2
section
variable {S : Sx} {sc : Scope} {N : List Str} {lev : Nat} {E : EW} {X : Cx} {ρ : Nat → Addr} {G : Gh} {H : Hp} {n : Nat}
/-! ### o.f -/
theorem fr_get (g : ∀ i j, i < S.nn → j < S.nn → S.nm i = S.nm j → i = j) {f : Nat} (hf : f < S.nn) : ∀ {fs : List (Nat × Va)} {gs : List (Str × V)}, FR S ρ n H fs gs → (fs.lookup f = none ∧ gs.lookup (S.nm f) = none) ∨ ∃ x v, fs.lookup f = some x ∧ gs.lookup (S.nm f) = some v ∧ VR S ρ n H x v ∧ ∃ y, (f, y) ∈ fs
  | [], _, h => by cases h; exact .inl ⟨rfl, rfl⟩
  | (k, x) :: fs, _, h => by
    obtain ⟨y, r, rfl, h1, h2, h3⟩ := h
    by_cases q : f = k
    · subst q
      refine .inr ⟨x, y, ?_, ?_, h2, x, List.mem_cons_self⟩
      · simp [List.lookup]
      · simp [List.lookup]
    · have e1 : (f == k) = false := by simpa using q
      have e2 : (S.nm f == S.nm k) = false := by
        simp only [beq_eq_false_iff_ne, ne_eq]
        exact fun z => q (g f k hf h1 z)
      have l1 : List.lookup f ((k, x) :: fs) = fs.lookup f := by simp only [List.lookup, e1]
      have l2 : List.lookup (S.nm f) ((S.nm k, y) :: r) = r.lookup (S.nm f) := by simp only [List.lookup, e2]
      rw [l1, l2]
      rcases fr_get g hf h3 with z | ⟨x', v', z1, z2, z3, y', z4⟩
      · exact .inl z
      · exact .inr ⟨x', v', z1, z2, z3, y', List.mem_cons_of_mem _ z4⟩
def okR (G : Gh) : Option Va → Res Va
  | some v => .ok v G
  | none => .no
def attI (S : Sx) (c f : Nat) (G : Gh) : Option Va → Res Va
  | some v => .ok v G
  | none => okR G ((S.cd c).con f)
def attO (S : Sx) (f : Nat) (G : Gh) : Option VO → Res Va
  | some (.ins c fs) => attI S c f G (fs.lookup f)
  | _ => .no
def attV (S : Sx) (f : Nat) : Va → Gh → Res Va
  | .ref n, G => attO S f G G[n]?
  | _, _ => .no
def kAtt (S : Sx) (a : CE S) (f : Nat) (N : List Str) (sc : Scope) : Expr → Bool
  | .Attribute x y _ => decide (f < S.nn) && (decide (S.nm f = y) && (!isSuper x && a.chk N sc x))
  | _ => false
theorem cAtt_pe (a : CE S) (f : Nat) {e : Expr} (o : Okx S sc N lev E X) (h : kAtt S a f N sc e = true) : PE X e (WE S E fun L G => (a.ev L G).bind (attV S f)) := by
  unfold kAtt at h
  split at h
  · simp only [Bool.and_eq_true, decide_eq_true_eq, Bool.not_eq_true'] at h
    obtain ⟨hf, rfl, h0, h1⟩ := h
    refine ⟨fun pins s σ H Q I q => ?_⟩
    obtain ⟨ρ, L, G, R, l, p⟩ := q
    refine attr_of (base_plain h0) (thn ((a.pe o h1).run pins s σ H (fun x H1 => ∃ ρ G v, Rl S ρ G H1 ∧ VR S ρ G.length H1 v x ∧ Post S (VR S) (E σ) ρ G.length H1 Q (attV S f v G)) I ⟨ρ, L, G, R, l, Post.bind p fun v G1 ρ1 H1 x e1 R1 r1 p1 => ⟨ρ1, G1, v, R1, r1, p1⟩⟩) fun u s1 hh => ?_)
    obtain ⟨x, H1, I1, rx, ρ1, G1, v, R1, r1, p1⟩ := hh
    cases v with
    | ref m =>
      unfold VR at r1
      obtain ⟨hm, rfl⟩ := r1
      cases (show u = Value.ref (ρ1 m) from rx)
      have p1 : Post S (VR S) (E σ) ρ1 G1.length H1 Q (attO S f G1 G1[m]?) := p1
      obtain ⟨w, hw⟩ : ∃ w, G1[m]? = some w := ⟨G1[m], by simp [hm]⟩
      have ob := R1.ob m w hw
      rw [hw] at p1
      cases w with
      | ins c fs =>
        obtain ⟨dx, gs, k1, k2, k3, k5, k4⟩ := ob
        have C := o.good.cls c k5
        have p1 : Post S (VR S) (E σ) ρ1 G1.length H1 Q (attI S c f G1 (fs.lookup f)) := p1
        rcases fr_get o.good.nmi hf k2 with ⟨z1, z2⟩ | ⟨y, v', z1, z2, z3, y', z4⟩
        · rw [z1] at p1
          have p1 : Post S (VR S) (E σ) ρ1 G1.length H1 Q (okR G1 ((S.cd c).con f)) := p1
          cases hc : (S.cd c).con f with
          | none => rw [hc] at p1; exact p1.elim
          | some v0 =>
            rw [hc] at p1
            obtain ⟨v', u', c1, c2⟩ := C.co f v0 hc
            exact getcon_ok (v := v') I1 k1 (by rw [o.K]; exact C.cl) (by rw [o.K]; exact c1) z2 fun s2 I2 => ⟨v', H1, I2, c1.rel, p1 ρ1 H1 v' (Ext.refl _ _ _) R1 (c2 _ _ _)⟩
        · rw [z1] at p1
          exact getattr_ok I1 k1 (by rw [o.K]; exact C.cl) (by rw [o.K]; exact C.nf f (k4 _ z4)) z2 fun u' s2 I2 ru => ⟨v', H1, I2, ru, p1 ρ1 H1 v' (Ext.refl _ _ _) R1 z3⟩
      | _ => exact p1.elim
    | _ => exact p1.elim
  · cases h
def cAtt (a : CE S) (f : Nat) : CE S := .plain (fun L G => (a.ev L G).bind (attV S f)) (kAtt S a f) (cAtt_pe a f) fun N sc e h => by cases e <;> first | exact ⟨rfl, rfl⟩ | cases h
/-! ### calls -/
/-- the arguments of a plain call, then the call -/
theorem call_with {es : List Expr} (args : CA S) (o : Okx S sc N lev E X) (hp : args.pl = true) (h : args.chk N sc es = true) {f : Value} {first : List Value} {pos : Pos} (hk : PySem.W.keepIn S.K f = true) {pins : List (Addr × Obj)} {s : Shared} {σ : L2.St} {H : Hp} {Q : VK}
    (I : Inv X pins σ H s) {R : List V → Hp → Prop} (ha : WA S E args.ev σ H R) (hc : ∀ us s1 vs H1, Inv X pins σ H1 s1 → Vals vs us → R vs H1 → wpAny (model X.prog X.w) X.A (call f (first ++ us)) (EP X pins σ Q) X.xe s1) :
    wpAny (model X.prog X.w) X.A (callWith pos f first (backTo pos (starEach es X.env)) (backToKw pos (keywordEach [] X.env))) (EP X pins σ Q) X.xe s := by
  have hk' : PySem.W.keepIn X.K f = true := by rw [o.K]; exact hk
  have run := (args.pa o h).run pos pins s σ H R I ha
  cases es with
  | nil =>
    refine fun Γ p hΓ => ?_
    obtain ⟨vs, H1, I1, r1, q1⟩ : AP X pins σ R [] s := run Γ p hΓ
    exact (PySem.W.callWith_K0 I.kIn hk' (hc [] s vs H1 I1 r1 q1)) Γ p hΓ
  | cons e es =>
    have hs := args.ns hp h
    obtain ⟨h1, h2⟩ := noStars_cons hs
    exact PySem.W.callWith_K (h₀ := X.base) I.ok.mod.kin hk' (thn run fun us s1 ⟨vs, H1, I1, r1, q1⟩ => ⟨I1.kIn, hc us s1 vs H1 I1 r1 q1⟩) (starEach_cons h1) (backTo_plain h2)
/-- a call of one of the text's defs -/
def eCall (k : Nat) (args : CA S) : Lo → Gh → Res Va := fun L G => (args.ev L G).bind (S.call k)
def kCall (S : Sx) (k : Nat) (args : CA S) (N : List Str) (sc : Scope) : Expr → Bool
  | .Call (.Name x _) es [] _ => decide ((x, k) ∈ S.fg) && (scIs sc x .globalImplicit && (!(x == ("__debug__" : Str)) && (args.pl && args.chk N sc es)))
  | _ => false
theorem cCall_pe (k : Nat) (args : CA S) {e : Expr} (o : Okx S sc N lev E X) (h : kCall S k args N sc e = true) : PE X e (WE S E (eCall k args)) := by
  unfold kCall at h
  split at h
  · simp only [Bool.and_eq_true, decide_eq_true_eq, Bool.not_eq_true'] at h
    obtain ⟨h1, h2, h3, h4, h5⟩ := h
    obtain ⟨hk, hm⟩ := o.good.fg _ h1
    refine ⟨fun pins s σ H Q I q => ?_⟩
    obtain ⟨ρ, L, G, R, l, p⟩ := q
    refine wpAny_Call_Name_kw (ld_glob I (o.gl h2) (by rw [o.mg]; exact hm) ?_ h3)
    refine call_with args o h4 h5 (o.good.fn k hk).1 I (R := fun vs H1 => ∃ ρ G as, Rl S ρ G H1 ∧ VRs S ρ G.length H1 as vs ∧ Post S (VR S) (E σ) ρ G.length H1 Q (S.call k as G)) ⟨ρ, L, G, R, l, Post.bind p fun as G1 ρ1 H1 xs e1 R1 r1 p1 => ⟨ρ1, G1, as, R1, r1, p1⟩⟩ fun us s1 vs H1 I1 r1 q1 => ?_
    exact o.run hk I1 r1 q1
  · cases h
def isCallE : Expr → Bool
  | .Call .. => true
  | _ => false
def cCall (k : Nat) (args : CA S) : CE S := .plain (eCall k args) (kCall S k args) (cCall_pe k args) fun N sc e h => by cases e <;> first | exact ⟨rfl, rfl⟩ | cases h
/-- C(..): a new instance, then its __init__ -/
def newB (n : Nat) : Va → Gh → Res Va
  | .non, G => .ok (.ref n) G
  | _, _ => .no
def newI (S : Sx) (c : Nat) (vs : List Va) (G : Gh) : Option Nat → Res Va
  | some k => (S.call k (.ref G.length :: vs) (G ++ [.ins c []])).bind (newB G.length)
  | none => .no
def newV (S : Sx) (c : Nat) (vs : List Va) (G : Gh) : Res Va := newI S c vs G (S.cd c).init
theorem Rl.made {c : Nat} {x dx : Addr} (R : Rl S ρ G H) (hx : H x = none) (hdx : H dx = none) (ne : dx ≠ x) (hc : c < S.nc) :
    Rl S (put ρ G.length x) (G ++ [.ins c []]) (upd (upd H dx (.own x)) x (.ins (S.ca c) dx [])) ∧ Ext ρ G.length H (put ρ G.length x) (G ++ [VO.ins c []]).length (upd (upd H dx (.own x)) x (.ins (S.ca c) dx [])) := by
  have hx1 : (upd H dx (.own x)) x = none := by rw [upd_ne (Ne.symm ne)]; exact hx
  have e1 : Ext ρ G.length H ρ G.length (upd H dx (.own x)) := Ext.new hdx
  have R1 : Rl S ρ G (upd H dx (.own x)) := R.new hdx
  have e2 : Ext ρ G.length (upd H dx (.own x)) (put ρ G.length x) (G.length + 1) (upd (upd H dx (.own x)) x (.ins (S.ca c) dx [])) := Ext.newO hx1
  have el : (G ++ [VO.ins c []]).length = G.length + 1 := by simp
  refine ⟨R1.push e2 (fun a u h => by rw [upd_ne (ne_of_none h hx1)]; exact h) hx1 ⟨dx, [], upd_same, rfl, Nat.zero_le _, hc, fun p hp => absurd hp (by simp)⟩, ?_⟩
  rw [el]
  exact e1.trans e2
theorem run_new (o : Okx S sc N lev E X) {c k : Nat} (hc : c < S.nc) (hi : (S.cd c).init = some k) {pins : List (Addr × Obj)} {s : Shared} {σ : L2.St} {H : Hp} {Q : VK} {us : List Value} {vs : List V} (I : Inv X pins σ H s) (r : Vals vs us)
    (h : ∃ ρ G as, Rl S ρ G H ∧ VRs S ρ G.length H as vs ∧ Post S (VR S) (E σ) ρ G.length H Q (newV S c as G)) : wpAny (model X.prog X.w) X.A (call (.ref (S.ca c)) us) (EP X pins σ Q) X.xe s := by
  obtain ⟨ρ, G, as, R, va, p⟩ := h
  have C := o.good.cls c hc
  obtain ⟨hk, M⟩ := C.mak k hi
  obtain ⟨_, fd, ps, F, b, ha⟩ := o.good.fn k hk
  have p : Post S (VR S) (E σ) ρ G.length H Q ((S.call k (.ref G.length :: as) (G ++ [.ins c []])).bind (newB G.length)) := by
    have p := p
    unfold newV at p
    rw [hi] at p
    exact p
  have hq0 : S.hq = false := by
    cases hq : S.hq with
    | true => rw [o.hc hq] at p; exact p.elim
    | false => rfl
  have hl : (Va.ref G.length :: as).length = ps.length := by
    by_cases z : (Va.ref G.length :: as).length = ps.length
    · exact z
    · rw [ha _ _ z] at p; exact p.elim
  obtain ⟨x, hxe⟩ : ∃ x, x = s.heap.objs.size + 1 := ⟨_, rfl⟩
  obtain ⟨dx, hde⟩ : ∃ dx, dx = s.heap.objs.size := ⟨_, rfl⟩
  have hx : H x = none := by rw [hxe]; exact I.hok.fresh (Nat.le_succ _)
  have hdx : H dx = none := by rw [hde]; exact I.hok.fresh (Nat.le_refl _)
  have ne : dx ≠ x := by rw [hxe, hde]; exact Nat.ne_of_lt (Nat.lt_succ_self _)
  have I2 := Inv.made (C := S.ca c) I
  rw [← hxe, ← hde] at I2
  obtain ⟨R2, e2⟩ := R.made hx hdx ne hc
  have el : (G ++ [VO.ins c []]).length = G.length + 1 := by simp
  have hq : spV S k ps.length (V.ref x :: vs) (upd (upd H dx (.own x)) x (.ins (S.ca c) dx [])) (fun v H2 => v = .non ∧ Q (.ref x) H2) (E σ) := by
    refine ⟨put ρ G.length x, G ++ [.ins c []], .ref G.length :: as, R2, VRs.cons (by unfold VR; exact ⟨by rw [el]; exact Nat.lt_succ_self _, by rw [put_same]⟩) (va.mono e2), hl, ?_⟩
    refine Post.bind (Post.after p e2) fun a1 G1 ρ1 H1 v1 e1 R1 r1 p1 => ?_
    cases a1 with
    | non =>
      unfold VR at r1; subst r1
      refine ⟨rfl, p1 ρ1 H1 _ (Ext.refl _ _ _) R1 ?_⟩
      unfold VR
      have hlt : G.length < (G ++ [VO.ins c []]).length := by rw [el]; exact Nat.lt_succ_self _
      exact ⟨Nat.lt_of_lt_of_le hlt e1.le, by rw [e1.eq _ hlt, put_same]⟩
    | _ => exact p1.elim
  have r2 : Vals (V.ref x :: vs) (Value.ref x :: us) := .cons rfl r
  have hl2 : (Value.ref x :: us).length = ps.length := by
    rw [← r2.length, ← hl]
    have := va.length
    simp only [List.length_cons]; omega
  have F' : FnOk X.prog X.w X.K X.mg X.base (CX S.P S.w) lev (S.fa k) fd ps (spV S k ps.length) := by rw [o.P, o.w, o.K, o.mg, o.base]; exact F
  have b' : Binds X.K fd ps [] := by rw [o.K]; exact b
  have M' : Mk X.K (S.ca c) (S.fa k) := by rw [o.K]; exact M
  refine wpAny_call (make_map (f := S.fa k) I.kIn M'.makes M'.init (beq_iff_eq.mp M'.fn) ?_)
  rw [← hxe, ← hde]
  have bb := b' _ (Value.ref x :: us) I2.kIn (by rw [List.append_nil]; exact hl2)
  rw [List.append_nil] at bb
  refine codeAny_mono (F'.run _ X.stack _ _ ⟨Value.ref x :: us, []⟩ (Value.ref x :: us) _ _ (E σ) (((o.room hq0).mono (Nat.le_succ _)).make (S.ca c) us []) (I2.env0.make (S.ca c) us []) bb r2 hq) fun r s' hq' => ?_
  cases r with
  | error e => exact o.pass σ pins _ _ e s' I2 (by rw [← o.P, ← o.w] at hq'; rw [← o.P, ← o.w]; exact hq')
  | ok fl =>
    cases fl with
    | ret u =>
      obtain ⟨v, H', I3, rv, ev, q3⟩ := I2.after hq'
      subst ev
      exact ⟨rv, ⟨V.ref x, H', I3, rfl, q3⟩⟩
    | next => exact False.elim hq'
    | brk => exact False.elim hq'
    | cont => exact False.elim hq'
def eNew (c : Nat) (args : CA S) : Lo → Gh → Res Va := fun L G => (args.ev L G).bind (newV S c)
def kNew (S : Sx) (c : Nat) (args : CA S) (N : List Str) (sc : Scope) : Expr → Bool
  | .Call (.Name x _) es [] _ => decide ((x, c) ∈ S.cg) && ((S.cd c).init.isSome && (scIs sc x .globalImplicit && (!(x == ("__debug__" : Str)) && (args.pl && args.chk N sc es))))
  | _ => false
theorem cNew_pe (c : Nat) (args : CA S) {e : Expr} (o : Okx S sc N lev E X) (h : kNew S c args N sc e = true) : PE X e (WE S E (eNew c args)) := by
  unfold kNew at h
  split at h
  · simp only [Bool.and_eq_true, decide_eq_true_eq, Bool.not_eq_true'] at h
    obtain ⟨h1, h0, h2, h3, h4, h5⟩ := h
    obtain ⟨k, hi⟩ := Option.isSome_iff_exists.mp h0
    obtain ⟨hc, hm, hkp⟩ := o.good.cg _ h1
    refine ⟨fun pins s σ H Q I q => ?_⟩
    obtain ⟨ρ, L, G, R, l, p⟩ := q
    refine wpAny_Call_Name_kw (ld_glob I (o.gl h2) (by rw [o.mg]; exact hm) ?_ h3)
    refine call_with args o h4 h5 hkp I (R := fun vs H1 => ∃ ρ G as, Rl S ρ G H1 ∧ VRs S ρ G.length H1 as vs ∧ Post S (VR S) (E σ) ρ G.length H1 Q (newV S c as G)) ⟨ρ, L, G, R, l, Post.bind p fun as G1 ρ1 H1 xs e1 R1 r1 p1 => ⟨ρ1, G1, as, R1, r1, p1⟩⟩ fun us s1 vs H1 I1 r1 q1 => ?_
    exact run_new o hc hi I1 r1 q1
  · cases h
def cNew (c : Nat) (args : CA S) : CE S := .plain (eNew c args) (kNew S c args) (cNew_pe c args) fun N sc e h => by cases e <;> first | exact ⟨rfl, rfl⟩ | cases h
/-- o.m(..) of one of the text's classes -/
def mthI (G : Gh) : Option Nat → Res Nat
  | some k => .ok k G
  | none => .no
def mthO (S : Sx) (m : Nat) (G : Gh) : Option VO → Res Nat
  | some (.ins c _) => mthI G ((S.cd c).mth m)
  | _ => .no
def mthR (S : Sx) (m : Nat) : Va → Gh → Res Nat
  | .ref n, G => mthO S m G G[n]?
  | _, _ => .no
def eMth (m : Nat) (a : CE S) (args : CA S) : Lo → Gh → Res Va := fun L G => (a.ev L G).bind fun v G1 => (mthR S m v G1).bind fun k G1 => (args.ev L G1).bind fun vs G2 => S.call k (v :: vs) G2
def kMth (S : Sx) (m : Nat) (a : CE S) (args : CA S) (N : List Str) (sc : Scope) : Expr → Bool
  | .Call (.Attribute x y ap) es [] pos => decide (S.nm m = y) && (decide (es.length < 30) && (decide (ap.endLine = pos.line) && (!isSuper x && (args.pl && (args.chk N sc es && a.chk N sc x)))))
  | _ => false
theorem any_back {pos : Pos} {env : Env} {es : List Expr} (h : noStars es = true) : ((backTo pos (starEach es env)).all fun x => !x.1) = true := by
  have q := backTo_plain (pos := pos) (env := env) h
  rw [List.any_eq_false] at q
  rw [List.all_eq_true]
  intro x hx
  have := q x hx
  simpa using this
theorem eval_meth {x : Expr} {m : Str} {ap pos : Pos} {es : List Expr} {env : Env} (hs : isSuper x = false) (hn : noStars es = true) (hl : es.length < 30) (hp : ap.endLine = pos.line) : eval (.Call (.Attribute x m ap) es [] pos) env = (do
      let ov ← eval x env
      standAt ap.atName
      let (f, first) ← holding [ov] (getMethod ov m (do return (← importBound x env).getD true))
      callWith pos f first (backTo pos (starEach es env)) (backToKw pos (keywordEach [] env))) := by
  have hf : methodCallForm (es.length + ([] : List Keyword).length) (backTo pos (starEach es env)) (backToKw pos (keywordEach [] env)) = true := by
    unfold methodCallForm
    rw [any_back hn]
    simp [keywordEach, backToKw]
    exact hl
  rw [arm_eval_Call, base_plain hs]
  unfold methodCall
  rw [hf]
  have e2 : ∀ o, methodCallPos true o env ap pos = pure pos := fun o => by
    unfold methodCallPos
    rw [hp]
    simp
  simp only [e2, calleeOf, if_true, pure_bind]
theorem cMth_pe (m : Nat) (a : CE S) (args : CA S) {e : Expr} (o : Okx S sc N lev E X) (h : kMth S m a args N sc e = true) : PE X e (WE S E (eMth m a args)) := by
  unfold kMth at h
  split at h
  · simp only [Bool.and_eq_true, decide_eq_true_eq, Bool.not_eq_true'] at h
    obtain ⟨rfl, hl, hp, h0, h4, h5, h1⟩ := h
    have hns := args.ns h4 h5
    refine ⟨fun pins s σ H Q I q => ?_⟩
    obtain ⟨ρ, L, G, R, l, p⟩ := q
    refine PySem.W.methodCall_KW (thn ((a.pe o h1).run pins s σ H (fun x H1 => ∃ ρ G v, Rl S ρ G H1 ∧ LR S ρ G.length H1 L σ ∧ VR S ρ G.length H1 v x ∧ Post S (VR S) (E σ) ρ G.length H1 Q ((mthR S m v G).bind fun k G1 => (args.ev L G1).bind fun vs G2 => S.call k (v :: vs) G2)) I ⟨ρ, L, G, R, l, Post.bind p fun v G1 ρ1 H1 x e1 R1 r1 p1 => ⟨ρ1, G1, v, R1, l.mono e1, r1, p1⟩⟩) fun u s1 hh => ?_) (eval_meth h0 hns hl hp)
    obtain ⟨x, H1, I1, rx, ρ1, G1, v, R1, l1, r1, p1⟩ := hh
    cases v with
    | ref i =>
      have r0 := r1
      unfold VR at r1
      obtain ⟨hi, rfl⟩ := r1
      cases (show u = Value.ref (ρ1 i) from rx)
      obtain ⟨w, hw⟩ : ∃ w, G1[i]? = some w := ⟨G1[i], by simp [hi]⟩
      have ob := R1.ob i w hw
      have p1 : Post S (VR S) (E σ) ρ1 G1.length H1 Q ((mthO S m G1 G1[i]?).bind fun k G1 => (args.ev L G1).bind fun vs G2 => S.call k (.ref i :: vs) G2) := p1
      rw [hw] at p1
      cases w with
      | ins c fs =>
        obtain ⟨dx, gs, k1, k2, k3, k5, k4⟩ := ob
        have C := o.good.cls c k5
        cases hm : (S.cd c).mth m with
        | none =>
          have z : mthO S m G1 (some (VO.ins c fs)) = .no := by show mthI G1 ((S.cd c).mth m) = _; rw [hm]; rfl
          rw [z] at p1; exact p1.elim
        | some k =>
          have z : mthO S m G1 (some (VO.ins c fs)) = .ok k G1 := by show mthI G1 ((S.cd c).mth m) = _; rw [hm]; rfl
          rw [z] at p1
          obtain ⟨hk, M⟩ := C.mt m k hm
          have lk : gs.lookup (S.nm m) = none := by
            cases e : gs.lookup (S.nm m) with
            | none => rfl
            | some v' =>
              exfalso
              have key : ∀ {fs : List (Nat × Va)} {gs : List (Str × V)}, FR S ρ1 G1.length H1 fs gs → gs.lookup (S.nm m) = some v' → ∃ f y, (f, y) ∈ fs ∧ S.nm f = S.nm m := by
                intro fs
                induction fs with
                | nil => intro gs h e; cases h; cases e
                | cons q fs ih =>
                  intro gs h e
                  obtain ⟨f, y0⟩ := q
                  obtain ⟨y, r, rfl, _, _, h3⟩ := h
                  by_cases q : S.nm f = S.nm m
                  · exact ⟨f, y0, List.mem_cons_self, q⟩
                  · have e2 : (S.nm m == S.nm f) = false := by simpa [beq_eq_false_iff_ne] using fun z => q z.symm
                    simp only [List.lookup, e2] at e
                    obtain ⟨f', y', a1, a2⟩ := ih h3 e
                    exact ⟨f', y', List.mem_cons_of_mem _ a1, a2⟩
              obtain ⟨f, y, a1, a2⟩ := key k2 e
              have nf := C.nf f (k4 _ a1)
              have mt := M.at_
              unfold NoAttr at nf
              rw [a2, mt] at nf
              cases nf
          refine getmeth_ok I1 k1 (by rw [o.K]; exact C.cl) (by rw [o.K]; exact M) lk ?_
          refine call_with (first := [.ref (ρ1 i)]) args o h4 h5 (o.good.fn k hk).1 I1 (R := fun vs H2 => ∃ ρ G as, Rl S ρ G H2 ∧ VRs S ρ G.length H2 as (V.ref (ρ1 i) :: vs) ∧ Post S (VR S) (E σ) ρ G.length H2 Q (S.call k as G)) ⟨ρ1, L, G1, R1, l1, Post.bind (r := args.ev L G1) p1 fun as G2 ρ2 H2 xs e2 R2 r2 p2 => ⟨ρ2, G2, .ref i :: as, R2, VRs.cons (r0.mono e2) r2, p2⟩⟩ fun us s2 vs H2 I2 r2 q2 => ?_
          exact o.run (us := .ref (ρ1 i) :: us) (vs := .ref (ρ1 i) :: vs) hk I2 (.cons rfl r2) q2
      | _ => exact p1.elim
    | _ => exact p1.elim
  · cases h
def cMth (m : Nat) (a : CE S) (args : CA S) : CE S := .plain (eMth m a args) (kMth S m a args) (cMth_pe m a args) fun N sc e h => by cases e <;> first | exact ⟨rfl, rfl⟩ | cases h
end
end VM
namespace VM
open PySem PySem.Spec PyProof.Rows L2
section
variable {S : Sx} {sc : Scope} {N : List Str} {lev : Nat} {E : EW} {X : Cx} {ρ : Nat → Addr} {G : Gh} {H : Hp} {n : Nat}
theorem VRs.cons_inv {x : Va} {xs : List Va} {zs : List V} (h : VRs S ρ n H (x :: xs) zs) : ∃ y ys, zs = y :: ys ∧ VR S ρ n H x y ∧ VRs S ρ n H xs ys := by
  unfold VRs at h; exact h
theorem VRs.one {x : Va} {zs : List V} (h : VRs S ρ n H [x] zs) : ∃ y, zs = [y] ∧ VR S ρ n H x y := by
  obtain ⟨y, ys, rfl, h1, h2⟩ := h.cons_inv
  unfold VRs at h2; subst h2
  exact ⟨y, rfl, h1⟩
theorem VRs.two {x x' : Va} {zs : List V} (h : VRs S ρ n H [x, x'] zs) : ∃ y y', zs = [y, y'] ∧ VR S ρ n H x y ∧ VR S ρ n H x' y' := by
  obtain ⟨y, ys, rfl, h1, h2⟩ := h.cons_inv
  obtain ⟨y', rfl, h3⟩ := h2.one
  exact ⟨y, y', rfl, h1, h3⟩
theorem Fin1.no {Q : VK} (h : Fin1 S ρ n H Q none) : False := by
  obtain ⟨a, b, e, _⟩ := h; cases e
theorem vr_int {i : Int} {x : V} (h : VR S ρ n H (.int i) x) : x = .int i := by unfold VR at h; exact h
theorem vr_bl {i : Bool} {x : V} (h : VR S ρ n H (.bl i) x) : x = .bl i := by unfold VR at h; exact h
theorem vr_str {i : Tx} {x : V} (h : VR S ρ n H (.str i) x) : x = .str (toS i) := by unfold VR at h; exact h
theorem vr_int' {i : Int} : VR S ρ n H (.int i) (.int i) := by unfold VR; rfl
theorem vr_bl' {i : Bool} : VR S ρ n H (.bl i) (.bl i) := by unfold VR; rfl
theorem vr_str' {i : Tx} : VR S ρ n H (.str i) (.str (toS i)) := by unfold VR; rfl
theorem vr_non' : VR S ρ n H .non .non := by unfold VR; rfl
/-- operations of one argument -/
def on1 (f : Va → Gh → Option (Va × Gh)) : OpN
  | [v], G => f v G
  | _, _ => none
def on2 (f : Va → Va → Gh → Option (Va × Gh)) : OpN
  | [v, w], G => f v w G
  | _, _ => none
def orN (f g : OpN) : OpN := fun vs G => match f vs G with
  | some r => some r
  | none => g vs G
theorem crOr {f : Value} {a b : OpN} (ha : CallR X f (rON S a)) (hb : CallR X f (rON S b)) : CallR X f (rON S (orN a b)) := by
  intro pins s σ H xs us Q I r h
  obtain ⟨ρ, G, as, R, va, p⟩ := h
  unfold orN at p
  cases e : a as G with
  | some z =>
    refine ha pins s σ H xs us Q I r ⟨ρ, G, as, R, va, ?_⟩
    simp only [e] at p
    rw [e]; exact p
  | none =>
    refine hb pins s σ H xs us Q I r ⟨ρ, G, as, R, va, ?_⟩
    simp only [e] at p
    exact p
theorem cr1 {f : Value} {op : Op1} (h : ∀ (pins : List (Addr × Obj)) (s : Shared) (σ : L2.St) (H : Hp) (x : V) (u : Value) (Q : VK) ρ G v, Inv X pins σ H s → RelV x u → Rl S ρ G H → VR S ρ G.length H v x → Fin1 S ρ G.length H Q (op v G) → wpAny (model X.prog X.w) X.A (call f [u]) (EP X pins σ Q) X.xe s) : CallR X f (rON S (on1 op)) := by
  intro pins s σ H xs us Q I r hh
  obtain ⟨ρ, G, as, R, va, p⟩ := hh
  cases as with
  | nil => exact p.no.elim
  | cons v as =>
    cases as with
    | cons w as => exact p.no.elim
    | nil =>
      obtain ⟨x, rfl, r1⟩ := va.one
      obtain ⟨u, rfl, ru⟩ := vals1 r
      exact h pins s σ H x u Q ρ G v I ru R r1 p
theorem cr2 {f : Value} {op : Op2} (h : ∀ (pins : List (Addr × Obj)) (s : Shared) (σ : L2.St) (H : Hp) (x y : V) (us : List Value) (Q : VK) ρ G v w, Inv X pins σ H s → Vals [x, y] us → Rl S ρ G H → VR S ρ G.length H v x → VR S ρ G.length H w y → Fin1 S ρ G.length H Q (op v w G) → wpAny (model X.prog X.w) X.A (call f us) (EP X pins σ Q) X.xe s) : CallR X f (rON S (on2 op)) := by
  intro pins s σ H xs us Q I r hh
  obtain ⟨ρ, G, as, R, va, p⟩ := hh
  cases as with
  | nil => exact p.no.elim
  | cons v as =>
    cases as with
    | nil => exact p.no.elim
    | cons w as =>
      cases as with
      | cons z as => exact p.no.elim
      | nil =>
        obtain ⟨x, y, rfl, r1, r2⟩ := va.two
        exact h pins s σ H x y us Q ρ G v w I r R r1 r2 p
/-! ### the built-in functions -/
def lenO : Option VO → Option Nat
  | some (.lst _ xs) => some xs.length
  | some (.dct false kvs) => some kvs.length
  | _ => none
def lenS (s : Tx) : Option Nat := if s.length ≤ sizeLine then some s.length else none
def lenV : Va → Gh → Option Nat
  | .str s, _ => lenS s
  | .tup xs, _ => some xs.length
  | .ref n, G => lenO G[n]?
  | _, _ => none
def lenF : Op1 := fun v G => (lenV v G).map fun (n : Nat) => (Va.int n, G)
/-- a list that is read -/
theorem rl_seq (R : Rl S ρ G H) {m : Nat} {fz : Bool} {xs : List Va} (hm : G[m]? = some (.lst fz xs)) : ∃ ys, SqL S.K H (ρ m) ys ∧ VRs S ρ G.length H xs ys := by
  have ob := R.ob m _ hm
  cases fz with
  | false =>
    obtain ⟨ys, h1, h2⟩ := ob
    exact ⟨ys, SqL.of h1, h2⟩
  | true =>
    obtain ⟨ys, h1, h2⟩ := ob
    exact ⟨ys, h1.elim (fun z => .inl (.inr z)) .inr, h2⟩
theorem vr_ref (h : VR S ρ n H (.ref m) x) : m < n ∧ x = .ref (ρ m) := by unfold VR at h; exact h
theorem vr_tup {xs : List Va} {x : V} (h : VR S ρ n H (.tup xs) x) : ∃ a ys, x = .ref a ∧ SqT S.K H a ys ∧ VRs S ρ n H xs ys := by unfold VR at h; exact h
theorem get_of {m : Nat} (h : m < G.length) : ∃ o, G[m]? = some o := ⟨G[m], by simp [h]⟩
theorem cr_lenF (o : Okx S sc N lev E X) : CallR X (.builtin "len") (rON S (on1 lenF)) := by
  refine cr1 fun pins s σ H x u Q ρ G v I ru R r p => ?_
  cases v with
  | str t =>
    obtain rfl := vr_str r
    have p : Fin1 S ρ G.length H Q ((lenS t).map fun (n : Nat) => (Va.int n, G)) := p
    unfold lenS at p
    by_cases hz : t.length ≤ sizeLine
    · rw [if_pos hz] at p
      refine call_len pins s σ H _ _ Q I (.cons ru .nil) ⟨.str (toS t), t.length, rfl, ⟨by rw [toS_len]; exact hz, (toS_len t).symm⟩, p.old R vr_int'⟩
    · rw [if_neg hz] at p; exact p.no.elim
  | tup xs =>
    obtain ⟨a, ys, rfl, h1, h2⟩ := vr_tup r
    refine call_len pins s σ H _ _ Q I (.cons ru .nil) ⟨_, ys.length, rfl, .inr ⟨ys, by rw [o.K]; exact h1, rfl⟩, ?_⟩
    rw [h2.length]
    exact p.old R vr_int'
  | ref m =>
    obtain ⟨hm, rfl⟩ := vr_ref r
    obtain ⟨w, hw⟩ := get_of hm
    have p : Fin1 S ρ G.length H Q ((lenO G[m]?).map fun (n : Nat) => (Va.int n, G)) := p
    rw [hw] at p
    cases w with
    | lst fz xs =>
      obtain ⟨ys, h1, h2⟩ := rl_seq R hw
      refine call_len pins s σ H _ _ Q I (.cons ru .nil) ⟨_, ys.length, rfl, .inl ⟨ys, by rw [o.K]; exact h1, rfl⟩, ?_⟩
      rw [h2.length]
      exact p.old R vr_int'
    | dct lk kvs =>
      cases lk with
      | true => exact p.no.elim
      | false =>
        obtain ⟨ks, h1, h2⟩ := R.ob m _ hw
        refine call_lenD pins s σ H _ _ Q I (.cons ru .nil) ⟨_, ks, rfl, h1, ?_⟩
        rw [h2.len]
        exact p.old R vr_int'
    | _ => exact p.no.elim
  | _ => exact p.no.elim
def absF : Op1
  | .int i, G => some (.int (if i < 0 then -i else i), G)
  | _, _ => none
theorem cr_absF (o : Okx S sc N lev E X) : CallR X (.builtin "abs") (rON S (on1 absF)) := by
  refine cr1 fun pins s σ H x u Q ρ G v I ru R r p => ?_
  cases v with
  | int i =>
    obtain rfl := vr_int r
    exact call_abs pins s σ H _ _ Q I (.cons ru .nil) ⟨i, rfl, p.old R vr_int'⟩
  | _ => exact p.no.elim
def intF : Op1
  | .int i, G => some (.int i, G)
  | .bl b, G => some (.int (if b then 1 else 0), G)
  | _, _ => none
theorem cr_intF (o : Okx S sc N lev E X) : CallR X (.type "int") (rON S (on1 intF)) := by
  refine cr1 fun pins s σ H x u Q ρ G v I ru R r p => ?_
  cases v with
  | int i =>
    obtain rfl := vr_int r
    exact call_int1 pins s σ H _ _ Q I (.cons ru .nil) (.inl ⟨i, rfl, p.old R vr_int'⟩)
  | bl i =>
    obtain rfl := vr_bl r
    exact call_int1 pins s σ H _ _ Q I (.cons ru .nil) (.inr ⟨i, rfl, p.old R vr_int'⟩)
  | _ => exact p.no.elim
def i2 (f : Int → Int → Int) : Op2
  | .int i, .int j, G => some (.int (f i j), G)
  | _, _, _ => none
theorem cr_i2 {f : Int → Int → Int} {u : Value} (h : CallR X u (fun xs H Q => ∃ i j, xs = [.int i, .int j] ∧ Q (.int (f i j)) H)) : CallR X u (rON S (on2 (i2 f))) := by
  refine cr2 fun pins s σ H x y us Q ρ G v w I ru R r1 r2 p => ?_
  cases v with
  | int i =>
    cases w with
    | int j =>
      obtain rfl := vr_int r1
      obtain rfl := vr_int r2
      exact h pins s σ H _ _ Q I ru ⟨i, j, rfl, p.old R vr_int'⟩
    | _ => exact p.no.elim
  | _ => exact p.no.elim
def imax (i j : Int) : Int := if j > i then j else i
def imin (i j : Int) : Int := if j < i then j else i
def igcd (a b : Int) : Int := ((Nat.gcd a.natAbs b.natAbs : Nat) : Int)
/-- a list's items, all ints; all bools -/
def intsV : List Va → Option (List Int)
  | [] => some []
  | .int i :: r => (intsV r).map (i :: ·)
  | _ :: _ => none
def blsV : List Va → Option (List Bool)
  | [] => some []
  | .bl i :: r => (blsV r).map (i :: ·)
  | _ :: _ => none
theorem intsV_ok : ∀ {xs : List Va} {is : List Int} {ys : List V}, intsV xs = some is → VRs S ρ n H xs ys → ys = is.map V.int
  | [], is, ys, h, r => by
    cases h
    unfold VRs at r; exact r
  | x :: xs, is, ys, h, r => by
    cases x with
    | int i =>
      obtain ⟨js, h1, rfl⟩ := Option.map_eq_some_iff.mp h
      obtain ⟨y, zs, rfl, h2, h3⟩ := r.cons_inv
      rw [vr_int h2, intsV_ok h1 h3]; rfl
    | _ => cases h
theorem blsV_ok : ∀ {xs : List Va} {is : List Bool} {ys : List V}, blsV xs = some is → VRs S ρ n H xs ys → ys = is.map V.bl
  | [], is, ys, h, r => by
    cases h
    unfold VRs at r; exact r
  | x :: xs, is, ys, h, r => by
    cases x with
    | bl i =>
      obtain ⟨js, h1, rfl⟩ := Option.map_eq_some_iff.mp h
      obtain ⟨y, zs, rfl, h2, h3⟩ := r.cons_inv
      rw [vr_bl h2, blsV_ok h1 h3]; rfl
    | _ => cases h
def lstOf : Option VO → Option (List Va)
  | some (.lst _ xs) => some xs
  | _ => none
def onL {α : Type} (g : List Va → Option α) (k : α → Option Va) : Op1
  | .ref n, G => (((lstOf G[n]?).bind g).bind k).map fun v => (v, G)
  | _, _ => none
theorem crL {α : Type} {g : List Va → Option α} {k : α → Option Va} {f : Value} (h : ∀ (pins : List (Addr × Obj)) (s : Shared) (σ : L2.St) (H : Hp) (a : Addr) (us : List Value) (Q : VK) xs ys ρ G z v, Inv X pins σ H s → Vals [.ref a] us → Rl S ρ G H → SqL S.K H a ys → VRs S ρ G.length H xs ys → g xs = some z → k z = some v → Fin1 S ρ G.length H Q (some (v, G)) → wpAny (model X.prog X.w) X.A (call f us) (EP X pins σ Q) X.xe s) : CallR X f (rON S (on1 (onL g k))) := by
  refine cr1 fun pins s σ H x u Q ρ G v I ru R r p => ?_
  cases v with
  | ref m =>
    obtain ⟨hm, rfl⟩ := vr_ref r
    obtain ⟨w, hw⟩ := get_of hm
    have p : Fin1 S ρ G.length H Q ((((lstOf G[m]?).bind g).bind k).map fun v => (v, G)) := p
    rw [hw] at p
    cases w with
    | lst fz xs =>
      obtain ⟨ys, h1, h2⟩ := rl_seq R hw
      have p : Fin1 S ρ G.length H Q (((g xs).bind k).map fun v => (v, G)) := p
      cases e1 : g xs with
      | none => rw [e1] at p; exact p.no.elim
      | some z =>
        rw [e1] at p
        have p : Fin1 S ρ G.length H Q ((k z).map fun v => (v, G)) := p
        cases e2 : k z with
        | none => rw [e2] at p; exact p.no.elim
        | some v =>
          rw [e2] at p
          exact h pins s σ H _ _ Q xs ys ρ G z v I (.cons ru .nil) R h1 h2 e1 e2 p
    | _ => exact p.no.elim
  | _ => exact p.no.elim
def sumF : Op1 := onL intsV fun is => some (.int is.sum)
theorem cr_sumF (hq : S.hq = false) (o : Okx S sc N lev E X) : CallR X (.builtin "sum") (rON S (on1 sumF)) := by
  refine crL fun pins s σ H a us Q xs ys ρ G z v I ru R h1 h2 e1 e2 p => ?_
  cases e2
  rw [intsV_ok e1 h2] at h1
  exact cr_sum (o.calm hq) pins s σ H _ _ Q I ru ⟨a, z, rfl, by rw [o.K]; exact h1, p.old R vr_int'⟩
def anyF : Op1 := onL blsV fun is => some (.bl (is.any id))
theorem cr_anyF (hq : S.hq = false) (o : Okx S sc N lev E X) : CallR X (.builtin "any") (rON S (on1 anyF)) := by
  refine crL fun pins s σ H a us Q xs ys ρ G z v I ru R h1 h2 e1 e2 p => ?_
  cases e2
  rw [blsV_ok e1 h2] at h1
  exact cr_any (o.calm hq) pins s σ H _ _ Q I ru ⟨a, z, rfl, by rw [o.K]; exact h1, p.old R vr_bl'⟩
def allF : Op1 := onL blsV fun is => some (.bl (is.all id))
theorem cr_allF (hq : S.hq = false) (o : Okx S sc N lev E X) : CallR X (.builtin "all") (rON S (on1 allF)) := by
  refine crL fun pins s σ H a us Q xs ys ρ G z v I ru R h1 h2 e1 e2 p => ?_
  cases e2
  rw [blsV_ok e1 h2] at h1
  exact cr_all (o.calm hq) pins s σ H _ _ Q I ru ⟨a, z, rfl, by rw [o.K]; exact h1, p.old R vr_bl'⟩
def mxL : List Int → Option Va
  | [] => none
  | i :: r => some (.int (r.foldl imax i))
def mnL : List Int → Option Va
  | [] => none
  | i :: r => some (.int (r.foldl imin i))
theorem imax_ge (i j : Int) : i ≤ imax i j ∧ j ≤ imax i j ∧ (imax i j = i ∨ imax i j = j) := by
  unfold imax; split <;> omega
theorem imin_le (i j : Int) : imin i j ≤ i ∧ imin i j ≤ j ∧ (imin i j = i ∨ imin i j = j) := by
  unfold imin; split <;> omega
theorem fold_max : ∀ (r : List Int) (i : Int), (r.foldl imax i) ∈ i :: r ∧ ∀ y ∈ i :: r, y ≤ r.foldl imax i
  | [], i => ⟨by simp, by simp⟩
  | j :: r, i => by
    obtain ⟨h1, h2⟩ := fold_max r (imax i j)
    obtain ⟨a, b, c⟩ := imax_ge i j
    rw [List.foldl_cons]
    refine ⟨?_, fun y hy => ?_⟩
    · rcases List.mem_cons.mp h1 with q | q
      · rcases c with c | c <;> rw [q, c] <;> simp
      · exact List.mem_cons_of_mem _ (List.mem_cons_of_mem _ q)
    · have h3 := h2 (imax i j) List.mem_cons_self
      rcases List.mem_cons.mp hy with rfl | hy
      · omega
      · rcases List.mem_cons.mp hy with rfl | hy
        · omega
        · exact h2 y (List.mem_cons_of_mem _ hy)
theorem fold_min : ∀ (r : List Int) (i : Int), (r.foldl imin i) ∈ i :: r ∧ ∀ y ∈ i :: r, r.foldl imin i ≤ y
  | [], i => ⟨by simp, by simp⟩
  | j :: r, i => by
    obtain ⟨h1, h2⟩ := fold_min r (imin i j)
    obtain ⟨a, b, c⟩ := imin_le i j
    rw [List.foldl_cons]
    refine ⟨?_, fun y hy => ?_⟩
    · rcases List.mem_cons.mp h1 with q | q
      · rcases c with c | c <;> rw [q, c] <;> simp
      · exact List.mem_cons_of_mem _ (List.mem_cons_of_mem _ q)
    · have h3 := h2 (imin i j) List.mem_cons_self
      rcases List.mem_cons.mp hy with rfl | hy
      · omega
      · rcases List.mem_cons.mp hy with rfl | hy
        · omega
        · exact h2 y (List.mem_cons_of_mem _ hy)
theorem cr_mxL (hq : S.hq = false) (o : Okx S sc N lev E X) : CallR X (.builtin "max") (rON S (on1 (onL intsV mxL))) := by
  refine crL fun pins s σ H a us Q xs ys ρ G z v I ru R h1 h2 e1 e2 p => ?_
  rw [intsV_ok e1 h2] at h1
  cases z with
  | nil => cases e2
  | cons i r =>
    cases e2
    obtain ⟨f1, f2⟩ := fold_max r i
    refine cr_max (o.calm hq) pins s σ H _ _ Q I ru ⟨a, i :: r, rfl, by rw [o.K]; exact h1, Nat.succ_pos _, fun m hm hy => ?_⟩
    have e : m = r.foldl imax i := Int.le_antisymm (f2 m hm) (hy _ f1)
    rw [e]
    exact p.old R vr_int'
theorem cr_mnL (hq : S.hq = false) (o : Okx S sc N lev E X) : CallR X (.builtin "min") (rON S (on1 (onL intsV mnL))) := by
  refine crL fun pins s σ H a us Q xs ys ρ G z v I ru R h1 h2 e1 e2 p => ?_
  rw [intsV_ok e1 h2] at h1
  cases z with
  | nil => cases e2
  | cons i r =>
    cases e2
    obtain ⟨f1, f2⟩ := fold_min r i
    refine cr_min (o.calm hq) pins s σ H _ _ Q I ru ⟨a, i :: r, rfl, by rw [o.K]; exact h1, Nat.succ_pos _, fun m hm hy => ?_⟩
    have e : m = r.foldl imin i := Int.le_antisymm (hy _ f1) (f2 m hm)
    rw [e]
    exact p.old R vr_int'
def maxF : OpN := orN (on2 (i2 imax)) (on1 (onL intsV mxL))
def minF : OpN := orN (on2 (i2 imin)) (on1 (onL intsV mnL))
theorem cr_maxF (hq : S.hq = false) (o : Okx S sc N lev E X) : CallR X (.builtin "max") (rON S maxF) := crOr (cr_i2 (f := imax) (call_max2 (o.calm hq))) (cr_mxL hq o)
theorem cr_minF (hq : S.hq = false) (o : Okx S sc N lev E X) : CallR X (.builtin "min") (rON S minF) := crOr (cr_i2 (f := imin) (call_min2 (o.calm hq))) (cr_mnL hq o)
theorem cr_gcdF (o : Okx S sc N lev E X) : CallR X (.builtin "math.gcd") (rON S (on2 (i2 igcd))) := cr_i2 (f := igcd) cr_gcd
/-- list(x), tuple(x) of a list, a tuple -/
def listF : Op1 := fun v G => (seqO G v).map fun xs => (.ref G.length, G ++ [.lst false xs])
theorem cr_listF (o : Okx S sc N lev E X) : CallR X (.type "list") (rON S (on1 listF)) := by
  refine cr1 fun pins s σ H x u Q ρ G v I ru R r p => ?_
  unfold listF at p
  cases e : seqO G v with
  | none => rw [e] at p; exact p.no.elim
  | some xs =>
    rw [e] at p
    obtain ⟨a, ys, rfl, h1, h2⟩ := seq_ok R e r
    exact call_list_of pins s σ H _ _ Q I (.cons ru .nil) ⟨a, ys, rfl, by rw [o.K]; exact h1, fun l hl => p.lst R h2 hl⟩
def tupF : Op1
  | .tup xs, G => some (.tup xs, G)
  | .ref n, G => (lstOf G[n]?).map fun xs => (.tup xs, G)
  | _, _ => none
theorem cr_tupF (o : Okx S sc N lev E X) : CallR X (.type "tuple") (rON S (on1 tupF)) := by
  refine cr1 fun pins s σ H x u Q ρ G v I ru R r p => ?_
  cases v with
  | tup xs =>
    have r0 := r
    obtain ⟨a, ys, rfl, h1, h2⟩ := vr_tup r
    exact call_tuple_of pins s σ H _ _ Q I (.cons ru .nil) ⟨a, ys, rfl, .inr ⟨by rw [o.K]; exact h1, p.old R r0⟩⟩
  | ref m =>
    obtain ⟨hm, rfl⟩ := vr_ref r
    obtain ⟨w, hw⟩ := get_of hm
    have p : Fin1 S ρ G.length H Q ((lstOf G[m]?).map fun xs => (.tup xs, G)) := p
    rw [hw] at p
    cases w with
    | lst fz xs =>
      obtain ⟨ys, h1, h2⟩ := rl_seq R hw
      exact call_tuple_of pins s σ H _ _ Q I (.cons ru .nil) ⟨_, ys, rfl, .inl ⟨by rw [o.K]; exact h1, fun l hl => p.tup R h2 hl⟩⟩
    | _ => exact p.no.elim
  | _ => exact p.no.elim
def lstR1 (xs : List Va) : Op1 := fun _ G => some (.ref G.length, G ++ [.lst false xs])
/-- decimal signs -/
def itx (i : Int) : Tx := (toString i).toList.map Char.toNat
end
end VM
/-! VMk: calls of built-in functions, types -/
namespace VM
open PySem PySem.Spec PyProof.Rows L2
/-- bool.__new__ of anything: its truth -/
theorem meets_bool_any {prog : Program} {w : World} (x : Value) : MeetsIn prog w (Builtin.«bool.__new__» ⟨[.type "bool", x], []⟩) (fun A R s => wpAny (model prog w) A.in1 (truthy x) (fun b s' => R (.ok (.ret (.bool b))) s') (fun e s' => R (.error e) s') s) :=
  MeetsIn.of_wp fun A R s hs => by
    have f1 := F.conv_sub_bool
    repeat (any_goals (first | assumption | (with_reducible refine wpAny_mono hs (fun b s' hb => ?_) fun _ _ x => x) | wp_step))
    all_goals first | exact ⟨_, rfl, hs⟩ | exact ⟨_, rfl, hb⟩ | exact hs | skip
theorem call_bool_any {prog : Program} {w : World} {A : Around} {E : Value → Shared → Prop} {s : Shared} {x : Value} {Q : Value → Shared → Prop} (h : wpAny (model prog w) A.in1.in1 (truthy x) (fun b s' => Q (.bool b) s') E s) : wpAny (model prog w) A (call (.type "bool") [x]) Q E s :=
  callType_newIn F.called_bool F.newNe_bool (F.typeCall_bool_1 x) (F.newCall_bool_1 x) (fun obj => F.args_object_init_2 obj x) F.entry_bool_new (meets_bool_any x) (wpAny_mono h (fun b s' hb => ⟨rfl, hb⟩) fun _ _ y => y)
section
variable {S : Sx} {sc : Scope} {N : List Str} {lev : Nat} {E : EW} {X : Cx} {ρ : Nat → Addr} {G : Gh} {H : Hp} {n : Nat}
/-! ### a built-in function by its name -/
def isBiB (n : String) : Option Value → Bool
  | some (.builtin m) => decide (n = m)
  | _ => false
theorem isBiB_eq {n : String} {o : Option Value} (h : isBiB n o = true) : o = some (.builtin n) := by
  unfold isBiB at h
  split at h
  · rw [of_decide_eq_true h]
  · cases h
def bltN (S : Sx) (x : Str) (sc : Scope) : Bool := decide (x ∈ S.bl) && (scIs sc x .globalImplicit && (!(x == ("__debug__" : Str)) && !decide (x = "__name__")))
def kBi (S : Sx) (id : String) (args : CA S) (N : List Str) (sc : Scope) : Expr → Bool
  | .Call (.Name x _) (e :: es) [] _ => bltN S x sc && (isBiB id (bootBuiltins x) && (args.pl && args.chk N sc (e :: es)))
  | _ => false
def kBt (S : Sx) (id : String) (args : CA S) (N : List Str) (sc : Scope) : Expr → Bool
  | .Call (.Name x _) (e :: es) [] _ => bltN S x sc && (isTyB id (bootBuiltins x) && (args.pl && args.chk N sc (e :: es)))
  | _ => false
def kBg (S : Sx) (id : String) (args : CA S) (N : List Str) (sc : Scope) : Expr → Bool
  | .Call (.Name x _) (e :: es) [] _ => decide ((x, id) ∈ S.bg) && (scIs sc x .globalImplicit && (!(x == ("__debug__" : Str)) && (args.pl && args.chk N sc (e :: es))))
  | _ => false
def eBi (op : OpN) (args : CA S) : Lo → Gh → Res Va := fun L G => (args.ev L G).bind fun vs G1 => lift (op vs G1)
theorem bi_we (op : OpN) (args : CA S) {σ : L2.St} {H : Hp} {Q : VK} (q : WE S E (eBi op args) σ H Q) : tCB (rON S op) (WA S E args.ev) σ H Q := by
  obtain ⟨ρ, L, G, R, l, p⟩ := q
  exact ⟨ρ, L, G, R, l, Post.bind p fun vs G1 ρ1 H1 xs e1 R1 r1 p1 => ⟨ρ1, G1, vs, R1, r1, fin_of_lift p1⟩⟩
/-- an operation that is a built-in function's, a type's -/
structure Bop (S : Sx) (f : Value) where
  op : OpN
  /-- whether it may stand in an except suite -/
  hot : Bool
  ok : ∀ {sc N lev E X}, (hot || !S.hq) = true → Okx S sc N lev E X → CallR X f (rON S op)
theorem bltN_ok (o : Okx S sc N lev E X) {x : Str} (h : bltN S x sc = true) : Gl X x ∧ X.mg x = none ∧ x ≠ "__name__" ∧ (x == ("__debug__" : Str)) = false := by
  simp only [bltN, Bool.and_eq_true, decide_eq_true_eq, Bool.not_eq_true', decide_eq_false_iff_not] at h
  obtain ⟨h1, h2, h3, h4⟩ := h
  exact ⟨o.gl h2, by rw [o.mg]; exact o.good.bl _ h1, h4, h3⟩
theorem args_st (args : CA S) {e : Expr} {es : List Expr} {env : Env} (hp : args.pl = true) (h : args.chk N sc (e :: es) = true) {pos : Pos} : starEach (e :: es) env = (false, eval e env) :: starEach es env ∧ (backTo pos (starEach es env)).any (·.1) = false := by
  obtain ⟨h1, h2⟩ := noStars_cons (args.ns hp h)
  exact ⟨starEach_cons h1, backTo_plain h2⟩
def kHot (hot : Bool) (S : Sx) (k : List Str → Scope → Expr → Bool) (N : List Str) (sc : Scope) (e : Expr) : Bool := (hot || !S.hq) && k N sc e
theorem cBi_pe {id : String} (b : Bop S (.builtin id)) (args : CA S) {e : Expr} (o : Okx S sc N lev E X) (h : kHot b.hot S (kBi S id args) N sc e = true) : PE X e (WE S E (eBi b.op args)) := by
  unfold kHot at h
  rw [Bool.and_eq_true] at h
  obtain ⟨hh, h⟩ := h
  unfold kBi at h
  split at h
  · simp only [Bool.and_eq_true] at h
    obtain ⟨h1, h2, h3, h4⟩ := h
    obtain ⟨g1, g2, g3, g4⟩ := bltN_ok o h1
    obtain ⟨a1, a2⟩ := args_st args h3 h4
    exact pe_imp (pe_callB (b.ok hh o) g1 g2 (isBiB_eq h2) (args.pa o h4) g3 g4 a1 a2) fun σ H Q q => bi_we b.op args q
  · cases h
def cBi {id : String} (b : Bop S (.builtin id)) (args : CA S) : CE S := .plain (eBi b.op args) (kHot b.hot S (kBi S id args)) (cBi_pe b args) fun N sc e h => by unfold kHot at h; rw [Bool.and_eq_true] at h; obtain ⟨_, h⟩ := h; cases e <;> first | exact ⟨rfl, rfl⟩ | cases h
theorem cBt_pe {id : String} (b : Bop S (.type id)) (args : CA S) {e : Expr} (o : Okx S sc N lev E X) (h : kHot b.hot S (kBt S id args) N sc e = true) : PE X e (WE S E (eBi b.op args)) := by
  unfold kHot at h
  rw [Bool.and_eq_true] at h
  obtain ⟨hh, h⟩ := h
  unfold kBt at h
  split at h
  · simp only [Bool.and_eq_true] at h
    obtain ⟨h1, h2, h3, h4⟩ := h
    obtain ⟨g1, g2, g3, g4⟩ := bltN_ok o h1
    obtain ⟨a1, a2⟩ := args_st args h3 h4
    exact pe_imp (pe_callTy (b.ok hh o) g1 g2 (isTyB_eq h2) (args.pa o h4) g3 g4 a1 a2) fun σ H Q q => bi_we b.op args q
  · cases h
def cBt {id : String} (b : Bop S (.type id)) (args : CA S) : CE S := .plain (eBi b.op args) (kHot b.hot S (kBt S id args)) (cBt_pe b args) fun N sc e h => by unfold kHot at h; rw [Bool.and_eq_true] at h; obtain ⟨_, h⟩ := h; cases e <;> first | exact ⟨rfl, rfl⟩ | cases h
theorem cBg_pe {id : String} (b : Bop S (.builtin id)) (args : CA S) {e : Expr} (o : Okx S sc N lev E X) (h : kHot b.hot S (kBg S id args) N sc e = true) : PE X e (WE S E (eBi b.op args)) := by
  unfold kHot at h
  rw [Bool.and_eq_true] at h
  obtain ⟨hh, h⟩ := h
  unfold kBg at h
  split at h
  · simp only [Bool.and_eq_true, decide_eq_true_eq, Bool.not_eq_true'] at h
    obtain ⟨h1, h2, h5, h3, h4⟩ := h
    obtain ⟨a1, a2⟩ := args_st args h3 h4
    exact pe_imp (pe_callBfun (b.ok hh o) (o.gl h2) (by rw [o.mg]; exact o.good.bg _ h1) (args.pa o h4) h5 a1 a2) fun σ H Q q => bi_we b.op args q
  · cases h
def cBg {id : String} (b : Bop S (.builtin id)) (args : CA S) : CE S := .plain (eBi b.op args) (kHot b.hot S (kBg S id args)) (cBg_pe b args) fun N sc e h => by unfold kHot at h; rw [Bool.and_eq_true] at h; obtain ⟨_, h⟩ := h; cases e <;> first | exact ⟨rfl, rfl⟩ | cases h
def bLen : Bop S (.builtin "len") := ⟨on1 lenF, true, fun _ => cr_lenF⟩
def bAbs : Bop S (.builtin "abs") := ⟨on1 absF, true, fun _ => cr_absF⟩
def bMax : Bop S (.builtin "max") := ⟨maxF, false, fun h => cr_maxF (by simpa using h)⟩
def bMin : Bop S (.builtin "min") := ⟨minF, false, fun h => cr_minF (by simpa using h)⟩
def bSum : Bop S (.builtin "sum") := ⟨on1 sumF, false, fun h => cr_sumF (by simpa using h)⟩
def bAny : Bop S (.builtin "any") := ⟨on1 anyF, false, fun h => cr_anyF (by simpa using h)⟩
def bAll : Bop S (.builtin "all") := ⟨on1 allF, false, fun h => cr_allF (by simpa using h)⟩
def bGcd : Bop S (.builtin "math.gcd") := ⟨on2 (i2 igcd), true, fun _ => cr_gcdF⟩
def bInt : Bop S (.type "int") := ⟨on1 intF, true, fun _ => cr_intF⟩
def bList : Bop S (.type "list") := ⟨on1 listF, true, fun _ => cr_listF⟩
def bTup : Bop S (.type "tuple") := ⟨on1 tupF, true, fun _ => cr_tupF⟩
/-! ### bool(x) -/
def eBool (a : CE S) : Lo → Gh → Res Va := fun L G => (a.ev L G).bind fun v G1 => (tr S v G1).bind fun b G2 => .ok (.bl b) G2
def kBool (S : Sx) (a : CE S) (N : List Str) (sc : Scope) : Expr → Bool
  | .Call (.Name x _) [e] [] _ => bltN S x sc && (isTyB "bool" (bootBuiltins x) && (!isStar e && a.chk N sc e))
  | _ => false
theorem cBool_pe (a : CE S) {e : Expr} (o : Okx S sc N lev E X) (h : kBool S a N sc e = true) : PE X e (WE S E (eBool a)) := by
  unfold kBool at h
  split at h
  · rename_i x p e pos
    simp only [Bool.and_eq_true, Bool.not_eq_true'] at h
    obtain ⟨h1, h2, h3, h4⟩ := h
    obtain ⟨g1, g2, g3, g4⟩ := bltN_ok o h1
    have st : starEach [e] X.env = (false, eval e X.env) :: starEach [] X.env := starEach_cons h3
    refine ⟨fun pins s σ H Q I q => ?_⟩
    refine wpAny_Call_Name_kw (ld_blt I g1 g2 (isTyB_eq h2) ?_ g3 g4)
    refine PyProof.Rows.callWith_type1 (thn ((pa_cons (a.pe o h4) pa_nil st).run pos pins s σ H (fun vs H1 => ∃ v ρ G w, vs = [v] ∧ Rl S ρ G H1 ∧ VR S ρ G.length H1 w v ∧ Post S (VR S) (E σ) ρ G.length H1 Q ((tr S w G).bind fun b G2 => .ok (.bl b) G2)) I ?_) fun us s1 hh => ?_) st rfl
    · obtain ⟨ρ, L, G, R, l, p⟩ := q
      exact ⟨ρ, L, G, R, l, Post.bind p fun v G1 ρ1 H1 x e1 R1 r1 p1 => ⟨x, ρ1, G1, v, rfl, R1, r1, p1⟩⟩
    · obtain ⟨vs, H1, I1, r1, v, ρ, G, w, rfl, R, rv, p⟩ := hh
      obtain ⟨u, rfl, ru⟩ := vals1 r1
      refine call_bool_any (wpAny_mono (tr_okW o.inw (inv_inn I1) ru (Q := fun b H2 => Q (.bl b) H2) ⟨ρ, G, w, R, rv, Post.bind p fun b G2 ρ2 H2 b' e2 R2 r2 p2 => ?_⟩) (fun b s2 hb => ?_) fun _ _ y => y)
      · subst r2
        exact p2 ρ2 H2 _ (Ext.refl _ _ _) R2 vr_bl'
      · obtain ⟨H2, I2, q2⟩ := hb
        exact ⟨.bl b, H2, inv_out I2, rfl, q2⟩
  · cases h
def cBool (a : CE S) : CE S := .plain (eBool a) (kBool S a) (cBool_pe a) fun N sc e h => by cases e <;> first | exact ⟨rfl, rfl⟩ | cases h
/-! ### isinstance -/
inductive Tag where
  | b (n : String) | c (k : Nat)
def tagO : Option VO → Option Tag
  | some (.lst _ _) => some (.b "list")
  | some (.dct _ _) => some (.b "dict")
  | some (.ins c _) => some (.c c)
  | _ => none
def tagV : Va → Gh → Option Tag
  | .non, _ => some (.b "NoneType")
  | .bl _, _ => some (.b "bool")
  | .int _, _ => some (.b "int")
  | .str _, _ => some (.b "str")
  | .tup _, _ => some (.b "tuple")
  | .ref n, G => tagO G[n]?
  | _, _ => none
def tyIs (a b : String) : Option Bool := if a ∈ tagL then (if b ∈ tagL then some (decide (a = b) || (decide (a = "bool") && decide (b = "int"))) else none) else none
theorem kitB_all : tagL.all (fun a => tagL.all fun b => decide (kitB a b = some (decide (a = b) || (decide (a = "bool") && decide (b = "int"))))) = true := by decide +kernel
def tagIs (S : Sx) : Tag → Va → Option Bool
  | .b a, .ty b => tyIs a b
  | .b a, .cl c => if a ∈ tagL then (if c < S.nc then some false else none) else none
  | .c c, .ty b => if (c, b) ∈ S.ibl then some false else none
  | .c c, .cl c' => if c' < S.nc ∧ (c, c') ∈ S.isl then some (S.sub c c') else none
  | _, _ => none
def Tag.u (S : Sx) : Tag → Value
  | .b y => .type y
  | .c z => .ref (S.ca z)
def clsU (S : Sx) : Va → Option (V × Value)
  | .ty b => some (.ty b, .type b)
  | .cl c => some (.ref (S.ca c), .ref (S.ca c))
  | _ => none
theorem tagIs_ok (g : Good S lev) {t : Tag} (ht : ∀ c, t = .c c → c < S.nc) {w : Va} {r : Bool} (h : tagIs S t w = some r) : ∃ v u, clsU S w = some (v, u) ∧ ClsV v u ∧ PySem.W.kitOne S.K (t.u S) u = some r := by
  cases t with
  | b a =>
    cases w with
    | ty b =>
      refine ⟨_, _, rfl, .ty b, kit_ty ?_⟩
      have h : tyIs a b = some r := h
      unfold tyIs at h
      split at h
      · rename_i ha
        split at h
        · rename_i hb
          rw [← h]
          exact of_decide_eq_true ((List.all_eq_true.mp ((List.all_eq_true.mp kitB_all) a ha)) b hb)
        · cases h
      · cases h
    | cl c =>
      have h : (if a ∈ tagL then (if c < S.nc then some false else none) else none) = some r := h
      split at h
      · rename_i ha
        split at h
        · rename_i hc
          cases h
          exact ⟨_, _, rfl, .own _, (g.cls c hc).it a ha⟩
        · cases h
      · cases h
    | _ => cases h
  | c k =>
    cases w with
    | ty b =>
      have h : (if (k, b) ∈ S.ibl then some false else none) = some r := h
      split at h
      · rename_i hb
        cases h
        exact ⟨_, _, rfl, .ty b, (g.cls k (ht k rfl)).ib b hb⟩
      · cases h
    | cl c =>
      have h : (if c < S.nc ∧ (k, c) ∈ S.isl then some (S.sub k c) else none) = some r := h
      split at h
      · rename_i hc
        cases h
        exact ⟨_, _, rfl, .own _, (g.cls c hc.1).is k hc.2⟩
      · cases h
    | _ => cases h
theorem tag_ok (g : Good S lev) (R : Rl S ρ G H) {v : Va} {x : V} (r : VR S ρ G.length H v x) {t : Tag} (h : tagV v G = some t) : TyX S.K H x (t.u S) ∧ ∀ c, t = .c c → c < S.nc := by
  cases v with
  | non => cases h; unfold VR at r; subst r; exact ⟨.base .non, fun c e => by cases e⟩
  | bl b => cases h; obtain rfl := vr_bl r; exact ⟨.base (.bl _), fun c e => by cases e⟩
  | int b => cases h; obtain rfl := vr_int r; exact ⟨.base (.int _), fun c e => by cases e⟩
  | str b => cases h; obtain rfl := vr_str r; exact ⟨.base (.str _), fun c e => by cases e⟩
  | tup xs =>
    cases h
    obtain ⟨a, ys, rfl, h1, h2⟩ := vr_tup r
    refine ⟨?_, fun c e => by cases e⟩
    rcases h1 with (h1 | ⟨o, h1⟩) | ⟨o, its, n, h1, h3, _⟩
    · exact .base (.tup h1)
    · exact .fTuple h1
    · exact .kTuple h1 h3
  | ref m =>
    obtain ⟨hm, rfl⟩ := vr_ref r
    obtain ⟨w, hw⟩ := get_of hm
    have h : tagO G[m]? = some t := h
    rw [hw] at h
    have ob := R.ob m w hw
    cases w with
    | lst fz xs =>
      cases h
      refine ⟨?_, fun c e => by cases e⟩
      cases fz with
      | false =>
        obtain ⟨ys, h1, h2⟩ := ob
        exact .base (.lst h1)
      | true =>
        obtain ⟨ys, h1, h2⟩ := ob
        rcases h1 with ⟨o, h1⟩ | ⟨o, its, n, h1, h3, _⟩
        · exact .base (.frz h1)
        · exact .kList h1 h3
    | dct lk kvs =>
      cases h
      refine ⟨?_, fun c e => by cases e⟩
      cases lk with
      | false =>
        obtain ⟨ks, h1, h2⟩ := ob
        exact .base (.dK h1)
      | true =>
        obtain ⟨o, ks, h1, h2⟩ := ob
        exact .fDict h1
    | ins c fs =>
      cases h
      obtain ⟨dx, gs, h1, h2, h3, h5, h4⟩ := ob
      refine ⟨?_, fun c' e => by cases e; exact h5⟩
      have C := g.cls c h5
      exact .base (.ins h1 C.cl C.ic g.cg1 g.cg2 C.im)
    | deq xs => exact ob.elim
    | exc fs => cases h
    | dtu lk kvs => cases h
  | cl k => cases h
  | ty k => cases h
  | xr c k => cases h
def isiF (S : Sx) : Op2 := fun v w G => ((tagV v G).bind fun t => tagIs S t w).map fun b => (Va.bl b, G)
theorem clsU_vr {w : Va} {v : V} {u : Value} (h : clsU S w = some (v, u)) {y : V} (r : VR S ρ n H w y) : y = v := by
  cases w with
  | ty b => cases h; unfold VR at r; exact r
  | cl b => cases h; unfold VR at r; exact r
  | _ => cases h
theorem cr_isiF (o : Okx S sc N lev E X) : CallR X (.builtin "isinstance") (rON S (on2 (isiF S))) := by
  refine cr2 fun pins s σ H x y us Q ρ G v w I ru R r1 r2 p => ?_
  unfold isiF at p
  cases e : tagV v G with
  | none => rw [e] at p; exact p.no.elim
  | some t =>
    rw [e] at p
    have p : Fin1 S ρ G.length H Q ((tagIs S t w).map fun b => (Va.bl b, G)) := p
    obtain ⟨t1, t2⟩ := tag_ok o.good R r1 e
    cases e2 : tagIs S t w with
    | none => rw [e2] at p; exact p.no.elim
    | some b =>
      rw [e2] at p
      obtain ⟨v', u', c1, c2, c3⟩ := tagIs_ok o.good t2 e2
      obtain rfl := clsU_vr c1 r2
      exact call_isi pins s σ H _ _ Q I ru ⟨x, _, _, u', b, rfl, c2, by rw [o.K]; exact t1, by rw [o.K]; exact c3, p.old R vr_bl'⟩
def bIsi : Bop S (.builtin "isinstance") := ⟨on2 (isiF S), true, fun _ => cr_isiF⟩
/-- isinstance(x, (C, ..)) -/
def anyIs (S : Sx) (t : Tag) : List Va → Option Bool
  | [] => some false
  | w :: r => (tagIs S t w).bind fun b => (anyIs S t r).map fun b' => b || b'
theorem anyIs_ok (g : Good S lev) {t : Tag} (ht : ∀ c, t = .c c → c < S.nc) : ∀ {ws : List Va} {r : Bool} {ys : List V}, anyIs S t ws = some r → VRs S ρ n H ws ys → ∃ us, Paired ClsV ys us ∧ PySem.W.kitAny S.K (t.u S) us = some r
  | [], r, ys, h, hv => by
    cases h
    unfold VRs at hv; subst hv
    exact ⟨[], .nil, rfl⟩
  | w :: ws, r, ys, h, hv => by
    obtain ⟨y, zs, rfl, h1, h2⟩ := hv.cons_inv
    have h : ((tagIs S t w).bind fun b => (anyIs S t ws).map fun b' => b || b') = some r := h
    cases e : tagIs S t w with
    | none => rw [e] at h; cases h
    | some b =>
      rw [e] at h
      obtain ⟨b', e2, rfl⟩ := Option.map_eq_some_iff.mp h
      obtain ⟨us, p1, p2⟩ := anyIs_ok g ht e2 h2
      obtain ⟨v', u', c1, c2, c3⟩ := tagIs_ok g ht e
      obtain rfl := clsU_vr c1 h1
      refine ⟨u' :: us, .cons c2 p1, kitAny_cons c3 (fun hb => ?_) fun hb => ?_⟩
      · subst hb; simpa using p2
      · subst hb; rfl
def eIsT (a : CE S) (ts : CA S) : Lo → Gh → Res Va := fun L G => (a.ev L G).bind fun v G1 => (ts.ev L G1).bind fun ws G2 => lift (((tagV v G2).bind fun t => if ws.length ≤ sizeLine then anyIs S t ws else none).map fun b => (Va.bl b, G2))
def kIsT (S : Sx) (a : CE S) (ts : CA S) (N : List Str) (sc : Scope) : Expr → Bool
  | .Call (.Name x _) [e, .Tuple es _ _] [] _ => bltN S x sc && (isBiB "isinstance" (bootBuiltins x) && (!isStar e && (a.chk N sc e && ts.chk N sc es)))
  | _ => false
theorem tag_mono {v : Va} {x : V} {ρ' : Nat → Addr} {n' : Nat} {H' : Hp} : True := trivial
theorem cIsT_pe (a : CE S) (ts : CA S) {e : Expr} (o : Okx S sc N lev E X) (h : kIsT S a ts N sc e = true) : PE X e (WE S E (eIsT a ts)) := by
  unfold kIsT at h
  split at h
  · rename_i x p e es k pt pos
    simp only [Bool.and_eq_true, Bool.not_eq_true'] at h
    obtain ⟨h1, h2, h3, h4, h5⟩ := h
    obtain ⟨g1, g2, g3, g4⟩ := bltN_ok o h1
    have st : starEach [e, .Tuple es k pt] X.env = (false, eval e X.env) :: starEach [.Tuple es k pt] X.env := starEach_cons h3
    have st2 : starEach [.Tuple es k pt] X.env = (false, eval (.Tuple es k pt) X.env) :: starEach [] X.env := rfl
    refine pe_imp (pe_callB call_isiT g1 g2 (isBiB_eq h2) (pa_cons (a.pe o h4) (pa_cons (pe_tup (ts.pa o h5)) pa_nil st2) st) g3 g4 st rfl) fun σ H Q q => ?_
    obtain ⟨ρ, L, G, R, l, p⟩ := q
    refine ⟨ρ, L, G, R, l, Post.bind p fun v G1 ρ1 H1 x e1 R1 r1 p1 => ?_⟩
    refine ⟨ρ1, L, G1, R1, l.mono e1, Post.bind p1 fun ws G2 ρ2 H2 ys e2 R2 r2 p2 => ?_⟩
    have p2 : Fin1 S ρ2 G2.length H2 Q (((tagV v G2).bind fun t => if ws.length ≤ sizeLine then anyIs S t ws else none).map fun b => (Va.bl b, G2)) := fin_of_lift p2
    cases e3 : tagV v G2 with
    | none => rw [e3] at p2; exact p2.no.elim
    | some t =>
      rw [e3] at p2
      have p2 : Fin1 S ρ2 G2.length H2 Q ((if ws.length ≤ sizeLine then anyIs S t ws else none).map fun b => (Va.bl b, G2)) := p2
      split at p2
      · rename_i hz
        refine ⟨by rw [r2.length]; exact hz, fun b hb => ?_⟩
        have e4 : Ext ρ2 G2.length H2 ρ2 G2.length (upd H2 b (.tup ys)) := Ext.new hb
        have R4 := R2.new (o := .tup ys) hb
        cases e5 : anyIs S t ws with
        | none => rw [e5] at p2; exact p2.no.elim
        | some r =>
          rw [e5] at p2
          obtain ⟨t1, t2⟩ := tag_ok o.good R4 ((r1.mono e2).mono e4) e3
          obtain ⟨us, c1, c2⟩ := anyIs_ok o.good t2 e5 r2
          exact ⟨x, b, ys, _, us, r, rfl, upd_same, c1, by rw [o.K]; exact t1, by rw [o.K]; exact c2, p2.now e4 R4 vr_bl'⟩
      · exact p2.no.elim
  · cases h
def cIsT (a : CE S) (ts : CA S) : CE S := .plain (eIsT a ts) (kIsT S a ts) (cIsT_pe a ts) fun N sc e h => by cases e <;> first | exact ⟨rfl, rfl⟩ | cases h
end
end VM
/-! VMl: what is gone through; targets -/
namespace VM
open PySem PySem.Spec PyProof.Rows L2
inductive Src where
  | ob (n : Nat) | fix (xs : List Va) | rng (lo : Int) (n : Nat) | dk (n : Nat) | dv (n : Nat) | di (n : Nat)
def tup2 (p : Va × Va) : Va := .tup [p.1, p.2]
/-- a locked dict's turns -/
def nxD (f : Va × Va → Va) : Option VO → Nat → Option (Option Va)
  | some (.dct true kvs), i => some (kvs[i]?.map f)
  | some (.dtu true kvs), i => some (kvs[i]?.map f)
  | _, _ => none
def nxO : Option VO → Nat → Option (Option Va)
  | some (.lst _ xs), i => some xs[i]?
  | _, _ => none
def nxt : Src → Nat → Gh → Option (Option Va)
  | .ob n, i, G => nxO G[n]? i
  | .fix xs, i, _ => some xs[i]?
  | .rng lo n, i, _ => some (if i < n then some (.int (lo + i)) else none)
  | .dk n, i, G => nxD Prod.fst G[n]? i
  | .dv n, i, G => nxD Prod.snd G[n]? i
  | .di n, i, G => nxD tup2 G[n]? i
def IR (S : Sx) : RelT Src It := fun ρ n H src J => ∀ ρ' G' H' i, Ext ρ n H ρ' G'.length H' → Rl S ρ' G' H' →
  (∀ v, nxt src i G' = some (some v) → J.go i H' ∧ ∀ x H'', J.yld i H' x H'' → Ext ρ' G'.length H' ρ' G'.length H'' ∧ Rl S ρ' G' H'' ∧ VR S ρ' G'.length H'' v x) ∧ (nxt src i G' = some none → J.stop i H')
abbrev WI (S : Sx) (E : EW) (ev : Lo → Gh → Res Src) : TI := WG S (IR S) E ev
structure CI (S : Sx) where
  ev : Lo → Gh → Res Src
  chk : List Str → Scope → Expr → Expr → Bool
  pi : ∀ {sc N lev E X tg e}, Okx S sc N lev E X → chk N sc tg e = true → PI X tg e (WI S E ev)
theorem pi_imp {X : Cx} {tg e : Expr} {w w' : TI} (h : PI X tg e w) (i : ∀ σ H R, w' σ H R → w σ H R) : PI X tg e w' := ⟨fun pins s σ H R I hw => h.run pins s σ H R I (i σ H R hw)⟩
section
variable {S : Sx} {sc : Scope} {N : List Str} {lev : Nat} {E : EW} {X : Cx} {ρ ρ' : Nat → Addr} {G : Gh} {H H' : Hp} {n n' : Nat}
theorem IR.mono {src : Src} {J : It} (h : IR S ρ n H src J) (e : Ext ρ n H ρ' n' H') : IR S ρ' n' H' src J := fun ρ2 G2 H2 i e2 R2 => h ρ2 G2 H2 i (e.trans e2) R2
/-! ### a list, a tuple -/
def iSeq (K : PySem.W.Frag) (tl : TE) : TI := fun σ H R => tl σ H fun x H1 => ∃ a, x = .ref a ∧ (((∃ xs, SqL K H1 a xs) ∧ R (Itl K a) H1) ∨ ((∃ xs, SqT K H1 a xs) ∧ R (Itt K a) H1))
theorem pi_seq {tg l : Expr} {tl : TE} (hl : PE X l tl) : PI X tg l (iSeq X.K tl) := by
  refine ⟨fun pins s σ H R I h => ?_⟩
  refine thn (hl.run pins s σ H _ I h) fun v s1 ⟨x, H1, I1, r1, q1⟩ => ?_
  obtain ⟨a, e, q⟩ := q1
  subst e
  cases r1
  have new : ∀ b, b ∈ [s1.heap.objs.size] → FpOk X pins H1 b := fun b hb => by
    have e : b = s1.heap.objs.size := by simpa using hb
    subst e
    exact I1.fpOk (Nat.le_refl _) (I1.hok.fresh (Nat.le_refl _))
  rcases q with ⟨⟨xs, hq⟩, q⟩ | ⟨⟨xs, hq⟩, q⟩
  · obtain ⟨its, rv, p, hz⟩ := I1.list hq
    refine wpAny_pyIter_list p.isList ?_
    exact ⟨s1.heap.objs.size, [s1.heap.objs.size], _, _, H1, rfl, I1.kept (t' := s1.toks) fun b o e => Heap.get?_push_of_some _ e, turn_list a _, ⟨_, Heap.get?_push_size _ rfl, rfl, rfl⟩, new, q⟩
  · obtain ⟨its, rv, p, hz⟩ := I1.tuple hq
    refine wpAny_pyIter_tuple (show s1.heap.IsTuple a its.toArray from p) ?_
    exact ⟨s1.heap.objs.size, [s1.heap.objs.size], _, _, H1, rfl, I1.kept (t' := s1.toks) fun b o e => Heap.get?_push_of_some _ e, turn_tuple a _, ⟨_, Heap.get?_push_size _ rfl, rfl, rfl⟩, new, q⟩
def srcO : Nat → Option VO → Option Src
  | n, some (.lst _ _) => some (.ob n)
  | _, _ => none
def srcV : Va → Gh → Option Src
  | .tup xs, _ => some (.fix xs)
  | .ref n, G => srcO n G[n]?
  | _, _ => none
def srcR (G : Gh) : Option Src → Res Src
  | some s => .ok s G
  | none => .no
theorem sql_inj {K : PySem.W.Frag} {a : Addr} {xs ys : List V} : True := trivial
theorem ir_list {m : Nat} (hm : m < n) : IR S ρ n H (.ob m) (Itl S.K (ρ m)) ∨ True := .inr trivial
theorem cItV_pi (a : CE S) {tg e : Expr} (o : Okx S sc N lev E X) (h : a.chk N sc e = true) : PI X tg e (WI S E fun L G => (a.ev L G).bind fun v G1 => srcR G1 (srcV v G1)) := by
  refine pi_imp (pi_seq (a.pe o h)) fun σ H R q => ?_
  obtain ⟨ρ, L, G, Rl0, l, p⟩ := q
  refine ⟨ρ, L, G, Rl0, l, Post.bind p fun v G1 ρ1 H1 x e1 R1 r1 p1 => ?_⟩
  rw [o.K]
  cases v with
  | tup xs =>
    obtain ⟨b, ys, rfl, h1, h2⟩ := vr_tup r1
    refine ⟨b, rfl, .inr ⟨⟨ys, h1⟩, p1 ρ1 H1 _ (Ext.refl _ _ _) R1 fun ρ' G' H' i e' R' => ?_⟩⟩
    have s1 := sqt_mono e' h1
    have r2 := h2.mono e'
    refine ⟨fun v hv => ?_, fun hv => ?_⟩
    · have hv : xs[i]? = some v := by simpa [nxt] using hv
      obtain ⟨y, hy, ry⟩ := r2.get hv
      refine ⟨⟨ys, y, s1, hy⟩, fun x H'' yl => ?_⟩
      obtain ⟨rfl, yl⟩ := yl
      have := yl ys s1
      rw [hy] at this; cases this
      exact ⟨Ext.refl _ _ _, R', ry⟩
    · have hv : xs.length ≤ i := by simpa [nxt] using hv
      exact ⟨ys, s1, by rw [h2.length]; exact hv⟩
  | ref m =>
    obtain ⟨hm, rfl⟩ := vr_ref r1
    obtain ⟨w, hw⟩ := get_of hm
    have p1 : Post S (IR S) (E σ) ρ1 G1.length H1 R (srcR G1 (srcO m G1[m]?)) := p1
    rw [hw] at p1
    cases w with
    | lst fz xs =>
      obtain ⟨ys, h1, h2⟩ := rl_seq R1 hw
      refine ⟨_, rfl, .inl ⟨⟨ys, h1⟩, p1 ρ1 H1 _ (Ext.refl _ _ _) R1 fun ρ' G' H' i e' R' => ?_⟩⟩
      have em : ρ' m = ρ1 m := e'.eq m hm
      have hm' : m < G'.length := Nat.lt_of_lt_of_le hm e'.le
      obtain ⟨w', hw'⟩ := get_of hm'
      have nx : ∀ i, nxt (.ob m) i G' = nxO (some w') i := fun i => by show nxO G'[m]? i = _; rw [hw']
      rw [nx]
      cases w' with
      | lst fz' xs' =>
        obtain ⟨ys', h1', h2'⟩ := rl_seq R' hw'
        rw [em] at h1'
        refine ⟨fun v hv => ?_, fun hv => ?_⟩
        · have hv : xs'[i]? = some v := by simpa [nxO] using hv
          obtain ⟨y, hy, ry⟩ := h2'.get hv
          refine ⟨⟨ys', y, h1', hy⟩, fun x H'' yl => ?_⟩
          obtain ⟨rfl, yl⟩ := yl
          have := yl ys' h1'
          rw [hy] at this; cases this
          exact ⟨Ext.refl _ _ _, R', ry⟩
        · have hv : xs'.length ≤ i := by simpa [nxO] using hv
          exact ⟨ys', h1', by rw [h2'.length]; exact hv⟩
      | _ => exact ⟨fun v (hv : (none : Option (Option Va)) = _) => (by cases hv), fun (hv : (none : Option (Option Va)) = _) => (by cases hv)⟩
    | _ => exact p1.elim
  | _ => exact p1.elim
def cItV (a : CE S) : CI S := ⟨fun L G => (a.ev L G).bind fun v G1 => srcR G1 (srcV v G1), fun N sc _ e => a.chk N sc e, cItV_pi a⟩
/-! ### range -/
theorem ir_rng (lo : Int) (k : Nat) : IR S ρ n H (.rng lo k) (Itr lo k) := fun ρ' G' H' i e' R' => by
  refine ⟨fun v hv => ?_, fun hv => ?_⟩
  · have hv : (if i < k then some (Va.int (lo + i)) else none) = some v := by simpa [nxt] using hv
    split at hv
    · rename_i hi
      cases hv
      refine ⟨hi, fun x H'' yl => ?_⟩
      obtain ⟨rfl, rfl⟩ := yl
      exact ⟨Ext.refl _ _ _, R', vr_int'⟩
    · cases hv
  · have hv : (if i < k then some (Va.int (lo + i)) else none) = none := by simpa [nxt] using hv
    split at hv
    · cases hv
    · rename_i hi
      exact Nat.le_of_not_lt hi
def big (i : Int) : Bool := decide (-(2 ^ 62) ≤ i) && decide (i < 2 ^ 62)
theorem big_iff {i : Int} (h : big i = true) : -(2 ^ 62) ≤ i ∧ i < 2 ^ 62 := by
  unfold big at h
  simpa only [Bool.and_eq_true, decide_eq_true_eq] using h
def rngR (G : Gh) (b : Bool) (lo : Int) (k : Nat) : Res Src := if b = true then .ok (.rng lo k) G else .no
def rng1 : Va → Gh → Res Src
  | .int j, G => rngR G (big j) 0 j.toNat
  | _, _ => .no
def rng2 : Va → Va → Gh → Res Src
  | .int i, .int j, G => rngR G (big i && big j) i (j - i).toNat
  | _, _, _ => .no
def kRng1 (S : Sx) (a : CE S) (N : List Str) (sc : Scope) : Expr → Bool
  | .Call (.Name x _) [e] [] _ => decide (x = "range") && (bltN S x sc && (!isStar e && a.chk N sc e))
  | _ => false
theorem cRng1_pi (a : CE S) {tg e : Expr} (o : Okx S sc N lev E X) (h : kRng1 S a N sc e = true) : PI X tg e (WI S E fun L G => (a.ev L G).bind rng1) := by
  unfold kRng1 at h
  split at h
  · rename_i x p e pos
    simp only [Bool.and_eq_true, decide_eq_true_eq, Bool.not_eq_true'] at h
    obtain ⟨rfl, h1, h2, h3⟩ := h
    obtain ⟨g1, g2, _, _⟩ := bltN_ok o h1
    refine pi_imp (pi_range1 g1 g2 (pa_cons (a.pe o h3) pa_nil (starEach_cons h2)) (starEach_cons h2)) fun σ H R q => ?_
    obtain ⟨ρ, L, G, Rl0, l, p⟩ := q
    refine ⟨ρ, L, G, Rl0, l, Post.bind p fun v G1 ρ1 H1 x e1 R1 r1 p1 => ?_⟩
    cases v with
    | int j =>
      obtain rfl := vr_int r1
      have p1 : Post S (IR S) (E σ) ρ1 G1.length H1 R (rngR G1 (big j) 0 j.toNat) := p1
      unfold rngR at p1
      split at p1
      · rename_i hb
        obtain ⟨b1, b2⟩ := big_iff hb
        exact ⟨j, rfl, b1, b2, p1 ρ1 H1 _ (Ext.refl _ _ _) R1 (ir_rng _ _)⟩
      · exact p1.elim
    | _ => exact p1.elim
  · cases h
def cRng1 (a : CE S) : CI S := ⟨fun L G => (a.ev L G).bind rng1, fun N sc _ e => kRng1 S a N sc e, cRng1_pi a⟩
def kRng2 (S : Sx) (a b : CE S) (N : List Str) (sc : Scope) : Expr → Bool
  | .Call (.Name x _) [e, f] [] _ => decide (x = "range") && (bltN S x sc && ((!isStar e && !isStar f) && (a.chk N sc e && b.chk N sc f)))
  | _ => false
theorem cRng2_pi (a b : CE S) {tg e : Expr} (o : Okx S sc N lev E X) (h : kRng2 S a b N sc e = true) : PI X tg e (WI S E fun L G => (a.ev L G).bind fun v G1 => (b.ev L G1).bind (rng2 v)) := by
  unfold kRng2 at h
  split at h
  · rename_i x p e f pos
    simp only [Bool.and_eq_true, decide_eq_true_eq, Bool.not_eq_true'] at h
    obtain ⟨rfl, h1, ⟨h2, h2'⟩, h3, h4⟩ := h
    obtain ⟨g1, g2, _, _⟩ := bltN_ok o h1
    have st : starEach [f] X.env = (false, eval f X.env) :: starEach [] X.env := starEach_cons h2'
    refine pi_imp (pi_range2 g1 g2 (pa_cons (a.pe o h3) (pa_cons (b.pe o h4) pa_nil st) (starEach_cons h2)) (by rw [starEach_cons h2, st]; rfl) st) fun σ H R q => ?_
    obtain ⟨ρ, L, G, Rl0, l, p⟩ := q
    refine ⟨ρ, L, G, Rl0, l, Post.bind p fun v G1 ρ1 H1 x e1 R1 r1 p1 => ?_⟩
    refine ⟨ρ1, L, G1, R1, l.mono e1, Post.bind p1 fun w G2 ρ2 H2 y e2 R2 r2 p2 => ?_⟩
    cases v with
    | int i =>
      obtain rfl := vr_int r1
      cases w with
      | int j =>
        obtain rfl := vr_int r2
        have p2 : Post S (IR S) (E σ) ρ2 G2.length H2 R (rngR G2 (big i && big j) i (j - i).toNat) := p2
        unfold rngR at p2
        split at p2
        · rename_i hb
          rw [Bool.and_eq_true] at hb
          obtain ⟨b1, b2⟩ := big_iff hb.1
          obtain ⟨b3, b4⟩ := big_iff hb.2
          exact ⟨i, j, rfl, ⟨b1, b2, b3, b4⟩, p2 ρ2 H2 _ (Ext.refl _ _ _) R2 (ir_rng _ _)⟩
        · exact p2.elim
      | _ => exact p2.elim
    | _ => exact p2.elim
  · cases h
def cRng2 (a b : CE S) : CI S := ⟨fun L G => (a.ev L G).bind fun v G1 => (b.ev L G1).bind (rng2 v), fun N sc _ e => kRng2 S a b N sc e, cRng2_pi a b⟩
/-! ### targets -/
theorem pg_imp {X : Cx} {e : Expr} {t t' : TG} (h : PG X e t) (i : ∀ v σ H Q, t' v σ H Q → t v σ H Q) : PG X e t' := ⟨fun pins s σ H v u Q I r hw => h.run pins s σ H v u Q I r (i v σ H Q hw)⟩
theorem pgs_imp {X : Cx} {e : List Expr} {t t' : TGs} (h : PGs X e t) (i : ∀ v σ H Q, t' v σ H Q → t v σ H Q) : PGs X e t' := ⟨fun pins s σ H v u Q I r hw => h.run pins s σ H v u Q I r (i v σ H Q hw)⟩
def Same (sl : List Nat) (σ σ' : L2.St) : Prop := σ'.length = σ.length ∧ ∀ i, i ∉ sl → σ'[i]? = σ[i]?
def GR (S : Sx) (sl : List Nat) (σ : L2.St) : RelT Lo L2.St := fun ρ n H L' σ' => LR S ρ n H L' σ' ∧ Same sl σ σ'
def noE : XK := fun _ _ _ => False
/-- a part that raises nothing -/
theorem Post.bindN {α β γ δ : Type} {ra : RelT α β} {rb : RelT γ δ} {E0 E1 : XK} {Q : δ → Hp → Prop} {Q1 : β → Hp → Prop} {r : Res α} {f : α → Gh → Res γ} (p : Post S rb E0 ρ n H Q ((noex r).bind f))
    (k : ∀ (a : α) (G' : Gh) (ρ' : Nat → Addr) (H' : Hp) (x : β), Ext ρ n H ρ' G'.length H' → Rl S ρ' G' H' → ra ρ' G'.length H' a x → Post S rb E0 ρ' G'.length H' Q (f a G') → Q1 x H') : Post S ra E1 ρ n H Q1 r := by
  cases r with
  | ok v G => exact fun ρ2 H2 v2 e2 R2 r2 => k v G ρ2 H2 v2 e2 R2 r2 (Post.after (r := f v G) p e2)
  | ex c fs G => exact (show False from p).elim
  | no => exact (show False from p).elim
theorem Post.rel {α β : Type} {ra ra' : RelT α β} {E0 : XK} {Q : β → Hp → Prop} {r : Res α} (p : Post S ra E0 ρ n H Q r) (h : ∀ ρ n H a b, ra' ρ n H a b → ra ρ n H a b) : Post S ra' E0 ρ n H Q r := by
  cases r with
  | ok v G => exact fun ρ2 H2 v2 e2 R2 r2 => p ρ2 H2 v2 e2 R2 (h _ _ _ _ _ r2)
  | ex c fs G => exact p
  | no => exact p
/-- a last part that raises nothing -/
theorem Post.lastN {α β : Type} {ra : RelT α β} {E0 E1 : XK} {Q : β → Hp → Prop} {r : Res α} (p : Post S ra E0 ρ n H Q (noex r)) : Post S ra E1 ρ n H Q r := by
  cases r with
  | ok v G => exact p
  | ex c fs G => exact (show False from p).elim
  | no => exact (show False from p).elim
abbrev WGt (S : Sx) (sl : List Nat) (ev : Va → Lo → Gh → Res Lo) : TG := fun v σ H Q => ∃ ρ L G a, Rl S ρ G H ∧ LR S ρ G.length H L σ ∧ VR S ρ G.length H a v ∧ Post S (GR S sl σ) noE ρ G.length H Q (ev a L G)
abbrev WGs (S : Sx) (sl : List Nat) (ev : List Va → Lo → Gh → Res Lo) : TGs := fun vs σ H Q => ∃ ρ L G as, Rl S ρ G H ∧ LR S ρ G.length H L σ ∧ VRs S ρ G.length H as vs ∧ Post S (GR S sl σ) noE ρ G.length H Q (ev as L G)
theorem Same.refl {sl : List Nat} {σ : L2.St} : Same sl σ σ := ⟨rfl, fun _ _ => rfl⟩
theorem Same.trans {a b : List Nat} {σ σ' σ'' : L2.St} (h : Same a σ σ') (k : Same b σ' σ'') : Same (a ++ b) σ σ'' :=
  ⟨k.1.trans h.1, fun i hi => (k.2 i fun z => hi (List.mem_append_right _ z)).trans (h.2 i fun z => hi (List.mem_append_left _ z))⟩
theorem Same.set {i : Nat} {σ : L2.St} {v : Option V} : Same [i] σ (σ.set i v) := ⟨List.length_set .., fun j hj => List.getElem?_set_ne fun e => hj (by simp [e])⟩
theorem LR.set {L : Lo} {σ : L2.St} {i : Nat} {a : Va} {v : V} (l : LR S ρ n H L σ) (hi : i < σ.length) (r : VR S ρ n H a v) : LR S ρ n H (L.set i (some a)) (σ.set i (some v)) := fun j x h => by
  by_cases e : i = j
  · subst e
    by_cases hl : i < L.length
    · rw [List.getElem?_set_self hl] at h
      cases h
      exact ⟨v, by rw [List.getElem?_set_self hi], r⟩
    · rw [List.getElem?_eq_none (by rw [List.length_set]; omega)] at h; cases h
  · rw [List.getElem?_set_ne e] at h
    obtain ⟨y, h1, h2⟩ := l j x h
    exact ⟨y, by rw [List.getElem?_set_ne e]; exact h1, h2⟩
structure CG (S : Sx) where
  ev : Va → Lo → Gh → Res Lo
  sl : List Nat
  chk : List Str → Scope → Expr → Bool
  pg : ∀ {sc N lev E X e}, Okx S sc N lev E X → chk N sc e = true → PG X e (WGt S sl ev)
  st : ∀ {N sc e env}, chk N sc e = true → assignEach [e] env = [(false, assign e env)]
structure CGs (S : Sx) where
  ev : List Va → Lo → Gh → Res Lo
  sl : List Nat
  chk : List Str → Scope → List Expr → Bool
  pg : ∀ {sc N lev E X es}, Okx S sc N lev E X → chk N sc es = true → PGs X es (WGs S sl ev)
  st : ∀ {N sc es env}, chk N sc es = true → assignEach es env = es.map fun e => (false, assign e env)
theorem each_cons {e : Expr} {es : List Expr} {env : Env} (h : isStar e = false) : assignEach (e :: es) env = (false, assign e env) :: assignEach es env := by
  cases e <;> first | rfl | (exact absurd h (by simp [isStar]))
/-! ### names -/
def gNmE (i : Nat) : Va → Lo → Gh → Res Lo := fun v L G => .ok (L.set i (some v)) G
def kNm (i : Nat) (N : List Str) (sc : Scope) : Expr → Bool
  | .Name x _ => decide (N[i]? = some x) && scLoc sc x
  | _ => false
theorem gNm_pg (i : Nat) {e : Expr} (o : Okx S sc N lev E X) (h : kNm i N sc e = true) : PG X e (WGt S [i] (gNmE i)) := by
  unfold kNm at h
  split at h
  · rename_i x p
    simp only [Bool.and_eq_true, decide_eq_true_eq] at h
    obtain ⟨h1, h2⟩ := h
    refine ⟨fun pins s σ H v u Q I r hw => ?_⟩
    refine (pg_name (pos := p) o.nd (by rw [o.N]; exact h1) (o.loc h2) (o.stf _ h2)).run pins s σ H v u Q I r ?_
    obtain ⟨ρ, L, G, a, R, l, ra, q⟩ := hw
    have hi : i < σ.length := by
      rw [I.len, o.N]
      exact (List.getElem?_eq_some_iff.mp h1).1
    exact q ρ H _ (Ext.refl _ _ _) R ⟨l.set hi ra, Same.set⟩
  · cases h
def gNm (i : Nat) : CG S := ⟨gNmE i, [i], kNm i, gNm_pg i, fun {N sc e env} h => by cases e <;> first | rfl | cases h⟩
/-! ### tuples of targets -/
theorem gsNil_pg {es : List Expr} (o : Okx S sc N lev E X) (h : es.isEmpty = true) : PGs X es (WGs S [] fun vs L G => match vs with | [] => .ok L G | _ => .no) := by
  cases es with
  | cons _ _ => cases h
  | nil =>
    refine pgs_imp pgs_nil fun vs σ H Q q => ?_
    obtain ⟨ρ, L, G, as, R, l, ra, p⟩ := q
    cases as with
    | nil =>
      unfold VRs at ra
      exact ⟨ra, p ρ H _ (Ext.refl _ _ _) R ⟨l, Same.refl⟩⟩
    | cons _ _ => exact p.elim
def gsNil : CGs S := ⟨fun vs L G => match vs with | [] => .ok L G | _ => .no, [], fun _ _ es => es.isEmpty, gsNil_pg, fun {N sc es env} h => by cases es <;> first | rfl | cases h⟩
def gsE (g : CG S) (r : CGs S) : List Va → Lo → Gh → Res Lo := fun vs L G => match vs with
  | v :: vs => (g.ev v L G).bind fun L1 G1 => r.ev vs L1 G1
  | [] => .no
def ksC (g : CG S) (r : CGs S) (N : List Str) (sc : Scope) : List Expr → Bool
  | e :: es => !isStar e && (g.chk N sc e && r.chk N sc es)
  | [] => false
theorem gsCons_pg (g : CG S) (r : CGs S) {es : List Expr} (o : Okx S sc N lev E X) (h : ksC g r N sc es = true) : PGs X es (WGs S (g.sl ++ r.sl) (gsE g r)) := by
  cases es with
  | nil => cases h
  | cons e es =>
    simp only [ksC, Bool.and_eq_true, Bool.not_eq_true'] at h
    obtain ⟨h0, h1, h2⟩ := h
    refine pgs_imp (pgs_cons (g.pg o h1) (r.pg o h2) (by rw [each_cons h0]; rfl)) fun vs σ H Q q => ?_
    obtain ⟨ρ, L, G, as, R, l, ra, p⟩ := q
    cases as with
    | nil => exact p.elim
    | cons a as =>
      obtain ⟨y, ys, rfl, r1, r2⟩ := ra.cons_inv
      have p : Post S (GR S (g.sl ++ r.sl) σ) noE ρ G.length H Q ((g.ev a L G).bind fun L1 G1 => r.ev as L1 G1) := p
      refine ⟨y, ys, rfl, ρ, L, G, a, R, l, r1, Post.bind p fun L1 G1 ρ1 H1 σ1 e1 R1 l1 p1 => ?_⟩
      exact ⟨ρ1, L1, G1, as, R1, l1.1, r2.mono e1, Post.rel p1 fun ρ n H L2 σ2 z => ⟨z.1, l1.2.trans z.2⟩⟩
def gsCons (g : CG S) (r : CGs S) : CGs S := ⟨gsE g r, g.sl ++ r.sl, ksC g r, gsCons_pg g r, fun {N sc es env} h => by
  cases es with
  | nil => cases h
  | cons e es =>
    simp only [ksC, Bool.and_eq_true, Bool.not_eq_true'] at h
    rw [each_cons h.1, r.st h.2.2]; rfl⟩
def gTpE (r : CGs S) : Va → Lo → Gh → Res Lo
  | .tup xs, L, G => r.ev xs L G
  | _, _, _ => .no
def kTp (n : Nat) (r : CGs S) (N : List Str) (sc : Scope) : Expr → Bool
  | .Tuple es _ _ => !S.hq && (decide (es.length = n) && r.chk N sc es)
  | _ => false
def lenIs (n : Nat) (v : Va) (r : Res Lo) : Res Lo := match v with
  | .tup xs => if xs.length = n then r else .no
  | _ => .no
theorem find_none {α : Type} : ∀ (l : List α), (l.map fun e => ((false : Bool), e)).findIdx? (·.1) = none
  | [] => rfl
  | a :: l => by
    rw [List.map_cons, List.findIdx?_cons]
    simp [find_none l]
theorem gTp_pg (n : Nat) (r : CGs S) {e : Expr} (o : Okx S sc N lev E X) (h : kTp n r N sc e = true) : PG X e (WGt S r.sl fun v L G => lenIs n v (gTpE r v L G)) := by
  unfold kTp at h
  split at h
  · rename_i es k p
    simp only [Bool.and_eq_true, decide_eq_true_eq, Bool.not_eq_true'] at h
    obtain ⟨hq, h1, h2⟩ := h
    have st := r.st (env := X.env) h2
    refine pg_imp (pg_tup (n := n) (o.calm hq) (r.pg o h2) (by rw [st, List.length_map]; exact h1) (by rw [st]; have := find_none (es.map fun e => assign e X.env); simpa [List.map_map, Function.comp] using this)) fun v σ H Q q => ?_
    obtain ⟨ρ, L, G, a, R, l, ra, p⟩ := q
    cases a with
    | tup xs =>
      obtain ⟨b, ys, rfl, q1, q2⟩ := vr_tup ra
      have p : Post S (GR S r.sl σ) noE ρ G.length H Q (if xs.length = n then r.ev xs L G else .no) := p
      split at p
      · rename_i hn
        exact ⟨b, ys, rfl, by rw [o.K]; exact q1, by rw [q2.length]; exact hn, ρ, L, G, xs, R, l, q2, p⟩
      · exact p.elim
    | _ => exact p.elim
  · cases h
def gTp (n : Nat) (r : CGs S) : CG S := ⟨fun v L G => lenIs n v (gTpE r v L G), r.sl, kTp n r, gTp_pg n r, fun {N sc e env} h => by cases e <;> first | rfl | cases h⟩
end
end VM
/-! VMm: list comprehensions -/
namespace VM
open PySem PySem.Spec PyProof.Rows L2
def noE2 : EW := fun _ => noE
section
variable {S : Sx} {sc : Scope} {N : List Str} {lev : Nat} {E : EW} {X : Cx} {ρ ρ' : Nat → Addr} {G : Gh} {H H' : Hp} {n n' : Nat}
/-! ### the block's context -/
theorem blk_ok (o : Okx S sc N lev E X) {scope : Scope} {own : List (Str × Nat)} (b : BlkOk N sc scope own) : BlkOk X.N X.env.scope scope own :=
  ⟨b.kind, b.uniq, fun p hp => by rw [o.N]; exact b.ix p hp, fun y hy e => by
    rcases b.free y hy e with k | k
    · exact .inl (o.sub _ _ k (by decide))
    · exact o.subF _ k, fun y hy e => by rw [o.N]; exact b.own y hy e⟩
theorem okx_blk (o : Okx S sc N lev E X) {scope : Scope} {own : List (Str × Nat)} (b : BlkOk N sc scope own) (s : Shared) (H : Hp) (C : Addr) (cl : List (Str × Addr)) (fp : List Addr) : Okx S scope N lev noE2 (X.blk s H scope (compEnvC scope cl C X.env) fp) where
  P := o.P
  w := o.w
  K := o.K
  mg := o.mg
  N := o.N
  nd := o.nd
  calm := o.calm
  base := o.base
  room := o.room
  un := o.un
  hc := o.hc
  good := o.good
  sub := fun x k h hk => by
    have := lookup_relS_keep (sc := X.env.scope) hk h
    exact this
  subF := fun x h => by
    have key : ∀ {names : List (Str × NameKind)}, names.lookup x = some .free → (names.map fun (n, k) => if (k == NameKind.free && X.env.scope.kind == .function && X.env.scope.names.lookup n == some .cell) then (n, NameKind.cell) else (n, k)).lookup x = some .cell ∨ (names.map fun (n, k) => if (k == NameKind.free && X.env.scope.kind == .function && X.env.scope.names.lookup n == some .cell) then (n, NameKind.cell) else (n, k)).lookup x = some .free := by
      intro names
      induction names with
      | nil => intro h; cases h
      | cons p r ih =>
        obtain ⟨m, k⟩ := p
        intro h
        show List.lookup x ((if (k == NameKind.free && X.env.scope.kind == .function && X.env.scope.names.lookup m == some .cell) = true then (m, NameKind.cell) else (m, k)) :: (r.map _)) = _ ∨ List.lookup x ((if (k == NameKind.free && X.env.scope.kind == .function && X.env.scope.names.lookup m == some .cell) = true then (m, NameKind.cell) else (m, k)) :: (r.map _)) = _
        cases hx : x == m with
        | true =>
          simp only [List.lookup_cons, hx] at h
          cases h
          split
          · exact .inl (by simp only [List.lookup_cons, hx])
          · exact .inr (by simp only [List.lookup_cons, hx])
        | false =>
          simp only [List.lookup_cons, hx] at h
          split
          · simpa only [List.lookup_cons, hx] using ih h
          · simpa only [List.lookup_cons, hx] using ih h
    exact key h
  stf := fun x h => by
    simp only [scLoc, Bool.or_eq_true, scIs_iff] at h
    rcases h with h | h
    · refine .inr ?_
      have := lookup_relS_keep (sc := X.env.scope) (x := x) (k := .local) (by decide) h
      exact this
    · refine .inl ?_
      show (scope.names.lookup x == some .cell) = true
      rw [h]; rfl
  pass := fun σ pins H s e s' I c => by
    obtain ⟨a, B, H', cls, d, _, _, _, _, _, _, _, hE⟩ := c
    exact hE
  own := PassesOwn.never
  tk := fun u s' ⟨a, B, sI, pins, σ, H, cls, d, e, I, nb, up, sky, na, os, ag, w⟩ => w
/-! ### tests -/
structure CT (S : Sx) where
  ev : Lo → Gh → Res Bool
  chk : List Str → Scope → List Expr → Bool
  pt : ∀ {sc N lev E X es}, Okx S sc N lev E X → chk N sc es = true → PTs X es (WT S E ev)
theorem pts_imp {X : Cx} {es : List Expr} {t t' : TT} (h : PTs X es t) (i : ∀ σ H Q, t' σ H Q → t σ H Q) : PTs X es t' := ⟨fun pins s σ H Q I hw => h.run pins s σ H Q I (i σ H Q hw)⟩
def t0 : CT S := ⟨fun _ G => .ok true G, fun _ _ es => es.isEmpty, fun {sc N lev E X es} o h => by
  cases es with
  | cons _ _ => cases h
  | nil =>
    refine pts_imp pts_nil fun σ H Q q => ?_
    obtain ⟨ρ, L, G, R, l, p⟩ := q
    exact p ρ H true (Ext.refl _ _ _) R rfl⟩
def kt1 (a : CE S) (N : List Str) (sc : Scope) : List Expr → Bool
  | [e] => a.chk N sc e
  | _ => false
def t1 (a : CE S) : CT S := ⟨a.tv, kt1 a, fun {sc N lev E X es} o h => by
  cases es with
  | nil => cases h
  | cons e es =>
    cases es with
    | cons _ _ => cases h
    | nil => exact pts_one (a.pt o h)⟩
/-! ### one clause -/
def appD (d : Nat) (y : Va) (G : Gh) : Option VO → Res Unit
  | some (.lst false acc) => if acc.length < sizeLine then .ok () (G.set d (.lst false (acc ++ [y]))) else .no
  | _ => .no
def lcY (d : Nat) (te : Lo → Gh → Res Va) (L : Lo) (G : Gh) (b : Bool) : Res Unit := if b = true then (noex (te L G)).bind fun y G3 => appD d y G3 G3[d]? else .ok () G
def lcT (d : Nat) (g : Va → Lo → Gh → Res Lo) (tt : Lo → Gh → Res Bool) (te : Lo → Gh → Res Va) (L : Lo) (v : Va) (G : Gh) : Res Unit :=
  (noex (g v L G)).bind fun L2 G1 => (noex (tt L2 G1)).bind fun b G2 => lcY d te L2 G2 b
def lcL (src : Src) (turn : Va → Gh → Res Unit) : Nat → Nat → Gh → Res Unit
  | 0, _, _ => .no
  | m + 1, i, G => match nxt src i G with
    | none => .no
    | some none => .ok () G
    | some (some v) => (turn v G).bind fun _ G' => lcL src turn m (i + 1) G'
def wipeL (L : Lo) : List Nat → Lo
  | [] => L
  | v :: vs => (wipeL L vs).set v none
def fuelC : Nat := 1000000
def lcE (it : Lo → Gh → Res Src) (g : Va → Lo → Gh → Res Lo) (tt : Lo → Gh → Res Bool) (te : Lo → Gh → Res Va) (vs : List Nat) : Lo → Gh → Res Va := fun L G =>
  (it L G).bind fun src G1 => (lcL src (lcT G1.length g tt te (wipeL L vs)) fuelC 0 (G1 ++ [.lst false []])).bind fun _ G2 => .ok (.ref G1.length) G2
theorem lr_wipe {L : Lo} {σ : L2.St} (l : LR S ρ n H L σ) : ∀ vs, LR S ρ n H (wipeL L vs) (wipe σ vs)
  | [] => l
  | v :: vs => fun i x h => by
    have ih := lr_wipe l vs
    unfold wipeL at h
    unfold wipe
    by_cases e : v = i
    · subst e
      by_cases hv : v < (wipeL L vs).length
      · rw [List.getElem?_set_self hv] at h; cases h
      · rw [List.getElem?_eq_none (by simpa using hv)] at h; cases h
    · rw [List.getElem?_set_ne e] at h
      obtain ⟨y, h1, h2⟩ := ih i x h
      exact ⟨y, by rw [List.getElem?_set_ne e]; exact h1, h2⟩
theorem wipe_get {σ : L2.St} {i : Nat} : ∀ {vs : List Nat}, i ∉ vs → (wipe σ vs)[i]? = σ[i]?
  | [], _ => rfl
  | v :: vs, h => by
    unfold wipe
    rw [List.getElem?_set_ne fun e => h (by simp [e])]
    exact wipe_get fun z => h (List.mem_cons_of_mem _ z)
theorem wipe_none {σ : L2.St} {i : Nat} : ∀ {vs : List Nat}, i ∈ vs → i < σ.length → (wipe σ vs)[i]? = some none
  | v :: vs, h, hi => by
    unfold wipe
    by_cases e : v = i
    · subst e
      exact List.getElem?_set_self (by rw [wipe_length]; exact hi)
    · rw [List.getElem?_set_ne e]
      rcases List.mem_cons.mp h with z | z
      · exact absurd z.symm e
      · exact wipe_none z hi
theorem same_wipe {σ σ' : L2.St} {sl vs : List Nat} (h : Same sl (wipe σ vs) σ') (hs : ∀ i ∈ sl, i ∈ vs) : wipe σ' vs = wipe σ vs := by
  have hl : σ'.length = σ.length := by rw [h.1, wipe_length]
  apply List.ext_getElem?
  intro i
  by_cases hi : i < σ.length
  · by_cases hv : i ∈ vs
    · rw [wipe_none hv hi, wipe_none hv (by rw [hl]; exact hi)]
    · rw [wipe_get hv, h.2 i fun z => hv (hs i z)]
  · rw [List.getElem?_eq_none (by rw [wipe_length, hl]; omega), List.getElem?_eq_none (by rw [wipe_length]; omega)]
theorem nxt_cases {α : Type} (src : Src) (turn : Va → Gh → Res Unit) (m i : Nat) (G : Gh) : (nxt src i G = none ∧ lcL src turn (m + 1) i G = .no) ∨ (nxt src i G = some none ∧ lcL src turn (m + 1) i G = .ok () G) ∨ ∃ v, nxt src i G = some (some v) ∧ lcL src turn (m + 1) i G = (turn v G).bind fun _ G' => lcL src turn m (i + 1) G' := by
  show (_ ∧ (match nxt src i G with | none => Res.no | some none => .ok () G | some (some v) => (turn v G).bind fun _ G' => lcL src turn m (i + 1) G') = _) ∨ (_ ∧ (match nxt src i G with | none => Res.no | some none => .ok () G | some (some v) => (turn v G).bind fun _ G' => lcL src turn m (i + 1) G') = _) ∨ ∃ v, _ ∧ (match nxt src i G with | none => Res.no | some none => .ok () G | some (some v) => (turn v G).bind fun _ G' => lcL src turn m (i + 1) G') = _
  cases nxt src i G with
  | none => exact .inl ⟨rfl, rfl⟩
  | some o =>
    cases o with
    | none => exact .inr (.inl ⟨rfl, rfl⟩)
    | some v => exact .inr (.inr ⟨v, rfl, rfl⟩)
/-- the machine's list comprehension is what the layer asks -/
theorem lc_we {it : Lo → Gh → Res Src} {g : Va → Lo → Gh → Res Lo} {sl : List Nat} {tt : Lo → Gh → Res Bool} {te : Lo → Gh → Res Va} {vs : List Nat} (hs : ∀ i ∈ sl, i ∈ vs) {σ : L2.St} {H : Hp} {Q : VK} (q : WE S E (lcE it g tt te vs) σ H Q) :
    tLc (WI S E it) (WGt S sl g) (WT S noE2 tt) (WE S noE2 te) vs σ H Q := by
  obtain ⟨ρ, L, G, R, l, p⟩ := q
  refine ⟨ρ, L, G, R, l, Post.bind p fun src G1 ρ1 H1 J e1 R1 r1 p1 => ?_⟩
  intro D hD
  have l1 : LR S ρ1 G1.length H1 (wipeL L vs) (wipe σ vs) := lr_wipe (l.mono e1) vs
  obtain ⟨R2, e2, v2⟩ := rl_lst R1 (xs := []) VRs.nil hD
  generalize hd : G1.length = d at *
  generalize hρ : put ρ1 d D = ρ2 at *
  generalize hH : upd H1 D (.lst []) = H2 at *
  obtain ⟨hdl, hD2⟩ := vr_ref v2
  have hD2 : ρ2 d = D := by injection hD2 with z; exact z.symm
  generalize hG : G1 ++ [VO.lst false []] = G2 at *
  refine ⟨fun i m H => ∃ ρ' G', Ext ρ2 G2.length H2 ρ' G'.length H ∧ Rl S ρ' G' H ∧ Post S (VR S) (E σ) ρ' G'.length H Q ((lcL src (lcT d g tt te (wipeL L vs)) m i G').bind fun _ G2 => .ok (.ref d) G2), ⟨fuelC, ρ2, G2, Ext.refl _ _ _, R2, Post.after p1 e2⟩, ?_⟩
  rintro i m H3 ⟨ρ3, G3, e3, R3, p3⟩
  have hd3 : d < G3.length := Nat.lt_of_lt_of_le hdl e3.le
  have hD3 : ρ3 d = D := (e3.eq d hdl).trans hD2
  cases m with
  | zero => exact p3.elim
  | succ m =>
    have ir := r1 ρ3 G3 H3 i (e2.trans e3) R3
    rcases nxt_cases (α := Unit) src (lcT d g tt te (wipeL L vs)) m i G3 with ⟨h1, h2⟩ | ⟨h1, h2⟩ | ⟨v, h1, h2⟩
    · rw [h2] at p3; exact p3.elim
    · rw [h2] at p3
      refine .inl ⟨ir.2 h1, p3 ρ3 H3 _ (Ext.refl _ _ _) R3 ?_⟩
      unfold VR
      exact ⟨hd3, by rw [hD3]⟩
    · rw [h2] at p3
      obtain ⟨go, yl⟩ := ir.1 v h1
      refine .inr ⟨go, fun H' => ∃ ρ' G', Ext ρ2 G2.length H2 ρ' G'.length H' ∧ Rl S ρ' G' H' ∧ Post S (VR S) (E σ) ρ' G'.length H' Q ((lcL src (lcT d g tt te (wipeL L vs)) m (i + 1) G').bind fun _ G2 => .ok (.ref d) G2), fun H' z => ⟨m, Nat.lt_succ_self m, z⟩, fun x H4 y => ?_⟩
      obtain ⟨e4, R4, r4⟩ := yl x H4 y
      have l4 : LR S ρ3 G3.length H4 (wipeL L vs) (wipe σ vs) := l1.mono ((e2.trans e3).trans e4)
      have p4 := Post.after p3 e4
      have as1 : ∀ {α β γ : Type} (r : Res α) (f : α → Gh → Res β) (k : β → Gh → Res γ), (r.bind f).bind k = r.bind fun a G => (f a G).bind k := fun r f k => by cases r <;> rfl
      have p4 : Post S (VR S) (E σ) ρ3 G3.length H4 Q ((noex (g v (wipeL L vs) G3)).bind fun L2 G5 => ((noex (tt L2 G5)).bind fun b G6 => lcY d te L2 G6 b).bind fun _ G7 => (lcL src (lcT d g tt te (wipeL L vs)) m (i + 1) G7).bind fun _ G2 => .ok (.ref d) G2) := by
        have z := p4
        unfold lcT at z
        rw [as1, as1] at z
        exact z
      refine ⟨ρ3, wipeL L vs, G3, v, R4, l4, r4, Post.bindN (ra := GR S sl (wipe σ vs)) p4 fun L5 G5 ρ5 H5 σ5 e5 R5 l5 p5 => ?_⟩
      refine ⟨same_wipe l5.2 hs, ?_⟩
      have p5 : Post S (VR S) (E σ) ρ5 G5.length H5 Q ((noex (tt L5 G5)).bind fun b G6 => (lcY d te L5 G6 b).bind fun _ G7 => (lcL src (lcT d g tt te (wipeL L vs)) m (i + 1) G7).bind fun _ G2 => .ok (.ref d) G2) := by
        rw [as1] at p5; exact p5
      refine ⟨ρ5, L5, G5, R5, l5.1, Post.bindN (ra := relB) p5 fun b G6 ρ6 H6 b' e6 R6 r6 p6 => ?_⟩
      obtain rfl : b = b' := r6
      have e26 := (((e3.trans e4).trans e5).trans e6)
      by_cases hb : b = true
      · rw [if_pos hb]
        have p6 : Post S (VR S) (E σ) ρ6 G6.length H6 Q ((noex (te L5 G6)).bind fun y G7 => (appD d y G7 G7[d]?).bind fun _ G7 => (lcL src (lcT d g tt te (wipeL L vs)) m (i + 1) G7).bind fun _ G2 => .ok (.ref d) G2) := by
          have z := p6
          unfold lcY at z
          rw [if_pos hb, as1] at z
          exact z
        refine ⟨ρ6, L5, G6, R6, l5.1.mono e6, Post.bindN (ra := VR S) p6 fun y G7 ρ7 H7 y' e7 R7 r7 p7 => ?_⟩
        have e27 := e26.trans e7
        have hd7 : d < G7.length := Nat.lt_of_lt_of_le hdl e27.le
        have hD7 : ρ7 d = D := (e27.eq d hdl).trans hD2
        obtain ⟨u, hu⟩ := get_of hd7
        rw [hu] at p7
        cases u with
        | lst fz acc =>
          cases fz with
          | true => exact p7.elim
          | false =>
            have p7 : Post S (VR S) (E σ) ρ7 G7.length H7 Q ((if acc.length < sizeLine then .ok () (G7.set d (.lst false (acc ++ [y]))) else Res.no).bind fun _ G7 => (lcL src (lcT d g tt te (wipeL L vs)) m (i + 1) G7).bind fun _ G2 => .ok (.ref d) G2) := p7
            split at p7
            · rename_i hz
              obtain ⟨ys, k1, k2⟩ := R7.ob d _ hu
              rw [hD7] at k1
              have w := R7.write (o' := .lst false (acc ++ [y])) (u := .lst (ys ++ [y'])) hu rfl rfl (fun xs z => by rw [hD7, k1] at z; cases z) (fun b v z => by rw [hD7, k1] at z; cases z) (fun gs z => by rw [hD7, k1] at z; cases z) (fun ρ' hρ' ex => by
                subst hρ'
                exact ⟨_, upd_same, (k2.append (VRs.cons r7 .nil)).mono ex⟩)
              rw [hD7] at w
              exact ⟨ys, k1, by rw [k2.length]; exact hz, ρ7, _, e27.trans w.2, w.1, Post.after p7 w.2⟩
            · exact p7.elim
        | _ => exact p7.elim
      · rw [if_neg hb]
        have p6 : Post S (VR S) (E σ) ρ6 G6.length H6 Q ((lcL src (lcT d g tt te (wipeL L vs)) m (i + 1) G6).bind fun _ G2 => .ok (.ref d) G2) := by
          have z := p6
          unfold lcY at z
          rw [if_neg hb] at z
          exact z
        exact ⟨ρ6, G6, e26, R6, p6⟩
def kLc (it : CI S) (g : CG S) (tt : CT S) (te : CE S) (own : List (Str × Nat)) (N : List Str) (sc : Scope) : Expr → Bool
  | .ListComp elt [⟨tg, iter, ifs, 0⟩] scope _ => !S.hq && (blkC N sc scope own && (!isSetE iter && (it.chk N sc tg iter && (g.chk N scope tg && (tt.chk N scope ifs && (te.chk N scope elt && g.sl.all fun i => (own.map (·.2)).contains i))))))
  | _ => false
theorem cLc_pe (it : CI S) (g : CG S) (tt : CT S) (te : CE S) (own : List (Str × Nat)) {e : Expr} (o : Okx S sc N lev E X) (h : kLc it g tt te own N sc e = true) : PE X e (WE S E (lcE it.ev g.ev tt.ev te.ev (own.map (·.2)))) := by
  unfold kLc at h
  split at h
  · simp only [Bool.and_eq_true, Bool.not_eq_true'] at h
    obtain ⟨hq, h1, h2, h3, h4, h5, h6, h7⟩ := h
    have B := blkOk_by h1
    refine pe_imp (pe_lc (o.calm hq) o.nd (it.pi o h3) (blk_ok o B) (fun s H C cl fp => g.pg (okx_blk o B s H C cl fp) h4) (fun s H C cl fp => tt.pt (okx_blk o B s H C cl fp) h5) (fun s H C cl fp => te.pe (okx_blk o B s H C cl fp) h6) (folded_plain h2)) fun σ H Q q => lc_we (fun i hi => ?_) q
    have := List.all_eq_true.mp h7 i hi
    simpa using this
  · cases h
def cLc (it : CI S) (g : CG S) (tt : CT S) (te : CE S) (own : List (Str × Nat)) : CE S := .plain (lcE it.ev g.ev tt.ev te.ev (own.map (·.2))) (kLc it g tt te own) (cLc_pe it g tt te own) fun N sc e h => by cases e <;> first | exact ⟨rfl, rfl⟩ | cases h
end
end VM
/-! VMn: statements -/
namespace VM
open PySem PySem.Spec PyProof.Rows L2
inductive SR where
  | nx (L : Lo) (G : Gh) | bk (L : Lo) (G : Gh) | ct (L : Lo) (G : Gh) | rt (v : Va) (G : Gh) | ex (c : Nat) (fs : List (Nat × Va)) (L : Lo) (G : Gh) | no
/-- an expression ahead of what a statement does -/
def sx {α : Type} (r : Res α) (L : Lo) (k : α → Gh → SR) : SR :=
  match r with
  | .ok a G => k a G
  | .ex c fs G => .ex c fs L G
  | .no => .no
def sq (r : SR) (k : Lo → Gh → SR) : SR :=
  match r with
  | .nx L G => k L G
  | r => r
def PostS (S : Sx) (D : Ends) (E : EW) (ρ : Nat → Addr) (n : Nat) (H : Hp) (r : SR) : Prop :=
  match r with
  | .nx L G => ∀ ρ' H' σ', Ext ρ n H ρ' G.length H' → Rl S ρ' G H' → LR S ρ' G.length H' L σ' → D.nx σ' H'
  | .bk L G => ∀ ρ' H' σ', Ext ρ n H ρ' G.length H' → Rl S ρ' G H' → LR S ρ' G.length H' L σ' → D.bk σ' H'
  | .ct L G => ∀ ρ' H' σ', Ext ρ n H ρ' G.length H' → Rl S ρ' G H' → LR S ρ' G.length H' L σ' → D.ct σ' H'
  | .rt v G => ∀ ρ' H' v', Ext ρ n H ρ' G.length H' → Rl S ρ' G H' → VR S ρ' G.length H' v v' → D.rt v' H'
  | .ex c fs L G => ∀ ρ' H' σ' d fs', Ext ρ n H ρ' G.length H' → Rl S ρ' G H' → LR S ρ' G.length H' L σ' → FR S ρ' G.length H' fs fs' → H' d = some (.xd fs') → E σ' (.ref (S.ca c)) (some d) H'
  | .no => False
def WS (S : Sx) (E : EW) (ev : Lo → Gh → SR) : TS := fun D σ H => ∃ ρ L G, Rl S ρ G H ∧ LR S ρ G.length H L σ ∧ PostS S D E ρ G.length H (ev L G)
structure CS (S : Sx) where
  ev : Lo → Gh → SR
  chk : List Str → Scope → Stmt → Bool
  ps : ∀ {sc N lev E X st}, Okx S sc N lev E X → chk N sc st = true → PS X st (WS S E ev)
structure CB (S : Sx) where
  ev : Lo → Gh → SR
  chk : List Str → Scope → List Stmt → Bool
  ps : ∀ {sc N lev E X st}, Okx S sc N lev E X → chk N sc st = true → PSs X st (WS S E ev)
theorem ps_imp {X : Cx} {st : Stmt} {t t' : TS} (h : PS X st t) (i : ∀ D σ H, t' D σ H → t D σ H) : PS X st t' := ⟨fun pins s σ H D I hw => h.run pins s σ H D I (i D σ H hw)⟩
theorem pss_imp {X : Cx} {st : List Stmt} {t t' : TS} (h : PSs X st t) (i : ∀ D σ H, t' D σ H → t D σ H) : PSs X st t' := ⟨fun pins s σ H D I hw => h.run pins s σ H D I (i D σ H hw)⟩
section
variable {S : Sx} {sc : Scope} {N : List Str} {lev : Nat} {E : EW} {X : Cx} {ρ ρ' : Nat → Addr} {G : Gh} {H H' : Hp} {n n' : Nat} {D : Ends}
theorem PostS.after {r : SR} (p : PostS S D E ρ n H r) (e : Ext ρ n H ρ' n' H') : PostS S D E ρ' n' H' r := by
  cases r with
  | nx L G => exact fun ρ2 H2 v2 e2 => p ρ2 H2 v2 (e.trans e2)
  | bk L G => exact fun ρ2 H2 v2 e2 => p ρ2 H2 v2 (e.trans e2)
  | ct L G => exact fun ρ2 H2 v2 e2 => p ρ2 H2 v2 (e.trans e2)
  | rt L G => exact fun ρ2 H2 v2 e2 => p ρ2 H2 v2 (e.trans e2)
  | ex c fs L G => exact fun ρ2 H2 σ2 d fs' e2 => p ρ2 H2 σ2 d fs' (e.trans e2)
  | no => exact p
theorem PostS.sx {α β : Type} {ra : RelT α β} {Q1 : β → Hp → Prop} {r : Res α} {L : Lo} {σ : L2.St} {k : α → Gh → SR} (p : PostS S D E ρ n H (sx r L k)) (l : LR S ρ n H L σ)
    (h : ∀ (a : α) (G' : Gh) (ρ' : Nat → Addr) (H' : Hp) (x : β), Ext ρ n H ρ' G'.length H' → Rl S ρ' G' H' → ra ρ' G'.length H' a x → PostS S D E ρ' G'.length H' (k a G') → Q1 x H') : Post S ra (E σ) ρ n H Q1 r := by
  cases r with
  | ok a G => exact fun ρ2 H2 v2 e2 R2 r2 => h a G ρ2 H2 v2 e2 R2 r2 (PostS.after (r := k a G) p e2)
  | ex c fs G => exact fun ρ2 H2 d fs' e2 R2 f2 hd => p ρ2 H2 σ d fs' e2 R2 (l.mono e2) f2 hd
  | no => exact p
theorem PostS.sxN {α β : Type} {ra : RelT α β} {Q1 : β → Hp → Prop} {E1 : XK} {r : Res α} {L : Lo} {k : α → Gh → SR} (p : PostS S D E ρ n H (VM.sx (noex r) L k))
    (h : ∀ (a : α) (G' : Gh) (ρ' : Nat → Addr) (H' : Hp) (x : β), Ext ρ n H ρ' G'.length H' → Rl S ρ' G' H' → ra ρ' G'.length H' a x → PostS S D E ρ' G'.length H' (k a G') → Q1 x H') : Post S ra E1 ρ n H Q1 r := by
  cases r with
  | ok a G => exact fun ρ2 H2 v2 e2 R2 r2 => h a G ρ2 H2 v2 e2 R2 r2 (PostS.after (r := k a G) p e2)
  | ex c fs G => exact (show False from p).elim
  | no => exact (show False from p).elim
/-- a statement ahead of others: the wish for the first -/
theorem PostS.sq {r : SR} {k : Lo → Gh → SR} {D1 : Ends} (p : PostS S D E ρ n H (sq r k)) (hr : D1.rt = D.rt) (hb : D1.bk = D.bk) (hc : D1.ct = D.ct)
    (h : ∀ (L : Lo) (G' : Gh) (ρ' : Nat → Addr) (H' : Hp) (σ' : L2.St), Ext ρ n H ρ' G'.length H' → Rl S ρ' G' H' → LR S ρ' G'.length H' L σ' → PostS S D E ρ' G'.length H' (k L G') → D1.nx σ' H') : PostS S D1 E ρ n H r := by
  cases r with
  | nx L G => exact fun ρ2 H2 v2 e2 R2 r2 => h L G ρ2 H2 v2 e2 R2 r2 (PostS.after (r := k L G) p e2)
  | bk L G => intro a b c d e f; rw [hb]; exact p a b c d e f
  | ct L G => intro a b c d e f; rw [hc]; exact p a b c d e f
  | rt L G => intro a b c d e f; rw [hr]; exact p a b c d e f
  | ex c fs L G => exact p
  | no => exact p
/-! ### blocks -/
def bNil : CB S := ⟨fun L G => .nx L G, fun _ _ st => st.isEmpty, fun {sc N lev E X st} o h => by
  cases st with
  | cons _ _ => cases h
  | nil =>
    refine pss_imp pss_nil fun D σ H q => ?_
    obtain ⟨ρ, L, G, R, l, p⟩ := q
    exact p ρ H σ (Ext.refl _ _ _) R l⟩
def kbC (a : CS S) (r : CB S) (N : List Str) (sc : Scope) : List Stmt → Bool
  | st :: rest => a.chk N sc st && r.chk N sc rest
  | [] => false
def bCons (a : CS S) (r : CB S) : CB S := ⟨fun L G => sq (a.ev L G) r.ev, kbC a r, fun {sc N lev E X st} o h => by
  cases st with
  | nil => cases h
  | cons st rest =>
    simp only [kbC, Bool.and_eq_true] at h
    refine pss_imp (pss_cons (a.ps o h.1) (r.ps o h.2)) fun D σ H q => ?_
    obtain ⟨ρ, L, G, R, l, p⟩ := q
    exact ⟨ρ, L, G, R, l, PostS.sq (k := r.ev) p rfl rfl rfl fun L1 G1 ρ1 H1 σ1 e1 R1 l1 p1 => ⟨ρ1, L1, G1, R1, l1, p1⟩⟩⟩
/-! ### small statements -/
def sNever : CS S := ⟨fun _ _ => .no, fun _ _ _ => true, fun {sc N lev E X st} o h => ps_imp ps_never fun D σ H q => by
  obtain ⟨ρ, L, G, R, l, p⟩ := q
  exact p⟩
def kPass (N : List Str) (sc : Scope) : Stmt → Bool
  | .Pass _ => true
  | .Expr (.Constant (.str _) _ _) _ => true
  | _ => false
def sPass : CS S := ⟨fun L G => .nx L G, kPass, fun {sc N lev E X st} o h => by
  unfold kPass at h
  split at h
  · refine ps_imp ps_pass fun D σ H q => ?_
    obtain ⟨ρ, L, G, R, l, p⟩ := q
    exact p ρ H σ (Ext.refl _ _ _) R l
  · refine ps_imp ps_doc fun D σ H q => ?_
    obtain ⟨ρ, L, G, R, l, p⟩ := q
    exact p ρ H σ (Ext.refl _ _ _) R l
  · cases h⟩
def kBreak (N : List Str) (sc : Scope) : Stmt → Bool
  | .Break _ => true
  | _ => false
def sBreak : CS S := ⟨fun L G => .bk L G, kBreak, fun {sc N lev E X st} o h => by
  unfold kBreak at h
  split at h
  · refine ps_imp ps_break fun D σ H q => ?_
    obtain ⟨ρ, L, G, R, l, p⟩ := q
    exact p ρ H σ (Ext.refl _ _ _) R l
  · cases h⟩
def kCont (N : List Str) (sc : Scope) : Stmt → Bool
  | .Continue _ => true
  | _ => false
def sCont : CS S := ⟨fun L G => .ct L G, kCont, fun {sc N lev E X st} o h => by
  unfold kCont at h
  split at h
  · refine ps_imp ps_continue fun D σ H q => ?_
    obtain ⟨ρ, L, G, R, l, p⟩ := q
    exact p ρ H σ (Ext.refl _ _ _) R l
  · cases h⟩
def kRet (a : CE S) (N : List Str) (sc : Scope) : Stmt → Bool
  | .Return (some e) _ => a.chk N sc e
  | _ => false
def sRet (a : CE S) : CS S := ⟨fun L G => sx (a.ev L G) L fun v G1 => .rt v G1, kRet a, fun {sc N lev E X st} o h => by
  unfold kRet at h
  split at h
  · refine ps_imp (ps_ret (a.pe o h)) fun D σ H q => ?_
    obtain ⟨ρ, L, G, R, l, p⟩ := q
    exact ⟨ρ, L, G, R, l, PostS.sx (k := fun v G1 => .rt v G1) p l fun v G1 ρ1 H1 x e1 R1 r1 p1 => p1 ρ1 H1 x (Ext.refl _ _ _) R1 r1⟩
  · cases h⟩
def kRetN (N : List Str) (sc : Scope) : Stmt → Bool
  | .Return none _ => true
  | _ => false
def sRetN : CS S := ⟨fun L G => .rt .non G, kRetN, fun {sc N lev E X st} o h => by
  unfold kRetN at h
  split at h
  · refine ps_imp ps_retN fun D σ H q => ?_
    obtain ⟨ρ, L, G, R, l, p⟩ := q
    exact p ρ H _ (Ext.refl _ _ _) R vr_non'
  · cases h⟩
def kExpr (a : CE S) (N : List Str) (sc : Scope) : Stmt → Bool
  | .Expr e _ => !isComp e && a.chk N sc e
  | _ => false
def sExpr (a : CE S) : CS S := ⟨fun L G => sx (a.ev L G) L fun _ G1 => .nx L G1, kExpr a, fun {sc N lev E X st} o h => by
  unfold kExpr at h
  split at h
  · simp only [Bool.and_eq_true, Bool.not_eq_true'] at h
    refine ps_imp (ps_expr (a.pe o h.2) (swaps_plain h.1)) fun D σ H q => ?_
    obtain ⟨ρ, L, G, R, l, p⟩ := q
    exact ⟨ρ, L, G, R, l, PostS.sx (k := fun v G1 => .nx L G1) p l fun v G1 ρ1 H1 x e1 R1 r1 p1 => p1 ρ1 H1 σ (Ext.refl _ _ _) R1 (l.mono e1)⟩
  · cases h⟩
def kIfS (c : CE S) (a b : CB S) (N : List Str) (sc : Scope) : Stmt → Bool
  | .If e x y _ => c.chk N sc e && (a.chk N sc x && b.chk N sc y)
  | _ => false
def ifE (b : Bool) (x y : SR) : SR := if b = true then x else y
def sIf (c : CE S) (a b : CB S) : CS S := ⟨fun L G => sx (c.tv L G) L fun t G1 => ifE t (a.ev L G1) (b.ev L G1), kIfS c a b, fun {sc N lev E X st} o h => by
  unfold kIfS at h
  split at h
  · simp only [Bool.and_eq_true] at h
    refine ps_imp (ps_if (c.pt o h.1) (a.ps o h.2.1) (b.ps o h.2.2)) fun D σ H q => ?_
    obtain ⟨ρ, L, G, R, l, p⟩ := q
    refine ⟨ρ, L, G, R, l, PostS.sx (ra := relB) (k := fun t G1 => ifE t (a.ev L G1) (b.ev L G1)) p l fun t G1 ρ1 H1 x e1 R1 r1 p1 => ?_⟩
    obtain rfl : t = x := r1
    unfold ifE at p1
    split
    · rename_i ht
      rw [if_pos ht] at p1
      exact ⟨ρ1, L, G1, R1, l.mono e1, p1⟩
    · rename_i ht
      rw [if_neg ht] at p1
      exact ⟨ρ1, L, G1, R1, l.mono e1, p1⟩
  · cases h⟩
/-! ### assignments -/
/-- no swapped stores, by the text alone -/
def nmOk (sc : Scope) : Expr → Bool
  | .Name x _ => scLoc sc x
  | _ => true
def starAny (vs : List Expr) : Bool := vs.any isStar
def locNames (sc : Scope) (ts : List Expr) (line : Nat) : List Str := ts.filterMap fun
  | .Name id pos => if scIs sc id .local && pos.line == line then some id else none
  | _ => none
def swNone (sc : Scope) (ts vs : List Expr) : Bool :=
  !(ts.length == 2 || ts.length == 3) || vs.length != ts.length || starAny vs ||
    ((locNames sc ts ((ts.head?.map (·.pos.line)).getD 0)).length != ts.length || (locNames sc ts ((ts.head?.map (·.pos.line)).getD 0)).eraseDups.length != (locNames sc ts ((ts.head?.map (·.pos.line)).getD 0)).length) || vs.all (foldedForSure 8)
def swOk (sc : Scope) : Expr → Expr → Bool
  | .Tuple ts _ _, .Tuple vs _ _ => ts.all (nmOk sc) && swNone sc ts vs
  | .List _ _, .Tuple _ _ _ => false
  | _, _ => true
theorem names_eq (o : Okx S sc N lev E X) {line : Nat} : ∀ {ts : List Expr}, ts.all (nmOk sc) = true → (ts.filterMap fun
    | .Name id pos => if X.env.kindOf id == some .local && pos.line == line then some id else none
    | _ => none) = locNames sc ts line
  | [], _ => rfl
  | t :: ts, h => by
    simp only [List.all_cons, Bool.and_eq_true] at h
    have ih := names_eq o (line := line) (ts := ts) h.2
    unfold locNames at ih ⊢
    rw [List.filterMap_cons, List.filterMap_cons, ih]
    cases t with
    | Name id pos =>
      have hk : (X.env.kindOf id == some .local) = scIs sc id .local := by
        have h1 : scLoc sc id = true := h.1
        simp only [scLoc, Bool.or_eq_true, scIs_iff] at h1
        rcases h1 with h1 | h1
        · have : X.env.kindOf id = some .local := o.sub _ _ h1 (by decide)
          rw [this, scIs_iff.mpr h1]; rfl
        · have : X.env.kindOf id = some .cell := o.sub _ _ h1 (by decide)
          rw [this]
          unfold scIs
          rw [h1]
          rfl
      simp only [hk]
    | _ => rfl
theorem blockKind_fn (ok : X.Ok) : X.env.blockKind = .function := by unfold Env.blockKind; rw [ok.kind]; rfl
theorem sw_none (o : Okx S sc N lev E X) (ok : X.Ok) {tg e : Expr} (h : swOk sc tg e = true) : swappedStores [tg] e X.env = pure none := by
  cases tg with
  | Tuple ts k p =>
    cases e with
    | Tuple vs k2 p2 =>
      have h : (ts.all (nmOk sc) && swNone sc ts vs) = true := h
      rw [Bool.and_eq_true] at h
      obtain ⟨h1, h2⟩ := h
      unfold swappedStores
      have nm := names_eq o (line := (ts.head?.map (·.pos.line)).getD 0) h1
      unfold swNone at h2
      simp only [Bool.or_eq_true] at h2
      show (if (!(ts.length == 2 || ts.length == 3) || vs.length != ts.length || X.env.blockKind != .function) = true then pure none else _) = _
      by_cases c1 : (!(ts.length == 2 || ts.length == 3) || vs.length != ts.length || X.env.blockKind != .function) = true
      · rw [if_pos c1]
      · rw [if_neg c1]
        simp only [Bool.or_eq_true, not_or] at c1
        by_cases c2 : starAny vs = true
        · exact if_pos c2
        · refine (if_neg c2).trans ?_
          show (if ((ts.filterMap fun
            | .Name id pos => if X.env.kindOf id == some .local && pos.line == ((ts.head?.map (·.pos.line)).getD 0) then some id else none
            | _ => none).length != ts.length || (ts.filterMap fun
            | .Name id pos => if X.env.kindOf id == some .local && pos.line == ((ts.head?.map (·.pos.line)).getD 0) then some id else none
            | _ => none).eraseDups.length != (ts.filterMap fun
            | .Name id pos => if X.env.kindOf id == some .local && pos.line == ((ts.head?.map (·.pos.line)).getD 0) then some id else none
            | _ => none).length) = true then pure none else _) = _
          rw [nm]
          by_cases c3 : ((locNames sc ts ((ts.head?.map (·.pos.line)).getD 0)).length != ts.length || (locNames sc ts ((ts.head?.map (·.pos.line)).getD 0)).eraseDups.length != (locNames sc ts ((ts.head?.map (·.pos.line)).getD 0)).length) = true
          · rw [if_pos c3]
          · rw [if_neg c3]
            have c4 : vs.all (foldedForSure 8) = true := by
              rcases h2 with ((h2 | h2) | h2) | h2
              · rcases h2 with h2 | h2
                · exact absurd h2 c1.1.1
                · exact absurd h2 c1.1.2
              · exact absurd h2 c2
              · exact absurd (by rw [Bool.or_eq_true]; exact h2) c3
              · exact h2
            exact if_pos c4
    | _ => rfl
  | List ts p =>
    cases e with
    | Tuple vs k2 p2 => cases h
    | _ => rfl
  | _ => rfl
theorem sole_plain {tg e : Expr} {l : Nat} {env : Env} (h : isComp e = false) : swapsWithSole [tg] e l env = pure false := swaps_plain h
end
end VM
/-! VMo: assignments -/
namespace VM
open PySem PySem.Spec PyProof.Rows L2
def notName : Expr → Bool
  | .Name .. => false
  | _ => true
section
variable {S : Sx} {sc : Scope} {N : List Str} {lev : Nat} {E : EW} {X : Cx} {ρ ρ' : Nat → Addr} {G : Gh} {H H' : Hp} {n n' : Nat} {D : Ends}
theorem swaps_tg {tg e : Expr} {l : Nat} {env : Env} (h : (!isComp e || notName tg) = true) : swapsWithSole [tg] e l env = pure false := by
  cases hc : isComp e with
  | false => exact swaps_plain hc
  | true =>
    rw [hc] at h
    have h : notName tg = true := by simpa using h
    cases e <;> first | (cases hc; done) | (cases tg <;> first | rfl | (cases h; done))
def eAsg (a : Lo → Gh → Res Va) (g : Va → Lo → Gh → Res Lo) : Lo → Gh → SR := fun L G => sx (a L G) L fun v G1 => sx (noex (g v L G1)) L fun L2 G2 => .nx L2 G2
theorem asg_we {a : Lo → Gh → Res Va} {g : Va → Lo → Gh → Res Lo} {sl : List Nat} {σ : L2.St} (q : WS S E (eAsg a g) D σ H) : tAsg (WE S E a) (WGt S sl g) D σ H := by
  obtain ⟨ρ, L, G, R, l, p⟩ := q
  refine ⟨ρ, L, G, R, l, PostS.sx (k := fun v G1 => sx (noex (g v L G1)) L fun L2 G2 => .nx L2 G2) p l fun v G1 ρ1 H1 x e1 R1 r1 p1 => ?_⟩
  exact ⟨ρ1, L, G1, v, R1, l.mono e1, r1, PostS.sxN (k := fun L2 G2 => .nx L2 G2) p1 fun L2 G2 ρ2 H2 σ2 e2 R2 r2 p2 => p2 ρ2 H2 σ2 (Ext.refl _ _ _) R2 r2.1⟩
def kAsg (g : CG S) (a : CE S) (N : List Str) (sc : Scope) : Stmt → Bool
  | .Assign [tg] e _ => swOk sc tg e && ((!isComp e || notName tg) && (g.chk N sc tg && a.chk N sc e))
  | _ => false
def sAsg (g : CG S) (a : CE S) : CS S := ⟨eAsg a.ev g.ev, kAsg g a, fun {sc N lev E X st} o h => by
  unfold kAsg at h
  split at h
  · rename_i tg e pos
    rw [Bool.and_eq_true, Bool.and_eq_true, Bool.and_eq_true] at h
    obtain ⟨h1, h2, h3, h4⟩ := h
    refine ⟨fun pins s σ H D I hw => ?_⟩
    exact (ps_asg (a.pe o h4) (g.pg o h3) (swaps_tg h2) (sw_none o I.ok h1) (by rw [g.st h3]; rfl)).run pins s σ H D I (asg_we hw)
  · cases h⟩
/-- name = [..] -/
def kLcS (i : Nat) (it : CI S) (g : CG S) (tt : CT S) (te : CE S) (own : List (Str × Nat)) (N : List Str) (sc : Scope) : Stmt → Bool
  | .Assign [.Name y py] (.ListComp elt [⟨tg, iter, ifs, 0⟩] scope pos) _ => kLc it g tt te own N sc (.ListComp elt [⟨tg, iter, ifs, 0⟩] scope pos) && (decide (N[i]? = some y) && (scIs sc y .local && ((py.line == pos.line) && !(scope.names.any fun (n, k) => n == y && (k == .local || k == .cell)))))
  | _ => false
def sLcS (i : Nat) (it : CI S) (g : CG S) (tt : CT S) (te : CE S) (own : List (Str × Nat)) : CS S := ⟨eAsg (lcE it.ev g.ev tt.ev te.ev (own.map (·.2))) (gNmE i), kLcS i it g tt te own, fun {sc N lev E X st} o h => by
  unfold kLcS at h
  split at h
  · rename_i y py elt tg iter ifs scope pos spos
    simp only [Bool.and_eq_true, Bool.not_eq_true', decide_eq_true_eq] at h
    obtain ⟨h0, h1, h2, h3, h4⟩ := h
    have h0 : (!S.hq && (blkC N sc scope own && (!isSetE iter && (it.chk N sc tg iter && (g.chk N scope tg && (tt.chk N scope ifs && (te.chk N scope elt && g.sl.all fun i => (own.map (·.2)).contains i))))))) = true := h0
    simp only [Bool.and_eq_true, Bool.not_eq_true'] at h0
    obtain ⟨hq, k1, k2, k3, k4, k5, k6, k7⟩ := h0
    have B := blkOk_by k1
    have hy : X.env.scope.names.lookup y = some .local := o.sub _ _ (scIs_iff.mp h2) (by decide)
    refine ⟨fun pins s σ H D I hw => ?_⟩
    refine (ps_setLc (i := i) (py := py) (spos := spos) (o.calm hq) o.nd (by rw [o.N]; exact h1) hy (sw_true I.ok.kind hy h3 h4) (it.pi o k3) (blk_ok o B) (fun s H C cl fp => g.pg (okx_blk o B s H C cl fp) k4) (fun s H C cl fp => tt.pt (okx_blk o B s H C cl fp) k5) (fun s H C cl fp => te.pe (okx_blk o B s H C cl fp) k6) (folded_plain k2)).run pins s σ H D I ?_
    obtain ⟨ρ, L, G, R, l, p⟩ := hw
    refine lc_we (E := E) (fun i hi => ?_) ⟨ρ, L, G, R, l, PostS.sx (k := fun v G1 => sx (noex (gNmE i v L G1)) L fun L2 G2 => .nx L2 G2) p l fun v G1 ρ1 H1 x e1 R1 r1 p1 => ?_⟩
    · have := List.all_eq_true.mp k7 i hi
      simpa using this
    · have hi : i < σ.length := by
        rw [I.len, o.N]
        exact (List.getElem?_eq_some_iff.mp h1).1
      have p1 : PostS S D E ρ1 G1.length H1 (.nx (L.set i (some v)) G1) := p1
      exact p1 ρ1 H1 _ (Ext.refl _ _ _) R1 ((l.mono e1).set hi r1)
  · cases h⟩
/-- a, b = x, y, plain local names -/
def par2 : List Va → Option (Va × Va)
  | [v, w] => some (v, w)
  | _ => none
def eP2 (i j : Nat) (L : Lo) (G : Gh) : Option (Va × Va) → SR
  | some (v, w) => .nx ((L.set i (some v)).set j (some w)) G
  | none => .no
def sw2 (sc : Scope) (x y : Str) (px py : Pos) (a b : Expr) : Bool := scIs sc x .local && (scIs sc y .local && ((py.line == px.line) && (!(x == y) && ((!isStar a && !isStar b) && (!([a, b].all (foldedForSure 8)) && !([a, b].all (constantsAlone 8)))))))
def kPar (i j : Nat) (args : CA S) (N : List Str) (sc : Scope) : Stmt → Bool
  | .Assign [.Tuple [.Name x px, .Name y py] _ _] (.Tuple [a, b] _ _) _ => !S.hq && (sw2 sc x y px py a b && (decide (N[i]? = some x) && (decide (N[j]? = some y) && (decide (i ≠ j) && (args.pl && args.chk N sc [a, b])))))
  | _ => false
theorem sw2_ok (ok : X.Ok) {x y : Str} {px py pt pt2 : Pos} {kt k2 : Nat} {a b : Expr} (hx : X.env.scope.names.lookup x = some .local) (hy : X.env.scope.names.lookup y = some .local) (hl : (py.line == px.line) = true) (hne : (x == y) = false) (h1 : isStar a = false) (h2 : isStar b = false) (h3 : ([a, b].all (foldedForSure 8)) = false) (h4 : ([a, b].all (constantsAlone 8)) = false) :
    swappedStores [.Tuple [.Name x px, .Name y py] kt pt] (.Tuple [a, b] k2 pt2) X.env = pure (some [x, y]) := by
  have kx : X.env.kindOf x = some .local := hx
  have ky : X.env.kindOf y = some .local := hy
  have hb := blockKind_fn ok
  have st : starAny [a, b] = false := by
    unfold starAny
    rw [List.any_cons, List.any_cons, h1, h2]; rfl
  have lx : (Expr.Name x px).pos.line = px.line := rfl
  have hyx : (y == x) = false := by
    have : ¬ x = y := by simpa using hne
    simpa using fun z => this z.symm
  have ed : [x, y].eraseDups = [x, y] := by
    simp [List.eraseDups_cons, List.filter, hyx]
  unfold swappedStores
  simp only [hb, List.length_cons, List.length_nil, List.head?_cons, Option.map_some, Option.getD_some, lx, List.filterMap_cons, List.filterMap_nil, kx, ky, hl, beq_self_eq_true, Bool.and_self, if_true, ed]
  refine (if_neg (by decide)).trans ?_
  refine (if_neg fun h => absurd ((show starAny [a, b] = true from h).symm.trans st) (by decide)).trans ?_
  refine (if_neg (by decide)).trans ?_
  refine (if_neg (by rw [h3]; decide)).trans ?_
  refine (if_neg (by rw [h4]; decide)).trans ?_
  rfl
def sPar (i j : Nat) (args : CA S) : CS S := ⟨fun L G => sx (args.ev L G) L fun vs G1 => eP2 i j L G1 (par2 vs), kPar i j args, fun {sc N lev E X st} o h => by
  unfold kPar at h
  split at h
  · rename_i x px y py kt pt a b k2 pt2 pos
    simp only [Bool.and_eq_true, decide_eq_true_eq, sw2, Bool.not_eq_true'] at h
    obtain ⟨hq, ⟨h1, h2, h3, h4, ⟨h5, h6⟩, h7, h8⟩, k1, k2', k3, k4, k5⟩ := h
    have hx : X.env.scope.names.lookup x = some .local := o.sub _ _ (scIs_iff.mp h1) (by decide)
    have hy : X.env.scope.names.lookup y = some .local := o.sub _ _ (scIs_iff.mp h2) (by decide)
    refine ⟨fun pins s σ H D I hw => ?_⟩
    refine (ps_par (i := i) (j := j) (o.calm hq) o.nd (by rw [o.N]; exact k1) (by rw [o.N]; exact k2') k3 hx hy (args.pa o k5) (sw2_ok I.ok hx hy h3 h4 h5 h6 h7 h8)).run pins s σ H D I ?_
    obtain ⟨ρ, L, G, R, l, p⟩ := hw
    refine ⟨ρ, L, G, R, l, PostS.sx (k := fun vs G1 => eP2 i j L G1 (par2 vs)) p l fun vs G1 ρ1 H1 xs e1 R1 r1 p1 => ?_⟩
    unfold par2 at p1
    split at p1
    · rename_i v w
      obtain ⟨y1, y2, rfl, q1, q2⟩ := r1.two
      have hi : i < σ.length := by
        rw [I.len, o.N]
        exact (List.getElem?_eq_some_iff.mp k1).1
      have hj : j < (σ.set i (some y1)).length := by
        rw [List.length_set, I.len, o.N]
        exact (List.getElem?_eq_some_iff.mp k2').1
      have p1 : PostS S D E ρ1 G1.length H1 (.nx ((L.set i (some v)).set j (some w)) G1) := p1
      exact ⟨y1, y2, rfl, p1 ρ1 H1 _ (Ext.refl _ _ _) R1 (((l.mono e1).set hi q1).set hj q2)⟩
    · exact p1.elim
  · cases h⟩
end
end VM
/-! VMp: stores to attributes, items; augmented ones; loops -/
namespace VM
open PySem PySem.Spec PyProof.Rows L2
section
variable {S : Sx} {sc : Scope} {N : List Str} {lev : Nat} {E : EW} {X : Cx} {ρ ρ' : Nat → Addr} {G : Gh} {H H' : Hp} {n n' : Nat} {D : Ends}
/-! ### a, b, c = x, y, z -/
def par3 : List Va → Option (Va × Va × Va)
  | [v, w, z] => some (v, w, z)
  | _ => none
def eP3 (i j k : Nat) (L : Lo) (G : Gh) : Option (Va × Va × Va) → SR
  | some (v, w, z) => .nx (((L.set i (some v)).set j (some w)).set k (some z)) G
  | none => .no
def sw3 (sc : Scope) (x y z : Str) (px py pz : Pos) (a b c : Expr) : Bool := scIs sc x .local && (scIs sc y .local && (scIs sc z .local && ((py.line == px.line && pz.line == px.line) && ((!(x == y) && !(x == z) && !(y == z)) && ((!isStar a && !isStar b && !isStar c) && (!([a, b, c].all (foldedForSure 8)) && !([a, b, c].all (constantsAlone 8))))))))
def kPar3 (i j k : Nat) (args : CA S) (N : List Str) (sc : Scope) : Stmt → Bool
  | .Assign [.Tuple [.Name x px, .Name y py, .Name z pz] _ _] (.Tuple [a, b, c] _ _) _ => !S.hq && (sw3 sc x y z px py pz a b c && (decide (N[i]? = some x) && (decide (N[j]? = some y) && (decide (N[k]? = some z) && ((decide (i ≠ j) && decide (i ≠ k) && decide (j ≠ k)) && (args.pl && args.chk N sc [a, b, c]))))))
  | _ => false
theorem beq_ne {x y : Str} (h : (x == y) = false) : (y == x) = false := by
  have : ¬ x = y := by simpa using h
  simpa using fun z => this z.symm
theorem sw3_ok (ok : X.Ok) {x y z : Str} {px py pz pt pt2 : Pos} {kt k2 : Nat} {a b c : Expr} (hx : X.env.scope.names.lookup x = some .local) (hy : X.env.scope.names.lookup y = some .local) (hz : X.env.scope.names.lookup z = some .local) (hl : (py.line == px.line) = true) (hl2 : (pz.line == px.line) = true) (n1 : (x == y) = false) (n2 : (x == z) = false) (n3 : (y == z) = false)
    (h1 : isStar a = false) (h2 : isStar b = false) (h2' : isStar c = false) (h3 : ([a, b, c].all (foldedForSure 8)) = false) (h4 : ([a, b, c].all (constantsAlone 8)) = false) :
    swappedStores [.Tuple [.Name x px, .Name y py, .Name z pz] kt pt] (.Tuple [a, b, c] k2 pt2) X.env = pure (some [x, y, z]) := by
  have kx : X.env.kindOf x = some .local := hx
  have ky : X.env.kindOf y = some .local := hy
  have kz : X.env.kindOf z = some .local := hz
  have hb := blockKind_fn ok
  have st : starAny [a, b, c] = false := by
    unfold starAny
    rw [List.any_cons, List.any_cons, List.any_cons, h1, h2, h2']; rfl
  have lx : (Expr.Name x px).pos.line = px.line := rfl
  have ed : [x, y, z].eraseDups = [x, y, z] := by
    simp [List.eraseDups_cons, List.filter, beq_ne n1, beq_ne n2, beq_ne n3]
  unfold swappedStores
  simp only [hb, List.length_cons, List.length_nil, List.head?_cons, Option.map_some, Option.getD_some, lx, List.filterMap_cons, List.filterMap_nil, kx, ky, kz, hl, hl2, beq_self_eq_true, Bool.and_self, if_true, ed]
  refine (if_neg (by decide)).trans ?_
  refine (if_neg fun h => absurd ((show starAny [a, b, c] = true from h).symm.trans st) (by decide)).trans ?_
  refine (if_neg (by decide)).trans ?_
  refine (if_neg (by rw [h3]; decide)).trans ?_
  refine (if_neg (by rw [h4]; decide)).trans ?_
  rfl
theorem VRs.three {x x' x'' : Va} {zs : List V} (h : VRs S ρ n H [x, x', x''] zs) : ∃ y y' y'', zs = [y, y', y''] ∧ VR S ρ n H x y ∧ VR S ρ n H x' y' ∧ VR S ρ n H x'' y'' := by
  obtain ⟨y, ys, rfl, h1, h2⟩ := h.cons_inv
  obtain ⟨y', y'', rfl, h3, h4⟩ := h2.two
  exact ⟨y, y', y'', rfl, h1, h3, h4⟩
def sPar3 (i j k : Nat) (args : CA S) : CS S := ⟨fun L G => sx (args.ev L G) L fun vs G1 => eP3 i j k L G1 (par3 vs), kPar3 i j k args, fun {sc N lev E X st} o h => by
  unfold kPar3 at h
  split at h
  · rename_i x px y py z pz kt pt a b c k2 pt2 pos
    simp only [Bool.and_eq_true, decide_eq_true_eq, sw3, Bool.not_eq_true'] at h
    obtain ⟨hq, ⟨h1, h2, h3, ⟨h4, h4'⟩, ⟨⟨n1, n2⟩, n3⟩, ⟨⟨h5, h6⟩, h6'⟩, h7, h8⟩, k1, k2', k2'', ⟨⟨k3, k3'⟩, k3''⟩, k4, k5⟩ := h
    have hx : X.env.scope.names.lookup x = some .local := o.sub _ _ (scIs_iff.mp h1) (by decide)
    have hy : X.env.scope.names.lookup y = some .local := o.sub _ _ (scIs_iff.mp h2) (by decide)
    have hz : X.env.scope.names.lookup z = some .local := o.sub _ _ (scIs_iff.mp h3) (by decide)
    refine ⟨fun pins s σ H D I hw => ?_⟩
    refine (ps_par3 (i := i) (j := j) (l := k) (o.calm hq) o.nd (by rw [o.N]; exact k1) (by rw [o.N]; exact k2') (by rw [o.N]; exact k2'') k3 k3' k3'' hx hy hz (args.pa o k5) (sw3_ok I.ok hx hy hz h4 h4' n1 n2 n3 h5 h6 h6' h7 h8)).run pins s σ H D I ?_
    obtain ⟨ρ, L, G, R, l, p⟩ := hw
    refine ⟨ρ, L, G, R, l, PostS.sx (k := fun vs G1 => eP3 i j k L G1 (par3 vs)) p l fun vs G1 ρ1 H1 xs e1 R1 r1 p1 => ?_⟩
    unfold par3 at p1
    split at p1
    · rename_i v w u
      obtain ⟨y1, y2, y3, rfl, q1, q2, q3⟩ := r1.three
      have hi : i < σ.length := by
        rw [I.len, o.N]
        exact (List.getElem?_eq_some_iff.mp k1).1
      have hj : j < (σ.set i (some y1)).length := by
        rw [List.length_set, I.len, o.N]
        exact (List.getElem?_eq_some_iff.mp k2').1
      have hk : k < ((σ.set i (some y1)).set j (some y2)).length := by
        rw [List.length_set, List.length_set, I.len, o.N]
        exact (List.getElem?_eq_some_iff.mp k2'').1
      have p1 : PostS S D E ρ1 G1.length H1 (.nx (((L.set i (some v)).set j (some w)).set k (some u)) G1) := p1
      exact ⟨y1, y2, y3, rfl, p1 ρ1 H1 _ (Ext.refl _ _ _) R1 ((((l.mono e1).set hi q1).set hj q2).set hk q3)⟩
    · exact p1.elim
  · cases h⟩
/-! ### o.f = v -/
def putN (f : Nat) (v : Va) : List (Nat × Va) → List (Nat × Va)
  | [] => [(f, v)]
  | (g, x) :: r => if g = f then (g, v) :: r else (g, x) :: putN f v r
theorem len_putN (f : Nat) (v : Va) : ∀ fs : List (Nat × Va), (putN f v fs).length ≤ fs.length + 1
  | [] => Nat.le_refl _
  | (g, x) :: r => by
    unfold putN
    split
    · exact Nat.le_succ _
    · have := len_putN f v r
      simp only [List.length_cons]; omega
theorem mem_putN {f : Nat} {v : Va} : ∀ {fs : List (Nat × Va)} {p : Nat × Va}, p ∈ putN f v fs → p.1 = f ∨ p ∈ fs
  | [], p, h => by
    unfold putN at h
    have := List.mem_singleton.mp h
    subst this
    exact .inl rfl
  | (g, x) :: r, p, h => by
    unfold putN at h
    split at h
    · rename_i hg
      rcases List.mem_cons.mp h with z | z
      · subst z; exact .inl hg
      · exact .inr (List.mem_cons_of_mem _ z)
    · rcases List.mem_cons.mp h with z | z
      · exact .inr (by rw [z]; exact List.mem_cons_self)
      · exact (mem_putN z).imp id fun w => List.mem_cons_of_mem _ w
theorem fr_put (g : ∀ i j, i < S.nn → j < S.nn → S.nm i = S.nm j → i = j) {f : Nat} (hf : f < S.nn) {v : Va} {y : V} (r : VR S ρ n H v y) : ∀ {fs : List (Nat × Va)} {gs : List (Str × V)}, FR S ρ n H fs gs → FR S ρ n H (putN f v fs) (putF (S.nm f) y gs)
  | [], _, h => by
    cases h
    exact ⟨y, [], rfl, hf, r, rfl⟩
  | (k, x) :: fs, _, h => by
    obtain ⟨z, t, rfl, h1, h2, h3⟩ := h
    unfold putN putF
    by_cases q : k = f
    · subst q
      rw [if_pos rfl, if_pos rfl]
      exact ⟨y, t, rfl, h1, r, h3⟩
    · rw [if_neg q, if_neg fun e => q (g k f h1 hf e)]
      exact ⟨z, _, rfl, h1, h2, fr_put g hf r h3⟩
def setO (S : Sx) (m f : Nat) (v : Va) (G : Gh) : Option VO → Option Gh
  | some (.ins c fs) => if f ∈ (S.cd c).flds ∧ fs.length < 900 then some (G.set m (.ins c (putN f v fs))) else none
  | _ => none
def setV (S : Sx) (f : Nat) (v : Va) : Va → Gh → Option Gh
  | .ref m, G => setO S m f v G G[m]?
  | _, _ => none
def nxS (L : Lo) : Option Gh → SR
  | some G => .nx L G
  | none => .no
/-- the instance's attribute is written -/
theorem set_fld (o : Okx S sc N lev E X) {m f : Nat} {v : Va} {y : V} {σ : L2.St} {L : Lo} (hf : f < S.nn) (R : Rl S ρ G H) (l : LR S ρ G.length H L σ) (rv : VR S ρ G.length H v y) (hm : m < G.length) (p : PostS S D E ρ G.length H (nxS L (setO S m f v G G[m]?))) :
    ∃ C dx fs, H (ρ m) = some (.ins C dx fs) ∧ Cls S.K C ∧ NoAttr S.K C (S.nm f) ∧ fs.length < 1000 ∧ D.nx σ (upd H (ρ m) (.ins C dx (putF (S.nm f) y fs))) := by
  obtain ⟨w, hw⟩ := get_of hm
  rw [hw] at p
  cases w with
  | ins c fs =>
    obtain ⟨dx, gs, k1, k2, k3, k5, k4⟩ := R.ob m _ hw
    have p : PostS S D E ρ G.length H (nxS L (if f ∈ (S.cd c).flds ∧ fs.length < 900 then some (G.set m (.ins c (putN f v fs))) else none)) := p
    split at p
    · rename_i hc
      have C := o.good.cls c k5
      have len : gs.length = fs.length := by
        have key : ∀ {fs : List (Nat × Va)} {gs : List (Str × V)}, FR S ρ G.length H fs gs → gs.length = fs.length := by
          intro fs
          induction fs with
          | nil => intro gs h; cases h; rfl
          | cons q fs ih =>
            intro gs h
            obtain ⟨f, x⟩ := q
            obtain ⟨y, r, rfl, _, _, h3⟩ := h
            simp [ih h3]
        exact key k2
      have w := R.write (o' := .ins c (putN f v fs)) (u := .ins (S.ca c) dx (putF (S.nm f) y gs)) hw rfl rfl (fun xs z => by rw [k1] at z; cases z) (fun b v z => by rw [k1] at z; cases z) (fun gs z => by rw [k1] at z; cases z) (fun ρ' hρ' ex => by
        subst hρ'
        refine ⟨dx, _, upd_same, (fr_put o.good.nmi hf rv k2).mono ex, ?_, k5, fun q hq => ?_⟩
        · have := len_putN f v fs
          omega
        · rcases mem_putN hq with z | z
          · rw [z]; exact hc.1
          · exact k4 q z)
      refine ⟨S.ca c, dx, gs, k1, C.cl, C.nf f hc.1, by rw [len]; omega, ?_⟩
      have e2 : Ext ρ G.length H ρ G.length (upd H (ρ m) (.ins (S.ca c) dx (putF (S.nm f) y gs))) := by
        have e := w.2
        rwa [List.length_set] at e
      have p : PostS S D E ρ G.length H (.nx L (G.set m (.ins c (putN f v fs)))) := p
      exact p ρ _ σ w.2 w.1 (by rw [List.length_set]; exact l.mono e2)
    · exact p.elim
  | _ => exact p.elim
def eFld (a : Lo → Gh → Res Va) (ob : Lo → Gh → Res Va) (S : Sx) (f : Nat) : Lo → Gh → SR := fun L G => sx (a L G) L fun v G1 => sx (ob L G1) L fun w G2 => nxS L (setV S f v w G2)
def kFld (S : Sx) (ob : CE S) (f : Nat) (a : CE S) (N : List Str) (sc : Scope) : Stmt → Bool
  | .Assign [.Attribute x y _] e _ => decide (f < S.nn) && (decide (S.nm f = y) && (ob.chk N sc x && a.chk N sc e))
  | _ => false
def sFldS (ob : CE S) (f : Nat) (a : CE S) : CS S := ⟨eFld a.ev ob.ev S f, kFld S ob f a, fun {sc N lev E X st} o h => by
  unfold kFld at h
  split at h
  · rename_i x y pa e pos
    simp only [Bool.and_eq_true, decide_eq_true_eq] at h
    obtain ⟨hf, rfl, h1, h2⟩ := h
    refine ps_imp (ps_fld (ob.pe o h1) (a.pe o h2) (swaps_tg (tg := .Attribute x (S.nm f) pa) (l := pos.line) (env := X.env) (by simp [notName]))) fun D σ H q => ?_
    obtain ⟨ρ, L, G, R, l, p⟩ := q
    refine ⟨ρ, L, G, R, l, PostS.sx (k := fun v G1 => sx (ob.ev L G1) L fun w G2 => nxS L (setV S f v w G2)) p l fun v G1 ρ1 H1 y1 e1 R1 r1 p1 => ?_⟩
    refine ⟨ρ1, L, G1, R1, l.mono e1, PostS.sx (k := fun w G2 => nxS L (setV S f v w G2)) p1 (l.mono e1) fun w G2 ρ2 H2 y2 e2 R2 r2 p2 => ?_⟩
    cases w with
    | ref m =>
      obtain ⟨hm, rfl⟩ := vr_ref r2
      obtain ⟨C, dx, fs, q1, q2, q3, q4, q5⟩ := set_fld o hf R2 ((l.mono e1).mono e2) (r1.mono e2) hm p2
      exact ⟨_, C, dx, fs, rfl, q1, by rw [o.K]; exact q2, by rw [o.K]; exact q3, q4, q5⟩
    | _ => exact p2.elim
  · cases h⟩
/-! ### o[i] = v -/
def stO (m : Nat) (k v : Va) (G : Gh) : Option VO → Option Gh
  | some (.lst false xs) => match k with
    | .int i => (ixN xs.length i).map fun j => G.set m (.lst false (xs.set j v))
    | _ => none
  | some (.dct false kvs) => if (keyS k).isSome = true ∧ kvs.length < sizeLine then some (G.set m (.dct false (dPut kvs k v))) else none
  | _ => none
def stV (k v : Va) : Va → Gh → Option Gh
  | .ref m, G => stO m k v G G[m]?
  | _, _ => none
/-- by values -/
def rSet (S : Sx) : TSet := fun o i v H Q => ∃ ρ G a b c G', Rl S ρ G H ∧ VR S ρ G.length H a o ∧ VR S ρ G.length H b i ∧ VR S ρ G.length H c v ∧ stV b c a G = some G' ∧ ∀ H', Ext ρ G.length H ρ G'.length H' → Rl S ρ G' H' → Q H'
theorem drk_any {k : Va} {k' : Key} (hk : keyS k = some k') : ∀ {kvs : List (Va × Va)} {ks : List (Key × V)}, DRk S ρ n H kvs ks → (kvs.any fun p => kEq p.1 k) = (ks.any fun p => decide (p.1 = k'))
  | [], _, h => by cases h; rfl
  | (a, x) :: kvs, _, h => by
    obtain ⟨a', y, r, rfl, h1, h2, h3⟩ := h
    rw [List.any_cons, List.any_cons, drk_any hk h3, keyS_eq h1 hk]
theorem drk_map {k : Va} {k' : Key} {v : Va} {v' : V} (hk : keyS k = some k') (rv : VR S ρ n H v v') : ∀ {kvs : List (Va × Va)} {ks : List (Key × V)}, DRk S ρ n H kvs ks → DRk S ρ n H (kvs.map fun p => if kEq p.1 k = true then (p.1, v) else p) (ks.map fun p => if p.1 = k' then (p.1, v') else p)
  | [], _, h => by cases h; rfl
  | (a, x) :: kvs, _, h => by
    obtain ⟨a', y, r, rfl, h1, h2, h3⟩ := h
    have e := keyS_eq h1 hk
    rw [List.map_cons, List.map_cons]
    by_cases q : a' = k'
    · rw [decide_eq_true q] at e
      rw [if_pos e, if_pos q]
      exact ⟨a', v', _, rfl, h1, rv, drk_map hk rv h3⟩
    · rw [decide_eq_false q] at e
      rw [if_neg (by rw [e]; decide), if_neg q]
      exact ⟨a', y, _, rfl, h1, h2, drk_map hk rv h3⟩
theorem drk_app {k : Va} {k' : Key} {v : Va} {v' : V} (hk : keyS k = some k') (rv : VR S ρ n H v v') : ∀ {kvs : List (Va × Va)} {ks : List (Key × V)}, DRk S ρ n H kvs ks → DRk S ρ n H (kvs ++ [(k, v)]) (ks ++ [(k', v')])
  | [], _, h => by cases h; exact ⟨k', v', [], rfl, hk, rv, rfl⟩
  | (a, x) :: kvs, _, h => by
    obtain ⟨a', y, r, rfl, h1, h2, h3⟩ := h
    exact ⟨a', y, _, rfl, h1, h2, drk_app hk rv h3⟩
theorem drk_put {k : Va} {k' : Key} {v : Va} {v' : V} (hk : keyS k = some k') (rv : VR S ρ n H v v') {kvs : List (Va × Va)} {ks : List (Key × V)} (h : DRk S ρ n H kvs ks) : DRk S ρ n H (dPut kvs k v) (putK ks k' v') := by
  unfold dPut putK
  rw [drk_any hk h]
  split
  · exact drk_map hk rv h
  · exact drk_app hk rv h
theorem rset_ok (o : Okx S sc N lev E X) : PSet X (rSet S) := by
  intro pins s σ H ov iv v u1 u2 u3 Q I r1 r2 r3 h
  obtain ⟨ρ, G, a, b, c, G', R, ra, rb, rc, e, q⟩ := h
  cases a with
  | ref m =>
    obtain ⟨hm, rfl⟩ := vr_ref ra
    obtain ⟨w, hw⟩ := get_of hm
    have e : stO m b c G G[m]? = some G' := e
    rw [hw] at e
    cases w with
    | lst fz xs =>
      cases fz with
      | true => cases e
      | false =>
        cases b with
        | int i =>
          obtain rfl := vr_int rb
          obtain ⟨j, hj, rfl⟩ := Option.map_eq_some_iff.mp e
          obtain ⟨ys, k1, k2⟩ := R.ob m _ hw
          refine set_list pins s σ H _ _ v u1 u2 u3 Q I r1 r2 r3 ⟨ρ m, ys, i, j, rfl, rfl, k1, by rw [k2.length]; exact hj, ?_⟩
          have w := R.write (o' := .lst false (xs.set j c)) (u := .lst (ys.set j v)) hw rfl rfl (fun xs z => by rw [k1] at z; cases z) (fun b v z => by rw [k1] at z; cases z) (fun gs z => by rw [k1] at z; cases z) (fun ρ' hρ' ex => by
            subst hρ'
            exact ⟨_, upd_same, (k2.set rc).mono ex⟩)
          exact q _ w.2 w.1
        | _ => cases e
    | dct lk kvs =>
      cases lk with
      | true => cases e
      | false =>
        have e : (if (keyS b).isSome = true ∧ kvs.length < sizeLine then some (G.set m (.dct false (dPut kvs b c))) else none) = some G' := e
        split at e
        · rename_i hc
          cases e
          obtain ⟨k', hk⟩ := Option.isSome_iff_exists.mp hc.1
          obtain rfl := keyS_V hk rb
          obtain ⟨ks, k1, k2⟩ := R.ob m _ hw
          refine set_dict o.u1 pins s σ H _ _ v u1 u2 u3 Q I r1 r2 r3 ⟨ρ m, _, rfl, DPut.k k1 (by rw [k2.len]; exact hc.2), ?_⟩
          have w := R.write (o' := .dct false (dPut kvs b c)) (u := .dK (putK ks k' v)) hw rfl rfl (fun xs z => by rw [k1] at z; cases z) (fun b v z => by rw [k1] at z; cases z) (fun gs z => by rw [k1] at z; cases z) (fun ρ' hρ' ex => by
            subst hρ'
            exact ⟨_, upd_same, (drk_put hk rc k2).mono ex⟩)
          exact q _ w.2 w.1
        · cases e
    | _ => cases e
  | _ => cases e
def okL (L : Lo) : Option Gh → Res Lo
  | some G => .ok L G
  | none => .no
def gSubE (a i : Lo → Gh → Res Va) : Va → Lo → Gh → Res Lo := fun v L G => (noex (a L G)).bind fun o G1 => (noex (i L G1)).bind fun k G2 => okL L (stV k v o G2)
def kSub (a i : CE S) (N : List Str) (sc : Scope) : Expr → Bool
  | .Subscript x y _ => !isSl y && (a.chk N sc x && i.chk N sc y)
  | _ => false
theorem gSub_pg (a i : CE S) {e : Expr} (o : Okx S sc N lev E X) (h : kSub a i N sc e = true) : PG X e (WGt S [] (gSubE a.ev i.ev)) := by
  unfold kSub at h
  split at h
  · rename_i x y p
    simp only [Bool.and_eq_true, Bool.not_eq_true'] at h
    obtain ⟨h0, h1, h2⟩ := h
    refine pg_imp (pg_sub (a.pe o h1) (i.pe o h2) (rset_ok o) (fun v => by cases y <;> first | rfl | (cases h0; done))) fun v σ H Q q => ?_
    obtain ⟨ρ, L, G, w, R, l, rw', p⟩ := q
    refine ⟨ρ, L, G, R, l, Post.bindN p fun ob G1 ρ1 H1 x1 e1 R1 r1 p1 => ?_⟩
    refine ⟨ρ1, L, G1, R1, l.mono e1, Post.bindN p1 fun k G2 ρ2 H2 x2 e2 R2 r2 p2 => ?_⟩
    cases es : stV k w ob G2 with
    | none => rw [es] at p2; exact p2.elim
    | some G' =>
      rw [es] at p2
      refine ⟨ρ2, G2, ob, k, w, G', R2, r1.mono e2, r2, (rw'.mono e1).mono e2, es, fun H' e3 R3 => p2 ρ2 H' σ e3 R3 ⟨((l.mono e1).mono e2).mono e3, Same.refl⟩⟩
  · cases h
def gSubS (a i : CE S) : CG S := ⟨gSubE a.ev i.ev, [], kSub a i, gSub_pg a i, fun {N sc e env} h => by cases e <;> first | rfl | cases h⟩
end
end VM
/-! VMq: augmented stores, loops -/
namespace VM
open PySem PySem.Spec PyProof.Rows L2
section
variable {S : Sx} {sc : Scope} {N : List Str} {lev : Nat} {E : EW} {X : Cx} {ρ ρ' : Nat → Addr} {G : Gh} {H H' : Hp} {n n' : Nat} {D : Ends}
/-! ### x += e -/
def ipS (s t : Tx) (G : Gh) : Option (Va × Gh) := if s.length + t.length ≤ sizeLine then some (.str (s ++ t), G) else none
def ipL (m : Nat) (G : Gh) : Option (List Va) → Option (List Va) → Option (Va × Gh)
  | some xs, some ys => if xs.length + ys.length ≤ sizeLine then some (.ref m, G.set m (.lst false (xs ++ ys))) else none
  | _, _ => none
def ipAdd : Op2
  | .int i, .int j, G => some (.int (i + j), G)
  | .str s, .str t, G => ipS s t G
  | .ref m, .ref k, G => ipL m G (mlsO G[m]?) (mlsO G[k]?)
  | _, _, _ => none
theorem toS_append (s t : Tx) : toS s ++ toS t = toS (s ++ t) := by
  unfold toS
  show (⟨s.toArray ++ t.toArray⟩ : Str) = _
  simp
theorem fin_step {Q : VK} {v : Va} {G' : Gh} {v' : V} (h : Fin1 S ρ n H Q (some (v, G'))) (e : Ext ρ n H ρ' G'.length H') (R : Rl S ρ' G' H') (r : VR S ρ' G'.length H' v v') : Q v' H' := by
  obtain ⟨a, b, q, k⟩ := h
  cases q
  exact k ρ' H' v' e R r
theorem ip_ok (o : Okx S sc N lev E X) : PIp X .Add (rO2 S ipAdd) := by
  intro pins s σ H x y v u Q I rx ry h
  obtain ⟨ρ, G, a, b, R, ra, rb, p⟩ := h
  cases a with
  | int i =>
    cases b with
    | int j =>
      obtain rfl := vr_int ra
      obtain rfl := vr_int rb
      exact ip_add pins s σ H _ _ v u Q I rx ry ⟨i, j, rfl, rfl, p.old R vr_int'⟩
    | _ => exact p.no.elim
  | str i =>
    cases b with
    | str j =>
      obtain rfl := vr_str ra
      obtain rfl := vr_str rb
      have p : Fin1 S ρ G.length H Q (ipS i j G) := p
      unfold ipS at p
      split at p
      · rename_i hz
        refine iop_add_str pins s σ H _ _ v u Q I rx ry ⟨toS i, toS j, rfl, rfl, by rw [toS_len, toS_len]; exact hz, ?_⟩
        rw [toS_append]
        exact p.old R vr_str'
      · exact p.no.elim
    | _ => exact p.no.elim
  | ref m =>
    cases b with
    | ref k =>
      obtain ⟨hm, rfl⟩ := vr_ref ra
      obtain ⟨hk, rfl⟩ := vr_ref rb
      have p : Fin1 S ρ G.length H Q (ipL m G (mlsO G[m]?) (mlsO G[k]?)) := p
      cases e1 : mlsO G[m]? with
      | none => rw [e1] at p; exact p.no.elim
      | some xs =>
        cases e2 : mlsO G[k]? with
        | none => rw [e1, e2] at p; exact p.no.elim
        | some zs =>
          rw [e1, e2] at p
          have p : Fin1 S ρ G.length H Q (if xs.length + zs.length ≤ sizeLine then some (.ref m, G.set m (.lst false (xs ++ zs))) else none) := p
          split at p
          · rename_i hz
            have hw := mls_eq e1
            obtain ⟨ys, k1, k2⟩ := mls_ok R e1
            obtain ⟨ws, k3, k4⟩ := mls_ok R e2
            refine iop_ext pins s σ H _ _ v u Q I rx ry ⟨ρ m, ρ k, ys, ws, rfl, rfl, k1, k3, by rw [k2.length, k4.length]; exact hz, ?_⟩
            have w := R.write (o' := .lst false (xs ++ zs)) (u := .lst (ys ++ ws)) hw rfl rfl (fun xs z => by rw [k1] at z; cases z) (fun b v z => by rw [k1] at z; cases z) (fun gs z => by rw [k1] at z; cases z) (fun ρ' hρ' ex => by
              subst hρ'
              exact ⟨_, upd_same, (k2.append k4).mono ex⟩)
            refine fin_step p w.2 w.1 ?_
            unfold VR
            exact ⟨Nat.lt_of_lt_of_le hm w.2.le, rfl⟩
          · exact p.no.elim
    | _ => exact p.no.elim
  | _ => exact p.no.elim
def augR (i : Nat) (L : Lo) : Option (Va × Gh) → SR
  | some (v, G) => .nx (L.set i (some v)) G
  | none => .no
def augX (i : Nat) (a : Lo → Gh → Res Va) (L : Lo) (G : Gh) : Option (Option Va) → SR
  | some (some x) => sx (a L G) L fun y G1 => augR i L (ipAdd x y G1)
  | _ => .no
def kAugN (i : Nat) (a : CE S) (N : List Str) (sc : Scope) : Stmt → Bool
  | .AugAssign (.Name x _) .Add e _ => decide (N[i]? = some x) && (scLoc sc x && a.chk N sc e)
  | _ => false
def sAugN (i : Nat) (a : CE S) : CS S := ⟨fun L G => augX i a.ev L G L[i]?, kAugN i a, fun {sc N lev E X st} o h => by
  unfold kAugN at h
  split at h
  · simp only [Bool.and_eq_true, decide_eq_true_eq] at h
    obtain ⟨h1, h2, h3⟩ := h
    refine ⟨fun pins s σ H D I hw => ?_⟩
    refine (ps_aug (i := i) o.nd (by rw [o.N]; exact h1) (o.loc h2) (a.pe o h3) (ip_ok o) (o.stf _ h2)).run pins s σ H D I ?_
    obtain ⟨ρ, L, G, R, l, p⟩ := hw
    have hi : i < σ.length := by
      rw [I.len, o.N]
      exact (List.getElem?_eq_some_iff.mp h1).1
    have p : PostS S D E ρ G.length H (augX i a.ev L G L[i]?) := p
    cases hl : L[i]? with
    | none => rw [hl] at p; exact p.elim
    | some w =>
      cases w with
      | none => rw [hl] at p; exact p.elim
      | some x =>
        rw [hl] at p
        obtain ⟨v, q1, q2⟩ := l i x hl
        refine ⟨v, q1, ρ, L, G, R, l, PostS.sx (k := fun y G1 => augR i L (ipAdd x y G1)) p l fun y G1 ρ1 H1 y' e1 R1 r1 p1 => ?_⟩
        refine ⟨ρ1, G1, x, y, R1, q2.mono e1, r1, ?_⟩
        cases hp : ipAdd x y G1 with
        | none => rw [hp] at p1; exact p1.elim
        | some z =>
          obtain ⟨z, G2⟩ := z
          rw [hp] at p1
          exact ⟨z, G2, rfl, fun ρ2 H2 z' e2 R2 r2 => p1 ρ2 H2 _ e2 R2 (((l.mono e1).mono e2).set hi r2)⟩
  · cases h⟩
/-- o[i], by values -/
def getF : Op2
  | .ref n, k, G => idxO G G[n]? k
  | _, _, _ => none
theorem get_ok (o : Okx S sc N lev E X) : PGet X (rO2 S getF) := by
  intro pins s σ H x y v u Q I rx ry h
  obtain ⟨ρ, G, a, b, R, ra, rb, p⟩ := h
  cases a with
  | ref m =>
    obtain ⟨hm, rfl⟩ := vr_ref ra
    obtain ⟨w, hw⟩ := get_of hm
    have p : Fin1 S ρ G.length H Q (idxO G G[m]? b) := p
    rw [hw] at p
    cases (show v = Value.ref (ρ m) from rx)
    cases w with
    | lst fz xs =>
      cases b with
      | int i =>
        obtain rfl := vr_int rb
        obtain ⟨t, rfl⟩ := ry
        have p : Fin1 S ρ G.length H Q (okV G (atI xs i)) := p
        obtain ⟨z, G', ez⟩ := p.ex1
        obtain ⟨z', hz, e⟩ := okV_inv ez
        rw [hz] at p
        obtain ⟨ys, k1, k2⟩ := rl_seq R hw
        obtain ⟨y, hy, ry'⟩ := vrs_at k2 hz
        rw [← o.K] at k1
        obtain ⟨its, r, pl, hsz⟩ := I.list k1
        obtain ⟨j, h1, h2, h3, h4, h5⟩ := atI_get hy
        obtain ⟨w, ew, rw'⟩ := r.get h2
        have hl := r.length
        have hn := line63
        have fin : EP X pins σ Q w s := ⟨y, H, I, rw', p.old R ry'⟩
        by_cases h0 : 0 ≤ i
        · have hj : i.toNat = j := by
            rw [seqIndex_of h0 h5] at h1
            exact Option.some.inj h1
          exact wpAny_getItem_list pl.isList h0 (by omega) (by rw [hj]; simpa using ew) fin
        · have hj : (i + (its.toArray.size : Int)).toNat = j := by
            rw [seqIndex_neg (by omega) h4] at h1
            rw [List.size_toArray, ← hl]
            exact Option.some.inj h1
          exact wpAny_getItem_list_neg pl.isList (by omega) (by rw [List.size_toArray] <;> omega) (by omega) (by rw [hj]; simpa using ew) fin
      | _ => exact p.no.elim
    | dct lk kvs =>
      have p : Fin1 S ρ G.length H Q (if (keyS b).isSome = true then okV G (dGet kvs b) else none) := p
      split at p
      · rename_i hk
        obtain ⟨k', hk⟩ := Option.isSome_iff_exists.mp hk
        obtain rfl := keyS_V hk rb
        obtain ⟨ks, k1, k2⟩ := dget_of R hw
        obtain ⟨z, G', ez⟩ := p.ex1
        obtain ⟨z', hz, e⟩ := okV_inv ez
        rw [hz] at p
        rcases drk_get hk k2 with ⟨n1, n2⟩ | ⟨x', v', g1, g2, g3⟩
        · rw [n1] at hz; cases hz
        · rw [hz] at g1; cases g1
          exact d_getItem o.u1 I (.inl ⟨ks, k', k1, rfl, g2.symm⟩) ry fun w' s' I' rw' => ⟨v', H, I', rw', p.old R g3⟩
      · exact p.no.elim
    | _ => exact p.no.elim
  | _ => exact p.no.elim
def augG (L : Lo) (o k : Va) : Option (Va × Gh) → SR
  | some (v, G) => nxS L (stV k v o G)
  | none => .no
def augB (a : Lo → Gh → Res Va) (L : Lo) (o k : Va) : Option (Va × Gh) → SR
  | some (x, G) => sx (a L G) L fun y G1 => augG L o k (ipAdd x y G1)
  | none => .no
def kAugS (ob ix a : CE S) (N : List Str) (sc : Scope) : Stmt → Bool
  | .AugAssign (.Subscript x y _) .Add e _ => !isSl y && (ob.chk N sc x && (ix.chk N sc y && a.chk N sc e))
  | _ => false
def sAugS (ob ix a : CE S) : CS S := ⟨fun L G => sx (ob.ev L G) L fun o G1 => sx (ix.ev L G1) L fun k G2 => augB a.ev L o k (getF o k G2), kAugS ob ix a, fun {sc N lev E X st} o h => by
  unfold kAugS at h
  split at h
  · rename_i x y p1 e pos
    simp only [Bool.and_eq_true, Bool.not_eq_true'] at h
    obtain ⟨h0, h1, h2, h3⟩ := h
    refine ps_imp (ps_augS (ob.pe o h1) (ix.pe o h2) (get_ok o) (a.pe o h3) (ip_ok o) (rset_ok o) (fun ov iv new => by cases y <;> first | rfl | (cases h0; done))) fun D σ H q => ?_
    obtain ⟨ρ, L, G, R, l, p⟩ := q
    refine ⟨ρ, L, G, R, l, PostS.sx (k := fun o G1 => sx (ix.ev L G1) L fun k G2 => augB a.ev L o k (getF o k G2)) p l fun ov G1 ρ1 H1 x1 e1 R1 r1 p1 => ?_⟩
    have l1 := l.mono e1
    refine ⟨ρ1, L, G1, R1, l1, PostS.sx (k := fun k G2 => augB a.ev L ov k (getF ov k G2)) p1 l1 fun kv G2 ρ2 H2 x2 e2 R2 r2 p2 => ?_⟩
    have l2 := l1.mono e2
    refine ⟨ρ2, G2, ov, kv, R2, r1.mono e2, r2, ?_⟩
    cases hg : getF ov kv G2 with
    | none => rw [hg] at p2; exact p2.elim
    | some z =>
      obtain ⟨z, G3⟩ := z
      rw [hg] at p2
      refine ⟨z, G3, rfl, fun ρ3 H3 z' e3 R3 r3 => ?_⟩
      have p3 : PostS S D E ρ3 G3.length H3 (sx (a.ev L G3) L fun y G1 => augG L ov kv (ipAdd z y G1)) := PostS.after p2 e3
      refine ⟨ρ3, L, G3, R3, l2.mono e3, PostS.sx (k := fun y G1 => augG L ov kv (ipAdd z y G1)) p3 (l2.mono e3) fun y G4 ρ4 H4 y' e4 R4 r4 p4 => ?_⟩
      refine ⟨ρ4, G4, z, y, R4, r3.mono e4, r4, ?_⟩
      cases hp : ipAdd z y G4 with
      | none => rw [hp] at p4; exact p4.elim
      | some t =>
        obtain ⟨t, G5⟩ := t
        rw [hp] at p4
        refine ⟨t, G5, rfl, fun ρ5 H5 t' e5 R5 r5 => ?_⟩
        have e25 := (e3.trans e4).trans e5
        have p5 : PostS S D E ρ5 G5.length H5 (nxS L (stV kv t ov G5)) := PostS.after p4 e5
        cases hs : stV kv t ov G5 with
        | none => rw [hs] at p5; exact p5.elim
        | some G6 =>
          rw [hs] at p5
          exact ⟨ρ5, G5, ov, kv, t, G6, R5, (r1.mono e2).mono e25, r2.mono e25, r5, hs, fun H6 e6 R6 => p5 ρ5 H6 σ e6 R6 ((l2.mono e25).mono e6)⟩
  · cases h⟩
/-! ### for -/
def lpK (r : SR) (k : Lo → Gh → SR) : SR :=
  match r with
  | .nx L G => k L G
  | .ct L G => k L G
  | .bk L G => .nx L G
  | .rt v G => .rt v G
  | .ex c fs L G => .ex c fs L G
  | .no => .no
theorem PostS.lpK {r : SR} {k : Lo → Gh → SR} {N : L2.St → Hp → Prop} (p : PostS S D E ρ n H (lpK r k))
    (h : ∀ (L : Lo) (G' : Gh) (ρ' : Nat → Addr) (H' : Hp) (σ' : L2.St), Ext ρ n H ρ' G'.length H' → Rl S ρ' G' H' → LR S ρ' G'.length H' L σ' → PostS S D E ρ' G'.length H' (k L G') → N σ' H') : PostS S { D with nx := N, ct := N, bk := D.nx } E ρ n H r := by
  cases r with
  | nx L G => exact fun ρ2 H2 v2 e2 R2 r2 => h L G ρ2 H2 v2 e2 R2 r2 (PostS.after (r := k L G) p e2)
  | ct L G => exact fun ρ2 H2 v2 e2 R2 r2 => h L G ρ2 H2 v2 e2 R2 r2 (PostS.after (r := k L G) p e2)
  | bk L G => exact p
  | rt v G => exact p
  | ex c fs L G => exact p
  | no => exact p
def forL (src : Src) (g : Va → Lo → Gh → Res Lo) (b : Lo → Gh → SR) : Nat → Nat → Lo → Gh → SR
  | 0, _, _, _ => .no
  | m + 1, i, L, G => match nxt src i G with
    | none => .no
    | some none => .nx L G
    | some (some v) => sx (noex (g v L G)) L fun L2 G2 => lpK (b L2 G2) fun L3 G3 => forL src g b m (i + 1) L3 G3
def fuelF : Nat := 1000000
theorem for_cases (src : Src) (g : Va → Lo → Gh → Res Lo) (b : Lo → Gh → SR) (m i : Nat) (L : Lo) (G : Gh) : (nxt src i G = none ∧ forL src g b (m + 1) i L G = .no) ∨ (nxt src i G = some none ∧ forL src g b (m + 1) i L G = .nx L G) ∨ ∃ v, nxt src i G = some (some v) ∧ forL src g b (m + 1) i L G = sx (noex (g v L G)) L fun L2 G2 => lpK (b L2 G2) fun L3 G3 => forL src g b m (i + 1) L3 G3 := by
  have e : forL src g b (m + 1) i L G = (match nxt src i G with | none => .no | some none => .nx L G | some (some v) => sx (noex (g v L G)) L fun L2 G2 => lpK (b L2 G2) fun L3 G3 => forL src g b m (i + 1) L3 G3) := rfl
  rw [e]
  cases nxt src i G with
  | none => exact .inl ⟨rfl, rfl⟩
  | some o =>
    cases o with
    | none => exact .inr (.inl ⟨rfl, rfl⟩)
    | some v => exact .inr (.inr ⟨v, rfl, rfl⟩)
def kFor (it : CI S) (g : CG S) (b : CB S) (N : List Str) (sc : Scope) : Stmt → Bool
  | .For tg iter body [] _ => !S.hq && (!isSetE iter && (it.chk N sc tg iter && (g.chk N sc tg && b.chk N sc body)))
  | _ => false
def sFor (it : CI S) (g : CG S) (b : CB S) : CS S := ⟨fun L G => sx (it.ev L G) L fun src G1 => forL src g.ev b.ev fuelF 0 L G1, kFor it g b, fun {sc N lev E X st} o h => by
  unfold kFor at h
  split at h
  · simp only [Bool.and_eq_true, Bool.not_eq_true'] at h
    obtain ⟨hq, h1, h2, h3, h4⟩ := h
    refine ps_imp (ps_for o.own (o.calm hq) (it.pi o h2) (g.pg o h3) (b.ps o h4) (folded_plain h1)) fun D σ H q => ?_
    obtain ⟨ρ, L, G, R, l, p⟩ := q
    refine ⟨ρ, L, G, R, l, PostS.sx (k := fun src G1 => forL src g.ev b.ev fuelF 0 L G1) p l fun src G1 ρ1 H1 J e1 R1 r1 p1 => ?_⟩
    refine ⟨fun i m σ H => ∃ ρ' L' G', Ext ρ1 G1.length H1 ρ' G'.length H ∧ Rl S ρ' G' H ∧ LR S ρ' G'.length H L' σ ∧ PostS S D E ρ' G'.length H (forL src g.ev b.ev m i L' G'), ⟨fuelF, ρ1, L, G1, Ext.refl _ _ _, R1, l.mono e1, p1⟩, ?_⟩
    rintro i m σ3 H3 ⟨ρ3, L3, G3, e3, R3, l3, p3⟩
    cases m with
    | zero => exact p3.elim
    | succ m =>
      have ir := r1 ρ3 G3 H3 i e3 R3
      rcases for_cases src g.ev b.ev m i L3 G3 with ⟨k1, k2⟩ | ⟨k1, k2⟩ | ⟨v, k1, k2⟩
      · rw [k2] at p3; exact p3.elim
      · rw [k2] at p3
        exact .inl ⟨ir.2 k1, p3 ρ3 H3 σ3 (Ext.refl _ _ _) R3 l3⟩
      · rw [k2] at p3
        obtain ⟨go, yl⟩ := ir.1 v k1
        refine .inr ⟨go, fun σ' H' => ∃ ρ' L' G', Ext ρ1 G1.length H1 ρ' G'.length H' ∧ Rl S ρ' G' H' ∧ LR S ρ' G'.length H' L' σ' ∧ PostS S D E ρ' G'.length H' (forL src g.ev b.ev m (i + 1) L' G'), fun σ' H' z => ⟨m, Nat.lt_succ_self m, z⟩, fun x H4 y => ?_⟩
        obtain ⟨e4, R4, r4⟩ := yl x H4 y
        have p4 := PostS.after p3 e4
        refine ⟨ρ3, L3, G3, v, R4, l3.mono e4, r4, PostS.sxN (k := fun L2 G2 => lpK (b.ev L2 G2) fun L3 G3 => forL src g.ev b.ev m (i + 1) L3 G3) p4 fun L5 G5 ρ5 H5 σ5 e5 R5 r5 p5 => ?_⟩
        exact ⟨ρ5, L5, G5, R5, r5.1, PostS.lpK (k := fun L3 G3 => forL src g.ev b.ev m (i + 1) L3 G3) p5 fun L6 G6 ρ6 H6 σ6 e6 R6 l6 p6 => ⟨ρ6, L6, G6, ((e3.trans e4).trans e5).trans e6, R6, l6, p6⟩⟩
  · cases h⟩
/-! ### while -/
def whE (c : Bool) (x : SR) (L : Lo) (G : Gh) : SR := if c = true then x else .nx L G
def whL (t : Lo → Gh → Res Bool) (b : Lo → Gh → SR) : Nat → Lo → Gh → SR
  | 0, _, _ => .no
  | m + 1, L, G => sx (t L G) L fun c G1 => whE c (lpK (b L G1) fun L3 G3 => whL t b m L3 G3) L G1
def kWh (c : CE S) (b : CB S) (N : List Str) (sc : Scope) : Stmt → Bool
  | .While e body [] _ => c.chk N sc e && b.chk N sc body
  | _ => false
def sWh (c : CE S) (b : CB S) : CS S := ⟨fun L G => whL c.tv b.ev fuelF L G, kWh c b, fun {sc N lev E X st} o h => by
  unfold kWh at h
  split at h
  · simp only [Bool.and_eq_true] at h
    refine ps_imp (ps_while o.own (c.pt o h.1) (b.ps o h.2)) fun D σ H q => ?_
    obtain ⟨ρ, L, G, R, l, p⟩ := q
    refine ⟨fun m σ H => ∃ ρ' L' G', Rl S ρ' G' H ∧ LR S ρ' G'.length H L' σ ∧ PostS S D E ρ' G'.length H (whL c.tv b.ev m L' G'), ⟨fuelF, ρ, L, G, R, l, p⟩, ?_⟩
    rintro m σ3 H3 ⟨ρ3, L3, G3, R3, l3, p3⟩
    cases m with
    | zero => exact p3.elim
    | succ m =>
      have p3 : PostS S D E ρ3 G3.length H3 (sx (c.tv L3 G3) L3 fun t G1 => whE t (lpK (b.ev L3 G1) fun L3 G3 => whL c.tv b.ev m L3 G3) L3 G1) := p3
      refine ⟨ρ3, L3, G3, R3, l3, PostS.sx (ra := relB) (k := fun t G1 => whE t (lpK (b.ev L3 G1) fun L3 G3 => whL c.tv b.ev m L3 G3) L3 G1) p3 l3 fun t G4 ρ4 H4 t' e4 R4 r4 p4 => ?_⟩
      obtain rfl : t = t' := r4
      unfold whE at p4
      split
      · rename_i ht
        rw [if_pos ht] at p4
        exact ⟨fun σ' H' => ∃ ρ' L' G', Rl S ρ' G' H' ∧ LR S ρ' G'.length H' L' σ' ∧ PostS S D E ρ' G'.length H' (whL c.tv b.ev m L' G'), fun σ' H' z => ⟨m, Nat.lt_succ_self m, z⟩, ρ4, L3, G4, R4, l3.mono e4, PostS.lpK (k := fun L3 G3 => whL c.tv b.ev m L3 G3) p4 fun L6 G6 ρ6 H6 σ6 e6 R6 l6 p6 => ⟨ρ6, L6, G6, R6, l6, p6⟩⟩
      · rename_i ht
        rw [if_neg ht] at p4
        exact p4 ρ4 H4 σ3 (Ext.refl _ _ _) R4 (l3.mono e4)
  · cases h⟩
end
end VM
/-! VMr: defs -/
namespace VM
open PySem PySem.Spec PyProof.Rows L2
/-! ### the relations do not ask how the text's defs run -/
section
variable {S : Sx} {f : Nat → List Va → Gh → Res Va} {ρ : Nat → Addr} {n : Nat} {H : Hp} {G : Gh}
abbrev Sx.at (S : Sx) (f : Nat → List Va → Gh → Res Va) : Sx := { S with call := f }
mutual
theorem VR.cg {f g : Nat → List Va → Gh → Res Va} : ∀ {x : Va} {v : V}, VR (S.at f) ρ n H x v → VR (S.at g) ρ n H x v
  | .non, _, h => by simpa [VR] using h
  | .bl _, _, h => by simpa [VR] using h
  | .int _, _, h => by simpa [VR] using h
  | .str _, _, h => by simpa [VR] using h
  | .tup xs, _, h => by
    unfold VR at h ⊢
    obtain ⟨a, ys, h1, h2, h3⟩ := h
    exact ⟨a, ys, h1, h2, VRs.cg h3⟩
  | .ref m, _, h => by unfold VR at h ⊢; exact h
  | .cl _, _, h => by unfold VR at h ⊢; exact h
  | .ty _, _, h => by unfold VR at h ⊢; exact h
  | .xr _ _, _, h => by unfold VR at h ⊢; exact h
theorem VRs.cg {f g : Nat → List Va → Gh → Res Va} : ∀ {x : List Va} {v : List V}, VRs (S.at f) ρ n H x v → VRs (S.at g) ρ n H x v
  | [], _, h => by unfold VRs at h ⊢; exact h
  | x :: xs, _, h => by
    unfold VRs at h ⊢
    obtain ⟨y, r, h1, h2, h3⟩ := h
    exact ⟨y, r, h1, VR.cg h2, VRs.cg h3⟩
end
theorem vr_cg (S : Sx) (f g : Nat → List Va → Gh → Res Va) : VR (S.at f) = VR (S.at g) := by
  funext ρ n H x v
  exact propext ⟨VR.cg, VR.cg⟩
theorem vrs_cg (S : Sx) (f g : Nat → List Va → Gh → Res Va) : VRs (S.at f) = VRs (S.at g) := by
  funext ρ n H x v
  exact propext ⟨VRs.cg, VRs.cg⟩
theorem FR.cg {f g : Nat → List Va → Gh → Res Va} : ∀ {fs : List (Nat × Va)} {gs : List (Str × V)}, FR (S.at f) ρ n H fs gs → FR (S.at g) ρ n H fs gs
  | [], _, h => h
  | (a, x) :: fs, _, h => by
    obtain ⟨y, r, h1, h2, h3, h4⟩ := h
    exact ⟨y, r, h1, h2, VR.cg h3, FR.cg h4⟩
theorem fr_cg (S : Sx) (f g : Nat → List Va → Gh → Res Va) : FR (S.at f) = FR (S.at g) := by
  funext ρ n H x v
  exact propext ⟨FR.cg, FR.cg⟩
theorem DRk.cg {f g : Nat → List Va → Gh → Res Va} : ∀ {fs : List (Va × Va)} {gs : List (Key × V)}, DRk (S.at f) ρ n H fs gs → DRk (S.at g) ρ n H fs gs
  | [], _, h => h
  | (a, x) :: fs, _, h => by
    obtain ⟨k', y, r, h1, h2, h3, h4⟩ := h
    exact ⟨k', y, r, h1, h2, VR.cg h3, DRk.cg h4⟩
theorem DRt.cg {f g : Nat → List Va → Gh → Res Va} : ∀ {fs : List (Va × Va)} {gs : List (NestedKey × Addr × Value)}, DRt (S.at f) ρ n H fs gs → DRt (S.at g) ρ n H fs gs
  | [], _, h => h
  | (a, x) :: fs, _, h => by
    obtain ⟨k', b, u, y, r, h1, h2, h3, h4, h5, h6, h7⟩ := h
    exact ⟨k', b, u, y, r, h1, h2, h3, VR.cg h4, VR.cg h5, h6, DRt.cg h7⟩
theorem OR.cg {f g : Nat → List Va → Gh → Res Va} {o : VO} {a : Addr} (h : OR (S.at f) ρ n H o a) : OR (S.at g) ρ n H o a := by
  cases o with
  | lst fz xs =>
    cases fz with
    | false => obtain ⟨ys, h1, h2⟩ := h; exact ⟨ys, h1, h2.cg⟩
    | true => obtain ⟨ys, h1, h2⟩ := h; exact ⟨ys, h1, h2.cg⟩
  | dct lk kvs =>
    cases lk with
    | false => obtain ⟨ys, h1, h2⟩ := h; exact ⟨ys, h1, h2.cg⟩
    | true => obtain ⟨o, ys, h1, h2⟩ := h; exact ⟨o, ys, h1, h2.cg⟩
  | ins c fs => obtain ⟨dx, gs, h1, h2, h3⟩ := h; exact ⟨dx, gs, h1, h2.cg, h3⟩
  | deq xs => exact h
  | exc fs => obtain ⟨gs, h1, h2⟩ := h; exact ⟨gs, h1, h2.cg⟩
  | dtu lk kvs =>
    cases lk with
    | false => obtain ⟨ys, h1, h2⟩ := h; exact ⟨ys, h1, h2.cg⟩
    | true => obtain ⟨o, ys, h1, h2⟩ := h; exact ⟨o, ys, h1, h2.cg⟩
theorem Rl.cg {f g : Nat → List Va → Gh → Res Va} (R : Rl (S.at f) ρ G H) : Rl (S.at g) ρ G H := ⟨fun m o h => (R.ob m o h).cg, R.inj⟩
theorem rl_cg (S : Sx) (f g : Nat → List Va → Gh → Res Va) : Rl (S.at f) = Rl (S.at g) := by
  funext ρ G H
  exact propext ⟨Rl.cg, Rl.cg⟩
theorem Post.cg {f g : Nat → List Va → Gh → Res Va} {E : XK} {Q : VK} {r : Res Va} (p : Post (S.at f) (VR (S.at f)) E ρ n H Q r) : Post (S.at g) (VR (S.at g)) E ρ n H Q r := by
  cases r with
  | ok v G => exact fun ρ' H' v' e R r => p ρ' H' v' e R.cg r.cg
  | ex c fs G => exact fun ρ' H' d fs' e R r hd => p ρ' H' d fs' e R.cg r.cg hd
  | no => exact p
end
/-! ### a def of the machine -/
structure FDef (S : Sx) where
  N : List Str
  ar : Nat
  body : CB S
def startL (N : List Str) (as : List Va) : Lo := as.map some ++ List.replicate (N.length - as.length) none
def toR : SR → Res Va
  | .rt v G => .ok v G
  | .nx _ G => .ok .non G
  | .ex c fs _ G => .ex c fs G
  | _ => .no
def runF {S : Sx} (d : Option (FDef S)) (as : List Va) (G : Gh) : Res Va :=
  match d with
  | some d => if as.length = d.ar then toR (d.body.ev (startL d.N as) G) else .no
  | none => .no
abbrev Code := (S : Sx) → Nat → Option (FDef S)
def callF (S : Sx) (code : Code) : Nat → Nat → List Va → Gh → Res Va
  | 0 => fun _ _ _ => .no
  | d + 1 => fun k as G => runF (code (S.at (callF S code d)) k) as G
abbrev Sx.dp (S : Sx) (code : Code) (d : Nat) : Sx := S.at (callF S code d)
/-- what the text has of a def -/
structure DefAt (S : Sx) (code : Code) (k : Nat) (fd : FuncData) (ps : List Str) : Prop where
  ex : ∃ (x qual : Str) (st : Stmt) (N : List Str), L2.Fun S.K x qual st (S.fa k) fd ∧ Binds S.K fd ps [] ∧ FnScope N ps (defScope st) ∧
    ∀ d, ∃ b, code (S.dp code d) k = some ⟨N, ps.length, b⟩ ∧ b.chk N (defScope st) (defBody st) = true
def DefOk (S : Sx) (code : Code) (k : Nat) : Prop := ∃ fd ps, DefAt S code k fd ps
/-- what does not ask how defs run -/
structure Good0 (S : Sx) : Prop where
  hq : S.hq = false
  cls : ∀ c, c < S.nc → ClsOk S c
  nmi : ∀ i j, i < S.nn → j < S.nn → S.nm i = S.nm j → i = j
  cg1 : PySem.W.specialIn S.K (.builtin "object.__class__") "__get__" = some (some (.builtin "getset_descriptor.__get__"))
  cg2 : PySem.W.takesIn S.K (.builtin "object.__class__") = some true
  bl : ∀ x ∈ S.bl, S.mg x = none
  gl : ∀ p ∈ S.gl, ∃ v' u, S.mg p.1 = some u ∧ RelV v' u ∧ ∀ ρ n H, VR S ρ n H p.2 v'
  cg : ∀ p ∈ S.cg, p.2 < S.nc ∧ S.mg p.1 = some (.ref (S.ca p.2)) ∧ PySem.W.keepIn S.K (.ref (S.ca p.2)) = true
  fg : ∀ p ∈ S.fg, p.2 < S.nf ∧ S.mg p.1 = some (.ref (S.fa p.2))
  bg : ∀ p ∈ S.bg, S.mg p.1 = some (.builtin p.2)
  tg : ∀ p ∈ S.tg, S.mg p.1 = some (.type p.2)
  xg : ∀ p ∈ S.xc, S.mg p.1 = some (.ref (S.ca p.2)) ∧ XcOk S p.2
  xe : ∀ p ∈ S.xm, PySem.W.exmOne S.K (.ref (S.ca p.1)) (.ref (S.ca p.2)) = some (S.xsub p.1 p.2)
theorem ClsOk.at {S : Sx} {c : Nat} (h : ClsOk S c) (f : Nat → List Va → Gh → Res Va) : ClsOk (S.at f) c :=
  ⟨h.cl, h.nf, h.mt, fun f' v e => by
    obtain ⟨v', u, h1, h2⟩ := h.co f' v e
    exact ⟨v', u, h1, fun ρ n H => (VR.cg (S := S) (f := S.call) (h2 ρ n H))⟩, h.mak, h.ic, h.im, h.it, h.ib, h.is, h.bo, h.eo, h.es⟩
section
variable {S : Sx} {code : Code}
theorem PostS.toR {S : Sx} {E0 : XK} {ρ : Nat → Addr} {n : Nat} {H : Hp} {Q : VK} {r : SR} (p : Post S (VR S) E0 ρ n H Q (toR r)) : PostS S { nx := fun _ H' => Q .non H', rt := Q } (fun _ => E0) ρ n H r := by
  cases r with
  | nx L G => exact fun ρ' H' σ' e R l => p ρ' H' _ e R vr_non'
  | rt v G => exact p
  | ex c fs L G => exact fun ρ' H' σ' d fs' e R l => p ρ' H' d fs' e R
  | bk L G => exact (show False from p).elim
  | ct L G => exact (show False from p).elim
  | no => exact p
theorem lr_start {S : Sx} {ρ : Nat → Addr} {n : Nat} {H : Hp} {N : List Str} {as : List Va} {vs : List V} (r : VRs S ρ n H as vs) : LR S ρ n H (startL N as) (L2.start N vs) := fun i x h => by
  unfold startL at h
  unfold L2.start
  have hl := r.length
  by_cases hi : i < as.length
  · rw [List.getElem?_append_left (by simpa using hi), List.getElem?_map] at h
    obtain ⟨a, ha, e⟩ := Option.map_eq_some_iff.mp h
    cases e
    obtain ⟨y, h1, h2⟩ := r.get ha
    exact ⟨y, by rw [List.getElem?_append_left (by simp; omega), List.getElem?_map, h1]; rfl, h2⟩
  · exfalso
    rw [List.getElem?_append_right (by simpa using hi)] at h
    rw [List.getElem?_replicate] at h
    split at h <;> cases h
/-- the context of a def's body -/
theorem okx_body {S : Sx} {lev : Nat} (hq : S.hq = false) (g : Good S lev) {N ps : List Str} {qual : Str} {scope : Scope} (sc : FnScope N ps scope) {f : Addr} {cdv : Value} {A : Around} {outer : List Env} {s : Shared} {H : Hp} {E : XK} (hr : Room (lev + 2) (A.deeper (envOfC qual scope s.heap.objs.size f cdv))) :
    Okx S scope N lev (fun _ => E) (cxOf (L2.CX S.P S.w) S.P S.w S.K S.mg S.base N qual scope f cdv A outer s H E) := by
  have tk : Takes (cxOf (L2.CX S.P S.w) S.P S.w S.K S.mg S.base N qual scope f cdv A outer s H E) (fun c d _ H' => E c d H') := takes_of rfl rfl rfl rfl
  exact ⟨rfl, rfl, rfl, rfl, rfl, sc.nd, fun _ => rfl, rfl, fun _ => hr, by have h : (A.deeper (envOfC qual scope s.heap.objs.size f cdv)).units + 16 * (lev + 2) + 200 < cLine := hr.un; show (A.deeper (envOfC qual scope s.heap.objs.size f cdv)).units + 65 < cLine; omega, fun h => absurd (hq.symm.trans h) (by decide), g, fun x k h _ => h, fun x h => .inr h, fun _ _ => .inl rfl, fun σ => passAt tk σ, passes_of rfl, tk⟩
theorem spV_len {S : Sx} {k ar : Nat} {vs : List V} {H : Hp} {Q : VK} {E : XK} (h : spV S k ar vs H Q E) : vs.length = ar := by
  obtain ⟨ρ, G, as, R, va, hl, p⟩ := h
  rw [va.length, hl]
/-- a def, one step deeper -/
theorem fn_at {lev d k : Nat} {fd : FuncData} {ps : List Str} (hq : S.hq = false) (D : DefAt S code k fd ps) (g : Good (S.dp code d) lev) : FnOk S.P S.w S.K S.mg S.base (L2.CX S.P S.w) (lev + 3) (S.fa k) fd ps (spV (S.dp code (d + 1)) k ps.length) ∧ ∀ as G, as.length ≠ ps.length → (S.dp code (d + 1)).call k as G = .no := by
  obtain ⟨x, qual, st, N, F, b, sc, h⟩ := D.ex
  obtain ⟨bd, hb, hc⟩ := h d
  have run : ∀ as G, (S.dp code (d + 1)).call k as G = if as.length = ps.length then toR (bd.ev (startL N as) G) else .no := fun as G => by
    show runF (code (S.dp code d) k) as G = _
    rw [hb]; rfl
  refine ⟨?_, fun as G hn => by rw [run, if_neg hn]⟩
  show FnOk S.P S.w S.K S.mg S.base (L2.CX S.P S.w) (lev + 2 + 1) (S.fa k) fd ps (spV (S.dp code (d + 1)) k ps.length)
  refine F.okX sc (fun vs H Q E q => spV_len q) fun cdv A outer s H vs Q E hr q => ?_
  have o : Okx (S.dp code d) (defScope st) N lev (fun _ => E) (cxOf (L2.CX S.P S.w) S.P S.w S.K S.mg S.base N qual (defScope st) (S.fa k) cdv A outer s H E) := okx_body (S := S.dp code d) hq g sc hr
  refine ⟨_, bd.ps o hc, ?_⟩
  obtain ⟨ρ, G, as, R, va, hl, p⟩ := q
  rw [run, if_pos hl] at p
  have R' : Rl (S.dp code d) ρ G H := Rl.cg R
  have va' : VRs (S.dp code d) ρ G.length H as vs := VRs.cg va
  exact ⟨ρ, startL N as, G, R', lr_start va', PostS.toR (Post.cg p)⟩
theorem DefAt.parts {k : Nat} {fd : FuncData} {ps : List Str} (D : DefAt S code k fd ps) : PySem.W.keepIn S.K (.ref (S.fa k)) = true ∧ Binds S.K fd ps [] := by
  obtain ⟨x, qual, st, N, F, b, sc, h⟩ := D.ex
  exact ⟨F.kp, b⟩
theorem fn_step {lev d k : Nat} (hq : S.hq = false) (D : DefOk S code k) (g : Good (S.dp code d) lev) : FnG (S.dp code (d + 1)) (lev + 3) k := by
  obtain ⟨fd, ps, D⟩ := D
  obtain ⟨h1, h2⟩ := fn_at hq D g
  exact ⟨D.parts.1, fd, ps, h1, D.parts.2, h2⟩
theorem fn_zero {k : Nat} (D : DefOk S code k) : FnG (S.dp code 0) 0 k := by
  obtain ⟨fd, ps, D⟩ := D
  refine ⟨D.parts.1, fd, ps, ⟨fun vs H Q E q => spV_len q, fun A outer s H args us vs Q E _ _ _ _ q => ?_⟩, D.parts.2, fun as G _ => rfl⟩
  obtain ⟨ρ, G, as, R, va, hl, p⟩ := q
  exact p.elim
theorem good_at {lev : Nat} (g : Good0 S) {f : Nat → List Va → Gh → Res Va} (fn : ∀ k, k < S.nf → FnG (S.at f) lev k) : Good (S.at f) lev :=
  ⟨fun c h => (g.cls c h).at f, fn, g.nmi, g.cg1, g.cg2, g.bl, fun p hp => by
    obtain ⟨v', u, h1, h2, h3⟩ := g.gl p hp
    exact ⟨v', u, h1, h2, fun ρ n H => VR.cg (S := S) (f := S.call) (h3 ρ n H)⟩, g.cg, g.fg, g.bg, g.tg, fun p hp => ⟨(g.xg p hp).1, (g.xg p hp).2.T, (g.xg p hp).2.F, (g.xg p hp).2.nf, (g.xg p hp).2.ini⟩, g.xe⟩
theorem good_dp (g : Good0 S) (D : ∀ k, k < S.nf → DefOk S code k) : ∀ d, Good (S.dp code d) (3 * d)
  | 0 => good_at g fun k hk => fn_zero (D k hk)
  | d + 1 => good_at g fun k hk => fn_step g.hq (D k hk) (good_dp g D d)
/-! ### the law's end -/
/-- the law's promise: on any script it answers True -/
def spL (K : PySem.W.Frag) : Sp := fun vs H Q E => ∃ (a : Addr) (ns : List Int), vs = [.ref a] ∧ SqL K H a (ns.map V.int) ∧ Only H ∧ ns.length ≤ 63 ∧ ∀ H', Q (.bl true) H'
theorem vrs_ints {S : Sx} {ρ : Nat → Addr} {n : Nat} {H : Hp} : ∀ ns : List Int, VRs S ρ n H (ns.map Va.int) (ns.map V.int)
  | [] => VRs.nil
  | i :: r => VRs.cons vr_int' (vrs_ints r)
theorem law_imp {S : Sx} {k : Nat} (hv : ∀ ns : List Int, ns.length ≤ 63 → ∃ G', S.call k [.ref 0] [.lst true (ns.map Va.int)] = .ok (.bl true) G') {vs : List V} {H : Hp} {Q : VK} {E : XK} (h : spL S.K vs H Q E) : spV S k 1 vs H Q E := by
  obtain ⟨a, ns, rfl, hq, ho, hl, q⟩ := h
  obtain ⟨G', e⟩ := hv ns hl
  refine ⟨fun _ => a, [.lst true (ns.map Va.int)], [.ref 0], ⟨fun m o hm => ?_, fun i j oi oj hi hj ti tj _ => ?_⟩, VRs.cons (by unfold VR; exact ⟨Nat.zero_lt_one, rfl⟩) .nil, rfl, ?_⟩
  · cases m with
    | succ m => cases m <;> cases hm
    | zero =>
      cases hm
      refine ⟨ns.map V.int, ?_, vrs_ints ns⟩
      rcases hq with (hq | hq) | hq
      · rcases ho a with z | ⟨o, xs, z⟩
        · rw [z] at hq; cases hq
        · rw [z] at hq; cases hq
      · exact .inl hq
      · exact .inr hq
  · cases i with
    | succ i => cases i <;> cases hi
    | zero => cases hi; cases ti
  · rw [e]
    intro ρ' H' v' _ _ r
    obtain rfl := vr_bl r
    exact q H'
theorem law_end {k : Nat} {fd : FuncData} {x : Str} (D : DefAt S code k fd [x]) (g : Good0 S) (Ds : ∀ k, k < S.nf → DefOk S code k) (d : Nat) (hv : ∀ ns : List Int, ns.length ≤ 63 → ∃ G', callF S code (d + 1) k [.ref 0] [.lst true (ns.map Va.int)] = .ok (.bl true) G') :
    FnOk S.P S.w S.K S.mg S.base (L2.CX S.P S.w) (3 * d + 3) (S.fa k) fd [x] (spL S.K) :=
  (fn_at g.hq D (good_dp g Ds d)).1.imp fun vs H Q E h => law_imp (S := S.dp code (d + 1)) hv h
end
end VM
/-! VMs: methods of built-in types -/
namespace VM
open PySem PySem.Spec PyProof.Rows L2
abbrev OpM := Va → List Va → Gh → Option (Va × Gh)
def rOM (S : Sx) (op : OpM) : V → List V → Hp → VK → Prop := fun x xs H Q => ∃ ρ G a as, Rl S ρ G H ∧ VR S ρ G.length H a x ∧ VRs S ρ G.length H as xs ∧ Fin1 S ρ G.length H Q (op a as G)
structure Mop (S : Sx) (T : String) (name : Str) (id : String) where
  op : OpM
  ty : Va → Gh → Bool
  pa : PlainAttrs T
  slot : Slot T name id
  hty : typeOf (.builtin id) = pure (.type "method_descriptor")
  tyv : ∀ {ρ G H v x}, ty v G = true → Rl S ρ G H → VR S ρ G.length H v x → tyV S.K T x H
  ok : ∀ {sc N lev E X}, Okx S sc N lev E X → MtR X id (rOM S op)
section
variable {S : Sx} {sc : Scope} {N : List Str} {lev : Nat} {E : EW} {X : Cx} {ρ : Nat → Addr} {G : Gh} {H : Hp} {n : Nat} {T : String} {name : Str} {id : String}
def bmR (m : Mop S T name id) (args : Lo → Gh → Res (List Va)) (L : Lo) (v : Va) (G : Gh) : Res Va := if m.ty v G = true then (args L G).bind fun vs G2 => lift (m.op v vs G2) else .no
def eBm (m : Mop S T name id) (a : CE S) (args : CA S) : Lo → Gh → Res Va := fun L G => (a.ev L G).bind fun v G1 => bmR m args.ev L v G1
def kBm (name : Str) (a : CE S) (args : CA S) (N : List Str) (sc : Scope) : Expr → Bool
  | .Call (.Attribute x y ap) (e :: es) [] pos => decide (name = y) && (decide ((e :: es).length < 30) && ((ap.endLine == pos.line) && (!isSuper x && (args.pl && (args.chk N sc (e :: es) && a.chk N sc x)))))
  | _ => false
theorem cBm_pe (m : Mop S T name id) (a : CE S) (args : CA S) {e : Expr} (o : Okx S sc N lev E X) (h : kBm name a args N sc e = true) : PE X e (WE S E (eBm m a args)) := by
  unfold kBm at h
  split at h
  · rename_i x y ap e es pos
    simp only [Bool.and_eq_true, decide_eq_true_eq, Bool.not_eq_true'] at h
    obtain ⟨rfl, hl, hp, h0, h4, h5, h1⟩ := h
    have hns := args.ns h4 h5
    obtain ⟨s1, s2⟩ := noStars_cons hns
    refine pe_imp (pe_bm m.pa m.slot m.hty (m.ok o) (a.pe o h1) (args.pa o h5) (base_plain h0) ?_ hp (starEach_cons s1) (backTo_plain s2)) fun σ H Q q => ?_
    · rw [any_back hns]
      simp [keywordEach, backToKw] at hl ⊢
      exact hl
    obtain ⟨ρ, L, G, R, l, p⟩ := q
    refine ⟨ρ, L, G, R, l, Post.bind p fun v G1 ρ1 H1 x1 e1 R1 r1 p1 => ?_⟩
    unfold bmR at p1
    split at p1
    · rename_i ht
      refine ⟨by rw [o.K]; exact m.tyv ht R1 r1, ρ1, L, G1, R1, l.mono e1, Post.bind p1 fun vs G2 ρ2 H2 xs e2 R2 r2 p2 => ?_⟩
      exact ⟨ρ2, G2, v, vs, R2, r1.mono e2, r2, fin_of_lift p2⟩
    · exact p1.elim
  · cases h
def cBm (m : Mop S T name id) (a : CE S) (args : CA S) : CE S := .plain (eBm m a args) (kBm name a args) (cBm_pe m a args) fun N sc e h => by cases e <;> first | exact ⟨rfl, rfl⟩ | cases h
def bm0R (m : Mop S T name id) (v : Va) (G : Gh) : Res Va := if m.ty v G = true then lift (m.op v [] G) else .no
def eBm0 (m : Mop S T name id) (a : CE S) : Lo → Gh → Res Va := fun L G => (a.ev L G).bind (bm0R m)
def kBm0 (name : Str) (a : CE S) (N : List Str) (sc : Scope) : Expr → Bool
  | .Call (.Attribute x y ap) [] [] pos => decide (name = y) && ((ap.endLine == pos.line) && (!isSuper x && a.chk N sc x))
  | _ => false
theorem cBm0_pe (m : Mop S T name id) (a : CE S) {e : Expr} (o : Okx S sc N lev E X) (h : kBm0 name a N sc e = true) : PE X e (WE S E (eBm0 m a)) := by
  unfold kBm0 at h
  split at h
  · rename_i x y ap pos
    simp only [Bool.and_eq_true, decide_eq_true_eq, Bool.not_eq_true'] at h
    obtain ⟨rfl, hp, h0, h1⟩ := h
    refine pe_imp (pe_bm0 m.pa m.slot m.hty (m.ok o) (a.pe o h1) (base_plain h0) hp) fun σ H Q q => ?_
    obtain ⟨ρ, L, G, R, l, p⟩ := q
    refine ⟨ρ, L, G, R, l, Post.bind p fun v G1 ρ1 H1 x1 e1 R1 r1 p1 => ?_⟩
    unfold bm0R at p1
    split at p1
    · rename_i ht
      exact ⟨by rw [o.K]; exact m.tyv ht R1 r1, ρ1, G1, v, [], R1, r1, .nil, fin_of_lift p1⟩
    · exact p1.elim
  · cases h
def cBm0 (m : Mop S T name id) (a : CE S) : CE S := .plain (eBm0 m a) (kBm0 name a) (cBm0_pe m a) fun N sc e h => by cases e <;> first | exact ⟨rfl, rfl⟩ | cases h
/-! ### lists -/
def isL : Option VO → Bool
  | some (.lst _ _) => true
  | _ => false
def tyL : Va → Gh → Bool
  | .ref n, G => isL G[n]?
  | _, _ => false
theorem tyL_ok {v : Va} {x : V} (h : tyL v G = true) (R : Rl S ρ G H) (r : VR S ρ G.length H v x) : tyV S.K "list" x H := by
  cases v with
  | ref m =>
    obtain ⟨hm, rfl⟩ := vr_ref r
    obtain ⟨w, hw⟩ := get_of hm
    have h : isL G[m]? = true := h
    rw [hw] at h
    cases w with
    | lst fz xs =>
      obtain ⟨ys, h1, h2⟩ := rl_seq R hw
      exact .inl ⟨rfl, ys, h1⟩
    | _ => cases h
  | _ => cases h
def appF (m : Nat) (y : Va) (G : Gh) : Option (List Va) → Option (Va × Gh)
  | some xs => if xs.length < sizeLine then some (.non, G.set m (.lst false (xs ++ [y]))) else none
  | none => none
def opApp : OpM
  | .ref m, [y], G => appF m y G (mlsO G[m]?)
  | _, _, _ => none
theorem wr_lst {m : Nat} {xs xs' : List Va} {ys' : List V} (R : Rl S ρ G H) (h : mlsO G[m]? = some xs) (r : VRs S ρ G.length H xs' ys') : Rl S ρ (G.set m (.lst false xs')) (upd H (ρ m) (.lst ys')) ∧ Ext ρ G.length H ρ (G.set m (VO.lst false xs')).length (upd H (ρ m) (.lst ys')) := by
  obtain ⟨ys, k1, k2⟩ := mls_ok R h
  exact R.write (o' := .lst false xs') (u := .lst ys') (mls_eq h) rfl rfl (fun xs z => by rw [k1] at z; cases z) (fun b v z => by rw [k1] at z; cases z) (fun gs z => by rw [k1] at z; cases z) (fun ρ' hρ' ex => by
    subst hρ'
    exact ⟨_, upd_same, r.mono ex⟩)
theorem app_mt (o : Okx S sc N lev E X) : MtR X "list.append" (rOM S opApp) := by
  intro pins s σ H x xs v us Q I rx rs h
  obtain ⟨ρ, G, a, as, R, ra, rv, p⟩ := h
  cases a with
  | ref m =>
    obtain ⟨hm, rfl⟩ := vr_ref ra
    cases as with
    | nil => exact p.no.elim
    | cons y as =>
      cases as with
      | cons _ _ => exact p.no.elim
      | nil =>
        obtain ⟨y', rfl, ry⟩ := rv.one
        have p : Fin1 S ρ G.length H Q (appF m y G (mlsO G[m]?)) := p
        cases e : mlsO G[m]? with
        | none => rw [e] at p; exact p.no.elim
        | some zs =>
          rw [e] at p
          have p : Fin1 S ρ G.length H Q (if zs.length < sizeLine then some (.non, G.set m (.lst false (zs ++ [y]))) else none) := p
          split at p
          · rename_i hz
            obtain ⟨ys, k1, k2⟩ := mls_ok R e
            refine mt_append pins s σ H _ _ v us Q I rx rs ⟨ρ m, ys, y', rfl, rfl, k1, by rw [k2.length]; exact hz, ?_⟩
            have w := wr_lst R e (k2.append (VRs.cons ry .nil))
            exact fin_step p w.2 w.1 vr_non'
          · exact p.no.elim
  | _ => exact p.no.elim
def mApp : Mop S "list" "append" "list.append" := ⟨opApp, tyL, PySem.F.plainAttrs_list, PySem.F.slot_list_append, PySem.F.type_list_append, fun h R r => tyL_ok h R r, app_mt⟩
end
end VM
/-! VMt: what the top has written, as the machine's tables -/
namespace VM
open PySem PySem.Spec PyProof.Rows L2
theorem ref_beq (a b : Addr) : (Value.ref a == Value.ref b) = (a == b) := by
  rw [Bool.eq_iff_iff, beq_iff_eq, beq_iff_eq]
  exact ⟨fun h => Value.ref.inj h, fun h => by rw [h]⟩
theorem cls_some {K : PySem.W.Frag} {C : Addr} {v : Value} {b : Bool} (h : PySem.W.mroIn K C v = some b) : (PySem.W.clsIn K C).isSome = true := by
  unfold PySem.W.mroIn at h
  cases e : PySem.W.clsIn K C with
  | none => rw [e] at h; cases h
  | some cd => rfl
theorem ty_some {K : PySem.W.Frag} {C : Addr} (h : PySem.W.typeIn K (.ref C) = some (.type "type")) : (PySem.W.typeIn K (.ref C) == some (.type "type")) = true := by rw [h]; decide +kernel
theorem kit_tag {K : PySem.W.Frag} {C : Addr} (im : PySem.W.mroIn K C (.type "object") = some true) (ty : PySem.W.typeIn K (.ref C) = some (.type "type")) : ∀ m ∈ tagL, PySem.W.kitOne K (.type m) (.ref C) = some false := by
  have key : ∀ m, (PySem.fastBuiltinMro m).map (·.contains (Value.ref C)) = some false → PySem.W.kitOne K (.type m) (.ref C) = some false := fun m h => by
    unfold PySem.W.kitOne
    rw [if_neg (fun z => by have z := beq_iff_eq.mp z; cases z)]
    show (if ((PySem.W.clsIn K C).isSome && PySem.W.typeIn K (.ref C) == some (.type "type")) = true then PySem.W.subIn K (.type m) (.ref C) else none) = _
    rw [if_pos (by rw [cls_some im, ty_some ty]; rfl)]
    exact h
  refine List.forall_mem_cons.mpr ⟨key _ (by kernel_rfl), List.forall_mem_cons.mpr ⟨key _ (by kernel_rfl), List.forall_mem_cons.mpr ⟨key _ (by kernel_rfl), List.forall_mem_cons.mpr ⟨key _ (by kernel_rfl), List.forall_mem_cons.mpr ⟨key _ (by kernel_rfl), List.forall_mem_cons.mpr ⟨key _ (by kernel_rfl), List.forall_mem_cons.mpr ⟨key _ (by kernel_rfl), fun _ h => by cases h⟩⟩⟩⟩⟩⟩⟩
theorem kit_cls {K : PySem.W.Frag} {C C' : Addr} {v : Value} {b b' : Bool} (im : PySem.W.mroIn K C v = some b') (ty : PySem.W.typeIn K (.ref C) = some (.type "type")) (mr : PySem.W.mroIn K C' (.ref C) = some b) (ne : (C' == C) = false) : PySem.W.kitOne K (.ref C') (.ref C) = some b := by
  unfold PySem.W.kitOne
  rw [if_neg (by rw [ref_beq, ne]; decide)]
  show (if ((PySem.W.clsIn K C).isSome && PySem.W.typeIn K (.ref C) == some (.type "type")) = true then PySem.W.subIn K (.ref C') (.ref C) else none) = _
  rw [if_pos (by rw [cls_some im, ty_some ty]; rfl)]
  exact mr
theorem kit_self {K : PySem.W.Frag} {C : Addr} : PySem.W.kitOne K (.ref C) (.ref C) = some true := by
  unfold PySem.W.kitOne
  rw [if_pos (by rw [ref_beq]; exact beq_self_eq_true _)]
theorem nf_self {K : PySem.W.Frag} {C : Addr} : PySem.W.notFirst K C (.ref C) = true := by
  unfold PySem.W.notFirst
  rw [ref_beq, beq_self_eq_true]; rfl
theorem nf_cls {K : PySem.W.Frag} {C C' : Addr} (mr : PySem.W.mroIn K C' (.ref C) = some false) : PySem.W.notFirst K C (.ref C') = true := by
  unfold PySem.W.notFirst
  rw [show PySem.W.subIn K (.ref C') (.ref C) = some false from mr]
  simp
theorem look_all {Q : Nat → Nat → Prop} : ∀ {l : List (Nat × Nat)}, (∀ p ∈ l, Q p.1 p.2) → ∀ m k, l.lookup m = some k → Q m k
  | [], _, m, k, h => by cases h
  | (a, b) :: l, hl, m, k, h => by
    obtain ⟨h1, h2⟩ := List.forall_mem_cons.mp hl
    rw [List.lookup_cons] at h
    cases e : m == a with
    | true =>
      rw [e] at h
      cases h
      have : m = a := by simpa using e
      subst this
      exact h1
    | false =>
      rw [e] at h
      exact look_all h2 m k h
/-- a def's facts -/
theorem def_mk {S : Sx} {code : Code} {k : Nat} {x qual : Str} {st : Stmt} {N ps : List Str} {oc : Value} {od an : Option Addr} {osl : Array (Option Value)} {kV doc pm cdv ct : Value}
    (l : S.K.lookup (S.fa k) = some ⟨oc, od, .func (PySem.W.fnOf x qual (defArgs st) (defBody st) (defScope st) .none kV doc pm an cdv ct), osl⟩)
    (c : PySem.W.codeIn S.K cdv qual = true) (kp : PySem.W.keepIn S.K (.ref (S.fa k)) = true)
    (hb : ∀ (kV doc pm : Value) (an : Option Addr) (cdv ct : Value) (us : List Value), us.length = ps.length → bindArgs (PySem.W.fnOf x qual (defArgs st) (defBody st) (defScope st) .none kV doc pm an cdv ct) ⟨us, []⟩ = pure (ps.zip us))
    (sc : FnScope N ps (defScope st)) (h : ∀ d, ∃ b, code (S.dp code d) k = some ⟨N, ps.length, b⟩ ∧ b.chk N (defScope st) (defBody st) = true) :
    DefAt S code k (PySem.W.fnOf x qual (defArgs st) (defBody st) (defScope st) .none kV doc pm an cdv ct) ps :=
  have F := fun_mk l c kp
  ⟨⟨x, qual, st, N, F, F.binds hb, sc, h⟩⟩
end VM
/-! VMu: the machine's steps as equations for simp -/
namespace VM
open PySem PySem.Spec PyProof.Rows L2
section
variable {S : Sx} {L : Lo} {G : Gh} {a b c : CE S} {r : CA S} {i : Nat}
@[simp] theorem run_some (d : FDef S) (as : List Va) : runF (some d) as G = if as.length = d.ar then toR (d.body.ev (startL d.N as) G) else .no := rfl
@[simp] theorem toR_rt (v : Va) : toR (.rt v G) = .ok v G := rfl
@[simp] theorem toR_nx : toR (.nx L G) = .ok .non G := rfl
@[simp] theorem bCons_ev {x : CS S} {y : CB S} : (bCons x y).ev L G = sq (x.ev L G) y.ev := rfl
@[simp] theorem bNil_ev : (bNil : CB S).ev L G = .nx L G := rfl
@[simp] theorem sq_nx {k : Lo → Gh → SR} : sq (.nx L G) k = k L G := rfl
@[simp] theorem sq_rt {k : Lo → Gh → SR} {v : Va} : sq (.rt v G) k = .rt v G := rfl
@[simp] theorem sq_bk {k : Lo → Gh → SR} : sq (.bk L G) k = .bk L G := rfl
@[simp] theorem sq_ct {k : Lo → Gh → SR} : sq (.ct L G) k = .ct L G := rfl
@[simp] theorem sx_ok {α : Type} {x : α} {k : α → Gh → SR} : sx (.ok x G) L k = k x G := rfl
@[simp] theorem sNever_ev : (sNever : CS S).ev L G = .no := rfl
@[simp] theorem sPass_ev : (sPass : CS S).ev L G = .nx L G := rfl
@[simp] theorem sBreak_ev : (sBreak : CS S).ev L G = .bk L G := rfl
@[simp] theorem sCont_ev : (sCont : CS S).ev L G = .ct L G := rfl
@[simp] theorem sRet_ev : (sRet a).ev L G = sx (a.ev L G) L fun v G1 => .rt v G1 := rfl
@[simp] theorem sRetN_ev : (sRetN : CS S).ev L G = .rt .non G := rfl
@[simp] theorem sExpr_ev : (sExpr a).ev L G = sx (a.ev L G) L fun _ G1 => .nx L G1 := rfl
@[simp] theorem sIf_ev {x y : CB S} : (sIf a x y).ev L G = sx (a.tv L G) L fun t G1 => ifE t (x.ev L G1) (y.ev L G1) := rfl
@[simp] theorem ifE_true {x y : SR} : ifE true x y = x := rfl
@[simp] theorem ifE_false {x y : SR} : ifE false x y = y := rfl
@[simp] theorem sAsg_ev {g : CG S} : (sAsg g a).ev L G = sx (a.ev L G) L fun v G1 => sx (noex (g.ev v L G1)) L fun L2 G2 => .nx L2 G2 := rfl
@[simp] theorem noex_ok {α : Type} {x : α} : noex (.ok x G) = .ok x G := rfl
@[simp] theorem gNm_ev {v : Va} : (gNm i : CG S).ev v L G = .ok (L.set i (some v)) G := rfl
@[simp] theorem gTp_ev {n : Nat} {s : CGs S} {xs : List Va} : (gTp n s).ev (.tup xs) L G = if xs.length = n then s.ev xs L G else .no := rfl
@[simp] theorem gsCons_ev {g : CG S} {s : CGs S} {v : Va} {vs : List Va} : (gsCons g s).ev (v :: vs) L G = (g.ev v L G).bind fun L1 G1 => s.ev vs L1 G1 := rfl
@[simp] theorem gsNil_ev : (gsNil : CGs S).ev [] L G = .ok L G := rfl
@[simp] theorem sPar_ev {j : Nat} : (sPar i j r).ev L G = sx (r.ev L G) L fun vs G1 => eP2 i j L G1 (par2 vs) := rfl
@[simp] theorem par2_eq {v w : Va} : par2 [v, w] = some (v, w) := rfl
@[simp] theorem eP2_eq {v w : Va} {j : Nat} : eP2 i j L G (some (v, w)) = .nx ((L.set i (some v)).set j (some w)) G := rfl
@[simp] theorem sPar3_ev {j k : Nat} : (sPar3 i j k r).ev L G = sx (r.ev L G) L fun vs G1 => eP3 i j k L G1 (par3 vs) := rfl
@[simp] theorem par3_eq {v w z : Va} : par3 [v, w, z] = some (v, w, z) := rfl
@[simp] theorem eP3_eq {v w z : Va} {j k : Nat} : eP3 i j k L G (some (v, w, z)) = .nx (((L.set i (some v)).set j (some w)).set k (some z)) G := rfl
@[simp] theorem sFldS_ev {f : Nat} : (sFldS b f a).ev L G = sx (a.ev L G) L fun v G1 => sx (b.ev L G1) L fun w G2 => nxS L (setV S f v w G2) := rfl
@[simp] theorem setV_ref {f n : Nat} {v : Va} : setV S f v (.ref n) G = setO S n f v G G[n]? := rfl
@[simp] theorem setO_ins {m f n : Nat} {v : Va} {fs : List (Nat × Va)} : setO S m f v G (some (.ins n fs)) = if f ∈ (S.cd n).flds ∧ fs.length < 900 then some (G.set m (.ins n (putN f v fs))) else none := rfl
@[simp] theorem nxS_some : nxS L (some G) = .nx L G := rfl
-- expressions
@[simp] theorem cVar_ev : (cVar i : CE S).ev L G = getL L[i]? G := rfl
@[simp] theorem getL_ok {v : Va} : getL (some (some v)) G = .ok v G := rfl
@[simp] theorem cI_ev {n : Int} : (cI n : CE S).ev L G = .ok (.int n) G := rfl
@[simp] theorem cB_ev {n : Bool} : (cB n : CE S).ev L G = .ok (.bl n) G := rfl
@[simp] theorem cS_ev {n : Tx} : (cS n : CE S).ev L G = .ok (.str n) G := rfl
@[simp] theorem cN_ev : (cN : CE S).ev L G = .ok .non G := rfl
@[simp] theorem cTy_ev {n : String} : (cTy n : CE S).ev L G = .ok (.ty n) G := rfl
@[simp] theorem cCl_ev {n : Nat} : (cCl n : CE S).ev L G = .ok (.cl n) G := rfl
@[simp] theorem cGl_ev {n : Nat} : (cGl n : CE S).ev L G = .ok (glv S n) G := rfl
@[simp] theorem aNil_ev : (aNil : CA S).ev L G = .ok [] G := rfl
@[simp] theorem aCons_ev : (aCons a r).ev L G = (a.ev L G).bind fun v G1 => (r.ev L G1).bind fun vs G2 => .ok (v :: vs) G2 := rfl
@[simp] theorem aStar_ev : (aStar a r).ev L G = (a.ev L G).bind fun v G1 => (seqR G1 (seqO G1 v)).bind fun xs G1 => (r.ev L G1).bind fun vs G2 => .ok (xs ++ vs) G2 := rfl
@[simp] theorem cTup_ev : (cTup r).ev L G = (r.ev L G).bind tupR := rfl
@[simp] theorem tupR_ok {xs : List Va} (h : xs.length ≤ 16777216) : tupR xs G = .ok (.tup xs) G := by unfold tupR; rw [if_pos (by rw [sizeLine_eq]; exact h)]
@[simp] theorem cLst_ev : (cLst r).ev L G = (r.ev L G).bind lstR := rfl
@[simp] theorem lstR_ok {xs : List Va} (h : xs.length ≤ 16777216) : lstR xs G = .ok (.ref G.length) (G ++ [.lst false xs]) := by unfold lstR; rw [if_pos (by rw [sizeLine_eq]; exact h)]
@[simp] theorem cBin_ev {op : Operator} : (cBin op a b).ev L G = (a.ev L G).bind fun x G1 => (b.ev L G1).bind fun y G2 => lift (binF op x y G2) := rfl
@[simp] theorem lift_ok {v : Va} : lift (some (v, G)) = .ok v G := rfl
@[simp] theorem add_int {x y : Int} : binF .Add (.int x) (.int y) G = some (.int (x + y), G) := rfl
@[simp] theorem sub_int {x y : Int} : binF .Sub (.int x) (.int y) G = some (.int (x - y), G) := rfl
def sm (x : Int) : Prop := -(2 ^ 64) < x ∧ x < 2 ^ 64
def po (x : Int) : Prop := 0 < x ∧ x < 2 ^ 64
@[simp] theorem mul_l {x y : Int} (h : sm x) : binF .Mult (.int x) (.int y) G = some (.int (x * y), G) := by
  show mulI x y G = _
  unfold mulI; rw [if_pos (.inl h)]
@[simp] theorem mul_r {x y : Int} (h : sm y) : binF .Mult (.int x) (.int y) G = some (.int (x * y), G) := by
  show mulI x y G = _
  unfold mulI; rw [if_pos (.inr h)]
@[simp] theorem div_int {x y : Int} (h : po y) : binF .FloorDiv (.int x) (.int y) G = some (.int (x / y), G) := by
  show divI x y G = _
  have h1 : 0 < y := h.1
  have h2 : y < 2 ^ 64 := h.2
  have hn : y.natAbs ≠ 0 := by omega
  have : y.natAbs.log2 < 64 := (Nat.log2_lt hn).mpr (by omega)
  unfold divI; rw [if_pos ⟨h.1, by omega⟩]
@[simp] theorem mod_int {x y : Int} (h : 0 < y) : binF .Mod (.int x) (.int y) G = some (.int (x % y), G) := by
  show modI x y G = _
  unfold modI; rw [if_pos h]
@[simp] theorem cNeg_ev : (cNeg a).ev L G = (a.ev L G).bind fun x G1 => lift (negF x G1) := rfl
@[simp] theorem neg_int {x : Int} : negF (.int x) G = some (.int (-x), G) := rfl
@[simp] theorem cCmp_ev {op : CmpOp} : (cCmp op a b).ev L G = eCmp op a b L G := rfl
@[simp] theorem cCmp_tv {op : CmpOp} : (cCmp op a b).tv L G = (eCmp op a b L G).bind (tr S) := rfl
@[simp] theorem cChn_ev {o1 o2 : CmpOp} : (cChn o1 o2 a b c).ev L G = eChn o1 o2 a b c L G := rfl
@[simp] theorem cChn_tv {o1 o2 : CmpOp} : (cChn o1 o2 a b c).tv L G = (eChn o1 o2 a b c L G).bind (tr S) := rfl
@[simp] theorem tr_bl {t : Bool} : tr S (.bl t) G = .ok t G := rfl
@[simp] theorem tr_int {t : Int} : tr S (.int t) G = .ok (t != 0) G := rfl
@[simp] theorem cNot_ev : (cNot a).ev L G = eNot a L G := rfl
@[simp] theorem cNot_tv : (cNot a).tv L G = tNt a L G := rfl
@[simp] theorem cBop_ev {t : Bool} {rs : List (CE S)} : (cBop t a rs).ev L G = eBop t a rs L G := rfl
@[simp] theorem cBop_tv {t : Bool} {rs : List (CE S)} : (cBop t a rs).tv L G = tBop t a rs L G := rfl
@[simp] theorem cIf_ev : (cIf c a b).ev L G = eIf c a b L G := rfl
@[simp] theorem cIf_tv : (cIf c a b).tv L G = tIfx c a b L G := rfl
@[simp] theorem cIdx_ev : (cIdx a b).ev L G = (a.ev L G).bind fun x G1 => (b.ev L G1).bind fun y G2 => lift (opIdx x y G2) := rfl
@[simp] theorem cIdx_tv : (cIdx a b).tv L G = ((cIdx a b).ev L G).bind (tr S) := rfl
@[simp] theorem cVar_tv : (cVar i : CE S).tv L G = (getL L[i]? G).bind (tr S) := rfl
@[simp] theorem idx_tup0 {x : Va} {xs : List Va} : opIdx (.tup (x :: xs)) (.int 0) G = some (x, G) := by
  show okV G (atI (x :: xs) 0) = _
  unfold atI ixN
  simp [okV]
@[simp] theorem idx_tup1 {x y : Va} {xs : List Va} : opIdx (.tup (x :: y :: xs)) (.int 1) G = some (y, G) := by
  show okV G (atI (x :: y :: xs) 1) = _
  unfold atI ixN
  rw [if_pos (by decide), if_pos (by simp only [List.length_cons]; omega)]
  rfl
@[simp] theorem cAtt_ev {f : Nat} : (cAtt a f).ev L G = (a.ev L G).bind (attV S f) := rfl
@[simp] theorem attV_ref {f n : Nat} : attV S f (.ref n) G = attO S f G G[n]? := rfl
@[simp] theorem attO_ins {f n : Nat} {fs : List (Nat × Va)} : attO S f G (some (.ins n fs)) = attI S n f G (fs.lookup f) := rfl
@[simp] theorem attI_some {f n : Nat} {v : Va} : attI S n f G (some v) = .ok v G := rfl
@[simp] theorem cCall_ev {k : Nat} : (cCall k r).ev L G = (r.ev L G).bind (S.call k) := rfl
@[simp] theorem cCall_tv {k : Nat} : (cCall k r).tv L G = ((cCall k r).ev L G).bind (tr S) := rfl
@[simp] theorem cNew_ev {k : Nat} : (cNew k r).ev L G = (r.ev L G).bind (newV S k) := rfl
theorem newV_eq {k j : Nat} {vs : List Va} (h : (S.cd k).init = some j) : newV S k vs G = (S.call j (.ref G.length :: vs) (G ++ [.ins k []])).bind (newB G.length) := by
  unfold newV; rw [h]; rfl
@[simp] theorem newB_non {n : Nat} : newB n .non G = .ok (.ref n) G := rfl
@[simp] theorem cMth_ev {m : Nat} : (cMth m a r).ev L G = (a.ev L G).bind fun v G1 => (mthR S m v G1).bind fun k G1 => (r.ev L G1).bind fun vs G2 => S.call k (v :: vs) G2 := rfl
@[simp] theorem cMth_tv {m : Nat} : (cMth m a r).tv L G = ((cMth m a r).ev L G).bind (tr S) := rfl
@[simp] theorem mthR_ref {m n : Nat} : mthR S m (.ref n) G = mthO S m G G[n]? := rfl
@[simp] theorem mthO_ins {m n : Nat} {fs : List (Nat × Va)} : mthO S m G (some (.ins n fs)) = mthI G ((S.cd n).mth m) := rfl
@[simp] theorem mthI_some {k : Nat} : mthI G (some k) = .ok k G := rfl
@[simp] theorem cBi_ev {id : String} {o : Bop S (.builtin id)} : (cBi o r).ev L G = (r.ev L G).bind fun vs G1 => lift (o.op vs G1) := rfl
@[simp] theorem cBi_tv {id : String} {o : Bop S (.builtin id)} : (cBi o r).tv L G = ((cBi o r).ev L G).bind (tr S) := rfl
@[simp] theorem cBt_ev {id : String} {o : Bop S (.type id)} : (cBt o r).ev L G = (r.ev L G).bind fun vs G1 => lift (o.op vs G1) := rfl
@[simp] theorem cBg_ev {id : String} {o : Bop S (.builtin id)} : (cBg o r).ev L G = (r.ev L G).bind fun vs G1 => lift (o.op vs G1) := rfl
@[simp] theorem cBool_ev : (cBool a).ev L G = (a.ev L G).bind fun v G1 => (tr S v G1).bind fun b G2 => .ok (.bl b) G2 := rfl
@[simp] theorem cBool_tv : (cBool a).tv L G = ((cBool a).ev L G).bind (tr S) := rfl
@[simp] theorem gcd_op {x y : Int} : (bGcd : Bop S (.builtin "math.gcd")).op [.int x, .int y] G = some (.int (igcd x y), G) := rfl
@[simp] theorem int_op {x : Int} : (bInt : Bop S (.type "int")).op [.int x] G = some (.int x, G) := rfl
@[simp] theorem abs_op {x : Int} : (bAbs : Bop S (.builtin "abs")).op [.int x] G = some (.int (if x < 0 then -x else x), G) := rfl
@[simp] theorem max_op {x y : Int} : (bMax : Bop S (.builtin "max")).op [.int x, .int y] G = some (.int (imax x y), G) := rfl
@[simp] theorem min_op {x y : Int} : (bMin : Bop S (.builtin "min")).op [.int x, .int y] G = some (.int (imin x y), G) := rfl
@[simp] theorem len_tup {xs : List Va} : (bLen : Bop S (.builtin "len")).op [.tup xs] G = some (.int xs.length, G) := rfl
@[simp] theorem call_dp {code : Code} {d : Nat} : (S.dp code d).call = callF S code d := rfl
theorem callF_succ {code : Code} {d k : Nat} {as : List Va} : callF S code (d + 1) k as G = runF (code (S.dp code d) k) as G := rfl
@[simp] theorem sAugN_ev : (sAugN i a).ev L G = augX i a.ev L G L[i]? := rfl
@[simp] theorem augX_some {v : Va} {ev : Lo → Gh → Res Va} : augX i ev L G (some (some v)) = sx (ev L G) L fun y G1 => augR i L (ipAdd v y G1) := rfl
@[simp] theorem augR_some {v : Va} : augR i L (some (v, G)) = .nx (L.set i (some v)) G := rfl
@[simp] theorem sFor_ev {it : CI S} {g : CG S} {y : CB S} : (sFor it g y).ev L G = sx (it.ev L G) L fun src G1 => forL src g.ev y.ev fuelF 0 L G1 := rfl
@[simp] theorem cItV_ev : (cItV a).ev L G = (a.ev L G).bind fun v G1 => srcR G1 (srcV v G1) := rfl
@[simp] theorem cRng1_ev : (cRng1 a).ev L G = (a.ev L G).bind rng1 := rfl
@[simp] theorem cRng2_ev : (cRng2 a b).ev L G = (a.ev L G).bind fun v G1 => (b.ev L G1).bind (rng2 v) := rfl
@[simp] theorem sLcS_ev {it : CI S} {g : CG S} {tt : CT S} {own : List (Str × Nat)} : (sLcS i it g tt a own).ev L G = sx (lcE it.ev g.ev tt.ev a.ev (own.map (·.2)) L G) L fun v G1 => sx (noex (gNmE i v L G1)) L fun L2 G2 => .nx L2 G2 := rfl
@[simp] theorem cLc_ev {it : CI S} {g : CG S} {tt : CT S} {own : List (Str × Nat)} : (cLc it g tt a own).ev L G = lcE it.ev g.ev tt.ev a.ev (own.map (·.2)) L G := rfl
@[simp] theorem gNmE_eq {v : Va} : gNmE i v L G = .ok (L.set i (some v)) G := rfl
@[simp] theorem eCmp_eq {op : CmpOp} : eCmp op a b L G = (a.ev L G).bind fun x G1 => (b.ev L G1).bind fun y G2 => lift (cmpF op x y G2) := rfl
@[simp] theorem eChn_eq {o1 o2 : CmpOp} : eChn o1 o2 a b c L G = (a.ev L G).bind fun x G1 => (b.ev L G1).bind fun y G2 => (lift (cmpF o1 x y G2)).bind (chnK o2 c L y) := rfl
@[simp] theorem lt_int {x y : Int} : cmpF .Lt (.int x) (.int y) G = some (.bl (decide (x < y)), G) := rfl
@[simp] theorem le_int {x y : Int} : cmpF .LtE (.int x) (.int y) G = some (.bl (decide (x ≤ y)), G) := rfl
@[simp] theorem gt_int {x y : Int} : cmpF .Gt (.int x) (.int y) G = some (.bl (decide (y < x)), G) := rfl
@[simp] theorem ge_int {x y : Int} : cmpF .GtE (.int x) (.int y) G = some (.bl (decide (y ≤ x)), G) := rfl
@[simp] theorem eNot_eq : eNot a L G = (eT a L G).bind fun b G1 => .ok (.bl (!b)) G1 := rfl
@[simp] theorem eT_eq : eT a L G = (a.ev L G).bind (tr S) := rfl
@[simp] theorem chn_t {op : CmpOp} {y : Va} : chnK op c L y (.bl true) G = (c.ev L G).bind fun z G1 => lift (cmpF op y z G1) := rfl
@[simp] theorem chn_f {op : CmpOp} {y : Va} : chnK op c L y (.bl false) G = .ok (.bl false) G := rfl
@[simp] theorem tNt_eq : tNt a L G = (a.tv L G).bind fun b G1 => .ok (!b) G1 := rfl
@[simp] theorem eBop_one {t : Bool} : eBop t a [] L G = a.ev L G := rfl
@[simp] theorem eBop_cons {t : Bool} {r : List (CE S)} : eBop t a (b :: r) L G = (a.ev L G).bind fun v G1 => (tr S v G1).bind fun t' G2 => if t' = t then eBop t b r L G2 else .ok v G2 := rfl
@[simp] theorem tBop_one {t : Bool} : tBop t a [] L G = a.tv L G := rfl
@[simp] theorem tBop_cons {t : Bool} {r : List (CE S)} : tBop t a (b :: r) L G = (a.tv L G).bind fun t' G1 => if t' = t then tBop t b r L G1 else .ok t' G1 := rfl
@[simp] theorem eIf_eq : eIf c a b L G = (c.tv L G).bind fun t G1 => if t = true then a.ev L G1 else b.ev L G1 := rfl
@[simp] theorem tIfx_eq : tIfx c a b L G = (c.tv L G).bind fun t G1 => if t = true then a.tv L G1 else b.tv L G1 := rfl
@[simp] theorem cB_tv {n : Bool} : (cB n : CE S).tv L G = .ok n G := rfl
@[simp] theorem cAtt_tv {f : Nat} : (cAtt a f).tv L G = ((a.ev L G).bind (attV S f)).bind (tr S) := rfl
@[simp] theorem lpK_nx {k : Lo → Gh → SR} : lpK (.nx L G) k = k L G := rfl
@[simp] theorem lpK_ct {k : Lo → Gh → SR} : lpK (.ct L G) k = k L G := rfl
@[simp] theorem lpK_bk {k : Lo → Gh → SR} : lpK (.bk L G) k = .nx L G := rfl
@[simp] theorem lpK_rt {k : Lo → Gh → SR} {v : Va} : lpK (.rt v G) k = .rt v G := rfl
@[simp] theorem srcV_tup {xs : List Va} : srcV (.tup xs) G = some (.fix xs) := rfl
@[simp] theorem srcR_some {s : Src} : srcR G (some s) = .ok s G := rfl
def for1 (r : Option Va) (g : Va → Lo → Gh → Res Lo) (b : Lo → Gh → SR) (k : Lo → Gh → SR) (L : Lo) (G : Gh) : SR :=
  match r with
  | none => .nx L G
  | some v => sx (noex (g v L G)) L fun L2 G2 => lpK (b L2 G2) k
@[simp] theorem for1_none {g : Va → Lo → Gh → Res Lo} {b k : Lo → Gh → SR} : for1 none g b k L G = .nx L G := rfl
@[simp] theorem for1_some {v : Va} {g : Va → Lo → Gh → Res Lo} {b k : Lo → Gh → SR} : for1 (some v) g b k L G = sx (noex (g v L G)) L fun L2 G2 => lpK (b L2 G2) k := rfl
theorem forL_at {src : Src} {g : Va → Lo → Gh → Res Lo} {b : Lo → Gh → SR} {m i : Nat} {r : Option Va} (h : nxt src i G = some r) : forL src g b (m + 1) i L G = for1 r g b (fun L3 G3 => forL src g b m (i + 1) L3 G3) L G := by
  rcases for_cases src g b m i L G with ⟨h1, h2⟩ | ⟨h1, h2⟩ | ⟨v, h1, h2⟩
  · rw [h] at h1; cases h1
  · rw [h] at h1; cases h1; exact h2
  · rw [h] at h1; cases h1; exact h2
theorem forL_fix {xs : List Va} {g : Va → Lo → Gh → Res Lo} {b : Lo → Gh → SR} {m i : Nat} : forL (.fix xs) g b (m + 1) i L G = for1 xs[i]? g b (fun L3 G3 => forL (.fix xs) g b m (i + 1) L3 G3) L G := forL_at rfl
theorem forL_rng {lo : Int} {k : Nat} {g : Va → Lo → Gh → Res Lo} {b : Lo → Gh → SR} {m i : Nat} : forL (.rng lo k) g b (m + 1) i L G = for1 (if i < k then some (.int (lo + i)) else none) g b (fun L3 G3 => forL (.rng lo k) g b m (i + 1) L3 G3) L G := forL_at rfl
@[simp] theorem cBm_ev {T : String} {name : Str} {id : String} {m : Mop S T name id} : (cBm m a r).ev L G = (a.ev L G).bind fun v G1 => bmR m r.ev L v G1 := rfl
theorem bmR_ok {T : String} {name : Str} {id : String} {m : Mop S T name id} {ev : Lo → Gh → Res (List Va)} {v : Va} (h : m.ty v G = true) : bmR m ev L v G = (ev L G).bind fun vs G2 => lift (m.op v vs G2) := by unfold bmR; rw [if_pos h]
end
end VM
/-! VMv: list comprehensions and loops, summed up -/
namespace VM
open PySem PySem.Spec PyProof.Rows L2
section
variable {G t : Gh} {o : VO} {n : Nat}
theorem at_d : (G ++ o :: t)[G.length]? = some o := by simp
theorem at_old (h : n < G.length) : (G ++ t)[n]? = G[n]? := List.getElem?_append_left h
theorem set_d {o' : VO} : (G ++ o :: t).set G.length o' = G ++ o' :: t := by simp
theorem appD_ok {acc : List Va} {y : Va} (h : acc.length < 1000000) : appD G.length y (G ++ .lst false acc :: t) (G ++ VO.lst false acc :: t)[G.length]? = .ok () (G ++ .lst false (acc ++ [y]) :: t) := by
  rw [at_d]
  show (if acc.length < sizeLine then Res.ok () ((G ++ .lst false acc :: t).set G.length (.lst false (acc ++ [y]))) else .no) = _
  rw [if_pos (by rw [sizeLine_eq]; omega), set_d]
theorem lcT_yes {g : Va → Lo → Gh → Res Lo} {tt : Lo → Gh → Res Bool} {te : Lo → Gh → Res Va} {L L2 : Lo} {v y : Va} {acc : List Va} {t1 t2 t3 : Gh} (h1 : g v L (G ++ .lst false acc :: t) = .ok L2 (G ++ .lst false acc :: t1)) (h2 : tt L2 (G ++ .lst false acc :: t1) = .ok true (G ++ .lst false acc :: t2)) (h3 : te L2 (G ++ .lst false acc :: t2) = .ok y (G ++ .lst false acc :: t3)) (h : acc.length < 1000000) :
    lcT G.length g tt te L v (G ++ .lst false acc :: t) = .ok () (G ++ .lst false (acc ++ [y]) :: t3) := by
  unfold lcT
  rw [h1, noex_ok, Res.bind_ok, h2, noex_ok, Res.bind_ok]
  unfold lcY
  rw [if_pos rfl, h3, noex_ok, Res.bind_ok]
  exact appD_ok h
theorem lcT_no {g : Va → Lo → Gh → Res Lo} {tt : Lo → Gh → Res Bool} {te : Lo → Gh → Res Va} {L L2 : Lo} {v : Va} {acc : List Va} {t1 t2 : Gh} (h1 : g v L (G ++ .lst false acc :: t) = .ok L2 (G ++ .lst false acc :: t1)) (h2 : tt L2 (G ++ .lst false acc :: t1) = .ok false (G ++ .lst false acc :: t2)) :
    lcT G.length g tt te L v (G ++ .lst false acc :: t) = .ok () (G ++ .lst false acc :: t2) := by
  unfold lcT
  rw [h1, noex_ok, Res.bind_ok, h2, noex_ok, Res.bind_ok]
  unfold lcY
  rw [if_neg (by decide)]
theorem lcL_all {src : Src} {turn : Va → Gh → Res Unit} {xs : List Va} {f : Va → List Va} (hn : ∀ i o t, nxt src i (G ++ o :: t) = some xs[i]?)
    (hs : ∀ v acc t, v ∈ xs → acc.length < 1000000 → ∃ t', turn v (G ++ .lst false acc :: t) = .ok () (G ++ .lst false (acc ++ f v) :: t')) (hf : ∀ v ∈ xs, (f v).length ≤ 1) : ∀ (k i m : Nat) (acc : List Va) (t : Gh), k + i = xs.length → acc.length ≤ i → xs.length < 1000000 → k < m → ∃ t', lcL src turn m i (G ++ .lst false acc :: t) = .ok () (G ++ .lst false (acc ++ (xs.drop i).flatMap f) :: t')
  | 0, i, m + 1, acc, t, hk, ha, hx, _ => by
    have e : xs[i]? = none := List.getElem?_eq_none (by omega)
    refine ⟨t, ?_⟩
    rw [List.drop_eq_nil_of_le (by omega), List.flatMap_nil, List.append_nil]
    rcases nxt_cases (α := Unit) src turn m i (G ++ .lst false acc :: t) with ⟨h1, h2⟩ | ⟨h1, h2⟩ | ⟨v, h1, h2⟩
    · rw [hn] at h1; cases h1
    · exact h2
    · rw [hn, e] at h1; cases h1
  | k + 1, i, m + 1, acc, t, hk, ha, hx, hm => by
    have hi : i < xs.length := by omega
    have e : xs[i]? = some xs[i] := by simp [hi]
    obtain ⟨t', ht⟩ := hs xs[i] acc t (List.getElem_mem hi) (by omega)
    have hl := hf xs[i] (List.getElem_mem hi)
    obtain ⟨t2, h3⟩ := lcL_all hn hs hf k (i + 1) m (acc ++ f xs[i]) t' (by omega) (by rw [List.length_append]; omega) hx (by omega)
    refine ⟨t2, ?_⟩
    rcases nxt_cases (α := Unit) src turn m i (G ++ .lst false acc :: t) with ⟨h1, h2⟩ | ⟨h1, h2⟩ | ⟨v, h1, h2⟩
    · rw [hn] at h1; cases h1
    · rw [hn, e] at h1; cases h1
    · rw [hn, e] at h1
      cases h1
      rw [h2, ht, Res.bind_ok, h3]
      congr 3
      rw [List.append_assoc]
      congr 1
      rw [List.drop_eq_getElem_cons hi, List.flatMap_cons]
theorem lcE_all {it : Lo → Gh → Res Src} {g : Va → Lo → Gh → Res Lo} {tt : Lo → Gh → Res Bool} {te : Lo → Gh → Res Va} {vs : List Nat} {L : Lo} {src : Src} {xs : List Va} {f : Va → List Va} {G0 : Gh} (hit : it L G0 = .ok src G) (hn : ∀ i o t, nxt src i (G ++ o :: t) = some xs[i]?)
    (hs : ∀ v acc t, v ∈ xs → acc.length < 1000000 → ∃ t', lcT G.length g tt te (wipeL L vs) v (G ++ .lst false acc :: t) = .ok () (G ++ .lst false (acc ++ f v) :: t')) (hf : ∀ v ∈ xs, (f v).length ≤ 1) (hx : xs.length < 1000000) :
    ∃ t', lcE it g tt te vs L G0 = .ok (.ref G.length) (G ++ .lst false (xs.flatMap f) :: t') := by
  obtain ⟨t', h⟩ := lcL_all hn hs hf xs.length 0 fuelC [] [] (by omega) (Nat.le_refl _) hx (by unfold fuelC; omega)
  refine ⟨t', ?_⟩
  unfold lcE
  rw [hit, Res.bind_ok]
  have h' : lcL src (lcT G.length g tt te (wipeL L vs)) fuelC 0 (G ++ [.lst false []]) = _ := h
  rw [h', Res.bind_ok, List.drop_zero, List.nil_append]
theorem nxt_fix {xs : List Va} {i : Nat} : nxt (.fix xs) i G = some xs[i]? := rfl
theorem nxt_ob {fz : Bool} {xs : List Va} {i : Nat} (h : G[n]? = some (.lst fz xs)) : nxt (.ob n) i (G ++ t) = some xs[i]? := by
  have hl : n < G.length := (List.getElem?_eq_some_iff.mp h).1
  show nxO (G ++ t)[n]? i = _
  rw [at_old hl, h]; rfl
theorem nxt_rng {lo : Int} {k i : Nat} : nxt (.rng lo k) i G = some (((List.range k).map fun (j : Nat) => Va.int (lo + j))[i]?) := by
  show some (if i < k then some (Va.int (lo + i)) else none) = _
  by_cases h : i < k
  · rw [if_pos h, List.getElem?_map, List.getElem?_range h]; rfl
  · rw [if_neg h, List.getElem?_eq_none (by simpa using h)]
theorem all_bls {bs : List Bool} : blsV (bs.map Va.bl) = some bs := by
  induction bs with
  | nil => rfl
  | cons b bs ih =>
    show ((blsV (bs.map Va.bl)).map (b :: ·)) = _
    rw [ih]; rfl
theorem all_op {S : Sx} {bs : List Bool} (h : G[n]? = some (.lst false (bs.map Va.bl))) : (bAll : Bop S (.builtin "all")).op [.ref n] G = some (.bl (bs.all id), G) := by
  show (((lstOf G[n]?).bind blsV).bind fun is => some (Va.bl (is.all id))).map (fun v => (v, G)) = _
  rw [h]
  show ((blsV (bs.map Va.bl)).bind fun is => some (Va.bl (is.all id))).map (fun v => (v, G)) = _
  rw [all_bls]; rfl
end
end VM
/-! VMw: own exceptions -/
namespace VM
open PySem PySem.Spec PyProof.Rows L2
def kIni (N : List Str) (sc : Scope) (i : Nat) (f : Str) : Stmt → Bool
  | .Assign [.Attribute o f' _] e _ => decide (f' = f) && (kVar 0 N sc o && kVar i N sc e)
  | _ => false
def kInis (N : List Str) (sc : Scope) (f1 : Str) : Option Str → List Stmt → Bool
  | none, [a] => kIni N sc 1 f1 a
  | some f2, [a, b] => kIni N sc 1 f1 a && kIni N sc 2 f2 b
  | _, _ => false
theorem ini_ps {X : Cx} {N : List Str} {sc : Scope} {i : Nat} {f : Str} {st : Stmt} (hN : X.N = N) (hs : X.env.scope = sc) (h : kIni N sc i f st = true) : PS X st (tOst X.K f (tVar 0) (tVar i)) := by
  unfold kIni at h
  split at h
  · rename_i o f' p' e pos
    simp only [Bool.and_eq_true, decide_eq_true_eq] at h
    obtain ⟨rfl, h1, h2⟩ := h
    cases o with
    | Name x q =>
      cases e with
      | Name y r =>
        simp only [kVar, Bool.and_eq_true, decide_eq_true_eq, Bool.not_eq_true'] at h1 h2
        obtain ⟨a1, a2, a3, a4⟩ := h1
        obtain ⟨b1, b2, b3, b4⟩ := h2
        have vis : ∀ {z : Str}, scVis sc z = true → Vis X.env.scope z := fun {z} h => by
          rw [hs]
          simp only [scVis, Bool.or_eq_true, scIs_iff] at h
          rcases h with (h | h) | h
          · exact .inl h
          · exact .inr (.inl h)
          · exact .inr (.inr h)
        exact ps_ost (pe_var (by rw [hN]; exact a1) (vis a2) a3 a4) (pe_var (by rw [hN]; exact b1) (vis b2) b3 b4)
      | _ => simp [kVar] at h2
    | _ => simp [kVar] at h1
  · cases h
theorem ini_fn {S : Sx} {C fI : Addr} {f1 : Str} {f2 : Option Str} {fd : FuncData} {x qual : Str} {st : Stmt} {N ps : List Str} (T : OexC S.K C) (n1 : PySem.W.findIn S.K (.ref C) f1 = some none) (n2 : ∀ f, f2 = some f → PySem.W.findIn S.K (.ref C) f = some none) (F : L2.Fun S.K x qual st fI fd) (sc : FnScope N ps (defScope st)) (hl : ps.length = 2 + f2.toList.length)
    (hk : kInis N (defScope st) f1 f2 (defBody st) = true) : FnOk S.P S.w S.K S.mg S.base (L2.CX S.P S.w) 1 fI fd ps (spX C f1 f2) := by
  refine F.okX sc (fun vs H Q E q => ?_) fun cdv A outer s H vs Q E hr q => ?_
  · cases f2 with
    | none => obtain ⟨a, y, rfl, _⟩ := q; rw [hl]; rfl
    | some f2 => obtain ⟨a, y, z, rfl, _⟩ := q; rw [hl]; rfl
  · cases f2 with
    | none =>
      obtain ⟨a, y, rfl, h1, h2⟩ := q
      generalize defBody st = bd at *
      unfold kInis at hk
      split at hk
      · rename_i sta hz
        refine ⟨_, pss_cons (ini_ps rfl rfl hk) pss_nil, ?_⟩
        exact ⟨y, rfl, .ref a, rfl, a, C, rfl, T, n1, .inl ⟨h1, h2⟩⟩
      · rename_i hz; cases hz
      · cases hk
    | some f2 =>
      obtain ⟨a, y, z, rfl, h1, h2⟩ := q
      generalize defBody st = bd at *
      unfold kInis at hk
      split at hk
      · rename_i hz; cases hz
      · rename_i fx sta stb hz
        cases hz
        simp only [Bool.and_eq_true] at hk
        refine ⟨_, pss_cons (ini_ps rfl rfl hk.1) (pss_cons (ini_ps rfl rfl hk.2) pss_nil), ?_⟩
        refine ⟨y, rfl, .ref a, rfl, a, C, rfl, T, n1, .inl ⟨h1, fun dx n ne => ?_⟩⟩
        exact ⟨z, rfl, .ref a, rfl, a, C, rfl, T, n2 _ rfl, .inr ⟨dx, _, upd_same, by rw [upd_ne ne, upd_same], by simp, h2 dx n ne⟩⟩
      · cases hk
/-- raise C(e, ..) -/
def exR (S : Sx) (c : Nat) (L : Lo) (G : Gh) : List Va → SR
  | [x] => match S.xf c with
    | [f] => .ex c [(f, x)] L G
    | _ => .no
  | [x, y] => match S.xf c with
    | [f, g] => .ex c [(g, y), (f, x)] L G
    | _ => .no
  | _ => .no
def kRaise (S : Sx) (c : Nat) (r : CA S) (N : List Str) (sc : Scope) : Stmt → Bool
  | .Raise (some (.Call (.Name x _) (e :: es) [] _)) none _ => !S.hq && (decide ((x, c) ∈ S.xc) && (scIs sc x .globalImplicit && (!(x == ("__debug__" : Str)) && (r.pl && r.chk N sc (e :: es)))))
  | _ => false
section
variable {S : Sx} {sc : Scope} {N : List Str} {lev : Nat} {E : EW} {X : Cx}
def sRaise (c : Nat) (r : CA S) : CS S := ⟨fun L G => sx (r.ev L G) L fun vs G1 => exR S c L G1 vs, kRaise S c r, fun {sc N lev E X st} o h => by
  unfold kRaise at h
  split at h
  · rename_i x p0 e es p1 p2
    simp only [Bool.and_eq_true, decide_eq_true_eq, Bool.not_eq_true'] at h
    obtain ⟨hq, h1, h2, h3, h4, h5⟩ := h
    obtain ⟨hm, XC⟩ := o.good.xg _ h1
    obtain ⟨f1, f2, fI, fd, ps, hf, iC, tI, hb, F⟩ := XC.ini
    have hs := r.ns h4 h5
    obtain ⟨hs1, hs2⟩ := noStars_cons hs
    have mk := pmk_oex (X := X) (CX := L2.CX S.P S.w) (p := p0) (pos := p1) (sp := spX (S.ca c) (S.nm f1) (f2.map S.nm)) (fI := fI) (fd := fd) (ps := ps) (k := 1) (ds := []) (dvs := []) (by rw [o.K]; exact XC.T) (by rw [o.K]; exact iC) (by rw [o.K]; exact tI)
      (by rw [o.P, o.w, o.K, o.mg, o.base]; exact F) ((o.room hq).mono (by omega)) (by rw [o.K]; exact hb) .nil (by
        intro pins σ H s e s' I hc
        have tk : Takes X (fun _ _ _ _ => False) := takes_none5
        exact passes_call tk (fun _ _ _ _ h => h) pins σ H s e s' I (by rw [o.P, o.w]; exact hc)) (o.gl h2) (by rw [o.mg]; exact hm) (r.pa o h5) h3 (starEach_cons hs1) (backTo_plain hs2)
    refine ps_imp (ps_raise (o.calm hq) o.tk mk) fun D σ H q => ?_
    obtain ⟨ρ, L, G, R, l, p⟩ := q
    refine ⟨ρ, L, G, R, l, PostS.sx p l fun vs G1 ρ1 H1 us e1 R1 r1 p1 => ?_⟩
    have hlen := r1.length
    cases f2 with
    | none =>
      have hf : S.xf c = [f1] := hf
      cases vs with
      | nil => exact p1.elim
      | cons x vs =>
        cases vs with
        | cons y vs =>
          exfalso
          cases vs with
          | nil => have p1 : PostS S D E ρ1 G1.length H1 (match S.xf c with | [f, g] => .ex c [(g, y), (f, x)] L G1 | _ => .no) := p1; rw [hf] at p1; exact p1
          | cons _ _ => exact p1
        | nil =>
          have p1 : PostS S D E ρ1 G1.length H1 (match S.xf c with | [f] => .ex c [(f, x)] L G1 | _ => .no) := p1
          rw [hf] at p1
          unfold VRs at r1
          obtain ⟨u, r, rfl, ru, rr⟩ := r1
          unfold VRs at rr
          subst rr
          refine ⟨by simp, fun a ha => ⟨a, u, rfl, upd_same, fun dx hdx hne => ?_⟩⟩
          have hd1 : H1 dx = none := by rw [upd_ne hne] at hdx; exact hdx
          refine ⟨rfl, dx, [(S.nm f1, u)], upd_same, by rw [upd_ne hne, upd_same], hd1, ?_⟩
          have e : upd (del (upd (upd (upd H1 a (exo a (S.ca c) none)) dx (exd dx [(S.nm f1, u)])) a (exo a (S.ca c) (some dx))) a) dx (.xd [(S.nm f1, u)]) = upd H1 dx (.xd [(S.nm f1, u)]) := by
            funext b
            by_cases z2 : b = a
            · subst z2
              simp [upd, del, Ne.symm hne, ha]
            · by_cases z1 : b = dx <;> simp [upd, del, z1, z2]
          rw [e]
          have ex : Ext ρ1 G1.length H1 ρ1 G1.length (upd H1 dx (.xd [(S.nm f1, u)])) := Ext.new hd1
          exact p1 ρ1 _ σ dx _ ex (R1.new hd1) ((l.mono e1).mono ex) ⟨u, [], rfl, (XC.nf f1 (by rw [hf]; simp)).2, ru.mono ex, rfl⟩ upd_same
    | some f2 =>
      have hf : S.xf c = [f1, f2] := hf
      cases vs with
      | nil => exact p1.elim
      | cons x vs =>
        cases vs with
        | nil =>
          exfalso
          have p1 : PostS S D E ρ1 G1.length H1 (match S.xf c with | [f] => .ex c [(f, x)] L G1 | _ => .no) := p1
          rw [hf] at p1; exact p1
        | cons y vs =>
          cases vs with
          | cons _ _ => exact p1.elim
          | nil =>
            have p1 : PostS S D E ρ1 G1.length H1 (match S.xf c with | [f, g] => .ex c [(g, y), (f, x)] L G1 | _ => .no) := p1
            rw [hf] at p1
            unfold VRs at r1
            obtain ⟨u, r, rfl, ru, rr⟩ := r1
            unfold VRs at rr
            obtain ⟨v, r, rfl, rv, rr⟩ := rr
            unfold VRs at rr
            subst rr
            refine ⟨by simp, fun a ha => ⟨a, u, v, rfl, upd_same, fun dx hdx hne => ?_⟩⟩
            have hd1 : H1 dx = none := by rw [upd_ne hne] at hdx; exact hdx
            refine ⟨rfl, dx, [(S.nm f2, v), (S.nm f1, u)], by rw [upd_ne (Ne.symm hne), upd_same], upd_same, hd1, ?_⟩
            have e : upd (del (upd (upd (upd (upd H1 a (exo a (S.ca c) none)) dx (exd dx [(S.nm f1, u)])) a (exo a (S.ca c) (some dx))) dx (exd dx [(S.nm f2, v), (S.nm f1, u)])) a) dx (.xd [(S.nm f2, v), (S.nm f1, u)]) = upd H1 dx (.xd [(S.nm f2, v), (S.nm f1, u)]) := by
              funext b
              by_cases z2 : b = a
              · subst z2
                simp [upd, del, Ne.symm hne, ha]
              · by_cases z1 : b = dx <;> simp [upd, del, z1, z2]
            rw [e]
            have ex : Ext ρ1 G1.length H1 ρ1 G1.length (upd H1 dx (.xd [(S.nm f2, v), (S.nm f1, u)])) := Ext.new hd1
            exact p1 ρ1 _ σ dx _ ex (R1.new hd1) ((l.mono e1).mono ex) ⟨v, _, rfl, (XC.nf f2 (by rw [hf]; simp)).2, rv.mono ex, u, [], rfl, (XC.nf f1 (by rw [hf]; simp)).2, ru.mono ex, rfl⟩ upd_same
  · cases h⟩
end
end VM
/-! VMx: try -/
namespace VM
open PySem PySem.Spec PyProof.Rows L2
section
variable {S : Sx} {sc : Scope} {N : List Str} {lev : Nat} {E : EW} {X : Cx}
/-- the context of a try's body -/
theorem okx_tr (o : Okx S sc N lev E X) {pn : List (Addr × Obj)} {xe : Value → Shared → Prop} {W : WX} (tk : Takes (X.tr pn xe) W) (own : PassesOwn (model X.prog X.w) X.A X.env xe) : Okx S sc N lev (fun σ c d H => W c d σ H) (X.tr pn xe) :=
  ⟨o.P, o.w, o.K, o.mg, o.N, o.nd, o.calm, o.base, o.room, o.un, o.hc, o.good, o.sub, o.subF, o.stf, fun σ => by
    have := passAt tk σ
    rw [← o.P, ← o.w]
    exact this, own, tk⟩
end
/-! ### the machine in an except suite -/
abbrev Sx.inS (S : Sx) (h : Addr → Nat → Addr → Prop) : Sx := { S with hq := true, hot := h, call := fun _ _ _ => .no }
section
variable {S : Sx} {h : Addr → Nat → Addr → Prop} {ρ : Nat → Addr} {n : Nat} {H : Hp} {G : Gh}
mutual
theorem VR.inS (hh : ∀ a c d, S.hot a c d → h a c d) : ∀ {x : Va} {v : V}, VR S ρ n H x v → VR (S.inS h) ρ n H x v
  | .non, _, q => by simpa [VR] using q
  | .bl _, _, q => by simpa [VR] using q
  | .int _, _, q => by simpa [VR] using q
  | .str _, _, q => by simpa [VR] using q
  | .tup xs, _, q => by
    unfold VR at q ⊢
    obtain ⟨a, ys, h1, h2, h3⟩ := q
    exact ⟨a, ys, h1, h2, VRs.inS hh h3⟩
  | .ref m, _, q => by unfold VR at q ⊢; exact q
  | .cl _, _, q => by unfold VR at q ⊢; exact q
  | .ty _, _, q => by unfold VR at q ⊢; exact q
  | .xr _ _, _, q => by
    unfold VR at q ⊢
    obtain ⟨h1, a, h2, h3⟩ := q
    exact ⟨h1, a, h2, hh _ _ _ h3⟩
theorem VRs.inS (hh : ∀ a c d, S.hot a c d → h a c d) : ∀ {x : List Va} {v : List V}, VRs S ρ n H x v → VRs (S.inS h) ρ n H x v
  | [], _, q => by unfold VRs at q ⊢; exact q
  | x :: xs, _, q => by
    unfold VRs at q ⊢
    obtain ⟨y, r, h1, h2, h3⟩ := q
    exact ⟨y, r, h1, VR.inS hh h2, VRs.inS hh h3⟩
end
theorem FR.inS (hh : ∀ a c d, S.hot a c d → h a c d) : ∀ {fs : List (Nat × Va)} {gs : List (Str × V)}, FR S ρ n H fs gs → FR (S.inS h) ρ n H fs gs
  | [], _, q => q
  | (a, x) :: fs, _, q => by
    obtain ⟨y, r, h1, h2, h3, h4⟩ := q
    exact ⟨y, r, h1, h2, VR.inS hh h3, FR.inS hh h4⟩
theorem DRk.inS (hh : ∀ a c d, S.hot a c d → h a c d) : ∀ {fs : List (Va × Va)} {gs : List (Key × V)}, DRk S ρ n H fs gs → DRk (S.inS h) ρ n H fs gs
  | [], _, q => q
  | (a, x) :: fs, _, q => by
    obtain ⟨k', y, r, h1, h2, h3, h4⟩ := q
    exact ⟨k', y, r, h1, h2, VR.inS hh h3, DRk.inS hh h4⟩
theorem DRt.inS (hh : ∀ a c d, S.hot a c d → h a c d) : ∀ {fs : List (Va × Va)} {gs : List (NestedKey × Addr × Value)}, DRt S ρ n H fs gs → DRt (S.inS h) ρ n H fs gs
  | [], _, q => q
  | (a, x) :: fs, _, q => by
    obtain ⟨k', b, u, y, r, h1, h2, h3, h4, h5, h6, h7⟩ := q
    exact ⟨k', b, u, y, r, h1, h2, h3, VR.inS hh h4, VR.inS hh h5, h6, DRt.inS hh h7⟩
theorem OR.inS (hh : ∀ a c d, S.hot a c d → h a c d) {o : VO} {a : Addr} (q : OR S ρ n H o a) : OR (S.inS h) ρ n H o a := by
  cases o with
  | lst fz xs =>
    cases fz with
    | false => obtain ⟨ys, h1, h2⟩ := q; exact ⟨ys, h1, h2.inS hh⟩
    | true => obtain ⟨ys, h1, h2⟩ := q; exact ⟨ys, h1, h2.inS hh⟩
  | dct lk kvs =>
    cases lk with
    | false => obtain ⟨ys, h1, h2⟩ := q; exact ⟨ys, h1, h2.inS hh⟩
    | true => obtain ⟨o, ys, h1, h2⟩ := q; exact ⟨o, ys, h1, h2.inS hh⟩
  | ins c fs => obtain ⟨dx, gs, h1, h2, h3⟩ := q; exact ⟨dx, gs, h1, h2.inS hh, h3⟩
  | deq xs => exact q
  | exc fs => obtain ⟨gs, h1, h2⟩ := q; exact ⟨gs, h1, h2.inS hh⟩
  | dtu lk kvs =>
    cases lk with
    | false => obtain ⟨ys, h1, h2⟩ := q; exact ⟨ys, h1, h2.inS hh⟩
    | true => obtain ⟨o, ys, h1, h2⟩ := q; exact ⟨o, ys, h1, h2.inS hh⟩
theorem Rl.inS (hh : ∀ a c d, S.hot a c d → h a c d) (R : Rl S ρ G H) : Rl (S.inS h) ρ G H := ⟨fun m o q => (R.ob m o q).inS hh, R.inj⟩
theorem LR.inS (hh : ∀ a c d, S.hot a c d → h a c d) {L : Lo} {σ : L2.St} (l : LR S ρ n H L σ) : LR (S.inS h) ρ n H L σ := fun i x q => by
  obtain ⟨v, h1, h2⟩ := l i x q
  exact ⟨v, h1, h2.inS hh⟩
end
end VM
/-! VMy: == and != of tuples, item by item up to the first that differs; of dicts with tuple keys -/
namespace VMQ
open PySem PySem.SeqAt PySem.Spec PyProof.Rows
open AutoSeq1 (wpAny_loadPart')
open MeetsSeq MeetsSeq2 MeetsSeq3 SeqRoads2
section
variable {prog : Program} {w : World}
/-- what is known of the items, as far as the comparison goes -/
def Lazy (prog : Program) (w : World) (A : Around) (s : Shared) (xs ys : Array Value) (e : Nat → Bool) : Prop := ∀ j (h1 : j < xs.size) (h2 : j < ys.size), (∀ i, i < j → e i = true) → EqP prog w A s xs[j] ys[j] (e j)
/-- the answer -/
def ansOf (e : Nat → Bool) (m n : Nat) : Bool := (List.range (min m n)).all e && m == n
theorem all_drop {e : Nat → Bool} {m i : Nat} (h : i < m) : ((List.range m).drop i).all e = (e i && ((List.range m).drop (i + 1)).all e) := by
  have q : (List.range m).drop i = i :: (List.range m).drop (i + 1) := by
    rw [List.drop_eq_getElem_cons (by simpa using h)] <;> simp
  rw [q, List.all_cons]
theorem zip_at {xs ys : Array Value} {y x : Value} {rest : List (Value × Value)} {i : Nat} (hz : (y, x) :: rest = (xs.toList.zip ys.toList).drop i) :
    ∃ (h1 : i < xs.size) (h2 : i < ys.size), y = xs[i] ∧ x = ys[i] ∧ rest = (xs.toList.zip ys.toList).drop (i + 1) := by
  have hZ : (xs.toList.zip ys.toList).length = min xs.size ys.size := by simp
  have hlt : i < (xs.toList.zip ys.toList).length := by
    rcases Nat.lt_or_ge i (xs.toList.zip ys.toList).length with q | q
    · exact q
    · rw [List.drop_of_length_le q] at hz; cases hz
  have hm : i < min xs.size ys.size := hZ ▸ hlt
  have g1 : i < xs.size := by omega
  have g2 : i < ys.size := by omega
  rw [List.drop_eq_getElem_cons hlt] at hz
  injection hz with a b
  refine ⟨g1, g2, ?_, ?_, b⟩
  · have := congrArg Prod.fst a; simpa using this
  · have := congrArg Prod.snd a; simpa using this
theorem zip_end {xs ys : Array Value} {i : Nat} (hz : [] = (xs.toList.zip ys.toList).drop i) : min xs.size ys.size ≤ i := by
  have hZ : (xs.toList.zip ys.toList).length = min xs.size ys.size := by simp
  rcases Nat.lt_or_ge i (xs.toList.zip ys.toList).length with q | q
  · rw [List.drop_eq_getElem_cons q] at hz; cases hz
  · omega
theorem tup_eqIn (l b : Addr) (xs ys : Array Value) (n n2 : Nat) (dd dd2 : Option Addr) (sl sl2 : Array (Option Value)) (e : Nat → Bool) :
    MeetsIn prog w (Builtin.«tuple.__eq__» ⟨[.ref l, .ref b], []⟩)
      (fun A R s => s.heap.get? l = some { cls := .type "tuple", dict := dd, data := .seq xs n, slots := sl } ∧ s.heap.get? b = some { cls := .type "tuple", dict := dd2, data := .seq ys n2, slots := sl2 } ∧ Lazy prog w A.in1 s xs ys e ∧ R (.ok (.ret (.bool (ansOf e xs.size ys.size)))) s) := by
  intro A R s h
  obtain ⟨hp, g, d, tk, os⟩ := s; obtain ⟨hl, hb, he, h⟩ := h
  have sub := AutoSeq1.sub_tuple_tuple
  wp_walk using wpAny_loadPart' hl, wpAny_loadPart' hb, wpAny_forIn_list _ (fun rest b s' => b.1 = none ∧ s' = ⟨hp, g, d, tk, os⟩ ∧ ∃ i, rest = (xs.toList.zip ys.toList).drop i ∧ (∀ k, k < i → e k = true) ∧
      R (.ok (.ret (.bool (((List.range (min xs.size ys.size)).drop i).all e && xs.size == ys.size)))) ⟨hp, g, d, tk, os⟩) _
  case turn =>
    rintro ⟨y, x⟩ rest b s' ⟨hb', rfl, i, hz, hk, hR⟩
    obtain ⟨h1, h2, rfl, rfl, hr⟩ := zip_at hz
    rw [all_drop (by omega)] at hR
    refine wpAny_bind (he i h1 h2 hk _ _ ?_)
    cases hy : e i with
    | true =>
      rw [hy, Bool.true_and] at hR
      wp_walk
      exact ⟨rfl, rfl, i + 1, hr, fun k hk' => (Nat.lt_succ_iff_lt_or_eq.mp hk').elim (hk k) fun z => z ▸ hy, hR⟩
    | false =>
      rw [hy, Bool.false_and, Bool.false_and] at hR
      wp_walk
      exact hR
  case fin =>
    rintro ⟨b1, b2⟩ s' ⟨hb', rfl, i, hz, hk, hR⟩
    simp only at hb'
    subst hb'
    have hge := zip_end hz
    rw [List.drop_of_length_le (by simpa using hge)] at hR
    wp_walk
    simpa [Builtin.Tuple.tupleCompareSizes] using hR
  case h =>
    exact ⟨rfl, rfl, 0, rfl, fun k hk => absurd hk (Nat.not_lt_zero k), by simpa [ansOf] using h⟩
theorem tup_neIn (l b : Addr) (xs ys : Array Value) (n n2 : Nat) (dd dd2 : Option Addr) (sl sl2 : Array (Option Value)) (e : Nat → Bool) :
    MeetsIn prog w (Builtin.«tuple.__ne__» ⟨[.ref l, .ref b], []⟩)
      (fun A R s => s.heap.get? l = some { cls := .type "tuple", dict := dd, data := .seq xs n, slots := sl } ∧ s.heap.get? b = some { cls := .type "tuple", dict := dd2, data := .seq ys n2, slots := sl2 } ∧ Lazy prog w A.in1 s xs ys e ∧ R (.ok (.ret (.bool (!ansOf e xs.size ys.size)))) s) := by
  intro A R s h
  obtain ⟨hp, g, d, tk, os⟩ := s; obtain ⟨hl, hb, he, h⟩ := h
  have sub := AutoSeq1.sub_tuple_tuple
  wp_walk using wpAny_loadPart' hl, wpAny_loadPart' hb, wpAny_forIn_list _ (fun rest b s' => b.1 = none ∧ s' = ⟨hp, g, d, tk, os⟩ ∧ ∃ i, rest = (xs.toList.zip ys.toList).drop i ∧ (∀ k, k < i → e k = true) ∧
      R (.ok (.ret (.bool (!(((List.range (min xs.size ys.size)).drop i).all e && xs.size == ys.size))))) ⟨hp, g, d, tk, os⟩) _
  case turn =>
    rintro ⟨y, x⟩ rest b s' ⟨hb', rfl, i, hz, hk, hR⟩
    obtain ⟨h1, h2, rfl, rfl, hr⟩ := zip_at hz
    rw [all_drop (by omega)] at hR
    refine wpAny_bind (he i h1 h2 hk _ _ ?_)
    cases hy : e i with
    | true =>
      rw [hy, Bool.true_and] at hR
      wp_walk
      exact ⟨rfl, rfl, i + 1, hr, fun k hk' => (Nat.lt_succ_iff_lt_or_eq.mp hk').elim (hk k) fun z => z ▸ hy, hR⟩
    | false =>
      rw [hy, Bool.false_and, Bool.false_and] at hR
      wp_walk
      exact hR
  case fin =>
    rintro ⟨b1, b2⟩ s' ⟨hb', rfl, i, hz, hk, hR⟩
    simp only at hb'
    subst hb'
    have hge := zip_end hz
    rw [List.drop_of_length_le (by simpa using hge)] at hR
    wp_walk
    simpa [Builtin.Tuple.tupleCompareSizes, bne] using hR
  case h =>
    exact ⟨rfl, rfl, 0, rfl, fun k hk => absurd hk (Nat.not_lt_zero k), by simpa [ansOf] using h⟩
theorem rc_tups {A : Around} {s : Shared} {l b : Addr} {xs ys : Array Value} {e : Nat → Bool} (hl : s.heap.IsTuple l xs) (hb : s.heap.IsTuple b ys) (hu : A.units < cLine) (he : Lazy prog w A.in1 s xs ys e) (E Q : Value → Shared → Prop) (h : Q (.bool (ansOf e xs.size ys.size)) s) :
    wpAny (model prog w) A (richCompare .Eq (.ref l) (.ref b)) Q E s := by
  obtain ⟨⟨c1, d1, data1, s1⟩, ho, hc, n, hd⟩ := id hl
  obtain ⟨⟨c2, d2, data2, s2⟩, ho2, hc2, n2, hd2⟩ := id hb
  simp only at hc hd hc2 hd2
  subst hc hd hc2 hd2
  have ta : s.TypeIs (.ref l) "tuple" := ⟨_, ho, rfl⟩
  have tb : s.TypeIs (.ref b) "tuple" := ⟨_, ho2, rfl⟩
  exact wpAny_richCompare_same_room (op := .Eq) ta tb F.slot_tuple_eq (call_meetsIn F.slot_tuple_eq ta F.entry_tuple_eq (F.args_tuple_eq_2 _ _) (tup_eqIn l b xs ys n n2 d1 d2 s1 s2 e)
    ⟨ho, ho2, he, show Value.bool (ansOf e xs.size ys.size) ≠ Value.notImplemented ∧ Q (.bool (ansOf e xs.size ys.size)) s from ⟨(fun x => nomatch x), h⟩⟩) hu
theorem rc_tupsN {A : Around} {s : Shared} {l b : Addr} {xs ys : Array Value} {e : Nat → Bool} (hl : s.heap.IsTuple l xs) (hb : s.heap.IsTuple b ys) (hu : A.units < cLine) (he : Lazy prog w A.in1 s xs ys e) (E Q : Value → Shared → Prop) (h : Q (.bool (!ansOf e xs.size ys.size)) s) :
    wpAny (model prog w) A (richCompare .NotEq (.ref l) (.ref b)) Q E s := by
  obtain ⟨⟨c1, d1, data1, s1⟩, ho, hc, n, hd⟩ := id hl
  obtain ⟨⟨c2, d2, data2, s2⟩, ho2, hc2, n2, hd2⟩ := id hb
  simp only at hc hd hc2 hd2
  subst hc hd hc2 hd2
  have ta : s.TypeIs (.ref l) "tuple" := ⟨_, ho, rfl⟩
  have tb : s.TypeIs (.ref b) "tuple" := ⟨_, ho2, rfl⟩
  exact wpAny_richCompare_same_room (op := .NotEq) ta tb F.slot_tuple_ne (call_meetsIn F.slot_tuple_ne ta F.entry_tuple_ne (F.args_tuple_ne_2 _ _) (tup_neIn l b xs ys n n2 d1 d2 s1 s2 e)
    ⟨ho, ho2, he, show Value.bool (!ansOf e xs.size ys.size) ≠ Value.notImplemented ∧ Q (.bool (!ansOf e xs.size ys.size)) s from ⟨(fun x => nomatch x), h⟩⟩) hu
/-! ### dicts whose keys are tuples -/
variable {K : Type} [DecidableEq K] {knd : HeapKind prog w K} {A : Around} {s : Shared}
/-- key by key up to the first that differs -/
inductive Hits (prog : Program) (w : World) (A : Around) (s : Shared) (kb : List (K × Addr × Value)) : List (K × Addr × Value) → Bool → Prop
  | nil : Hits prog w A s kb [] true
  | miss {k : K} {a : Addr} {v : Value} {r : List (K × Addr × Value)} : atKey kb k = none → Hits prog w A s kb ((k, a, v) :: r) false
  | hit {k : K} {a c : Addr} {v y : Value} {r : List (K × Addr × Value)} {b : Bool} : atKey kb k = some (c, y) → EqP prog w A s v y true → Hits prog w A s kb r b → Hits prog w A s kb ((k, a, v) :: r) b
  | diff {k : K} {a c : Addr} {v y : Value} {r : List (K × Addr × Value)} : atKey kb k = some (c, y) → EqP prog w A s v y false → Hits prog w A s kb ((k, a, v) :: r) false
theorem Hits.inv {kb : List (K × Addr × Value)} {k : K} {a : Addr} {v : Value} {r : List (K × Addr × Value)} {b : Bool} (h : Hits prog w A s kb ((k, a, v) :: r) b) :
    (atKey kb k = none ∧ b = false) ∨ (∃ c y, atKey kb k = some (c, y) ∧ EqP prog w A s v y true ∧ Hits prog w A s kb r b) ∨ ∃ c y, atKey kb k = some (c, y) ∧ EqP prog w A s v y false ∧ b = false := by
  cases h with
  | miss hn => exact .inl ⟨hn, rfl⟩
  | hit hy he hr => exact .inr (.inl ⟨_, _, hy, he, hr⟩)
  | diff hy he => exact .inr (.inr ⟨_, _, hy, he, rfl⟩)
theorem pairsH {nm : String} {a b : Addr} {ka kb : List (K × Addr × Value)} {r : Bool} {E : Value → Shared → Prop} {Q : Bool → Shared → Prop} (hu : knd.room A) (ha : (a == sysModules) = false) (hb : (b == sysModules) = false)
    (da : s.heap.DictOfH knd a ka) (db : s.heap.DictOfH knd b kb) (hits : ka.length = kb.length → Hits prog w A s kb ka r) (h : Q (ka.length == kb.length && r) s) : wpAny (model prog w) A (Builtin.Dict.samePairs nm a b) Q E s := by
  obtain ⟨oa, es, ep, hoa, _, hda, hea, hia, hna⟩ := da
  obtain ⟨ob, es', ep', hob, _, hdb, heb, hib, hnb⟩ := db
  have hla : ka.length = es.size := by have := congrArg List.length hea; simpa using this.symm
  have hlb : kb.length = es'.size := by have := congrArg List.length heb; simpa using this.symm
  rw [hla, hlb] at h
  unfold Builtin.Dict.samePairs Builtin.Dict.showsAll
  rw [if_neg (show ¬ (a == sysModules) = true by rw [ha]; decide), if_neg (show ¬ (b == sysModules) = true by rw [hb]; decide)]
  refine wpAny_bind (wpAny_pure (wpAny_bind (wpAny_pure (wpAny_bind (wpAny_dictEntries hoa hda ?_)))))
  dsimp only
  refine wpAny_bind (wpAny_dictEntries hob hdb ?_)
  by_cases hsz : es.size = es'.size
  case neg =>
    rw [if_pos (by simpa using hsz)]
    rw [show (es.size == es'.size) = false from by simpa using hsz, Bool.false_and] at h
    exact wpAny_bind (wpAny_rule (wpAny_pure h))
  case pos =>
    have hq : Q r s := by simpa [hsz] using h
    have hh := hits (by rw [hla, hlb, hsz])
    rw [if_neg (by rw [hsz]; simp)]
    refine wpAny_bind (wpAny_dictEpoch hoa hda (wpAny_bind ?_))
    rw [Std.Legacy.Range.forIn_eq_forIn_range']
    simp only [Std.Legacy.Range.size, Nat.sub_zero, Nat.add_sub_cancel, Nat.div_one]
    refine wpAny_forIn_list _ (fun rest q s' => s' = s ∧ q = (none, ()) ∧ ∃ i, rest = List.range' i (es.size - i) ∧ i ≤ es.size ∧ Hits prog w A s kb (ka.drop i) r) _ ?_ ?_ _ _ ⟨rfl, rfl, 0, by simp, Nat.zero_le _, hh⟩
    · rintro x rest q s' ⟨rfl, rfl, i, hr, hi, hp⟩
      have hlt : i < es.size := by
        rcases Nat.lt_or_ge i es.size with z | z
        · exact z
        · rw [Nat.sub_eq_zero_of_le z] at hr; simp at hr
      obtain ⟨rfl, hr2⟩ : x = i ∧ rest = List.range' (i + 1) (es.size - (i + 1)) := by
        rw [show es.size - i = (es.size - (i + 1)) + 1 by omega, List.range'_succ] at hr
        injection hr with z1 z2
        exact ⟨z1, z2⟩
      refine wpAny_bind (wpAny_dictEntries hoa hda ?_)
      rw [Array.getElem?_eq_getElem hlt]
      have hlk : x < ka.length := by omega
      obtain ⟨⟨k, ad, v⟩, hkv⟩ : ∃ p, ka[x] = p := ⟨_, rfl⟩
      have hdrop : ka.drop x = (k, ad, v) :: ka.drop (x + 1) := by rw [← hkv]; exact List.drop_eq_getElem_cons hlk
      have hex : es[x] = entryOfKey knd (k, ad, v) := by
        have z : es.toList[x]? = some es[x] := by rw [Array.getElem?_toList, Array.getElem?_eq_getElem hlt]
        rw [hea, List.getElem?_map, List.getElem?_eq_getElem hlk, hkv] at z
        exact (Option.some.inj z).symm
      have hkey : knd.is s'.heap k ad := hia (k, ad, v) (by rw [← hkv]; exact List.getElem_mem hlk)
      rw [hdrop] at hp
      rw [hex]
      show wpAny _ _ (holding [Value.ref ad, v] _ >>= _) _ _ _
      refine wpAny_bind (wpAny_holding (wpAny_bind (wpAny_dictFind_heap (k := k) hu hkey hob hdb heb hib hnb (fun hno => ?_) fun j p hj => ?_)))
      · have hn := atKey_none_of_get hno
        have er : r = false := by
          rcases hp.inv with ⟨_, e⟩ | ⟨c, y, hy, _⟩ | ⟨c, y, hy, _⟩
          · exact e
          · rw [hn] at hy; cases hy
          · rw [hn] at hy; cases hy
        rw [er] at hq
        refine wpAny_pure ?_
        show wpAny _ _ (if (!false) = true then _ else _) _ _ _
        rw [if_pos (by decide)]
        exact wpAny_pure (wpAny_pure hq)
      · have hat := atKey_of_get hnb hj
        have hjlt : j < es'.size := by
          rw [← hlb]; exact (List.getElem?_eq_some_iff.mp hj).1
        have hev : es'[j] = entryOfKey knd (k, p) := by
          have z : es'.toList[j]? = some es'[j] := by rw [Array.getElem?_toList, Array.getElem?_eq_getElem hjlt]
          rw [heb, List.getElem?_map, hj] at z
          exact (Option.some.inj z).symm
        refine wpAny_bind (wpAny_dictEntries hob hdb ?_)
        rw [Array.getElem?_eq_getElem hjlt, hev]
        rcases hp.inv with ⟨hn, _⟩ | ⟨c, y, hy, he, hrr⟩ | ⟨c, y, hy, he, er⟩
        · rw [hat] at hn; cases hn
        · rw [hat] at hy
          have ep : p = (c, y) := Option.some.inj hy
          subst ep
          refine wpAny_holding (he _ _ ?_)
          show wpAny _ _ (if (!true) = true then _ else _) _ _ _
          rw [if_neg (by decide)]
          refine wpAny_bind (wpAny_dictEpoch hoa hda ?_)
          rw [if_neg (by simp)]
          exact wpAny_pure ⟨rfl, rfl, x + 1, hr2, hlt, hrr⟩
        · rw [hat] at hy
          have ep : p = (c, y) := Option.some.inj hy
          subst ep
          rw [er] at hq
          refine wpAny_holding (he _ _ ?_)
          show wpAny _ _ (if (!false) = true then _ else _) _ _ _
          rw [if_pos (by decide)]
          exact wpAny_pure (wpAny_pure hq)
    · rintro q s' ⟨rfl, rfl, i, hr, hi, hp⟩
      have hin : i = es.size := by
        rcases Nat.lt_or_ge i es.size with z | z
        · rw [show es.size - i = (es.size - (i + 1)) + 1 by omega, List.range'_succ] at hr; cases hr
        · omega
      refine wpAny_pure ?_
      rw [hin, ← hla, List.drop_length] at hp
      cases hp
      exact hq
theorem rc_dictH {a b : Addr} {ka kb : List (K × Addr × Value)} {r : Bool} (hu : knd.room A.in1) (ha : (a == sysModules) = false) (hb : (b == sysModules) = false) (da : s.heap.DictOfH knd a ka) (db : s.heap.DictOfH knd b kb) (hu0 : A.units < cLine)
    (hits : ka.length = kb.length → Hits prog w A.in1 s kb ka r) (E Q : Value → Shared → Prop) (h : Q (.bool (ka.length == kb.length && r)) s) : wpAny (model prog w) A (richCompare .Eq (.ref a) (.ref b)) Q E s := by
  refine wpAny_richCompare_same_room (op := .Eq) da.typeIs db.typeIs PySem.F.slot_dict_eq (wpAny_call_entry PySem.F.slot_dict_eq da.typeIs PySem.F.entry_dict_eq ?_ (PySem.F.args_dict_eq_2 _ _)) hu0
  show wpAny _ _ (Builtin.Dict.dictSlotArgs "__eq__" ⟨[.ref a, .ref b], []⟩ >>= _) _ _ s
  refine wpAny_bind ?_
  unfold Builtin.Dict.dictSlotArgs
  refine wpAny_bind (wpAny_notOrdered_dict da.typeIs ?_)
  show wpAny _ _ (pure (Value.ref a, Value.ref b)) _ _ s
  refine wpAny_pure (wpAny_bind (wpAny_isInstance (T := "dict") db.typeIs PySem.F.sub_dict_dict ?_))
  simp only [Bool.not_true, Bool.false_eq_true, if_false]
  refine wpAny_bind (wpAny_pure (wpAny_bind (wpAny_pure (wpAny_bind (pairsH hu ha hb da db hits (wpAny_pure ⟨_, rfl, ?_, ?_⟩))))))
  · exact fun x => nomatch x
  · simpa using h
end
end VMQ
/-! VNa: == of data with dicts among them -/
namespace VM
open PySem PySem.Spec PyProof.Rows L2 VMQ
open PySem.SeqAt (EqP EqAt)
/-! ### on plain data -/
def sameR : Va → Va → Bool
  | .ref m, .ref n => m == n
  | _, _ => false
def eqT (f : Va → Va → Option Bool) : List Va → List Va → Option Bool
  | [], [] => some true
  | [], _ :: _ => some false
  | _ :: _, [] => some false
  | x :: xs, y :: ys => (f x y).bind fun b => if b = true then eqT f xs ys else some false
def eqK1 (f : Va → Va → Option Bool) (x : Va) (rest : Option Bool) : Option Va → Option Bool
  | none => some false
  | some y => (f x y).bind fun b => rest.map fun c => b && c
def eqK (f : Va → Va → Option Bool) (ls : List (Va × Va)) : List (Va × Va) → Option Bool
  | [] => some true
  | (k, x) :: r => eqK1 f x (eqK f ls r) (dGet ls k)
def eqKs (f : Va → Va → Option Bool) (xs ys : List (Va × Va)) : Option Bool := if xs.length = ys.length then eqK f ys xs else some false
def eqO (f : Va → Va → Option Bool) : Option VO → Option VO → Option Bool
  | some (.dct _ xs), some (.dct _ ys) => eqKs f xs ys
  | some (.dtu _ xs), some (.dtu _ ys) => eqKs f xs ys
  | _, _ => none
def eqY (f : Va → Va → Option Bool) (G : Gh) : Va → Va → Option Bool
  | .tup xs, .tup ys => eqT f xs ys
  | .ref m, .ref n => eqO f G[m]? G[n]?
  | _, _ => none
def orE : Option Bool → Option Bool → Option Bool
  | some b, _ => some b
  | none, o => o
def eqE : Nat → Gh → Va → Va → Option Bool
  | 0, _, _, _ => none
  | k + 1, G, x, y => if sameR x y = true then some true else orE (eqD G x y) (eqY (eqE k G) G x y)
/-- x == y -/
def eqXT (G : Gh) (x y : Va) : Option Bool := orE (eqD G x y) (eqY (eqE 20 G) G x y)
/-- x != y -/
def neY (G : Gh) : Va → Va → Option Bool
  | .tup xs, .tup ys => eqT (eqE 20 G) xs ys
  | _, _ => none
def neXT (G : Gh) (x y : Va) : Option Bool := orE (eqD G x y) (neY G x y)
/-! ### keys -/
mutual
theorem nkV_eq : ∀ {a b : Va} {k l : NestedKey}, nkV a = some k → nkV b = some l → kEq a b = decide (k = l)
  | .non, b, k, l, h, h' => by
    cases h
    cases b <;> first
      | (cases h'; unfold kEq; simp; done)
      | (cases h'; unfold kEq; exact (decide_eq_false (fun z => nomatch z)).symm)
      | (exfalso; simp [nkV] at h'; done)
      | (simp only [nkV, Option.map_eq_some_iff] at h'; obtain ⟨_, _, rfl⟩ := h'; unfold kEq; exact (decide_eq_false (fun z => nomatch z)).symm)
  | .int i, b, k, l, h, h' => by
    cases h
    cases b <;> first
      | (cases h'; unfold kEq; simp; done)
      | (cases h'; unfold kEq; exact (decide_eq_false (fun z => nomatch z)).symm)
      | (exfalso; simp [nkV] at h'; done)
      | (simp only [nkV, Option.map_eq_some_iff] at h'; obtain ⟨_, _, rfl⟩ := h'; unfold kEq; exact (decide_eq_false (fun z => nomatch z)).symm)
  | .str s, b, k, l, h, h' => by
    cases h
    cases b <;> first
      | (cases h'; unfold kEq; rw [← toS_dec]; simp only [NestedKey.text.injEq]; done)
      | (cases h'; unfold kEq; exact (decide_eq_false (fun z => nomatch z)).symm)
      | (exfalso; simp [nkV] at h'; done)
      | (simp only [nkV, Option.map_eq_some_iff] at h'; obtain ⟨_, _, rfl⟩ := h'; unfold kEq; exact (decide_eq_false (fun z => nomatch z)).symm)
  | .tup xs, b, k, l, h, h' => by
    simp only [nkV, Option.map_eq_some_iff] at h
    obtain ⟨ks, h1, rfl⟩ := h
    cases b <;> first
      | (exfalso; simp [nkV] at h'; done)
      | (cases h'; unfold kEq; exact (decide_eq_false (fun z => nomatch z)).symm)
      | skip
    rename_i ys
    simp only [nkV, Option.map_eq_some_iff] at h'
    obtain ⟨ls, h2, rfl⟩ := h'
    unfold kEq
    rw [nkVs_eq h1 h2]
    simp only [NestedKey.tup.injEq]
  | .bl _, _, _, _, h, _ => by simp [nkV] at h
  | .ref _, _, _, _, h, _ => by simp [nkV] at h
  | .cl _, _, _, _, h, _ => by simp [nkV] at h
  | .ty _, _, _, _, h, _ => by simp [nkV] at h
  | .xr _ _, _, _, _, h, _ => by simp [nkV] at h
theorem nkVs_eq : ∀ {a b : List Va} {k l : List NestedKey}, nkVs a = some k → nkVs b = some l → kEqs a b = decide (k = l)
  | [], [], _, _, h, h' => by cases h; cases h'; unfold kEqs; simp
  | [], y :: ys, _, _, h, h' => by
    cases h
    simp only [nkVs, Option.bind_eq_some_iff, Option.map_eq_some_iff] at h'
    obtain ⟨_, _, _, _, rfl⟩ := h'
    unfold kEqs; simp
  | x :: xs, [], _, _, h, h' => by
    cases h'
    simp only [nkVs, Option.bind_eq_some_iff, Option.map_eq_some_iff] at h
    obtain ⟨_, _, _, _, rfl⟩ := h
    unfold kEqs; simp
  | x :: xs, y :: ys, _, _, h, h' => by
    simp only [nkVs, Option.bind_eq_some_iff, Option.map_eq_some_iff] at h h'
    obtain ⟨k1, a1, k2, a2, rfl⟩ := h
    obtain ⟨l1, b1, l2, b2, rfl⟩ := h'
    unfold kEqs
    rw [nkV_eq a1 b1, nkVs_eq a2 b2]
    simp only [List.cons.injEq, Bool.decide_and]
end
section
variable {S : Sx} {sc : Scope} {N : List Str} {lev : Nat} {E : EW} {X : Cx} {ρ : Nat → Addr} {G : Gh} {H : Hp} {n : Nat} {pins : List (Addr × Obj)} {s : Shared} {σ : L2.St}
mutual
/-- a key's value as it lies in the heap -/
theorem nk_is (I : Inv X pins σ H s) (hK : X.K = S.K) : ∀ {a : Va} {k : NestedKey} {v : V} {u : Value}, nkV a = some k → VR S ρ n H a v → RelV v u → NestedIs s.heap k u
  | .non, _, _, _, h, r, q => by cases h; unfold VR at r; subst r; cases q; exact .none
  | .int i, _, _, _, h, r, q => by cases h; unfold VR at r; subst r; obtain ⟨t, rfl⟩ := q; exact .int i t
  | .str x, _, _, _, h, r, q => by cases h; unfold VR at r; subst r; obtain ⟨t, rfl⟩ := q; exact .text _ t
  | .tup xs, _, _, _, h, r, q => by
    simp only [nkV, Option.map_eq_some_iff] at h
    obtain ⟨ks, h1, rfl⟩ := h
    unfold VR at r
    obtain ⟨a, ys, rfl, h2, h3⟩ := r
    obtain ⟨its, rv, ⟨o, ho, hc, m, hd⟩, _⟩ := I.tuple (by rw [hK]; exact h2)
    cases (show _ = Value.ref a from q)
    exact .tup ho hc hd (by simpa using nks_is I hK h1 h3 rv)
  | .bl _, _, _, _, h, _, _ => by simp [nkV] at h
  | .ref _, _, _, _, h, _, _ => by simp [nkV] at h
  | .cl _, _, _, _, h, _, _ => by simp [nkV] at h
  | .ty _, _, _, _, h, _, _ => by simp [nkV] at h
  | .xr _ _, _, _, _, h, _, _ => by simp [nkV] at h
theorem nks_is (I : Inv X pins σ H s) (hK : X.K = S.K) : ∀ {a : List Va} {k : List NestedKey} {v : List V} {u : List Value}, nkVs a = some k → VRs S ρ n H a v → Vals v u → NestedAll s.heap k u
  | [], _, _, _, h, r, q => by cases h; unfold VRs at r; subst r; cases q; exact .nil
  | x :: xs, _, _, _, h, r, q => by
    simp only [nkVs, Option.bind_eq_some_iff, Option.map_eq_some_iff] at h
    obtain ⟨k1, a1, k2, a2, rfl⟩ := h
    unfold VRs at r
    obtain ⟨y, t, rfl, r1, r2⟩ := r
    cases q with
    | cons q1 q2 => exact .cons (nk_is I hK a1 r1 q1) (nks_is I hK a2 r2 q2)
end
theorem dtu_of (R : Rl S ρ G H) {m : Nat} {lk : Bool} {kvs : List (Va × Va)} (h : G[m]? = some (.dtu lk kvs)) : ∃ xs, Rd H (ρ m) (dN S.w (ρ m) xs) ∧ DRt S ρ G.length H kvs xs := by
  have ob := R.ob m _ h
  cases lk with
  | false =>
    obtain ⟨ks, h1, h2⟩ := ob
    exact ⟨ks, .inl h1, h2⟩
  | true =>
    obtain ⟨o, ks, h1, h2⟩ := ob
    exact ⟨ks, .inr ⟨o, h1⟩, h2⟩
theorem drt_is (I : Inv X pins σ H s) (hK : X.K = S.K) : ∀ {kvs : List (Va × Va)} {xs : List (NestedKey × Addr × Value)}, DRt S ρ n H kvs xs → ∀ x ∈ xs, NestedIs s.heap x.1 (.ref x.2.1) ∧ x.1.depth ≤ 8
  | [], _, h => by cases h; intro x hx; cases hx
  | (k, v) :: kvs, _, h => by
    obtain ⟨k', b, u, y, r, rfl, h2, h3, h4, h5, h6, h7⟩ := h
    intro x hx
    rcases List.mem_cons.mp hx with z | z
    · subst z
      exact ⟨nk_is I hK h2 h4 rfl, h3⟩
    · exact drt_is I hK h7 x z
/-- the dict as the library's rules want it -/
theorem dtu_H (I : Inv X pins σ H s) (o : Okx S sc N lev E X) {a : Addr} {kvs : List (Va × Va)} {xs : List (NestedKey × Addr × Value)} (hr : Rd H a (dN S.w a xs)) (hd : DRt S ρ n H kvs xs) :
    xs.length ≤ sizeLine ∧ (a == sysModules) = false ∧ s.heap.DictOfH (nestedKind X.prog X.w) a xs := by
  have ok := hr.ok I.hok
  obtain ⟨⟨ob, es, ep, h1, h2, h3, h4, h5, h6, h7⟩, _⟩ := ok
  refine ⟨h4, h5, ob, es, ep, h1, h2, h3, ?_, drt_is I o.K hd, h7⟩
  rw [h6, o.w]; rfl
theorem drt_len : ∀ {kvs : List (Va × Va)} {xs : List (NestedKey × Addr × Value)}, DRt S ρ n H kvs xs → xs.length = kvs.length
  | [], _, h => by cases h; rfl
  | (k, v) :: kvs, _, h => by
    obtain ⟨k', b, u, y, r, rfl, h2, h3, h4, h5, h6, h7⟩ := h
    simp [drt_len h7]
theorem drk_len : ∀ {kvs : List (Va × Va)} {xs : List (Key × V)}, DRk S ρ n H kvs xs → xs.length = kvs.length
  | [], _, h => by cases h; rfl
  | (k, v) :: kvs, _, h => by
    obtain ⟨k', y, r, rfl, h2, h3, h7⟩ := h
    simp [drk_len h7]
/-- what a key finds -/
theorem drt_get {k : Va} {k' : NestedKey} (hk : nkV k = some k') : ∀ {kvs : List (Va × Va)} {xs : List (NestedKey × Addr × Value)}, DRt S ρ n H kvs xs →
    (dGet kvs k = none ∧ atKey xs k' = none) ∨ ∃ x b u y, dGet kvs k = some x ∧ atKey xs k' = some (b, u) ∧ VR S ρ n H x y ∧ RelV y u
  | [], _, h => by cases h; exact .inl ⟨rfl, rfl⟩
  | (a, x) :: kvs, _, h => by
    obtain ⟨a', b, u, y, r, rfl, h2, h3, h4, h5, h6, h7⟩ := h
    have e := nkV_eq h2 hk
    by_cases q : a' = k'
    · rw [decide_eq_true q] at e
      refine .inr ⟨x, b, u, y, ?_, ?_, h5, h6⟩
      · unfold dGet; rw [List.find?_cons, e]; rfl
      · unfold atKey; rw [List.find?_cons, decide_eq_true q]; rfl
    · rw [decide_eq_false q] at e
      have g : dGet ((a, x) :: kvs) k = dGet kvs k := by unfold dGet; rw [List.find?_cons, e]
      have g2 : atKey ((a', b, u) :: r) k' = atKey r k' := by unfold atKey; rw [List.find?_cons, decide_eq_false q]
      rw [g, g2]
      exact drt_get hk h7
/-! ### soundness -/
mutual
theorem toD_depth : ∀ (k : Nat) (G : Gh) (x : Va) (d : PyData), toD k G x = some d → d.depth ≤ k
  | k, G, .non, d, h => by cases k <;> (cases h; exact Nat.zero_le _)
  | k, G, .bl b, d, h => by cases k <;> (cases h; exact Nat.zero_le _)
  | k, G, .int i, d, h => by cases k <;> (cases h; exact Nat.zero_le _)
  | k, G, .str s, d, h => by cases k <;> (cases h; exact Nat.zero_le _)
  | k + 1, G, .tup xs, d, h => by
    have e : (mapO (toD k G) xs).map PyData.tuple = some d := h
    obtain ⟨ds, h1, rfl⟩ := Option.map_eq_some_iff.mp e
    have := toDs_depth k G xs ds h1
    simp only [PyData.depth]; omega
  | k + 1, G, .ref n, d, h => by
    have e : ((lstO G[n]?).bind (mapO (toD k G))).map PyData.list = some d := h
    obtain ⟨ds, h1, rfl⟩ := Option.map_eq_some_iff.mp e
    obtain ⟨xs, h0, h1⟩ := Option.bind_eq_some_iff.mp h1
    have := toDs_depth k G xs ds h1
    simp only [PyData.depth]; omega
  | 0, G, .tup xs, d, h => by simp [toD] at h
  | 0, G, .ref n, d, h => by simp [toD] at h
  | k, G, .cl _, d, h => by cases k <;> simp [toD] at h
  | k, G, .ty _, d, h => by cases k <;> simp [toD] at h
  | k, G, .xr _ _, d, h => by cases k <;> simp [toD] at h
theorem toDs_depth : ∀ (k : Nat) (G : Gh) (xs : List Va) (ds : List PyData), mapO (toD k G) xs = some ds → PyData.depthAll ds ≤ k
  | k, G, [], ds, h => by cases h; exact Nat.zero_le _
  | k, G, x :: xs, ds, h => by
    obtain ⟨d, ds', h1, h2, rfl⟩ := mapO_cons h
    have a := toD_depth k G x d h1
    have b := toDs_depth k G xs ds' h2
    simp only [PyData.depthAll]; omega
end
theorem eqSc_flat {x y : Va} {b : Bool} (h : eqSc x y = some b) : flatA x = true ∧ flatA y = true ∧ eqA x y = b := by
  unfold eqSc at h
  split at h <;> first
    | (cases h; exact ⟨rfl, rfl, rfl⟩)
    | (cases h; refine ⟨rfl, rfl, ?_⟩; simp only [eqA, Bool.beq_eq_decide_eq]; done)
    | (cases h; refine ⟨rfl, rfl, ?_⟩; simp only [eqA, beq_eq_decide]; done)
    | (cases h; refine ⟨rfl, rfl, ?_⟩; simp [eqA]; done)
    | cases h
theorem eqA_same {x y : Va} {v : V} (fx : flatA x = true) (fy : flatA y = true) (r1 : VR S ρ n H x v) (r2 : VR S ρ n H y v) : eqA x y = true := by
  cases x <;> first | (cases fx; done) | skip
  all_goals (unfold VR at r1; subst r1)
  all_goals (cases y <;> first | (cases fy; done) | skip)
  all_goals (unfold VR at r2)
  all_goals first | (cases r2; done) | skip
  all_goals first
    | rfl
    | (cases r2; simp [eqA]; done)
    | (injection r2 with z; simp [eqA, toS_inj z]; done)
    | (injection r2 with z; simp [eqA, z]; done)
theorem eqD_ok (R : Rl S ρ G H) (I : Inv X pins σ H s) (o : Okx S sc N lev E X) {A : Around} (hu : A.units + 30 < cLine) {x y : Va} {v1 v2 : V} {u1 u2 : Value} {b : Bool} (h : eqD G x y = some b) (r1 : VR S ρ G.length H x v1) (r2 : VR S ρ G.length H y v2) (q1 : RelV v1 u1) (q2 : RelV v2 u2) :
    EqAt A s u1 u2 b ∧ (u1 = u2 → b = true) := by
  unfold eqD at h
  split at h
  · rename_i c hc
    cases h
    obtain ⟨f1, f2, e⟩ := eqSc_flat hc
    refine ⟨?_, fun hu => ?_⟩
    · rw [← e, ← vr_eqA r1 r2 f1 f2]
      exact eqAt_V q1 q2 (vr_flat r1 f1) (vr_flat r2 f2)
    · subst hu
      have : v1 = v2 := q1.inj q2
      subst this
      rw [← e]
      exact eqA_same f1 f2 r1 r2
  · unfold eqDD at h
    split at h
    · rename_i d e' hd he
      split at h
      · rename_i hz
        cases h
        obtain ⟨as, p1⟩ := Dp.reads I d v1 u1 (by rw [o.K]; exact toD_ok R _ _ _ _ hd r1) q1
        obtain ⟨bs, p2⟩ := Dp.reads I e' v2 u2 (by rw [o.K]; exact toD_ok R _ _ _ _ he r2) q2
        have c1 := SeqAt.canLay_of_shaped hz.1
        have c2 := SeqAt.canLay_of_shaped hz.2
        refine ⟨SeqAt.eqAt_reads d e' A s u1 u2 as bs p1 p2 c1 c2 ?_, fun hu => ?_⟩
        · have := toD_depth _ _ _ _ hd
          omega
        · subst hu
          have : d = e' := SeqAt.Reads.unique d e' u1 as bs c1 p1 p2
          subst this
          exact SeqAt.eqv_refl d c1
      · cases h
    · cases h
end
end VM
/-! VNb: == of data with dicts among them: soundness -/
namespace VM
open PySem PySem.Spec PyProof.Rows L2 VMQ
open PySem.SeqAt (EqP EqAt)
section
variable {S : Sx} {sc : Scope} {N : List Str} {lev : Nat} {E : EW} {X : Cx} {ρ : Nat → Addr} {G : Gh} {H : Hp} {n : Nat} {pins : List (Addr × Obj)} {s : Shared} {σ : L2.St}
/-- two parts are compared as f says -/
def FOk (S : Sx) (X : Cx) (ρ : Nat → Addr) (n : Nat) (H : Hp) (s : Shared) (A : Around) (f : Va → Va → Option Bool) : Prop :=
  ∀ (x y : Va) (v1 v2 : V) (u1 u2 : Value) (b : Bool), f x y = some b → VR S ρ n H x v1 → VR S ρ n H y v2 → RelV v1 u1 → RelV v2 u2 → EqP X.prog X.w A s u1 u2 b ∧ (u1 = u2 → b = true)
/-- what is known of two rows of items, as far as the comparison goes -/
def LazyL (X : Cx) (A : Around) (s : Shared) (us ws : List Value) (e : Nat → Bool) : Prop := ∀ j (h1 : j < us.length) (h2 : j < ws.length), (∀ i, i < j → e i = true) → EqP X.prog X.w A s us[j] ws[j] (e j)
theorem ansOf_succ (e : Nat → Bool) (m n : Nat) : ansOf e (m + 1) (n + 1) = (e 0 && ansOf (fun j => e (j + 1)) m n) := by
  unfold ansOf
  have h : min (m + 1) (n + 1) = min m n + 1 := by omega
  rw [h, List.range_succ_eq_map, List.all_cons, List.all_map]
  have e2 : (m + 1 == n + 1) = (m == n) := by simp
  rw [e2, Bool.and_assoc]
  rfl
theorem eqT_ok {A : Around} {f : Va → Va → Option Bool} (F : FOk S X ρ n H s A f) : ∀ {xs ys : List Va} {v1 v2 : List V} {u1 u2 : List Value} {b : Bool}, eqT f xs ys = some b → VRs S ρ n H xs v1 → VRs S ρ n H ys v2 → Vals v1 u1 → Vals v2 u2 →
    ∃ e, LazyL X A s u1 u2 e ∧ ansOf e u1.length u2.length = b ∧ (u1 = u2 → b = true)
  | [], [], _, _, _, _, _, h, r1, r2, q1, q2 => by
    cases h
    unfold VRs at r1 r2; subst r1; subst r2; cases q1; cases q2
    exact ⟨fun _ => true, fun j h1 => absurd h1 (Nat.not_lt_zero j), rfl, fun _ => rfl⟩
  | [], y :: ys, _, _, _, _, _, h, r1, r2, q1, q2 => by
    cases h
    unfold VRs at r1 r2; subst r1
    obtain ⟨y', t, rfl, _, _⟩ := r2
    cases q1
    cases q2
    exact ⟨fun _ => true, fun j h1 => absurd h1 (Nat.not_lt_zero j), by simp [ansOf], fun z => by cases z⟩
  | x :: xs, [], _, _, _, _, _, h, r1, r2, q1, q2 => by
    cases h
    unfold VRs at r1 r2; subst r2
    obtain ⟨y', t, rfl, _, _⟩ := r1
    cases q1
    cases q2
    exact ⟨fun _ => true, fun j _ h2 => absurd h2 (Nat.not_lt_zero j), by simp [ansOf], fun z => by cases z⟩
  | x :: xs, y :: ys, _, _, _, _, b, h, r1, r2, q1, q2 => by
    obtain ⟨c, hc, h⟩ := Option.bind_eq_some_iff.mp (show (f x y).bind (fun b => if b = true then eqT f xs ys else some false) = some b from h)
    unfold VRs at r1 r2
    obtain ⟨x', t1, rfl, rx, rxs⟩ := r1
    obtain ⟨y', t2, rfl, ry, rys⟩ := r2
    cases q1 with
    | cons qx qxs =>
      cases q2 with
      | cons qy qys =>
        obtain ⟨hE, hS⟩ := F x y _ _ _ _ c hc rx ry qx qy
        cases c with
        | false =>
          cases h
          refine ⟨fun _ => false, fun j h1 h2 hp => ?_, ?_, fun z => ?_⟩
          · cases j with
            | zero => exact hE
            | succ j => exact absurd (hp 0 (Nat.succ_pos j)) (by decide)
          · rw [List.length_cons, List.length_cons, ansOf_succ]; rfl
          · injection z with z1 z2
            exact hS z1
        | true =>
          have h : eqT f xs ys = some b := h
          obtain ⟨e, e1, e2, e3⟩ := eqT_ok F h rxs rys qxs qys
          refine ⟨fun | 0 => true | j + 1 => e j, fun j h1 h2 hp => ?_, ?_, fun z => ?_⟩
          · cases j with
            | zero => exact hE
            | succ j => exact e1 j (Nat.lt_of_succ_lt_succ h1) (Nat.lt_of_succ_lt_succ h2) fun i hi => hp (i + 1) (Nat.succ_lt_succ hi)
          · rw [List.length_cons, List.length_cons, ansOf_succ]
            exact e2
          · injection z with z1 z2
            exact e3 z2
theorem lazy_of {A : Around} {us ws : List Value} {e : Nat → Bool} (h : LazyL X A s us ws e) : Lazy X.prog X.w A s us.toArray ws.toArray e := fun j h1 h2 hp => by
  have := h j (by simpa using h1) (by simpa using h2) hp
  simpa using this
/-! ### dicts -/
theorem eqK_dK {A : Around} {f : Va → Va → Option Bool} (F : FOk S X ρ n H s A f) {ls : List (Va × Va)} {kl : List (Key × V)} {vb : List (Key × Value)} (hl : DRk S ρ n H ls kl) (rb : KV kl vb) :
    ∀ {kvs : List (Va × Va)} {ks : List (Key × V)} {va : List (Key × Value)} {b : Bool}, eqK f ls kvs = some b → DRk S ρ n H kvs ks → KV ks va → PySem.W.KeqHitsP X.prog X.w A s vb va b
  | [], _, _, _, h, d, r => by
    cases h
    cases d
    unfold KV at r; cases r
    exact .nil
  | (k, x) :: kvs, _, _, b, h, d, r => by
    obtain ⟨k', y, t, rfl, h1, h2, h3⟩ := d
    have h : eqK1 f x (eqK f ls kvs) (dGet ls k) = some b := h
    unfold KV at r
    cases r with
    | @cons _ q _ qs hq ht =>
      obtain ⟨key, v⟩ := q
      obtain ⟨hk, hv⟩ := hq
      have hk : k' = key := hk
      subst hk
      rcases drk_get h1 hl with ⟨g1, g2⟩ | ⟨z, w, g1, g2, g3⟩
      · rw [g1] at h
        cases h
        have := rb.val k'
        rw [g2] at this
        refine .miss ?_
        cases hz : valueAt vb k' with
        | none => rfl
        | some u => rw [hz] at this; cases this
      · rw [g1] at h
        have h : ((f x z).bind fun b => (eqK f ls kvs).map fun c => b && c) = some b := h
        obtain ⟨c, hc, h⟩ := Option.bind_eq_some_iff.mp h
        obtain ⟨c', hc', rfl⟩ := Option.map_eq_some_iff.mp h
        have := rb.val k'
        rw [g2] at this
        obtain ⟨u, hu, ru⟩ := this.some_of
        exact .hit hu (F x z _ _ _ _ c hc h2 g3 hv ru).1 (eqK_dK F hl rb hc' h3 ht)
theorem eqK_dN {A : Around} {f : Va → Va → Option Bool} (F : FOk S X ρ n H s A f) {ls : List (Va × Va)} {kl : List (NestedKey × Addr × Value)} (hl : DRt S ρ n H ls kl) :
    ∀ {kvs : List (Va × Va)} {ks : List (NestedKey × Addr × Value)} {b : Bool}, eqK f ls kvs = some b → DRt S ρ n H kvs ks → VMQ.Hits X.prog X.w A s kl ks b
  | [], _, _, h, d => by
    cases h
    cases d
    exact .nil
  | (k, x) :: kvs, _, b, h, d => by
    obtain ⟨k', a, v, y, t, rfl, h1, h2, h3, h4, h5, h6⟩ := d
    have h : eqK1 f x (eqK f ls kvs) (dGet ls k) = some b := h
    rcases drt_get h1 hl with ⟨g1, g2⟩ | ⟨z, c, u, w, g1, g2, g3, g4⟩
    · rw [g1] at h
      cases h
      exact .miss g2
    · rw [g1] at h
      have h : ((f x z).bind fun b => (eqK f ls kvs).map fun c => b && c) = some b := h
      obtain ⟨e, he, h⟩ := Option.bind_eq_some_iff.mp h
      obtain ⟨c', hc', rfl⟩ := Option.map_eq_some_iff.mp h
      have hE := (F x z _ _ _ _ e he h4 g3 h5 g4).1
      cases e with
      | true => exact .hit g2 hE (eqK_dN F hl hc' h6)
      | false => exact .diff g2 hE
theorem eqKs_inv {f : Va → Va → Option Bool} {xs ys : List (Va × Va)} {b : Bool} (h : eqKs f xs ys = some b) : (xs.length = ys.length ∧ eqK f ys xs = some b) ∨ (xs.length ≠ ys.length ∧ b = false) := by
  unfold eqKs at h
  split at h
  · rename_i e; exact .inl ⟨e, h⟩
  · rename_i e; cases h; exact .inr ⟨e, rfl⟩
theorem len_and {a b m n : Nat} {r : Bool} (ha : a = m) (hb : b = n) (h : (m = n ∧ r = r) ∨ (m ≠ n ∧ r = false)) : (a == b && r) = r := by
  subst ha; subst hb
  rcases h with ⟨e, _⟩ | ⟨_, e⟩
  · rw [e]; simp
  · rw [e]; simp
/-! ### two parts, neither of them the other's very object -/
theorem eqY_ok (R : Rl S ρ G H) (I : Inv X pins σ H s) (o : Okx S sc N lev E X) {A : Around} (hu : A.units + 9 < cLine) {f : Va → Va → Option Bool} (F : FOk S X ρ G.length H s A.in1 f) {x y : Va} {v1 v2 : V} {u1 u2 : Value} {b : Bool} (h : eqY f G x y = some b) (r1 : VR S ρ G.length H x v1) (r2 : VR S ρ G.length H y v2) (q1 : RelV v1 u1) (q2 : RelV v2 u2) :
    (∀ (E Q : Value → Shared → Prop), Q (.bool b) s → wpAny (model X.prog X.w) A (richCompare .Eq u1 u2) Q E s) ∧ (∃ a c, u1 = .ref a ∧ u2 = .ref c) ∧ (u1 = u2 → sameR x y = false → b = true) := by
  cases x with
  | tup xs =>
    cases y with
    | tup ys =>
      have h : eqT f xs ys = some b := h
      obtain ⟨a1, zs1, rfl, s1, t1⟩ := vr_tup r1
      obtain ⟨a2, zs2, rfl, s2, t2⟩ := vr_tup r2
      cases (show u1 = Value.ref a1 from q1)
      cases (show u2 = Value.ref a2 from q2)
      obtain ⟨i1, w1, p1, _⟩ := I.tuple (by rw [o.K]; exact s1)
      obtain ⟨i2, w2, p2, _⟩ := I.tuple (by rw [o.K]; exact s2)
      obtain ⟨e, e1, e2, e3⟩ := eqT_ok F h t1 t2 w1 w2
      refine ⟨fun E Q q => rc_tups p1 p2 (by omega) (lazy_of e1) E Q (by rw [List.size_toArray, List.size_toArray, e2]; exact q), ⟨a1, a2, rfl, rfl⟩, fun z _ => e3 ?_⟩
      injection z with z
      subst z
      obtain ⟨o1, g1, c1, n1, d1⟩ := p1
      obtain ⟨o2, g2, c2, n2, d2⟩ := p2
      rw [g1] at g2
      cases g2
      rw [d1] at d2
      injection d2 with d3 _
      simpa using d3
    | _ => cases h
  | ref m =>
    cases y with
    | ref k =>
      obtain ⟨hm, rfl⟩ := vr_ref r1
      obtain ⟨hk, rfl⟩ := vr_ref r2
      cases (show u1 = Value.ref (ρ m) from q1)
      cases (show u2 = Value.ref (ρ k) from q2)
      have h : eqO f G[m]? G[k]? = some b := h
      obtain ⟨w1, hw1⟩ := get_of hm
      obtain ⟨w2, hw2⟩ := get_of hk
      have apart : w1.tr = true → w2.tr = true → Value.ref (ρ m) = Value.ref (ρ k) → sameR (.ref m) (.ref k) = false → b = true := fun t1 t2 z hs => by
        injection z with z
        have := R.inj m k w1 w2 hw1 hw2 t1 t2 z
        subst this
        exact absurd hs (by simp [sameR])
      rw [hw1, hw2] at h
      cases w1 with
      | dct l1 xs =>
        cases w2 with
        | dct l2 ys =>
          have h : eqKs f xs ys = some b := h
          obtain ⟨k1, a1, a2⟩ := dget_of R hw1
          obtain ⟨k2, b1, b2⟩ := dget_of R hw2
          obtain ⟨_, y1, va, ra, da⟩ := dk_rd I.hok a1
          obtain ⟨_, y2, vb, rb, db⟩ := dk_rd I.hok b1
          have la : va.length = xs.length := by rw [← ra.length, drk_len a2]
          have lb : vb.length = ys.length := by rw [← rb.length, drk_len b2]
          refine ⟨fun E Q q => ?_, ⟨_, _, rfl, rfl⟩, apart rfl rfl⟩
          refine PySem.W.rcP_dicts (knd := mixKind X.prog X.w) (r := b) y1 y2 da db (by omega) (fun hl => ?_) E Q ?_
          · rcases eqKs_inv h with ⟨_, e⟩ | ⟨e, _⟩
            · exact eqK_dK F b2 rb e a2 ra
            · exact absurd (la.symm.trans (hl.trans lb)) e
          · rw [len_and la lb ((eqKs_inv h).imp (fun z => ⟨z.1, rfl⟩) id)]
            exact q
        | _ => cases h
      | dtu l1 xs =>
        cases w2 with
        | dtu l2 ys =>
          have h : eqKs f xs ys = some b := h
          obtain ⟨k1, a1, a2⟩ := dtu_of R hw1
          obtain ⟨k2, b1, b2⟩ := dtu_of R hw2
          obtain ⟨_, y1, da⟩ := dtu_H I o a1 a2
          obtain ⟨_, y2, db⟩ := dtu_H I o b1 b2
          have la : k1.length = xs.length := drt_len a2
          have lb : k2.length = ys.length := drt_len b2
          refine ⟨fun E Q q => ?_, ⟨_, _, rfl, rfl⟩, apart rfl rfl⟩
          refine rc_dictH (knd := nestedKind X.prog X.w) (r := b) (show A.units + 1 + 8 < cLine by omega) y1 y2 da db (by omega) (fun hl => ?_) E Q ?_
          · rcases eqKs_inv h with ⟨_, e⟩ | ⟨e, _⟩
            · exact eqK_dN F b2 e a2
            · exact absurd (la.symm.trans (hl.trans lb)) e
          · rw [len_and la lb ((eqKs_inv h).imp (fun z => ⟨z.1, rfl⟩) id)]
            exact q
        | _ => cases h
      | _ => cases h
    | _ => cases h
  | _ => cases h
theorem eqE_ok (R : Rl S ρ G H) (I : Inv X pins σ H s) (o : Okx S sc N lev E X) : ∀ (k : Nat) (A : Around), A.units + k + 30 < cLine → FOk S X ρ G.length H s A (eqE k G)
  | 0, _, _ => fun x y _ _ _ _ _ h => by cases h
  | k + 1, A, hu => fun x y v1 v2 u1 u2 b h r1 r2 q1 q2 => by
    unfold eqE at h
    split at h
    · rename_i hs
      cases h
      refine ⟨?_, fun _ => rfl⟩
      cases x <;> first | (cases hs; done) | skip
      cases y <;> first | (cases hs; done) | skip
      rename_i m n
      have : m = n := by simpa [sameR] using hs
      subst this
      obtain ⟨_, rfl⟩ := vr_ref r1
      obtain ⟨_, rfl⟩ := vr_ref r2
      cases (show u1 = _ from q1)
      cases (show u2 = _ from q2)
      exact (SeqAt.EqAt.same _).eqP
    · rename_i hs
      have hs : sameR x y = false := by simpa using hs
      cases hd : eqD G x y with
      | some c =>
        rw [hd] at h
        have h : some c = some b := h
        cases h
        obtain ⟨a1, a2⟩ := eqD_ok (A := A) R I o (by omega) hd r1 r2 q1 q2
        exact ⟨a1.eqP, a2⟩
      | none =>
        rw [hd] at h
        have h : eqY (eqE k G) G x y = some b := h
        obtain ⟨a1, ⟨a, c, rfl, rfl⟩, a3⟩ := eqY_ok (A := A) R I o (by omega) (eqE_ok R I o k A.in1 (by show A.units + 1 + k + 30 < cLine; omega)) h r1 r2 q1 q2
        refine ⟨?_, fun z => a3 z hs⟩
        by_cases e : a = c
        · subst e
          rw [a3 rfl hs]
          exact (SeqAt.EqAt.same _).eqP
        · exact SeqAt.eqP_refs e a1
/-! ### x == y, x != y -/
def opEqX : Op2 := fun x y G => (eqXT G x y).map fun b => (.bl b, G)
def opNeX : Op2 := fun x y G => (neXT G x y).map fun b => (.bl (!b), G)
theorem orE_inv {a b : Option Bool} {c : Bool} (h : orE a b = some c) : a = some c ∨ (a = none ∧ b = some c) := by
  cases a with
  | none => exact .inr ⟨rfl, h⟩
  | some x => exact .inl h
theorem eqX_ok (o : Okx S sc N lev E X) : OpR X (compareOp .Eq) (rO2 S opEqX) := by
  intro pins s σ H x y v u Q I rx ry ⟨ρ, G, a, b, R, ra, rb, p⟩
  obtain ⟨w, G', e, k⟩ := id p
  obtain ⟨c, h1, h2⟩ := Option.map_eq_some_iff.mp e
  have hu := o.un
  rcases orE_inv h1 with h | ⟨h0, h⟩
  · refine eq_ok o pins s σ H x y v u Q I rx ry ⟨ρ, G, a, b, R, ra, rb, ?_⟩
    have : opEq a b G = opEqX a b G := by
      show (eqD G a b).map _ = (eqXT G a b).map _
      rw [h1, h]
    rw [this]; exact p
  · cases h2
    obtain ⟨a1, _⟩ := eqY_ok (A := X.A) R I o (by omega) (eqE_ok R I o 20 X.A.in1 (by show X.A.units + 1 + 20 + 30 < cLine; omega)) h ra rb rx ry
    exact a1 _ _ ⟨.bl c, H, I, rfl, k ρ H _ (Ext.refl _ _ _) R (by unfold VR; rfl)⟩
theorem neX_ok (o : Okx S sc N lev E X) : OpR X (compareOp .NotEq) (rO2 S opNeX) := by
  intro pins s σ H x y v u Q I rx ry ⟨ρ, G, a, b, R, ra, rb, p⟩
  obtain ⟨w, G', e, k⟩ := id p
  obtain ⟨c, h1, h2⟩ := Option.map_eq_some_iff.mp e
  have hu := o.un
  rcases orE_inv h1 with h | ⟨h0, h⟩
  · refine ne_ok o pins s σ H x y v u Q I rx ry ⟨ρ, G, a, b, R, ra, rb, ?_⟩
    have : opNe a b G = opNeX a b G := by
      show (eqD G a b).map _ = (neXT G a b).map _
      rw [h1, h]
    rw [this]; exact p
  · cases h2
    cases a with
    | tup xs =>
      cases b with
      | tup ys =>
        have h : eqT (eqE 20 G) xs ys = some c := h
        obtain ⟨a1, zs1, rfl, s1, t1⟩ := vr_tup ra
        obtain ⟨a2, zs2, rfl, s2, t2⟩ := vr_tup rb
        cases (show v = Value.ref a1 from rx)
        cases (show u = Value.ref a2 from ry)
        obtain ⟨i1, w1, p1, _⟩ := I.tuple (by rw [o.K]; exact s1)
        obtain ⟨i2, w2, p2, _⟩ := I.tuple (by rw [o.K]; exact s2)
        obtain ⟨e, e1, e2, e3⟩ := eqT_ok (eqE_ok R I o 20 X.A.in1 (by show X.A.units + 1 + 20 + 30 < cLine; omega)) h t1 t2 w1 w2
        refine rc_tupsN p1 p2 (by omega) (lazy_of e1) _ _ ?_
        rw [List.size_toArray, List.size_toArray, e2]
        exact ⟨.bl (!c), H, I, rfl, k ρ H _ (Ext.refl _ _ _) R (by unfold VR; rfl)⟩
      | _ => cases h
    | _ => cases h
end
end VM
/-! VNc: == and != by an own __eq__ -/
namespace VMQ
open PySem PySem.Spec PyProof.Rows PySem.SeqAt PySem.W
section
variable {M : Model} {prog : Program} {w : World} {A : Around} {E : Value → Shared → Prop} {s : Shared} {K : PySem.W.Frag} {x C f L : Addr} {ox : Obj} {od : Option Obj} {h₀ : Heap} {m : Str → Option Value} {b tb : Value}
theorem bound_ne {args : List Value} {Q : Option Value → Shared → Prop} (Y : K.In s.heap) (J : InstAt s.heap x ox C od) (hs : findIn K (.ref C) "__ne__" = some (some (.builtin "object.__ne__")))
    (h : wpAny M A (call (.builtin "object.__ne__") (.ref x :: args)) (fun v => Q (some v)) E s) : wpAny M A (callSpecialIfBound? (.ref x) "__ne__" args) Q E s := by
  simp only [callSpecialIfBound?, bindSpecialIfBound?]
  refine wpAny_holding (wpAny_bind (wpAny_bind (wpAny_bind (J.type.here ((looks_findIn Y hs).here ?_)))))
  refine wpAny_bind (wpAny_askSetting (wpAny_ite ?_))
  have last : wpAny M A (call (.builtin "object.__ne__") ([.ref x] ++ args) >>= fun v => pure (some v)) Q E s := wpAny_bind (wpAny_mono h (fun v s' z => wpAny_pure z) fun _ _ z => z)
  split
  · exact wpAny_bind (wpAny_of_eq (F.cmp_object.ne.bind _) (wpAny_pure (by exact last)))
  · exact wpAny_tryCatch (wpAny_bind (wpAny_of_eq (F.cmp_object.ne.bind _) (wpAny_pure (by exact last))))
theorem ne_entry {Q : Fin → Shared → Prop} (hu : A.units < cLine) (Y : K.In s.heap) (J : InstAt s.heap x ox C od) (hs : findIn K (.ref C) "__eq__" = some (some (.ref f))) (hf : isFn K (.ref f) = true)
    (h : wpAny (model prog w) A (call (.ref f) [.ref x, b]) (fun v s' => ∃ r, v = .bool r ∧ Q (.done (.ret (.bool (!r)))) s') E s) : wpAny (model prog w) A (Builtin.«object.__ne__» ⟨[.ref x, b], []⟩) Q E s := by
  unfold Builtin.«object.__ne__»
  repeat (first
    | with_reducible refine wpAny_cRoomFor hu ?_
    | (refine wpAny_bind (m := callSpecialIfBound? (.ref x) (Str.ofString "__eq__") [b])
        (ifBound_K Y J hs hf (wpAny_mono h (fun r s' hr => by
          obtain ⟨c, rfl, hq⟩ := hr
          repeat (first | exact hq | exact wpAny_pure hq | exact wpAny_truthy_bool hq | (refine wpAny_bind (m := truthy (.bool _)) (wpAny_truthy_bool ?_)) | wp_step)) fun _ _ e => e)))
    | wp_step)
theorem call_ne {Q : Value → Shared → Prop} (hu : A.units + 1 < cLine) (Y : K.In s.heap) (J : InstAt s.heap x ox C od) (hm : mroIn K C (.type "object") = some true) (hs : findIn K (.ref C) "__eq__" = some (some (.ref f))) (hf : isFn K (.ref f) = true)
    (h : wpAny (model prog w) A.in1 (call (.ref f) [.ref x, b]) (fun v s' => ∃ r, v = .bool r ∧ Q (.bool (!r)) s') E s) : wpAny (model prog w) A (call (.builtin "object.__ne__") [.ref x, b]) Q E s :=
  wpAny_call (codeAny_call_builtin F.cmp_object.ne.plain F.cmpEntry_ne (check_slot F.cmpKind_ne F.cmpSplit_ne (J.type.andThen (looks_mroIn Y hm)) (F.cmpArgs_ne _ _) (ne_entry (A := A.in1) hu Y J hs hf h)))
theorem rc_ne {Q : Value → Shared → Prop} (hu : A.units + 1 < cLine) (Y : K.In s.heap) (J : InstAt s.heap x ox C od) (hm : mroIn K C (.type "object") = some true) (hb : Looks (model prog w) s.heap (typeOf b) tb) (hn : notFirst K C tb = true)
    (hs : findIn K (.ref C) "__eq__" = some (some (.ref f))) (hne : findIn K (.ref C) "__ne__" = some (some (.builtin "object.__ne__"))) (hf : isFn K (.ref f) = true)
    (h : wpAny (model prog w) A.in1 (call (.ref f) [.ref x, b]) (fun v s' => ∃ r, v = .bool r ∧ Q (.bool (!r)) s') E s) : wpAny (model prog w) A (richCompare .NotEq (.ref x) b) Q E s := by
  have one : wpAny (model prog w) A (tryCompare (.ref x) "__ne__" b) (fun r s' => ∃ c, r = some (.bool c) ∧ Q (.bool c) s') E s := by
    unfold tryCompare
    exact wpAny_bind (bound_ne Y J hne (call_ne hu Y J hm hs hf (wpAny_mono h (fun v s' z => by
      obtain ⟨r, e, q⟩ := z
      exact ⟨r, e, wpAny_pure ⟨_, rfl, q⟩⟩) fun _ _ z => z)))
  simp only [richCompare, cmpInfo_NotEq, oneThing_ref]
  refine wpAny_holding (wpAny_bind (wpAny_cRoomFor (by omega) ?_))
  refine wpAny_bind (J.type.here (wpAny_bind (hb.here ?_)))
  split
  · rename_i q
    have e : subIn K tb (.ref C) = some false := by
      rcases Bool.or_eq_true_iff.mp hn with z | z
      · rw [beq_iff_eq.mp z] at q; simp at q
      · exact beq_iff_eq.mp z
    refine wpAny_bind ((looks_subIn Y e).here ?_)
    simp only [Bool.false_eq_true, if_false]
    refine wpAny_bind (wpAny_mono one (fun r s' z => ?_) fun _ _ z => z)
    obtain ⟨c, rfl, hq⟩ := z
    exact wpAny_pure hq
  · refine wpAny_bind (wpAny_pure ?_)
    simp only [Bool.false_eq_true, if_false]
    refine wpAny_bind (wpAny_mono one (fun r s' z => ?_) fun _ _ z => z)
    obtain ⟨c, rfl, hq⟩ := z
    exact wpAny_pure hq
theorem sub_ty {T : String} (e : ((PySem.fastBuiltinMro T).map fun l => l.all fun v => match v with | .ref _ => false | _ => true) = some true) : PySem.W.subIn K (.type T) (.ref C) = some false := by
  show (fastBuiltinMro T).map (·.contains (.ref C)) = some false
  cases h : fastBuiltinMro T with
  | none => rw [h] at e; cases e
  | some l =>
    rw [h] at e
    simp only [Option.map_some, Option.some.injEq] at e ⊢
    rw [List.all_eq_true] at e
    cases hc : l.contains (Value.ref C) with
    | false => rfl
    | true =>
      rw [List.contains_iff_mem] at hc
      exact absurd (e _ hc) (by simp)
end
end VMQ
/-! VNd: x == y, x != y: by an own __eq__, or of data with dicts among them -/
namespace VM
open PySem PySem.Spec PyProof.Rows L2 VMQ
def eqkO (S : Sx) : Option VO → Option Nat
  | some (.ins c _) => (S.cd c).eq
  | _ => none
def eqk (S : Sx) (G : Gh) : Va → Option Nat
  | .ref n => eqkO S G[n]?
  | _ => none
def insO : Option VO → Bool
  | some (.ins _ _) => true
  | _ => false
/-- what may stand at the right of an own == -/
def rgt (G : Gh) : Va → Bool
  | .tup _ => true
  | .int _ => true
  | .ref n => insO G[n]?
  | _ => false
def blR (neg : Bool) : Va → Gh → Res Va
  | .bl b, G => .ok (.bl (neg ^^ b)) G
  | _, _ => .no
def eqX2 (neg : Bool) (x y : Va) (G : Gh) : Option (Va × Gh) := if neg = true then opNeX x y G else opEqX x y G
def eqOwn (S : Sx) (neg : Bool) (x y : Va) (G : Gh) : Option Nat → Res Va
  | some k => if rgt G y = true then (noex (S.call k [x, y] G)).bind (blR neg) else .no
  | none => lift (eqX2 neg x y G)
def eqR (S : Sx) (neg : Bool) (x y : Va) (G : Gh) : Res Va := eqOwn S neg x y G (eqk S G x)
def rEq (S : Sx) (neg : Bool) : R2 := fun x y H Q => ∃ ρ G a b, Rl S ρ G H ∧ VR S ρ G.length H a x ∧ VR S ρ G.length H b y ∧ Post S (VR S) noE ρ G.length H Q (eqR S neg a b G)
section
variable {S : Sx} {sc : Scope} {N : List Str} {lev : Nat} {E : EW} {X : Cx} {ρ : Nat → Addr} {G : Gh} {H : Hp} {n : Nat} {pins : List (Addr × Obj)} {s : Shared} {σ : L2.St}
theorem tup_looks {M : Model} {h : Heap} {a : Addr} {its : Array Value} (p : IsTup h a its) : PySem.W.Looks M h (typeOf (.ref a)) (.type "tuple") := by
  obtain ⟨o, ho, hc, _⟩ := p
  exact hc ▸ (PySem.W.Looks.ld ho).andThen .now
/-- a call of one of the text's defs one level deeper -/
theorem Okx.run1 (o : Okx S sc N lev E X) {k : Nat} (hk : k < S.nf) {us : List Value} {vs : List V} {Q : VK} (I : Inv X pins σ H s) (r : Vals vs us)
    (h : ∃ ρ G as, Rl S ρ G H ∧ VRs S ρ G.length H as vs ∧ Post S (VR S) (E σ) ρ G.length H Q (S.call k as G)) : wpAny (model X.prog X.w) X.A.in1 (call (.ref (S.fa k)) us) (EP X pins σ Q) X.xe s := by
  obtain ⟨_, fd, ps, F, b, ha⟩ := o.good.fn k hk
  obtain ⟨ρ, G, as, R, va, p⟩ := h
  have hl : as.length = ps.length := by
    by_cases z : as.length = ps.length
    · exact z
    · rw [ha as G z] at p; exact p.elim
  have F' : FnOk X.prog X.w X.K X.mg X.base (CX S.P S.w) lev (S.fa k) fd ps (spV S k ps.length) := by rw [o.P, o.w, o.K, o.mg, o.base]; exact F
  have b' : Binds X.K fd ps [] := by rw [o.K]; exact b
  cases hq : S.hq with
  | true => rw [o.hc hq] at p; exact p.elim
  | false =>
    have hl2 : us.length = ps.length := by rw [← r.length, ← va.length] at *; first | exact hl | omega
    have bb := b' s us I.kIn (by rw [List.append_nil]; exact hl2)
    rw [List.append_nil] at bb
    have e := I.env0
    have e0 : Env0 X.prog X.w X.K X.mg X.base X.A.in1 X.stack s H := ⟨e.frames, e.mod, e.bs, e.bsz, e.funs, e.frf, e.hok, e.bare⟩
    refine wpAny_call (codeAny_mono (F'.run X.A.in1 X.stack s H ⟨us, []⟩ us vs Q (E σ) ((o.room hq).in1.mono (Nat.le_succ _)) e0 bb r ⟨ρ, G, as, R, va, hl, p⟩) fun r s' hq => ?_)
    cases r with
    | error e => exact o.pass σ pins H s e s' I hq
    | ok fl =>
      cases fl with
      | ret u => exact I.after hq
      | next => exact False.elim hq
      | brk => exact False.elim hq
      | cont => exact False.elim hq
theorem rgt_ok (o : Okx S sc N lev E X) {c k : Nat} (hc : c < S.nc) (hk : (S.cd c).eq = some k) (I : Inv X pins σ H s) (R : Rl S ρ G H) {b : Va} {y : V} {u : Value} (h : rgt G b = true) (r : VR S ρ G.length H b y) (q : RelV y u) :
    ∃ tb, PySem.W.Looks (model X.prog X.w) s.heap (typeOf u) tb ∧ PySem.W.notFirst X.K (S.ca c) tb = true := by
  have ty : ∀ T, ((PySem.fastBuiltinMro T).map fun l => l.all fun v => match v with | .ref _ => false | _ => true) = some true → PySem.W.notFirst X.K (S.ca c) (.type T) = true := fun T e => by
    unfold PySem.W.notFirst
    rw [sub_ty e]; simp
  cases b with
  | tup xs =>
    obtain ⟨a, ys, rfl, h1, h2⟩ := vr_tup r
    cases (show u = Value.ref a from q)
    obtain ⟨its, w, p, _⟩ := I.tuple (by rw [o.K]; exact h1)
    exact ⟨_, tup_looks p, ty "tuple" (by kernel_rfl)⟩
  | int i =>
    unfold VR at r; subst r
    obtain ⟨t, rfl⟩ := q
    exact ⟨.type "int", PySem.W.Looks.of_pure rfl, ty "int" (by kernel_rfl)⟩
  | ref m =>
    obtain ⟨hm, rfl⟩ := vr_ref r
    cases (show u = Value.ref (ρ m) from q)
    obtain ⟨w, hw⟩ := get_of hm
    have h : insO G[m]? = true := h
    rw [hw] at h
    cases w with
    | ins c' fs =>
      obtain ⟨dx, gs, k1, k2, k3, k5, k4⟩ := R.ob m _ hw
      obtain ⟨mA, J, _⟩ := ins_get I.hok k1
      obtain ⟨od, J, _⟩ := J.look
      exact ⟨_, J.type, by rw [o.K]; exact (o.good.cls c hc).es k c' hk k5⟩
    | _ => cases h
  | _ => cases h
theorem blR_fin {α : Type} {neg : Bool} {E0 E1 : XK} {Q : VK} {r : Res Va} (p : Post S (VR S) E0 ρ n H Q ((noex r).bind (blR neg))) : Post S (VR S) E1 ρ n H (fun v H' => ∃ c, v = .bl c ∧ Q (.bl (neg ^^ c)) H') r :=
  Post.bindN (ra := VR S) p fun a G' ρ' H' x e R rr p1 => by
    cases a with
    | bl b =>
      unfold VR at rr; subst rr
      exact ⟨b, rfl, p1 ρ' H' _ (Ext.refl _ _ _) R (by unfold VR; rfl)⟩
    | _ => exact p1.elim
theorem eqR_ok (o : Okx S sc N lev E X) (neg : Bool) : OpR X (compareOp (if neg = true then .NotEq else .Eq)) (rEq S neg) := by
  intro pins s σ H x y v u Q I rx ry ⟨ρ, G, a, b, R, ra, rb, p⟩
  have hu := o.un
  unfold eqR at p
  cases hk : eqk S G a with
  | none =>
    rw [hk] at p
    have p : Post S (VR S) noE ρ G.length H Q (lift (eqX2 neg a b G)) := p
    cases neg with
    | false => exact eqX_ok o pins s σ H x y v u Q I rx ry ⟨ρ, G, a, b, R, ra, rb, fin_of_lift p⟩
    | true => exact neX_ok o pins s σ H x y v u Q I rx ry ⟨ρ, G, a, b, R, ra, rb, fin_of_lift p⟩
  | some k =>
    rw [hk] at p
    have p : Post S (VR S) noE ρ G.length H Q (if rgt G b = true then (noex (S.call k [a, b] G)).bind (blR neg) else .no) := p
    split at p
    · rename_i hr
      cases a with
      | ref m =>
        have ra0 := ra
        obtain ⟨hm, rfl⟩ := vr_ref ra
        cases (show v = Value.ref (ρ m) from rx)
        obtain ⟨w, hw⟩ := get_of hm
        have hk : eqkO S G[m]? = some k := hk
        rw [hw] at hk
        cases w with
        | ins c fs =>
          have hk : (S.cd c).eq = some k := hk
          obtain ⟨dx, gs, k1, k2, k3, k5, k4⟩ := R.ob m _ hw
          have C := o.good.cls c k5
          obtain ⟨e1, e2, e3, e4⟩ := C.eo k hk
          obtain ⟨tb, lb, nf⟩ := rgt_ok o k5 hk I R hr rb ry
          obtain ⟨mA, J, _⟩ := ins_get I.hok k1
          obtain ⟨od, J, _⟩ := J.look
          have q2 : ∃ ρ' G' as, Rl S ρ' G' H ∧ VRs S ρ' G'.length H as [V.ref (ρ m), y] ∧ Post S (VR S) (E σ) ρ' G'.length H (fun v H' => ∃ c, v = .bl c ∧ Q (.bl (neg ^^ c)) H') (S.call k as G') :=
            ⟨ρ, G, [.ref m, b], R, VRs.cons ra0 (VRs.cons rb VRs.nil), blR_fin (α := Unit) p⟩
          have rr : Vals [V.ref (ρ m), y] [Value.ref (ρ m), u] := .cons rfl (.cons ry .nil)
          cases neg with
          | false =>
            show wpAny (model X.prog X.w) X.A (richCompare .Eq (.ref (ρ m)) u) (EP X pins σ Q) X.xe s
            obtain ⟨m0, hF⟩ := I.fr
            refine PySem.W.cmp_K (op := .Eq) (tb := tb) (by omega) hF I.ok.mod.kin J lb nf (by rw [o.K]; exact e2) (by rw [o.K]; exact e3) (wpAny_mono (o.run (Q := fun v H' => ∃ c, v = .bl c ∧ Q (.bl (false ^^ c)) H') e1 I rr q2) (fun v' s' z => ?_) fun _ _ z => z)
            obtain ⟨w, H', I', rw', cc, rfl, hq⟩ := z
            cases rw'
            have hq : Q (.bl cc) H' := by simpa using hq
            exact ⟨.bl cc, H', I', rfl, hq⟩
          | true =>
            show wpAny (model X.prog X.w) X.A (richCompare .NotEq (.ref (ρ m)) u) (EP X pins σ Q) X.xe s
            refine rc_ne (tb := tb) (by omega) I.kIn J (by rw [o.K]; exact C.im) lb nf (by rw [o.K]; exact e2) (by rw [o.K]; exact e4) (by rw [o.K]; exact e3) (wpAny_mono (o.run1 (Q := fun v H' => ∃ c, v = .bl c ∧ Q (.bl (true ^^ c)) H') e1 I rr q2) (fun v' s' z => ?_) fun _ _ z => z)
            obtain ⟨w, H', I', rw', cc, rfl, hq⟩ := z
            cases rw'
            have hq : Q (.bl (!cc)) H' := by simpa using hq
            exact ⟨cc, rfl, .bl (!cc), H', I', rfl, hq⟩
        | _ => cases hk
      | _ => cases hk
    · exact p.elim
/-! ### the expression -/
def eEq (neg : Bool) (a b : CE S) : Lo → Gh → Res Va := fun L G => (a.ev L G).bind fun x G1 => (b.ev L G1).bind fun y G2 => noex (eqR S neg x y G2)
theorem noex_noex {α : Type} (r : Res α) : noex (noex r) = noex r := by cases r <;> rfl
theorem Post.noex {α β : Type} {ra : RelT α β} {E0 E1 : XK} {Q : β → Hp → Prop} {r : Res α} (p : Post S ra E0 ρ n H Q (VM.noex r)) : Post S ra E1 ρ n H Q r := Post.lastN p
theorem eq_two (neg : Bool) (a b : CE S) {σ : L2.St} {H : Hp} {Q : VK} (q : WE S E (eEq neg a b) σ H Q) : tOp (rEq S neg) (WE S E a.ev) (WE S E b.ev) σ H Q := by
  obtain ⟨ρ, L, G, R, l, p⟩ := q
  refine ⟨ρ, L, G, R, l, Post.bind p fun v G1 ρ1 H1 x e1 R1 r1 p1 => ?_⟩
  refine ⟨ρ1, L, G1, R1, l.mono e1, Post.bind p1 fun w G2 ρ2 H2 y e2 R2 r2 p2 => ?_⟩
  exact ⟨ρ2, G2, v, w, R2, r1.mono e2, r2, Post.noex p2⟩
def kEqX (neg : Bool) (a b : CE S) (N : List Str) (sc : Scope) : Expr → Bool
  | .Compare x [op'] [y] _ => decide (op' = if neg = true then .NotEq else .Eq) && (!isSetE y && (a.chk N sc x && b.chk N sc y))
  | _ => false
theorem cEq_pe (neg : Bool) (a b : CE S) {e : Expr} (o : Okx S sc N lev E X) (h : kEqX neg a b N sc e = true) : PE X e (WE S E (eEq neg a b)) := by
  unfold kEqX at h
  split at h
  · simp only [Bool.and_eq_true, decide_eq_true_eq, Bool.not_eq_true'] at h
    obtain ⟨rfl, h0, h1, h2⟩ := h
    exact pe_imp (pe_cmpR (eqR_ok o neg) (a.pe o h1) (b.pe o h2) (marks_plain h0)) fun σ H Q q => eq_two neg a b q
  · cases h
theorem eqR_bl {neg : Bool} {x y : Va} {G G' : Gh} {v : Va} (h : noex (eqR S neg x y G) = .ok v G') : ∃ c, v = .bl c := by
  have h : eqR S neg x y G = .ok v G' := by
    cases e : eqR S neg x y G with
    | ok a G1 => rw [e] at h; exact h
    | ex c fs G1 => rw [e] at h; cases h
    | no => rw [e] at h; cases h
  unfold eqR at h
  cases hk : eqk S G x with
  | none =>
    rw [hk] at h
    have h : lift (eqX2 neg x y G) = .ok v G' := h
    have h := lift_inv h
    unfold eqX2 at h
    split at h
    · obtain ⟨c, _, e⟩ := Option.map_eq_some_iff.mp h
      cases e; exact ⟨_, rfl⟩
    · obtain ⟨c, _, e⟩ := Option.map_eq_some_iff.mp h
      cases e; exact ⟨_, rfl⟩
  | some k =>
    rw [hk] at h
    have h : (if rgt G y = true then (noex (S.call k [x, y] G)).bind (blR neg) else .no) = .ok v G' := h
    split at h
    · obtain ⟨a, G1, _, h2⟩ := bind_inv h
      cases a with
      | bl b => cases h2; exact ⟨_, rfl⟩
      | _ => cases h2
    · cases h
theorem cEq_pt (neg : Bool) (a b : CE S) {e : Expr} (o : Okx S sc N lev E X) (h : kEqX neg a b N sc e = true) : PT X e (WT S E fun L G => (eEq neg a b L G).bind (tr S)) := by
  unfold kEqX at h
  split at h
  · simp only [Bool.and_eq_true, decide_eq_true_eq, Bool.not_eq_true'] at h
    obtain ⟨rfl, h0, h1, h2⟩ := h
    refine pt_imp (pt_cmpR (eqR_ok o neg) (a.pe o h1) (b.pe o h2) (marks_plain h0)) fun σ H Q q => ?_
    refine eq_two neg a b (Q := fun x H' => ∃ k, x = .bl k ∧ Q k H') ?_
    obtain ⟨ρ, L, G, R, l, p⟩ := q
    refine ⟨ρ, L, G, R, l, Post.bindE (r := eEq neg a b L G) p fun v G1 ρ1 H1 x er e1 R1 r1 p1 => ?_⟩
    obtain ⟨x', G1', _, hb⟩ := bind_inv er
    obtain ⟨y', G2', _, hc⟩ := bind_inv hb
    obtain ⟨c, rfl⟩ := eqR_bl hc
    unfold VR at r1; subst r1
    exact ⟨c, rfl, p1 ρ1 H1 c (Ext.refl _ _ _) R1 rfl⟩
  · cases h
def cEq (neg : Bool) (a b : CE S) : CE S := ⟨eEq neg a b, fun L G => (eEq neg a b L G).bind (tr S), kEqX neg a b, cEq_pe neg a b, cEq_pt neg a b, fun {N sc e} h => by cases e <;> first | rfl | cases h⟩
end
end VM
/-! VNe: dict displays -/
namespace VM
open PySem PySem.Spec PyProof.Rows L2 VMQ
def PRs (S : Sx) (ρ : Nat → Addr) (n : Nat) (H : Hp) : List (Va × Va) → List (V × V) → Prop
  | [], ps => ps = []
  | (a, b) :: r, ps => ∃ x y t, ps = (x, y) :: t ∧ VR S ρ n H a x ∧ VR S ρ n H b y ∧ PRs S ρ n H r t
structure CP (S : Sx) where
  ev : Lo → Gh → Res (List (Va × Va))
  chk : List Str → Scope → List (Option Expr) → List Expr → Bool
  pp : ∀ {sc N lev E X ks vs}, Okx S sc N lev E X → chk N sc ks vs = true → ks.all (·.isSome) = true ∧ ks.length = vs.length ∧ ∃ trs, (∀ pos, PPs X pos ks vs trs) ∧ ∀ σ H Q, WG S (PRs S) E ev σ H Q → tPairs trs σ H Q
section
variable {S : Sx} {sc : Scope} {N : List Str} {lev : Nat} {E : EW} {X : Cx} {ρ ρ' : Nat → Addr} {G : Gh} {H H' : Hp} {n n' : Nat} {pins : List (Addr × Obj)} {s : Shared} {σ : L2.St}
theorem PRs.mono (e : Ext ρ n H ρ' n' H') : ∀ {xs : List (Va × Va)} {ps : List (V × V)}, PRs S ρ n H xs ps → PRs S ρ' n' H' xs ps
  | [], _, h => h
  | (a, b) :: r, _, h => by
    obtain ⟨x, y, t, h1, h2, h3, h4⟩ := h
    exact ⟨x, y, t, h1, h2.mono e, h3.mono e, PRs.mono e h4⟩
def cpNil : CP S := ⟨fun _ G => .ok [] G, fun _ _ ks vs => ks.isEmpty && vs.isEmpty, fun {sc N lev E X ks vs} o h => by
  cases ks with
  | cons _ _ => cases h
  | nil =>
    cases vs with
    | cons _ _ => cases h
    | nil =>
      refine ⟨rfl, rfl, [], fun pos => pps_nil, fun σ H Q q => ?_⟩
      obtain ⟨ρ, L, G, R, l, p⟩ := q
      exact p ρ H [] (Ext.refl _ _ _) R rfl⟩
def eCp (k v : CE S) (r : CP S) : Lo → Gh → Res (List (Va × Va)) := fun L G => (k.ev L G).bind fun x G1 => (v.ev L G1).bind fun y G2 => (r.ev L G2).bind fun ps G3 => .ok ((x, y) :: ps) G3
def kCp (k v : CE S) (r : CP S) (N : List Str) (sc : Scope) : List (Option Expr) → List Expr → Bool
  | some e :: ks, f :: vs => k.chk N sc e && (v.chk N sc f && r.chk N sc ks vs)
  | _, _ => false
def cpCons (k v : CE S) (r : CP S) : CP S := ⟨eCp k v r, kCp k v r, fun {sc N lev E X ks vs} o h => by
  unfold kCp at h
  split at h
  · rename_i e ks f vs
    simp only [Bool.and_eq_true] at h
    obtain ⟨h1, h2, h3⟩ := h
    obtain ⟨a1, a2, trs, a3, a4⟩ := r.pp o h3
    refine ⟨by rw [List.all_cons, a1]; rfl, by rw [List.length_cons, List.length_cons, a2], _, fun pos => pps_cons (k.pe o h1) (v.pe o h2) (a3 pos), fun σ H Q q => ?_⟩
    obtain ⟨ρ, L, G, R, l, p⟩ := q
    refine ⟨ρ, L, G, R, l, Post.bind p fun x G1 ρ1 H1 x1 e1 R1 r1 p1 => ?_⟩
    refine ⟨ρ1, L, G1, R1, l.mono e1, Post.bind p1 fun y G2 ρ2 H2 x2 e2 R2 r2 p2 => ?_⟩
    refine a4 _ _ _ ⟨ρ2, L, G2, R2, (l.mono e1).mono e2, Post.bind p2 fun ps G3 ρ3 H3 x3 e3 R3 r3 p3 => ?_⟩
    exact p3 ρ3 H3 _ (Ext.refl _ _ _) R3 ⟨x1, x2, x3, rfl, (r1.mono e2).mono e3, r2.mono e3, r3⟩
  · cases h⟩
/-! ### a new object of ours -/
theorem rl_obj {o : VO} {u : HO} (R : Rl S ρ G H) {p : Addr} (hp : H p = none) (new : ∀ ρ', Ext ρ G.length H ρ' (G.length + 1) (upd H p u) → OR S ρ' (G.length + 1) (upd H p u) o p) :
    Rl S (put ρ G.length p) (G ++ [o]) (upd H p u) ∧ Ext ρ G.length H (put ρ G.length p) (G ++ [o]).length (upd H p u) ∧ VR S (put ρ G.length p) (G ++ [o]).length (upd H p u) (.ref G.length) (.ref p) := by
  have e : Ext ρ G.length H (put ρ G.length p) (G.length + 1) (upd H p u) := Ext.newO hp
  have el : (G ++ [o]).length = G.length + 1 := by simp
  refine ⟨R.push e (fun a w h => by rw [upd_ne (ne_of_none h hp)]; exact h) hp (new _ e), by rw [el]; exact e, ?_⟩
  unfold VR
  exact ⟨by rw [el]; exact Nat.lt_succ_self _, by rw [put_same]⟩
def dMerge (acc more : List (Va × Va)) : List (Va × Va) := more.foldl (fun a p => dPut a p.1 p.2) acc
theorem drk_merge : ∀ {more : List (Va × Va)} {ms : List (Key × V)} {acc : List (Va × Va)} {as : List (Key × V)}, DRk S ρ n H more ms → DRk S ρ n H acc as → DRk S ρ n H (dMerge acc more) (mergeK as ms)
  | [], _, _, _, h, h' => by cases h; exact h'
  | (k, v) :: more, _, acc, as, h, h' => by
    obtain ⟨k', y, r, rfl, h1, h2, h3⟩ := h
    exact drk_merge (acc := dPut acc k v) (as := putK as k' y) h3 (drk_put h1 h2 h')
def allS (ps : List (Va × Va)) : Bool := ps.all fun p => (keyS p.1).isSome
theorem prs_drk : ∀ {xs : List (Va × Va)} {ps : List (V × V)}, allS xs = true → PRs S ρ n H xs ps → ∃ kvs : List (Key × V), ps = kvs.map (fun kv => (kV kv.1, kv.2)) ∧ DRk S ρ n H xs kvs ∧ kvs.length = xs.length
  | [], _, _, r => by cases r; exact ⟨[], rfl, rfl, rfl⟩
  | (a, b) :: xs, _, h, r => by
    unfold allS at h
    rw [List.all_cons, Bool.and_eq_true] at h
    obtain ⟨h1, h2⟩ := h
    obtain ⟨k, hk⟩ := Option.isSome_iff_exists.mp h1
    obtain ⟨x, y, t, rfl, r1, r2, r3⟩ := r
    obtain ⟨kvs, rfl, e2, e3⟩ := prs_drk (show allS xs = true from h2) r3
    have := keyS_V hk r1
    subst this
    exact ⟨(k, y) :: kvs, rfl, ⟨k, y, kvs, rfl, hk, r2, e2⟩, by simp [e3]⟩
def dspO (d : Nat) (ps : List (Va × Va)) (G : Gh) : Option VO → Res Va
  | some (.dct false []) => if allS ps = true ∧ ps.length ≤ 15 then .ok (.ref d) (G.set d (.dct false (dMerge [] ps))) else .no
  | _ => .no
def eDsp (c : CP S) : Lo → Gh → Res Va := fun L G => (c.ev L (G ++ [.dct false []])).bind fun ps G1 => dspO G.length ps G1 G1[G.length]?
def kDsp (c : CP S) (N : List Str) (sc : Scope) : Expr → Bool
  | .Dict ks vs _ => !ks.isEmpty && (decide (ks.length ≤ 15) && c.chk N sc ks vs)
  | _ => false
theorem cDsp_pe (c : CP S) {e : Expr} (o : Okx S sc N lev E X) (h : kDsp c N sc e = true) : PE X e (WE S E (eDsp c)) := by
  unfold kDsp at h
  split at h
  · rename_i ks vs pos
    simp only [Bool.and_eq_true, Bool.not_eq_true', decide_eq_true_eq] at h
    obtain ⟨h0, h1, h2⟩ := h
    obtain ⟨a1, a2, trs, a3, a4⟩ := c.pp o h2
    refine pe_imp (pe_disp (a3 pos) a1 a2 (fun z => by rw [z] at h0; cases h0) h1) fun σ H Q q => ?_
    obtain ⟨ρ, L, G, R, l, p⟩ := q
    intro d hd
    obtain ⟨R1, e1, v1⟩ := rl_obj (o := .dct false []) (u := .dK []) R hd (fun ρ' e => ⟨[], upd_same, rfl⟩)
    have p : Post S (VR S) (E σ) ρ G.length H Q ((c.ev L (G ++ [.dct false []])).bind fun ps G1 => dspO G.length ps G1 G1[G.length]?) := p
    obtain ⟨hdl, hdd⟩ := vr_ref v1
    have hdd : put ρ G.length d G.length = d := put_same
    generalize hn : G.length = m at *
    generalize hG : G ++ [VO.dct false []] = G1 at *
    generalize hρ : put ρ m d = ρ1 at *
    refine a4 _ _ _ ⟨ρ1, L, G1, R1, l.mono e1, Post.bind (Post.after p e1) fun ps G2 ρ2 H2 x2 e2 R2 r2 p2 => ?_⟩
    have hm2 : m < G2.length := Nat.lt_of_lt_of_le hdl e2.le
    have em : ρ2 m = d := (e2.eq m hdl).trans hdd
    obtain ⟨w, hw⟩ := get_of hm2
    rw [hw] at p2
    unfold dspO at p2
    split at p2
    · rename_i hz
      cases hz
      split at p2
      · rename_i hc
        obtain ⟨ks, k1, k2⟩ := R2.ob m _ hw
        cases k2
        rw [em] at k1
        obtain ⟨kvs, rfl, f2, f3⟩ := prs_drk hc.1 r2
        refine ⟨k1, kvs, rfl, by rw [f3]; exact hc.2, ?_⟩
        have w := R2.write (o' := .dct false (dMerge [] ps)) (u := .dK (mergeK [] kvs)) hw rfl rfl (fun xs z => by rw [em, k1] at z; cases z) (fun b v z => by rw [em, k1] at z; cases z) (fun gs z => by rw [em, k1] at z; cases z) (fun ρ' hρ' ex => by
          subst hρ'
          exact ⟨_, upd_same, (drk_merge f2 (show DRk S ρ' G2.length H2 [] [] from rfl)).mono ex⟩)
        rw [em] at w
        refine p2 ρ2 _ _ w.2 w.1 ?_
        unfold VR
        exact ⟨by rw [List.length_set]; exact hm2, by rw [em]⟩
      · exact p2.elim
    · exact p2.elim
  · cases h
def cDsp (c : CP S) : CE S := .plain (eDsp c) (kDsp c) (cDsp_pe c) fun N sc e h => by cases e <;> first | exact ⟨rfl, rfl⟩ | cases h
/-- {} -/
def kD0 (N : List Str) (sc : Scope) : Expr → Bool
  | .Dict [] [] _ => true
  | _ => false
def eD0 : Lo → Gh → Res Va := fun _ G => .ok (.ref G.length) (G ++ [.dct false []])
theorem cD0_pe {e : Expr} (o : Okx S sc N lev E X) (h : kD0 N sc e = true) : PE X e (WE S E eD0) := by
  unfold kD0 at h
  split at h
  · refine pe_imp pe_dnewK fun σ H Q q => ?_
    obtain ⟨ρ, L, G, R, l, p⟩ := q
    intro d hd
    obtain ⟨R1, e1, v1⟩ := rl_obj (o := .dct false []) (u := .dK []) R hd (fun ρ' e => ⟨[], upd_same, rfl⟩)
    exact p _ _ _ e1 R1 v1
  · cases h
def cD0 : CE S := .plain eD0 kD0 cD0_pe fun N sc e h => by cases e <;> first | exact ⟨rfl, rfl⟩ | cases h
/-! ### keys that are tuples -/
theorem drt_map {k : Va} {k' : NestedKey} {v : Va} {v' : V} {u : Value} (hk : nkV k = some k') (rv : VR S ρ n H v v') (ru : RelV v' u) : ∀ {kvs : List (Va × Va)} {ks : List (NestedKey × Addr × Value)}, DRt S ρ n H kvs ks → DRt S ρ n H (kvs.map fun p => if kEq p.1 k = true then (p.1, v) else p) (ks.map (putAt k' u))
  | [], _, h => by cases h; rfl
  | (a, x) :: kvs, _, h => by
    obtain ⟨a', b, w, y, r, rfl, h2, h3, h4, h5, h6, h7⟩ := h
    have e := nkV_eq h2 hk
    rw [List.map_cons, List.map_cons]
    by_cases q : a' = k'
    · rw [decide_eq_true q] at e
      rw [if_pos e]
      unfold putAt
      rw [if_pos q]
      exact ⟨a', b, u, v', _, rfl, h2, h3, h4, rv, ru, drt_map hk rv ru h7⟩
    · rw [decide_eq_false q] at e
      rw [if_neg (by rw [e]; decide)]
      unfold putAt
      rw [if_neg q]
      exact ⟨a', b, w, y, _, rfl, h2, h3, h4, h5, h6, drt_map hk rv ru h7⟩
theorem drt_app {k : Va} {k' : NestedKey} {v : Va} {v' : V} {u : Value} {b : Addr} (hk : nkV k = some k') (hd : k'.depth ≤ 8) (rk : VR S ρ n H k (.ref b)) (rv : VR S ρ n H v v') (ru : RelV v' u) : ∀ {kvs : List (Va × Va)} {ks : List (NestedKey × Addr × Value)}, DRt S ρ n H kvs ks → DRt S ρ n H (kvs ++ [(k, v)]) (ks ++ [(k', b, u)])
  | [], _, h => by cases h; exact ⟨k', b, u, v', [], rfl, hk, hd, rk, rv, ru, rfl⟩
  | (a, x) :: kvs, _, h => by
    obtain ⟨a', c, w, y, r, rfl, h2, h3, h4, h5, h6, h7⟩ := h
    exact ⟨a', c, w, y, _, rfl, h2, h3, h4, h5, h6, drt_app hk hd rk rv ru h7⟩
theorem drt_any {k : Va} {k' : NestedKey} (hk : nkV k = some k') : ∀ {kvs : List (Va × Va)} {ks : List (NestedKey × Addr × Value)}, DRt S ρ n H kvs ks → (kvs.any fun p => kEq p.1 k) = (atKey ks k').isSome
  | [], _, h => by cases h; rfl
  | (a, x) :: kvs, _, h => by
    obtain ⟨a', b, w, y, r, rfl, h2, h3, h4, h5, h6, h7⟩ := h
    rw [List.any_cons, drt_any hk h7, nkV_eq h2 hk]
    unfold atKey
    rw [List.find?_cons]
    by_cases q : a' = k'
    · rw [decide_eq_true q]; rfl
    · rw [decide_eq_false q]; rfl
theorem drt_put {k : Va} {k' : NestedKey} {v : Va} {v' : V} {u : Value} {b : Addr} (hk : nkV k = some k') (hd : k'.depth ≤ 8) (rk : VR S ρ n H k (.ref b)) (rv : VR S ρ n H v v') (ru : RelV v' u) {kvs : List (Va × Va)} {ks : List (NestedKey × Addr × Value)} (h : DRt S ρ n H kvs ks) : DRt S ρ n H (dPut kvs k v) (storedH ks k' b u) := by
  unfold dPut storedH
  rw [drt_any hk h]
  split
  · exact drt_map hk rv ru h
  · exact drt_app hk hd rk rv ru h
end
end VM
/-! VNf: dicts with tuple keys: displays, stores; in; dict(x) -/
namespace VM
open PySem PySem.Spec PyProof.Rows L2 VMQ
section
variable {S : Sx} {sc : Scope} {N : List Str} {lev : Nat} {E : EW} {X : Cx} {ρ ρ' : Nat → Addr} {G : Gh} {H H' : Hp} {n n' : Nat} {pins : List (Addr × Obj)} {s : Shared} {σ : L2.St}
def tupK : Va → Option NestedKey → Bool
  | .tup _, some k => decide (k.depth ≤ 8)
  | _, _ => false
/-- a tuple that may be a key -/
def nkOk (k : Va) : Bool := tupK k (nkV k)
theorem nkOk_inv {k : Va} (h : nkOk k = true) : ∃ xs k', k = .tup xs ∧ nkV k = some k' ∧ k'.depth ≤ 8 := by
  unfold nkOk at h
  cases k with
  | tup xs =>
    cases e : nkV (.tup xs) with
    | none => rw [e] at h; cases h
    | some k' => rw [e] at h; exact ⟨xs, k', rfl, rfl, of_decide_eq_true h⟩
  | _ => cases h
def allT (ps : List (Va × Va)) : Bool := ps.all fun p => nkOk p.1
theorem drt_merge : ∀ {more : List (Va × Va)} {ms : List (NestedKey × Addr × Value)} {acc : List (Va × Va)} {as : List (NestedKey × Addr × Value)}, DRt S ρ n H more ms → DRt S ρ n H acc as → DRt S ρ n H (dMerge acc more) (storedAllH as ms)
  | [], _, _, _, h, h' => by cases h; exact h'
  | (k, v) :: more, _, acc, as, h, h' => by
    obtain ⟨k', b, u, y, r, rfl, h2, h3, h4, h5, h6, h7⟩ := h
    exact drt_merge (acc := dPut acc k v) (as := storedH as k' b u) h7 (drt_put h2 h3 h4 h5 h6 h')
theorem dN_ok {P : Program} {w w' : World} {H' : Hp} {h' : Heap} {a : Addr} {xs : List (NestedKey × Addr × Value)} (hw : w = w') (hz : xs.length ≤ sizeLine) (hs : (a == sysModules) = false) (d : h'.DictOfH (nestedKind P w) a xs) : ObjOk P w H' h' a (dN w' a xs) := by
  subst hw
  obtain ⟨o, es, ep, h1, h2, h3, h4, _, h6⟩ := d
  refine ⟨⟨o, es, ep, h1, h2, h3, hz, hs, h4, h6⟩, ⟨o, h1⟩, fun g1 g2 z k => ?_⟩
  obtain ⟨o, es, ep, a1, a2⟩ := z
  exact ⟨o, es, ep, k _ a1, a2⟩
theorem prs_drt (I : Inv X pins σ H s) (o : Okx S sc N lev E X) : ∀ {xs : List (Va × Va)} {ps : List (V × V)} {vs : List (Value × Value)}, allT xs = true → PRs S ρ n H xs ps → VV ps vs → ∃ ks, CarriesH (nestedKind X.prog X.w) s.heap vs ks ∧ DRt S ρ n H xs ks ∧ ks.length = xs.length
  | [], _, _, _, r, q => by cases r; cases q; exact ⟨[], True.intro, rfl, rfl⟩
  | (a, b) :: xs, _, _, h, r, q => by
    unfold allT at h
    rw [List.all_cons, Bool.and_eq_true] at h
    obtain ⟨h1, h2⟩ := h
    obtain ⟨zs, k', rfl, hk, hd⟩ := nkOk_inv h1
    obtain ⟨x, y, t, rfl, r1, r2, r3⟩ := r
    cases q with
    | @cons p w ps ws hq hr =>
      obtain ⟨w1, w2⟩ := w
      obtain ⟨q1, q2⟩ := hq
      obtain ⟨ks, e1, e2, e3⟩ := prs_drt I o (show allT xs = true from h2) r3 hr
      have is := nk_is I o.K hk r1 q1
      have r0 := r1
      obtain ⟨c, ys, rfl, _, _⟩ := vr_tup r1
      cases (show w1 = Value.ref c from q1)
      exact ⟨(k', c, w2) :: ks, ⟨rfl, rfl, ⟨is, hd⟩, e1⟩, ⟨k', c, w2, y, ks, rfl, hk, hd, r0, r2, q2, e2⟩, by simp [e3]⟩
def dspT (d : Nat) (ps : List (Va × Va)) (G : Gh) : Option VO → Res Va
  | some (.dtu false []) => if allT ps = true ∧ ps.length ≤ 15 then .ok (.ref d) (G.set d (.dtu false (dMerge [] ps))) else .no
  | _ => .no
def eDst (c : CP S) : Lo → Gh → Res Va := fun L G => (c.ev L (G ++ [.dtu false []])).bind fun ps G1 => dspT G.length ps G1 G1[G.length]?
theorem nsz {m : Nat} (h : m ≤ 15) : m ≤ sizeLine := by rw [sizeLine_eq]; omega
theorem cDst_pe (c : CP S) {e : Expr} (o : Okx S sc N lev E X) (h : kDsp c N sc e = true) : PE X e (WE S E (eDst c)) := by
  unfold kDsp at h
  split at h
  · rename_i ks vs pos
    simp only [Bool.and_eq_true, Bool.not_eq_true', decide_eq_true_eq] at h
    obtain ⟨h0, h1, h2⟩ := h
    obtain ⟨a1, a2, trs, a3, a4⟩ := c.pp o h2
    refine ⟨fun pins s σ H Q I q => ?_⟩
    obtain ⟨ρ, L, G, R, l, p⟩ := q
    have hn := pairTrees_length ks vs X.env pos a1 a2
    rw [arm_eval_Dict, zip_pairTrees ks vs X.env pos a1 a2, dictDisplay_pairs _ (fun z => by rw [z] at hn; rw [List.length_eq_zero_iff.mp hn.symm] at h0; cases h0) (by omega)]
    refine wpAny_bind (wpAny_standAt (wpAny_bind ?_))
    have hd : H s.heap.objs.size = none := I.hok.fresh (Nat.le_refl _)
    have hsys : (s.heap.objs.size == sysModules) = false := beq_eq_false_iff_ne.mpr (Nat.ne_of_gt I.big)
    have I1 := I.laid (a := s.heap.objs.size) (o := dN S.w s.heap.objs.size []) (h' := s.heap.push { cls := .type "dict", data := .dict #[] }) (t' := s.toks) (fun _ _ q => Heap.get?_push_of_some _ q) (Nat.le_refl _) (dN_ok o.w (Nat.zero_le _) hsys (Heap.DictOfH.new s.heap))
    obtain ⟨R1, e1, v1⟩ := rl_obj (o := .dtu false []) (u := dN S.w s.heap.objs.size []) R hd (fun ρ' e => ⟨[], upd_same, rfl⟩)
    have p : Post S (VR S) (E σ) ρ G.length H Q ((c.ev L (G ++ [.dtu false []])).bind fun ps G1 => dspT G.length ps G1 G1[G.length]?) := p
    obtain ⟨hdl, hdd⟩ := vr_ref v1
    have hdd : put ρ G.length s.heap.objs.size G.length = s.heap.objs.size := put_same
    generalize hnn : G.length = m at *
    generalize hG : G ++ [VO.dtu false []] = G1 at *
    generalize hρ : put ρ m s.heap.objs.size = ρ1 at *
    generalize hdz : s.heap.objs.size = d at *
    refine wpAny_mono (Q := fun a s' => a = d ∧ EP X pins σ Q (.ref d) s') ?_ (fun a s' z => ?_) fun _ _ z => z
    · rw [← hdz]
      have hu := o.un
      refine wpAny_subDictH (knd := nestedKind X.prog X.w) (show X.A.units + 8 < cLine by omega) (by rw [hn]; exact h1) ?_
      rw [hdz]
      refine thn ((a3 pos).run pins _ σ _ _ I1 (a4 _ _ (fun ps H2 => ∃ ρ2 G2 xs, Rl S ρ2 G2 H2 ∧ m < G2.length ∧ ρ2 m = d ∧ PRs S ρ2 G2.length H2 xs ps ∧ Post S (VR S) (E σ) ρ2 G2.length H2 Q (dspT m xs G2 G2[m]?)) ⟨ρ1, L, G1, R1, l.mono e1, Post.bind (Post.after p e1) fun ps G2 ρ2 H2 x2 e2 R2 r2 p2 => ⟨ρ2, G2, ps, R2, Nat.lt_of_lt_of_le hdl e2.le, (e2.eq m hdl).trans hdd, r2, p2⟩⟩)) fun ws s2 ⟨ps, H2, I2, rel, ρ2, G2, xs, R2, hm2, em, r2, p2⟩ => ?_
      obtain ⟨w, hw⟩ := get_of hm2
      rw [hw] at p2
      unfold dspT at p2
      split at p2
      · rename_i hz
        cases hz
        split at p2
        · rename_i hc
          obtain ⟨ys, k1, k2⟩ := R2.ob m _ hw
          cases k2
          rw [em] at k1
          obtain ⟨ks, c1, c2, c3⟩ := prs_drt I2 o hc.1 r2 rel
          obtain ⟨z1, z2, z3⟩ := dtu_H I2 o (.inl k1) (show DRt S ρ2 G2.length H2 [] [] from rfl)
          refine ⟨ks, c1, z3, fun h' tk dd' hs => ⟨rfl, ?_⟩⟩
          have len : (storedAllH [] ks).length ≤ sizeLine := by
            have := storedAllH_length ks []
            refine nsz ?_
            simp only [List.length_nil] at this
            omega
          have he : ∃ q, h'.get? d = some q := let ⟨q, _, _, hq, _⟩ := dd'; ⟨q, hq⟩
          have w := R2.write (o' := .dtu false (dMerge [] xs)) (u := dN S.w d (storedAllH [] ks)) hw rfl rfl (fun xs z => by rw [em, k1] at z; cases z) (fun b v z => by rw [em, k1] at z; cases z) (fun gs z => by rw [em, k1] at z; cases z) (fun ρ' hρ' ex => by
            subst hρ'
            rw [em] at ex ⊢
            exact ⟨_, upd_same, (drt_merge c2 (show DRt S ρ' G2.length H2 [] [] from rfl)).mono ex⟩)
          rw [em] at w
          refine ⟨.ref d, _, d_write I2 (by rw [k1]; exact True.intro) hs he (dN_ok o.w len z2 dd'), rfl, p2 ρ2 _ _ w.2 w.1 ?_⟩
          unfold VR
          exact ⟨by rw [List.length_set]; exact hm2, by rw [em]⟩
        · exact p2.elim
      · exact p2.elim
    · obtain ⟨rfl, z⟩ := z
      exact wpAny_pure z
  · cases h
def cDst (c : CP S) : CE S := .plain (eDst c) (kDsp c) (cDst_pe c) fun N sc e h => by cases e <;> first | exact ⟨rfl, rfl⟩ | cases h
/-! ### d[k] = v -/
def stT (m : Nat) (k v : Va) (G : Gh) : Option VO → Option Gh
  | some (.dtu false kvs) => if nkOk k = true ∧ kvs.length < sizeLine then some (G.set m (.dtu false (dPut kvs k v))) else none
  | _ => stV k v (.ref m) G
def stX (k v : Va) : Va → Gh → Option Gh
  | .ref m, G => stT m k v G G[m]?
  | _, _ => none
def rSetX (S : Sx) : TSet := fun o i v H Q => ∃ ρ G a b c G', Rl S ρ G H ∧ VR S ρ G.length H a o ∧ VR S ρ G.length H b i ∧ VR S ρ G.length H c v ∧ stX b c a G = some G' ∧ ∀ H', Ext ρ G.length H ρ G'.length H' → Rl S ρ G' H' → Q H'
theorem rsetX_ok (o : Okx S sc N lev E X) : PSet X (rSetX S) := by
  intro pins s σ H ov iv v u1 u2 u3 Q I r1 r2 r3 h
  obtain ⟨ρ, G, a, b, c, G', R, ra, rb, rc, e, q⟩ := h
  cases a with
  | ref m =>
    have ra0 := ra
    obtain ⟨hm, rfl⟩ := vr_ref ra
    obtain ⟨w, hw⟩ := get_of hm
    have e : stT m b c G G[m]? = some G' := e
    have old : stV b c (.ref m) G = some G' → wpAny (model X.prog X.w) X.A (setItem u1 u2 u3) (fun _ s' => ∃ H', Inv X pins σ H' s' ∧ Q H') X.xe s := fun e =>
      rset_ok o pins s σ H _ iv v u1 u2 u3 Q I r1 r2 r3 ⟨ρ, G, .ref m, b, c, G', R, ra0, rb, rc, e, q⟩
    rw [hw] at e
    cases w with
    | dtu lk kvs =>
      cases lk with
      | true => exact old e
      | false =>
        have e : (if nkOk b = true ∧ kvs.length < sizeLine then some (G.set m (.dtu false (dPut kvs b c))) else none) = some G' := e
        split at e
        · rename_i hc
          cases e
          obtain ⟨zs, k', rfl, hk, hd⟩ := nkOk_inv hc.1
          obtain ⟨ks, k1, k2⟩ := R.ob m _ hw
          obtain ⟨z1, z2, z3⟩ := dtu_H I o (.inl k1) k2
          cases (show u1 = Value.ref (ρ m) from r1)
          have is := nk_is I o.K hk rb r2
          have rb0 := rb
          obtain ⟨t, ys, rfl, _, _⟩ := vr_tup rb
          cases (show u2 = Value.ref t from r2)
          have hu := o.un
          have hl : ks.length = kvs.length := drt_len k2
          refine wpAny_setItem_heap (knd := nestedKind X.prog X.w) (hsz := z1) (show X.A.units + 1 + 8 < cLine by omega) ⟨is, hd⟩ z3 fun h' dd' hs => ?_
          have len : (storedH ks k' t u3).length ≤ sizeLine := by
            have := storedH_length ks k' t u3
            omega
          have he : ∃ q, h'.get? (ρ m) = some q := let ⟨q, _, _, hq, _⟩ := dd'; ⟨q, hq⟩
          have w := R.write (o' := .dtu false (dPut kvs (.tup zs) c)) (u := dN S.w (ρ m) (storedH ks k' t u3)) hw rfl rfl (fun xs z => by rw [k1] at z; cases z) (fun b v z => by rw [k1] at z; cases z) (fun gs z => by rw [k1] at z; cases z) (fun ρ' hρ' ex => by
            subst hρ'
            exact ⟨_, upd_same, (drt_put hk hd rb0 rc r3 k2).mono ex⟩)
          exact ⟨_, d_write I (by rw [k1]; exact True.intro) hs he (dN_ok o.w len z2 dd'), q _ w.2 w.1⟩
        · cases e
    | _ => exact old e
  | _ => cases e
def gSuXE (a i : Lo → Gh → Res Va) : Va → Lo → Gh → Res Lo := fun v L G => (noex (a L G)).bind fun o G1 => (noex (i L G1)).bind fun k G2 => okL L (stX k v o G2)
theorem gSuX_pg (a i : CE S) {e : Expr} (o : Okx S sc N lev E X) (h : kSub a i N sc e = true) : PG X e (WGt S [] (gSuXE a.ev i.ev)) := by
  unfold kSub at h
  split at h
  · rename_i x y p
    simp only [Bool.and_eq_true, Bool.not_eq_true'] at h
    obtain ⟨h0, h1, h2⟩ := h
    refine pg_imp (pg_sub (a.pe o h1) (i.pe o h2) (rsetX_ok o) (fun v => by cases y <;> first | rfl | (cases h0; done))) fun v σ H Q q => ?_
    obtain ⟨ρ, L, G, w, R, l, rw', p⟩ := q
    refine ⟨ρ, L, G, R, l, Post.bindN p fun ob G1 ρ1 H1 x1 e1 R1 r1 p1 => ?_⟩
    refine ⟨ρ1, L, G1, R1, l.mono e1, Post.bindN p1 fun k G2 ρ2 H2 x2 e2 R2 r2 p2 => ?_⟩
    cases es : stX k w ob G2 with
    | none => rw [es] at p2; exact p2.elim
    | some G' =>
      rw [es] at p2
      refine ⟨ρ2, G2, ob, k, w, G', R2, r1.mono e2, r2, (rw'.mono e1).mono e2, es, fun H' e3 R3 => p2 ρ2 H' σ e3 R3 ⟨((l.mono e1).mono e2).mono e3, Same.refl⟩⟩
  · cases h
def gSuX (a i : CE S) : CG S := ⟨gSuXE a.ev i.ev, [], kSub a i, gSuX_pg a i, fun {N sc e env} h => by cases e <;> first | rfl | cases h⟩
end
end VM
/-! VNg: k in d; dict(x); list(d.items()) -/
namespace VMQ
open PySem PySem.Spec PyProof.Rows
section
variable {prog : Program} {w : World} {K : Type} [DecidableEq K] {knd : HeapKind prog w K} {A : Around} {E : Value → Shared → Prop} {s : Shared}
theorem storedH_self {xs : List (K × Addr × Value)} (h : (xs.map (·.1)).Nodup) : storedAllH [] xs = xs := storedAllH_nil_of_nodup xs h
theorem ty_push {s : Shared} {v : Value} {T : String} (h : s.TypeIs v T) (o : Obj) : ({ s with heap := s.heap.push o } : Shared).TypeIs v T := by
  cases v with
  | ref a =>
    obtain ⟨ob, z1, z2⟩ := h
    exact ⟨ob, Heap.get?_push_of_some _ z1, z2⟩
  | _ => exact h
theorem nodup_one {β : Type} {f : K × Addr × Value → β} {xs : List (K × Addr × Value)} (h : xs.length ≤ 1) : (xs.map f).Nodup := by
  match xs, h with
  | [], _ => exact List.nodup_nil
  | [x], _ => simp
/-- dict(d): its keys tuples, at most one -/
theorem call_dictH {o : Addr} {xs : List (K × Addr × Value)} {Q : Value → Shared → Prop} (hu : knd.room A.in1.in1) (hoS : (o == sysModules) = false) (hm : s.heap.DictOfH knd o xs) (hsz : xs.length ≤ 1) (hty : ∀ x ∈ xs, s.TypeIs (.ref x.2.1) "tuple") (keep : ∀ x ∈ xs, ∀ h', (∀ b ob, s.heap.get? b = some ob → h'.get? b = some ob) → knd.is h' x.1 x.2.1)
    (h : ∀ h', h'.DictOfH knd s.heap.objs.size xs → Heap.SameBut s.heap.objs.size (s.heap.push { cls := .type "dict", data := .dict #[] }) h' → Q (.ref s.heap.objs.size) { s with heap := h' }) : wpAny (model prog w) A (call (.type "dict") [.ref o]) Q E s := by
  refine callType_codes (Q₁ := fun obj s₁ => obj = .ref s.heap.objs.size ∧ s₁ = { s with heap := s.heap.push { cls := .type "dict", data := .dict #[] } }) F.kt_called_dict (F.kt_typeCall_dict_1 _) F.entry_dict_init (kt_code_dict_new _ ⟨rfl, rfl⟩) ?_
  rintro obj s₁ ⟨rfl, rfl⟩
  have hnew : (s.heap.push { cls := .type "dict", data := .dict #[] }).DictOfH knd s.heap.objs.size [] := Heap.DictOfH.new s.heap
  have old : ∀ b ob, s.heap.get? b = some ob → (s.heap.push { cls := .type "dict", data := .dict #[] }).get? b = some ob := fun b ob z => Heap.get?_push_of_some _ z
  have hn := hm.nodup
  have ho' : (s.heap.push { cls := .type "dict", data := .dict #[] }).DictOfH knd o xs := hm.at' (fun ob z => old o ob z) fun x hx => keep x hx _ old
  have hdo : s.heap.objs.size ≠ o := fun e => absurd hm.lt_size (by rw [e]; exact Nat.lt_irrefl _)
  refine ⟨hnew.typeIs, F.args_dict_init_2 _ _, ?_⟩
  unfold Builtin.«dict.__init__»
  refine wpAny_bind ?_
  unfold Builtin.Dict.selfAndRest
  refine wpAny_bind (wpAny_notOrdered_dict hnew.typeIs ?_)
  show wpAny _ _ (pure (s.heap.objs.size, [Value.ref o])) _ _ _
  refine wpAny_pure ?_
  show wpAny _ _ (Builtin.Dict.updateFrom "dict.__init__" s.heap.objs.size (.ref o) [] .none) _ _ _
  unfold Builtin.Dict.updateFrom
  refine wpAny_bind (wpAny_typeOf ho'.typeIs ?_)
  rw [if_neg (by decide)]
  refine wpAny_bind ?_
  unfold Builtin.Dict.merge
  refine wpAny_bind ?_
  unfold Builtin.Dict.readDirectly
  refine wpAny_bind (wpAny_isInstance ho'.typeIs isSubtype_dict_dict ?_)
  simp only [Bool.not_true, Bool.false_eq_true, if_false]
  refine wpAny_bind (wpAny_specialOf ho'.typeIs F.slot_dict_iter.lookup (wpAny_pure ?_))
  simp only [beq_self_eq_true, if_true]
  refine wpAny_bind (wpAny_pure ?_)
  refine wpAny_mergeDict_heap (hsz := by rw [sizeLine_eq]; simp; omega) hu hdo hoS hnew ho' (.inr ⟨fun x hx => ?_, ?_⟩) fun h' hd' _ hs' => ?_
  · exact ty_push (hty x hx) _
  · exact nodup_one hsz
  show wpAny _ _ (Builtin.Dict.addKeywords s.heap.objs.size [] >>= _) _ _ _
  rw [storedH_self hn] at hd'
  exact wpAny_bind (wpAny_pure (wpAny_pure ⟨rfl, h h' hd' hs'⟩))
end
end VMQ
namespace VM
open PySem PySem.Spec PyProof.Rows L2 VMQ
section
variable {S : Sx} {sc : Scope} {N : List Str} {lev : Nat} {E : EW} {X : Cx} {ρ ρ' : Nat → Addr} {G : Gh} {H H' : Hp} {n n' : Nat} {pins : List (Addr × Obj)} {s : Shared} {σ : L2.St}
/-! ### k in d -/
def inT (neg : Bool) (x y : Va) (G : Gh) : Option VO → Option (Va × Gh)
  | some (.dct _ kvs) => if (keyS x).isSome = true then some (.bl (neg ^^ (dGet kvs x).isSome), G) else none
  | some (.dtu _ kvs) => if nkOk x = true then some (.bl (neg ^^ (dGet kvs x).isSome), G) else none
  | _ => if neg = true then opNotIn x y G else opIn x y G
def opInX (neg : Bool) : Op2 := fun x y G => match y with
  | .ref m => inT neg x (.ref m) G G[m]?
  | _ => if neg = true then opNotIn x y G else opIn x y G
theorem inX_ok (o : Okx S sc N lev E X) (neg : Bool) : OpR X (compareOp (if neg = true then .NotIn else .In)) (rO2 S (opInX neg)) := by
  intro pins s σ H x y v u Q I rx ry ⟨ρ, G, a, b, R, ra, rb, p⟩
  have hu := o.un
  have old : Fin1 S ρ G.length H Q (if neg = true then opNotIn a b G else opIn a b G) → wpAny (model X.prog X.w) X.A (compareOp (if neg = true then .NotIn else .In) v u) (EP X pins σ Q) X.xe s := fun p => by
    cases neg with
    | false => exact in_ok o pins s σ H x y v u Q I rx ry ⟨ρ, G, a, b, R, ra, rb, p⟩
    | true => exact notin_ok o pins s σ H x y v u Q I rx ry ⟨ρ, G, a, b, R, ra, rb, p⟩
  cases b with
  | ref m =>
    have p : Fin1 S ρ G.length H Q (inT neg a (.ref m) G G[m]?) := p
    obtain ⟨hm, rfl⟩ := vr_ref rb
    cases (show u = Value.ref (ρ m) from ry)
    obtain ⟨w, hw⟩ := get_of hm
    rw [hw] at p
    cases w with
    | dct lk kvs =>
      have p : Fin1 S ρ G.length H Q (if (keyS a).isSome = true then some (.bl (neg ^^ (dGet kvs a).isSome), G) else none) := p
      split at p
      · rename_i hk
        obtain ⟨k', hk'⟩ := Option.isSome_iff_exists.mp hk
        obtain ⟨ks, h1, h2⟩ := dget_of R hw
        have ey := keyS_V hk' ra
        have e : (dGet kvs a).isSome = (valV ks k').isSome := by
          rcases drk_get hk' h2 with ⟨g1, g2⟩ | ⟨z, w, g1, g2, _⟩
          · rw [g1, g2]; rfl
          · rw [g1, g2]; rfl
        have g : DGet H (ρ m) x (valV ks k') := .inl ⟨ks, k', h1, ey, rfl⟩
        cases neg with
        | false =>
          refine d_in o.u1 I g rx fun s' I' => ⟨.bl _, H, I', rfl, ?_⟩
          have q := p.old R (v' := .bl (dGet kvs a).isSome) (by unfold VR; simp)
          rw [e] at q; exact q
        | true =>
          refine d_notIn o.u1 I g rx fun s' I' => ⟨.bl _, H, I', rfl, ?_⟩
          have q := p.old R (v' := .bl (!(dGet kvs a).isSome)) (by unfold VR; simp)
          rw [e] at q; exact q
      · exact (fin_no p).elim
    | dtu lk kvs =>
      have p : Fin1 S ρ G.length H Q (if nkOk a = true then some (.bl (neg ^^ (dGet kvs a).isSome), G) else none) := p
      split at p
      · rename_i hk
        obtain ⟨zs, k', rfl, hk', hd⟩ := nkOk_inv hk
        obtain ⟨ks, h1, h2⟩ := dtu_of R hw
        obtain ⟨z1, z2, z3⟩ := dtu_H I o h1 h2
        have is := nk_is I o.K hk' ra rx
        obtain ⟨t, ys, rfl, _, _⟩ := vr_tup ra
        cases (show v = Value.ref t from rx)
        have e : (dGet kvs (.tup zs)).isSome = (atKey ks k').isSome := by
          rcases drt_get hk' h2 with ⟨g1, g2⟩ | ⟨z, b, u, y, g1, g2, _⟩
          · rw [g1, g2]; rfl
          · rw [g1, g2]; rfl
        cases neg with
        | false =>
          refine wpAny_in_heap (knd := nestedKind X.prog X.w) (show X.A.units + 1 + 8 < cLine by omega) ⟨is, hd⟩ z2 z3 ⟨.bl _, H, I.tok _, rfl, ?_⟩
          have q := p.old R (v' := .bl (dGet kvs (.tup zs)).isSome) (by unfold VR; simp)
          rw [e] at q; exact q
        | true =>
          refine notIn_keyed (knd := nestedKind X.prog X.w) (show X.A.units + 1 + 8 < cLine by omega) ⟨is, hd⟩ z2 ⟨ks, z3, rfl⟩ ?_
          rw [valueAt_pairsH, Option.isSome_map]
          refine ⟨.bl _, H, I.tok _, rfl, ?_⟩
          have q := p.old R (v' := .bl (!(dGet kvs (.tup zs)).isSome)) (by unfold VR; simp)
          rw [e] at q; exact q
      · exact (fin_no p).elim
    | _ => exact old p
  | _ => exact old p
theorem opInX_bl {neg : Bool} {a b : Va} {G G' : Gh} {v : Va} (h : opInX neg a b G = some (v, G')) : ∃ c, v = .bl c ∧ G' = G := by
  have old : ∀ {b}, (if neg = true then opNotIn a b G else opIn a b G) = some (v, G') → ∃ c, v = .bl c ∧ G' = G := fun {b} h => by
    split at h
    · exact cmpF_bl (op := .NotIn) h
    · exact cmpF_bl (op := .In) h
  cases b with
  | ref m =>
    have h : inT neg a (.ref m) G G[m]? = some (v, G') := h
    unfold inT at h
    split at h
    · split at h
      · cases h; exact ⟨_, rfl, rfl⟩
      · cases h
    · split at h
      · cases h; exact ⟨_, rfl, rfl⟩
      · cases h
    · exact old h
  | _ => exact old h
def eInX (neg : Bool) (a b : CE S) : Lo → Gh → Res Va := fun L G => (a.ev L G).bind fun x G1 => (b.ev L G1).bind fun y G2 => lift (opInX neg x y G2)
def kInX (neg : Bool) (a b : CE S) (N : List Str) (sc : Scope) : Expr → Bool
  | .Compare x [op'] [y] _ => decide (op' = if neg = true then .NotIn else .In) && (!isSetE y && (a.chk N sc x && b.chk N sc y))
  | _ => false
theorem cInX_pe (neg : Bool) (a b : CE S) {e : Expr} (o : Okx S sc N lev E X) (h : kInX neg a b N sc e = true) : PE X e (WE S E (eInX neg a b)) := by
  unfold kInX at h
  split at h
  · simp only [Bool.and_eq_true, decide_eq_true_eq, Bool.not_eq_true'] at h
    obtain ⟨rfl, h0, h1, h2⟩ := h
    exact pe_imp (pe_cmpR (inX_ok o neg) (a.pe o h1) (b.pe o h2) (marks_plain h0)) fun σ H Q q => two_ok (sc := sc) (N := N) (lev := lev) (X := X) a b (opInX neg) q
  · cases h
theorem cInX_pt (neg : Bool) (a b : CE S) {e : Expr} (o : Okx S sc N lev E X) (h : kInX neg a b N sc e = true) : PT X e (WT S E fun L G => (eInX neg a b L G).bind (tr S)) := by
  unfold kInX at h
  split at h
  · simp only [Bool.and_eq_true, decide_eq_true_eq, Bool.not_eq_true'] at h
    obtain ⟨rfl, h0, h1, h2⟩ := h
    refine pt_imp (pt_cmpR (inX_ok o neg) (a.pe o h1) (b.pe o h2) (marks_plain h0)) fun σ H Q q => ?_
    refine two_ok (sc := sc) (N := N) (lev := lev) (X := X) a b (opInX neg) (Q := fun x H' => ∃ k, x = .bl k ∧ Q k H') ?_
    obtain ⟨ρ, L, G, R, l, p⟩ := q
    refine ⟨ρ, L, G, R, l, Post.bindE (r := eInX neg a b L G) p fun v G1 ρ1 H1 x er e1 R1 r1 p1 => ?_⟩
    obtain ⟨x', G1', _, hb⟩ := bind_inv er
    obtain ⟨y', G2', _, hc⟩ := bind_inv hb
    obtain ⟨c, rfl, _⟩ := opInX_bl (lift_inv hc)
    unfold VR at r1; subst r1
    exact ⟨c, rfl, p1 ρ1 H1 c (Ext.refl _ _ _) R1 rfl⟩
  · cases h
def cInX (neg : Bool) (a b : CE S) : CE S := ⟨eInX neg a b, fun L G => (eInX neg a b L G).bind (tr S), kInX neg a b, cInX_pe neg a b, cInX_pt neg a b, fun {N sc e} h => by cases e <;> first | rfl | cases h⟩
/-! ### dict(x) -/
def prO : Va → Option (Va × Va)
  | .tup [k, v] => if (keyS k).isSome = true then some (k, v) else none
  | _ => none
def dicO (G : Gh) : Option VO → Option (Va × Gh)
  | some (.dct _ kvs) => some (.ref G.length, G ++ [.dct false kvs])
  | some (.dtu _ kvs) => if kvs.length ≤ 1 then some (.ref G.length, G ++ [.dtu false kvs]) else none
  | some (.lst _ xs) => (mapO prO xs).map fun ps => (.ref G.length, G ++ [.dct false (dMerge [] ps)])
  | _ => none
def dicF : Op1
  | .ref m, G => dicO G G[m]?
  | _, _ => none
theorem prO_ok : ∀ {xs : List Va} {ys : List V} {ps : List (Va × Va)}, mapO prO xs = some ps → VRs S ρ n H xs ys → ∃ (as : List Addr) (kvs : List (Key × V)), ys = as.map V.ref ∧ Paired (fun p kv => SqT S.K H p [kV kv.1, kv.2]) as kvs ∧ DRk S ρ n H ps kvs
  | [], _, _, h, r => by
    cases h
    unfold VRs at r; subst r
    exact ⟨[], [], rfl, .nil, rfl⟩
  | x :: xs, _, _, h, r => by
    obtain ⟨d, ds, h1, h2, rfl⟩ := mapO_cons h
    unfold VRs at r
    obtain ⟨y, t, rfl, r1, r2⟩ := r
    obtain ⟨as, kvs, rfl, e2, e3⟩ := prO_ok h2 r2
    unfold prO at h1
    split at h1
    · rename_i k v
      split at h1
      · rename_i hk
        cases h1
        obtain ⟨k', hk'⟩ := Option.isSome_iff_exists.mp hk
        obtain ⟨a, zs, rfl, s1, s2⟩ := vr_tup r1
        obtain ⟨y1, y2, rfl, q1, q2⟩ := s2.two
        have := keyS_V hk' q1
        subst this
        exact ⟨a :: as, (k', y2) :: kvs, rfl, .cons s1 e2, ⟨k', y2, kvs, rfl, hk', q2, e3⟩⟩
      · cases h1
    · cases h1
theorem nested_keep {h h' : Heap} {k : NestedKey} {a : Addr} (x : NestedIs h k (.ref a) ∧ k.depth ≤ 8) (hk : ∀ b ob, h.get? b = some ob → h'.get? b = some ob) : NestedIs h' k (.ref a) ∧ k.depth ≤ 8 := ⟨NestedIs.at (fun b ob vs n hb _ => hk b ob hb) k _ x.1, x.2⟩
theorem dict_at {P : Program} {w : World} {h : Heap} {d : Addr} {xs : List (NestedKey × Addr × Value)} (hm : h.DictOfH (nestedKind P w) d xs) {s : Shared} (hs : s.heap = h) : ∀ x ∈ xs, s.TypeIs (.ref x.2.1) "tuple" := by
  subst hs
  obtain ⟨_, _, _, _, _, _, _, his, _⟩ := hm
  intro x hx
  have z := (his x hx).1
  cases hk : x.1 with
  | tup ks =>
    rw [hk] at z
    cases z with
    | tup z1 z2 _ _ => exact ⟨_, z1, z2⟩
  | none => rw [hk] at z; cases z
  | num i => rw [hk] at z; cases z
  | text t => rw [hk] at z; cases z
theorem cr_dicF (h : S.hq = false) (o : Okx S sc N lev E X) : CallR X (.type "dict") (rON S (on1 dicF)) := by
  refine cr1 fun pins s σ H x u Q ρ G v I ru R r p => ?_
  have hu := o.un
  cases v with
  | ref m =>
    obtain ⟨hm, rfl⟩ := vr_ref r
    have p : Fin1 S ρ G.length H Q (dicO G G[m]?) := p
    obtain ⟨w, hw⟩ := get_of hm
    rw [hw] at p
    cases w with
    | dct lk kvs =>
      have p : Fin1 S ρ G.length H Q (some (.ref G.length, G ++ [.dct false kvs])) := p
      obtain ⟨ks, h1, h2⟩ := dget_of R hw
      cases (show u = Value.ref (ρ m) from ru)
      refine d_copyOf I h1 fun d s' hd I' => ?_
      obtain ⟨R1, e1, v1⟩ := rl_obj (o := .dct false kvs) (u := .dK ks) R hd (fun ρ' e => ⟨ks, upd_same, h2.mono e⟩)
      obtain ⟨a, b, q, k⟩ := p
      cases q
      exact ⟨.ref d, _, I', rfl, k _ _ _ e1 R1 v1⟩
    | dtu lk kvs =>
      have p : Fin1 S ρ G.length H Q (if kvs.length ≤ 1 then some (.ref G.length, G ++ [.dtu false kvs]) else none) := p
      split at p
      · rename_i hl
        obtain ⟨ks, h1, h2⟩ := dtu_of R hw
        obtain ⟨z1, z2, z3⟩ := dtu_H I o h1 h2
        cases (show u = Value.ref (ρ m) from ru)
        refine call_dictH (knd := nestedKind X.prog X.w) (show X.A.units + 1 + 1 + 8 < cLine by omega) z2 z3 (by rw [drt_len h2]; exact hl) (dict_at z3 rfl) (fun x hx h' hk => nested_keep (drt_is I o.K h2 x hx) hk) fun h' dd' hs => ?_
        have hd : H s.heap.objs.size = none := I.hok.fresh (Nat.le_refl _)
        obtain ⟨R1, e1, v1⟩ := rl_obj (o := .dtu false kvs) (u := dN S.w s.heap.objs.size ks) R hd (fun ρ' e => ⟨ks, upd_same, h2.mono e⟩)
        obtain ⟨a, b, q, k⟩ := p
        cases q
        have hsys : (s.heap.objs.size == sysModules) = false := beq_eq_false_iff_ne.mpr (Nat.ne_of_gt I.big)
        refine ⟨.ref s.heap.objs.size, _, I.laid (a := s.heap.objs.size) (o := dN S.w s.heap.objs.size ks) (t' := s.toks) (fun b q hq => (hs.2 b (Nat.ne_of_lt (Heap.lt_size hq))).trans (Heap.get?_push_of_some _ hq)) (Nat.le_refl _) (dN_ok o.w z1 hsys dd'), rfl, k _ _ _ e1 R1 v1⟩
      · exact (fin_no p).elim
    | lst fz xs =>
      have p : Fin1 S ρ G.length H Q ((mapO prO xs).map fun ps => (.ref G.length, G ++ [.dct false (dMerge [] ps)])) := p
      cases e : mapO prO xs with
      | none => rw [e] at p; exact (fin_no p).elim
      | some ps =>
        rw [e] at p
        obtain ⟨ys, h1, h2⟩ := rl_seq R hw
        obtain ⟨as, kvs, rfl, e2, e3⟩ := prO_ok e h2
        refine call_dictP (o.calm h) pins s σ H _ _ Q I (.cons ru .nil) ⟨_, as, kvs, rfl, by rw [o.K]; exact h1, by rw [o.K]; exact e2, fun d hd => ?_⟩
        obtain ⟨R1, e1, v1⟩ := rl_obj (o := .dct false (dMerge [] ps)) (u := .dK (mergeK [] kvs)) R hd (fun ρ' e => ⟨_, upd_same, (drk_merge e3 (show DRk S ρ G.length H [] [] from rfl)).mono e⟩)
        obtain ⟨a, b, q, k⟩ := p
        cases q
        exact k _ _ _ e1 R1 v1
    | _ => exact (fin_no p).elim
  | _ => exact (fin_no p).elim
def bDict : Bop S (.type "dict") := ⟨on1 dicF, false, fun h => cr_dicF (by simpa using h)⟩
/-! ### list(d.items()) -/
def liO (G : Gh) : Option VO → Option (Va × Gh)
  | some (.dct false kvs) => some (.ref G.length, G ++ [.lst false (kvs.map tup2)])
  | _ => none
def liF : Op1
  | .ref m, G => liO G G[m]?
  | _, _ => none
def kLi (S : Sx) (a : CE S) (N : List Str) (sc : Scope) : Expr → Bool
  | .Call (.Name x _) [.Call (.Attribute y m ap) [] [] cp] [] _ => !S.hq && (bltN S x sc && (decide (x = "list") && (decide (m = "items") && ((ap.endLine == cp.line) && (!isSuper y && a.chk N sc y)))))
  | _ => false
theorem li_rel (e : Ext ρ n H ρ' n' H') (hK : S.K = X.K) : ∀ {kvs : List (Va × Va)} {ks : List (Key × V)} {ts : List Addr}, DRk S ρ n H kvs ks → Paired (fun (t : Addr) (q : Key × V) => H' t = some (.tup [kV q.1, q.2])) ts ks → VRs S ρ' n' H' (kvs.map tup2) (ts.map V.ref)
  | [], _, _, h, r => by cases h; cases r; exact VRs.nil
  | (k, v) :: kvs, _, _, h, r => by
    obtain ⟨k', y, t, rfl, h1, h2, h3⟩ := h
    cases r with
    | cons q qs =>
      refine VRs.cons ?_ (li_rel e hK h3 qs)
      unfold tup2 VR
      refine ⟨_, _, rfl, SqT.of q, VRs.cons ?_ (VRs.cons (h2.mono e) VRs.nil)⟩
      cases k with
      | int i => cases h1; unfold VR; rfl
      | str s => cases h1; unfold VR; rfl
      | _ => cases h1
theorem cLi_pe (a : CE S) {e : Expr} (o : Okx S sc N lev E X) (h : kLi S a N sc e = true) : PE X e (WE S E fun L G => (a.ev L G).bind fun x G1 => lift (liF x G1)) := by
  unfold kLi at h
  split at h
  · rename_i x px y m ap cp pos
    simp only [Bool.and_eq_true, Bool.not_eq_true', decide_eq_true_eq] at h
    obtain ⟨hq, h1, rfl, rfl, h4, h5, h6⟩ := h
    obtain ⟨g1, g2, g3, g4⟩ := bltN_ok o h1
    refine pe_imp (LiI.pe_listItems (o.calm hq) (a.pe o h6) g1 g2 (by rfl) (base_plain h5) h4) fun σ H Q q => ?_
    obtain ⟨ρ, L, G, R, l, p⟩ := q
    refine ⟨ρ, L, G, R, l, Post.bind p fun v G1 ρ1 H1 x e1 R1 r1 p1 => ?_⟩
    cases v with
    | ref m =>
      obtain ⟨hm, rfl⟩ := vr_ref r1
      obtain ⟨w, hw⟩ := get_of hm
      have p1 : Post S (VR S) (E σ) ρ1 G1.length H1 Q (lift (liO G1 G1[m]?)) := p1
      rw [hw] at p1
      cases w with
      | dct lk kvs =>
        cases lk with
        | true => exact p1.elim
        | false =>
          have p1 : Post S (VR S) (E σ) ρ1 G1.length H1 Q (.ok (.ref G1.length) (G1 ++ [.lst false (kvs.map tup2)])) := p1
          obtain ⟨ks, k1, k2⟩ := R1.ob m _ hw
          refine ⟨_, ks, rfl, k1, fun H' d ts keep hd hts hnot hl hp => ?_⟩
          have ex : Ext ρ1 G1.length H1 (put ρ1 G1.length d) (G1.length + 1) H' := ⟨Nat.le_succ _, fun i hi => put_old hi, fun a xs z => keep _ _ z, fun a o u z => keep _ _ z, fun a gs z => keep _ _ z⟩
          have el : (G1 ++ [VO.lst false (kvs.map tup2)]).length = G1.length + 1 := by simp
          refine p1 (put ρ1 G1.length d) H' (.ref d) (by rw [el]; exact ex) (R1.push ex (fun a u z => keep a u z) hd ⟨_, hl, li_rel (X := X) ex o.K.symm k2 hp⟩) ?_
          unfold VR
          exact ⟨by rw [el]; exact Nat.lt_succ_self _, by rw [put_same]⟩
      | _ => exact p1.elim
    | _ => exact p1.elim
  · cases h
def cLi (a : CE S) : CE S := .plain (fun L G => (a.ev L G).bind fun x G1 => lift (liF x G1)) (kLi S a) (cLi_pe a) fun N sc e h => by cases e <;> first | exact ⟨rfl, rfl⟩ | cases h
end
end VM
/-! VNh: a dict locked while a loop goes through it -/
namespace VM
open PySem PySem.Spec PyProof.Rows L2 VMQ
/-! ### what stays when a dict is unlocked -/
/-- a dict's description -/
def isD : HO → Prop
  | .dK _ => True
  | .ext _ => True
  | _ => False
structure ExV (ρ : Nat → Addr) (n : Nat) (H : Hp) (ρ' : Nat → Addr) (n' : Nat) (H' : Hp) : Prop where
  le : n ≤ n'
  eq : ∀ i, i < n → ρ' i = ρ i
  tu : ∀ a xs, H a = some (.tup xs) → H' a = some (.tup xs)
  fz : ∀ a o u, ¬ isD u → H a = some (.frz o u) → H' a = some (.frz o u)
  xd : ∀ a gs, H a = some (.xd gs) → H' a = some (.xd gs)
section
variable {S : Sx} {ρ ρ' : Nat → Addr} {n n' : Nat} {H H' : Hp} {G : Gh} {L : Lo} {σ : L2.St}
theorem sqt_mv (e : ExV ρ n H ρ' n' H') {a : Addr} {xs : List V} (h : SqT S.K H a xs) : SqT S.K H' a xs := by
  rcases h with (h | ⟨o, h⟩) | h
  · exact .inl (.inl (e.tu _ _ h))
  · exact .inl (.inr ⟨o, e.fz _ _ _ (fun z => z) h⟩)
  · exact .inr h
mutual
theorem VR.mv (e : ExV ρ n H ρ' n' H') : ∀ {x : Va} {v : V}, VR S ρ n H x v → VR S ρ' n' H' x v
  | .non, _, h => by simpa [VR] using h
  | .bl _, _, h => by simpa [VR] using h
  | .int _, _, h => by simpa [VR] using h
  | .str _, _, h => by simpa [VR] using h
  | .tup xs, _, h => by
    unfold VR at h ⊢
    obtain ⟨a, ys, h1, h2, h3⟩ := h
    exact ⟨a, ys, h1, sqt_mv e h2, VRs.mv e h3⟩
  | .ref m, _, h => by
    unfold VR at h ⊢
    exact ⟨Nat.lt_of_lt_of_le h.1 e.le, by rw [h.2, e.eq m h.1]⟩
  | .cl _, _, h => by simpa [VR] using h
  | .ty _, _, h => by simpa [VR] using h
  | .xr c m, _, h => by
    unfold VR at h ⊢
    obtain ⟨h1, a, h2, h3⟩ := h
    exact ⟨Nat.lt_of_lt_of_le h1 e.le, a, h2, by rw [e.eq m h1]; exact h3⟩
theorem VRs.mv (e : ExV ρ n H ρ' n' H') : ∀ {x : List Va} {v : List V}, VRs S ρ n H x v → VRs S ρ' n' H' x v
  | [], _, h => by simpa [VRs] using h
  | x :: xs, _, h => by
    unfold VRs at h ⊢
    obtain ⟨y, r, h1, h2, h3⟩ := h
    exact ⟨y, r, h1, VR.mv e h2, VRs.mv e h3⟩
end
theorem FR.mv (e : ExV ρ n H ρ' n' H') : ∀ {fs : List (Nat × Va)} {gs : List (Str × V)}, FR S ρ n H fs gs → FR S ρ' n' H' fs gs
  | [], _, h => h
  | (f, x) :: fs, _, ⟨y, r, h1, h0, h2, h3⟩ => ⟨y, r, h1, h0, h2.mv e, FR.mv e h3⟩
theorem DRk.mv (e : ExV ρ n H ρ' n' H') : ∀ {fs : List (Va × Va)} {gs : List (Key × V)}, DRk S ρ n H fs gs → DRk S ρ' n' H' fs gs
  | [], _, h => h
  | (f, x) :: fs, _, ⟨k', y, r, h1, h0, h2, h3⟩ => ⟨k', y, r, h1, h0, h2.mv e, DRk.mv e h3⟩
theorem DRt.mv (e : ExV ρ n H ρ' n' H') : ∀ {fs : List (Va × Va)} {gs : List (NestedKey × Addr × Value)}, DRt S ρ n H fs gs → DRt S ρ' n' H' fs gs
  | [], _, h => h
  | (f, x) :: fs, _, ⟨k', b, u, y, r, h1, h2, h3, h4, h5, h6, h7⟩ => ⟨k', b, u, y, r, h1, h2, h3, h4.mv e, h5.mv e, h6, DRt.mv e h7⟩
theorem LR.mv (e : ExV ρ n H ρ' n' H') (h : LR S ρ n H L σ) : LR S ρ' n' H' L σ := fun i x q => by
  obtain ⟨v, h1, h2⟩ := h i x q
  exact ⟨v, h1, h2.mv e⟩
theorem OR.mv (e : ExV ρ n H ρ' n' H') {a : Addr} : ∀ {o : VO}, (o.tr = true → H' a = H a) → OR S ρ n H o a → OR S ρ' n' H' o a
  | .lst false xs, ha, ⟨ys, h1, h2⟩ => ⟨ys, (ha rfl).trans h1, h2.mv e⟩
  | .lst true xs, _, ⟨ys, h1, h2⟩ => ⟨ys, h1.elim (fun ⟨o, q⟩ => .inl ⟨o, e.fz _ _ _ (fun z => z) q⟩) .inr, h2.mv e⟩
  | .dct false kvs, ha, ⟨ks, h1, h2⟩ => ⟨ks, (ha rfl).trans h1, h2.mv e⟩
  | .dct true kvs, ha, ⟨o, ks, h1, h2⟩ => ⟨o, ks, (ha rfl).trans h1, h2.mv e⟩
  | .ins c fs, ha, ⟨dx, gs, h1, h2, h3, h5, h4⟩ => ⟨dx, gs, (ha rfl).trans h1, h2.mv e, h3, h5, h4⟩
  | .exc fs, _, ⟨gs, h1, h2⟩ => ⟨gs, e.xd _ _ h1, h2.mv e⟩
  | .dtu false kvs, ha, ⟨ks, h1, h2⟩ => ⟨ks, (ha rfl).trans h1, h2.mv e⟩
  | .dtu true kvs, ha, ⟨o, ks, h1, h2⟩ => ⟨o, ks, (ha rfl).trans h1, h2.mv e⟩
/-! ### locking, unlocking -/
def lockO : VO → Option VO
  | .dct false kvs => some (.dct true kvs)
  | .dtu false kvs => some (.dtu true kvs)
  | _ => none
def isLk : VO → Bool
  | .dct true _ => true
  | .dtu true _ => true
  | _ => false
/-- the lock's facts: o is what lies unlocked at ρ m, u its description -/
theorem lock_inv {o o' : VO} {a : Addr} (h : lockO o = some o') (r : OR S ρ n H o a) :
    ∃ u, H a = some u ∧ isD u ∧ o.tr = true ∧ o'.tr = true ∧ (∀ ρ' n' H', (∀ od, ExV ρ n H ρ' n' H' → H' a = some (.frz od u) → OR S ρ' n' H' o' a) ∧ (ExV ρ n H ρ' n' H' → H' a = some u → OR S ρ' n' H' o a)) := by
  unfold lockO at h
  split at h
  · cases h
    obtain ⟨ks, h1, h2⟩ := r
    exact ⟨_, h1, True.intro, rfl, rfl, fun ρ' n' H' => ⟨fun od e z => ⟨od, ks, z, h2.mv e⟩, fun e z => ⟨ks, z, h2.mv e⟩⟩⟩
  · cases h
    obtain ⟨ks, h1, h2⟩ := r
    exact ⟨_, h1, True.intro, rfl, rfl, fun ρ' n' H' => ⟨fun od e z => ⟨od, ks, z, h2.mv e⟩, fun e z => ⟨ks, z, h2.mv e⟩⟩⟩
  · cases h
theorem isD_mut {u : HO} (h : isD u) : Mut (some u) := by cases u <;> first | exact True.intro | exact h.elim
theorem Ext.v (e : Ext ρ n H ρ' n' H') : ExV ρ n H ρ' n' H' := ⟨e.le, e.eq, e.tu, fun a o u _ => e.fz a o u, e.xd⟩
theorem isD_nt {u : HO} (h : isD u) : (∀ xs, u ≠ .tup xs) ∧ (∀ b v, u ≠ .frz b v) ∧ ∀ gs, u ≠ .xd gs := by
  cases u <;> first | exact h.elim | exact ⟨fun _ z => (nomatch z), fun _ _ z => (nomatch z), fun _ z => (nomatch z)⟩
/-- from before a lock to within it -/
theorem Ext.lock {a : Addr} {u : HO} {od : Obj} (h : H a = some u) (d : isD u) : Ext ρ n H ρ n (upd H a (.frz od u)) := by
  obtain ⟨h1, h2, h3⟩ := isD_nt d
  refine ⟨Nat.le_refl _, fun _ _ => rfl, fun b xs z => ?_, fun b o v z => ?_, fun b gs z => ?_⟩
  · rw [upd_ne (fun e => by rw [e, h] at z; exact h1 _ (Option.some.inj z))]; exact z
  · rw [upd_ne (fun e => by rw [e, h] at z; exact h2 _ _ (Option.some.inj z))]; exact z
  · rw [upd_ne (fun e => by rw [e, h] at z; exact h3 _ (Option.some.inj z))]; exact z
/-- from within to behind it -/
theorem ExV.unlock {a : Addr} {u : HO} {od : Obj} (h : H a = some (.frz od u)) (d : isD u) : ExV ρ n H ρ n (upd H a u) := by
  refine ⟨Nat.le_refl _, fun _ _ => rfl, fun b xs z => ?_, fun b o v nd z => ?_, fun b gs z => ?_⟩
  · rw [upd_ne (fun e => by rw [e, h] at z; cases z)]; exact z
  · rw [upd_ne (fun e => by rw [e, h] at z; cases z; exact nd d)]; exact z
  · rw [upd_ne (fun e => by rw [e, h] at z; cases z)]; exact z
/-- from before to behind it -/
theorem Ext.unlock {a : Addr} {u : HO} {od : Obj} (h : H a = some u) (d : isD u) (e : Ext ρ n (upd H a (.frz od u)) ρ' n' H') : Ext ρ n H ρ' n' (upd H' a u) := by
  obtain ⟨h1, h2, h3⟩ := isD_nt d
  have k := (Ext.lock (ρ := ρ) (n := n) (od := od) h d).trans e
  refine ⟨k.le, k.eq, fun b xs z => ?_, fun b o v z => ?_, fun b gs z => ?_⟩
  · rw [upd_ne (fun e => by rw [e, h] at z; exact h1 _ (Option.some.inj z))]; exact k.tu _ _ z
  · rw [upd_ne (fun e => by rw [e, h] at z; exact h2 _ _ (Option.some.inj z))]; exact k.fz _ _ _ z
  · rw [upd_ne (fun e => by rw [e, h] at z; exact h3 _ (Option.some.inj z))]; exact k.xd _ _ z
theorem Rl.swap {m : Nat} {o o' : VO} {u : HO} (R : Rl S ρ G H) (hm : G[m]? = some o) (ho : o.tr = true) (ho' : o'.tr = true) (e : ExV ρ G.length H ρ G.length (upd H (ρ m) u)) (new : OR S ρ G.length (upd H (ρ m) u) o' (ρ m)) : Rl S ρ (G.set m o') (upd H (ρ m) u) := by
  have el : (G.set m o').length = G.length := List.length_set ..
  have hl : m < G.length := (List.getElem?_eq_some_iff.mp hm).1
  refine ⟨fun i v h => ?_, fun i j oi oj hi hj ti tj q => ?_⟩
  · rw [el]
    by_cases hi : i = m
    · subst hi
      rw [List.getElem?_set_self hl] at h
      cases h
      exact new
    · rw [List.getElem?_set_ne (Ne.symm hi)] at h
      exact (R.ob i v h).mv e fun tv => upd_ne fun z => hi (R.inj i m v o h hm tv ho z)
  · have g : ∀ {k : Nat} {v : VO}, (G.set m o')[k]? = some v → v.tr = true → ∃ v', G[k]? = some v' ∧ v'.tr = true := fun {k v} h t => by
      by_cases hk : k = m
      · subst hk; exact ⟨o, hm, ho⟩
      · rw [List.getElem?_set_ne (Ne.symm hk)] at h; exact ⟨v, h, t⟩
    obtain ⟨vi, a1, a2⟩ := g hi ti
    obtain ⟨vj, b1, b2⟩ := g hj tj
    exact R.inj i j vi vj a1 b1 a2 b2 q
theorem isLk_tr {o : VO} (h : isLk o = true) : o.tr = true := by
  unfold isLk at h
  split at h <;> first | rfl | cases h
/-- all that holds behind the lock -/
theorem unlock_all {m : Nat} {o o' w : VO} {u : HO} {od : Obj} {G' : Gh} (hl : lockO o = some o') (hm : G[m]? = some o) (R : Rl S ρ G H) (hu : H (ρ m) = some u) (d : isD u) (e : Ext ρ G.length (upd H (ρ m) (.frz od u)) ρ' G'.length H') (R' : Rl S ρ' G' H') (hw : G'[m]? = some w) (lk : isLk w = true)
    (back : ∀ ρ' n' H', ExV ρ G.length H ρ' n' H' → H' (ρ m) = some u → OR S ρ' n' H' o (ρ m)) (tr : o.tr = true) :
    H' (ρ m) = some (.frz od u) ∧ Ext ρ G.length H ρ' (G'.set m o).length (upd H' (ρ m) u) ∧ Rl S ρ' (G'.set m o) (upd H' (ρ m) u) ∧ ExV ρ' G'.length H' ρ' (G'.set m o).length (upd H' (ρ m) u) := by
  have el : (G'.set m o).length = G'.length := List.length_set ..
  have hlt : m < G.length := (List.getElem?_eq_some_iff.mp hm).1
  have em : ρ' m = ρ m := e.eq m hlt
  have h1 := e.fz _ _ _ (upd_same (H := H) (a := ρ m) (o := .frz od u))
  have e2 := Ext.unlock hu d e
  have e3 : ExV ρ' G'.length H' ρ' G'.length (upd H' (ρ m) u) := ExV.unlock h1 d
  refine ⟨h1, by rw [el]; exact e2, ?_, by rw [el]; exact e3⟩
  have := R'.swap (o' := o) (u := u) hw (isLk_tr lk) tr (by rw [em]; exact e3) (by rw [em]; exact back _ _ _ e2.v upd_same)
  rw [em] at this
  exact this
end
/-! ### a statement under a lock -/
def lkN : Res Va → Option Nat
  | .ok (.ref n) _ => some n
  | _ => none
def setG (m : Nat) (o : VO) (G : Gh) : Option VO → Option Gh
  | some w => if isLk w = true then some (G.set m o) else none
  | none => none
def rtS (v : Va) : Option Gh → SR
  | some G => .rt v G
  | none => .no
def unS (m : Nat) (o : VO) : SR → SR
  | .nx L G => nxS L (setG m o G G[m]?)
  | .rt v G => rtS v (setG m o G G[m]?)
  | .ex c fs L G => .ex c fs L G
  | _ => .no
def lkS1 (c : Lo → Gh → SR) (m : Nat) (L : Lo) (G : Gh) (o : VO) : Option VO → SR
  | some o' => unS m o (c L (G.set m o'))
  | none => c L G
def lkS (c : Lo → Gh → SR) (m : Nat) (L : Lo) (G : Gh) : Option VO → SR
  | some o => lkS1 c m L G o (lockO o)
  | none => .no
def lkA (c : Lo → Gh → SR) (L : Lo) (G : Gh) : Option Nat → SR
  | some m => lkS c m L G G[m]?
  | none => c L G
section
variable {S : Sx} {sc : Scope} {N : List Str} {lev : Nat} {E : EW} {X : Cx} {ρ ρ' : Nat → Addr} {n n' : Nat} {H H' : Hp} {G : Gh} {L : Lo} {σ : L2.St} {D : Ends}
theorem setG_inv {m : Nat} {o : VO} {G G' : Gh} (h : setG m o G G[m]? = some G') : ∃ w, G[m]? = some w ∧ isLk w = true ∧ G' = G.set m o := by
  cases e : G[m]? with
  | none => rw [e] at h; cases h
  | some w =>
    rw [e] at h
    have h : (if isLk w = true then some (G.set m o) else none) = some G' := h
    split at h
    · rename_i hw
      cases h
      exact ⟨w, rfl, hw, rfl⟩
    · cases h
def sLock (a : Lo → Gh → Res Va) (c : CS S) : CS S := ⟨fun L G => lkA c.ev L G (lkN (a L G)), c.chk, fun {sc N lev E X st} o h => by
  have hc := c.ps o h
  refine ⟨fun pins s σ H D I hw => ?_⟩
  obtain ⟨ρ, L, G, R, l, p⟩ := hw
  have p : PostS S D E ρ G.length H (lkA c.ev L G (lkN (a L G))) := p
  have plain : PostS S D E ρ G.length H (c.ev L G) → wpAny (model X.prog X.w) X.A (exec st X.env) (SP X pins D) X.xe s := fun p => hc.run pins s σ H D I ⟨ρ, L, G, R, l, p⟩
  cases hn : lkN (a L G) with
  | none => rw [hn] at p; exact plain p
  | some m =>
    rw [hn] at p
    have p : PostS S D E ρ G.length H (lkS c.ev m L G G[m]?) := p
    cases hm : G[m]? with
    | none => rw [hm] at p; exact p.elim
    | some w =>
      rw [hm] at p
      cases hl : lockO w with
      | none =>
        have e : lkS c.ev m L G (some w) = c.ev L G := by show lkS1 c.ev m L G w (lockO w) = _; rw [hl]; rfl
        rw [e] at p
        exact plain p
      | some w' =>
        have e : lkS c.ev m L G (some w) = unS m w (c.ev L (G.set m w')) := by show lkS1 c.ev m L G w (lockO w) = _; rw [hl]; rfl
        rw [e] at p
        obtain ⟨u, hu, d, t1, t2, k⟩ := lock_inv hl (R.ob m w hm)
        have el : (G.set m w').length = G.length := List.length_set ..
        refine (ps_lock hc).run pins s σ H D I ⟨ρ m, u, hu, isD_mut d, fun od => ?_⟩
        have ex : Ext ρ G.length H ρ G.length (upd H (ρ m) (.frz od u)) := Ext.lock hu d
        have R1 : Rl S ρ (G.set m w') (upd H (ρ m) (.frz od u)) := R.swap hm t1 t2 ex.v ((k _ _ _).1 od ex.v upd_same)
        refine ⟨ρ, L, G.set m w', R1, by rw [el]; exact l.mono ex, ?_⟩
        rw [el]
        generalize hr : c.ev L (G.set m w') = r at p
        cases r with
        | nx L' G' =>
          intro ρ' H' σ' e' R' l'
          have p : PostS S D E ρ G.length H (nxS L' (setG m w G' G'[m]?)) := p
          cases hs : setG m w G' G'[m]? with
          | none => rw [hs] at p; exact p.elim
          | some G2 =>
            rw [hs] at p
            obtain ⟨z, h1, h2, rfl⟩ := setG_inv hs
            obtain ⟨a1, a2, a3, a4⟩ := unlock_all hl hm R hu d e' R' h1 h2 (fun ρ' n' H' => (k ρ' n' H').2) t1
            exact ⟨a1, p ρ' _ σ' a2 a3 (l'.mv a4)⟩
        | rt v G' =>
          intro ρ' H' v' e' R' r'
          have p : PostS S D E ρ G.length H (rtS v (setG m w G' G'[m]?)) := p
          cases hs : setG m w G' G'[m]? with
          | none => rw [hs] at p; exact p.elim
          | some G2 =>
            rw [hs] at p
            obtain ⟨z, h1, h2, rfl⟩ := setG_inv hs
            obtain ⟨a1, a2, a3, a4⟩ := unlock_all hl hm R hu d e' R' h1 h2 (fun ρ' n' H' => (k ρ' n' H').2) t1
            exact ⟨a1, p ρ' _ v' a2 a3 (r'.mv a4)⟩
        | ex cx fs L' G' =>
          exact fun ρ' H' σ' dd fs' e' R' l' f' hd => p ρ' H' σ' dd fs' (ex.trans e') R' l' f' hd
        | bk L' G' => exact p.elim
        | ct L' G' => exact p.elim
        | no => exact p.elim⟩
/-! ### an expression under a lock -/
def okG (v : Va) : Option Gh → Res Va
  | some G => .ok v G
  | none => .no
def unE (m : Nat) (o : VO) : Res Va → Res Va
  | .ok v G => okG v (setG m o G G[m]?)
  | .ex c fs G => .ex c fs G
  | .no => .no
def lkE1 (c : Lo → Gh → Res Va) (m : Nat) (L : Lo) (G : Gh) (o : VO) : Option VO → Res Va
  | some o' => unE m o (c L (G.set m o'))
  | none => c L G
def lkE (c : Lo → Gh → Res Va) (m : Nat) (L : Lo) (G : Gh) : Option VO → Res Va
  | some o => lkE1 c m L G o (lockO o)
  | none => .no
def lkB (c : Lo → Gh → Res Va) (L : Lo) (G : Gh) : Option Nat → Res Va
  | some m => lkE c m L G G[m]?
  | none => c L G
theorem cLock_pe (a : Lo → Gh → Res Va) (c : CE S) {e : Expr} (o : Okx S sc N lev E X) (h : c.chk N sc e = true) : PE X e (WE S E fun L G => lkB c.ev L G (lkN (a L G))) := by
  have hc := c.pe o h
  refine ⟨fun pins s σ H Q I hw => ?_⟩
  obtain ⟨ρ, L, G, R, l, p⟩ := hw
  have p : Post S (VR S) (E σ) ρ G.length H Q (lkB c.ev L G (lkN (a L G))) := p
  cases hn : lkN (a L G) with
  | none => rw [hn] at p; exact hc.run pins s σ H Q I ⟨ρ, L, G, R, l, p⟩
  | some m =>
    rw [hn] at p
    have p : Post S (VR S) (E σ) ρ G.length H Q (lkE c.ev m L G G[m]?) := p
    cases hm : G[m]? with
    | none => rw [hm] at p; exact p.elim
    | some w =>
      rw [hm] at p
      cases hl : lockO w with
      | none =>
        have e : lkE c.ev m L G (some w) = c.ev L G := by show lkE1 c.ev m L G w (lockO w) = _; rw [hl]; rfl
        rw [e] at p
        exact hc.run pins s σ H Q I ⟨ρ, L, G, R, l, p⟩
      | some w' =>
        have e : lkE c.ev m L G (some w) = unE m w (c.ev L (G.set m w')) := by show lkE1 c.ev m L G w (lockO w) = _; rw [hl]; rfl
        rw [e] at p
        obtain ⟨u, hu, d, t1, t2, k⟩ := lock_inv hl (R.ob m w hm)
        have el : (G.set m w').length = G.length := List.length_set ..
        refine (pe_lock hc).run pins s σ H Q I ⟨ρ m, u, hu, isD_mut d, fun od => ?_⟩
        have ex : Ext ρ G.length H ρ G.length (upd H (ρ m) (.frz od u)) := Ext.lock hu d
        have R1 : Rl S ρ (G.set m w') (upd H (ρ m) (.frz od u)) := R.swap hm t1 t2 ex.v ((k _ _ _).1 od ex.v upd_same)
        refine ⟨ρ, L, G.set m w', R1, by rw [el]; exact l.mono ex, ?_⟩
        rw [el]
        generalize hr : c.ev L (G.set m w') = r at p
        cases r with
        | ok v G' =>
          intro ρ' H' v' e' R' r'
          have p : Post S (VR S) (E σ) ρ G.length H Q (okG v (setG m w G' G'[m]?)) := p
          cases hs : setG m w G' G'[m]? with
          | none => rw [hs] at p; exact p.elim
          | some G2 =>
            rw [hs] at p
            obtain ⟨z, h1, h2, rfl⟩ := setG_inv hs
            obtain ⟨a1, a2, a3, a4⟩ := unlock_all hl hm R hu d e' R' h1 h2 (fun ρ' n' H' => (k ρ' n' H').2) t1
            exact ⟨a1, p ρ' _ v' a2 a3 (r'.mv a4)⟩
        | ex cx fs G' =>
          exact fun ρ' H' dd fs' e' R' f' hd => p ρ' H' dd fs' (ex.trans e') R' f' hd
        | no => exact p.elim
def isCmpE : Expr → Bool
  | .ListComp .. => true
  | .DictComp .. => true
  | _ => false
def cLock (a : Lo → Gh → Res Va) (c : CE S) : CE S := .plain (fun L G => lkB c.ev L G (lkN (a L G))) (fun N sc e => isCmpE e && c.chk N sc e) (fun o h => cLock_pe a c o (Bool.and_eq_true_iff.mp h).2) fun N sc e h => by
  have h := (Bool.and_eq_true_iff.mp h).1
  cases e <;> first | exact ⟨rfl, rfl⟩ | cases h
end
end VM
/-! VNi: going through a locked dict whose keys are ints and texts -/
namespace VM
open PySem PySem.Spec PyProof.Rows L2 VMQ
section
variable {S : Sx} {sc : Scope} {N : List Str} {lev : Nat} {E : EW} {X : Cx} {ρ ρ' : Nat → Addr} {n n' : Nat} {H H' : Hp} {G : Gh} {L : Lo} {σ : L2.St}
theorem drk_at {i : Nat} : ∀ {kvs : List (Va × Va)} {ks : List (Key × V)} {p : Va × Va}, DRk S ρ n H kvs ks → kvs[i]? = some p → ∃ k y, ks[i]? = some (k, y) ∧ VR S ρ n H p.1 (kV k) ∧ VR S ρ n H p.2 y := by
  intro kvs
  induction kvs generalizing i with
  | nil => intro ks p h e; simp at e
  | cons q kvs ih =>
    intro ks p h e
    obtain ⟨a, x⟩ := q
    obtain ⟨k', y, r, rfl, h1, h2, h3⟩ := h
    cases i with
    | zero =>
      simp at e; subst e
      refine ⟨k', y, rfl, ?_, h2⟩
      cases a with
      | int i => cases h1; unfold VR; rfl
      | str s => cases h1; unfold VR; rfl
      | _ => cases h1
    | succ i =>
      obtain ⟨k, z, e1, e2, e3⟩ := ih h3 (by simpa using e)
      exact ⟨k, z, by simpa using e1, e2, e3⟩
/-- the locked dict as it was when the walk began -/
theorem lk_same {m : Nat} {ob : Obj} {ks : List (Key × V)} (hm : m < n) (h : H (ρ m) = some (.frz ob (.dK ks))) {G' : Gh} (e : Ext ρ n H ρ' G'.length H') (R : Rl S ρ' G' H') {f : Va × Va → Va} {i : Nat} {r : Option Va} (hn : nxD f G'[m]? i = some r) :
    ∃ kvs, DRk S ρ' G'.length H' kvs ks ∧ r = kvs[i]?.map f ∧ H' (ρ m) = some (.frz ob (.dK ks)) := by
  have h' := e.fz _ _ _ h
  have em : ρ' m = ρ m := e.eq m hm
  obtain ⟨w, hw⟩ := get_of (Nat.lt_of_lt_of_le hm e.le)
  rw [hw] at hn
  cases w with
  | dct lk kvs =>
    cases lk with
    | false => cases hn
    | true =>
      cases (show some (kvs[i]?.map f) = some r from hn)
      obtain ⟨o, ks', k1, k2⟩ := R.ob m _ hw
      rw [em, h'] at k1
      cases k1
      exact ⟨kvs, k2, rfl, h'⟩
  | dtu lk kvs =>
    cases lk with
    | false => cases hn
    | true =>
      obtain ⟨o, ks', k1, k2⟩ := R.ob m _ hw
      rw [em, h'] at k1
      cases k1
  | _ => cases hn
theorem ir_di {m : Nat} {ob : Obj} {ks : List (Key × V)} (hm : m < n) (h : H (ρ m) = some (.frz ob (.dK ks))) : IR S ρ n H (.di m) (Iti (ρ m) ob ks) := fun ρ' G' H' i e R => by
  refine ⟨fun v hv => ?_, fun hv => ?_⟩
  · obtain ⟨kvs, d, hr, h'⟩ := lk_same hm h e R (show nxD tup2 G'[m]? i = some (some v) from hv)
    cases hk : kvs[i]? with
    | none => rw [hk] at hr; cases hr
    | some p =>
      rw [hk] at hr
      cases hr
      obtain ⟨k, y, e1, e2, e3⟩ := drk_at d hk
      refine ⟨⟨h', (List.getElem?_eq_some_iff.mp e1).1⟩, fun x H'' yl => ?_⟩
      obtain ⟨T, k0, v0, q1, rfl, hT, rfl⟩ := yl
      rw [e1] at q1
      cases q1
      have ex : Ext ρ' G'.length H' ρ' G'.length (upd H' T (.tup [kV k, y])) := Ext.new hT
      refine ⟨ex, R.new hT, ?_⟩
      unfold tup2 VR
      exact ⟨T, _, rfl, SqT.of upd_same, VRs.cons (e2.mono ex) (VRs.cons (e3.mono ex) VRs.nil)⟩
  · obtain ⟨kvs, d, hr, h'⟩ := lk_same hm h e R (show nxD tup2 G'[m]? i = some none from hv)
    refine ⟨h', ?_⟩
    have : kvs[i]? = none := by
      cases hk : kvs[i]? with
      | none => rfl
      | some p => rw [hk] at hr; cases hr
    have := List.getElem?_eq_none_iff.mp this
    rw [drk_len d]; exact this
theorem ir_dk {m : Nat} {ob : Obj} {ks : List (Key × V)} (hm : m < n) (h : H (ρ m) = some (.frz ob (.dK ks))) : IR S ρ n H (.dk m) (Itk (ρ m) ob ks) := fun ρ' G' H' i e R => by
  refine ⟨fun v hv => ?_, fun hv => ?_⟩
  · obtain ⟨kvs, d, hr, h'⟩ := lk_same hm h e R (show nxD Prod.fst G'[m]? i = some (some v) from hv)
    cases hk : kvs[i]? with
    | none => rw [hk] at hr; cases hr
    | some p =>
      rw [hk] at hr
      cases hr
      obtain ⟨k, y, e1, e2, e3⟩ := drk_at d hk
      refine ⟨⟨h', (List.getElem?_eq_some_iff.mp e1).1⟩, fun x H'' yl => ?_⟩
      obtain ⟨rfl, k0, v0, q1, rfl⟩ := yl
      rw [e1] at q1
      cases q1
      exact ⟨Ext.refl _ _ _, R, e2⟩
  · obtain ⟨kvs, d, hr, h'⟩ := lk_same hm h e R (show nxD Prod.fst G'[m]? i = some none from hv)
    refine ⟨h', ?_⟩
    have : kvs[i]? = none := by
      cases hk : kvs[i]? with
      | none => rfl
      | some p => rw [hk] at hr; cases hr
    have := List.getElem?_eq_none_iff.mp this
    rw [drk_len d]; exact this
theorem ir_dv {m : Nat} {ob : Obj} {ks : List (Key × V)} (hm : m < n) (h : H (ρ m) = some (.frz ob (.dK ks))) : IR S ρ n H (.dv m) (Itd (ρ m) ob ks) := fun ρ' G' H' i e R => by
  refine ⟨fun v hv => ?_, fun hv => ?_⟩
  · obtain ⟨kvs, d, hr, h'⟩ := lk_same hm h e R (show nxD Prod.snd G'[m]? i = some (some v) from hv)
    cases hk : kvs[i]? with
    | none => rw [hk] at hr; cases hr
    | some p =>
      rw [hk] at hr
      cases hr
      obtain ⟨k, y, e1, e2, e3⟩ := drk_at d hk
      refine ⟨⟨h', (List.getElem?_eq_some_iff.mp e1).1⟩, fun x H'' yl => ?_⟩
      obtain ⟨rfl, k0, q1⟩ := yl
      rw [e1] at q1
      cases q1
      exact ⟨Ext.refl _ _ _, R, e3⟩
  · obtain ⟨kvs, d, hr, h'⟩ := lk_same hm h e R (show nxD Prod.snd G'[m]? i = some none from hv)
    refine ⟨h', ?_⟩
    have : kvs[i]? = none := by
      cases hk : kvs[i]? with
      | none => rfl
      | some p => rw [hk] at hr; cases hr
    have := List.getElem?_eq_none_iff.mp this
    rw [drk_len d]; exact this
def dsO (f : Nat → Src) (m : Nat) (G : Gh) : Option VO → Res Src
  | some (.dct true _) => .ok (f m) G
  | _ => .no
def dsV (f : Nat → Src) : Va → Gh → Res Src
  | .ref m, G => dsO f m G G[m]?
  | _, _ => .no
/-- the walk's start -/
theorem ds_ok {f : Nat → Src} {J : Addr → Obj → List (Key × V) → It} (hJ : ∀ {ρ : Nat → Addr} {n : Nat} {H : Hp} {m : Nat} {ob : Obj} {ks : List (Key × V)}, m < n → H (ρ m) = some (.frz ob (.dK ks)) → IR S ρ n H (f m) (J (ρ m) ob ks)) {E0 : XK} {v : Va} {x : V} {R : It → Hp → Prop} (Rr : Rl S ρ G H) (r : VR S ρ G.length H v x) (p : Post S (IR S) E0 ρ G.length H R (dsV f v G)) :
    ∃ d o kvs, x = .ref d ∧ H d = some (.frz o (.dK kvs)) ∧ R (J d o kvs) H := by
  cases v with
  | ref m =>
    obtain ⟨hm, rfl⟩ := vr_ref r
    obtain ⟨w, hw⟩ := get_of hm
    have p : Post S (IR S) E0 ρ G.length H R (dsO f m G G[m]?) := p
    rw [hw] at p
    unfold dsO at p
    split at p
    · rename_i kvs hz
      cases hz
      obtain ⟨o, ks, k1, k2⟩ := Rr.ob m _ hw
      exact ⟨_, o, ks, rfl, k1, p ρ H _ (Ext.refl _ _ _) Rr (hJ hm k1)⟩
    · exact p.elim
  | _ => exact p.elim
def eDs (f : Nat → Src) (a : CE S) : Lo → Gh → Res Src := fun L G => (a.ev L G).bind (dsV f)
def kItI (a : CE S) (N : List Str) (sc : Scope) : Expr → Expr → Bool
  | .Tuple _ _ _, .Call (.Attribute y m ap) [] [] cp => decide (m = "items") && ((ap.endLine == cp.line) && (!isSuper y && a.chk N sc y))
  | _, _ => false
theorem cItI_pi (a : CE S) {tg e : Expr} (o : Okx S sc N lev E X) (h : kItI a N sc tg e = true) : PI X tg e (WI S E (eDs .di a)) := by
  unfold kItI at h
  split at h
  · simp only [Bool.and_eq_true, Bool.not_eq_true', decide_eq_true_eq] at h
    obtain ⟨rfl, h1, h2, h3⟩ := h
    refine pi_imp (pi_items (a.pe o h3) (base_plain h2) h1) fun σ H R q => ?_
    obtain ⟨ρ, L, G, Rl0, l, p⟩ := q
    exact ⟨ρ, L, G, Rl0, l, Post.bind p fun v G1 ρ1 H1 x e1 R1 r1 p1 => ds_ok (fun a b => ir_di a b) R1 r1 p1⟩
  · cases h
/-- d.items() -/
def cItI (a : CE S) : CI S := ⟨eDs .di a, kItI a, cItI_pi a⟩
def kItM (name : Str) (a : CE S) (N : List Str) (sc : Scope) : Expr → Expr → Bool
  | _, .Call (.Attribute y m ap) [] [] cp => decide (m = name) && ((ap.endLine == cp.line) && (!isSuper y && a.chk N sc y))
  | _, _ => false
theorem cItVs_pi (a : CE S) {tg e : Expr} (o : Okx S sc N lev E X) (h : kItM "values" a N sc tg e = true) : PI X tg e (WI S E (eDs .dv a)) := by
  unfold kItM at h
  split at h
  · simp only [Bool.and_eq_true, Bool.not_eq_true', decide_eq_true_eq] at h
    obtain ⟨rfl, h1, h2, h3⟩ := h
    refine pi_imp (pi_values (a.pe o h3) (base_plain h2) h1) fun σ H R q => ?_
    obtain ⟨ρ, L, G, Rl0, l, p⟩ := q
    exact ⟨ρ, L, G, Rl0, l, Post.bind p fun v G1 ρ1 H1 x e1 R1 r1 p1 => ds_ok (fun a b => ir_dv a b) R1 r1 p1⟩
  · cases h
/-- d.values() -/
def cItVs (a : CE S) : CI S := ⟨eDs .dv a, kItM "values" a, cItVs_pi a⟩
theorem cItKs_pi (a : CE S) {tg e : Expr} (o : Okx S sc N lev E X) (h : kItM "keys" a N sc tg e = true) : PI X tg e (WI S E (eDs .dk a)) := by
  unfold kItM at h
  split at h
  · simp only [Bool.and_eq_true, Bool.not_eq_true', decide_eq_true_eq] at h
    obtain ⟨rfl, h1, h2, h3⟩ := h
    refine pi_imp (pi_keysM (a.pe o h3) (base_plain h2) h1) fun σ H R q => ?_
    obtain ⟨ρ, L, G, Rl0, l, p⟩ := q
    exact ⟨ρ, L, G, Rl0, l, Post.bind p fun v G1 ρ1 H1 x e1 R1 r1 p1 => ds_ok (fun a b => ir_dk a b) R1 r1 p1⟩
  · cases h
/-- d.keys() -/
def cItKs (a : CE S) : CI S := ⟨eDs .dk a, kItM "keys" a, cItKs_pi a⟩
theorem cItD_pi (a : CE S) {tg e : Expr} (o : Okx S sc N lev E X) (h : a.chk N sc e = true) : PI X tg e (WI S E (eDs .dk a)) := by
  refine pi_imp (pi_keys (a.pe o h)) fun σ H R q => ?_
  obtain ⟨ρ, L, G, Rl0, l, p⟩ := q
  refine ⟨ρ, L, G, Rl0, l, Post.bind p fun v G1 ρ1 H1 x e1 R1 r1 p1 => ?_⟩
  obtain ⟨d, ob, kvs, h1, h2, h3⟩ := ds_ok (fun a b => ir_dk a b) R1 r1 p1
  exact ⟨d, ob, h1, .inl ⟨kvs, h2, h3⟩⟩
/-- the keys of a dict -/
def cItD (a : CE S) : CI S := ⟨eDs .dk a, fun N sc _ e => a.chk N sc e, cItD_pi a⟩
end
end VM
/-! VNj: dict comprehensions with int and text keys; sorted of at most one item -/
namespace VM
open PySem PySem.Spec PyProof.Rows L2 VMQ
section
variable {S : Sx} {sc : Scope} {N : List Str} {lev : Nat} {E : EW} {X : Cx} {ρ ρ' : Nat → Addr} {n n' : Nat} {H H' : Hp} {G : Gh} {L : Lo} {σ : L2.St}
def dcP (d : Nat) (k v : Va) (G : Gh) : Option VO → Res Unit
  | some (.dct false kvs) => if (keyS k).isSome = true ∧ kvs.length < sizeLine then .ok () (G.set d (.dct false (dPut kvs k v))) else .no
  | _ => .no
def dcY (d : Nat) (tk tv : Lo → Gh → Res Va) (L : Lo) (G : Gh) (b : Bool) : Res Unit := if b = true then (noex (tk L G)).bind fun k G3 => (noex (tv L G3)).bind fun v G4 => dcP d k v G4 G4[d]? else .ok () G
def dcT (d : Nat) (g : Va → Lo → Gh → Res Lo) (tt : Lo → Gh → Res Bool) (tk tv : Lo → Gh → Res Va) (L : Lo) (v : Va) (G : Gh) : Res Unit :=
  (noex (g v L G)).bind fun L2 G1 => (noex (tt L2 G1)).bind fun b G2 => dcY d tk tv L2 G2 b
def dcE (it : Lo → Gh → Res Src) (g : Va → Lo → Gh → Res Lo) (tt : Lo → Gh → Res Bool) (tk tv : Lo → Gh → Res Va) (vs : List Nat) : Lo → Gh → Res Va := fun L G =>
  (it L G).bind fun src G1 => (lcL src (dcT G1.length g tt tk tv (wipeL L vs)) fuelC 0 (G1 ++ [.dct false []])).bind fun _ G2 => .ok (.ref G1.length) G2
theorem dc_we {it : Lo → Gh → Res Src} {g : Va → Lo → Gh → Res Lo} {sl : List Nat} {tt : Lo → Gh → Res Bool} {tk tv : Lo → Gh → Res Va} {vs : List Nat} (hs : ∀ i ∈ sl, i ∈ vs) {σ : L2.St} {H : Hp} {Q : VK} (q : WE S E (dcE it g tt tk tv vs) σ H Q) :
    tDc (WI S E it) (WGt S sl g) (WT S noE2 tt) (WE S noE2 tk) (WE S noE2 tv) vs σ H Q := by
  obtain ⟨ρ, L, G, R, l, p⟩ := q
  refine ⟨ρ, L, G, R, l, Post.bind p fun src G1 ρ1 H1 J e1 R1 r1 p1 => ?_⟩
  intro D hD
  have l1 : LR S ρ1 G1.length H1 (wipeL L vs) (wipe σ vs) := lr_wipe (l.mono e1) vs
  obtain ⟨R2, e2, v2⟩ := rl_obj (o := .dct false []) (u := .dK []) R1 hD (fun ρ' e => ⟨[], upd_same, rfl⟩)
  generalize hd : G1.length = d at *
  generalize hρ : put ρ1 d D = ρ2 at *
  generalize hH : upd H1 D (.dK []) = H2 at *
  obtain ⟨hdl, hD2⟩ := vr_ref v2
  have hD2 : ρ2 d = D := by injection hD2 with z; exact z.symm
  generalize hG : G1 ++ [VO.dct false []] = G2 at *
  have as1 : ∀ {α β γ : Type} (r : Res α) (f : α → Gh → Res β) (k : β → Gh → Res γ), (r.bind f).bind k = r.bind fun a G => (f a G).bind k := fun r f k => by cases r <;> rfl
  refine ⟨fun i m H => ∃ ρ' G', Ext ρ2 G2.length H2 ρ' G'.length H ∧ Rl S ρ' G' H ∧ Post S (VR S) (E σ) ρ' G'.length H Q ((lcL src (dcT d g tt tk tv (wipeL L vs)) m i G').bind fun _ G2 => .ok (.ref d) G2), ⟨fuelC, ρ2, G2, Ext.refl _ _ _, R2, Post.after p1 e2⟩, ?_⟩
  rintro i m H3 ⟨ρ3, G3, e3, R3, p3⟩
  have hd3 : d < G3.length := Nat.lt_of_lt_of_le hdl e3.le
  have hD3 : ρ3 d = D := (e3.eq d hdl).trans hD2
  cases m with
  | zero => exact p3.elim
  | succ m =>
    have ir := r1 ρ3 G3 H3 i (e2.trans e3) R3
    rcases nxt_cases (α := Unit) src (dcT d g tt tk tv (wipeL L vs)) m i G3 with ⟨h1, h2⟩ | ⟨h1, h2⟩ | ⟨v, h1, h2⟩
    · rw [h2] at p3; exact p3.elim
    · rw [h2] at p3
      refine .inl ⟨ir.2 h1, p3 ρ3 H3 _ (Ext.refl _ _ _) R3 ?_⟩
      unfold VR
      exact ⟨hd3, by rw [hD3]⟩
    · rw [h2] at p3
      obtain ⟨go, yl⟩ := ir.1 v h1
      refine .inr ⟨go, fun H' => ∃ ρ' G', Ext ρ2 G2.length H2 ρ' G'.length H' ∧ Rl S ρ' G' H' ∧ Post S (VR S) (E σ) ρ' G'.length H' Q ((lcL src (dcT d g tt tk tv (wipeL L vs)) m (i + 1) G').bind fun _ G2 => .ok (.ref d) G2), fun H' z => ⟨m, Nat.lt_succ_self m, z⟩, fun x H4 y => ?_⟩
      obtain ⟨e4, R4, r4⟩ := yl x H4 y
      have l4 : LR S ρ3 G3.length H4 (wipeL L vs) (wipe σ vs) := l1.mono ((e2.trans e3).trans e4)
      have p4 := Post.after p3 e4
      have p4 : Post S (VR S) (E σ) ρ3 G3.length H4 Q ((noex (g v (wipeL L vs) G3)).bind fun L2 G5 => ((noex (tt L2 G5)).bind fun b G6 => dcY d tk tv L2 G6 b).bind fun _ G7 => (lcL src (dcT d g tt tk tv (wipeL L vs)) m (i + 1) G7).bind fun _ G2 => .ok (.ref d) G2) := by
        have z := p4
        unfold dcT at z
        rw [as1, as1] at z
        exact z
      refine ⟨ρ3, wipeL L vs, G3, v, R4, l4, r4, Post.bindN (ra := GR S sl (wipe σ vs)) p4 fun L5 G5 ρ5 H5 σ5 e5 R5 l5 p5 => ?_⟩
      refine ⟨same_wipe l5.2 hs, ?_⟩
      have p5 : Post S (VR S) (E σ) ρ5 G5.length H5 Q ((noex (tt L5 G5)).bind fun b G6 => (dcY d tk tv L5 G6 b).bind fun _ G7 => (lcL src (dcT d g tt tk tv (wipeL L vs)) m (i + 1) G7).bind fun _ G2 => .ok (.ref d) G2) := by
        rw [as1] at p5; exact p5
      refine ⟨ρ5, L5, G5, R5, l5.1, Post.bindN (ra := relB) p5 fun b G6 ρ6 H6 b' e6 R6 r6 p6 => ?_⟩
      obtain rfl : b = b' := r6
      have e26 := (((e3.trans e4).trans e5).trans e6)
      by_cases hb : b = true
      · rw [if_pos hb]
        have p6 : Post S (VR S) (E σ) ρ6 G6.length H6 Q ((noex (tk L5 G6)).bind fun y G7 => (noex (tv L5 G7)).bind fun z G8 => (dcP d y z G8 G8[d]?).bind fun _ G7 => (lcL src (dcT d g tt tk tv (wipeL L vs)) m (i + 1) G7).bind fun _ G2 => .ok (.ref d) G2) := by
          have z := p6
          unfold dcY at z
          rw [if_pos hb, as1] at z
          simp only [as1] at z
          exact z
        refine ⟨ρ6, L5, G6, R6, l5.1.mono e6, Post.bindN (ra := VR S) p6 fun y G7 ρ7 H7 y' e7 R7 r7 p7 => ?_⟩
        refine ⟨ρ7, L5, G7, R7, (l5.1.mono e6).mono e7, Post.bindN (ra := VR S) p7 fun z G8 ρ8 H8 z' e8 R8 r8 p8 => ?_⟩
        have e28 := (e26.trans e7).trans e8
        have hd8 : d < G8.length := Nat.lt_of_lt_of_le hdl e28.le
        have hD8 : ρ8 d = D := (e28.eq d hdl).trans hD2
        obtain ⟨u, hu⟩ := get_of hd8
        rw [hu] at p8
        cases u with
        | dct lk kvs =>
          cases lk with
          | true => exact p8.elim
          | false =>
            have p8 : Post S (VR S) (E σ) ρ8 G8.length H8 Q ((if (keyS y).isSome = true ∧ kvs.length < sizeLine then .ok () (G8.set d (.dct false (dPut kvs y z))) else Res.no).bind fun _ G7 => (lcL src (dcT d g tt tk tv (wipeL L vs)) m (i + 1) G7).bind fun _ G2 => .ok (.ref d) G2) := p8
            split at p8
            · rename_i hz
              obtain ⟨k', hk⟩ := Option.isSome_iff_exists.mp hz.1
              have hy := keyS_V hk (r7.mono e8)
              subst hy
              obtain ⟨ks, k1, k2⟩ := R8.ob d _ hu
              rw [hD8] at k1
              have w := R8.write (o' := .dct false (dPut kvs y z)) (u := .dK (putK ks k' z')) hu rfl rfl (fun xs z => by rw [hD8, k1] at z; cases z) (fun b v z => by rw [hD8, k1] at z; cases z) (fun gs z => by rw [hD8, k1] at z; cases z) (fun ρ' hρ' ex => by
                subst hρ'
                exact ⟨_, upd_same, (drk_put hk r8 k2).mono ex⟩)
              rw [hD8] at w
              exact ⟨ks, k', rfl, k1, by rw [drk_len k2]; exact hz.2, ρ8, _, e28.trans w.2, w.1, Post.after p8 w.2⟩
            · exact p8.elim
        | _ => exact p8.elim
      · rw [if_neg hb]
        have p6 : Post S (VR S) (E σ) ρ6 G6.length H6 Q ((lcL src (dcT d g tt tk tv (wipeL L vs)) m (i + 1) G6).bind fun _ G2 => .ok (.ref d) G2) := by
          have z := p6
          unfold dcY at z
          rw [if_neg hb] at z
          exact z
        exact ⟨ρ6, G6, e26, R6, p6⟩
def kDc (it : CI S) (g : CG S) (tt : CT S) (tk tv : CE S) (own : List (Str × Nat)) (N : List Str) (sc : Scope) : Expr → Bool
  | .DictComp kx vx [⟨tg, iter, ifs, 0⟩] scope _ => !S.hq && (blkC N sc scope own && (!isSetE iter && (it.chk N sc tg iter && (g.chk N scope tg && (tt.chk N scope ifs && (tk.chk N scope kx && (tv.chk N scope vx && g.sl.all fun i => (own.map (·.2)).contains i)))))))
  | _ => false
theorem cDc_pe (it : CI S) (g : CG S) (tt : CT S) (tk tv : CE S) (own : List (Str × Nat)) {e : Expr} (o : Okx S sc N lev E X) (h : kDc it g tt tk tv own N sc e = true) : PE X e (WE S E (dcE it.ev g.ev tt.ev tk.ev tv.ev (own.map (·.2)))) := by
  unfold kDc at h
  split at h
  · simp only [Bool.and_eq_true, Bool.not_eq_true'] at h
    obtain ⟨hq, h1, h2, h3, h4, h5, h6, h6', h7⟩ := h
    have B := blkOk_by h1
    refine pe_imp (pe_dc (o.calm hq) o.nd (it.pi o h3) (blk_ok o B) (fun s H C cl fp => g.pg (okx_blk o B s H C cl fp) h4) (fun s H C cl fp => tt.pt (okx_blk o B s H C cl fp) h5) (fun s H C cl fp => tk.pe (okx_blk o B s H C cl fp) h6) (fun s H C cl fp => tv.pe (okx_blk o B s H C cl fp) h6') (folded_plain h2)) fun σ H Q q => dc_we (fun i hi => ?_) q
    have := List.all_eq_true.mp h7 i hi
    simpa using this
  · cases h
def cDc (it : CI S) (g : CG S) (tt : CT S) (tk tv : CE S) (own : List (Str × Nat)) : CE S := .plain (dcE it.ev g.ev tt.ev tk.ev tv.ev (own.map (·.2))) (kDc it g tt tk tv own) (cDc_pe it g tt tk tv own) fun N sc e h => by cases e <;> first | exact ⟨rfl, rfl⟩ | cases h
/-! ### sorted of at most one item -/
def srtF : Op1 := fun v G => (seqO G v).bind fun xs => if xs.length ≤ 1 then some (.ref G.length, G ++ [.lst false xs]) else none
def srtL : Op1
  | .ref m, G => srtF (.ref m) G
  | _, _ => none
theorem swo0 : SrtO.Swo fun (_ _ : Value) => false := ⟨fun _ _ h => (by cases h), fun _ _ _ _ _ => rfl⟩
theorem perm_one {α : Type} {out vs : List α} (h : out.Perm vs) (hl : vs.length ≤ 1) : out = vs := by
  match vs, hl with
  | [], _ => exact h.eq_nil
  | [v], _ => exact List.perm_singleton.mp h
theorem cr_srt (o : Okx S sc N lev E X) : CallR X (.builtin "sorted") (rON S (on1 srtL)) := by
  refine cr1 fun pins s σ H x u Q ρ G v I ru R r p => ?_
  cases v with
  | ref m =>
    have p : Fin1 S ρ G.length H Q ((lstO G[m]?).bind fun xs => if xs.length ≤ 1 then some (.ref G.length, G ++ [.lst false xs]) else none) := p
    obtain ⟨hm, rfl⟩ := vr_ref r
    cases (show u = Value.ref (ρ m) from ru)
    cases hx : lstO G[m]? with
    | none => rw [hx] at p; exact (fin_no p).elim
    | some xs =>
      rw [hx] at p
      have p : Fin1 S ρ G.length H Q (if xs.length ≤ 1 then some (.ref G.length, G ++ [.lst false xs]) else none) := p
      split at p
      · rename_i hl
        obtain ⟨ys, h1, h2⟩ := lst_ok R hx
        obtain ⟨its, rv, pl, hz⟩ := I.list (by rw [o.K]; exact h1)
        have hv : its.length ≤ 1 := by rw [← rv.length, h2.length]; exact hl
        refine SrtO.sorted_ord swo0 pl.isList (by rw [← rv.length]; exact hz) (fun h => absurd h (by omega)) fun out _ hb => ?_
        obtain rfl := perm_one hb.perm hv
        have hd : H (s.heap.objs.size + 1) = none := I.hok.fresh (Nat.le_succ _)
        obtain ⟨n, hn⟩ := sortedAll_at s.heap out out.toArray
        exact ⟨.ref (s.heap.objs.size + 1), _, I.laid (a := s.heap.objs.size + 1) (o := .lst ys) (t' := s.toks) (fun b ob e => sortedAll_old e) (Nat.le_succ _) ⟨hz, out, n, rv, hn⟩, rfl, p.lst R h2 hd⟩
      · exact (fin_no p).elim
  | _ => exact (fin_no p).elim
def bSrt1 : Bop S (.builtin "sorted") := ⟨on1 srtL, true, fun _ => cr_srt⟩
end
end VM
namespace VM
open PySem PySem.Spec PyProof.Rows L2 VMQ
section
variable {S : Sx} {sc : Scope} {N : List Str} {lev : Nat} {E : EW} {X : Cx} {ρ ρ' : Nat → Addr} {n n' : Nat} {H H' : Hp} {G : Gh} {L : Lo} {σ : L2.St}
/-! ### isinstance of a dict with tuple keys -/
def isiO (S : Sx) (v w : Va) (G : Gh) : Option VO → Option (Va × Gh)
  | some (.dtu _ _) => (tagIs S (.b "dict") w).map fun b => (Va.bl b, G)
  | _ => isiF S v w G
def isiX (S : Sx) : Op2 := fun v w G => match v with
  | .ref m => isiO S (.ref m) w G G[m]?
  | v => isiF S v w G
theorem cr_isiX (o : Okx S sc N lev E X) : CallR X (.builtin "isinstance") (rON S (on2 (isiX S))) := by
  intro pins s σ H xs us Q I r h
  obtain ⟨ρ, G, as, R, ra, p⟩ := id h
  match as, ra, p with
  | [.ref m, w], ra, p =>
    obtain ⟨y1, y2, rfl, r1, r2⟩ := ra.two
    have p : Fin1 S ρ G.length H Q (isiO S (.ref m) w G G[m]?) := p
    have r10 := r1
    obtain ⟨hm, rfl⟩ := vr_ref r1
    obtain ⟨ob, hw⟩ := get_of hm
    rw [hw] at p
    have old : Fin1 S ρ G.length H Q (isiF S (.ref m) w G) → wpAny (model X.prog X.w) X.A (call (.builtin "isinstance") us) (EP X pins σ Q) X.xe s := fun p =>
      cr_isiF o pins s σ H _ us Q I r ⟨ρ, G, [.ref m, w], R, VRs.cons r10 (VRs.cons r2 VRs.nil), p⟩
    cases ob with
    | dtu lk kvs =>
      have p : Fin1 S ρ G.length H Q ((tagIs S (.b "dict") w).map fun b => (Va.bl b, G)) := p
      obtain ⟨ks, h1, h2⟩ := dtu_of R hw
      obtain ⟨z1, z2, z3⟩ := dtu_H I o h1 h2
      cases e2 : tagIs S (.b "dict") w with
      | none => rw [e2] at p; exact (fin_no p).elim
      | some b =>
        rw [e2] at p
        obtain ⟨v', u', c1, c2, c3⟩ := tagIs_ok o.good (t := .b "dict") (fun c e => by cases e) e2
        obtain rfl := clsU_vr c1 r2
        obtain ⟨u1, u2, rfl, q1, q2⟩ := vals2 r
        have e2 := c2.eq q2
        subst e2
        cases (show u1 = Value.ref (ρ m) from q1)
        have ty := z3.typeIs
        obtain ⟨ob, t1, t2⟩ := ty
        exact PySem.W.kia_one PySem.W.kitx_dict I.kIn ⟨ob, t1, t2⟩ (by rw [o.K]; exact c3) (fun z => nomatch z) fun tk => ⟨.bl b, H, I.tok tk, rfl, p.old R vr_bl'⟩
    | _ => exact old p
  | [], ra, p => exact (fin_no p).elim
  | [v], ra, p => exact (fin_no p).elim
  | v :: w :: z :: l, ra, p => exact (fin_no p).elim
  | [.non, w], ra, p => exact cr_isiF o pins s σ H xs us Q I r ⟨ρ, G, _, R, ra, p⟩
  | [.bl b, w], ra, p => exact cr_isiF o pins s σ H xs us Q I r ⟨ρ, G, _, R, ra, p⟩
  | [.int b, w], ra, p => exact cr_isiF o pins s σ H xs us Q I r ⟨ρ, G, _, R, ra, p⟩
  | [.str b, w], ra, p => exact cr_isiF o pins s σ H xs us Q I r ⟨ρ, G, _, R, ra, p⟩
  | [.tup b, w], ra, p => exact cr_isiF o pins s σ H xs us Q I r ⟨ρ, G, _, R, ra, p⟩
  | [.cl b, w], ra, p => exact cr_isiF o pins s σ H xs us Q I r ⟨ρ, G, _, R, ra, p⟩
  | [.ty b, w], ra, p => exact cr_isiF o pins s σ H xs us Q I r ⟨ρ, G, _, R, ra, p⟩
  | [.xr b c, w], ra, p => exact cr_isiF o pins s σ H xs us Q I r ⟨ρ, G, _, R, ra, p⟩
def bIsiX : Bop S (.builtin "isinstance") := ⟨on2 (isiX S), true, fun _ => cr_isiX⟩
end
end VM
/-! VNk: a law's draws -/
namespace VM
open PySem PySem.Spec L2
section
variable (S : Sx)
def numF : FDef S := ⟨["script", "index", "rest", "step", "blend", "cell", "turn"], 2,
 (bCons (sAsg (gTp 2 (gsCons (gNm 5) (gsCons (gNm 6) gsNil))) (cIf (cCmp .NotEq (cVar 0) (cLst aNil)) (cTup (aCons (cIdx (cVar 0) (cBin .Mod (cVar 1) (cBi bLen (aCons (cVar 0) aNil)))) (aCons (cBin .FloorDiv (cVar 1) (cBi bLen (aCons (cVar 0) aNil))) aNil))) (cTup (aCons (cI 12345) (aCons (cI 0) aNil)))))
  (bCons (sAsg (gNm 2) (cIf (cCmp .Lt (cVar 6) (cI 60)) (cBin .Sub (cVar 5) (cBin .Pow (cI 10) (cI 18))) (cI 0)))
  (bCons (sFor (cRng1 (cBin .Mod (cBt bInt (aCons (cVar 6) aNil)) (cI 60))) (gNm 3)
 (bCons (sAsg (gNm 2) (cBin .FloorDiv (cVar 2) (cI 1009)))
  bNil))
  (bCons (sIf (cCmp .Gt (cVar 2) (cI 0))
 (bCons (sRet (cBin .Mod (cBt bInt (aCons (cVar 2) aNil)) (cI 1009)))
  bNil)
 bNil)
  (bCons (sAsg (gNm 4) (cBin .Mod (cBin .Add (cBin .Mult (cBt bInt (aCons (cBin .Add (cVar 5) (cBin .Mult (cI 977) (cVar 1))) aNil)) (cI 48271)) (cBin .Mult (cI 31) (cBi bLen (aCons (cVar 0) aNil)))) (cI 2147483647)))
  (bCons (sAsg (gNm 4) (cBin .Mod (cBin .Add (cBin .Mult (cVar 4) (cVar 4)) (cBin .Mult (cI 40503) (cVar 1))) (cI 2147483629)))
  (bCons (sRet (cBt bInt (aCons (cBin .Mod (cBin .Add (cBin .Mult (cVar 4) (cI 69621)) (cBin .FloorDiv (cVar 4) (cI 977))) (cI 2147483587)) aNil)))
  bNil)))))))⟩
def takeF (kn : Nat) : FDef S := ⟨["draw", "many"], 2,
 (bCons (sAugS (cVar 0) (cI 1) (cI 1))
  (bCons (sRet (cBin .Mod (cBt bInt (aCons (cCall kn (aCons (cIdx (cVar 0) (cI 0)) (aCons (cBt bInt (aCons (cIdx (cVar 0) (cI 1)) aNil)) aNil))) aNil)) (cVar 1)))
  bNil))⟩
end
section
variable {S S0 : Sx} {d n : Nat} {G : Gh}
theorem mapO_ints {k : Nat} : ∀ ns : List Int, mapO (toD k G) (ns.map Va.int) = some (ns.map PyData.int)
  | [] => rfl
  | i :: r => by
    have h : toD k G (.int i) = some (.int i) := by cases k <;> rfl
    have ih := mapO_ints (k := k) r
    simp [mapO, h, ih]
theorem shp_ints (ns : List Int) : SeqAt.shaped (.list (ns.map PyData.int)) = true := by
  have h1 : ∀ ns : List Int, PyData.canLayAll0 (ns.map PyData.int) = true := by
    intro ns
    induction ns with
    | nil => simp [PyData.canLayAll0]
    | cons i r ih => simp [PyData.canLayAll0, PyData.canLay0, ih]
  have h2 : ∀ ns : List Int, PyData.depthAll (ns.map PyData.int) ≤ 1 := by
    intro ns
    induction ns with
    | nil => simp [PyData.depthAll]
    | cons i r ih =>
      simp only [List.map_cons, PyData.depthAll, PyData.depth]
      omega
  unfold SeqAt.shaped
  rw [Bool.and_eq_true]
  refine ⟨by simp only [PyData.canLay0]; exact h1 ns, ?_⟩
  have := h2 ns
  exact decide_eq_true (by rw [PyData.depth]; omega)
theorem ne_nil {m : Nat} {fz : Bool} {ns : List Int} (h : G[n]? = some (.lst fz (ns.map Va.int))) (h2 : G[m]? = some (.lst false [])) : cmpF .NotEq (.ref n) (.ref m) G = some (.bl (!ns.isEmpty), G) := by
  have e1 : toD 30 G (.ref n) = some (.list (ns.map PyData.int)) := by
    show ((lstO G[n]?).bind (mapO (toD 29 G))).map PyData.list = _
    rw [h]
    show (mapO (toD 29 G) (ns.map Va.int)).map PyData.list = _
    rw [mapO_ints]; rfl
  have e2 : toD 30 G (.ref m) = some (.list []) := by
    show ((lstO G[m]?).bind (mapO (toD 29 G))).map PyData.list = _
    rw [h2]; rfl
  show ((eqDD (toD 30 G (.ref n)) (toD 30 G (.ref m))).map fun b => (Va.bl (!b), G)) = _
  rw [e1, e2]
  show ((if SeqAt.shaped (.list (ns.map PyData.int)) = true ∧ SeqAt.shaped (.list []) = true then some (PyData.eqv (.list (ns.map PyData.int)) (.list [])) else none).map fun b => (Va.bl (!b), G)) = _
  rw [if_pos ⟨shp_ints ns, shp_ints []⟩]
  cases ns <;> simp [PyData.eqv, PyData.eqvAll]
theorem len_ref {fz : Bool} {xs : List Va} (h : G[n]? = some (.lst fz xs)) : (bLen : Bop S (.builtin "len")).op [.ref n] G = some (.int xs.length, G) := by
  show (lenO G[n]?).map (fun (k : Nat) => (Va.int k, G)) = _
  rw [h]; rfl
theorem pow_18 : binF .Pow (.int 10) (.int 18) G = some (.int 1000000000000000000, G) := by
  show powI 10 18 G = _
  unfold powI
  rw [if_pos (by decide)]; rfl
theorem sm_lit {x : Int} (h : -(2 ^ 64) < x ∧ x < 2 ^ 64) : sm x := h
theorem idx_ints {fz : Bool} {ns : List Int} {i : Int} (h : G[n]? = some (.lst fz (ns.map Va.int))) (h0 : 0 ≤ i) (h1 : i < ns.length) : ∃ c, opIdx (.ref n) (.int i) G = some (.int c, G) := by
  have hi : i.toNat < ns.length := by omega
  refine ⟨ns[i.toNat], ?_⟩
  show idxO G G[n]? (.int i) = _
  rw [h]
  show okV G (atI (ns.map Va.int) i) = _
  unfold atI ixN
  rw [if_pos h0, if_pos (by rw [List.length_map]; exact h1)]
  show okV G ((ns.map Va.int)[i.toNat]?) = _
  rw [List.getElem?_map, List.getElem?_eq_getElem hi]; rfl
theorem n_loop {L0 L1 L4 L5 L6 : Option Va} {k : Nat} : ∀ (r i m : Nat) (x : Option Va) (y : Int), i + r = k → r < m → ∃ x' y', forL (.rng 0 k) (gNm 3 : CG S0).ev (bCons (sAsg (gNm 2) (cBin .FloorDiv (cVar 2) (cI 1009))) bNil : CB S0).ev m i [L0, L1, some (.int y), x, L4, L5, L6] G = .nx [L0, L1, some (.int y'), x', L4, L5, L6] G
  | 0, i, m + 1, x, y, hi, hm => by
    have e : i = k := by omega
    subst e
    exact ⟨x, y, by rw [forL_rng, if_neg (by omega), for1_none]⟩
  | r + 1, i, m + 1, x, y, hi, hm => by
    obtain ⟨x', y', ih⟩ := n_loop (k := k) (L0 := L0) (L1 := L1) (L4 := L4) (L5 := L5) (L6 := L6) r (i + 1) m (some (.int (i : Int))) (y / 1009) (by omega) (by omega)
    refine ⟨x', y', ?_⟩
    rw [forL_rng, if_pos (by omega)]
    have p : po 1009 := by unfold po; omega
    simp [p]
    exact ih
theorem get_l2 {x y : Va} {fz : Bool} (h : G[n]? = some (.lst fz [x, y])) : getF (.ref n) (.int 1) G = some (y, G) := by
  show idxO G G[n]? (.int 1) = _
  rw [h]; rfl
theorem st_l2 {x y v : Va} (h : G[n]? = some (.lst false [x, y])) : stV (.int 1) v (.ref n) G = some (G.set n (.lst false [x, v])) := by
  show stO n (.int 1) v G G[n]? = _
  rw [h]; rfl
theorem idx_l20 {x y : Va} {fz : Bool} (h : G[n]? = some (.lst fz [x, y])) : opIdx (.ref n) (.int 0) G = some (x, G) := by
  show idxO G G[n]? (.int 0) = _
  rw [h]; rfl
theorem idx_l21 {x y : Va} {fz : Bool} (h : G[n]? = some (.lst fz [x, y])) : opIdx (.ref n) (.int 1) G = some (y, G) := by
  show idxO G G[n]? (.int 1) = _
  rw [h]; rfl
theorem sAugS_ev {L : Lo} {o i a : CE S} : (sAugS o i a).ev L G = sx (o.ev L G) L fun o G1 => sx (i.ev L G1) L fun k G2 => augB a.ev L o k (getF o k G2) := rfl
theorem augB_some {L : Lo} {o k x : Va} {a : Lo → Gh → Res Va} : augB a L o k (some (x, G)) = sx (a L G) L fun y G1 => augG L o k (ipAdd x y G1) := rfl
theorem augG_some {L : Lo} {o k x : Va} : augG L o k (some (x, G)) = nxS L (stV k x o G) := rfl
theorem ip_int {x y : Int} : ipAdd (.int x) (.int y) G = some (.int (x + y), G) := rfl
theorem v_number {code : Code} {kn : Nat} (hcn : ∀ S, code S kn = some (numF S)) {ns : List Int} {t : Int} (hs : G[0]? = some (.lst true (ns.map Va.int))) (hl : ns.length ≤ 63) (h0 : 0 ≤ t) : ∃ v, 0 ≤ v ∧ callF S code (d + 1) kn [.ref 0, .int t] G = .ok (.int v) (G ++ [.lst false []]) := by
  have h0l : 0 < G.length := (List.getElem?_eq_some_iff.mp hs).1
  have hs' : (G ++ [VO.lst false []])[0]? = some (.lst true (ns.map Va.int)) := by rw [at_old h0l]; exact hs
  have hd : (G ++ [VO.lst false []])[G.length]? = some (.lst false []) := at_d
  have nn := ne_nil hs' hd
  have ln := len_ref (S := S.dp code d) hs'
  rw [List.length_map] at ln
  obtain ⟨c, u, hu, hc⟩ : ∃ c u : Int, 0 ≤ u ∧ (cIf (cCmp .NotEq (cVar 0) (cLst aNil)) (cTup (aCons (cIdx (cVar 0) (cBin .Mod (cVar 1) (cBi bLen (aCons (cVar 0) aNil)))) (aCons (cBin .FloorDiv (cVar 1) (cBi bLen (aCons (cVar 0) aNil))) aNil))) (cTup (aCons (cI 12345) (aCons (cI 0) aNil))) : CE (S.dp code d)).ev [some (.ref 0), some (.int t), none, none, none, none, none] G = .ok (.tup [.int c, .int u]) (G ++ [.lst false []]) := by
    cases ns with
    | nil => exact ⟨12345, 0, by decide, by simp [nn]⟩
    | cons a r =>
      have lp : (0 : Int) < ((a :: r).length : Int) := by simp only [List.length_cons]; omega
      have pl : po ((a :: r).length : Int) := by unfold po; omega
      obtain ⟨c, hc⟩ := idx_ints hs' (Int.emod_nonneg t (by omega)) (Int.emod_lt_of_pos t lp)
      have nn' : cmpF .NotEq (.ref 0) (.ref G.length) (G ++ [.lst false []]) = some (.bl true, G ++ [.lst false []]) := nn
      refine ⟨c, t / ((a :: r).length : Int), Int.ediv_nonneg h0 (by omega), ?_⟩
      generalize ((a :: r).length : Int) = q at *
      simp [nn', ln, lp, pl, hc]
  generalize G ++ [VO.lst false []] = G1 at *
  have hb : big (u % 60) = true := by
    have := Int.emod_nonneg u (by decide : (60 : Int) ≠ 0)
    have := Int.emod_lt_of_pos u (by decide : (0 : Int) < 60)
    unfold big; simp only [Bool.and_eq_true, decide_eq_true_eq]; omega
  have hr : rng1 (.int (u % 60)) G1 = .ok (.rng 0 (u % 60).toNat) G1 := by
    show rngR _ (big (u % 60)) 0 _ = _
    unfold rngR; rw [if_pos hb]
  obtain ⟨y, hy⟩ : ∃ y : Int, (cIf (cCmp .Lt (cVar 6) (cI 60)) (cBin .Sub (cVar 5) (cBin .Pow (cI 10) (cI 18))) (cI 0) : CE (S.dp code d)).ev [some (.ref 0), some (.int t), none, none, none, some (.int c), some (.int u)] G1 = .ok (.int y) G1 := by
    by_cases z : u < 60
    · exact ⟨c - 1000000000000000000, by simp [z, pow_18]⟩
    · exact ⟨0, by simp [z]⟩
  obtain ⟨x', y', lp⟩ := n_loop (S0 := S.dp code d) (G := G1) (L0 := some (.ref 0)) (L1 := some (.int t)) (L4 := none) (L5 := some (.int c)) (L6 := some (.int u)) (k := (u % 60).toNat) (u % 60).toNat 0 fuelF none y (by omega) (by
    have := Int.emod_lt_of_pos u (by decide : (0 : Int) < 60)
    unfold fuelF; omega)
  rw [callF_succ]
  have s1 : sm 48271 := sm_lit (by decide)
  have s2 : sm 31 := sm_lit (by decide)
  have s3 : sm 977 := sm_lit (by decide)
  have s4 : sm 40503 := sm_lit (by decide)
  have s5 : sm 69621 := sm_lit (by decide)
  have p1 : po 977 := by unfold po; omega
  by_cases hp : 0 < y'
  · refine ⟨y' % 1009, Int.emod_nonneg _ (by decide), ?_⟩
    simp [hcn, numF, startL, -cIf_ev, hc, hy, hr, lp, hp, int_op]
  · have q : ∀ b : Int, 0 ≤ b % 2147483647 ∧ b % 2147483647 < 2147483647 := fun b => ⟨Int.emod_nonneg b (by decide), Int.emod_lt_of_pos b (by decide)⟩
    have q' : ∀ b : Int, sm (b % 2147483647) := fun b => by have := q b; unfold sm; omega
    refine ⟨_, ?_, by simp [hcn, numF, startL, -cIf_ev, hc, hy, hr, lp, hp, int_op, s1, s2, s3, s4, s5, p1, ln, q']; exact rfl⟩
    exact Int.emod_nonneg _ (by decide)
/-- the heap of a law: the script, what was drawn, the rest -/
def H0 (ns : List Int) (t : Int) (T : Gh) : Gh := .lst true (ns.map Va.int) :: .lst false [.ref 0, .int t] :: T
theorem v_take {code : Code} {kn kt : Nat} (hcn : ∀ S, code S kn = some (numF S)) (hct : ∀ S, code S kt = some (takeF S kn)) {ns : List Int} (hl : ns.length ≤ 63) {t : Int} (h0 : 0 ≤ t) {T : Gh} {many : Int} (hm : 0 < many) :
    ∃ v, 0 ≤ v ∧ v < many ∧ callF S code (d + 2) kt [.ref 1, .int many] (H0 ns t T) = .ok (.int v) (H0 ns (t + 1) (T ++ [.lst false []])) := by
  have h2 : (H0 ns t T)[1]? = some (.lst false [.ref 0, .int t]) := rfl
  have g1 := get_l2 h2
  have g2 := st_l2 (v := .int (t + 1)) h2
  have es : (H0 ns t T).set 1 (.lst false [.ref 0, .int (t + 1)]) = H0 ns (t + 1) T := rfl
  rw [es] at g2
  have e0 : (H0 ns (t + 1) T)[0]? = some (.lst true (ns.map Va.int)) := rfl
  have e1 : (H0 ns (t + 1) T)[1]? = some (.lst false [.ref 0, .int (t + 1)]) := rfl
  obtain ⟨v, hv, hc⟩ := v_number (S := S) (d := d) hcn (t := t + 1) e0 hl (by omega)
  have ap : H0 ns (t + 1) T ++ [.lst false []] = H0 ns (t + 1) (T ++ [.lst false []]) := rfl
  rw [ap] at hc
  generalize hG : H0 ns t T = G0 at *
  generalize hG1 : H0 ns (t + 1) T = G1 at *
  have i0 := idx_l20 e1
  have i1 := idx_l21 e1
  refine ⟨v % many, Int.emod_nonneg _ (by omega), Int.emod_lt_of_pos _ hm, ?_⟩
  rw [callF_succ]
  simp [hct, takeF, startL, sAugS_ev, g1, augB_some, ip_int, augG_some, g2, i0, i1, int_op, hc, hm]
end
end VM
namespace LawX
open PySem PySem.Spec PyProof.Rows L2 VM
def top (i : Nat) : Stmt := PySem.Challenge.pw_openchange_k60_whole_objects.main.body.getD i (.Pass ⟨0, 0, 0, 0⟩)
def nms : List Str := ["length", "starts", "chain", "delay", "wait", "drift", "tells", "made", "came", "used", "margin", "tables", "marked", "__init__", "__eq__", "__bool__"]
def nmF (i : Nat) : Str := nms.getD i ""
section
variable (S : Sx)
def f0 : FDef S := ⟨["value", "low", "high"], 3,
 (bCons (sRet (cBop true (cBi bIsiX (aCons (cVar 0) (aCons (cTy "int") aNil))) [(cNot (cBi bIsiX (aCons (cVar 0) (aCons (cTy "bool") aNil)))), (cChn .LtE .LtE (cVar 1) (cVar 0) (cVar 2))]))
  bNil)⟩
def f1 : FDef S := ⟨["value", "one"], 1,
 (bCons (sIf (cBop false (cNot (cBi bIsiX (aCons (cVar 0) (aCons (cTy "tuple") aNil)))) [(cCmp .NotEq (cBi bLen (aCons (cVar 0) aNil)) (cI 2))])
 (bCons (sRet (cB false))
  bNil)
 bNil)
  (bCons (sIf (cNot (cBi bAll (aCons (cLc (cItV (cVar 0)) (gNm 1) t0 (cBop true (cBi bIsiX (aCons (cVar 1) (aCons (cTy "int") aNil))) [(cNot (cBi bIsiX (aCons (cVar 1) (aCons (cTy "bool") aNil))))]) [("one", 1)]) aNil)))
 (bCons (sRet (cB false))
  bNil)
 bNil)
  (bCons (sRet (cBop true (cCmp .GtE (cIdx (cVar 0) (cI 0)) (cI 0)) [(cCmp .Gt (cIdx (cVar 0) (cI 1)) (cI 0)), (cCmp .Eq (cBg bGcd (aCons (cIdx (cVar 0) (cI 0)) (aCons (cIdx (cVar 0) (cI 1)) aNil))) (cI 1))]))
  bNil)))⟩
def f2 : FDef S := ⟨["script", "index", "rest", "step", "blend", "cell", "turn"], 2,
 (bCons (sAsg (gTp 2 (gsCons (gNm 5) (gsCons (gNm 6) gsNil))) (cIf (cCmp .NotEq (cVar 0) (cLst aNil)) (cTup (aCons (cIdx (cVar 0) (cBin .Mod (cVar 1) (cBi bLen (aCons (cVar 0) aNil)))) (aCons (cBin .FloorDiv (cVar 1) (cBi bLen (aCons (cVar 0) aNil))) aNil))) (cTup (aCons (cI 12345) (aCons (cI 0) aNil)))))
  (bCons (sAsg (gNm 2) (cIf (cCmp .Lt (cVar 6) (cI 60)) (cBin .Sub (cVar 5) (cBin .Pow (cI 10) (cI 18))) (cI 0)))
  (bCons (sFor (cRng1 (cBin .Mod (cBt bInt (aCons (cVar 6) aNil)) (cI 60))) (gNm 3)
 (bCons (sAsg (gNm 2) (cBin .FloorDiv (cVar 2) (cI 1009)))
  bNil))
  (bCons (sIf (cCmp .Gt (cVar 2) (cI 0))
 (bCons (sRet (cBin .Mod (cBt bInt (aCons (cVar 2) aNil)) (cI 1009)))
  bNil)
 bNil)
  (bCons (sAsg (gNm 4) (cBin .Mod (cBin .Add (cBin .Mult (cBt bInt (aCons (cBin .Add (cVar 5) (cBin .Mult (cI 977) (cVar 1))) aNil)) (cI 48271)) (cBin .Mult (cI 31) (cBi bLen (aCons (cVar 0) aNil)))) (cI 2147483647)))
  (bCons (sAsg (gNm 4) (cBin .Mod (cBin .Add (cBin .Mult (cVar 4) (cVar 4)) (cBin .Mult (cI 40503) (cVar 1))) (cI 2147483629)))
  (bCons (sRet (cBt bInt (aCons (cBin .Mod (cBin .Add (cBin .Mult (cVar 4) (cI 69621)) (cBin .FloorDiv (cVar 4) (cI 977))) (cI 2147483587)) aNil)))
  bNil)))))))⟩
def f3 : FDef S := ⟨["draw", "many"], 2,
 (bCons (sAugS (cVar 0) (cI 1) (cI 1))
  (bCons (sRet (cBin .Mod (cBt bInt (aCons (cCall 2 (aCons (cIdx (cVar 0) (cI 0)) (aCons (cBt bInt (aCons (cIdx (cVar 0) (cI 1)) aNil)) aNil))) aNil)) (cVar 1)))
  bNil))⟩
def f4 : FDef S := ⟨["draw", "kind", "number", "row", "starts", "chain"], 2,
 (bCons (sPar 2 3 (aCons (cCall 3 (aCons (cVar 0) (aCons (cI 2) aNil))) (aCons (cLst (aCons (cTup (aCons (cCall 3 (aCons (cVar 0) (aCons (cI 2) aNil))) (aCons (cI 1) aNil))) (aCons (cTup (aCons (cI 3) (aCons (cI 1) aNil))) aNil))) aNil)))
  (bCons (sIf (cCmp .Eq (cVar 1) (cI 0))
 (bCons (sRet (cTup (aCons (cVar 3) (aCons (cTup (aCons (cTup (aCons (cVar 2) (aCons (cI 1) aNil))) aNil)) (aCons (cNew 3 (aCons (cTup (aCons (cVar 2) (aCons (cI 1) aNil))) aNil)) aNil)))))
  bNil)
 bNil)
  (bCons (sIf (cCmp .Eq (cVar 1) (cI 1))
 (bCons (sRet (cTup (aCons (cVar 3) (aCons (cTup (aCons (cBt bTup (aCons (cVar 3) aNil)) (aCons (cTup (aCons (cVar 2) (aCons (cI 1) aNil))) (aCons (cTup (aCons (cI 2) (aCons (cI 1) aNil))) (aCons (cTup (aCons (cI 5) (aCons (cI 2) aNil))) aNil))))) (aCons (cNew 4 (aCons (cVar 3) (aCons (cTup (aCons (cVar 2) (aCons (cI 1) aNil))) (aCons (cTup (aCons (cI 2) (aCons (cI 1) aNil))) (aCons (cTup (aCons (cI 5) (aCons (cI 2) aNil))) aNil))))) aNil)))))
  bNil)
 bNil)
  (bCons (sIf (cCmp .Eq (cVar 1) (cI 2))
 (bCons (sPar 4 5 (aCons (cDst (cpCons (cTup (aCons (cS [97, 100, 100]) (aCons (cS [105, 110, 100, 101, 120]) (aCons (cS [116]) (aCons (cS [97]) aNil))))) (cVar 2) cpNil)) (aCons (cBin .Mult (cLst (aCons (cTup (aCons (cS [97, 100, 100]) (aCons (cS [105, 110, 100, 101, 120]) (aCons (cS [116]) (aCons (cS [97]) aNil))))) aNil)) (cVar 2)) aNil)))
  (bCons (sRet (cTup (aCons (cVar 4) (aCons (cTup (aCons (cI 4) (aCons (cBt bDict (aCons (cVar 4) aNil)) (aCons (cBt bTup (aCons (cVar 5) aNil)) aNil)))) (aCons (cNew 1 (aCons (cI 4) (aCons (cVar 4) (aCons (cVar 5) aNil)))) aNil)))))
  bNil))
 bNil)
  (bCons (sRet (cTup (aCons (cVar 3) (aCons (cTup (aCons (cI 5) (aCons (cVar 2) (aCons (cI 7) (aCons (cTup (aCons (cI 1) (aCons (cBin .Add (cI 2) (cVar 2)) aNil))) aNil))))) (aCons (cNew 2 (aCons (cI 5) (aCons (cVar 2) (aCons (cI 7) (aCons (cTup (aCons (cI 1) (aCons (cBin .Add (cI 2) (cVar 2)) aNil))) aNil))))) aNil)))))
  bNil)))))⟩
def f5 : FDef S := ⟨["kind", "one"], 2,
 (bCons (sIf (cCmp .Eq (cVar 0) (cI 0))
 (bCons (sRet (cTup (aCons (cAtt (cVar 1) 10) aNil)))
  bNil)
 bNil)
  (bCons (sIf (cCmp .Eq (cVar 0) (cI 1))
 (bCons (sRet (cTup (aCons (cAtt (cVar 1) 6) (aCons (cAtt (cVar 1) 7) (aCons (cAtt (cVar 1) 8) (aCons (cAtt (cVar 1) 9) aNil))))))
  bNil)
 bNil)
  (bCons (sRet (cIf (cCmp .Eq (cVar 0) (cI 2)) (cTup (aCons (cAtt (cVar 1) 0) (aCons (cAtt (cVar 1) 1) (aCons (cAtt (cVar 1) 2) aNil)))) (cTup (aCons (cAtt (cVar 1) 0) (aCons (cAtt (cVar 1) 3) (aCons (cAtt (cVar 1) 4) (aCons (cAtt (cVar 1) 5) aNil)))))))
  bNil)))⟩
def f6 : FDef S := ⟨["draw", "marks", "tables", "due", "schema", "kind"], 1,
 (bCons (sAsg (gNm 1) (cDsp (cpCons (cS [112, 108, 97, 99, 101]) (cIdx (cLst (aCons (cS [109, 97, 105, 110]) (aCons (cS [115, 105, 100, 101]) aNil))) (cCall 3 (aCons (cVar 0) (aCons (cI 2) aNil)))) (cpCons (cS [105, 110, 100, 101, 120]) (cB true) cpNil))))
  (bCons (sPar 2 3 (aCons (cDsp (cpCons (cS [116]) (cDsp (cpCons (cS [97]) (cVar 1) cpNil)) cpNil)) (aCons (cDsp (cpCons (cS [116]) (cDsp (cpCons (cS [97]) (cBt bDict (aCons (cLi (cVar 1)) aNil)) cpNil)) cpNil)) aNil)))
  (bCons (sPar 4 5 (aCons (cNew 0 (aCons (cVar 2) aNil)) (aCons (cCall 3 (aCons (cVar 0) (aCons (cI 4) aNil))) aNil)))
  (bCons (sIf (cCmp .Eq (cVar 5) (cI 0))
 (bCons (sAsg (gSuX (cVar 1) (cS [117, 110, 105, 113, 117, 101])) (cB true))
  bNil)
 (bCons (sIf (cCmp .Eq (cVar 5) (cI 1))
 (bCons (sAsg (gSuX (cVar 1) (cS [112, 108, 97, 99, 101])) (cS [122, 122]))
  bNil)
 (bCons (sIf (cCmp .Eq (cVar 5) (cI 2))
 (bCons (sAsg (gSuX (cIdx (cVar 2) (cS [116])) (cS [98])) (cDsp (cpCons (cS [112, 108, 97, 99, 101]) (cS [109, 97, 105, 110]) cpNil)))
  bNil)
 (bCons (sAsg (gSuX (cVar 2) (cS [117])) cD0)
  bNil))
  bNil))
  bNil))
  (bCons (sRet (cBop true (cEq false (cAtt (cVar 4) 11) (cVar 3)) [(cEq false (cVar 4) (cNew 0 (aCons (cVar 3) aNil))), (cEq false (cMth 12 (cVar 4) aNil) (cLst (aCons (cTup (aCons (cS [105, 110, 100, 101, 120]) (aCons (cS [116]) (aCons (cS [97]) aNil)))) aNil)))]))
  bNil)))))⟩
def f7 : FDef S := ⟨["script", "draw", "rows", "turn", "kind", "due", "one", "part", "other", "late", "two"], 1,
 (bCons (sAsg (gNm 1) (cLst (aCons (cVar 0) (aCons (cI 0) aNil))))
  (bCons (sIf (cNot (cCall 6 (aCons (cVar 1) aNil)))
 (bCons (sRet (cB false))
  bNil)
 bNil)
  (bCons (sAsg (gNm 2) (cLst aNil))
  (bCons (sFor (cRng1 (cI 9)) (gNm 3)
 (bCons (sAsg (gNm 4) (cCall 3 (aCons (cVar 1) (aCons (cI 4) aNil))))
  (bCons (sAsg (gTp 3 (gsCons (gNm 7) (gsCons (gNm 5) (gsCons (gNm 6) gsNil)))) (cCall 4 (aCons (cVar 1) (aCons (cVar 4) aNil))))
  (bCons (sIf (cEq true (cCall 5 (aCons (cVar 4) (aCons (cVar 6) aNil))) (cVar 5))
 (bCons (sRet (cB false))
  bNil)
 bNil)
  (bCons (sIf (cBi bIsiX (aCons (cVar 7) (aCons (cTy "dict") aNil)))
 (bCons (sAsg (gSuX (cVar 7) (cTup (aCons (cS [122, 122]) (aCons (cS []) (aCons (cS []) (aCons (cS []) aNil)))))) (cI 5))
  bNil)
 (bCons (sExpr (cBm mApp (cVar 7) (aCons (cTup (aCons (cI 9) (aCons (cI 1) aNil))) aNil)))
  bNil))
  (bCons (sIf (cBop false (cEq true (cCall 5 (aCons (cVar 4) (aCons (cVar 6) aNil))) (cVar 5)) [(cEq false (cVar 6) (cVar 5))])
 (bCons (sRet (cB false))
  bNil)
 bNil)
  (bCons (sExpr (cBm mApp (cVar 2) (aCons (cTup (aCons (cVar 4) (aCons (cVar 5) (aCons (cVar 6) aNil)))) aNil)))
  bNil)))))))
  (bCons (sFor (cItV (cVar 2)) (gTp 3 (gsCons (gNm 4) (gsCons (gNm 5) (gsCons (gNm 6) gsNil))))
 (bCons (sFor (cItV (cVar 2)) (gTp 3 (gsCons (gNm 8) (gsCons (gNm 9) (gsCons (gNm 10) gsNil))))
 (bCons (sIf (cBop false (cEq true (cEq false (cVar 6) (cVar 10)) (cBop true (cEq false (cVar 4) (cVar 8)) [(cEq false (cVar 5) (cVar 9))])) [(cEq true (cEq true (cVar 6) (cVar 10)) (cBop false (cEq true (cVar 4) (cVar 8)) [(cEq true (cVar 5) (cVar 9))]))])
 (bCons (sRet (cB false))
  bNil)
 bNil)
  bNil))
  bNil))
  (bCons (sRet (cBop true (cBool (cNew 3 (aCons (cTup (aCons (cI 0) (aCons (cI 1) aNil))) aNil))) [(cNot (cNew 4 (aCons (cTup aNil) (aCons (cTup (aCons (cI 0) (aCons (cI 1) aNil))) (aCons (cTup (aCons (cI 0) (aCons (cI 1) aNil))) (aCons (cTup (aCons (cI 0) (aCons (cI 1) aNil))) aNil)))))), (cEq false (cNew 0 (aCons (cDsp (cpCons (cS [116]) cD0 cpNil)) aNil)) (cNew 0 (aCons (cDsp (cpCons (cS [116]) cD0 cpNil)) aNil))), (cEq true (cNew 0 (aCons cD0 aNil)) (cNew 0 (aCons (cDsp (cpCons (cS [116]) cD0 cpNil)) aNil))), (cEq true (cNew 0 (aCons cD0 aNil)) (cI 5))]))
  bNil))))))⟩
def f8 : FDef S := ⟨["self", "tables", "table", "columns", "column", "marks"], 2,
 (bCons (sFldS (cVar 0) 11 cD0)
  (bCons (sLock ((cVar 1) : CE S).ev (sFor (cItI (cVar 1)) (gTp 2 (gsCons (gNm 2) (gsCons (gNm 3) gsNil)))
 (bCons (sAsg (gSuX (cAtt (cVar 0) 11) (cVar 2)) (cLock ((cVar 3) : CE S).ev (cDc (cItI (cVar 3)) (gTp 2 (gsCons (gNm 4) (gsCons (gNm 5) gsNil))) t0 (cVar 4) (cBt bDict (aCons (cVar 5) aNil)) [("column", 4), ("marks", 5)])))
  bNil)))
  bNil))⟩
def f9 : FDef S := ⟨["self", "other"], 2,
 (bCons (sRet (cBop true (cBi bIsiX (aCons (cVar 1) (aCons (cCl 0) aNil))) [(cEq false (cAtt (cVar 0) 11) (cAtt (cVar 1) 11))]))
  bNil)⟩
def f10 : FDef S := ⟨["self", "found", "table", "columns", "column", "marks", "kind"], 1,
 (bCons (sAsg (gNm 1) (cLst aNil))
  (bCons (sLock ((cAtt (cVar 0) 11) : CE S).ev (sFor (cItI (cAtt (cVar 0) 11)) (gTp 2 (gsCons (gNm 2) (gsCons (gNm 3) gsNil)))
 (bCons (sLock ((cVar 3) : CE S).ev (sFor (cItI (cVar 3)) (gTp 2 (gsCons (gNm 4) (gsCons (gNm 5) gsNil)))
 (bCons (sAugN 1 (cLc (cItV (cTup (aCons (cS [99, 111, 108, 117, 109, 110]) (aCons (cS [105, 110, 100, 101, 120]) (aCons (cS [114, 101, 102, 101, 114, 101, 110, 99, 101]) (aCons (cS [117, 110, 105, 113, 117, 101]) aNil)))))) (gNm 6) (t1 (cInX false (cVar 6) (cVar 5))) (cTup (aCons (cVar 6) (aCons (cVar 2) (aCons (cVar 4) aNil)))) [("kind", 6)]))
  bNil)))
  bNil)))
  (bCons (sRet (cBi bSrt1 (aCons (cVar 1) aNil)))
  bNil)))⟩
def f11 : FDef S := ⟨["self", "length", "starts", "chain"], 4,
 (bCons (sFldS (cVar 0) 0 (cVar 1))
  (bCons (sFldS (cVar 0) 1 (cBt bDict (aCons (cVar 2) aNil)))
  (bCons (sFldS (cVar 0) 2 (cBt bTup (aCons (cVar 3) aNil)))
  bNil)))⟩
def f12 : FDef S := ⟨["self", "other"], 2,
 (bCons (sIf (cNot (cBi bIsiX (aCons (cVar 1) (aCons (cCl 1) aNil))))
 (bCons (sRet (cB false))
  bNil)
 bNil)
  (bCons (sRet (cEq false (cTup (aCons (cAtt (cVar 0) 0) (aCons (cAtt (cVar 0) 1) (aCons (cAtt (cVar 0) 2) aNil)))) (cTup (aCons (cAtt (cVar 1) 0) (aCons (cAtt (cVar 1) 1) (aCons (cAtt (cVar 1) 2) aNil))))))
  bNil))⟩
def f13 : FDef S := ⟨["self", "length", "delay", "wait", "drift", "rights", "part", "is_right"], 5,
 (bCons (sAsg (gNm 5) (cTup (aCons (cTup (aCons (cS [108, 101, 110, 103, 116, 104]) (aCons (cCall 0 (aCons (cVar 1) (aCons (cI 1) (aCons (cGl 0) aNil)))) aNil))) (aCons (cTup (aCons (cS [100, 101, 108, 97, 121]) (aCons (cCall 0 (aCons (cVar 2) (aCons (cI 0) (aCons (cGl 0) aNil)))) aNil))) (aCons (cTup (aCons (cS [119, 97, 105, 116]) (aCons (cCall 0 (aCons (cVar 3) (aCons (cI 1) (aCons (cGl 0) aNil)))) aNil))) (aCons (cTup (aCons (cS [100, 114, 105, 102, 116]) (aCons (cBop true (cCall 1 (aCons (cVar 4) aNil)) [(cChn .Lt .LtE (cIdx (cVar 4) (cI 0)) (cIdx (cVar 4) (cI 1)) (cI 1000))]) aNil))) aNil))))))
  (bCons (sFor (cItV (cVar 5)) (gTp 2 (gsCons (gNm 6) (gsCons (gNm 7) gsNil)))
 (bCons (sIf (cNot (cVar 7))
 (bCons sNever
  bNil)
 bNil)
  bNil))
  (bCons (sFldS (cVar 0) 0 (cVar 1))
  (bCons (sFldS (cVar 0) 3 (cVar 2))
  (bCons (sFldS (cVar 0) 4 (cVar 3))
  (bCons (sFldS (cVar 0) 5 (cVar 4))
  bNil))))))⟩
def f14 : FDef S := ⟨["self", "other"], 2,
 (bCons (sIf (cNot (cBi bIsiX (aCons (cVar 1) (aCons (cCl 2) aNil))))
 (bCons (sRet (cB false))
  bNil)
 bNil)
  (bCons (sIf (cEq true (cTup (aCons (cAtt (cVar 0) 0) (aCons (cAtt (cVar 0) 3) (aCons (cAtt (cVar 0) 4) aNil)))) (cTup (aCons (cAtt (cVar 1) 0) (aCons (cAtt (cVar 1) 3) (aCons (cAtt (cVar 1) 4) aNil)))))
 (bCons (sRet (cB false))
  bNil)
 bNil)
  (bCons (sRet (cEq false (cAtt (cVar 0) 5) (cAtt (cVar 1) 5)))
  bNil)))⟩
def f15 : FDef S := ⟨["self", "margin_of_waits"], 2,
 (bCons (sFldS (cVar 0) 10 (cVar 1))
  bNil)⟩
def f16 : FDef S := ⟨["self", "other"], 2,
 (bCons (sRet (cBop true (cBi bIsiX (aCons (cVar 1) (aCons (cCl 3) aNil))) [(cEq false (cAtt (cVar 0) 10) (cAtt (cVar 1) 10))]))
  bNil)⟩
def f17 : FDef S := ⟨["self"], 1,
 (bCons (sRet (cB true))
  bNil)⟩
def f18 : FDef S := ⟨["self", "tells", "made", "came", "used"], 5,
 (bCons (sFldS (cVar 0) 6 (cBt bTup (aCons (cVar 1) aNil)))
  (bCons (sFldS (cVar 0) 7 (cVar 2))
  (bCons (sFldS (cVar 0) 8 (cVar 3))
  (bCons (sFldS (cVar 0) 9 (cVar 4))
  bNil))))⟩
def f19 : FDef S := ⟨["self", "other"], 2,
 (bCons (sIf (cNot (cBi bIsiX (aCons (cVar 1) (aCons (cCl 4) aNil))))
 (bCons (sRet (cB false))
  bNil)
 bNil)
  (bCons (sIf (cEq true (cTup (aCons (cAtt (cVar 0) 6) (aCons (cAtt (cVar 0) 7) (aCons (cAtt (cVar 0) 8) aNil)))) (cTup (aCons (cAtt (cVar 1) 6) (aCons (cAtt (cVar 1) 7) (aCons (cAtt (cVar 1) 8) aNil)))))
 (bCons (sRet (cB false))
  bNil)
 bNil)
  (bCons (sRet (cEq false (cAtt (cVar 0) 9) (cAtt (cVar 1) 9)))
  bNil)))⟩
def f20 : FDef S := ⟨["self"], 1,
 (bCons (sRet (cB false))
  bNil)⟩
end
def code : VM.Code := fun S k => match k with
  | 0 => some (f0 S)
  | 1 => some (f1 S)
  | 2 => some (f2 S)
  | 3 => some (f3 S)
  | 4 => some (f4 S)
  | 5 => some (f5 S)
  | 6 => some (f6 S)
  | 7 => some (f7 S)
  | 8 => some (f8 S)
  | 9 => some (f9 S)
  | 10 => some (f10 S)
  | 11 => some (f11 S)
  | 12 => some (f12 S)
  | 13 => some (f13 S)
  | 14 => some (f14 S)
  | 15 => some (f15 S)
  | 16 => some (f16 S)
  | 17 => some (f17 S)
  | 18 => some (f18 S)
  | 19 => some (f19 S)
  | 20 => some (f20 S)
  | _ => none
def cdF : Nat → Cd
  | 0 => { flds := [11], mth := fun m => List.lookup m ([(12, 10)] : List (Nat × Nat)), con := fun _ => none, init := some 8, bool := none, eq := some 9 }
  | 1 => { flds := [2, 0, 1], mth := fun m => List.lookup m ([] : List (Nat × Nat)), con := fun _ => none, init := some 11, bool := none, eq := some 12 }
  | 2 => { flds := [3, 5, 0, 4], mth := fun m => List.lookup m ([] : List (Nat × Nat)), con := fun _ => none, init := some 13, bool := none, eq := some 14 }
  | 3 => { flds := [10], mth := fun m => List.lookup m ([] : List (Nat × Nat)), con := fun _ => none, init := some 15, bool := some 17, eq := some 16 }
  | 4 => { flds := [8, 7, 6, 9], mth := fun m => List.lookup m ([] : List (Nat × Nat)), con := fun _ => none, init := some 18, bool := some 20, eq := some 19 }
  | _ => { flds := [], mth := fun _ => none, con := fun _ => none, init := none, bool := none, eq := none }
abbrev mkS (P : Program) (w : World) (K : PySem.W.Frag) (mg : Str → Option Value) (base : Heap) (ca fa : Nat → Addr) : Sx where
  P := P
  w := w
  K := K
  mg := mg
  base := base
  ca := ca
  fa := fa
  nm := nmF
  nn := 16
  nc := 5
  nf := 21
  cd := cdF
  sub := fun a b => a == b
  isl := [(0, 0), (0, 1), (0, 2), (0, 3), (0, 4), (1, 0), (1, 1), (1, 2), (1, 3), (1, 4), (2, 0), (2, 1), (2, 2), (2, 3), (2, 4), (3, 0), (3, 1), (3, 2), (3, 3), (3, 4), (4, 0), (4, 1), (4, 2), (4, 3), (4, 4)]
  ibl := []
  call := fun _ _ _ => .no
  bl := ["all", "bool", "dict", "int", "isinstance", "len", "list", "range", "sorted", "tuple"]
  gl := [("FAR", .int 1000000)]
  cg := [("Schema", 0), ("Woven", 1), ("Terms", 2), ("Enough", 3), ("TooShort", 4)]
  fg := [("is_whole", 0), ("is_fraction", 1), ("_law_number", 2), ("_law_take", 3), ("_law_made", 4), ("_law_told", 5), ("_law_schema_right", 6), ("law", 7)]
  bg := [("gcd", "math.gcd")]
  tg := []
  xc := []
  xf := fun _ => []
  xm := []
  xsub := fun _ _ => false
  hot := fun _ _ _ => False
  hq := false
abbrev st0 : Stmt := (top 5)
abbrev st1 : Stmt := (top 16)
abbrev st2 : Stmt := (top 21)
abbrev st3 : Stmt := (top 22)
abbrev st4 : Stmt := (top 23)
abbrev st5 : Stmt := (top 24)
abbrev st6 : Stmt := (top 25)
abbrev st7 : Stmt := (top 26)
abbrev st8 : Stmt := (inClass (top 9) 0)
abbrev st9 : Stmt := (inClass (top 9) 1)
abbrev st10 : Stmt := (inClass (top 9) 2)
abbrev st11 : Stmt := (inClass (top 11) 0)
abbrev st12 : Stmt := (inClass (top 11) 1)
abbrev st13 : Stmt := (inClass (top 17) 0)
abbrev st14 : Stmt := (inClass (top 17) 1)
abbrev st15 : Stmt := (inClass (top 18) 0)
abbrev st16 : Stmt := (inClass (top 18) 1)
abbrev st17 : Stmt := (inClass (top 18) 2)
abbrev st18 : Stmt := (inClass (top 19) 0)
abbrev st19 : Stmt := (inClass (top 19) 1)
abbrev st20 : Stmt := (inClass (top 19) 2)
section
variable (P : Program) (w : World) (K : PySem.W.Frag) (mg : Str → Option Value) (base : Heap) (ca fa : Nat → Addr) (d : Nat)
theorem ck0 : (f0 ((mkS P w K mg base ca fa).dp code d)).body.chk ["value", "low", "high"] (defScope st0) (defBody st0) = true := by kernel_rfl
theorem fs0 : FnScope ["value", "low", "high"] ["value", "low", "high"] (defScope st0) := C8.fnScope_by (by decide +kernel)
theorem ck1 : (f1 ((mkS P w K mg base ca fa).dp code d)).body.chk ["value", "one"] (defScope st1) (defBody st1) = true := by kernel_rfl
theorem fs1 : FnScope ["value", "one"] ["value"] (defScope st1) := C8.fnScope_by (by decide +kernel)
theorem ck2 : (f2 ((mkS P w K mg base ca fa).dp code d)).body.chk ["script", "index", "rest", "step", "blend", "cell", "turn"] (defScope st2) (defBody st2) = true := by kernel_rfl
theorem fs2 : FnScope ["script", "index", "rest", "step", "blend", "cell", "turn"] ["script", "index"] (defScope st2) := C8.fnScope_by (by decide +kernel)
theorem ck3 : (f3 ((mkS P w K mg base ca fa).dp code d)).body.chk ["draw", "many"] (defScope st3) (defBody st3) = true := by kernel_rfl
theorem fs3 : FnScope ["draw", "many"] ["draw", "many"] (defScope st3) := C8.fnScope_by (by decide +kernel)
theorem ck4 : (f4 ((mkS P w K mg base ca fa).dp code d)).body.chk ["draw", "kind", "number", "row", "starts", "chain"] (defScope st4) (defBody st4) = true := by kernel_rfl
theorem fs4 : FnScope ["draw", "kind", "number", "row", "starts", "chain"] ["draw", "kind"] (defScope st4) := C8.fnScope_by (by decide +kernel)
theorem ck5 : (f5 ((mkS P w K mg base ca fa).dp code d)).body.chk ["kind", "one"] (defScope st5) (defBody st5) = true := by kernel_rfl
theorem fs5 : FnScope ["kind", "one"] ["kind", "one"] (defScope st5) := C8.fnScope_by (by decide +kernel)
theorem ck6 : (f6 ((mkS P w K mg base ca fa).dp code d)).body.chk ["draw", "marks", "tables", "due", "schema", "kind"] (defScope st6) (defBody st6) = true := by kernel_rfl
theorem fs6 : FnScope ["draw", "marks", "tables", "due", "schema", "kind"] ["draw"] (defScope st6) := C8.fnScope_by (by decide +kernel)
theorem ck7 : (f7 ((mkS P w K mg base ca fa).dp code d)).body.chk ["script", "draw", "rows", "turn", "kind", "due", "one", "part", "other", "late", "two"] (defScope st7) (defBody st7) = true := by kernel_rfl
theorem fs7 : FnScope ["script", "draw", "rows", "turn", "kind", "due", "one", "part", "other", "late", "two"] ["script"] (defScope st7) := C8.fnScope_by (by decide +kernel)
theorem ck8 : (f8 ((mkS P w K mg base ca fa).dp code d)).body.chk ["self", "tables", "table", "columns", "column", "marks"] (defScope st8) (defBody st8) = true := by kernel_rfl
theorem fs8 : FnScope ["self", "tables", "table", "columns", "column", "marks"] ["self", "tables"] (defScope st8) := C8.fnScope_by (by decide +kernel)
theorem ck9 : (f9 ((mkS P w K mg base ca fa).dp code d)).body.chk ["self", "other"] (defScope st9) (defBody st9) = true := by kernel_rfl
theorem fs9 : FnScope ["self", "other"] ["self", "other"] (defScope st9) := C8.fnScope_by (by decide +kernel)
theorem ck10 : (f10 ((mkS P w K mg base ca fa).dp code d)).body.chk ["self", "found", "table", "columns", "column", "marks", "kind"] (defScope st10) (defBody st10) = true := by kernel_rfl
theorem fs10 : FnScope ["self", "found", "table", "columns", "column", "marks", "kind"] ["self"] (defScope st10) := C8.fnScope_by (by decide +kernel)
theorem ck11 : (f11 ((mkS P w K mg base ca fa).dp code d)).body.chk ["self", "length", "starts", "chain"] (defScope st11) (defBody st11) = true := by kernel_rfl
theorem fs11 : FnScope ["self", "length", "starts", "chain"] ["self", "length", "starts", "chain"] (defScope st11) := C8.fnScope_by (by decide +kernel)
theorem ck12 : (f12 ((mkS P w K mg base ca fa).dp code d)).body.chk ["self", "other"] (defScope st12) (defBody st12) = true := by kernel_rfl
theorem fs12 : FnScope ["self", "other"] ["self", "other"] (defScope st12) := C8.fnScope_by (by decide +kernel)
theorem ck13 : (f13 ((mkS P w K mg base ca fa).dp code d)).body.chk ["self", "length", "delay", "wait", "drift", "rights", "part", "is_right"] (defScope st13) (defBody st13) = true := by kernel_rfl
theorem fs13 : FnScope ["self", "length", "delay", "wait", "drift", "rights", "part", "is_right"] ["self", "length", "delay", "wait", "drift"] (defScope st13) := C8.fnScope_by (by decide +kernel)
theorem ck14 : (f14 ((mkS P w K mg base ca fa).dp code d)).body.chk ["self", "other"] (defScope st14) (defBody st14) = true := by kernel_rfl
theorem fs14 : FnScope ["self", "other"] ["self", "other"] (defScope st14) := C8.fnScope_by (by decide +kernel)
theorem ck15 : (f15 ((mkS P w K mg base ca fa).dp code d)).body.chk ["self", "margin_of_waits"] (defScope st15) (defBody st15) = true := by kernel_rfl
theorem fs15 : FnScope ["self", "margin_of_waits"] ["self", "margin_of_waits"] (defScope st15) := C8.fnScope_by (by decide +kernel)
theorem ck16 : (f16 ((mkS P w K mg base ca fa).dp code d)).body.chk ["self", "other"] (defScope st16) (defBody st16) = true := by kernel_rfl
theorem fs16 : FnScope ["self", "other"] ["self", "other"] (defScope st16) := C8.fnScope_by (by decide +kernel)
theorem ck17 : (f17 ((mkS P w K mg base ca fa).dp code d)).body.chk ["self"] (defScope st17) (defBody st17) = true := by kernel_rfl
theorem fs17 : FnScope ["self"] ["self"] (defScope st17) := C8.fnScope_by (by decide +kernel)
theorem ck18 : (f18 ((mkS P w K mg base ca fa).dp code d)).body.chk ["self", "tells", "made", "came", "used"] (defScope st18) (defBody st18) = true := by kernel_rfl
theorem fs18 : FnScope ["self", "tells", "made", "came", "used"] ["self", "tells", "made", "came", "used"] (defScope st18) := C8.fnScope_by (by decide +kernel)
theorem ck19 : (f19 ((mkS P w K mg base ca fa).dp code d)).body.chk ["self", "other"] (defScope st19) (defBody st19) = true := by kernel_rfl
theorem fs19 : FnScope ["self", "other"] ["self", "other"] (defScope st19) := C8.fnScope_by (by decide +kernel)
theorem ck20 : (f20 ((mkS P w K mg base ca fa).dp code d)).body.chk ["self"] (defScope st20) (defBody st20) = true := by kernel_rfl
theorem fs20 : FnScope ["self"] ["self"] (defScope st20) := C8.fnScope_by (by decide +kernel)
end
end LawX
namespace LawX
open PySem PySem.Spec PyProof.Rows L2 VM
/-! ### _law_schema_right -/
section
variable (S : Sx)
def a0 : CS S := (sAsg (gNm 1) (cDsp (cpCons (cS [112, 108, 97, 99, 101]) (cIdx (cLst (aCons (cS [109, 97, 105, 110]) (aCons (cS [115, 105, 100, 101]) aNil))) (cCall 3 (aCons (cVar 0) (aCons (cI 2) aNil)))) (cpCons (cS [105, 110, 100, 101, 120]) (cB true) cpNil))))
def a1 : CS S := (sPar 2 3 (aCons (cDsp (cpCons (cS [116]) (cDsp (cpCons (cS [97]) (cVar 1) cpNil)) cpNil)) (aCons (cDsp (cpCons (cS [116]) (cDsp (cpCons (cS [97]) (cBt bDict (aCons (cLi (cVar 1)) aNil)) cpNil)) cpNil)) aNil)))
def a2 : CS S := (sPar 4 5 (aCons (cNew 0 (aCons (cVar 2) aNil)) (aCons (cCall 3 (aCons (cVar 0) (aCons (cI 4) aNil))) aNil)))
def a3 : CS S := (sIf (cCmp .Eq (cVar 5) (cI 0))
 (bCons (sAsg (gSuX (cVar 1) (cS [117, 110, 105, 113, 117, 101])) (cB true))
  bNil)
 (bCons (sIf (cCmp .Eq (cVar 5) (cI 1))
 (bCons (sAsg (gSuX (cVar 1) (cS [112, 108, 97, 99, 101])) (cS [122, 122]))
  bNil)
 (bCons (sIf (cCmp .Eq (cVar 5) (cI 2))
 (bCons (sAsg (gSuX (cIdx (cVar 2) (cS [116])) (cS [98])) (cDsp (cpCons (cS [112, 108, 97, 99, 101]) (cS [109, 97, 105, 110]) cpNil)))
  bNil)
 (bCons (sAsg (gSuX (cVar 2) (cS [117])) cD0)
  bNil))
  bNil))
  bNil))
def a4 : CS S := (sRet (cBop true (cEq false (cAtt (cVar 4) 11) (cVar 3)) [(cEq false (cVar 4) (cNew 0 (aCons (cVar 3) aNil))), (cEq false (cMth 12 (cVar 4) aNil) (cLst (aCons (cTup (aCons (cS [105, 110, 100, 101, 120]) (aCons (cS [116]) (aCons (cS [97]) aNil)))) aNil)))]))
theorem f6_body : (f6 S).body = bCons (a0 S) (bCons (a1 S) (bCons (a2 S) (bCons (a3 S) (bCons (a4 S) bNil)))) := rfl
end
def sPl : Tx := [112, 108, 97, 99, 101]
def sIx : Tx := [105, 110, 100, 101, 120]
def plc : Int → Tx
  | 0 => [109, 97, 105, 110]
  | _ => [115, 105, 100, 101]
def mk2 (p : Int) : List (Va × Va) := [(.str sPl, .str (plc p)), (.str sIx, .bl true)]
def ms : VO := .lst false [.str [109, 97, 105, 110], .str [115, 105, 100, 101]]
def T1 (p : Int) : Gh := [.dct false (mk2 p), ms, .lst false []]
def T2 (p : Int) : Gh := T1 p ++ [.dct false [(.str [116], .ref 6)], .dct false [(.str [97], .ref 2)], .dct false [(.str [116], .ref 8)], .dct false [(.str [97], .ref 10)], .lst false ((mk2 p).map tup2), .dct false (mk2 p)]
def T3 (p : Int) : Gh := T2 p ++ [.ins 0 [(11, .ref 12)], .dct false [(.str [116], .ref 13)], .dct false [(.str [97], .ref 14)], .dct false (mk2 p)]
def hd2 : Res Va → Option (Bool × VO × VO)
  | .ok (.bl b) (a :: c :: _) => some (b, a, c)
  | _ => none
theorem hd2_inv {r : Res Va} {b : Bool} {ns : List Int} {t : Int} (h : hd2 r = some (b, .lst true (ns.map Va.int), .lst false [.ref 0, .int t])) : ∃ T, r = .ok (.bl b) (H0 ns t T) := by
  unfold hd2 at h
  split at h
  · cases h; exact ⟨_, rfl⟩
  · cases h
section
variable (P : Program) (w : World) (K : PySem.W.Frag) (mg : Str → Option Value) (base : Heap) (ca fa : Nat → Addr) (ns : List Int) (t : Int)
theorem hcn (S : Sx) : code S 2 = some (numF S) := rfl
theorem hct (S : Sx) : code S 3 = some (takeF S 2) := rfl
theorem k1 (p : Int) : (a1 ((mkS P w K mg base ca fa).dp code 29)).ev [some (.ref 1), some (.ref 2), none, none, none, none] (H0 ns t (T1 p)) = .nx [some (.ref 1), some (.ref 2), some (.ref 5), some (.ref 7), none, none] (H0 ns t (T2 p)) := by kernel_rfl
theorem k2 (p : Int) : (cNew 0 (aCons (cVar 2) aNil) : CE ((mkS P w K mg base ca fa).dp code 29)).ev [some (.ref 1), some (.ref 2), some (.ref 5), some (.ref 7), none, none] (H0 ns t (T2 p)) = .ok (.ref 11) (H0 ns t (T3 p)) := by kernel_rfl
def fin6 (S : Sx) (v : Int) (G : Gh) : Res Va := toR ((bCons (a3 S) (bCons (a4 S) bNil)).ev [some (.ref 1), some (.ref 2), some (.ref 5), some (.ref 7), some (.ref 11), some (.int v)] G)
theorem k30 : hd2 (fin6 ((mkS P w K mg base ca fa).dp code 29) 0 (H0 ns t (T3 0 ++ [.lst false []]))) = some (true, .lst true (ns.map Va.int), .lst false [.ref 0, .int t]) := by kernel_rfl
theorem k31 : hd2 (fin6 ((mkS P w K mg base ca fa).dp code 29) 1 (H0 ns t (T3 0 ++ [.lst false []]))) = some (true, .lst true (ns.map Va.int), .lst false [.ref 0, .int t]) := by kernel_rfl
theorem k32 : hd2 (fin6 ((mkS P w K mg base ca fa).dp code 29) 2 (H0 ns t (T3 0 ++ [.lst false []]))) = some (true, .lst true (ns.map Va.int), .lst false [.ref 0, .int t]) := by kernel_rfl
theorem k33 : hd2 (fin6 ((mkS P w K mg base ca fa).dp code 29) 3 (H0 ns t (T3 0 ++ [.lst false []]))) = some (true, .lst true (ns.map Va.int), .lst false [.ref 0, .int t]) := by kernel_rfl
theorem k34 : hd2 (fin6 ((mkS P w K mg base ca fa).dp code 29) 0 (H0 ns t (T3 1 ++ [.lst false []]))) = some (true, .lst true (ns.map Va.int), .lst false [.ref 0, .int t]) := by kernel_rfl
theorem k35 : hd2 (fin6 ((mkS P w K mg base ca fa).dp code 29) 1 (H0 ns t (T3 1 ++ [.lst false []]))) = some (true, .lst true (ns.map Va.int), .lst false [.ref 0, .int t]) := by kernel_rfl
theorem k36 : hd2 (fin6 ((mkS P w K mg base ca fa).dp code 29) 2 (H0 ns t (T3 1 ++ [.lst false []]))) = some (true, .lst true (ns.map Va.int), .lst false [.ref 0, .int t]) := by kernel_rfl
theorem k37 : hd2 (fin6 ((mkS P w K mg base ca fa).dp code 29) 3 (H0 ns t (T3 1 ++ [.lst false []]))) = some (true, .lst true (ns.map Va.int), .lst false [.ref 0, .int t]) := by kernel_rfl
end
end LawX
namespace LawX
open PySem PySem.Spec PyProof.Rows L2 VM
def LL0 : Lo := [some (.ref 1), none, none, none, none, none]
def LL1 : Lo := [some (.ref 1), some (.ref 2), none, none, none, none]
def LL2 : Lo := [some (.ref 1), some (.ref 2), some (.ref 5), some (.ref 7), none, none]
def kA (r : Res Va) : SR := sx (((r.bind fun y G2 => lift (opIdx (.ref 3) y G2)).bind fun y G2 => Res.ok [(Va.str [112, 108, 97, 99, 101], y), (Va.str [105, 110, 100, 101, 120], Va.bl true)] G2).bind fun ps G1 => dspO 2 ps G1 G1[2]?) LL0 fun v G1 => sx (noex (gNmE 1 v LL0 G1)) LL0 fun L2 G2 => .nx L2 G2
theorem a0_call {S : Sx} {ns : List Int} {t : Int} : (a0 S).ev LL0 (H0 ns t []) = kA (S.call 3 [.ref 1, .int 2] (H0 ns t [.dct false [], ms])) := by kernel_rfl
theorem kA0 {ns : List Int} {t : Int} : kA (.ok (.int 0) (H0 ns t [.dct false [], ms, .lst false []])) = .nx LL1 (H0 ns t (T1 0)) := by kernel_rfl
theorem kA1 {ns : List Int} {t : Int} : kA (.ok (.int 1) (H0 ns t [.dct false [], ms, .lst false []])) = .nx LL1 (H0 ns t (T1 1)) := by kernel_rfl
def kB (r : Res Va) (f : Gh → Res Va) : SR := sx (r.bind fun x G1 => ((f G1).bind fun y G2 => (Res.ok [] G2).bind fun vs G3 => .ok (y :: vs) G3).bind fun ys G2 => .ok (x :: ys) G2) LL2 fun vs G1 => eP2 4 5 LL2 G1 (par2 vs)
theorem a2_call {S : Sx} {G : Gh} : (a2 S).ev LL2 G = kB ((cNew 0 (aCons (cVar 2) aNil) : CE S).ev LL2 G) (fun G1 => S.call 3 [.ref 1, .int 4] G1) := by kernel_rfl
end LawX
namespace LawX
open PySem PySem.Spec PyProof.Rows L2 VM
section
variable (P : Program) (w : World) (K : PySem.W.Frag) (mg : Str → Option Value) (base : Heap) (ca fa : Nat → Addr) {ns : List Int} {t : Int}
def hd3 (r : SR) : Option (Bool × VO × VO) := hd2 (toR r)
theorem kB_ok {G : Gh} {v : Int} {f : Gh → Res Va} {G' : Gh} (h : f G = .ok (.int v) G') : kB (.ok (.ref 11) G) f = .nx [some (.ref 1), some (.ref 2), some (.ref 5), some (.ref 7), some (.ref 11), some (.int v)] G' := by
  unfold kB
  rw [Res.bind_ok, h]
  rfl
theorem f6_call {S : Sx} {d : Nat} {G : Gh} : callF S code (d + 1) 6 [.ref 1] G = toR (sq ((a0 (S.dp code d)).ev LL0 G) fun L G => sq ((a1 (S.dp code d)).ev L G) fun L G => sq ((a2 (S.dp code d)).ev L G) fun L G => (bCons (a3 (S.dp code d)) (bCons (a4 (S.dp code d)) bNil)).ev L G) := by kernel_rfl
theorem v_schema (hl : ns.length ≤ 63) (h0 : 0 ≤ t) : ∃ T, callF (mkS P w K mg base ca fa) code 30 6 [.ref 1] (H0 ns t []) = .ok (.bl true) (H0 ns (t + 1 + 1) T) := by
  obtain ⟨p, p0, p1, e1⟩ := v_take (S := mkS P w K mg base ca fa) (d := 27) hcn hct hl h0 (T := [.dct false [], ms]) (many := 2) (by decide)
  obtain ⟨v, v0, v1, e2⟩ := v_take (S := mkS P w K mg base ca fa) (d := 27) hcn hct hl (t := t + 1) (by omega) (T := T3 p) (many := 4) (by decide)
  have hp : p = 0 ∨ p = 1 := by omega
  have hv : v = 0 ∨ v = 1 ∨ v = 2 ∨ v = 3 := by omega
  have b1 := k1 P w K mg base ca fa ns (t + 1) p
  have b2 := k2 P w K mg base ca fa ns (t + 1) p
  have hS : ((mkS P w K mg base ca fa).dp code 29).call = callF (mkS P w K mg base ca fa) code 29 := rfl
  have fin : ∀ v, (hd2 (fin6 ((mkS P w K mg base ca fa).dp code 29) v (H0 ns (t + 1 + 1) (T3 p ++ [.lst false []]))) = some (true, .lst true (ns.map Va.int), .lst false [.ref 0, .int (t + 1 + 1)])) → hd2 (toR ((bCons (a3 ((mkS P w K mg base ca fa).dp code 29)) (bCons (a4 ((mkS P w K mg base ca fa).dp code 29)) bNil)).ev [some (.ref 1), some (.ref 2), some (.ref 5), some (.ref 7), some (.ref 11), some (.int v)] (H0 ns (t + 1 + 1) (T3 p ++ [.lst false []])))) = some (true, .lst true (ns.map Va.int), .lst false [.ref 0, .int (t + 1 + 1)]) := fun v h => h
  have key : hd2 (fin6 ((mkS P w K mg base ca fa).dp code 29) v (H0 ns (t + 1 + 1) (T3 p ++ [.lst false []]))) = some (true, .lst true (ns.map Va.int), .lst false [.ref 0, .int (t + 1 + 1)]) := by
    rcases hp with rfl | rfl <;> rcases hv with rfl | rfl | rfl | rfl
    · exact k30 ..
    · exact k31 ..
    · exact k32 ..
    · exact k33 ..
    · exact k34 ..
    · exact k35 ..
    · exact k36 ..
    · exact k37 ..
  have last := hd2_inv (fin v key)
  generalize hSd : (mkS P w K mg base ca fa).dp code 29 = Sd at *
  have s0 : (a0 Sd).ev LL0 (H0 ns t []) = .nx LL1 (H0 ns (t + 1) (T1 p)) := by
    rw [a0_call, hS]
    have e1' : callF (mkS P w K mg base ca fa) code 29 3 [.ref 1, .int 2] (H0 ns t [.dct false [], ms]) = .ok (.int p) (H0 ns (t + 1) [.dct false [], ms, .lst false []]) := e1
    rw [e1']
    rcases hp with rfl | rfl
    · exact kA0
    · exact kA1
  have s2 : (a2 Sd).ev LL2 (H0 ns (t + 1) (T2 p)) = .nx [some (.ref 1), some (.ref 2), some (.ref 5), some (.ref 7), some (.ref 11), some (.int v)] (H0 ns (t + 1 + 1) (T3 p ++ [.lst false []])) := by
    rw [a2_call]
    have b2' : (cNew 0 (aCons (cVar 2) aNil) : CE Sd).ev LL2 (H0 ns (t + 1) (T2 p)) = .ok (.ref 11) (H0 ns (t + 1) (T3 p)) := b2
    rw [b2', hS]
    exact kB_ok e2
  have s1 : (a1 Sd).ev LL1 (H0 ns (t + 1) (T1 p)) = .nx LL2 (H0 ns (t + 1) (T2 p)) := b1
  rw [f6_call, hSd, s0, sq_nx, s1, sq_nx, s2, sq_nx]
  exact last
end
end LawX
namespace LawX
open PySem PySem.Spec PyProof.Rows L2 VM
structure Tb (S : Sx) : Prop where
  cd : S.cd = cdF
  gl : S.gl = ([("FAR", Va.int 1000000)] : List (Str × Va))
  nc : S.nc = 5
  isl : S.isl = [(0, 0), (0, 1), (0, 2), (0, 3), (0, 4), (1, 0), (1, 1), (1, 2), (1, 3), (1, 4), (2, 0), (2, 1), (2, 2), (2, 3), (2, 4), (3, 0), (3, 1), (3, 2), (3, 3), (3, 4), (4, 0), (4, 1), (4, 2), (4, 3), (4, 4)]
  sub : S.sub = fun a b => a == b
theorem ty_ii : tyIs "int" "int" = some true := by decide +kernel
theorem ty_ib : tyIs "int" "bool" = some false := by decide +kernel
theorem ty_tt : tyIs "tuple" "tuple" = some true := by decide +kernel
theorem ty_dd : tyIs "dict" "dict" = some true := by decide +kernel
theorem ty_ld : tyIs "list" "dict" = some false := by decide +kernel
section
variable {S : Sx} {d n : Nat} {G : Gh}
theorem isi_ii {x : Int} : (bIsiX : Bop S (.builtin "isinstance")).op [.int x, .ty "int"] G = some (.bl true, G) := by
  show ((tyIs "int" "int")).map (fun b => (Va.bl b, G)) = _
  rw [ty_ii]; rfl
theorem isi_ib {x : Int} : (bIsiX : Bop S (.builtin "isinstance")).op [.int x, .ty "bool"] G = some (.bl false, G) := by
  show ((tyIs "int" "bool")).map (fun b => (Va.bl b, G)) = _
  rw [ty_ib]; rfl
theorem isi_tt {x : List Va} : (bIsiX : Bop S (.builtin "isinstance")).op [.tup x, .ty "tuple"] G = some (.bl true, G) := by
  show ((tyIs "tuple" "tuple")).map (fun b => (Va.bl b, G)) = _
  rw [ty_tt]; rfl
theorem isi_dd {kvs : List (Va × Va)} (h : G[n]? = some (.dtu false kvs)) : (bIsiX : Bop S (.builtin "isinstance")).op [.ref n, .ty "dict"] G = some (.bl true, G) := by
  show isiO S (.ref n) (.ty "dict") G G[n]? = _
  rw [h]
  show ((tyIs "dict" "dict")).map (fun b => (Va.bl b, G)) = _
  rw [ty_dd]; rfl
theorem isi_ld {xs : List Va} (h : G[n]? = some (.lst false xs)) : (bIsiX : Bop S (.builtin "isinstance")).op [.ref n, .ty "dict"] G = some (.bl false, G) := by
  show isiO S (.ref n) (.ty "dict") G G[n]? = _
  rw [h]
  show ((tagO G[n]?).bind fun t => tagIs S t (.ty "dict")).map (fun b => (Va.bl b, G)) = _
  rw [h]
  show ((tyIs "list" "dict")).map (fun b => (Va.bl b, G)) = _
  rw [ty_ld]; rfl
/-- of an own class -/
theorem isi_own (T : Tb S) {a c : Nat} {fs : List (Nat × Va)} (h : G[n]? = some (.ins a fs)) (ha : a < 5) (hc : c < 5) : (bIsiX : Bop S (.builtin "isinstance")).op [.ref n, .cl c] G = some (.bl (decide (a = c)), G) := by
  show isiO S (.ref n) (.cl c) G G[n]? = _
  rw [h]
  show ((tagO G[n]?).bind fun t => tagIs S t (.cl c)).map (fun b => (Va.bl b, G)) = _
  rw [h]
  show ((if c < S.nc ∧ (a, c) ∈ S.isl then some (S.sub a c) else none)).map (fun b => (Va.bl b, G)) = _
  rw [T.nc, T.isl, T.sub]
  have hm : ∀ a, a < 5 → ∀ c, c < 5 → (a, c) ∈ ([(0, 0), (0, 1), (0, 2), (0, 3), (0, 4), (1, 0), (1, 1), (1, 2), (1, 3), (1, 4), (2, 0), (2, 1), (2, 2), (2, 3), (2, 4), (3, 0), (3, 1), (3, 2), (3, 3), (3, 4), (4, 0), (4, 1), (4, 2), (4, 3), (4, 4)] : List (Nat × Nat)) := by decide
  rw [if_pos ⟨hc, hm a ha c hc⟩]
  show some (Va.bl (a == c), G) = _
  by_cases e : a = c
  · subst e; simp
  · rw [decide_eq_false e, beq_eq_false_iff_ne.mpr e]
theorem isi_tc (T : Tb S) {xs : List Va} {c : Nat} (hc : c < 5) : (bIsiX : Bop S (.builtin "isinstance")).op [.tup xs, .cl c] G = some (.bl false, G) := by
  show ((if "tuple" ∈ tagL then (if c < S.nc then some false else none) else none)).map (fun b => (Va.bl b, G)) = _
  rw [T.nc, if_pos (by decide), if_pos hc]; rfl
theorem isi_ic (T : Tb S) {x : Int} {c : Nat} (hc : c < 5) : (bIsiX : Bop S (.builtin "isinstance")).op [.int x, .cl c] G = some (.bl false, G) := by
  show ((if "int" ∈ tagL then (if c < S.nc then some false else none) else none)).map (fun b => (Va.bl b, G)) = _
  rw [T.nc, if_pos (by decide), if_pos hc]; rfl
theorem eq_int {x y : Int} : cmpF .Eq (.int x) (.int y) G = some (.bl (decide (x = y)), G) := by
  show (eqD G (.int x) (.int y)).map (fun b => (Va.bl b, G)) = _
  simp [eqD, eqSc]
theorem ne_int {x y : Int} : cmpF .NotEq (.int x) (.int y) G = some (.bl (!decide (x = y)), G) := by
  show (eqD G (.int x) (.int y)).map (fun b => (Va.bl (!b), G)) = _
  simp [eqD, eqSc]
theorem v_whole {v a b : Int} (h1 : a ≤ v) (h2 : v ≤ b) : callF S code (d + 1) 0 [.int v, .int a, .int b] G = .ok (.bl true) G := by
  rw [callF_succ]
  simp [code, f0, startL, isi_ii, isi_ib, h1, h2]
theorem glv0 (T : Tb S) : glv S 0 = .int 1000000 := by unfold glv; rw [T.gl]; rfl
theorem glv_at {f : Nat → List Va → Gh → Res Va} {j : Nat} : glv (S.at f) j = glv S j := rfl
theorem v_frac {a b : Int} (h1 : 0 ≤ a) (h2 : 0 < b) (h3 : igcd a b = 1) : ∃ t, callF S code (d + 1) 1 [.tup [.int a, .int b]] G = .ok (.bl true) (G ++ t) := by
  rw [callF_succ]
  obtain ⟨t, ht⟩ := lcE_all (G := G) (G0 := G) (L := [some (.tup [.int a, .int b]), none]) (vs := [1]) (it := (cItV (cVar 0) : CI (S.dp code d)).ev) (g := (gNm 1 : CG (S.dp code d)).ev) (tt := (t0 : CT (S.dp code d)).ev)
    (te := (cBop true (cBi bIsiX (aCons (cVar 1) (aCons (cTy "int") aNil))) [(cNot (cBi bIsiX (aCons (cVar 1) (aCons (cTy "bool") aNil))))] : CE (S.dp code d)).ev) (src := .fix [.int a, .int b]) (xs := [.int a, .int b]) (f := fun _ => [.bl true]) (by simp [srcV, srcR]) (fun i o t => nxt_fix)
    (fun v acc t hv ha => by
      obtain ⟨x, rfl⟩ : ∃ x, v = .int x := by
        rcases List.mem_cons.mp hv with rfl | hv
        · exact ⟨_, rfl⟩
        · rcases List.mem_cons.mp hv with rfl | hv
          · exact ⟨_, rfl⟩
          · cases hv
      exact ⟨t, lcT_yes (t1 := t) (t2 := t) (t3 := t) (L2 := [some (.tup [.int a, .int b]), some (.int x)]) (by simp [wipeL]) rfl (by simp [isi_ii, isi_ib]) ha⟩) (fun _ _ => Nat.le_refl _) (by simp)
  refine ⟨.lst false [.bl true, .bl true] :: t, ?_⟩
  have hd : (G ++ VO.lst false [.bl true, .bl true] :: t)[G.length]? = some (.lst false ([true, true].map Va.bl)) := at_d
  have ha := all_op (S := S.dp code d) hd
  have ht' := ht
  simp only [List.flatMap_cons, List.flatMap_nil, List.cons_append, List.nil_append] at ht'
  simp [code, f1, startL, isi_tt, ne_int, ht', ha, h1, h2, h3, eq_int]
end
end LawX
namespace LawX
open PySem PySem.Spec PyProof.Rows L2 VM
def tmO (n : Int) : VO := .ins 2 [(0, .int 5), (3, .int n), (4, .int 7), (5, .tup [.int 1, .int (2 + n)])]
def keyV : Va := .tup [.str [97, 100, 100], .str [105, 110, 100, 101, 120], .str [116], .str [97]]
def chV (n : Int) : List Va := if n = 0 then [] else [keyV]
section
variable {S : Sx} {d n m : Nat} {G : Gh}
theorem igcd1 (x : Int) : igcd 1 x = 1 := by
  show ((Int.gcd 1 x : Nat) : Int) = 1
  rw [Int.gcd_one_left]; rfl
theorem v_terms (T : Tb S) {x : Int} (h0 : 0 ≤ x) (h1 : x ≤ 1) (hn : G[n]? = some (.ins 2 [])) : ∃ t', callF S code (d + 2) 13 [.ref n, .int 5, .int x, .int 7, .tup [.int 1, .int (2 + x)]] G = .ok .non ((G ++ t').set n (tmO x)) := by
  rw [callF_succ]
  obtain ⟨t1, e1⟩ := v_frac (S := S) (d := d) (G := G) (a := 1) (b := 2 + x) (by decide) (by omega) (igcd1 _)
  have hn' : (G ++ t1)[n]? = some (.ins 2 []) := by rw [at_old (List.getElem?_eq_some_iff.mp hn).1]; exact hn
  refine ⟨t1, ?_⟩
  have nf : ∀ f ∈ ([0, 3, 4, 5] : List Nat), f ∈ (S.cd 2).flds := by rw [T.cd]; decide
  have n1 := nf 0 (by decide)
  have n2 := nf 3 (by decide)
  have n3 := nf 4 (by decide)
  have n4 := nf 5 (by decide)
  have hlt := (List.getElem?_eq_some_iff.mp hn').1
  obtain ⟨m, hm⟩ : ∃ m, fuelF = m + 5 := ⟨999995, rfl⟩
  generalize G ++ t1 = G1 at *
  have hg : G1[n] = VO.ins 2 [] := by
    have z := hn'
    rw [List.getElem?_eq_getElem hlt] at z
    exact Option.some.inj z
  have c1 : x ≤ 1000000 := by omega
  have c2 : (1 : Int) < 2 + x := by omega
  have c3 : 2 + x ≤ 1000 := by omega
  have w1 : callF S code (d + 1) 0 [.int 5, .int 1, .int 1000000] G = .ok (.bl true) G := v_whole (by decide) (by decide)
  have w2 : callF S code (d + 1) 0 [.int x, .int 0, .int 1000000] G = .ok (.bl true) G := v_whole h0 c1
  have w3 : callF S code (d + 1) 0 [.int 7, .int 1, .int 1000000] G = .ok (.bl true) G := v_whole (by decide) (by decide)
  simp [code, f13, startL, w1, w2, w3, glv_at, glv0 T, e1, c2, c3, hm, forL_fix, hg, n1, n2, n3, n4, putN, hlt, tmO]
theorem v_enough (T : Tb S) {v : Va} (hn : G[n]? = some (.ins 3 [])) : callF S code (d + 1) 15 [.ref n, v] G = .ok .non (G.set n (.ins 3 [(10, v)])) := by
  rw [callF_succ]
  have n1 : 10 ∈ (S.cd 3).flds := by rw [T.cd]; decide
  have hlt := (List.getElem?_eq_some_iff.mp hn).1
  have hg : G[n] = VO.ins 3 [] := by
    have z := hn
    rw [List.getElem?_eq_getElem hlt] at z
    exact Option.some.inj z
  simp [code, f15, startL, hg, hlt, n1, putN]
theorem new_enough (T : Tb S) {v : Va} : newV (S.dp code (d + 1)) 3 [v] G = .ok (.ref G.length) (G ++ [.ins 3 [(10, v)]]) := by
  have hc : ((S.dp code (d + 1)).cd 3).init = some 15 := by show (S.cd 3).init = _; rw [T.cd]; rfl
  rw [newV_eq hc, call_dp, v_enough T at_d, Res.bind_ok, set_d, newB_non]
theorem tup_ref {fz : Bool} {xs : List Va} (h : G[m]? = some (.lst fz xs)) : (bTup : Bop S (.type "tuple")).op [.ref m] G = some (.tup xs, G) := by
  show (lstOf G[m]?).map (fun xs => (Va.tup xs, G)) = _
  rw [h]; rfl
theorem tup_tup {xs : List Va} : (bTup : Bop S (.type "tuple")).op [.tup xs] G = some (.tup xs, G) := rfl
theorem v_short (T : Tb S) {a b c v : Va} {xs : List Va} (hn : G[n]? = some (.ins 4 [])) (hm : (bTup : Bop (S.dp code d) (.type "tuple")).op [v] G = some (.tup xs, G)) : callF S code (d + 1) 18 [.ref n, v, a, b, c] G = .ok .non (G.set n (.ins 4 [(6, .tup xs), (7, a), (8, b), (9, c)])) := by
  rw [callF_succ]
  have nf : ∀ f ∈ ([6, 7, 8, 9] : List Nat), f ∈ (S.cd 4).flds := by rw [T.cd]; decide
  have n1 := nf 6 (by decide)
  have n2 := nf 7 (by decide)
  have n3 := nf 8 (by decide)
  have n4 := nf 9 (by decide)
  have hlt := (List.getElem?_eq_some_iff.mp hn).1
  have hg : G[n] = VO.ins 4 [] := by
    have z := hn
    rw [List.getElem?_eq_getElem hlt] at z
    exact Option.some.inj z
  simp [code, f18, startL, hg, hlt, n1, n2, n3, n4, putN, hm]
theorem new_short (T : Tb S) {a b c v : Va} {xs : List Va} (hm : (bTup : Bop (S.dp code d) (.type "tuple")).op [v] (G ++ [.ins 4 []]) = some (.tup xs, G ++ [.ins 4 []])) : newV (S.dp code (d + 1)) 4 [v, a, b, c] G = .ok (.ref G.length) (G ++ [.ins 4 [(6, .tup xs), (7, a), (8, b), (9, c)]]) := by
  have hc : ((S.dp code (d + 1)).cd 4).init = some 18 := by show (S.cd 4).init = _; rw [T.cd]; rfl
  rw [newV_eq hc, call_dp, v_short T at_d hm, Res.bind_ok, set_d, newB_non]
theorem new_terms (T : Tb S) {x : Int} (h0 : 0 ≤ x) (h1 : x ≤ 1) : ∃ t', newV (S.dp code (d + 2)) 2 [.int 5, .int x, .int 7, .tup [.int 1, .int (2 + x)]] G = .ok (.ref G.length) (G ++ tmO x :: t') := by
  have hc : ((S.dp code (d + 2)).cd 2).init = some 13 := by show (S.cd 2).init = _; rw [T.cd]; rfl
  obtain ⟨t', h⟩ := v_terms (S := S) (d := d) (G := G ++ [.ins 2 []]) (n := G.length) T h0 h1 at_d
  refine ⟨t', ?_⟩
  rw [newV_eq hc, call_dp, h, Res.bind_ok, List.append_assoc, List.singleton_append, set_d, newB_non]
theorem dict_dtu {kvs : List (Va × Va)} (h : G[m]? = some (.dtu false kvs)) (hl : kvs.length ≤ 1) : (bDict : Bop S (.type "dict")).op [.ref m] G = some (.ref G.length, G ++ [.dtu false kvs]) := by
  show dicO G G[m]? = _
  rw [h]
  show (if kvs.length ≤ 1 then some (Va.ref G.length, G ++ [.dtu false kvs]) else none) = _
  rw [if_pos hl]
/-- Woven(4, starts, chain) -/
theorem v_woven (T : Tb S) {a c : Nat} {x y : Int} {xs : List Va} (hn : G[n]? = some (.ins 1 [])) (hs : G[a]? = some (.dtu false [(keyV, .int x)])) (hc : G[c]? = some (.lst false xs)) (na : n ≠ a) (nc : n ≠ c) :
    callF S code (d + 1) 11 [.ref n, .int y, .ref a, .ref c] G = .ok .non ((G ++ [VO.dtu false [(keyV, .int x)]]).set n (.ins 1 [(0, .int y), (1, .ref G.length), (2, .tup xs)])) := by
  rw [callF_succ]
  have nf : ∀ f ∈ ([0, 1, 2] : List Nat), f ∈ (S.cd 1).flds := by rw [T.cd]; decide
  have n1 := nf 0 (by decide)
  have n2 := nf 1 (by decide)
  have n3 := nf 2 (by decide)
  have hlt := (List.getElem?_eq_some_iff.mp hn).1
  have hlc := (List.getElem?_eq_some_iff.mp hc).1
  have hla := (List.getElem?_eq_some_iff.mp hs).1
  have hg : G[n] = VO.ins 1 [] := by
    have z := hn
    rw [List.getElem?_eq_getElem hlt] at z
    exact Option.some.inj z
  have hs1 : (G.set n (.ins 1 [(0, .int y)]))[a]? = some (.dtu false [(keyV, .int x)]) := by rw [List.getElem?_set_ne na]; exact hs
  have dd := dict_dtu (S := S.dp code d) hs1 (Nat.le_refl 1)
  rw [List.length_set] at dd
  have tt : (bTup : Bop (S.dp code d) (.type "tuple")).op [.ref c] ((G.set n (.ins 1 [(0, .int y)]) ++ [VO.dtu false [(keyV, .int x)]]).set n (.ins 1 [(0, .int y), (1, .ref G.length)])) = some (.tup xs, (G.set n (.ins 1 [(0, .int y)]) ++ [VO.dtu false [(keyV, .int x)]]).set n (.ins 1 [(0, .int y), (1, .ref G.length)])) := tup_ref (by rw [List.getElem?_set_ne nc, List.getElem?_append_left (by rw [List.length_set]; exact hlc), List.getElem?_set_ne nc]; exact hc)
  have e1 : (G.set n (.ins 1 [(0, .int y)]) ++ [VO.dtu false [(keyV, .int x)]])[n]? = some (.ins 1 [(0, .int y)]) := by rw [List.getElem?_append_left (by rw [List.length_set]; exact hlt), List.getElem?_set_self hlt]
  generalize hG2 : G.set n (.ins 1 [(0, .int y)]) ++ [VO.dtu false [(keyV, .int x)]] = G2 at *
  have hl2 := (List.getElem?_eq_some_iff.mp e1).1
  have hg2 : G2[n] = VO.ins 1 [(0, .int y)] := by
    have z := e1
    rw [List.getElem?_eq_getElem hl2] at z
    exact Option.some.inj z
  have e3 : (G ++ [VO.dtu false [(keyV, .int x)]]).set n (.ins 1 [(0, .int y), (1, .ref G.length), (2, .tup xs)]) = (G2.set n (.ins 1 [(0, .int y), (1, .ref G.length)])).set n (.ins 1 [(0, .int y), (1, .ref G.length), (2, .tup xs)]) := by
    rw [← hG2, List.set_set, List.set_append_left _ _ hlt, List.set_append_left _ _ (by rw [List.length_set]; exact hlt), List.set_set]
  rw [e3]
  simp [code, f11, startL, hg, hlt, n1, n2, n3, putN, dd, hg2, hl2, tt]
end
end LawX
namespace LawX
open PySem PySem.Spec PyProof.Rows L2 VM
/-! ### _law_made -/
section
variable (S : Sx)
def m0 : CS S := (sPar 2 3 (aCons (cCall 3 (aCons (cVar 0) (aCons (cI 2) aNil))) (aCons (cLst (aCons (cTup (aCons (cCall 3 (aCons (cVar 0) (aCons (cI 2) aNil))) (aCons (cI 1) aNil))) (aCons (cTup (aCons (cI 3) (aCons (cI 1) aNil))) aNil))) aNil)))
def m1 : CS S := (sIf (cCmp .Eq (cVar 1) (cI 0))
 (bCons (sRet (cTup (aCons (cVar 3) (aCons (cTup (aCons (cTup (aCons (cVar 2) (aCons (cI 1) aNil))) aNil)) (aCons (cNew 3 (aCons (cTup (aCons (cVar 2) (aCons (cI 1) aNil))) aNil)) aNil)))))
  bNil)
 bNil)
def m2 : CS S := (sIf (cCmp .Eq (cVar 1) (cI 1))
 (bCons (sRet (cTup (aCons (cVar 3) (aCons (cTup (aCons (cBt bTup (aCons (cVar 3) aNil)) (aCons (cTup (aCons (cVar 2) (aCons (cI 1) aNil))) (aCons (cTup (aCons (cI 2) (aCons (cI 1) aNil))) (aCons (cTup (aCons (cI 5) (aCons (cI 2) aNil))) aNil))))) (aCons (cNew 4 (aCons (cVar 3) (aCons (cTup (aCons (cVar 2) (aCons (cI 1) aNil))) (aCons (cTup (aCons (cI 2) (aCons (cI 1) aNil))) (aCons (cTup (aCons (cI 5) (aCons (cI 2) aNil))) aNil))))) aNil)))))
  bNil)
 bNil)
def m3 : CS S := (sIf (cCmp .Eq (cVar 1) (cI 2))
 (bCons (sPar 4 5 (aCons (cDst (cpCons (cTup (aCons (cS [97, 100, 100]) (aCons (cS [105, 110, 100, 101, 120]) (aCons (cS [116]) (aCons (cS [97]) aNil))))) (cVar 2) cpNil)) (aCons (cBin .Mult (cLst (aCons (cTup (aCons (cS [97, 100, 100]) (aCons (cS [105, 110, 100, 101, 120]) (aCons (cS [116]) (aCons (cS [97]) aNil))))) aNil)) (cVar 2)) aNil)))
  (bCons (sRet (cTup (aCons (cVar 4) (aCons (cTup (aCons (cI 4) (aCons (cBt bDict (aCons (cVar 4) aNil)) (aCons (cBt bTup (aCons (cVar 5) aNil)) aNil)))) (aCons (cNew 1 (aCons (cI 4) (aCons (cVar 4) (aCons (cVar 5) aNil)))) aNil)))))
  bNil))
 bNil)
def m4 : CS S := (sRet (cTup (aCons (cVar 3) (aCons (cTup (aCons (cI 5) (aCons (cVar 2) (aCons (cI 7) (aCons (cTup (aCons (cI 1) (aCons (cBin .Add (cI 2) (cVar 2)) aNil))) aNil))))) (aCons (cNew 2 (aCons (cI 5) (aCons (cVar 2) (aCons (cI 7) (aCons (cTup (aCons (cI 1) (aCons (cBin .Add (cI 2) (cVar 2)) aNil))) aNil))))) aNil)))))
end
theorem f4_call {S : Sx} {d : Nat} {k : Va} {G : Gh} : callF S code (d + 1) 4 [.ref 1, k] G = toR (sq ((m0 (S.dp code d)).ev [some (.ref 1), some k, none, none, none, none] G) fun L G => sq ((m1 (S.dp code d)).ev L G) fun L G => sq ((m2 (S.dp code d)).ev L G) fun L G => sq ((m3 (S.dp code d)).ev L G) fun L G => sq ((m4 (S.dp code d)).ev L G) fun L G => .nx L G) := by kernel_rfl
def rowO (r : Int) : VO := .lst false [.tup [.int r, .int 1], .tup [.int 3, .int 1]]
def LM (k n : Int) (q : Nat) : Lo := [some (.ref 1), some (.int k), some (.int n), some (.ref q), none, none]
section
variable {S : Sx} {d : Nat} {G : Gh} {k n r : Int} {q : Nat}
theorem m0_ev {Ga Gb : Gh} {Lk : Option Va} (e1 : S.call 3 [.ref 1, .int 2] G = .ok (.int n) Ga) (e2 : S.call 3 [.ref 1, .int 2] Ga = .ok (.int r) Gb) : (m0 S).ev [some (.ref 1), Lk, none, none, none, none] G = .nx [some (.ref 1), Lk, some (.int n), some (.ref Gb.length), none, none] (Gb ++ [rowO r]) := by
  unfold m0
  simp [e1, e2, rowO]
theorem m1_no (h : k ≠ 0) : (m1 S).ev (LM k n q) G = .nx (LM k n q) G := by
  unfold m1 LM
  simp [eq_int, h]
theorem m2_no (h : k ≠ 1) : (m2 S).ev (LM k n q) G = .nx (LM k n q) G := by
  unfold m2 LM
  simp [eq_int, h]
theorem m3_no (h : k ≠ 2) : (m3 S).ev (LM k n q) G = .nx (LM k n q) G := by
  unfold m3 LM
  simp [eq_int, h]
theorem m1_yes (T : Tb S) : (m1 (S.dp code (d + 1))).ev (LM 0 n q) G = .rt (.tup [.ref q, .tup [.tup [.int n, .int 1]], .ref G.length]) (G ++ [.ins 3 [(10, .tup [.int n, .int 1])]]) := by
  unfold m1 LM
  simp [eq_int, new_enough T]
theorem m2_yes (T : Tb S) (hq : G[q]? = some (rowO r)) : (m2 (S.dp code (d + 1))).ev (LM 1 n q) G = .rt (.tup [.ref q, .tup [.tup [.tup [.int r, .int 1], .tup [.int 3, .int 1]], .tup [.int n, .int 1], .tup [.int 2, .int 1], .tup [.int 5, .int 2]], .ref G.length]) (G ++ [.ins 4 [(6, .tup [.tup [.int r, .int 1], .tup [.int 3, .int 1]]), (7, .tup [.int n, .int 1]), (8, .tup [.int 2, .int 1]), (9, .tup [.int 5, .int 2])]]) := by
  have h1 : (bTup : Bop (S.dp code (d + 1)) (.type "tuple")).op [.ref q] G = some (.tup [.tup [.int r, .int 1], .tup [.int 3, .int 1]], G) := tup_ref hq
  have h2 : (bTup : Bop (S.dp code d) (.type "tuple")).op [.ref q] (G ++ [.ins 4 []]) = some (.tup [.tup [.int r, .int 1], .tup [.int 3, .int 1]], G ++ [.ins 4 []]) := tup_ref (by rw [at_old (List.getElem?_eq_some_iff.mp hq).1]; exact hq)
  unfold m2 LM
  simp [eq_int, h1, new_short T h2]
theorem m4_ev (T : Tb S) (h0 : 0 ≤ n) (h1 : n ≤ 1) : ∃ t', (m4 (S.dp code (d + 2))).ev (LM k n q) G = .rt (.tup [.ref q, .tup [.int 5, .int n, .int 7, .tup [.int 1, .int (2 + n)]], .ref G.length]) (G ++ tmO n :: t') := by
  obtain ⟨t', h⟩ := new_terms (S := S) (d := d) (G := G) T h0 h1
  refine ⟨t', ?_⟩
  unfold m4 LM
  simp [h]
end
end LawX
namespace LawX
open PySem PySem.Spec PyProof.Rows L2 VM
def dtO (n : Int) : VO := .dtu false [(keyV, .int n)]
theorem key_ok : nkOk keyV = true := by kernel_rfl
theorem rep_ch {n : Int} (h0 : 0 ≤ n) (h1 : n ≤ 1) : (List.replicate n.toNat [keyV]).flatten = chV n := by
  have : n = 0 ∨ n = 1 := by omega
  rcases this with rfl | rfl <;> rfl
section
variable {S : Sx} {d : Nat} {G : Gh} {k n r : Int} {q : Nat}
theorem dst_one {a b : CE S} {L : Lo} {x : Va} (h1 : a.ev L (G ++ [.dtu false []]) = .ok keyV (G ++ [.dtu false []])) (h2 : b.ev L (G ++ [.dtu false []]) = .ok x (G ++ [.dtu false []])) : (cDst (cpCons a b cpNil)).ev L G = .ok (.ref G.length) (G ++ [.dtu false [(keyV, x)]]) := by
  show (eCp a b cpNil L (G ++ [.dtu false []])).bind (fun ps G1 => dspT G.length ps G1 G1[G.length]?) = _
  unfold eCp
  rw [h1, Res.bind_ok, h2, Res.bind_ok]
  show dspT G.length [(keyV, x)] (G ++ [.dtu false []]) (G ++ [VO.dtu false []])[G.length]? = _
  rw [at_d]
  show (if allT [(keyV, x)] = true ∧ [(keyV, x)].length ≤ 15 then Res.ok (Va.ref G.length) ((G ++ [VO.dtu false []]).set G.length (VO.dtu false (dMerge [] [(keyV, x)]))) else Res.no) = _
  have ha : allT [(keyV, x)] = true := by
    show (nkOk keyV && true) = true
    rw [key_ok]; rfl
  have hm : dMerge [] [(keyV, x)] = [(keyV, x)] := rfl
  rw [if_pos ⟨ha, by simp⟩, set_d, hm]
theorem mul_list {m : Nat} {xs : List Va} (h : G[m]? = some (.lst false xs)) (h0 : 0 ≤ n) (h1 : n ≤ 1) (hx : xs.length ≤ 1000) : binF .Mult (.ref m) (.int n) G = some (.ref G.length, G ++ [.lst false (List.replicate n.toNat xs).flatten]) := by
  show mulL (mlsO G[m]?) n G = _
  rw [h]
  show (if -(2 ^ 63) ≤ n ∧ n < 2 ^ 63 ∧ xs.length * n.toNat ≤ sizeLine then some (Va.ref G.length, G ++ [.lst false (List.replicate n.toNat xs).flatten]) else none) = _
  have hn : n.toNat ≤ 1 := by omega
  have : xs.length * n.toNat ≤ xs.length * 1 := Nat.mul_le_mul_left _ hn
  rw [if_pos ⟨by omega, by omega, by rw [sizeLine_eq]; omega⟩]
theorem new_woven (T : Tb S) {a c : Nat} {x y : Int} {xs : List Va} (hs : G[a]? = some (.dtu false [(keyV, .int x)])) (hc : G[c]? = some (.lst false xs)) :
    newV (S.dp code (d + 1)) 1 [.int y, .ref a, .ref c] G = .ok (.ref G.length) (G ++ [.ins 1 [(0, .int y), (1, .ref (G.length + 1)), (2, .tup xs)], .dtu false [(keyV, .int x)]]) := by
  have hi : ((S.dp code (d + 1)).cd 1).init = some 11 := by show (S.cd 1).init = _; rw [T.cd]; rfl
  have la := (List.getElem?_eq_some_iff.mp hs).1
  have lc := (List.getElem?_eq_some_iff.mp hc).1
  have h := v_woven (S := S) (d := d) (G := G ++ [.ins 1 []]) (n := G.length) (y := y) T at_d (by rw [at_old la]; exact hs) (by rw [at_old lc]; exact hc) (by omega) (by omega)
  rw [newV_eq hi, call_dp, h, Res.bind_ok, newB_non]
  have e : G ++ [VO.ins 1 []] ++ [VO.dtu false [(keyV, Va.int x)]] = G ++ VO.ins 1 [] :: [VO.dtu false [(keyV, Va.int x)]] := by simp
  have e2 : (G ++ [VO.ins 1 []]).length = G.length + 1 := by simp
  rw [e, set_d, e2]
theorem m3_yes (T : Tb S) (h0 : 0 ≤ n) (h1 : n ≤ 1) : (m3 (S.dp code (d + 1))).ev (LM 2 n q) G = .rt (.tup [.ref G.length, .tup [.int 4, .ref (G.length + 3), .tup (chV n)], .ref (G.length + 4)]) (G ++ [dtO n, .lst false [keyV], .lst false (chV n), dtO n, .ins 1 [(0, .int 4), (1, .ref (G.length + 5)), (2, .tup (chV n))], dtO n]) := by
  have a1 : (cTup (aCons (cS [97, 100, 100]) (aCons (cS [105, 110, 100, 101, 120]) (aCons (cS [116]) (aCons (cS [97]) aNil)))) : CE (S.dp code (d + 1))).ev (LM 2 n q) (G ++ [.dtu false []]) = .ok keyV (G ++ [.dtu false []]) := by simp [keyV]
  have a2 : (cVar 2 : CE (S.dp code (d + 1))).ev (LM 2 n q) (G ++ [.dtu false []]) = .ok (.int n) (G ++ [.dtu false []]) := rfl
  have s1 := dst_one a1 a2
  have a3 : (cTup (aCons (cS [97, 100, 100]) (aCons (cS [105, 110, 100, 101, 120]) (aCons (cS [116]) (aCons (cS [97]) aNil)))) : CE (S.dp code (d + 1))).ev (LM 2 n q) (G ++ [dtO n]) = .ok keyV (G ++ [dtO n]) := by simp [keyV]
  have l1 : (G ++ [dtO n, .lst false [keyV]])[G.length + 1]? = some (.lst false [keyV]) := by simp
  have mu := mul_list (n := n) l1 h0 h1 (by simp)
  rw [rep_ch h0 h1] at mu
  have e2 : (G ++ [dtO n, .lst false [keyV]]).length = G.length + 2 := by simp
  rw [e2] at mu
  have e3 : G ++ [dtO n, .lst false [keyV]] ++ [VO.lst false (chV n)] = G ++ [dtO n, .lst false [keyV], .lst false (chV n)] := by simp
  rw [e3] at mu
  have g0 : (G ++ [dtO n, .lst false [keyV], .lst false (chV n)])[G.length]? = some (.dtu false [(keyV, .int n)]) := by simp [dtO]
  have g2 : (G ++ [dtO n, .lst false [keyV], .lst false (chV n)])[G.length + 2]? = some (.lst false (chV n)) := by simp
  have dd := dict_dtu (S := S.dp code (d + 1)) g0 (Nat.le_refl 1)
  have lg : (G ++ [dtO n, .lst false [keyV], .lst false (chV n)]).length = G.length + 3 := by simp
  rw [lg] at dd
  generalize hG3 : G ++ [dtO n, .lst false [keyV], .lst false (chV n)] = G3 at *
  have g02 : (G3 ++ [VO.dtu false [(keyV, .int n)]])[G.length]? = some (.dtu false [(keyV, .int n)]) := by rw [at_old (by omega)]; exact g0
  have g22 : (G3 ++ [VO.dtu false [(keyV, .int n)]])[G.length + 2]? = some (.lst false (chV n)) := by rw [at_old (by omega)]; exact g2
  have tt := tup_ref (S := S.dp code (d + 1)) g22
  have nw := new_woven (d := d) (y := 4) T g02 g22
  have l4 : (G3 ++ [VO.dtu false [(keyV, .int n)]]).length = G.length + 4 := by simp [lg]
  rw [l4] at nw
  have fin : (G ++ [dtO n, .lst false [keyV], .lst false (chV n), dtO n, .ins 1 [(0, .int 4), (1, .ref (G.length + 5)), (2, .tup (chV n))], dtO n]) = G3 ++ [VO.dtu false [(keyV, .int n)]] ++ [.ins 1 [(0, .int 4), (1, .ref (G.length + 5)), (2, .tup (chV n))], .dtu false [(keyV, .int n)]] := by
    rw [← hG3]; simp [dtO]
  rw [fin]
  have a4 : (cLst (aCons (cTup (aCons (cS [97, 100, 100]) (aCons (cS [105, 110, 100, 101, 120]) (aCons (cS [116]) (aCons (cS [97]) aNil))))) aNil) : CE (S.dp code (d + 1))).ev (LM 2 n q) (G ++ [dtO n]) = .ok (.ref (G.length + 1)) (G ++ [dtO n, .lst false [keyV]]) := by
    simp [keyV]
  have s1' : (cDst (cpCons (cTup (aCons (cS [97, 100, 100]) (aCons (cS [105, 110, 100, 101, 120]) (aCons (cS [116]) (aCons (cS [97]) aNil))))) (cVar 2) cpNil) : CE (S.dp code (d + 1))).ev (LM 2 n q) G = .ok (.ref G.length) (G ++ [dtO n]) := s1
  have c2 : cmpF .Eq (.int 2) (.int 2) G = some (.bl true, G) := by rw [eq_int]; rfl
  unfold m3
  generalize (cDst (cpCons (cTup (aCons (cS [97, 100, 100]) (aCons (cS [105, 110, 100, 101, 120]) (aCons (cS [116]) (aCons (cS [97]) aNil))))) (cVar 2) cpNil) : CE (S.dp code (d + 1))) = ca1 at *
  generalize (cLst (aCons (cTup (aCons (cS [97, 100, 100]) (aCons (cS [105, 110, 100, 101, 120]) (aCons (cS [116]) (aCons (cS [97]) aNil))))) aNil) : CE (S.dp code (d + 1))) = ca2 at *
  unfold LM at *
  simp [c2, s1', a4, mu, dd, tt, nw]
end
end LawX
namespace LawX
open PySem PySem.Spec PyProof.Rows L2 VM
def bit (n : Int) : Prop := n = 0 ∨ n = 1
def nl : VO → Bool
  | .lst _ _ => false
  | _ => true
def tp (a b : Int) : Va := .tup [.int a, .int b]
def enO (n : Int) : VO := .ins 3 [(10, tp n 1)]
def shO (n r : Int) : VO := .ins 4 [(6, .tup [tp r 1, tp 3 1]), (7, tp n 1), (8, tp 2 1), (9, tp 5 2)]
def wvO (n : Int) (j : Nat) : VO := .ins 1 [(0, .int 4), (1, .ref j), (2, .tup (chV n))]
def du0 (n : Int) : Va := .tup [tp n 1]
def du1 (n r : Int) : Va := .tup [.tup [tp r 1, tp 3 1], tp n 1, tp 2 1, tp 5 2]
def du2 (n : Int) (j : Nat) : Va := .tup [.int 4, .ref j, .tup (chV n)]
def du3 (n : Int) : Va := .tup [.int 5, .int n, .int 7, tp 1 (2 + n)]
inductive RowOk (F : Nat → Option VO) : Int → Va → Va → Int → Int → Prop
  | r0 {n : Int} {i : Nat} : bit n → F i = some (enO n) → RowOk F 0 (du0 n) (.ref i) n 0
  | r1 {n r : Int} {i : Nat} : bit n → bit r → F i = some (shO n r) → RowOk F 1 (du1 n r) (.ref i) n r
  | r2 {n : Int} {i j j' : Nat} : bit n → F i = some (wvO n j') → F j = some (dtO n) → F j' = some (dtO n) → RowOk F 2 (du2 n j) (.ref i) n 0
  | r3 {n : Int} {i : Nat} : bit n → F i = some (tmO n) → RowOk F 3 (du3 n) (.ref i) n 0
theorem RowOk.mono {F F' : Nat → Option VO} (h : ∀ x o, nl o = true → F x = some o → F' x = some o) {k : Int} {a b : Va} {n r : Int} (x : RowOk F k a b n r) : RowOk F' k a b n r := by
  cases x with
  | r0 hb e => exact .r0 hb (h _ _ rfl e)
  | r1 hb hr e => exact .r1 hb hr (h _ _ rfl e)
  | r2 hb e e1 e2 => exact .r2 hb (h _ _ rfl e) (h _ _ rfl e1) (h _ _ rfl e2)
  | r3 hb e => exact .r3 hb (h _ _ rfl e)
def PartOk (G : Gh) (q : Nat) : Prop := (∃ xs, G[q]? = some (.lst false xs) ∧ xs.length = 2) ∨ ∃ n, G[q]? = some (dtO n)
def wo (q : Nat) (G : Gh) : Nat → Option VO := fun x => if x = q then none else G[x]?
theorem wo_at {q x : Nat} {G : Gh} (h : x ≠ q) : wo q G x = G[x]? := if_neg h
section
variable {S : Sx} {d : Nat} {ns : List Int} {t k : Int} {T : Gh}
theorem h0_app {T' : Gh} : H0 ns t T ++ T' = H0 ns t (T ++ T') := rfl
theorem h0_len : (H0 ns t T).length = T.length + 2 := rfl
theorem v_made (Tt : Tb S) (hl : ns.length ≤ 63) (h0 : 0 ≤ t) (k0 : 0 ≤ k) (k1 : k < 4) : ∃ q due i n r T', callF S code (d + 4) 4 [.ref 1, .int k] (H0 ns t T) = .ok (.tup [.ref q, due, .ref i]) (H0 ns (t + 1 + 1) T') ∧ (∀ x, x < T.length → T'[x]? = T[x]?) ∧
    RowOk (wo q (H0 ns (t + 1 + 1) T')) k due (.ref i) n r ∧ PartOk (H0 ns (t + 1 + 1) T') q ∧ T.length + 2 ≤ q ∧ q < (H0 ns (t + 1 + 1) T').length := by
  obtain ⟨n, n0, n1, e1⟩ := v_take (S := S) (d := d + 1) hcn hct hl h0 (T := T) (many := 2) (by decide)
  obtain ⟨r, r0, r1, e2⟩ := v_take (S := S) (d := d + 1) hcn hct hl (t := t + 1) (by omega) (T := T ++ [.lst false []]) (many := 2) (by decide)
  have bn : bit n := by unfold bit; omega
  have br : bit r := by unfold bit; omega
  have hG1 : H0 ns (t + 1 + 1) (T ++ [.lst false []] ++ [.lst false []]) = H0 ns (t + 1 + 1) T ++ [.lst false [], .lst false []] := by rw [h0_app]; simp
  have lG1 : (H0 ns (t + 1 + 1) (T ++ [.lst false []] ++ [.lst false []])).length = T.length + 4 := by rw [h0_len]; simp
  have hS : (S.dp code (d + 3)).call = callF S code (d + 3) := rfl
  have s0 := m0_ev (S := S.dp code (d + 3)) (Lk := some (.int k)) (by rw [hS]; exact e1) (by rw [hS]; exact e2)
  -- what lies behind the old heap
  have keep : ∀ W : Gh, (∀ x, x < T.length → (T ++ [VO.lst false []] ++ [.lst false []] ++ rowO r :: W)[x]? = T[x]?) := fun W x hx => by
    rw [List.append_assoc, List.append_assoc, List.getElem?_append_left hx]
  have fin : ∀ W : Gh, H0 ns (t + 1 + 1) (T ++ [.lst false []] ++ [.lst false []]) ++ [rowO r] ++ W = H0 ns (t + 1 + 1) (T ++ [.lst false []] ++ [.lst false []] ++ rowO r :: W) := fun W => by
    rw [h0_app, h0_app, List.append_assoc _ [rowO r] W]; rfl
  have rowAt : ∀ W : Gh, (H0 ns (t + 1 + 1) (T ++ [.lst false []] ++ [.lst false []] ++ rowO r :: W))[T.length + 4]? = some (rowO r) := fun W => by
    rw [← fin, List.append_assoc, List.getElem?_append_right (by omega), lG1]; simp
  have wAt : ∀ (W : Gh) (j : Nat), (H0 ns (t + 1 + 1) (T ++ [.lst false []] ++ [.lst false []] ++ rowO r :: W))[T.length + 5 + j]? = W[j]? := fun W j => by
    rw [← fin, List.getElem?_append_right (by rw [List.length_append, lG1]; simp <;> omega), List.length_append, lG1]
    congr 1; simp <;> omega
  have lW : ∀ W : Gh, (H0 ns (t + 1 + 1) (T ++ [.lst false []] ++ [.lst false []] ++ rowO r :: W)).length = T.length + 5 + W.length := fun W => by
    rw [h0_len]; simp; omega
  have l5 : (H0 ns (t + 1 + 1) (T ++ [.lst false []] ++ [.lst false []]) ++ [rowO r]).length = T.length + 5 := by rw [List.length_append, lG1]; rfl
  have at4 : (H0 ns (t + 1 + 1) (T ++ [.lst false []] ++ [.lst false []]) ++ [rowO r])[T.length + 4]? = some (rowO r) := by
    rw [List.getElem?_append_right (by omega), lG1]; simp
  have row : ∀ W : Gh, PartOk (H0 ns (t + 1 + 1) (T ++ [.lst false []] ++ [.lst false []] ++ rowO r :: W)) (T.length + 4) := fun W => .inl ⟨_, rowAt W, rfl⟩
  have start : callF S code (d + 4) 4 [.ref 1, .int k] (H0 ns t T) = toR (sq ((m1 (S.dp code (d + 3))).ev (LM k n (T.length + 4)) (H0 ns (t + 1 + 1) (T ++ [.lst false []] ++ [.lst false []]) ++ [rowO r])) fun L G => sq ((m2 (S.dp code (d + 3))).ev L G) fun L G => sq ((m3 (S.dp code (d + 3))).ev L G) fun L G => sq ((m4 (S.dp code (d + 3))).ev L G) fun L G => .nx L G) := by
    rw [f4_call, s0, sq_nx, lG1]; rfl
  have hk : k = 0 ∨ k = 1 ∨ k = 2 ∨ k = 3 := by omega
  generalize hGb : H0 ns (t + 1 + 1) (T ++ [.lst false []] ++ [.lst false []]) ++ [rowO r] = Gb at *
  rcases hk with rfl | rfl | rfl | rfl
  · have y := m1_yes (S := S) (d := d + 2) (n := n) (q := T.length + 4) (G := Gb) Tt
    rw [start, y, sq_rt, toR_rt, fin, l5]
    refine ⟨_, _, _, n, 0, _, rfl, keep _, ?_, row _, by omega, by rw [lW]; omega⟩
    refine .r0 bn ?_
    rw [wo_at (by omega), wAt _ 0]; rfl
  · have y := m2_yes (S := S) (d := d + 2) (n := n) (r := r) (q := T.length + 4) (G := Gb) Tt at4
    rw [start, m1_no (by decide), sq_nx, y, sq_rt, toR_rt, fin, l5]
    refine ⟨_, _, _, n, r, _, rfl, keep _, ?_, row _, by omega, by rw [lW]; omega⟩
    refine .r1 bn br ?_
    rw [wo_at (by omega), wAt _ 0]; rfl
  · have y := m3_yes (S := S) (d := d + 2) (n := n) (q := T.length + 4) (G := Gb) Tt n0 (by omega)
    rw [start, m1_no (by decide), sq_nx, m2_no (by decide), sq_nx, y, sq_rt, toR_rt, fin, l5]
    refine ⟨_, _, _, n, 0, _, rfl, keep _, ?_, .inr ⟨n, ?_⟩, by omega, by rw [lW]; simp⟩
    · refine .r2 (j' := T.length + 5 + 5) bn ?_ ?_ ?_
      · rw [wo_at (by omega), wAt _ 4]; rfl
      · rw [wo_at (by omega), wAt _ 3]; rfl
      · rw [wo_at (by omega), wAt _ 5]; rfl
    · have := wAt [dtO n, .lst false [keyV], .lst false (chV n), dtO n, .ins 1 [(0, .int 4), (1, .ref (T.length + 5 + 5)), (2, .tup (chV n))], dtO n] 0
      rw [Nat.add_zero] at this
      rw [this]; rfl
  · obtain ⟨t', y⟩ := m4_ev (S := S) (d := d + 1) (k := 3) (n := n) (q := T.length + 4) (G := Gb) Tt n0 (by omega)
    rw [start, m1_no (by decide), sq_nx, m2_no (by decide), sq_nx, m3_no (by decide), sq_nx, y, sq_rt, toR_rt, fin, l5]
    refine ⟨_, _, _, n, 0, _, rfl, keep _, ?_, row _, by omega, by rw [lW]; omega⟩
    refine .r3 bn ?_
    rw [wo_at (by omega), wAt _ 0]; rfl
end
end LawX
namespace LawX
open PySem PySem.Spec PyProof.Rows L2 VM
@[simp] theorem cEq_ev {S : Sx} {neg : Bool} {a b : CE S} {L : Lo} {G : Gh} : (cEq neg a b).ev L G = (a.ev L G).bind fun x G1 => (b.ev L G1).bind fun y G2 => noex (eqR S neg x y G2) := rfl
@[simp] theorem cEq_tv {S : Sx} {neg : Bool} {a b : CE S} {L : Lo} {G : Gh} : (cEq neg a b).tv L G = ((a.ev L G).bind fun x G1 => (b.ev L G1).bind fun y G2 => noex (eqR S neg x y G2)).bind (tr S) := rfl
section
variable {S : Sx} {d : Nat} {G : Gh} {n n' r r' : Int}
theorem eqE_dtu {k a b : Nat} (h : G[a]? = some (dtO n)) (h' : G[b]? = some (dtO n')) : eqE (k + 2) G (.ref a) (.ref b) = some (decide (n = n')) := by
  show (if sameR (.ref a) (.ref b) = true then some true else orE (eqD G (.ref a) (.ref b)) (eqY (eqE (k + 1) G) G (.ref a) (.ref b))) = _
  by_cases e : a = b
  · subst e
    rw [h] at h'
    have : n = n' := by
      have z := Option.some.inj h'
      unfold dtO at z
      injection z with z1 z2
      simpa using z2
    rw [if_pos (by simp [sameR]), decide_eq_true this]
  · rw [if_neg (by simpa [sameR] using e)]
    have hd : eqD G (.ref a) (.ref b) = none := by
      show eqDD (((lstO G[a]?).bind (mapO (toD 29 G))).map PyData.list) _ = none
      rw [h]; rfl
    rw [hd]
    show eqO (eqE (k + 1) G) G[a]? G[b]? = _
    rw [h, h']
    show ((eqE (k + 1) G (.int n) (.int n')).bind fun b => (some true).map fun c => b && c) = _
    show ((some (decide (n = n'))).bind fun b => (some true).map fun c => b && c) = _
    simp
theorem eqE_int {k : Nat} {x y : Int} : eqE (k + 1) G (.int x) (.int y) = some (decide (x = y)) := rfl
theorem eqE_ch {k : Nat} (h : bit n) (h' : bit n') : eqE (k + 1) G (.tup (chV n)) (.tup (chV n')) = some (decide (n = n')) := by
  rcases h with rfl | rfl <;> rcases h' with rfl | rfl <;> kernel_rfl
theorem eqT_du2 {j j' : Nat} (h : bit n) (h' : bit n') (e : G[j]? = some (dtO n)) (e' : G[j']? = some (dtO n')) : VM.eqT (eqE 20 G) [.int 4, .ref j, .tup (chV n)] [.int 4, .ref j', .tup (chV n')] = some (decide (n = n')) := by
  unfold VM.eqT
  rw [eqE_int]
  show (if decide True = true then VM.eqT (eqE 20 G) [.ref j, .tup (chV n)] [.ref j', .tup (chV n')] else some false) = _
  rw [if_pos (by decide)]
  unfold VM.eqT
  rw [eqE_dtu e e']
  show (if decide (n = n') = true then VM.eqT (eqE 20 G) [.tup (chV n)] [.tup (chV n')] else some false) = _
  by_cases q : n = n'
  · rw [decide_eq_true q, if_pos rfl]
    unfold VM.eqT
    rw [eqE_ch h h', decide_eq_true q]
    rfl
  · rw [decide_eq_false q, if_neg (by decide)]
theorem toD_du2 {j : Nat} (e : G[j]? = some (dtO n)) : toD 30 G (du2 n' j) = none := by
  have h : toD 29 G (.ref j) = none := by
    show ((lstO G[j]?).bind (mapO (toD 28 G))).map PyData.list = none
    rw [e]; rfl
  show (mapO (toD 29 G) [.int 4, .ref j, .tup (chV n')]).map PyData.tuple = none
  have : mapO (toD 29 G) [.int 4, .ref j, .tup (chV n')] = none := by
    cases q : mapO (toD 29 G) [.int 4, .ref j, .tup (chV n')] with
    | none => rfl
    | some ds =>
      obtain ⟨_, ds, _, h2, _⟩ := mapO_cons q
      obtain ⟨_, _, h3, _, _⟩ := mapO_cons h2
      rw [h] at h3; cases h3
  rw [this]; rfl
theorem eq_du2 {j j' : Nat} (h : bit n) (h' : bit n') (e : G[j]? = some (dtO n)) (e' : G[j']? = some (dtO n')) (neg : Bool) : eqR S neg (du2 n j) (du2 n' j') G = .ok (.bl (neg ^^ decide (n = n'))) G := by
  have hd : eqD G (du2 n j) (du2 n' j') = none := by
    show eqDD (toD 30 G (du2 n j)) _ = none
    rw [toD_du2 e]; rfl
  have ht := eqT_du2 h h' e e'
  cases neg with
  | false =>
    show lift ((orE (eqD G (du2 n j) (du2 n' j')) (VM.eqT (eqE 20 G) [.int 4, .ref j, .tup (chV n)] [.int 4, .ref j', .tup (chV n')])).map fun b => (Va.bl b, G)) = _
    rw [hd, ht]; simp [orE, lift]
  | true =>
    show lift ((orE (eqD G (du2 n j) (du2 n' j')) (VM.eqT (eqE 20 G) [.int 4, .ref j, .tup (chV n)] [.int 4, .ref j', .tup (chV n')])).map fun b => (Va.bl (!b), G)) = _
    rw [hd, ht]; simp [orE, lift]
theorem eq_du0 (h : bit n) (h' : bit n') (neg : Bool) : eqR S neg (du0 n) (du0 n') G = .ok (.bl (neg ^^ decide (n = n'))) G := by
  rcases h with rfl | rfl <;> rcases h' with rfl | rfl <;> cases neg <;> kernel_rfl
theorem eq_tp (h : bit n) (h' : bit n') (neg : Bool) : eqR S neg (tp n 1) (tp n' 1) G = .ok (.bl (neg ^^ decide (n = n'))) G := by
  rcases h with rfl | rfl <;> rcases h' with rfl | rfl <;> cases neg <;> kernel_rfl
theorem eq_du3 (h : bit n) (h' : bit n') (neg : Bool) : eqR S neg (du3 n) (du3 n') G = .ok (.bl (neg ^^ decide (n = n'))) G := by
  rcases h with rfl | rfl <;> rcases h' with rfl | rfl <;> cases neg <;> kernel_rfl
theorem eq_t3 (h : bit n) (h' : bit n') : eqR S true (.tup [.int 5, .int n, .int 7]) (.tup [.int 5, .int n', .int 7]) G = .ok (.bl (!decide (n = n'))) G := by
  rcases h with rfl | rfl <;> rcases h' with rfl | rfl <;> kernel_rfl
theorem eq_d3 (h : bit n) (h' : bit n') : eqR S false (tp 1 (2 + n)) (tp 1 (2 + n')) G = .ok (.bl (decide (n = n'))) G := by
  rcases h with rfl | rfl <;> rcases h' with rfl | rfl <;> kernel_rfl
theorem eq_du1 (h : bit n) (h' : bit n') (k : bit r) (k' : bit r') (neg : Bool) : eqR S neg (du1 n r) (du1 n' r') G = .ok (.bl (neg ^^ decide (n = n' ∧ r = r'))) G := by
  rcases h with rfl | rfl <;> rcases h' with rfl | rfl <;> rcases k with rfl | rfl <;> rcases k' with rfl | rfl <;> cases neg <;> kernel_rfl
theorem eq_s3 (h : bit n) (h' : bit n') (k : bit r) (k' : bit r') : eqR S true (.tup [.tup [tp r 1, tp 3 1], tp n 1, tp 2 1]) (.tup [.tup [tp r' 1, tp 3 1], tp n' 1, tp 2 1]) G = .ok (.bl (!decide (n = n' ∧ r = r'))) G := by
  rcases h with rfl | rfl <;> rcases h' with rfl | rfl <;> rcases k with rfl | rfl <;> rcases k' with rfl | rfl <;> kernel_rfl
theorem eq_52 : eqR S false (tp 5 2) (tp 5 2) G = .ok (.bl true) G := by kernel_rfl
/-! ### the own == -/
theorem v_eq0 (T : Tb S) {i i' : Nat} (h : bit n) (h' : bit n') (e : G[i]? = some (enO n)) (e' : G[i']? = some (enO n')) : callF S code (d + 1) 16 [.ref i, .ref i'] G = .ok (.bl (decide (n = n'))) G := by
  have is := isi_own (S := S.dp code d) ⟨T.cd, T.gl, T.nc, T.isl, T.sub⟩ e' (a := 3) (c := 3) (by decide) (by decide)
  have q := eq_tp (S := S.dp code d) (G := G) h h' false
  unfold enO at e e'
  rw [callF_succ]
  simp [code, f16, startL, is, e, e', List.lookup, q]
theorem v_eq1 (T : Tb S) {i i' : Nat} (h : bit n) (h' : bit n') (k : bit r) (k' : bit r') (e : G[i]? = some (shO n r)) (e' : G[i']? = some (shO n' r')) : callF S code (d + 1) 19 [.ref i, .ref i'] G = .ok (.bl (decide (n = n' ∧ r = r'))) G := by
  have is := isi_own (S := S.dp code d) ⟨T.cd, T.gl, T.nc, T.isl, T.sub⟩ e' (a := 4) (c := 4) (by decide) (by decide)
  have q := eq_s3 (S := S.dp code d) (G := G) h h' k k'
  have q2 := eq_52 (S := S.dp code d) (G := G)
  unfold shO at e e'
  rw [callF_succ]
  by_cases z : n = n' ∧ r = r'
  · rw [decide_eq_true z] at q ⊢
    simp [code, f19, startL, is, e, e', List.lookup, q, q2]
  · rw [decide_eq_false z] at q ⊢
    simp [code, f19, startL, is, e, e', List.lookup, q, q2]
theorem v_eq2 (T : Tb S) {i i' j j' : Nat} (h : bit n) (h' : bit n') (e : G[i]? = some (wvO n j)) (e' : G[i']? = some (wvO n' j')) (f : G[j]? = some (dtO n)) (f' : G[j']? = some (dtO n')) : callF S code (d + 1) 12 [.ref i, .ref i'] G = .ok (.bl (decide (n = n'))) G := by
  have is := isi_own (S := S.dp code d) ⟨T.cd, T.gl, T.nc, T.isl, T.sub⟩ e' (a := 1) (c := 1) (by decide) (by decide)
  have q := eq_du2 (S := S.dp code d) (G := G) h h' f f' false
  unfold wvO at e e'
  unfold du2 at q
  rw [callF_succ]
  simp [code, f12, startL, is, e, e', List.lookup, q]
theorem v_eq3 (T : Tb S) {i i' : Nat} (h : bit n) (h' : bit n') (e : G[i]? = some (tmO n)) (e' : G[i']? = some (tmO n')) : callF S code (d + 1) 14 [.ref i, .ref i'] G = .ok (.bl (decide (n = n'))) G := by
  have is := isi_own (S := S.dp code d) ⟨T.cd, T.gl, T.nc, T.isl, T.sub⟩ e' (a := 2) (c := 2) (by decide) (by decide)
  have q := eq_t3 (S := S.dp code d) (G := G) h h'
  have q2 := eq_d3 (S := S.dp code d) (G := G) h h'
  unfold tmO at e e'
  unfold tp at q2
  rw [callF_succ]
  by_cases z : n = n'
  · rw [decide_eq_true z] at q q2 ⊢
    simp [code, f14, startL, is, e, e', List.lookup, q, q2]
  · rw [decide_eq_false z] at q q2 ⊢
    simp [code, f14, startL, is, e, e', List.lookup, q, q2]
end
end LawX
namespace LawX
open PySem PySem.Spec PyProof.Rows L2 VM
section
variable {S : Sx} {d : Nat} {G : Gh} {n n' r r' : Int}
theorem Tb.dp (T : Tb S) : Tb (S.dp code d) := ⟨T.cd, T.gl, T.nc, T.isl, T.sub⟩
theorem eqR_own {c f i : Nat} {fs : List (Nat × Va)} {y : Va} {b : Bool} {neg : Bool} (e : G[i]? = some (.ins c fs)) (hf : (S.cd c).eq = some f) (hr : rgt G y = true) (hc : callF S code (d + 1) f [.ref i, y] G = .ok (.bl b) G) : eqR (S.dp code (d + 1)) neg (.ref i) y G = .ok (.bl (neg ^^ b)) G := by
  have hk : eqk (S.dp code (d + 1)) G (.ref i) = some f := by
    show eqkO _ G[i]? = _
    rw [e]; exact hf
  unfold eqR
  rw [hk]
  show (if rgt G y = true then (noex ((S.dp code (d + 1)).call f [.ref i, y] G)).bind (blR neg) else .no) = _
  rw [if_pos hr, call_dp, hc]
  rfl
/-- which def is a class's own == -/
def eqfn : Nat → Nat
  | 1 => 12
  | 2 => 14
  | 3 => 16
  | _ => 19
theorem v_not (T : Tb S) {c i : Nat} {y : Va} (hc : c = 1 ∨ c = 2 ∨ c = 3 ∨ c = 4) (h : (bIsiX : Bop (S.dp code d) (.builtin "isinstance")).op [y, .cl c] G = some (.bl false, G)) : callF S code (d + 1) (eqfn c) [.ref i, y] G = .ok (.bl false) G := by
  rw [callF_succ]
  rcases hc with rfl | rfl | rfl | rfl
  · simp [code, eqfn, f12, startL, h]
  · simp [code, eqfn, f14, startL, h]
  · simp [code, eqfn, f16, startL, h]
  · simp [code, eqfn, f19, startL, h]
theorem eqfn_cd (T : Tb S) {c : Nat} (hc : c = 1 ∨ c = 2 ∨ c = 3 ∨ c = 4) : (S.cd c).eq = some (eqfn c) := by
  rw [T.cd]
  rcases hc with rfl | rfl | rfl | rfl <;> rfl
/-- the class of a row's object -/
def cof : Int → Nat
  | 0 => 3
  | 1 => 4
  | 2 => 1
  | _ => 2
theorem RowOk.ins {k : Int} {due : Va} {i : Nat} (x : RowOk (fun x => G[x]?) k due (.ref i) n r) : ∃ fs, G[i]? = some (.ins (cof k) fs) ∧ (cof k = 1 ∨ cof k = 2 ∨ cof k = 3 ∨ cof k = 4) ∧ ∃ xs, due = .tup xs := by
  cases x with
  | r0 hb e => exact ⟨_, e, by decide, _, rfl⟩
  | r1 hb hr e => exact ⟨_, e, by decide, _, rfl⟩
  | r2 hb e e1 e2 => exact ⟨_, e, by decide, _, rfl⟩
  | r3 hb e => exact ⟨_, e, by decide, _, rfl⟩
/-- an object is no tuple -/
theorem one_due (T : Tb S) {k : Int} {due : Va} {i : Nat} {neg : Bool} (x : RowOk (fun x => G[x]?) k due (.ref i) n r) : eqR (S.dp code (d + 1)) neg (.ref i) due G = .ok (.bl (neg ^^ false)) G := by
  obtain ⟨fs, e, hc, xs, rfl⟩ := x.ins
  have h5 : cof k < 5 := by omega
  exact eqR_own e (eqfn_cd T hc) rfl (v_not T hc (isi_tc T.dp h5))
theorem eq_rows (T : Tb S) {k k' : Int} {due late : Va} {i i' : Nat} {neg : Bool} (x : RowOk (fun x => G[x]?) k due (.ref i) n r) (x' : RowOk (fun x => G[x]?) k' late (.ref i') n' r') :
    eqR (S.dp code (d + 1)) neg (.ref i) (.ref i') G = .ok (.bl (neg ^^ decide (k = k' ∧ n = n' ∧ r = r'))) G := by
  obtain ⟨fs', e', hc', _⟩ := x'.ins
  have hr : rgt G (.ref i') = true := by
    show insO G[i']? = true
    rw [e']; rfl
  have cross : ∀ fs, k ≠ k' → cof k ≠ cof k' → G[i]? = some (.ins (cof k) fs) → (cof k = 1 ∨ cof k = 2 ∨ cof k = 3 ∨ cof k = 4) → eqR (S.dp code (d + 1)) neg (.ref i) (.ref i') G = .ok (.bl (neg ^^ decide (k = k' ∧ n = n' ∧ r = r'))) G := fun fs hk hne e hc => by
    have is := isi_own (S := S.dp code d) T.dp e' (c := cof k) (by omega) (by omega)
    rw [decide_eq_false (fun z => hne z.symm)] at is
    rw [decide_eq_false (fun z => hk z.1)]
    exact eqR_own e (eqfn_cd T hc) hr (v_not T hc is)
  cases x with
  | r0 hb e =>
    cases x' with
    | r0 hb' e' =>
      have q := eqR_own (neg := neg) e (eqfn_cd T (c := 3) (by decide)) hr (v_eq0 (d := d) T hb hb' e e')
      simpa using q
    | r1 _ _ _ => exact cross _ (by decide) (by decide) e (by decide)
    | r2 _ _ _ _ => exact cross _ (by decide) (by decide) e (by decide)
    | r3 _ _ => exact cross _ (by decide) (by decide) e (by decide)
  | r1 hb hr1 e =>
    cases x' with
    | r1 hb' hr1' e' =>
      have q := eqR_own (neg := neg) e (eqfn_cd T (c := 4) (by decide)) hr (v_eq1 (d := d) T hb hb' hr1 hr1' e e')
      simpa using q
    | r0 _ _ => exact cross _ (by decide) (by decide) e (by decide)
    | r2 _ _ _ _ => exact cross _ (by decide) (by decide) e (by decide)
    | r3 _ _ => exact cross _ (by decide) (by decide) e (by decide)
  | r2 hb e e1 e2 =>
    cases x' with
    | r2 hb' e' e1' e2' =>
      have q := eqR_own (neg := neg) e (eqfn_cd T (c := 1) (by decide)) hr (v_eq2 (d := d) T hb hb' e e' e2 e2')
      simpa using q
    | r0 _ _ => exact cross _ (by decide) (by decide) e (by decide)
    | r1 _ _ _ => exact cross _ (by decide) (by decide) e (by decide)
    | r3 _ _ => exact cross _ (by decide) (by decide) e (by decide)
  | r3 hb e =>
    cases x' with
    | r3 hb' e' =>
      have q := eqR_own (neg := neg) e (eqfn_cd T (c := 2) (by decide)) hr (v_eq3 (d := d) T hb hb' e e')
      simpa using q
    | r0 _ _ => exact cross _ (by decide) (by decide) e (by decide)
    | r1 _ _ _ => exact cross _ (by decide) (by decide) e (by decide)
    | r2 _ _ _ _ => exact cross _ (by decide) (by decide) e (by decide)
theorem due_rows {k : Int} {due late : Va} {i i' : Nat} {neg : Bool} (x : RowOk (fun x => G[x]?) k due (.ref i) n r) (x' : RowOk (fun x => G[x]?) k late (.ref i') n' r') : eqR S neg due late G = .ok (.bl (neg ^^ decide (n = n' ∧ r = r'))) G := by
  cases x with
  | r0 hb e =>
    cases x' with
    | r0 hb' e' => simpa using eq_du0 (S := S) (G := G) hb hb' neg
  | r1 hb hr e =>
    cases x' with
    | r1 hb' hr' e' => exact eq_du1 hb hb' hr hr' neg
  | r2 hb e e1 e2 =>
    cases x' with
    | r2 hb' e' e1' e2' => simpa using eq_du2 (S := S) (G := G) hb hb' e1 e1' neg
  | r3 hb e =>
    cases x' with
    | r3 hb' e' => simpa using eq_du3 (S := S) (G := G) hb hb' neg
/-- what is told of an object is what is due -/
theorem v_told {k : Int} {due : Va} {i : Nat} (x : RowOk (fun x => G[x]?) k due (.ref i) n r) : ∃ v, callF S code (d + 1) 5 [.int k, .ref i] G = .ok v G ∧ ∀ S', eqR S' true v due G = .ok (.bl false) G := by
  cases x with
  | r0 hb e =>
    refine ⟨du0 n, ?_, fun S' => by simpa using eq_du0 (S := S') (G := G) hb hb true⟩
    have e : G[i]? = some (enO n) := e
    unfold enO at e
    rw [callF_succ]
    simp [code, f5, startL, eq_int, e, List.lookup, du0]
  | r1 hb hr e =>
    refine ⟨du1 n r, ?_, fun S' => by simpa using eq_du1 (S := S') (G := G) hb hb hr hr true⟩
    have e : G[i]? = some (shO n r) := e
    unfold shO at e
    rw [callF_succ]
    simp [code, f5, startL, eq_int, e, List.lookup, du1]
  | @r2 _ _ j j' hb e e1 e2 =>
    refine ⟨du2 n j', ?_, fun S' => by simpa using eq_du2 (S := S') (G := G) hb hb e2 e1 true⟩
    have e : G[i]? = some (wvO n j') := e
    unfold wvO at e
    rw [callF_succ]
    simp [code, f5, startL, eq_int, e, List.lookup, du2]
  | r3 hb e =>
    refine ⟨du3 n, ?_, fun S' => by simpa using eq_du3 (S := S') (G := G) hb hb true⟩
    have e : G[i]? = some (tmO n) := e
    unfold tmO at e
    rw [callF_succ]
    simp [code, f5, startL, eq_int, e, List.lookup, du3, tp]
end
end LawX
namespace LawX
open PySem PySem.Spec PyProof.Rows L2 VM
section
variable (S : Sx)
def q0 : CS S :=
 (sAsg (gNm 1) (cLst (aCons (cVar 0) (aCons (cI 0) aNil))))
def q1 : CS S :=
 (sIf (cNot (cCall 6 (aCons (cVar 1) aNil)))
 (bCons (sRet (cB false))
  bNil)
 bNil)
def q2 : CS S :=
 (sAsg (gNm 2) (cLst aNil))
def q3 : CS S :=
 (sFor (cRng1 (cI 9)) (gNm 3)
 (bCons (sAsg (gNm 4) (cCall 3 (aCons (cVar 1) (aCons (cI 4) aNil))))
  (bCons (sAsg (gTp 3 (gsCons (gNm 7) (gsCons (gNm 5) (gsCons (gNm 6) gsNil)))) (cCall 4 (aCons (cVar 1) (aCons (cVar 4) aNil))))
  (bCons (sIf (cEq true (cCall 5 (aCons (cVar 4) (aCons (cVar 6) aNil))) (cVar 5))
 (bCons (sRet (cB false))
  bNil)
 bNil)
  (bCons (sIf (cBi bIsiX (aCons (cVar 7) (aCons (cTy "dict") aNil)))
 (bCons (sAsg (gSuX (cVar 7) (cTup (aCons (cS [122, 122]) (aCons (cS []) (aCons (cS []) (aCons (cS []) aNil)))))) (cI 5))
  bNil)
 (bCons (sExpr (cBm mApp (cVar 7) (aCons (cTup (aCons (cI 9) (aCons (cI 1) aNil))) aNil)))
  bNil))
  (bCons (sIf (cBop false (cEq true (cCall 5 (aCons (cVar 4) (aCons (cVar 6) aNil))) (cVar 5)) [(cEq false (cVar 6) (cVar 5))])
 (bCons (sRet (cB false))
  bNil)
 bNil)
  (bCons (sExpr (cBm mApp (cVar 2) (aCons (cTup (aCons (cVar 4) (aCons (cVar 5) (aCons (cVar 6) aNil)))) aNil)))
  bNil)))))))
def q4 : CS S :=
 (sFor (cItV (cVar 2)) (gTp 3 (gsCons (gNm 4) (gsCons (gNm 5) (gsCons (gNm 6) gsNil))))
 (bCons (sFor (cItV (cVar 2)) (gTp 3 (gsCons (gNm 8) (gsCons (gNm 9) (gsCons (gNm 10) gsNil))))
 (bCons (sIf (cBop false (cEq true (cEq false (cVar 6) (cVar 10)) (cBop true (cEq false (cVar 4) (cVar 8)) [(cEq false (cVar 5) (cVar 9))])) [(cEq true (cEq true (cVar 6) (cVar 10)) (cBop false (cEq true (cVar 4) (cVar 8)) [(cEq true (cVar 5) (cVar 9))]))])
 (bCons (sRet (cB false))
  bNil)
 bNil)
  bNil))
  bNil))
def q5 : CS S :=
 (sRet (cBop true (cBool (cNew 3 (aCons (cTup (aCons (cI 0) (aCons (cI 1) aNil))) aNil))) [(cNot (cNew 4 (aCons (cTup aNil) (aCons (cTup (aCons (cI 0) (aCons (cI 1) aNil))) (aCons (cTup (aCons (cI 0) (aCons (cI 1) aNil))) (aCons (cTup (aCons (cI 0) (aCons (cI 1) aNil))) aNil)))))), (cEq false (cNew 0 (aCons (cDsp (cpCons (cS [116]) cD0 cpNil)) aNil)) (cNew 0 (aCons (cDsp (cpCons (cS [116]) cD0 cpNil)) aNil))), (cEq true (cNew 0 (aCons cD0 aNil)) (cNew 0 (aCons (cDsp (cpCons (cS [116]) cD0 cpNil)) aNil))), (cEq true (cNew 0 (aCons cD0 aNil)) (cI 5))]))
theorem law_body : (f7 S).body = (bCons (q0 S) (bCons (q1 S) (bCons (q2 S) (bCons (q3 S) (bCons (q4 S) (bCons (q5 S) bNil)))))) := rfl
end
end LawX
namespace LawX
open PySem PySem.Spec PyProof.Rows L2 VM
section
variable (S : Sx)
def b0 : CS S := (sAsg (gNm 4) (cCall 3 (aCons (cVar 1) (aCons (cI 4) aNil))))
def b1 : CS S := (sAsg (gTp 3 (gsCons (gNm 7) (gsCons (gNm 5) (gsCons (gNm 6) gsNil)))) (cCall 4 (aCons (cVar 1) (aCons (cVar 4) aNil))))
def b2 : CS S := (sIf (cEq true (cCall 5 (aCons (cVar 4) (aCons (cVar 6) aNil))) (cVar 5))
 (bCons (sRet (cB false))
  bNil)
 bNil)
def b3 : CS S := (sIf (cBi bIsiX (aCons (cVar 7) (aCons (cTy "dict") aNil)))
 (bCons (sAsg (gSuX (cVar 7) (cTup (aCons (cS [122, 122]) (aCons (cS []) (aCons (cS []) (aCons (cS []) aNil)))))) (cI 5))
  bNil)
 (bCons (sExpr (cBm mApp (cVar 7) (aCons (cTup (aCons (cI 9) (aCons (cI 1) aNil))) aNil)))
  bNil))
def b4 : CS S := (sIf (cBop false (cEq true (cCall 5 (aCons (cVar 4) (aCons (cVar 6) aNil))) (cVar 5)) [(cEq false (cVar 6) (cVar 5))])
 (bCons (sRet (cB false))
  bNil)
 bNil)
def b5 : CS S := (sExpr (cBm mApp (cVar 2) (aCons (cTup (aCons (cVar 4) (aCons (cVar 5) (aCons (cVar 6) aNil)))) aNil)))
def body3 : CB S := bCons (b0 S) (bCons (b1 S) (bCons (b2 S) (bCons (b3 S) (bCons (b4 S) (bCons (b5 S) bNil)))))
theorem q3_eq : q3 S = sFor (cRng1 (cI 9)) (gNm 3) (body3 S) := rfl
end
section
variable {S : Sx} {G : Gh} {ns : List Int} {t k : Int} {T : Gh} {n r : Int}
abbrev LT (R : Nat) (a b c d e : Option Va) : Lo := [some (.ref 0), some (.ref 1), some (.ref R), a, b, c, d, e, none, none, none]
theorem app_list {m : Nat} {xs : List Va} {y : Va} (h : G[m]? = some (.lst false xs)) (hl : xs.length ≤ 1000) : (mApp : Mop S "list" "append" "list.append").op (.ref m) [y] G = some (.non, G.set m (.lst false (xs ++ [y]))) := by
  show appF m y G (mlsO G[m]?) = _
  rw [h]
  show (if xs.length < sizeLine then some (Va.non, G.set m (.lst false (xs ++ [y]))) else none) = _
  rw [if_pos (by rw [sizeLine_eq]; omega)]
theorem app_ty {m : Nat} {xs : List Va} (h : G[m]? = some (.lst false xs)) : (mApp : Mop S "list" "append" "list.append").ty (.ref m) G = true := by
  show isL G[m]? = true
  rw [h]; rfl
def zzK : Va := .tup [.str [122, 122], .str [], .str [], .str []]
theorem zz_ok : nkOk zzK = true := by kernel_rfl
theorem b3_ev {q R : Nat} {a b c d : Option Va} (h : PartOk G q) : ∃ o, (b3 S).ev (LT R a b c d (some (.ref q))) G = .nx (LT R a b c d (some (.ref q))) (G.set q o) := by
  rcases h with ⟨xs, hx, hl⟩ | ⟨n, hn⟩
  · have i := isi_ld (S := S) hx
    have a1 := app_ty (S := S) hx
    have a2 := app_list (S := S) (y := .tup [.int 9, .int 1]) hx (by omega)
    refine ⟨.lst false (xs ++ [.tup [.int 9, .int 1]]), ?_⟩
    unfold b3
    simp [i, bmR_ok a1, a2]
  · have i := isi_dd (S := S) (n := q) (G := G) hn
    have st : stX zzK (.int 5) (.ref q) G = some (G.set q (.dtu false (dPut [(keyV, .int n)] zzK (.int 5)))) := by
      show stT q zzK (.int 5) G G[q]? = _
      rw [hn]
      show (if nkOk zzK = true ∧ [(keyV, Va.int n)].length < sizeLine then some (G.set q (.dtu false (dPut [(keyV, .int n)] zzK (.int 5)))) else none) = _
      rw [if_pos ⟨zz_ok, by rw [sizeLine_eq]; simp⟩]
    refine ⟨.dtu false (dPut [(keyV, .int n)] zzK (.int 5)), ?_⟩
    have g : (gSuX (cVar 7) (cTup (aCons (cS [122, 122]) (aCons (cS []) (aCons (cS []) (aCons (cS []) aNil))))) : CG S).ev (.int 5) (LT R a b c d (some (.ref q))) G = .ok (LT R a b c d (some (.ref q))) (G.set q (.dtu false (dPut [(keyV, .int n)] zzK (.int 5)))) := by
      have e : (cTup (aCons (cS [122, 122]) (aCons (cS []) (aCons (cS []) (aCons (cS []) aNil)))) : CE S).ev (LT R a b c d (some (.ref q))) G = .ok zzK G := by simp [zzK]
      show (noex ((cVar 7 : CE S).ev (LT R a b c d (some (.ref q))) G)).bind (fun o G1 => (noex ((cTup (aCons (cS [122, 122]) (aCons (cS []) (aCons (cS []) (aCons (cS []) aNil)))) : CE S).ev (LT R a b c d (some (.ref q))) G1)).bind fun k G2 => okL (LT R a b c d (some (.ref q))) (stX k (.int 5) o G2)) = _
      have e7 : (cVar 7 : CE S).ev (LT R a b c d (some (.ref q))) G = .ok (.ref q) G := rfl
      rw [e7, noex_ok, Res.bind_ok, e, noex_ok, Res.bind_ok, st]
      rfl
    unfold b3
    generalize (gSuX (cVar 7) (cTup (aCons (cS [122, 122]) (aCons (cS []) (aCons (cS []) (aCons (cS []) aNil))))) : CG S) = cg at *
    simp [i, g]
theorem b2_ev {R q i : Nat} {due v : Va} {a : Option Va} (e : S.call 5 [.int k, .ref i] G = .ok v G) (f : eqR S true v due G = .ok (.bl false) G) : (b2 S).ev (LT R a (some (.int k)) (some due) (some (.ref i)) (some (.ref q))) G = .nx (LT R a (some (.int k)) (some due) (some (.ref i)) (some (.ref q))) G := by
  unfold b2
  simp [e, f]
theorem b4_ev {R q i : Nat} {due v : Va} {a : Option Va} (e : S.call 5 [.int k, .ref i] G = .ok v G) (f : eqR S true v due G = .ok (.bl false) G) (g : eqR S false (.ref i) due G = .ok (.bl false) G) : (b4 S).ev (LT R a (some (.int k)) (some due) (some (.ref i)) (some (.ref q))) G = .nx (LT R a (some (.int k)) (some due) (some (.ref i)) (some (.ref q))) G := by
  unfold b4
  simp [e, f, g]
theorem b5_ev {R q i : Nat} {due : Va} {a : Option Va} {xs : List Va} (h : G[R]? = some (.lst false xs)) (hl : xs.length ≤ 1000) : (b5 S).ev (LT R a (some (.int k)) (some due) (some (.ref i)) (some (.ref q))) G = .nx (LT R a (some (.int k)) (some due) (some (.ref i)) (some (.ref q))) (G.set R (.lst false (xs ++ [.tup [.int k, due, .ref i]]))) := by
  have a1 := app_ty (S := S) h
  have a2 := app_list (S := S) (y := .tup [.int k, due, .ref i]) h hl
  unfold b5
  simp [bmR_ok a1, a2]
theorem b0_ev {R : Nat} {a b c d e : Option Va} {G' : Gh} {v : Int} (h : S.call 3 [.ref 1, .int 4] G = .ok (.int v) G') : (b0 S).ev (LT R a b c d e) G = .nx (LT R a (some (.int v)) c d e) G' := by
  unfold b0
  simp [h]
theorem b1_ev {R q i : Nat} {a c d e : Option Va} {G' : Gh} {due : Va} (h : S.call 4 [.ref 1, .int k] G = .ok (.tup [.ref q, due, .ref i]) G') : (b1 S).ev (LT R a (some (.int k)) c d e) G = .nx (LT R a (some (.int k)) (some due) (some (.ref i)) (some (.ref q))) G' := by
  unfold b1
  simp [h]
/-- the rows so far -/
def RowsOk (G : Gh) (rows : List Va) : Prop := ∀ x ∈ rows, ∃ (k : Int) (due : Va) (i : Nat) (n r : Int), x = .tup [.int k, due, .ref i] ∧ RowOk (fun x => G[x]?) k due (.ref i) n r
theorem RowsOk.mono {G' : Gh} {rows : List Va} (h : RowsOk G rows) (m : ∀ (x : Nat) (o : VO), nl o = true → G[x]? = some o → G'[x]? = some o) : RowsOk G' rows := fun x hx => by
  obtain ⟨k, due, i, n, r, e, f⟩ := h x hx
  exact ⟨k, due, i, n, r, e, f.mono fun y o ho hy => m y o ho hy⟩
theorem h0_set {m : Nat} {o : VO} (h : 2 ≤ m) : (H0 ns t T).set m o = H0 ns t (T.set (m - 2) o) := by
  obtain ⟨j, rfl⟩ : ∃ j, m = j + 2 := ⟨m - 2, by omega⟩
  rfl
theorem h0_get {m : Nat} (h : 2 ≤ m) : (H0 ns t T)[m]? = T[m - 2]? := by
  obtain ⟨j, rfl⟩ : ∃ j, m = j + 2 := ⟨m - 2, by omega⟩
  rfl
theorem h0_nl {m : Nat} {o : VO} (hn : nl o = true) (h : (H0 ns t T)[m]? = some o) : 2 ≤ m := by
  cases m with
  | zero => cases h; cases hn
  | succ m =>
    cases m with
    | zero => cases h; cases hn
    | succ m => omega
theorem turn (Tt : Tb S) (hl : ns.length ≤ 63) (h0 : 0 ≤ t) {R : Nat} {a b c d e : Option Va} {rows : List Va} (hR : 2 ≤ R) (hr : (H0 ns t T)[R]? = some (.lst false rows)) (hn : rows.length ≤ 1000) (ok : RowsOk (H0 ns t T) rows) :
    ∃ b' c' d' e' row t' T', (body3 (S.dp code 30)).ev (LT R a b c d e) (H0 ns t T) = .nx (LT R a b' c' d' e') (H0 ns t' T') ∧ 0 ≤ t' ∧ (H0 ns t' T')[R]? = some (.lst false (rows ++ [row])) ∧ RowsOk (H0 ns t' T') (rows ++ [row]) := by
  obtain ⟨k, k0, k1, e1⟩ := v_take (S := S) (d := 28) hcn hct hl h0 (T := T) (many := 4) (by decide)
  obtain ⟨q, due, i, n, r, T2, e2, keep, row, part, hq, hq2⟩ := v_made (S := S) (d := 26) (ns := ns) (t := t + 1) (T := T ++ [.lst false []]) Tt hl (by omega) k0 k1
  have hS : (S.dp code 30).call = callF S code 30 := rfl
  rw [List.length_append] at hq keep
  simp only [List.length_cons, List.length_nil] at hq keep
  have lR : R < T.length + 2 := by
    have := (List.getElem?_eq_some_iff.mp hr).1
    rw [h0_len] at this; exact this
  -- the old heap in the new one
  have old : ∀ (x : Nat) (o : VO), 2 ≤ x → (H0 ns t T)[x]? = some o → (H0 ns (t + 1 + 1 + 1) T2)[x]? = some o := fun x o h2 hx => by
    have lx : x < T.length + 2 := by
      have := (List.getElem?_eq_some_iff.mp hx).1
      rw [h0_len] at this; exact this
    rw [h0_get h2] at hx ⊢
    rw [keep _ (by omega), List.getElem?_append_left (by omega)]
    exact hx
  have r2 : (H0 ns (t + 1 + 1 + 1) T2)[R]? = some (.lst false rows) := old R _ hR hr
  have ok2 : RowsOk (H0 ns (t + 1 + 1 + 1) T2) rows := ok.mono fun x o ho hx => old x o (h0_nl ho hx) hx
  have hRq : R ≠ q := by omega
  obtain ⟨o3, e3⟩ := b3_ev (S := S.dp code 30) (R := R) (a := a) (b := some (.int k)) (c := some due) (d := some (.ref i)) part
  -- behind the part's change
  have g3 : ∀ (x : Nat), x ≠ q → ((H0 ns (t + 1 + 1 + 1) T2).set q o3)[x]? = (H0 ns (t + 1 + 1 + 1) T2)[x]? := fun x hx => List.getElem?_set_ne (Ne.symm hx)
  have row2 : RowOk (fun x => (H0 ns (t + 1 + 1 + 1) T2)[x]?) k due (.ref i) n r := row.mono fun x o _ hx => by
    unfold wo at hx
    split at hx
    · cases hx
    · exact hx
  have row3 : RowOk (fun x => ((H0 ns (t + 1 + 1 + 1) T2).set q o3)[x]?) k due (.ref i) n r := row.mono fun x o _ hx => by
    unfold wo at hx
    split at hx
    · cases hx
    · rename_i hne
      show ((H0 ns (t + 1 + 1 + 1) T2).set q o3)[x]? = _
      rw [g3 x hne]; exact hx
  have ok3 : RowsOk ((H0 ns (t + 1 + 1 + 1) T2).set q o3) rows := fun y hy => by
    obtain ⟨k', due', i', n', r', z1, z2⟩ := ok y hy
    refine ⟨k', due', i', n', r', z1, z2.mono fun x o ho hx => ?_⟩
    have lx : x < T.length + 2 := by
      have := (List.getElem?_eq_some_iff.mp hx).1
      rw [h0_len] at this; exact this
    show ((H0 ns (t + 1 + 1 + 1) T2).set q o3)[x]? = _
    rw [g3 x (by omega)]
    exact old x o (h0_nl ho hx) hx
  have r3 : ((H0 ns (t + 1 + 1 + 1) T2).set q o3)[R]? = some (.lst false rows) := by rw [g3 R hRq]; exact r2
  obtain ⟨v, t1, t2⟩ := v_told (S := S) (d := 29) row2
  obtain ⟨v', t1', t2'⟩ := v_told (S := S) (d := 29) row3
  have od := one_due (S := S) (d := 29) (neg := false) Tt row3
  have fin : ((H0 ns (t + 1 + 1 + 1) T2).set q o3).set R (.lst false (rows ++ [.tup [.int k, due, .ref i]])) = H0 ns (t + 1 + 1 + 1) ((T2.set (q - 2) o3).set (R - 2) (.lst false (rows ++ [.tup [.int k, due, .ref i]]))) := by
    rw [h0_set (by omega), h0_set hR]
  have l3 : R < ((H0 ns (t + 1 + 1 + 1) T2).set q o3).length := (List.getElem?_eq_some_iff.mp r3).1
  have nl4 : ∀ (x : Nat) (o : VO), nl o = true → ((H0 ns (t + 1 + 1 + 1) T2).set q o3)[x]? = some o → (((H0 ns (t + 1 + 1 + 1) T2).set q o3).set R (.lst false (rows ++ [.tup [.int k, due, .ref i]])))[x]? = some o := fun x o ho hx => by
    rw [List.getElem?_set_ne (fun z => by subst z; rw [r3] at hx; cases hx; cases ho)]
    exact hx
  refine ⟨some (.int k), some due, some (.ref i), some (.ref q), .tup [.int k, due, .ref i], t + 1 + 1 + 1, (T2.set (q - 2) o3).set (R - 2) (.lst false (rows ++ [.tup [.int k, due, .ref i]])), ?_, by omega, ?_, ?_⟩
  · unfold body3
    rw [bCons_ev, b0_ev (by rw [hS]; exact e1), sq_nx, bCons_ev, b1_ev (by rw [hS]; exact e2), sq_nx, bCons_ev, b2_ev (by rw [hS]; exact t1) (t2 _), sq_nx, bCons_ev, e3, sq_nx, bCons_ev, b4_ev (by rw [hS]; exact t1') (t2' _) od, sq_nx, bCons_ev, b5_ev r3 hn, sq_nx, bNil_ev, fin]
  · rw [← fin, List.getElem?_set_self l3]
  · rw [← fin]
    intro y hy
    rcases List.mem_append.mp hy with hy | hy
    · exact (ok3.mono nl4) y hy
    · obtain rfl := List.mem_singleton.mp hy
      exact ⟨k, due, i, n, r, rfl, row3.mono fun x o ho hx => nl4 x o ho hx⟩
end
end LawX
namespace LawX
open PySem PySem.Spec PyProof.Rows L2 VM
section
variable {S : Sx} {G : Gh} {ns : List Int} {t k : Int} {T : Gh} {n r : Int}
theorem loop3 (Tt : Tb S) (hl : ns.length ≤ 63) {R : Nat} (hR : 2 ≤ R) : ∀ (j i m : Nat) (t : Int) (T : Gh) (a b c d e : Option Va) (rows : List Va), j + i = 9 → j < m → 0 ≤ t → rows.length = i → (H0 ns t T)[R]? = some (.lst false rows) → RowsOk (H0 ns t T) rows →
    ∃ a' b' c' d' e' rows' t' T', forL (.rng 0 9) (gNm 3 : CG (S.dp code 30)).ev (body3 (S.dp code 30)).ev m i (LT R a b c d e) (H0 ns t T) = .nx (LT R a' b' c' d' e') (H0 ns t' T') ∧ (H0 ns t' T')[R]? = some (.lst false rows') ∧ RowsOk (H0 ns t' T') rows' ∧ rows'.length = 9
  | 0, i, m + 1, t, T, a, b, c, d, e, rows, hj, hm, h0, hi, hr, ok => by
    have : i = 9 := by omega
    subst this
    refine ⟨a, b, c, d, e, rows, t, T, ?_, hr, ok, hi⟩
    rw [forL_rng, if_neg (by decide), for1_none]
  | j + 1, i, m + 1, t, T, a, b, c, d, e, rows, hj, hm, h0, hi, hr, ok => by
    obtain ⟨b', c', d', e', row, t', T', h1, h2, h3, h4⟩ := turn (a := some (.int (0 + (i : Int)))) (b := b) (c := c) (d := d) (e := e) Tt hl h0 hR hr (by omega) ok
    obtain ⟨a2, b2, c2, d2, e2, rows2, t2, T2, g1, g2, g3, g4⟩ := loop3 Tt hl hR j (i + 1) m t' T' (some (.int (0 + (i : Int)))) b' c' d' e' (rows ++ [row]) (by omega) (by omega) h2 (by simp [hi]) h3 h4
    refine ⟨a2, b2, c2, d2, e2, rows2, t2, T2, ?_, g2, g3, g4⟩
    have set3 : (gNm 3 : CG (S.dp code 30)).ev (.int (0 + (i : Int))) (LT R a b c d e) (H0 ns t T) = .ok (LT R (some (.int (0 + (i : Int)))) b c d e) (H0 ns t T) := rfl
    rw [forL_rng, if_pos (by omega), for1_some, set3, noex_ok, sx_ok, h1, lpK_nx, g1]
theorem q3_ev (Tt : Tb S) (hl : ns.length ≤ 63) {R : Nat} (hR : 2 ≤ R) (h0 : 0 ≤ t) (hr : (H0 ns t T)[R]? = some (.lst false [])) : ∃ a' b' c' d' e' rows' t' T', (q3 (S.dp code 30)).ev (LT R none none none none none) (H0 ns t T) = .nx (LT R a' b' c' d' e') (H0 ns t' T') ∧ (H0 ns t' T')[R]? = some (.lst false rows') ∧ RowsOk (H0 ns t' T') rows' ∧ rows'.length = 9 := by
  obtain ⟨a', b', c', d', e', rows', t', T', h1, h2⟩ := loop3 (S := S) (ns := ns) Tt hl hR 9 0 fuelF t T none none none none none [] (by omega) (by unfold fuelF; omega) h0 rfl hr (fun x hx => by cases hx)
  refine ⟨a', b', c', d', e', rows', t', T', ?_, h2⟩
  rw [q3_eq, sFor_ev]
  have hrng : (cRng1 (cI 9) : CI (S.dp code 30)).ev (LT R none none none none none) (H0 ns t T) = .ok (.rng 0 9) (H0 ns t T) := rfl
  rw [hrng, sx_ok, h1]
/-! ### each with each -/
def bI (S : Sx) : CB S := (bCons (sIf (cBop false (cEq true (cEq false (cVar 6) (cVar 10)) (cBop true (cEq false (cVar 4) (cVar 8)) [(cEq false (cVar 5) (cVar 9))])) [(cEq true (cEq true (cVar 6) (cVar 10)) (cBop false (cEq true (cVar 4) (cVar 8)) [(cEq true (cVar 5) (cVar 9))]))])
 (bCons (sRet (cB false))
  bNil)
 bNil)
  bNil)
def gI (S : Sx) : CG S := (gTp 3 (gsCons (gNm 8) (gsCons (gNm 9) (gsCons (gNm 10) gsNil))))
def gO (S : Sx) : CG S := (gTp 3 (gsCons (gNm 4) (gsCons (gNm 5) (gsCons (gNm 6) gsNil))))
def bO (S : Sx) : CB S := bCons (sFor (cItV (cVar 2)) (gI S) (bI S)) bNil
theorem q4_eq : q4 S = sFor (cItV (cVar 2)) (gO S) (bO S) := rfl
theorem eq_ii {x y : Int} {neg : Bool} : eqR S neg (.int x) (.int y) G = .ok (.bl (neg ^^ decide (x = y))) G := by
  cases neg
  · show lift (some (Va.bl (decide (x = y)), G)) = _
    simp [lift]
  · show lift (some (Va.bl (!decide (x = y)), G)) = _
    simp [lift]
theorem eq_bb {x : Bool} : eqR S true (.bl x) (.bl x) G = .ok (.bl false) G := by cases x <;> rfl
abbrev LU (R : Nat) (a p q r s x y z : Option Va) : Lo := [some (.ref 0), some (.ref 1), some (.ref R), a, p, q, r, s, x, y, z]
theorem bI_ev (Tt : Tb S) {k k' n' r' : Int} {due late : Va} {i i' R : Nat} {a s : Option Va} (x : RowOk (fun x => G[x]?) k due (.ref i) n r) (x' : RowOk (fun x => G[x]?) k' late (.ref i') n' r') :
    (bI (S.dp code 30)).ev (LU R a (some (.int k)) (some due) (some (.ref i)) s (some (.int k')) (some late) (some (.ref i'))) G = .nx (LU R a (some (.int k)) (some due) (some (.ref i)) s (some (.int k')) (some late) (some (.ref i'))) G := by
  have e1 := fun neg => eq_rows (S := S) (d := 29) (neg := neg) Tt x x'
  have f1 := e1 false
  have f2 := e1 true
  simp only [Bool.false_xor, Bool.true_xor] at f1 f2
  have g1 := fun neg => eq_ii (S := S.dp code 30) (G := G) (x := k) (y := k') (neg := neg)
  have g2 := g1 false
  have g3 := g1 true
  simp only [Bool.false_xor, Bool.true_xor] at g2 g3
  unfold bI
  by_cases hk : k = k'
  · subst hk
    have d1 := fun neg => due_rows (S := S.dp code 30) (neg := neg) x x'
    have d2 := d1 false
    have d3 := d1 true
    simp only [Bool.false_xor, Bool.true_xor] at d2 d3
    simp only [true_and] at f1 f2
    generalize decide (n = n' ∧ r = r') = b at *
    simp [f1, f2, g2, g3, d2, d3, eq_bb]
  · have z : decide (k = k' ∧ n = n' ∧ r = r') = false := decide_eq_false fun h => hk h.1
    rw [z] at f1 f2
    rw [decide_eq_false hk] at g2 g3
    simp [f1, f2, g2, g3, eq_bb]
theorem nxt_at {R : Nat} {rows : List Va} (h : G[R]? = some (.lst false rows)) (i : Nat) : nxt (.ob R) i G = some rows[i]? := by
  show nxO G[R]? i = _
  rw [h]; rfl
theorem loopI (Tt : Tb S) {R : Nat} {rows : List Va} {due : Va} {i : Nat} {a s : Option Va} (hr : G[R]? = some (.lst false rows)) (ok : RowsOk G rows) (x : RowOk (fun x => G[x]?) k due (.ref i) n r) : ∀ (j c m : Nat) (p q w : Option Va), j + c = rows.length → j < m →
    ∃ p' q' w', forL (.ob R) (gI (S.dp code 30)).ev (bI (S.dp code 30)).ev m c (LU R a (some (.int k)) (some due) (some (.ref i)) s p q w) G = .nx (LU R a (some (.int k)) (some due) (some (.ref i)) s p' q' w') G
  | 0, c, m + 1, p, q, w, hj, hm => by
    refine ⟨p, q, w, ?_⟩
    rw [forL_at (nxt_at hr c), List.getElem?_eq_none (by omega), for1_none]
  | j + 1, c, m + 1, p, q, w, hj, hm => by
    have hc : c < rows.length := by omega
    obtain ⟨k', late, i', n', r', e, x'⟩ := ok rows[c] (List.getElem_mem hc)
    obtain ⟨p', q', w', ih⟩ := loopI Tt hr ok x j (c + 1) m (some (.int k')) (some late) (some (.ref i')) (by omega) (by omega)
    refine ⟨p', q', w', ?_⟩
    have g : (gI (S.dp code 30)).ev (.tup [.int k', late, .ref i']) (LU R a (some (.int k)) (some due) (some (.ref i)) s p q w) G = .ok (LU R a (some (.int k)) (some due) (some (.ref i)) s (some (.int k')) (some late) (some (.ref i'))) G := rfl
    rw [forL_at (nxt_at hr c), List.getElem?_eq_getElem hc, e, for1_some, g, noex_ok, sx_ok, bI_ev Tt x x', lpK_nx, ih]
theorem loopO (Tt : Tb S) {R : Nat} {rows : List Va} {a s : Option Va} (hr : G[R]? = some (.lst false rows)) (hn : rows.length ≤ 1000) (ok : RowsOk G rows) : ∀ (j c m : Nat) (u v y p q w : Option Va), j + c = rows.length → j < m →
    ∃ u' v' y' p' q' w', forL (.ob R) (gO (S.dp code 30)).ev (bO (S.dp code 30)).ev m c (LU R a u v y s p q w) G = .nx (LU R a u' v' y' s p' q' w') G
  | 0, c, m + 1, u, v, y, p, q, w, hj, hm => by
    refine ⟨u, v, y, p, q, w, ?_⟩
    rw [forL_at (nxt_at hr c), List.getElem?_eq_none (by omega), for1_none]
  | j + 1, c, m + 1, u, v, y, p, q, w, hj, hm => by
    have hc : c < rows.length := by omega
    obtain ⟨k, due, i, n, r, e, x⟩ := ok rows[c] (List.getElem_mem hc)
    obtain ⟨p1, q1, w1, h1⟩ := loopI (a := a) (s := s) Tt hr ok x rows.length 0 fuelF p q w (by omega) (by unfold fuelF; omega)
    obtain ⟨u2, v2, y2, p2, q2, w2, ih⟩ := loopO Tt hr hn ok j (c + 1) m (some (.int k)) (some due) (some (.ref i)) p1 q1 w1 (by omega) (by omega)
    refine ⟨u2, v2, y2, p2, q2, w2, ?_⟩
    have g : (gO (S.dp code 30)).ev (.tup [.int k, due, .ref i]) (LU R a u v y s p q w) G = .ok (LU R a (some (.int k)) (some due) (some (.ref i)) s p q w) G := rfl
    have b : (bO (S.dp code 30)).ev (LU R a (some (.int k)) (some due) (some (.ref i)) s p q w) G = .nx (LU R a (some (.int k)) (some due) (some (.ref i)) s p1 q1 w1) G := by
      have it : (cItV (cVar 2) : CI (S.dp code 30)).ev (LU R a (some (.int k)) (some due) (some (.ref i)) s p q w) G = .ok (.ob R) G := by
        show srcR G (srcO R G[R]?) = _
        rw [hr]; rfl
      unfold bO
      rw [bCons_ev, sFor_ev, it, sx_ok, h1, sq_nx, bNil_ev]
    rw [forL_at (nxt_at hr c), List.getElem?_eq_getElem hc, e, for1_some, g, noex_ok, sx_ok, b, lpK_nx, ih]
theorem q4_ev (Tt : Tb S) {R : Nat} {rows : List Va} {a u v y s : Option Va} (hr : G[R]? = some (.lst false rows)) (hn : rows.length = 9) (ok : RowsOk G rows) : ∃ u' v' y' p' q' w', (q4 (S.dp code 30)).ev (LT R a u v y s) G = .nx (LU R a u' v' y' s p' q' w') G := by
  obtain ⟨u', v', y', p', q', w', h⟩ := loopO (a := a) (s := s) Tt hr (by omega) ok 9 0 fuelF u v y none none none (by omega) (by unfold fuelF; omega)
  refine ⟨u', v', y', p', q', w', ?_⟩
  have it : (cItV (cVar 2) : CI (S.dp code 30)).ev (LT R a u v y s) G = .ok (.ob R) G := by
    show srcR G (srcO R G[R]?) = _
    rw [hr]; rfl
  rw [q4_eq, sFor_ev, it, sx_ok, h]
end
end LawX
namespace LawX
open PySem PySem.Spec PyProof.Rows L2 VM
section
variable {S : Sx} {d : Nat} {G : Gh} {L : Lo} {m : Nat} {kvs : List (Va × Va)}
theorem sLock_ev {a : Lo → Gh → Res Va} {c : CS S} : (sLock a c).ev L G = lkA c.ev L G (lkN (a L G)) := rfl
theorem cLock_ev {a : Lo → Gh → Res Va} {c : CE S} : (cLock a c).ev L G = lkB c.ev L G (lkN (a L G)) := rfl
theorem lkN_ref {n : Nat} : lkN (.ok (.ref n) G) = some n := rfl
theorem lkA_at {c : Lo → Gh → SR} (h : G[m]? = some (.dct false kvs)) : lkA c L G (some m) = unS m (.dct false kvs) (c L (G.set m (.dct true kvs))) := by
  show lkS c m L G G[m]? = _
  rw [h]; rfl
theorem lkB_at {c : Lo → Gh → Res Va} (h : G[m]? = some (.dct false kvs)) : lkB c L G (some m) = unE m (.dct false kvs) (c L (G.set m (.dct true kvs))) := by
  show lkE c m L G G[m]? = _
  rw [h]; rfl
theorem unS_at {o : VO} {ks : List (Va × Va)} (h : G[m]? = some (.dct true ks)) : unS m o (.nx L G) = .nx L (G.set m o) := by
  show nxS L (setG m o G G[m]?) = _
  rw [h]; rfl
theorem unE_at {o : VO} {ks : List (Va × Va)} {v : Va} (h : G[m]? = some (.dct true ks)) : unE m o (.ok v G) = .ok v (G.set m o) := by
  show okG v (setG m o G G[m]?) = _
  rw [h]; rfl
theorem cItI_at {a : CE S} (h : G[m]? = some (.dct true kvs)) (e : a.ev L G = .ok (.ref m) G) : (cItI a).ev L G = .ok (.di m) G := by
  show (a.ev L G).bind (dsV .di) = _
  rw [e]
  show dsO .di m G G[m]? = _
  rw [h]; rfl
theorem nxt_di {i : Nat} (h : G[m]? = some (.dct true kvs)) : nxt (.di m) i G = some (kvs[i]?.map tup2) := by
  show nxD tup2 G[m]? i = _
  rw [h]; rfl
theorem lcL_end {src : Src} {tu : Va → Gh → Res Unit} {k i : Nat} (h : nxt src i G = some none) : lcL src tu (k + 1) i G = .ok () G := by
  rcases nxt_cases (α := Unit) src tu k i G with ⟨h1, h2⟩ | ⟨h1, h2⟩ | ⟨v, h1, h2⟩
  · rw [h] at h1; cases h1
  · exact h2
  · rw [h] at h1; cases h1
theorem set_id {o : VO} (h : G[m]? = some o) : G.set m o = G := by
  apply List.ext_getElem?
  intro i
  by_cases e : m = i
  · subst e
    rw [List.getElem?_set_self (List.getElem?_eq_some_iff.mp h).1, h]
  · rw [List.getElem?_set_ne e]
abbrev LS (s m : Nat) (a b : Option Va) : Lo := [some (.ref s), some (.ref m), a, b, none, none]
def cC (S : Sx) : CE S := (cDc (cItI (cVar 3)) (gTp 2 (gsCons (gNm 4) (gsCons (gNm 5) gsNil))) t0 (cVar 4) (cBt bDict (aCons (cVar 5) aNil)) [("column", 4), ("marks", 5)])
def fB (S : Sx) : CB S := (bCons (sAsg (gSuX (cAtt (cVar 0) 11) (cVar 2)) (cLock ((cVar 3) : CE S).ev (cC S)))
  bNil)
def fS (S : Sx) : CS S := (sFor (cItI (cVar 1)) (gTp 2 (gsCons (gNm 2) (gsCons (gNm 3) gsNil))) (fB S))
theorem f8_body : (f8 S).body = bCons (sFldS (cVar 0) 11 cD0) (bCons (sLock ((cVar 1) : CE S).ev (fS S)) bNil) := rfl
theorem f8_call {s : Nat} : callF S code (d + 1) 8 [.ref s, .ref m] G = toR (sq ((sFldS (cVar 0) 11 cD0 : CS (S.dp code d)).ev (LS s m none none) G) fun L G => sq ((sLock ((cVar 1) : CE (S.dp code d)).ev (fS (S.dp code d))).ev L G) fun L G => .nx L G) := by kernel_rfl
theorem fld_ev (T : Tb S) {s : Nat} {a b : Option Va} (hs : G[s]? = some (.ins 0 [])) : (sFldS (cVar 0) 11 cD0 : CS S).ev (LS s m a b) G = .nx (LS s m a b) ((G ++ [VO.dct false []]).set s (.ins 0 [(11, .ref G.length)])) := by
  have n1 : 11 ∈ (S.cd 0).flds := by rw [T.cd]; decide
  have hlt := (List.getElem?_eq_some_iff.mp hs).1
  show nxS (LS s m a b) (setO S s 11 (.ref G.length) (G ++ [.dct false []]) (G ++ [VO.dct false []])[s]?) = _
  rw [at_old hlt, hs]
  show nxS _ (if 11 ∈ (S.cd 0).flds ∧ ([] : List (Nat × Va)).length < 900 then some ((G ++ [VO.dct false []]).set s (.ins 0 (putN 11 (.ref G.length) []))) else none) = _
  rw [if_pos ⟨n1, by decide⟩]
  rfl
/-- the loop over no table -/
theorem fS_0 {s : Nat} {a b : Option Va} (hm : G[m]? = some (.dct true [])) : (fS S).ev (LS s m a b) G = .nx (LS s m a b) G := by
  obtain ⟨q, hq⟩ : ∃ q, fuelF = q + 1 := ⟨999999, rfl⟩
  unfold fS
  rw [sFor_ev, cItI_at hm rfl, sx_ok, hq, forL_at (nxt_di hm)]
  rfl
theorem cC_0 {s e : Nat} {a : Option Va} (he : G[e]? = some (.dct true [])) : (cC S).ev (LS s m a (some (.ref e))) G = .ok (.ref G.length) (G ++ [.dct false []]) := by
  have le := (List.getElem?_eq_some_iff.mp he).1
  have he' : (G ++ [VO.dct false []])[e]? = some (.dct true []) := by rw [at_old le]; exact he
  show dcE (cItI (cVar 3) : CI S).ev _ _ _ _ _ (LS s m a (some (.ref e))) G = _
  unfold dcE
  rw [cItI_at he rfl, Res.bind_ok]
  have : ∀ tu, lcL (.di e) tu fuelC 0 (G ++ [.dct false []]) = .ok () (G ++ [.dct false []]) := fun tu => by
    obtain ⟨q, hq⟩ : ∃ q, fuelC = q + 1 := ⟨999999, rfl⟩
    rw [hq]
    exact lcL_end (nxt_di he')
  rw [this, Res.bind_ok]
def tK : Va := .str [116]
theorem fB_0 {s e p : Nat} (he : G[e]? = some (.dct false [])) (hs : G[s]? = some (.ins 0 [(11, .ref p)])) (hp : G[p]? = some (.dct false [])) (ep : e ≠ p) : (fB S).ev (LS s m (some tK) (some (.ref e))) G = .nx (LS s m (some tK) (some (.ref e))) ((G ++ [VO.dct false []]).set p (.dct false [(tK, .ref G.length)])) := by
  have le := (List.getElem?_eq_some_iff.mp he).1
  have ls := (List.getElem?_eq_some_iff.mp hs).1
  have lp := (List.getElem?_eq_some_iff.mp hp).1
  have c : (cLock ((cVar 3) : CE S).ev (cC S)).ev (LS s m (some tK) (some (.ref e))) G = .ok (.ref G.length) (G ++ [.dct false []]) := by
    rw [cLock_ev]
    have e3 : (cVar 3 : CE S).ev (LS s m (some tK) (some (.ref e))) G = .ok (.ref e) G := rfl
    have he1 : (G.set e (.dct true []))[e]? = some (.dct true []) := by rw [List.getElem?_set_self le]
    have he2 : (G.set e (.dct true []) ++ [VO.dct false []])[e]? = some (.dct true []) := by rw [at_old (by rw [List.length_set]; exact le)]; exact he1
    rw [e3, lkN_ref, lkB_at he, cC_0 he1, unE_at he2, List.set_append_left _ _ (by rw [List.length_set]; exact le), List.set_set, set_id he, List.length_set]
  have st : (gSuX (cAtt (cVar 0) 11) (cVar 2) : CG S).ev (.ref G.length) (LS s m (some tK) (some (.ref e))) (G ++ [.dct false []]) = .ok (LS s m (some tK) (some (.ref e))) ((G ++ [VO.dct false []]).set p (.dct false [(tK, .ref G.length)])) := by
    have a1 : (cAtt (cVar 0) 11 : CE S).ev (LS s m (some tK) (some (.ref e))) (G ++ [.dct false []]) = .ok (.ref p) (G ++ [.dct false []]) := by
      show attO S 11 (G ++ [.dct false []]) (G ++ [VO.dct false []])[s]? = _
      rw [at_old ls, hs]; rfl
    have a2 : stX tK (.ref G.length) (.ref p) (G ++ [.dct false []]) = some ((G ++ [VO.dct false []]).set p (.dct false [(tK, .ref G.length)])) := by
      have hp' : (G ++ [VO.dct false []])[p]? = some (.dct false []) := by rw [at_old lp]; exact hp
      show stT p tK (.ref G.length) (G ++ [.dct false []]) (G ++ [VO.dct false []])[p]? = _
      rw [hp']
      show stO p tK (.ref G.length) (G ++ [.dct false []]) (G ++ [VO.dct false []])[p]? = _
      rw [hp']
      show (if (keyS tK).isSome = true ∧ ([] : List (Va × Va)).length < sizeLine then some ((G ++ [VO.dct false []]).set p (.dct false (dPut [] tK (.ref G.length)))) else none) = _
      rw [if_pos ⟨rfl, by rw [sizeLine_eq]; decide⟩]
      rfl
    show (noex ((cAtt (cVar 0) 11 : CE S).ev (LS s m (some tK) (some (.ref e))) (G ++ [.dct false []]))).bind (fun o G1 => (noex ((cVar 2 : CE S).ev (LS s m (some tK) (some (.ref e))) G1)).bind fun k G2 => okL (LS s m (some tK) (some (.ref e))) (stX k (.ref G.length) o G2)) = _
    have a3 : (cVar 2 : CE S).ev (LS s m (some tK) (some (.ref e))) (G ++ [.dct false []]) = .ok tK (G ++ [.dct false []]) := rfl
    rw [a1, noex_ok, Res.bind_ok, a3, noex_ok, Res.bind_ok, a2]
    rfl
  unfold fB
  rw [bCons_ev, sAsg_ev, c, sx_ok, st, noex_ok, sx_ok, sq_nx, bNil_ev]
/-- the loop over one table without columns -/
theorem fS_1 {s e p : Nat} (hm : G[m]? = some (.dct true [(tK, .ref e)])) (he : G[e]? = some (.dct false [])) (hs : G[s]? = some (.ins 0 [(11, .ref p)])) (hp : G[p]? = some (.dct false [])) (ep : e ≠ p) (mp : p ≠ m) :
    (fS S).ev (LS s m none none) G = .nx (LS s m (some tK) (some (.ref e))) ((G ++ [VO.dct false []]).set p (.dct false [(tK, .ref G.length)])) := by
  have lm := (List.getElem?_eq_some_iff.mp hm).1
  have hm2 : ((G ++ [VO.dct false []]).set p (.dct false [(tK, .ref G.length)]))[m]? = some (.dct true [(tK, .ref e)]) := by rw [List.getElem?_set_ne mp, at_old lm]; exact hm
  have g : (gTp 2 (gsCons (gNm 2) (gsCons (gNm 3) gsNil)) : CG S).ev (tup2 (tK, .ref e)) (LS s m none none) G = .ok (LS s m (some tK) (some (.ref e))) G := rfl
  obtain ⟨q, hq⟩ : ∃ q, fuelF = q + 2 := ⟨999998, rfl⟩
  unfold fS
  rw [sFor_ev, cItI_at hm rfl, sx_ok, hq, forL_at (nxt_di hm)]
  show for1 (some (tup2 (tK, .ref e))) _ _ _ _ _ = _
  rw [for1_some, g, noex_ok, sx_ok, fB_0 he hs hp ep, lpK_nx, forL_at (nxt_di hm2)]
  rfl
end
end LawX
namespace LawX
open PySem PySem.Spec PyProof.Rows L2 VM
section
variable {S : Sx} {d : Nat} {G : Gh} {L : Lo} {m e : Nat} {kvs : List (Va × Va)}
def scO (j : Nat) : VO := .ins 0 [(11, .ref j)]
theorem init_at : ((G ++ [VO.ins 0 []]) ++ [VO.dct false []]).set G.length (.ins 0 [(11, .ref (G ++ [VO.ins 0 []]).length)]) = G ++ [scO (G.length + 1), .dct false []] := by
  have e : (G ++ [VO.ins 0 []]) ++ [VO.dct false []] = G ++ VO.ins 0 [] :: [VO.dct false []] := by simp
  have e2 : (G ++ [VO.ins 0 []]).length = G.length + 1 := by simp
  rw [e, set_d, e2]; rfl
theorem new_schema0 (T : Tb S) (hm : G[m]? = some (.dct false [])) : newV (S.dp code (d + 1)) 0 [.ref m] G = .ok (.ref G.length) (G ++ [scO (G.length + 1), .dct false []]) := by
  have hi : ((S.dp code (d + 1)).cd 0).init = some 8 := by show (S.cd 0).init = _; rw [T.cd]; rfl
  have lm := (List.getElem?_eq_some_iff.mp hm).1
  have f := fld_ev (S := S.dp code d) (G := G ++ [.ins 0 []]) (s := G.length) (m := m) (a := none) (b := none) T.dp at_d
  rw [init_at] at f
  have hm1 : (G ++ [scO (G.length + 1), .dct false []])[m]? = some (.dct false []) := by rw [at_old lm]; exact hm
  have lm1 := (List.getElem?_eq_some_iff.mp hm1).1
  generalize G ++ [scO (G.length + 1), .dct false []] = G1 at *
  have hm2 : (G1.set m (.dct true []))[m]? = some (.dct true []) := List.getElem?_set_self lm1
  have v1 : (cVar 1 : CE (S.dp code d)).ev (LS G.length m none none) G1 = .ok (.ref m) G1 := rfl
  rw [newV_eq hi, call_dp, f8_call, f, sq_nx, sLock_ev, v1, lkN_ref, lkA_at hm1, fS_0 hm2, unS_at hm2, List.set_set, set_id hm1, sq_nx, toR_nx, Res.bind_ok, newB_non]
theorem new_schema1 (T : Tb S) (hm : G[m]? = some (.dct false [(tK, .ref e)])) (he : G[e]? = some (.dct false [])) : newV (S.dp code (d + 1)) 0 [.ref m] G = .ok (.ref G.length) (G ++ [scO (G.length + 1), .dct false [(tK, .ref (G.length + 2))], .dct false []]) := by
  have hi : ((S.dp code (d + 1)).cd 0).init = some 8 := by show (S.cd 0).init = _; rw [T.cd]; rfl
  have lm := (List.getElem?_eq_some_iff.mp hm).1
  have le := (List.getElem?_eq_some_iff.mp he).1
  have em : m ≠ e := fun z => by subst z; rw [hm] at he; cases he
  have f := fld_ev (S := S.dp code d) (G := G ++ [.ins 0 []]) (s := G.length) (m := m) (a := none) (b := none) T.dp at_d
  rw [init_at] at f
  have hm1 : (G ++ [scO (G.length + 1), .dct false []])[m]? = some (.dct false [(tK, .ref e)]) := by rw [at_old lm]; exact hm
  have x0 : (G ++ [scO (G.length + 1), .dct false []]).set m (.dct true [(tK, .ref e)]) = G.set m (.dct true [(tK, .ref e)]) ++ [scO (G.length + 1), .dct false []] := List.set_append_left _ _ lm
  have lGm : (G.set m (.dct true [(tK, .ref e)])).length = G.length := List.length_set ..
  have a1 : (G.set m (.dct true [(tK, .ref e)]) ++ [scO (G.length + 1), .dct false []])[m]? = some (.dct true [(tK, .ref e)]) := by rw [at_old (by omega), List.getElem?_set_self lm]
  have a2 : (G.set m (.dct true [(tK, .ref e)]) ++ [scO (G.length + 1), .dct false []])[e]? = some (.dct false []) := by rw [at_old (by omega), List.getElem?_set_ne em]; exact he
  have a3 : (G.set m (.dct true [(tK, .ref e)]) ++ [scO (G.length + 1), .dct false []])[G.length]? = some (.ins 0 [(11, .ref (G.length + 1))]) := by rw [List.getElem?_append_right (by omega), lGm]; simp [scO]
  have a4 : (G.set m (.dct true [(tK, .ref e)]) ++ [scO (G.length + 1), .dct false []])[G.length + 1]? = some (.dct false []) := by rw [List.getElem?_append_right (by omega), lGm]; simp
  have s1 := fS_1 (S := S.dp code d) a1 a2 a3 a4 (by omega) (by omega)
  have x1 : (G.set m (.dct true [(tK, .ref e)]) ++ [scO (G.length + 1), .dct false []]).length = G.length + 2 := by simp
  have x2 : ((G.set m (.dct true [(tK, .ref e)]) ++ [scO (G.length + 1), .dct false []]) ++ [VO.dct false []]).set (G.length + 1) (.dct false [(tK, .ref (G.length + 2))]) = G.set m (.dct true [(tK, .ref e)]) ++ [scO (G.length + 1), .dct false [(tK, .ref (G.length + 2))], .dct false []] := by
    rw [List.append_assoc, List.set_append_right _ _ (by omega), lGm]
    simp
  rw [x1, x2] at s1
  have a5 : (G.set m (.dct true [(tK, .ref e)]) ++ [scO (G.length + 1), .dct false [(tK, .ref (G.length + 2))], .dct false []])[m]? = some (.dct true [(tK, .ref e)]) := by rw [at_old (by omega), List.getElem?_set_self lm]
  have x3 : (G.set m (.dct true [(tK, .ref e)]) ++ [scO (G.length + 1), .dct false [(tK, .ref (G.length + 2))], .dct false []]).set m (.dct false [(tK, .ref e)]) = G ++ [scO (G.length + 1), .dct false [(tK, .ref (G.length + 2))], .dct false []] := by
    rw [List.set_append_left _ _ (by omega), List.set_set, set_id hm]
  have v1 : (cVar 1 : CE (S.dp code d)).ev (LS G.length m none none) (G ++ [scO (G.length + 1), .dct false []]) = .ok (.ref m) (G ++ [scO (G.length + 1), .dct false []]) := rfl
  rw [newV_eq hi, call_dp, f8_call, f, sq_nx, sLock_ev, v1, lkN_ref, lkA_at hm1, x0, s1, unS_at a5, x3, sq_nx, toR_nx, Res.bind_ok, newB_non]
/-! ### == of schemas -/
theorem eqE_d0 {k a b : Nat} (h : G[a]? = some (.dct false [])) (h' : G[b]? = some (.dct false [])) : eqE (k + 1) G (.ref a) (.ref b) = some true := by
  show (if sameR (.ref a) (.ref b) = true then some true else orE (eqD G (.ref a) (.ref b)) (eqY (eqE k G) G (.ref a) (.ref b))) = _
  split
  · rfl
  · have hd : eqD G (.ref a) (.ref b) = none := by
      show eqDD (((lstO G[a]?).bind (mapO (toD 29 G))).map PyData.list) _ = none
      rw [h]; rfl
    rw [hd]
    show eqO (eqE k G) G[a]? G[b]? = _
    rw [h, h']; rfl
theorem eqR_dct {a b : Nat} {neg c : Bool} {xs ys : List (Va × Va)} (hn : neg = false) (h : G[a]? = some (.dct false xs)) (h' : G[b]? = some (.dct false ys)) (q : eqKs (eqE 20 G) xs ys = some c) : eqR S neg (.ref a) (.ref b) G = .ok (.bl c) G := by
  subst hn
  have hk : eqk S G (.ref a) = none := by
    show eqkO S G[a]? = none
    rw [h]; rfl
  have hd : eqD G (.ref a) (.ref b) = none := by
    show eqDD (((lstO G[a]?).bind (mapO (toD 29 G))).map PyData.list) _ = none
    rw [h]; rfl
  unfold eqR
  rw [hk]
  show lift ((orE (eqD G (.ref a) (.ref b)) (eqO (eqE 20 G) G[a]? G[b]?)).map fun b => (Va.bl b, G)) = _
  rw [hd, h, h']
  show lift ((eqKs (eqE 20 G) xs ys).map fun b => (Va.bl b, G)) = _
  rw [q]; rfl
theorem eqKs_11 {a b : Nat} (h : G[a]? = some (.dct false [])) (h' : G[b]? = some (.dct false [])) : eqKs (eqE 20 G) [(tK, .ref a)] [(tK, .ref b)] = some true := by
  show ((eqE 20 G (.ref a) (.ref b)).bind fun b => (some true).map fun c => b && c) = _
  rw [eqE_d0 h h']; rfl
theorem eqKs_01 {a : Nat} : eqKs (eqE 20 G) [] [(tK, .ref a)] = some false := rfl
theorem v_eqS (T : Tb S) {a b p q : Nat} {xs ys : List (Va × Va)} {c : Bool} (ha : G[a]? = some (scO p)) (hb : G[b]? = some (scO q)) (hp : G[p]? = some (.dct false xs)) (hq : G[q]? = some (.dct false ys)) (e : eqKs (eqE 20 G) xs ys = some c) : callF S code (d + 1) 9 [.ref a, .ref b] G = .ok (.bl c) G := by
  have is := isi_own (S := S.dp code d) T.dp hb (c := 0) (by decide) (by decide)
  have r := eqR_dct (S := S.dp code d) (neg := false) rfl hp hq e
  unfold scO at ha hb
  rw [callF_succ]
  simp [code, f9, startL, is, ha, hb, List.lookup, r]
theorem v_eqS5 (T : Tb S) {a : Nat} {x : Int} : callF S code (d + 1) 9 [.ref a, .int x] G = .ok (.bl false) G := by
  have is := isi_ic (S := S.dp code d) (G := G) T.dp (x := x) (c := 0) (by decide)
  rw [callF_succ]
  simp [code, f9, startL, is]
theorem eq_S (T : Tb S) {a b p q : Nat} {xs ys : List (Va × Va)} {c neg : Bool} (ha : G[a]? = some (scO p)) (hb : G[b]? = some (scO q)) (hp : G[p]? = some (.dct false xs)) (hq : G[q]? = some (.dct false ys)) (e : eqKs (eqE 20 G) xs ys = some c) : eqR (S.dp code (d + 1)) neg (.ref a) (.ref b) G = .ok (.bl (neg ^^ c)) G := by
  refine eqR_own (f := 9) ha (by rw [T.cd]; rfl) ?_ (v_eqS T ha hb hp hq e)
  show insO G[b]? = true
  rw [hb]; rfl
theorem eq_S5 (T : Tb S) {a p : Nat} {x : Int} {neg : Bool} (ha : G[a]? = some (scO p)) : eqR (S.dp code (d + 1)) neg (.ref a) (.int x) G = .ok (.bl (neg ^^ false)) G :=
  eqR_own (f := 9) ha (by rw [T.cd]; rfl) rfl (v_eqS5 T)
end
end LawX
namespace LawX
open PySem PySem.Spec PyProof.Rows L2 VM
section
variable {S : Sx} {d : Nat} {G : Gh} {L : Lo}
def cdT (S : Sx) : CE S := (cDsp (cpCons (cS [116]) cD0 cpNil))
def nwT (S : Sx) : CE S := (cNew 0 (aCons (cdT S) aNil))
def nw0 (S : Sx) : CE S := (cNew 0 (aCons cD0 aNil))
def nwE (S : Sx) : CE S := (cNew 3 (aCons (cTup (aCons (cI 0) (aCons (cI 1) aNil))) aNil))
def nwS (S : Sx) : CE S := (cNew 4 (aCons (cTup aNil) (aCons (cTup (aCons (cI 0) (aCons (cI 1) aNil))) (aCons (cTup (aCons (cI 0) (aCons (cI 1) aNil))) (aCons (cTup (aCons (cI 0) (aCons (cI 1) aNil))) aNil)))))
theorem q5_eq : q5 S = sRet (cBop true (cBool (nwE S)) [cNot (nwS S), cEq false (nwT S) (nwT S), cEq true (nw0 S) (nwT S), cEq true (nw0 S) (cI 5)]) := rfl
theorem cdT_ev : (cdT S).ev L G = .ok (.ref G.length) (G ++ [.dct false [(tK, .ref (G.length + 1))], .dct false []]) := by
  have e : (G ++ [VO.dct false []]).length = G.length + 1 := by simp
  have e2 : (G ++ [VO.dct false []]) ++ [VO.dct false []] = G ++ VO.dct false [] :: [VO.dct false []] := by simp
  show dspO G.length [(tK, .ref (G ++ [VO.dct false []]).length)] ((G ++ [VO.dct false []]) ++ [VO.dct false []]) ((G ++ [VO.dct false []]) ++ [VO.dct false []])[G.length]? = _
  rw [e, e2, at_d]
  show (if allS [(tK, Va.ref (G.length + 1))] = true ∧ [(tK, Va.ref (G.length + 1))].length ≤ 15 then Res.ok (Va.ref G.length) ((G ++ VO.dct false [] :: [VO.dct false []]).set G.length (.dct false (dMerge [] [(tK, .ref (G.length + 1))]))) else Res.no) = _
  rw [if_pos ⟨rfl, by simp⟩, set_d]
  rfl
theorem nwT_ev (T : Tb S) : ∃ W a p q, (nwT (S.dp code 30)).ev L G = .ok (.ref a) (G ++ W) ∧ (G ++ W)[a]? = some (scO p) ∧ (G ++ W)[p]? = some (.dct false [(tK, .ref q)]) ∧ (G ++ W)[q]? = some (.dct false []) := by
  have m1 : (G ++ [.dct false [(tK, .ref (G.length + 1))], .dct false []])[G.length]? = some (.dct false [(tK, .ref (G.length + 1))]) := by simp
  have m2 : (G ++ [.dct false [(tK, .ref (G.length + 1))], .dct false []])[G.length + 1]? = some (.dct false []) := by simp
  have n := new_schema1 (S := S) (d := 29) T m1 m2
  have l2 : (G ++ [VO.dct false [(tK, .ref (G.length + 1))], .dct false []]).length = G.length + 2 := by simp
  rw [l2] at n
  refine ⟨[.dct false [(tK, .ref (G.length + 1))], .dct false [], scO (G.length + 2 + 1), .dct false [(tK, .ref (G.length + 2 + 2))], .dct false []], G.length + 2, G.length + 2 + 1, G.length + 2 + 2, ?_, by simp, by simp [Nat.add_assoc], by simp [Nat.add_assoc]⟩
  show (((cdT (S.dp code 30)).ev L G).bind fun v G1 => Res.ok [v] G1).bind (newV (S.dp code 30) 0) = _
  rw [cdT_ev, Res.bind_ok, Res.bind_ok, n]
  simp
theorem nw0_ev (T : Tb S) : ∃ W a p, (nw0 (S.dp code 30)).ev L G = .ok (.ref a) (G ++ W) ∧ (G ++ W)[a]? = some (scO p) ∧ (G ++ W)[p]? = some (.dct false []) := by
  have m1 : (G ++ [.dct false []])[G.length]? = some (.dct false []) := by simp
  have n := new_schema0 (S := S) (d := 29) T m1
  have l2 : (G ++ [VO.dct false []]).length = G.length + 1 := by simp
  rw [l2] at n
  refine ⟨[.dct false [], scO (G.length + 1 + 1), .dct false []], G.length + 1, G.length + 1 + 1, ?_, by simp, by simp [Nat.add_assoc]⟩
  show newV (S.dp code 30) 0 [.ref G.length] (G ++ [.dct false []]) = _
  rw [n]
  simp
theorem tr_ins {n c k : Nat} {fs : List (Nat × Va)} {b : Bool} (h : G[n]? = some (.ins c fs)) (hk : (S.cd c).bool = some k) (hc : S.call k [.ref n] G = .ok (.bl b) G) : tr S (.ref n) G = .ok b G := by
  show trO S n G G[n]? = _
  rw [h]
  show trI S n G (S.cd c).bool = _
  rw [hk]
  show (S.call k [.ref n] G).bind asB = _
  rw [hc]; rfl
theorem v_boolE {n : Nat} : callF S code (d + 1) 17 [.ref n] G = .ok (.bl true) G := by
  rw [callF_succ]
  simp [code, f17, startL]
theorem v_boolS {n : Nat} : callF S code (d + 1) 20 [.ref n] G = .ok (.bl false) G := by
  rw [callF_succ]
  simp [code, f20, startL]
theorem c1_ev (T : Tb S) : ∃ W, (cBool (nwE (S.dp code 30))).ev L G = .ok (.bl true) (G ++ W) := by
  have n := new_enough (S := S) (d := 29) (G := G) (v := .tup [.int 0, .int 1]) T
  refine ⟨[.ins 3 [(10, .tup [.int 0, .int 1])]], ?_⟩
  have e : (nwE (S.dp code 30)).ev L G = .ok (.ref G.length) (G ++ [.ins 3 [(10, .tup [.int 0, .int 1])]]) := by
    unfold nwE
    simp [n]
  have t := tr_ins (S := S.dp code 30) (b := true) (k := 17) (at_d (G := G) (o := .ins 3 [(10, .tup [.int 0, .int 1])]) (t := [])) (by show (S.cd 3).bool = _; rw [T.cd]; rfl) (v_boolE (S := S) (d := 29) (n := G.length))
  rw [cBool_ev, e, Res.bind_ok, t, Res.bind_ok]
theorem c2_ev (T : Tb S) : ∃ W, (cNot (nwS (S.dp code 30))).ev L G = .ok (.bl true) (G ++ W) := by
  have n := new_short (S := S) (d := 29) (G := G) (v := .tup []) (a := .tup [.int 0, .int 1]) (b := .tup [.int 0, .int 1]) (c := .tup [.int 0, .int 1]) T tup_tup
  refine ⟨[.ins 4 [(6, .tup []), (7, .tup [.int 0, .int 1]), (8, .tup [.int 0, .int 1]), (9, .tup [.int 0, .int 1])]], ?_⟩
  have e : (nwS (S.dp code 30)).ev L G = .ok (.ref G.length) (G ++ [.ins 4 [(6, .tup []), (7, .tup [.int 0, .int 1]), (8, .tup [.int 0, .int 1]), (9, .tup [.int 0, .int 1])]]) := by
    unfold nwS
    simp [n]
  have t := tr_ins (S := S.dp code 30) (b := false) (k := 20) (at_d (G := G) (o := .ins 4 [(6, .tup []), (7, .tup [.int 0, .int 1]), (8, .tup [.int 0, .int 1]), (9, .tup [.int 0, .int 1])]) (t := [])) (by show (S.cd 4).bool = _; rw [T.cd]; rfl) (v_boolS (S := S) (d := 29) (n := G.length))
  rw [cNot_ev, eNot_eq, eT_eq, e, Res.bind_ok, t, Res.bind_ok]
  rfl
theorem c3_ev (T : Tb S) : ∃ W, (cEq false (nwT (S.dp code 30)) (nwT (S.dp code 30))).ev L G = .ok (.bl true) (G ++ W) := by
  obtain ⟨W, a, p, q, e, h1, h2, h3⟩ := nwT_ev (L := L) (G := G) T
  obtain ⟨W', a', p', q', e', h1', h2', h3'⟩ := nwT_ev (L := L) (G := G ++ W) T
  have k : ∀ {x : Nat} {o : VO}, (G ++ W)[x]? = some o → (G ++ W ++ W')[x]? = some o := fun h => by rw [at_old (List.getElem?_eq_some_iff.mp h).1]; exact h
  have r := eq_S (S := S) (d := 29) (neg := false) T (k h1) h1' (k h2) h2' (eqKs_11 (k h3) h3')
  refine ⟨W ++ W', ?_⟩
  rw [cEq_ev, e, Res.bind_ok, e', Res.bind_ok, r, noex_ok, List.append_assoc]
  rfl
theorem c4_ev (T : Tb S) : ∃ W, (cEq true (nw0 (S.dp code 30)) (nwT (S.dp code 30))).ev L G = .ok (.bl true) (G ++ W) := by
  obtain ⟨W, a, p, e, h1, h2⟩ := nw0_ev (L := L) (G := G) T
  obtain ⟨W', a', p', q', e', h1', h2', h3'⟩ := nwT_ev (L := L) (G := G ++ W) T
  have k : ∀ {x : Nat} {o : VO}, (G ++ W)[x]? = some o → (G ++ W ++ W')[x]? = some o := fun h => by rw [at_old (List.getElem?_eq_some_iff.mp h).1]; exact h
  have r := eq_S (S := S) (d := 29) (neg := true) T (k h1) h1' (k h2) h2' eqKs_01
  refine ⟨W ++ W', ?_⟩
  rw [cEq_ev, e, Res.bind_ok, e', Res.bind_ok, r, noex_ok, List.append_assoc]
  rfl
theorem c5_ev (T : Tb S) : ∃ W, (cEq true (nw0 (S.dp code 30)) (cI 5)).ev L G = .ok (.bl true) (G ++ W) := by
  obtain ⟨W, a, p, e, h1, h2⟩ := nw0_ev (L := L) (G := G) T
  have r := eq_S5 (S := S) (d := 29) (x := 5) (neg := true) T h1
  refine ⟨W, ?_⟩
  rw [cEq_ev, e, Res.bind_ok, cI_ev, Res.bind_ok, r, noex_ok]
  rfl
theorem q5_ev (T : Tb S) : ∃ W, (q5 (S.dp code 30)).ev L G = .rt (.bl true) (G ++ W) := by
  obtain ⟨W1, e1⟩ := c1_ev (L := L) (G := G) T
  obtain ⟨W2, e2⟩ := c2_ev (L := L) (G := G ++ W1) T
  obtain ⟨W3, e3⟩ := c3_ev (L := L) (G := G ++ W1 ++ W2) T
  obtain ⟨W4, e4⟩ := c4_ev (L := L) (G := G ++ W1 ++ W2 ++ W3) T
  obtain ⟨W5, e5⟩ := c5_ev (L := L) (G := G ++ W1 ++ W2 ++ W3 ++ W4) T
  refine ⟨W1 ++ (W2 ++ (W3 ++ (W4 ++ W5))), ?_⟩
  have fin : G ++ W1 ++ W2 ++ W3 ++ W4 ++ W5 = G ++ (W1 ++ (W2 ++ (W3 ++ (W4 ++ W5)))) := by simp
  rw [fin] at e5
  rw [q5_eq, sRet_ev, cBop_ev, eBop_cons, e1, Res.bind_ok, tr_bl, Res.bind_ok, if_pos rfl, eBop_cons, e2, Res.bind_ok, tr_bl, Res.bind_ok, if_pos rfl, eBop_cons, e3, Res.bind_ok, tr_bl, Res.bind_ok, if_pos rfl, eBop_cons, e4, Res.bind_ok, tr_bl, Res.bind_ok, if_pos rfl, eBop_one, e5, sx_ok]
end
end LawX
namespace LawX
open PySem PySem.Spec PyProof.Rows L2 VM
theorem nm_inj : ∀ i j, i < 16 → j < 16 → nmF i = nmF j → i = j := by
  have h : (List.range 16).all (fun i => (List.range 16).all fun j => !decide (nmF i = nmF j) || decide (i = j)) = true := by decide +kernel
  intro i j hi hj e
  have h1 := List.all_eq_true.mp (List.all_eq_true.mp h i (List.mem_range.mpr hi)) j (List.mem_range.mpr hj)
  rw [decide_eq_true e] at h1
  simpa using h1
theorem all_mk {l : PySem.W.OpenLaw} {w : World} {K : PySem.W.Frag} {h : Heap} {mg : Str → Option Value} {fa : Addr} (X : K.In h) (G : h.Ns mainGlobals mg) (hfa : mg "law" = some (.ref fa))
    {f0 f1 f2 f3 f4 f5 f6 f7 f8 f9 f10 f11 f12 f13 f14 f15 f16 f17 f18 f19 f20 C0 C1 C2 C3 C4 : Addr} {t0 : Tok}
    {od0 an0 od1 an1 od2 an2 od3 an3 od4 an4 od5 an5 od6 an6 od7 an7 od8 an8 od9 an9 od10 an10 od11 an11 od12 an12 od13 an13 od14 an14 od15 an15 od16 an16 od17 an17 od18 an18 od19 an19 od20 an20 : Option Addr} {sl0 sl1 sl2 sl3 sl4 sl5 sl6 sl7 sl8 sl9 sl10 sl11 sl12 sl13 sl14 sl15 sl16 sl17 sl18 sl19 sl20 : Array (Option Value)} {oc0 kV0 dc0 pm0 cd0 ct0 oc1 kV1 dc1 pm1 cd1 ct1 oc2 kV2 dc2 pm2 cd2 ct2 oc3 kV3 dc3 pm3 cd3 ct3 oc4 kV4 dc4 pm4 cd4 ct4 oc5 kV5 dc5 pm5 cd5 ct5 oc6 kV6 dc6 pm6 cd6 ct6 oc7 kV7 dc7 pm7 cd7 ct7 oc8 kV8 dc8 pm8 cd8 ct8 oc9 kV9 dc9 pm9 cd9 ct9 oc10 kV10 dc10 pm10 cd10 ct10 oc11 kV11 dc11 pm11 cd11 ct11 oc12 kV12 dc12 pm12 cd12 ct12 oc13 kV13 dc13 pm13 cd13 ct13 oc14 kV14 dc14 pm14 cd14 ct14 oc15 kV15 dc15 pm15 cd15 ct15 oc16 kV16 dc16 pm16 cd16 ct16 oc17 kV17 dc17 pm17 cd17 ct17 oc18 kV18 dc18 pm18 cd18 ct18 oc19 kV19 dc19 pm19 cd19 ct19 oc20 kV20 dc20 pm20 cd20 ct20 : Value}
    (aC0 : PySem.W.nsIn K mainGlobals "Schema" = some (some (.ref C0)))
    (aC1 : PySem.W.nsIn K mainGlobals "Woven" = some (some (.ref C1)))
    (aC2 : PySem.W.nsIn K mainGlobals "Terms" = some (some (.ref C2)))
    (aC3 : PySem.W.nsIn K mainGlobals "Enough" = some (some (.ref C3)))
    (aC4 : PySem.W.nsIn K mainGlobals "TooShort" = some (some (.ref C4)))
    (a0 : PySem.W.nsIn K mainGlobals "is_whole" = some (some (.ref f0)))
    (l0 : K.lookup f0 = some ⟨oc0, od0, .func (PySem.W.fnOf "is_whole" "is_whole" (defArgs st0) (defBody st0) (defScope st0) .none kV0 dc0 pm0 an0 cd0 ct0), sl0⟩)
    (c0 : PySem.W.codeIn K cd0 "is_whole" = true)
    (k0 : PySem.W.keepIn K (.ref f0) = true)
    (a1 : PySem.W.nsIn K mainGlobals "is_fraction" = some (some (.ref f1)))
    (l1 : K.lookup f1 = some ⟨oc1, od1, .func (PySem.W.fnOf "is_fraction" "is_fraction" (defArgs st1) (defBody st1) (defScope st1) .none kV1 dc1 pm1 an1 cd1 ct1), sl1⟩)
    (c1 : PySem.W.codeIn K cd1 "is_fraction" = true)
    (k1 : PySem.W.keepIn K (.ref f1) = true)
    (a2 : PySem.W.nsIn K mainGlobals "_law_number" = some (some (.ref f2)))
    (l2 : K.lookup f2 = some ⟨oc2, od2, .func (PySem.W.fnOf "_law_number" "_law_number" (defArgs st2) (defBody st2) (defScope st2) .none kV2 dc2 pm2 an2 cd2 ct2), sl2⟩)
    (c2 : PySem.W.codeIn K cd2 "_law_number" = true)
    (k2 : PySem.W.keepIn K (.ref f2) = true)
    (a3 : PySem.W.nsIn K mainGlobals "_law_take" = some (some (.ref f3)))
    (l3 : K.lookup f3 = some ⟨oc3, od3, .func (PySem.W.fnOf "_law_take" "_law_take" (defArgs st3) (defBody st3) (defScope st3) .none kV3 dc3 pm3 an3 cd3 ct3), sl3⟩)
    (c3 : PySem.W.codeIn K cd3 "_law_take" = true)
    (k3 : PySem.W.keepIn K (.ref f3) = true)
    (a4 : PySem.W.nsIn K mainGlobals "_law_made" = some (some (.ref f4)))
    (l4 : K.lookup f4 = some ⟨oc4, od4, .func (PySem.W.fnOf "_law_made" "_law_made" (defArgs st4) (defBody st4) (defScope st4) .none kV4 dc4 pm4 an4 cd4 ct4), sl4⟩)
    (c4 : PySem.W.codeIn K cd4 "_law_made" = true)
    (k4 : PySem.W.keepIn K (.ref f4) = true)
    (a5 : PySem.W.nsIn K mainGlobals "_law_told" = some (some (.ref f5)))
    (l5 : K.lookup f5 = some ⟨oc5, od5, .func (PySem.W.fnOf "_law_told" "_law_told" (defArgs st5) (defBody st5) (defScope st5) .none kV5 dc5 pm5 an5 cd5 ct5), sl5⟩)
    (c5 : PySem.W.codeIn K cd5 "_law_told" = true)
    (k5 : PySem.W.keepIn K (.ref f5) = true)
    (a6 : PySem.W.nsIn K mainGlobals "_law_schema_right" = some (some (.ref f6)))
    (l6 : K.lookup f6 = some ⟨oc6, od6, .func (PySem.W.fnOf "_law_schema_right" "_law_schema_right" (defArgs st6) (defBody st6) (defScope st6) .none kV6 dc6 pm6 an6 cd6 ct6), sl6⟩)
    (c6 : PySem.W.codeIn K cd6 "_law_schema_right" = true)
    (k6 : PySem.W.keepIn K (.ref f6) = true)
    (a7 : PySem.W.nsIn K mainGlobals "law" = some (some (.ref f7)))
    (l7 : K.lookup f7 = some ⟨oc7, od7, .func (PySem.W.fnOf "law" "law" (defArgs st7) (defBody st7) (defScope st7) .none kV7 dc7 pm7 an7 cd7 ct7), sl7⟩)
    (c7 : PySem.W.codeIn K cd7 "law" = true)
    (k7 : PySem.W.keepIn K (.ref f7) = true)
    (a8 : PySem.W.findIn K (.ref C0) "__init__" = some (some (.ref f8)))
    (i8 : PySem.W.isFn K (.ref f8) = true)
    (l8 : K.lookup f8 = some ⟨oc8, od8, .func (PySem.W.fnOf "__init__" "Schema.__init__" (defArgs st8) (defBody st8) (defScope st8) .none kV8 dc8 pm8 an8 cd8 ct8), sl8⟩)
    (c8 : PySem.W.codeIn K cd8 "Schema.__init__" = true)
    (k8 : PySem.W.keepIn K (.ref f8) = true)
    (a9 : PySem.W.findIn K (.ref C0) "__eq__" = some (some (.ref f9)))
    (i9 : PySem.W.isFn K (.ref f9) = true)
    (l9 : K.lookup f9 = some ⟨oc9, od9, .func (PySem.W.fnOf "__eq__" "Schema.__eq__" (defArgs st9) (defBody st9) (defScope st9) .none kV9 dc9 pm9 an9 cd9 ct9), sl9⟩)
    (c9 : PySem.W.codeIn K cd9 "Schema.__eq__" = true)
    (k9 : PySem.W.keepIn K (.ref f9) = true)
    (a10 : PySem.W.findIn K (.ref C0) "marked" = some (some (.ref f10)))
    (i10 : PySem.W.isFn K (.ref f10) = true)
    (l10 : K.lookup f10 = some ⟨oc10, od10, .func (PySem.W.fnOf "marked" "Schema.marked" (defArgs st10) (defBody st10) (defScope st10) .none kV10 dc10 pm10 an10 cd10 ct10), sl10⟩)
    (c10 : PySem.W.codeIn K cd10 "Schema.marked" = true)
    (k10 : PySem.W.keepIn K (.ref f10) = true)
    (a11 : PySem.W.findIn K (.ref C1) "__init__" = some (some (.ref f11)))
    (i11 : PySem.W.isFn K (.ref f11) = true)
    (l11 : K.lookup f11 = some ⟨oc11, od11, .func (PySem.W.fnOf "__init__" "Woven.__init__" (defArgs st11) (defBody st11) (defScope st11) .none kV11 dc11 pm11 an11 cd11 ct11), sl11⟩)
    (c11 : PySem.W.codeIn K cd11 "Woven.__init__" = true)
    (k11 : PySem.W.keepIn K (.ref f11) = true)
    (a12 : PySem.W.findIn K (.ref C1) "__eq__" = some (some (.ref f12)))
    (i12 : PySem.W.isFn K (.ref f12) = true)
    (l12 : K.lookup f12 = some ⟨oc12, od12, .func (PySem.W.fnOf "__eq__" "Woven.__eq__" (defArgs st12) (defBody st12) (defScope st12) .none kV12 dc12 pm12 an12 cd12 ct12), sl12⟩)
    (c12 : PySem.W.codeIn K cd12 "Woven.__eq__" = true)
    (k12 : PySem.W.keepIn K (.ref f12) = true)
    (a13 : PySem.W.findIn K (.ref C2) "__init__" = some (some (.ref f13)))
    (i13 : PySem.W.isFn K (.ref f13) = true)
    (l13 : K.lookup f13 = some ⟨oc13, od13, .func (PySem.W.fnOf "__init__" "Terms.__init__" (defArgs st13) (defBody st13) (defScope st13) .none kV13 dc13 pm13 an13 cd13 ct13), sl13⟩)
    (c13 : PySem.W.codeIn K cd13 "Terms.__init__" = true)
    (k13 : PySem.W.keepIn K (.ref f13) = true)
    (a14 : PySem.W.findIn K (.ref C2) "__eq__" = some (some (.ref f14)))
    (i14 : PySem.W.isFn K (.ref f14) = true)
    (l14 : K.lookup f14 = some ⟨oc14, od14, .func (PySem.W.fnOf "__eq__" "Terms.__eq__" (defArgs st14) (defBody st14) (defScope st14) .none kV14 dc14 pm14 an14 cd14 ct14), sl14⟩)
    (c14 : PySem.W.codeIn K cd14 "Terms.__eq__" = true)
    (k14 : PySem.W.keepIn K (.ref f14) = true)
    (a15 : PySem.W.findIn K (.ref C3) "__init__" = some (some (.ref f15)))
    (i15 : PySem.W.isFn K (.ref f15) = true)
    (l15 : K.lookup f15 = some ⟨oc15, od15, .func (PySem.W.fnOf "__init__" "Enough.__init__" (defArgs st15) (defBody st15) (defScope st15) .none kV15 dc15 pm15 an15 cd15 ct15), sl15⟩)
    (c15 : PySem.W.codeIn K cd15 "Enough.__init__" = true)
    (k15 : PySem.W.keepIn K (.ref f15) = true)
    (a16 : PySem.W.findIn K (.ref C3) "__eq__" = some (some (.ref f16)))
    (i16 : PySem.W.isFn K (.ref f16) = true)
    (l16 : K.lookup f16 = some ⟨oc16, od16, .func (PySem.W.fnOf "__eq__" "Enough.__eq__" (defArgs st16) (defBody st16) (defScope st16) .none kV16 dc16 pm16 an16 cd16 ct16), sl16⟩)
    (c16 : PySem.W.codeIn K cd16 "Enough.__eq__" = true)
    (k16 : PySem.W.keepIn K (.ref f16) = true)
    (a17 : PySem.W.findIn K (.ref C3) "__bool__" = some (some (.ref f17)))
    (i17 : PySem.W.isFn K (.ref f17) = true)
    (l17 : K.lookup f17 = some ⟨oc17, od17, .func (PySem.W.fnOf "__bool__" "Enough.__bool__" (defArgs st17) (defBody st17) (defScope st17) .none kV17 dc17 pm17 an17 cd17 ct17), sl17⟩)
    (c17 : PySem.W.codeIn K cd17 "Enough.__bool__" = true)
    (k17 : PySem.W.keepIn K (.ref f17) = true)
    (a18 : PySem.W.findIn K (.ref C4) "__init__" = some (some (.ref f18)))
    (i18 : PySem.W.isFn K (.ref f18) = true)
    (l18 : K.lookup f18 = some ⟨oc18, od18, .func (PySem.W.fnOf "__init__" "TooShort.__init__" (defArgs st18) (defBody st18) (defScope st18) .none kV18 dc18 pm18 an18 cd18 ct18), sl18⟩)
    (c18 : PySem.W.codeIn K cd18 "TooShort.__init__" = true)
    (k18 : PySem.W.keepIn K (.ref f18) = true)
    (a19 : PySem.W.findIn K (.ref C4) "__eq__" = some (some (.ref f19)))
    (i19 : PySem.W.isFn K (.ref f19) = true)
    (l19 : K.lookup f19 = some ⟨oc19, od19, .func (PySem.W.fnOf "__eq__" "TooShort.__eq__" (defArgs st19) (defBody st19) (defScope st19) .none kV19 dc19 pm19 an19 cd19 ct19), sl19⟩)
    (c19 : PySem.W.codeIn K cd19 "TooShort.__eq__" = true)
    (k19 : PySem.W.keepIn K (.ref f19) = true)
    (a20 : PySem.W.findIn K (.ref C4) "__bool__" = some (some (.ref f20)))
    (i20 : PySem.W.isFn K (.ref f20) = true)
    (l20 : K.lookup f20 = some ⟨oc20, od20, .func (PySem.W.fnOf "__bool__" "TooShort.__bool__" (defArgs st20) (defBody st20) (defScope st20) .none kV20 dc20 pm20 an20 cd20 ct20), sl20⟩)
    (c20 : PySem.W.codeIn K cd20 "TooShort.__bool__" = true)
    (k20 : PySem.W.keepIn K (.ref f20) = true)
    (pg0 : PySem.W.plainGet K C0 Str.empty = true)
    (hd0 : PySem.W.hasDictIn K C0 = true)
    (po0 : PySem.W.plainOver K C0 = true)
    (sa0 : PySem.W.findIn K (.ref C0) "__setattr__" = some (some (.builtin "object.__setattr__")))
    (mk0 : PySem.W.makesIn K C0 = true)
    (kc0 : PySem.W.keepIn K (.ref C0) = true)
    (ic0 : PySem.W.findIn K (.ref C0) "__class__" = some (some (.builtin "object.__class__")))
    (im0 : PySem.W.mroIn K C0 (.type "object") = some true)
    (ty0 : PySem.W.typeIn K (.ref C0) = some (.type "type"))
    (nq0 : PySem.W.findIn K (.ref C0) "__ne__" = some (some (.builtin "object.__ne__")))
    (n0_11 : PySem.W.findIn K (.ref C0) "tables" = some none)
    (pg1 : PySem.W.plainGet K C1 Str.empty = true)
    (hd1 : PySem.W.hasDictIn K C1 = true)
    (po1 : PySem.W.plainOver K C1 = true)
    (sa1 : PySem.W.findIn K (.ref C1) "__setattr__" = some (some (.builtin "object.__setattr__")))
    (mk1 : PySem.W.makesIn K C1 = true)
    (kc1 : PySem.W.keepIn K (.ref C1) = true)
    (ic1 : PySem.W.findIn K (.ref C1) "__class__" = some (some (.builtin "object.__class__")))
    (im1 : PySem.W.mroIn K C1 (.type "object") = some true)
    (ty1 : PySem.W.typeIn K (.ref C1) = some (.type "type"))
    (nq1 : PySem.W.findIn K (.ref C1) "__ne__" = some (some (.builtin "object.__ne__")))
    (n1_2 : PySem.W.findIn K (.ref C1) "chain" = some none)
    (n1_0 : PySem.W.findIn K (.ref C1) "length" = some none)
    (n1_1 : PySem.W.findIn K (.ref C1) "starts" = some none)
    (pg2 : PySem.W.plainGet K C2 Str.empty = true)
    (hd2 : PySem.W.hasDictIn K C2 = true)
    (po2 : PySem.W.plainOver K C2 = true)
    (sa2 : PySem.W.findIn K (.ref C2) "__setattr__" = some (some (.builtin "object.__setattr__")))
    (mk2 : PySem.W.makesIn K C2 = true)
    (kc2 : PySem.W.keepIn K (.ref C2) = true)
    (ic2 : PySem.W.findIn K (.ref C2) "__class__" = some (some (.builtin "object.__class__")))
    (im2 : PySem.W.mroIn K C2 (.type "object") = some true)
    (ty2 : PySem.W.typeIn K (.ref C2) = some (.type "type"))
    (nq2 : PySem.W.findIn K (.ref C2) "__ne__" = some (some (.builtin "object.__ne__")))
    (n2_3 : PySem.W.findIn K (.ref C2) "delay" = some none)
    (n2_5 : PySem.W.findIn K (.ref C2) "drift" = some none)
    (n2_0 : PySem.W.findIn K (.ref C2) "length" = some none)
    (n2_4 : PySem.W.findIn K (.ref C2) "wait" = some none)
    (pg3 : PySem.W.plainGet K C3 Str.empty = true)
    (hd3 : PySem.W.hasDictIn K C3 = true)
    (po3 : PySem.W.plainOver K C3 = true)
    (sa3 : PySem.W.findIn K (.ref C3) "__setattr__" = some (some (.builtin "object.__setattr__")))
    (mk3 : PySem.W.makesIn K C3 = true)
    (kc3 : PySem.W.keepIn K (.ref C3) = true)
    (ic3 : PySem.W.findIn K (.ref C3) "__class__" = some (some (.builtin "object.__class__")))
    (im3 : PySem.W.mroIn K C3 (.type "object") = some true)
    (ty3 : PySem.W.typeIn K (.ref C3) = some (.type "type"))
    (nq3 : PySem.W.findIn K (.ref C3) "__ne__" = some (some (.builtin "object.__ne__")))
    (n3_10 : PySem.W.findIn K (.ref C3) "margin" = some none)
    (pg4 : PySem.W.plainGet K C4 Str.empty = true)
    (hd4 : PySem.W.hasDictIn K C4 = true)
    (po4 : PySem.W.plainOver K C4 = true)
    (sa4 : PySem.W.findIn K (.ref C4) "__setattr__" = some (some (.builtin "object.__setattr__")))
    (mk4 : PySem.W.makesIn K C4 = true)
    (kc4 : PySem.W.keepIn K (.ref C4) = true)
    (ic4 : PySem.W.findIn K (.ref C4) "__class__" = some (some (.builtin "object.__class__")))
    (im4 : PySem.W.mroIn K C4 (.type "object") = some true)
    (ty4 : PySem.W.typeIn K (.ref C4) = some (.type "type"))
    (nq4 : PySem.W.findIn K (.ref C4) "__ne__" = some (some (.builtin "object.__ne__")))
    (n4_8 : PySem.W.findIn K (.ref C4) "came" = some none)
    (n4_7 : PySem.W.findIn K (.ref C4) "made" = some none)
    (n4_6 : PySem.W.findIn K (.ref C4) "tells" = some none)
    (n4_9 : PySem.W.findIn K (.ref C4) "used" = some none)
    (mr0_1 : PySem.W.mroIn K C0 (.ref C1) = some false)
    (ne0_1 : (C0 == C1) = false)
    (mr0_2 : PySem.W.mroIn K C0 (.ref C2) = some false)
    (ne0_2 : (C0 == C2) = false)
    (mr0_3 : PySem.W.mroIn K C0 (.ref C3) = some false)
    (ne0_3 : (C0 == C3) = false)
    (mr0_4 : PySem.W.mroIn K C0 (.ref C4) = some false)
    (ne0_4 : (C0 == C4) = false)
    (mr1_0 : PySem.W.mroIn K C1 (.ref C0) = some false)
    (ne1_0 : (C1 == C0) = false)
    (mr1_2 : PySem.W.mroIn K C1 (.ref C2) = some false)
    (ne1_2 : (C1 == C2) = false)
    (mr1_3 : PySem.W.mroIn K C1 (.ref C3) = some false)
    (ne1_3 : (C1 == C3) = false)
    (mr1_4 : PySem.W.mroIn K C1 (.ref C4) = some false)
    (ne1_4 : (C1 == C4) = false)
    (mr2_0 : PySem.W.mroIn K C2 (.ref C0) = some false)
    (ne2_0 : (C2 == C0) = false)
    (mr2_1 : PySem.W.mroIn K C2 (.ref C1) = some false)
    (ne2_1 : (C2 == C1) = false)
    (mr2_3 : PySem.W.mroIn K C2 (.ref C3) = some false)
    (ne2_3 : (C2 == C3) = false)
    (mr2_4 : PySem.W.mroIn K C2 (.ref C4) = some false)
    (ne2_4 : (C2 == C4) = false)
    (mr3_0 : PySem.W.mroIn K C3 (.ref C0) = some false)
    (ne3_0 : (C3 == C0) = false)
    (mr3_1 : PySem.W.mroIn K C3 (.ref C1) = some false)
    (ne3_1 : (C3 == C1) = false)
    (mr3_2 : PySem.W.mroIn K C3 (.ref C2) = some false)
    (ne3_2 : (C3 == C2) = false)
    (mr3_4 : PySem.W.mroIn K C3 (.ref C4) = some false)
    (ne3_4 : (C3 == C4) = false)
    (mr4_0 : PySem.W.mroIn K C4 (.ref C0) = some false)
    (ne4_0 : (C4 == C0) = false)
    (mr4_1 : PySem.W.mroIn K C4 (.ref C1) = some false)
    (ne4_1 : (C4 == C1) = false)
    (mr4_2 : PySem.W.mroIn K C4 (.ref C2) = some false)
    (ne4_2 : (C4 == C2) = false)
    (mr4_3 : PySem.W.mroIn K C4 (.ref C3) = some false)
    (ne4_3 : (C4 == C3) = false)
    (z0 : PySem.W.nsIn K mainGlobals "all" = some none)
    (z1 : PySem.W.nsIn K mainGlobals "bool" = some none)
    (z2 : PySem.W.nsIn K mainGlobals "dict" = some none)
    (z3 : PySem.W.nsIn K mainGlobals "int" = some none)
    (z4 : PySem.W.nsIn K mainGlobals "isinstance" = some none)
    (z5 : PySem.W.nsIn K mainGlobals "len" = some none)
    (z6 : PySem.W.nsIn K mainGlobals "list" = some none)
    (z7 : PySem.W.nsIn K mainGlobals "range" = some none)
    (z8 : PySem.W.nsIn K mainGlobals "sorted" = some none)
    (z9 : PySem.W.nsIn K mainGlobals "tuple" = some none)
    (b0 : PySem.W.nsIn K mainGlobals "gcd" = some (some (.builtin "math.gcd")))
    (gk0 : PySem.W.nsIn K mainGlobals "FAR" = some (some (.int 1000000 t0)))
    (cg1 : PySem.W.specialIn K (.builtin "object.__class__") "__get__" = some (some (.builtin "getset_descriptor.__get__")))
    (cg2 : PySem.W.takesIn K (.builtin "object.__class__") = some true)
    (hv : ∀ (P : Program) (w : World) (K : PySem.W.Frag) (mg : Str → Option Value) (base : Heap) (ca fa : Nat → Addr) (ns : List Int), ns.length ≤ 63 → ∃ G, callF (mkS P w K mg base ca fa) code 31 7 [.ref 0] [.lst true (ns.map Va.int)] = .ok (.bl true) G) :
    ∃ fd : FuncData, (∀ (s : Shared) (v : Value), BindsTo s fd ⟨[v], []⟩ [("script", v)]) ∧ ∀ base : Heap, K.In base → base.Ns mainGlobals mg → FnOk l.prog w K mg base (L2.CX l.prog w) 93 fa fd ["script"] (spL K) := by
  have e := hfa.symm.trans (PySem.W.mg_of X G a7)
  have e2 : f7 = fa := (Value.ref.inj (Option.some.inj e)).symm
  subst e2
  have g0 : ∀ base : Heap, Good0 (mkS l.prog w K mg base (fun i => ([C0, C1, C2, C3, C4] : List Addr).getD i 0) (fun i => ([f0, f1, f2, f3, f4, f5, f6, f7, f8, f9, f10, f11, f12, f13, f14, f15, f16, f17, f18, f19, f20] : List Addr).getD i 0)) := fun base => by
    refine ⟨rfl, ?_, ?_, cg1, cg2, ?_, ?_, ?_, ?_, ?_, fun _ h => (by cases h), fun _ h => (by cases h), fun _ h => (by cases h)⟩
    · intro c hc
      have isA : ∀ p ∈ ([(0, 0), (0, 1), (0, 2), (0, 3), (0, 4), (1, 0), (1, 1), (1, 2), (1, 3), (1, 4), (2, 0), (2, 1), (2, 2), (2, 3), (2, 4), (3, 0), (3, 1), (3, 2), (3, 3), (3, 4), (4, 0), (4, 1), (4, 2), (4, 3), (4, 4)] : List (Nat × Nat)), PySem.W.kitOne K (.ref (([C0, C1, C2, C3, C4] : List Addr).getD p.1 0)) (.ref (([C0, C1, C2, C3, C4] : List Addr).getD p.2 0)) = some (p.1 == p.2) := 
        List.forall_mem_cons.mpr ⟨kit_self, List.forall_mem_cons.mpr ⟨kit_cls im1 ty1 mr0_1 ne0_1, List.forall_mem_cons.mpr ⟨kit_cls im2 ty2 mr0_2 ne0_2, List.forall_mem_cons.mpr ⟨kit_cls im3 ty3 mr0_3 ne0_3, List.forall_mem_cons.mpr ⟨kit_cls im4 ty4 mr0_4 ne0_4, List.forall_mem_cons.mpr ⟨kit_cls im0 ty0 mr1_0 ne1_0, List.forall_mem_cons.mpr ⟨kit_self, List.forall_mem_cons.mpr ⟨kit_cls im2 ty2 mr1_2 ne1_2, List.forall_mem_cons.mpr ⟨kit_cls im3 ty3 mr1_3 ne1_3, List.forall_mem_cons.mpr ⟨kit_cls im4 ty4 mr1_4 ne1_4, List.forall_mem_cons.mpr ⟨kit_cls im0 ty0 mr2_0 ne2_0, List.forall_mem_cons.mpr ⟨kit_cls im1 ty1 mr2_1 ne2_1, List.forall_mem_cons.mpr ⟨kit_self, List.forall_mem_cons.mpr ⟨kit_cls im3 ty3 mr2_3 ne2_3, List.forall_mem_cons.mpr ⟨kit_cls im4 ty4 mr2_4 ne2_4, List.forall_mem_cons.mpr ⟨kit_cls im0 ty0 mr3_0 ne3_0, List.forall_mem_cons.mpr ⟨kit_cls im1 ty1 mr3_1 ne3_1, List.forall_mem_cons.mpr ⟨kit_cls im2 ty2 mr3_2 ne3_2, List.forall_mem_cons.mpr ⟨kit_self, List.forall_mem_cons.mpr ⟨kit_cls im4 ty4 mr3_4 ne3_4, List.forall_mem_cons.mpr ⟨kit_cls im0 ty0 mr4_0 ne4_0, List.forall_mem_cons.mpr ⟨kit_cls im1 ty1 mr4_1 ne4_1, List.forall_mem_cons.mpr ⟨kit_cls im2 ty2 mr4_2 ne4_2, List.forall_mem_cons.mpr ⟨kit_cls im3 ty3 mr4_3 ne4_3, List.forall_mem_cons.mpr ⟨kit_self, fun _ h => by cases h⟩⟩⟩⟩⟩⟩⟩⟩⟩⟩⟩⟩⟩⟩⟩⟩⟩⟩⟩⟩⟩⟩⟩⟩⟩
      match c, hc with
      | 0, _ => exact ⟨⟨pg0, hd0, po0, sa0⟩, (show ∀ f ∈ ([11] : List Nat), PySem.W.findIn K (.ref C0) (nmF f) = some none from List.forall_mem_cons.mpr ⟨n0_11, fun _ h => by cases h⟩),
          look_all (Q := fun m k => k < 21 ∧ Meth K C0 (nmF m) (([f0, f1, f2, f3, f4, f5, f6, f7, f8, f9, f10, f11, f12, f13, f14, f15, f16, f17, f18, f19, f20] : List Addr).getD k 0)) (List.forall_mem_cons.mpr ⟨⟨Nat.le_of_ble_eq_true rfl, a10, i10, k10⟩, fun _ h => by cases h⟩), fun f v h => (by cases h), fun k h => (by cases h; exact ⟨Nat.le_of_ble_eq_true rfl, mk0, a8, i8, kc0⟩), ic0, im0, kit_tag im0 ty0, fun m h => (by cases h), fun c' h => isA (c', 0) h, fun k h => (by cases h), fun k h => (by cases h; exact ⟨Nat.le_of_ble_eq_true rfl, a9, i9, nq0⟩), fun k c' h hc => (match c', hc with | 0, _ => nf_self | 1, _ => nf_cls mr1_0 | 2, _ => nf_cls mr2_0 | 3, _ => nf_cls mr3_0 | 4, _ => nf_cls mr4_0 | n + 5, h => absurd h (Nat.not_lt.mpr (Nat.le_add_left _ _)))⟩
      | 1, _ => exact ⟨⟨pg1, hd1, po1, sa1⟩, (show ∀ f ∈ ([2, 0, 1] : List Nat), PySem.W.findIn K (.ref C1) (nmF f) = some none from List.forall_mem_cons.mpr ⟨n1_2, List.forall_mem_cons.mpr ⟨n1_0, List.forall_mem_cons.mpr ⟨n1_1, fun _ h => by cases h⟩⟩⟩),
          look_all (Q := fun m k => k < 21 ∧ Meth K C1 (nmF m) (([f0, f1, f2, f3, f4, f5, f6, f7, f8, f9, f10, f11, f12, f13, f14, f15, f16, f17, f18, f19, f20] : List Addr).getD k 0)) (fun _ h => by cases h), fun f v h => (by cases h), fun k h => (by cases h; exact ⟨Nat.le_of_ble_eq_true rfl, mk1, a11, i11, kc1⟩), ic1, im1, kit_tag im1 ty1, fun m h => (by cases h), fun c' h => isA (c', 1) h, fun k h => (by cases h), fun k h => (by cases h; exact ⟨Nat.le_of_ble_eq_true rfl, a12, i12, nq1⟩), fun k c' h hc => (match c', hc with | 0, _ => nf_cls mr0_1 | 1, _ => nf_self | 2, _ => nf_cls mr2_1 | 3, _ => nf_cls mr3_1 | 4, _ => nf_cls mr4_1 | n + 5, h => absurd h (Nat.not_lt.mpr (Nat.le_add_left _ _)))⟩
      | 2, _ => exact ⟨⟨pg2, hd2, po2, sa2⟩, (show ∀ f ∈ ([3, 5, 0, 4] : List Nat), PySem.W.findIn K (.ref C2) (nmF f) = some none from List.forall_mem_cons.mpr ⟨n2_3, List.forall_mem_cons.mpr ⟨n2_5, List.forall_mem_cons.mpr ⟨n2_0, List.forall_mem_cons.mpr ⟨n2_4, fun _ h => by cases h⟩⟩⟩⟩),
          look_all (Q := fun m k => k < 21 ∧ Meth K C2 (nmF m) (([f0, f1, f2, f3, f4, f5, f6, f7, f8, f9, f10, f11, f12, f13, f14, f15, f16, f17, f18, f19, f20] : List Addr).getD k 0)) (fun _ h => by cases h), fun f v h => (by cases h), fun k h => (by cases h; exact ⟨Nat.le_of_ble_eq_true rfl, mk2, a13, i13, kc2⟩), ic2, im2, kit_tag im2 ty2, fun m h => (by cases h), fun c' h => isA (c', 2) h, fun k h => (by cases h), fun k h => (by cases h; exact ⟨Nat.le_of_ble_eq_true rfl, a14, i14, nq2⟩), fun k c' h hc => (match c', hc with | 0, _ => nf_cls mr0_2 | 1, _ => nf_cls mr1_2 | 2, _ => nf_self | 3, _ => nf_cls mr3_2 | 4, _ => nf_cls mr4_2 | n + 5, h => absurd h (Nat.not_lt.mpr (Nat.le_add_left _ _)))⟩
      | 3, _ => exact ⟨⟨pg3, hd3, po3, sa3⟩, (show ∀ f ∈ ([10] : List Nat), PySem.W.findIn K (.ref C3) (nmF f) = some none from List.forall_mem_cons.mpr ⟨n3_10, fun _ h => by cases h⟩),
          look_all (Q := fun m k => k < 21 ∧ Meth K C3 (nmF m) (([f0, f1, f2, f3, f4, f5, f6, f7, f8, f9, f10, f11, f12, f13, f14, f15, f16, f17, f18, f19, f20] : List Addr).getD k 0)) (fun _ h => by cases h), fun f v h => (by cases h), fun k h => (by cases h; exact ⟨Nat.le_of_ble_eq_true rfl, mk3, a15, i15, kc3⟩), ic3, im3, kit_tag im3 ty3, fun m h => (by cases h), fun c' h => isA (c', 3) h, fun k h => (by cases h; exact ⟨Nat.le_of_ble_eq_true rfl, a17, i17⟩), fun k h => (by cases h; exact ⟨Nat.le_of_ble_eq_true rfl, a16, i16, nq3⟩), fun k c' h hc => (match c', hc with | 0, _ => nf_cls mr0_3 | 1, _ => nf_cls mr1_3 | 2, _ => nf_cls mr2_3 | 3, _ => nf_self | 4, _ => nf_cls mr4_3 | n + 5, h => absurd h (Nat.not_lt.mpr (Nat.le_add_left _ _)))⟩
      | 4, _ => exact ⟨⟨pg4, hd4, po4, sa4⟩, (show ∀ f ∈ ([8, 7, 6, 9] : List Nat), PySem.W.findIn K (.ref C4) (nmF f) = some none from List.forall_mem_cons.mpr ⟨n4_8, List.forall_mem_cons.mpr ⟨n4_7, List.forall_mem_cons.mpr ⟨n4_6, List.forall_mem_cons.mpr ⟨n4_9, fun _ h => by cases h⟩⟩⟩⟩),
          look_all (Q := fun m k => k < 21 ∧ Meth K C4 (nmF m) (([f0, f1, f2, f3, f4, f5, f6, f7, f8, f9, f10, f11, f12, f13, f14, f15, f16, f17, f18, f19, f20] : List Addr).getD k 0)) (fun _ h => by cases h), fun f v h => (by cases h), fun k h => (by cases h; exact ⟨Nat.le_of_ble_eq_true rfl, mk4, a18, i18, kc4⟩), ic4, im4, kit_tag im4 ty4, fun m h => (by cases h), fun c' h => isA (c', 4) h, fun k h => (by cases h; exact ⟨Nat.le_of_ble_eq_true rfl, a20, i20⟩), fun k h => (by cases h; exact ⟨Nat.le_of_ble_eq_true rfl, a19, i19, nq4⟩), fun k c' h hc => (match c', hc with | 0, _ => nf_cls mr0_4 | 1, _ => nf_cls mr1_4 | 2, _ => nf_cls mr2_4 | 3, _ => nf_cls mr3_4 | 4, _ => nf_self | n + 5, h => absurd h (Nat.not_lt.mpr (Nat.le_add_left _ _)))⟩
      | n + 5, h => exact absurd h (Nat.not_lt.mpr (Nat.le_add_left _ _))
    · exact nm_inj
    · exact List.forall_mem_cons.mpr ⟨PySem.W.mg_none_of X G z0, List.forall_mem_cons.mpr ⟨PySem.W.mg_none_of X G z1, List.forall_mem_cons.mpr ⟨PySem.W.mg_none_of X G z2, List.forall_mem_cons.mpr ⟨PySem.W.mg_none_of X G z3, List.forall_mem_cons.mpr ⟨PySem.W.mg_none_of X G z4, List.forall_mem_cons.mpr ⟨PySem.W.mg_none_of X G z5, List.forall_mem_cons.mpr ⟨PySem.W.mg_none_of X G z6, List.forall_mem_cons.mpr ⟨PySem.W.mg_none_of X G z7, List.forall_mem_cons.mpr ⟨PySem.W.mg_none_of X G z8, List.forall_mem_cons.mpr ⟨PySem.W.mg_none_of X G z9, fun _ h => by cases h⟩⟩⟩⟩⟩⟩⟩⟩⟩⟩
    · exact List.forall_mem_cons.mpr ⟨⟨V.int 1000000, _, PySem.W.mg_of X G gk0, ⟨_, rfl⟩, fun ρ n H => vr_int'⟩, fun _ h => by cases h⟩
    · exact List.forall_mem_cons.mpr ⟨⟨Nat.le_of_ble_eq_true rfl, PySem.W.mg_of X G aC0, kc0⟩, List.forall_mem_cons.mpr ⟨⟨Nat.le_of_ble_eq_true rfl, PySem.W.mg_of X G aC1, kc1⟩, List.forall_mem_cons.mpr ⟨⟨Nat.le_of_ble_eq_true rfl, PySem.W.mg_of X G aC2, kc2⟩, List.forall_mem_cons.mpr ⟨⟨Nat.le_of_ble_eq_true rfl, PySem.W.mg_of X G aC3, kc3⟩, List.forall_mem_cons.mpr ⟨⟨Nat.le_of_ble_eq_true rfl, PySem.W.mg_of X G aC4, kc4⟩, fun _ h => by cases h⟩⟩⟩⟩⟩
    · exact List.forall_mem_cons.mpr ⟨⟨Nat.le_of_ble_eq_true rfl, PySem.W.mg_of X G a0⟩, List.forall_mem_cons.mpr ⟨⟨Nat.le_of_ble_eq_true rfl, PySem.W.mg_of X G a1⟩, List.forall_mem_cons.mpr ⟨⟨Nat.le_of_ble_eq_true rfl, PySem.W.mg_of X G a2⟩, List.forall_mem_cons.mpr ⟨⟨Nat.le_of_ble_eq_true rfl, PySem.W.mg_of X G a3⟩, List.forall_mem_cons.mpr ⟨⟨Nat.le_of_ble_eq_true rfl, PySem.W.mg_of X G a4⟩, List.forall_mem_cons.mpr ⟨⟨Nat.le_of_ble_eq_true rfl, PySem.W.mg_of X G a5⟩, List.forall_mem_cons.mpr ⟨⟨Nat.le_of_ble_eq_true rfl, PySem.W.mg_of X G a6⟩, List.forall_mem_cons.mpr ⟨⟨Nat.le_of_ble_eq_true rfl, PySem.W.mg_of X G a7⟩, fun _ h => by cases h⟩⟩⟩⟩⟩⟩⟩⟩
    · exact List.forall_mem_cons.mpr ⟨PySem.W.mg_of X G b0, fun _ h => by cases h⟩
  have D0 : ∀ base : Heap, DefAt (mkS l.prog w K mg base (fun i => ([C0, C1, C2, C3, C4] : List Addr).getD i 0) (fun i => ([f0, f1, f2, f3, f4, f5, f6, f7, f8, f9, f10, f11, f12, f13, f14, f15, f16, f17, f18, f19, f20] : List Addr).getD i 0)) code 0 (PySem.W.fnOf "is_whole" "is_whole" (defArgs st0) (defBody st0) (defScope st0) .none kV0 dc0 pm0 an0 cd0 ct0) ["value", "low", "high"] := fun base => def_mk l0 c0 k0 (fun _ _ _ _ _ _ us hl => match us, hl with | [_, _, _], _ => rfl) fs0 fun d => ⟨_, rfl, ck0 ..⟩
  have D1 : ∀ base : Heap, DefAt (mkS l.prog w K mg base (fun i => ([C0, C1, C2, C3, C4] : List Addr).getD i 0) (fun i => ([f0, f1, f2, f3, f4, f5, f6, f7, f8, f9, f10, f11, f12, f13, f14, f15, f16, f17, f18, f19, f20] : List Addr).getD i 0)) code 1 (PySem.W.fnOf "is_fraction" "is_fraction" (defArgs st1) (defBody st1) (defScope st1) .none kV1 dc1 pm1 an1 cd1 ct1) ["value"] := fun base => def_mk l1 c1 k1 (fun _ _ _ _ _ _ us hl => match us, hl with | [_], _ => rfl) fs1 fun d => ⟨_, rfl, ck1 ..⟩
  have D2 : ∀ base : Heap, DefAt (mkS l.prog w K mg base (fun i => ([C0, C1, C2, C3, C4] : List Addr).getD i 0) (fun i => ([f0, f1, f2, f3, f4, f5, f6, f7, f8, f9, f10, f11, f12, f13, f14, f15, f16, f17, f18, f19, f20] : List Addr).getD i 0)) code 2 (PySem.W.fnOf "_law_number" "_law_number" (defArgs st2) (defBody st2) (defScope st2) .none kV2 dc2 pm2 an2 cd2 ct2) ["script", "index"] := fun base => def_mk l2 c2 k2 (fun _ _ _ _ _ _ us hl => match us, hl with | [_, _], _ => rfl) fs2 fun d => ⟨_, rfl, ck2 ..⟩
  have D3 : ∀ base : Heap, DefAt (mkS l.prog w K mg base (fun i => ([C0, C1, C2, C3, C4] : List Addr).getD i 0) (fun i => ([f0, f1, f2, f3, f4, f5, f6, f7, f8, f9, f10, f11, f12, f13, f14, f15, f16, f17, f18, f19, f20] : List Addr).getD i 0)) code 3 (PySem.W.fnOf "_law_take" "_law_take" (defArgs st3) (defBody st3) (defScope st3) .none kV3 dc3 pm3 an3 cd3 ct3) ["draw", "many"] := fun base => def_mk l3 c3 k3 (fun _ _ _ _ _ _ us hl => match us, hl with | [_, _], _ => rfl) fs3 fun d => ⟨_, rfl, ck3 ..⟩
  have D4 : ∀ base : Heap, DefAt (mkS l.prog w K mg base (fun i => ([C0, C1, C2, C3, C4] : List Addr).getD i 0) (fun i => ([f0, f1, f2, f3, f4, f5, f6, f7, f8, f9, f10, f11, f12, f13, f14, f15, f16, f17, f18, f19, f20] : List Addr).getD i 0)) code 4 (PySem.W.fnOf "_law_made" "_law_made" (defArgs st4) (defBody st4) (defScope st4) .none kV4 dc4 pm4 an4 cd4 ct4) ["draw", "kind"] := fun base => def_mk l4 c4 k4 (fun _ _ _ _ _ _ us hl => match us, hl with | [_, _], _ => rfl) fs4 fun d => ⟨_, rfl, ck4 ..⟩
  have D5 : ∀ base : Heap, DefAt (mkS l.prog w K mg base (fun i => ([C0, C1, C2, C3, C4] : List Addr).getD i 0) (fun i => ([f0, f1, f2, f3, f4, f5, f6, f7, f8, f9, f10, f11, f12, f13, f14, f15, f16, f17, f18, f19, f20] : List Addr).getD i 0)) code 5 (PySem.W.fnOf "_law_told" "_law_told" (defArgs st5) (defBody st5) (defScope st5) .none kV5 dc5 pm5 an5 cd5 ct5) ["kind", "one"] := fun base => def_mk l5 c5 k5 (fun _ _ _ _ _ _ us hl => match us, hl with | [_, _], _ => rfl) fs5 fun d => ⟨_, rfl, ck5 ..⟩
  have D6 : ∀ base : Heap, DefAt (mkS l.prog w K mg base (fun i => ([C0, C1, C2, C3, C4] : List Addr).getD i 0) (fun i => ([f0, f1, f2, f3, f4, f5, f6, f7, f8, f9, f10, f11, f12, f13, f14, f15, f16, f17, f18, f19, f20] : List Addr).getD i 0)) code 6 (PySem.W.fnOf "_law_schema_right" "_law_schema_right" (defArgs st6) (defBody st6) (defScope st6) .none kV6 dc6 pm6 an6 cd6 ct6) ["draw"] := fun base => def_mk l6 c6 k6 (fun _ _ _ _ _ _ us hl => match us, hl with | [_], _ => rfl) fs6 fun d => ⟨_, rfl, ck6 ..⟩
  have D7 : ∀ base : Heap, DefAt (mkS l.prog w K mg base (fun i => ([C0, C1, C2, C3, C4] : List Addr).getD i 0) (fun i => ([f0, f1, f2, f3, f4, f5, f6, f7, f8, f9, f10, f11, f12, f13, f14, f15, f16, f17, f18, f19, f20] : List Addr).getD i 0)) code 7 (PySem.W.fnOf "law" "law" (defArgs st7) (defBody st7) (defScope st7) .none kV7 dc7 pm7 an7 cd7 ct7) ["script"] := fun base => def_mk l7 c7 k7 (fun _ _ _ _ _ _ us hl => match us, hl with | [_], _ => rfl) fs7 fun d => ⟨_, rfl, ck7 ..⟩
  have D8 : ∀ base : Heap, DefAt (mkS l.prog w K mg base (fun i => ([C0, C1, C2, C3, C4] : List Addr).getD i 0) (fun i => ([f0, f1, f2, f3, f4, f5, f6, f7, f8, f9, f10, f11, f12, f13, f14, f15, f16, f17, f18, f19, f20] : List Addr).getD i 0)) code 8 (PySem.W.fnOf "__init__" "Schema.__init__" (defArgs st8) (defBody st8) (defScope st8) .none kV8 dc8 pm8 an8 cd8 ct8) ["self", "tables"] := fun base => def_mk l8 c8 k8 (fun _ _ _ _ _ _ us hl => match us, hl with | [_, _], _ => rfl) fs8 fun d => ⟨_, rfl, ck8 ..⟩
  have D9 : ∀ base : Heap, DefAt (mkS l.prog w K mg base (fun i => ([C0, C1, C2, C3, C4] : List Addr).getD i 0) (fun i => ([f0, f1, f2, f3, f4, f5, f6, f7, f8, f9, f10, f11, f12, f13, f14, f15, f16, f17, f18, f19, f20] : List Addr).getD i 0)) code 9 (PySem.W.fnOf "__eq__" "Schema.__eq__" (defArgs st9) (defBody st9) (defScope st9) .none kV9 dc9 pm9 an9 cd9 ct9) ["self", "other"] := fun base => def_mk l9 c9 k9 (fun _ _ _ _ _ _ us hl => match us, hl with | [_, _], _ => rfl) fs9 fun d => ⟨_, rfl, ck9 ..⟩
  have D10 : ∀ base : Heap, DefAt (mkS l.prog w K mg base (fun i => ([C0, C1, C2, C3, C4] : List Addr).getD i 0) (fun i => ([f0, f1, f2, f3, f4, f5, f6, f7, f8, f9, f10, f11, f12, f13, f14, f15, f16, f17, f18, f19, f20] : List Addr).getD i 0)) code 10 (PySem.W.fnOf "marked" "Schema.marked" (defArgs st10) (defBody st10) (defScope st10) .none kV10 dc10 pm10 an10 cd10 ct10) ["self"] := fun base => def_mk l10 c10 k10 (fun _ _ _ _ _ _ us hl => match us, hl with | [_], _ => rfl) fs10 fun d => ⟨_, rfl, ck10 ..⟩
  have D11 : ∀ base : Heap, DefAt (mkS l.prog w K mg base (fun i => ([C0, C1, C2, C3, C4] : List Addr).getD i 0) (fun i => ([f0, f1, f2, f3, f4, f5, f6, f7, f8, f9, f10, f11, f12, f13, f14, f15, f16, f17, f18, f19, f20] : List Addr).getD i 0)) code 11 (PySem.W.fnOf "__init__" "Woven.__init__" (defArgs st11) (defBody st11) (defScope st11) .none kV11 dc11 pm11 an11 cd11 ct11) ["self", "length", "starts", "chain"] := fun base => def_mk l11 c11 k11 (fun _ _ _ _ _ _ us hl => match us, hl with | [_, _, _, _], _ => rfl) fs11 fun d => ⟨_, rfl, ck11 ..⟩
  have D12 : ∀ base : Heap, DefAt (mkS l.prog w K mg base (fun i => ([C0, C1, C2, C3, C4] : List Addr).getD i 0) (fun i => ([f0, f1, f2, f3, f4, f5, f6, f7, f8, f9, f10, f11, f12, f13, f14, f15, f16, f17, f18, f19, f20] : List Addr).getD i 0)) code 12 (PySem.W.fnOf "__eq__" "Woven.__eq__" (defArgs st12) (defBody st12) (defScope st12) .none kV12 dc12 pm12 an12 cd12 ct12) ["self", "other"] := fun base => def_mk l12 c12 k12 (fun _ _ _ _ _ _ us hl => match us, hl with | [_, _], _ => rfl) fs12 fun d => ⟨_, rfl, ck12 ..⟩
  have D13 : ∀ base : Heap, DefAt (mkS l.prog w K mg base (fun i => ([C0, C1, C2, C3, C4] : List Addr).getD i 0) (fun i => ([f0, f1, f2, f3, f4, f5, f6, f7, f8, f9, f10, f11, f12, f13, f14, f15, f16, f17, f18, f19, f20] : List Addr).getD i 0)) code 13 (PySem.W.fnOf "__init__" "Terms.__init__" (defArgs st13) (defBody st13) (defScope st13) .none kV13 dc13 pm13 an13 cd13 ct13) ["self", "length", "delay", "wait", "drift"] := fun base => def_mk l13 c13 k13 (fun _ _ _ _ _ _ us hl => match us, hl with | [_, _, _, _, _], _ => rfl) fs13 fun d => ⟨_, rfl, ck13 ..⟩
  have D14 : ∀ base : Heap, DefAt (mkS l.prog w K mg base (fun i => ([C0, C1, C2, C3, C4] : List Addr).getD i 0) (fun i => ([f0, f1, f2, f3, f4, f5, f6, f7, f8, f9, f10, f11, f12, f13, f14, f15, f16, f17, f18, f19, f20] : List Addr).getD i 0)) code 14 (PySem.W.fnOf "__eq__" "Terms.__eq__" (defArgs st14) (defBody st14) (defScope st14) .none kV14 dc14 pm14 an14 cd14 ct14) ["self", "other"] := fun base => def_mk l14 c14 k14 (fun _ _ _ _ _ _ us hl => match us, hl with | [_, _], _ => rfl) fs14 fun d => ⟨_, rfl, ck14 ..⟩
  have D15 : ∀ base : Heap, DefAt (mkS l.prog w K mg base (fun i => ([C0, C1, C2, C3, C4] : List Addr).getD i 0) (fun i => ([f0, f1, f2, f3, f4, f5, f6, f7, f8, f9, f10, f11, f12, f13, f14, f15, f16, f17, f18, f19, f20] : List Addr).getD i 0)) code 15 (PySem.W.fnOf "__init__" "Enough.__init__" (defArgs st15) (defBody st15) (defScope st15) .none kV15 dc15 pm15 an15 cd15 ct15) ["self", "margin_of_waits"] := fun base => def_mk l15 c15 k15 (fun _ _ _ _ _ _ us hl => match us, hl with | [_, _], _ => rfl) fs15 fun d => ⟨_, rfl, ck15 ..⟩
  have D16 : ∀ base : Heap, DefAt (mkS l.prog w K mg base (fun i => ([C0, C1, C2, C3, C4] : List Addr).getD i 0) (fun i => ([f0, f1, f2, f3, f4, f5, f6, f7, f8, f9, f10, f11, f12, f13, f14, f15, f16, f17, f18, f19, f20] : List Addr).getD i 0)) code 16 (PySem.W.fnOf "__eq__" "Enough.__eq__" (defArgs st16) (defBody st16) (defScope st16) .none kV16 dc16 pm16 an16 cd16 ct16) ["self", "other"] := fun base => def_mk l16 c16 k16 (fun _ _ _ _ _ _ us hl => match us, hl with | [_, _], _ => rfl) fs16 fun d => ⟨_, rfl, ck16 ..⟩
  have D17 : ∀ base : Heap, DefAt (mkS l.prog w K mg base (fun i => ([C0, C1, C2, C3, C4] : List Addr).getD i 0) (fun i => ([f0, f1, f2, f3, f4, f5, f6, f7, f8, f9, f10, f11, f12, f13, f14, f15, f16, f17, f18, f19, f20] : List Addr).getD i 0)) code 17 (PySem.W.fnOf "__bool__" "Enough.__bool__" (defArgs st17) (defBody st17) (defScope st17) .none kV17 dc17 pm17 an17 cd17 ct17) ["self"] := fun base => def_mk l17 c17 k17 (fun _ _ _ _ _ _ us hl => match us, hl with | [_], _ => rfl) fs17 fun d => ⟨_, rfl, ck17 ..⟩
  have D18 : ∀ base : Heap, DefAt (mkS l.prog w K mg base (fun i => ([C0, C1, C2, C3, C4] : List Addr).getD i 0) (fun i => ([f0, f1, f2, f3, f4, f5, f6, f7, f8, f9, f10, f11, f12, f13, f14, f15, f16, f17, f18, f19, f20] : List Addr).getD i 0)) code 18 (PySem.W.fnOf "__init__" "TooShort.__init__" (defArgs st18) (defBody st18) (defScope st18) .none kV18 dc18 pm18 an18 cd18 ct18) ["self", "tells", "made", "came", "used"] := fun base => def_mk l18 c18 k18 (fun _ _ _ _ _ _ us hl => match us, hl with | [_, _, _, _, _], _ => rfl) fs18 fun d => ⟨_, rfl, ck18 ..⟩
  have D19 : ∀ base : Heap, DefAt (mkS l.prog w K mg base (fun i => ([C0, C1, C2, C3, C4] : List Addr).getD i 0) (fun i => ([f0, f1, f2, f3, f4, f5, f6, f7, f8, f9, f10, f11, f12, f13, f14, f15, f16, f17, f18, f19, f20] : List Addr).getD i 0)) code 19 (PySem.W.fnOf "__eq__" "TooShort.__eq__" (defArgs st19) (defBody st19) (defScope st19) .none kV19 dc19 pm19 an19 cd19 ct19) ["self", "other"] := fun base => def_mk l19 c19 k19 (fun _ _ _ _ _ _ us hl => match us, hl with | [_, _], _ => rfl) fs19 fun d => ⟨_, rfl, ck19 ..⟩
  have D20 : ∀ base : Heap, DefAt (mkS l.prog w K mg base (fun i => ([C0, C1, C2, C3, C4] : List Addr).getD i 0) (fun i => ([f0, f1, f2, f3, f4, f5, f6, f7, f8, f9, f10, f11, f12, f13, f14, f15, f16, f17, f18, f19, f20] : List Addr).getD i 0)) code 20 (PySem.W.fnOf "__bool__" "TooShort.__bool__" (defArgs st20) (defBody st20) (defScope st20) .none kV20 dc20 pm20 an20 cd20 ct20) ["self"] := fun base => def_mk l20 c20 k20 (fun _ _ _ _ _ _ us hl => match us, hl with | [_], _ => rfl) fs20 fun d => ⟨_, rfl, ck20 ..⟩
  refine ⟨_, fun s v => .of_eq rfl, fun base _ _ => law_end (D7 base) (g0 base) (fun k hk => ?_) 30 fun ns hn => hv _ _ _ _ _ _ _ ns hn⟩
  match k, hk with
  | 0, _ => exact ⟨_, _, D0 base⟩
  | 1, _ => exact ⟨_, _, D1 base⟩
  | 2, _ => exact ⟨_, _, D2 base⟩
  | 3, _ => exact ⟨_, _, D3 base⟩
  | 4, _ => exact ⟨_, _, D4 base⟩
  | 5, _ => exact ⟨_, _, D5 base⟩
  | 6, _ => exact ⟨_, _, D6 base⟩
  | 7, _ => exact ⟨_, _, D7 base⟩
  | 8, _ => exact ⟨_, _, D8 base⟩
  | 9, _ => exact ⟨_, _, D9 base⟩
  | 10, _ => exact ⟨_, _, D10 base⟩
  | 11, _ => exact ⟨_, _, D11 base⟩
  | 12, _ => exact ⟨_, _, D12 base⟩
  | 13, _ => exact ⟨_, _, D13 base⟩
  | 14, _ => exact ⟨_, _, D14 base⟩
  | 15, _ => exact ⟨_, _, D15 base⟩
  | 16, _ => exact ⟨_, _, D16 base⟩
  | 17, _ => exact ⟨_, _, D17 base⟩
  | 18, _ => exact ⟨_, _, D18 base⟩
  | 19, _ => exact ⟨_, _, D19 base⟩
  | 20, _ => exact ⟨_, _, D20 base⟩
  | n + 21, h => exact absurd h (Nat.not_lt.mpr (Nat.le_add_left _ _))
theorem walk {l : PySem.W.OpenLaw} {q : Program} {loose : List Str} {XP : (Str → Option Value) → Heap → Prop} {YP : World → Heap → Prop} {d : DefRec} {K : Params → PySem.W.Frag} (hn : l.most = some 63) (hdf : d.params.defaults = [])
    (hY : ∀ (w : World) (h : Heap), YP w h → (K w.params).In h)
    (F : ∀ (w : World) (mg : Str → Option Value) (fa : Addr) (h : Heap), (K w.params).In h → h.Ns mainGlobals mg → mg d.name = some (.ref fa) →
      ∃ fd : FuncData, (∀ (s : Shared) (u : Value), BindsTo s fd ⟨[u], []⟩ [("script", u)]) ∧ ∀ base : Heap, (K w.params).In base → base.Ns mainGlobals mg → FnOk l.prog w (K w.params) mg base (L2.CX l.prog w) 93 fa fd ["script"] (spL (K w.params))) :
    PySem.W.WalkO q loose XP YP l.row.toRowW d [] (fun f vs => PySem.call f vs) :=
  L2.walk_of (n := 63) (k := 93) (x := "script") (CX := fun w => L2.CX l.prog w) (sp := fun w => spL (K w.params)) hn (by decide) hdf ⟨rfl, by decide, by decide⟩ hY F (fun w H a ns hl ho hS => ⟨a, ns, rfl, hS, ho, hl, fun _ => rfl⟩) fun w H s e s' z => by
    obtain ⟨_, _, _, _, _, _, _, _, _, _, _, _, z⟩ := z
    exact z
end LawX
namespace LawX
open PySem PySem.Spec PyProof.Rows L2 VM
theorem f7_call {S : Sx} {d : Nat} {G : Gh} : callF S code (d + 1) 7 [.ref 0] G = toR (sq ((q0 (S.dp code d)).ev [some (.ref 0), none, none, none, none, none, none, none, none, none, none] G) fun L G => sq ((q1 (S.dp code d)).ev L G) fun L G => sq ((q2 (S.dp code d)).ev L G) fun L G => sq ((q3 (S.dp code d)).ev L G) fun L G => sq ((q4 (S.dp code d)).ev L G) fun L G => sq ((q5 (S.dp code d)).ev L G) fun L G => .nx L G) := by kernel_rfl
theorem law_true (P : Program) (w : World) (K : PySem.W.Frag) (mg : Str → Option Value) (base : Heap) (ca fa : Nat → Addr) (ns : List Int) (hl : ns.length ≤ 63) : ∃ G, callF (mkS P w K mg base ca fa) code 31 7 [.ref 0] [.lst true (ns.map Va.int)] = .ok (.bl true) G := by
  have Tt : Tb (mkS P w K mg base ca fa) := ⟨rfl, rfl, rfl, rfl, rfl⟩
  obtain ⟨T, e1⟩ := v_schema P w K mg base ca fa hl (t := 0) (by decide)
  generalize mkS P w K mg base ca fa = S at *
  have s0 : (q0 (S.dp code 30)).ev [some (.ref 0), none, none, none, none, none, none, none, none, none, none] [.lst true (ns.map Va.int)] = .nx [some (.ref 0), some (.ref 1), none, none, none, none, none, none, none, none, none] (H0 ns 0 []) := by kernel_rfl
  have s1 : (q1 (S.dp code 30)).ev [some (.ref 0), some (.ref 1), none, none, none, none, none, none, none, none, none] (H0 ns 0 []) = .nx [some (.ref 0), some (.ref 1), none, none, none, none, none, none, none, none, none] (H0 ns (0 + 1 + 1) T) := by
    unfold q1
    simp [e1]
  have s2 : (q2 (S.dp code 30)).ev [some (.ref 0), some (.ref 1), none, none, none, none, none, none, none, none, none] (H0 ns (0 + 1 + 1) T) = .nx (LT (T.length + 2) none none none none none) (H0 ns (0 + 1 + 1) (T ++ [.lst false []])) := by
    have : (H0 ns (0 + 1 + 1) T).length = T.length + 2 := rfl
    have e : H0 ns (0 + 1 + 1) T ++ [.lst false []] = H0 ns (0 + 1 + 1) (T ++ [.lst false []]) := rfl
    rw [← e, ← this]
    generalize H0 ns (0 + 1 + 1) T = G1
    unfold q2
    simp
  have hr : (H0 ns (0 + 1 + 1) (T ++ [.lst false []]))[T.length + 2]? = some (.lst false []) := by
    show (T ++ [VO.lst false []])[T.length]? = _
    simp
  obtain ⟨a, b, c, d, e, rows, t', T', h3, h4, h5, h6⟩ := q3_ev (S := S) (ns := ns) Tt hl (R := T.length + 2) (by omega) (by decide) hr
  obtain ⟨u, v, y, p, q, z, h7⟩ := q4_ev (S := S) (a := a) (u := b) (v := c) (y := d) (s := e) Tt h4 h6 h5
  obtain ⟨W, h8⟩ := q5_ev (S := S) (L := LU (T.length + 2) a u v y e p q z) (G := H0 ns t' T') Tt
  refine ⟨H0 ns t' T' ++ W, ?_⟩
  rw [f7_call, s0, sq_nx, s1, sq_nx, s2, sq_nx, h3, sq_nx, h7, sq_nx, h8, sq_rt, toR_rt]
end LawX
open PySem PySem.W PyProof.Rows
set_option maxRecDepth 100000 in
set_option maxHeartbeats 0 in
theorem PySem.Challenge.cw_openchange_k60_whole_objects_holds : PySem.Challenge.rw_openchange_k60_whole_objects.Holds := by
  w_on; o_law; k_head; (case hw => w_witness2)
  k_fill
  refine LawX.walk (l := PySem.Challenge.rw_openchange_k60_whole_objects) rfl rfl (fun w h Y => PySem.W.kIn_of Y) ?F
  case F =>
    intro w mg fa h KX G hmg
    refine' LawX.all_mk KX G hmg ?aC0 ?aC1 ?aC2 ?aC3 ?aC4 ?a0 ?l0 ?c0 ?k0 ?a1 ?l1 ?c1 ?k1 ?a2 ?l2 ?c2 ?k2 ?a3 ?l3 ?c3 ?k3 ?a4 ?l4 ?c4 ?k4 ?a5 ?l5 ?c5 ?k5 ?a6 ?l6 ?c6 ?k6 ?a7 ?l7 ?c7 ?k7 ?a8 ?i8 ?l8 ?c8 ?k8 ?a9 ?i9 ?l9 ?c9 ?k9 ?a10 ?i10 ?l10 ?c10 ?k10 ?a11 ?i11 ?l11 ?c11 ?k11 ?a12 ?i12 ?l12 ?c12 ?k12 ?a13 ?i13 ?l13 ?c13 ?k13 ?a14 ?i14 ?l14 ?c14 ?k14 ?a15 ?i15 ?l15 ?c15 ?k15 ?a16 ?i16 ?l16 ?c16 ?k16 ?a17 ?i17 ?l17 ?c17 ?k17 ?a18 ?i18 ?l18 ?c18 ?k18 ?a19 ?i19 ?l19 ?c19 ?k19 ?a20 ?i20 ?l20 ?c20 ?k20 ?pg0 ?hd0 ?po0 ?sa0 ?mk0 ?kc0 ?ic0 ?im0 ?ty0 ?nq0 ?n0_11 ?pg1 ?hd1 ?po1 ?sa1 ?mk1 ?kc1 ?ic1 ?im1 ?ty1 ?nq1 ?n1_2 ?n1_0 ?n1_1 ?pg2 ?hd2 ?po2 ?sa2 ?mk2 ?kc2 ?ic2 ?im2 ?ty2 ?nq2 ?n2_3 ?n2_5 ?n2_0 ?n2_4 ?pg3 ?hd3 ?po3 ?sa3 ?mk3 ?kc3 ?ic3 ?im3 ?ty3 ?nq3 ?n3_10 ?pg4 ?hd4 ?po4 ?sa4 ?mk4 ?kc4 ?ic4 ?im4 ?ty4 ?nq4 ?n4_8 ?n4_7 ?n4_6 ?n4_9 ?mr0_1 ?ne0_1 ?mr0_2 ?ne0_2 ?mr0_3 ?ne0_3 ?mr0_4 ?ne0_4 ?mr1_0 ?ne1_0 ?mr1_2 ?ne1_2 ?mr1_3 ?ne1_3 ?mr1_4 ?ne1_4 ?mr2_0 ?ne2_0 ?mr2_1 ?ne2_1 ?mr2_3 ?ne2_3 ?mr2_4 ?ne2_4 ?mr3_0 ?ne3_0 ?mr3_1 ?ne3_1 ?mr3_2 ?ne3_2 ?mr3_4 ?ne3_4 ?mr4_0 ?ne4_0 ?mr4_1 ?ne4_1 ?mr4_2 ?ne4_2 ?mr4_3 ?ne4_3 ?z0 ?z1 ?z2 ?z3 ?z4 ?z5 ?z6 ?z7 ?z8 ?z9 ?b0 ?gk0 ?cg1 ?cg2 LawX.law_true
    (case aC0 => k_is); (case aC1 => k_is); (case aC2 => k_is); (case aC3 => k_is); (case aC4 => k_is); (case a0 => k_is)
    (case l0 => k_is); (case c0 => k_is); (case k0 => k_is); (case a1 => k_is); (case l1 => k_is); (case c1 => k_is)
    (case k1 => k_is); (case a2 => k_is); (case l2 => k_is); (case c2 => k_is); (case k2 => k_is); (case a3 => k_is)
    (case l3 => k_is); (case c3 => k_is); (case k3 => k_is); (case a4 => k_is); (case l4 => k_is); (case c4 => k_is)
    (case k4 => k_is); (case a5 => k_is); (case l5 => k_is); (case c5 => k_is); (case k5 => k_is); (case a6 => k_is)
    (case l6 => k_is); (case c6 => k_is); (case k6 => k_is); (case a7 => k_is); (case l7 => k_is); (case c7 => k_is)
    (case k7 => k_is); (case a8 => k_is); (case i8 => k_is); (case l8 => k_is); (case c8 => k_is); (case k8 => k_is)
    (case a9 => k_is); (case i9 => k_is); (case l9 => k_is); (case c9 => k_is); (case k9 => k_is); (case a10 => k_is)
    (case i10 => k_is); (case l10 => k_is); (case c10 => k_is); (case k10 => k_is); (case a11 => k_is); (case i11 => k_is)
    (case l11 => k_is); (case c11 => k_is); (case k11 => k_is); (case a12 => k_is); (case i12 => k_is); (case l12 => k_is)
    (case c12 => k_is); (case k12 => k_is); (case a13 => k_is); (case i13 => k_is); (case l13 => k_is); (case c13 => k_is)
    (case k13 => k_is); (case a14 => k_is); (case i14 => k_is); (case l14 => k_is); (case c14 => k_is); (case k14 => k_is)
    (case a15 => k_is); (case i15 => k_is); (case l15 => k_is); (case c15 => k_is); (case k15 => k_is); (case a16 => k_is)
    (case i16 => k_is); (case l16 => k_is); (case c16 => k_is); (case k16 => k_is); (case a17 => k_is); (case i17 => k_is)
    (case l17 => k_is); (case c17 => k_is); (case k17 => k_is); (case a18 => k_is); (case i18 => k_is); (case l18 => k_is)
    (case c18 => k_is); (case k18 => k_is); (case a19 => k_is); (case i19 => k_is); (case l19 => k_is); (case c19 => k_is)
    (case k19 => k_is); (case a20 => k_is); (case i20 => k_is); (case l20 => k_is); (case c20 => k_is); (case k20 => k_is)
    (case pg0 => k_is); (case hd0 => k_is); (case po0 => k_is); (case sa0 => k_is); (case mk0 => k_is); (case kc0 => k_is)
    (case ic0 => k_is); (case im0 => k_is); (case ty0 => k_is); (case nq0 => k_is); (case n0_11 => k_is); (case pg1 => k_is)
    (case hd1 => k_is); (case po1 => k_is); (case sa1 => k_is); (case mk1 => k_is); (case kc1 => k_is); (case ic1 => k_is)
    (case im1 => k_is); (case ty1 => k_is); (case nq1 => k_is); (case n1_2 => k_is); (case n1_0 => k_is); (case n1_1 => k_is)
    (case pg2 => k_is); (case hd2 => k_is); (case po2 => k_is); (case sa2 => k_is); (case mk2 => k_is); (case kc2 => k_is)
    (case ic2 => k_is); (case im2 => k_is); (case ty2 => k_is); (case nq2 => k_is); (case n2_3 => k_is); (case n2_5 => k_is)
    (case n2_0 => k_is); (case n2_4 => k_is); (case pg3 => k_is); (case hd3 => k_is); (case po3 => k_is); (case sa3 => k_is)
    (case mk3 => k_is); (case kc3 => k_is); (case ic3 => k_is); (case im3 => k_is); (case ty3 => k_is); (case nq3 => k_is)
    (case n3_10 => k_is); (case pg4 => k_is); (case hd4 => k_is); (case po4 => k_is); (case sa4 => k_is); (case mk4 => k_is)
    (case kc4 => k_is); (case ic4 => k_is); (case im4 => k_is); (case ty4 => k_is); (case nq4 => k_is); (case n4_8 => k_is)
    (case n4_7 => k_is); (case n4_6 => k_is); (case n4_9 => k_is); (case mr0_1 => k_is); (case ne0_1 => decide); (case mr0_2 => k_is)
    (case ne0_2 => decide); (case mr0_3 => k_is); (case ne0_3 => decide); (case mr0_4 => k_is); (case ne0_4 => decide); (case mr1_0 => k_is)
    (case ne1_0 => decide); (case mr1_2 => k_is); (case ne1_2 => decide); (case mr1_3 => k_is); (case ne1_3 => decide); (case mr1_4 => k_is)
    (case ne1_4 => decide); (case mr2_0 => k_is); (case ne2_0 => decide); (case mr2_1 => k_is); (case ne2_1 => decide); (case mr2_3 => k_is)
    (case ne2_3 => decide); (case mr2_4 => k_is); (case ne2_4 => decide); (case mr3_0 => k_is); (case ne3_0 => decide); (case mr3_1 => k_is)
    (case ne3_1 => decide); (case mr3_2 => k_is); (case ne3_2 => decide); (case mr3_4 => k_is); (case ne3_4 => decide); (case mr4_0 => k_is)
    (case ne4_0 => decide); (case mr4_1 => k_is); (case ne4_1 => decide); (case mr4_2 => k_is); (case ne4_2 => decide); (case mr4_3 => k_is)
    (case ne4_3 => decide); (case z0 => k_is); (case z1 => k_is); (case z2 => k_is); (case z3 => k_is); (case z4 => k_is)
    (case z5 => k_is); (case z6 => k_is); (case z7 => k_is); (case z8 => k_is); (case z9 => k_is); (case b0 => k_is)
    (case gk0 => k_is); (case cg1 => k_is); (case cg2 => k_is)
