import PyProof.Rows.All
import Wide.All
import OpenK.AllK
import Wide.FinOn
import PyProof.EqAt
import PyProof.EqKinds
import PyProof.TupleCall
import Open.SpecLaws
import KE.OsGo
import PySem.Challenge.RW_openchange_k68_whole_lease_relations
import HandS.ForMost
import HandS.Star
import HandS.ExcOwn
import HandS.CallSlots
import HandS.TupAny
import HandS.TupMul
import HandS.Wide
import HandS.Text
import HandS.Gcd
import HandS.IsInst
import HandS.Deep
import HandS.Flow
import HandS.WordsDict
import HandS.RaiseMore
import HandS.Iter
import HandS.Comp
import HandS.Style
import HandS.Small
import HandS.WordsExc
import HandS.Codes
set_option Elab.async false
set_option linter.all false
set_option maxRecDepth 100000
set_option maxHeartbeats 0
/-! VMa: a small machine for a part of Python, over plain data; how its data lie in the layer's abstract heap. -/
namespace VM
open PySem PySem.Spec PyProof.Rows L2
/-! ### data -/
abbrev Tx := List Nat
def toS (s : Tx) : Str := ⟨s.toArray⟩
theorem toS_inj {s t : Tx} (h : toS s = toS t) : s = t := by
  have h1 : s.toArray = t.toArray := by injection h
  simpa using h1
inductive Va where
  | non | bl (b : Bool) | int (i : Int) | str (s : Tx) | tup (xs : List Va) | ref (n : Nat) | cl (k : Nat) | ty (n : String)
inductive VO where
  | lst (fz : Bool) (xs : List Va)
  | dct (lk : Bool) (kvs : List (Va × Va))
  | ins (c : Nat) (fs : List (Nat × Va))
  | deq (xs : List Va)
def VO.tr : VO → Bool
  | .lst true _ => false
  | _ => true
abbrev Gh := List VO
abbrev Lo := List (Option Va)
/-- what comes of a piece of code -/
inductive Res (α : Type) where
  | ok (a : α) (G : Gh)
  | ex (c : Nat) (fs : List (Nat × Va)) (G : Gh)
  | no
def Res.bind {α β : Type} (r : Res α) (f : α → Gh → Res β) : Res β :=
  match r with
  | .ok a G => f a G
  | .ex c fs G => .ex c fs G
  | .no => .no
@[simp] theorem Res.bind_ok {α β : Type} (a : α) (G : Gh) (f : α → Gh → Res β) : (Res.ok a G).bind f = f a G := rfl
@[simp] theorem Res.bind_ex {α β : Type} (c : Nat) (fs : List (Nat × Va)) (G : Gh) (f : α → Gh → Res β) : (Res.ex c fs G : Res α).bind f = .ex c fs G := rfl
@[simp] theorem Res.bind_no {α β : Type} (f : α → Gh → Res β) : (Res.no : Res α).bind f = .no := rfl
/-! ### what is fixed through a run -/
/-- a class: its attributes, methods, constants -/
structure Cd where
  flds : List Nat
  mth : Nat → Option Nat
  con : Nat → Option Va
  init : Option Nat
  bool : Option Nat
  eq : Option Nat
structure Sx where
  P : Program
  w : World
  K : PySem.W.Frag
  mg : Str → Option Value
  base : Heap
  ca : Nat → Addr
  fa : Nat → Addr
  nm : Nat → Str
  nn : Nat
  nc : Nat
  nf : Nat
  cd : Nat → Cd
  /-- whether a class is another one or below it -/
  sub : Nat → Nat → Bool
  isl : List (Nat × Nat)
  ibl : List (Nat × String)
  call : Nat → List Va → Gh → Res Va
  /-- names of the text's own: none of them is the module's -/
  bl : List Str
  /-- the module's constants, classes, defs -/
  gl : List (Str × Va)
  cg : List (Str × Nat)
  fg : List (Str × Nat)
  /-- the module's names for built-in functions, types -/
  bg : List (Str × String)
  tg : List (Str × String)
mutual
def VR (S : Sx) (ρ : Nat → Addr) (n : Nat) (H : Hp) : Va → V → Prop
  | .non, v => v = .non
  | .bl b, v => v = .bl b
  | .int i, v => v = .int i
  | .str s, v => v = .str (toS s)
  | .tup xs, v => ∃ a ys, v = .ref a ∧ SqT S.K H a ys ∧ VRs S ρ n H xs ys
  | .ref m, v => m < n ∧ v = .ref (ρ m)
  | .cl k, v => v = .ref (S.ca k)
  | .ty t, v => v = .ty t
def VRs (S : Sx) (ρ : Nat → Addr) (n : Nat) (H : Hp) : List Va → List V → Prop
  | [], ys => ys = []
  | x :: xs, ys => ∃ y r, ys = y :: r ∧ VR S ρ n H x y ∧ VRs S ρ n H xs r
end
structure Ext (ρ : Nat → Addr) (n : Nat) (H : Hp) (ρ' : Nat → Addr) (n' : Nat) (H' : Hp) : Prop where
  le : n ≤ n'
  eq : ∀ i, i < n → ρ' i = ρ i
  tu : ∀ a xs, H a = some (.tup xs) → H' a = some (.tup xs)
  fz : ∀ a o u, H a = some (.frz o u) → H' a = some (.frz o u)
theorem Ext.refl (ρ : Nat → Addr) (n : Nat) (H : Hp) : Ext ρ n H ρ n H := ⟨Nat.le_refl _, fun _ _ => rfl, fun _ _ h => h, fun _ _ _ h => h⟩
theorem Ext.trans {ρ ρ1 ρ2 : Nat → Addr} {n n1 n2 : Nat} {H H1 H2 : Hp} (a : Ext ρ n H ρ1 n1 H1) (b : Ext ρ1 n1 H1 ρ2 n2 H2) : Ext ρ n H ρ2 n2 H2 :=
  ⟨Nat.le_trans a.le b.le, fun i h => (b.eq i (Nat.lt_of_lt_of_le h a.le)).trans (a.eq i h), fun c xs h => b.tu c xs (a.tu c xs h), fun c o u h => b.fz c o u (a.fz c o u h)⟩
section
variable {S : Sx} {ρ ρ' : Nat → Addr} {n n' : Nat} {H H' : Hp}
theorem sqt_mono (e : Ext ρ n H ρ' n' H') {a : Addr} {xs : List V} (h : SqT S.K H a xs) : SqT S.K H' a xs := by
  rcases h with (h | ⟨o, h⟩) | h
  · exact .inl (.inl (e.tu _ _ h))
  · exact .inl (.inr ⟨o, e.fz _ _ _ h⟩)
  · exact .inr h
mutual
theorem VR.mono (e : Ext ρ n H ρ' n' H') : ∀ {x : Va} {v : V}, VR S ρ n H x v → VR S ρ' n' H' x v
  | .non, _, h => by simpa [VR] using h
  | .bl _, _, h => by simpa [VR] using h
  | .int _, _, h => by simpa [VR] using h
  | .str _, _, h => by simpa [VR] using h
  | .tup xs, _, h => by
    unfold VR at h ⊢
    obtain ⟨a, ys, h1, h2, h3⟩ := h
    exact ⟨a, ys, h1, sqt_mono e h2, VRs.mono e h3⟩
  | .ref m, _, h => by
    unfold VR at h ⊢
    obtain ⟨h1, h2⟩ := h
    exact ⟨Nat.lt_of_lt_of_le h1 e.le, by rw [h2, e.eq m h1]⟩
  | .cl _, _, h => by simpa [VR] using h
  | .ty _, _, h => by simpa [VR] using h
theorem VRs.mono (e : Ext ρ n H ρ' n' H') : ∀ {x : List Va} {v : List V}, VRs S ρ n H x v → VRs S ρ' n' H' x v
  | [], _, h => by simpa [VRs] using h
  | x :: xs, _, h => by
    unfold VRs at h ⊢
    obtain ⟨y, r, h1, h2, h3⟩ := h
    exact ⟨y, r, h1, VR.mono e h2, VRs.mono e h3⟩
end
theorem VRs.nil_iff {ys : List V} : VRs S ρ n H [] ys ↔ ys = [] := by unfold VRs; exact Iff.rfl
theorem VRs.cons {x : Va} {xs : List Va} {y : V} {ys : List V} (h : VR S ρ n H x y) (t : VRs S ρ n H xs ys) : VRs S ρ n H (x :: xs) (y :: ys) := by
  unfold VRs
  exact ⟨y, ys, rfl, h, t⟩
theorem VRs.nil : VRs S ρ n H [] [] := by unfold VRs; rfl
theorem VRs.length : ∀ {xs : List Va} {ys : List V}, VRs S ρ n H xs ys → ys.length = xs.length
  | [], _, h => by unfold VRs at h; subst h; rfl
  | _ :: xs, _, h => by
    unfold VRs at h
    obtain ⟨y, r, rfl, _, h3⟩ := h
    simp [VRs.length h3]
theorem VRs.get : ∀ {xs : List Va} {ys : List V} {i : Nat} {x : Va}, VRs S ρ n H xs ys → xs[i]? = some x → ∃ y, ys[i]? = some y ∧ VR S ρ n H x y
  | [], _, _, _, _, h => by simp at h
  | x0 :: xs, _, i, x, h, e => by
    unfold VRs at h
    obtain ⟨y, r, rfl, h2, h3⟩ := h
    cases i with
    | zero => simp at e; subst e; exact ⟨y, rfl, h2⟩
    | succ i =>
      obtain ⟨z, h4, h5⟩ := VRs.get (i := i) (x := x) h3 (by simpa using e)
      exact ⟨z, by simpa using h4, h5⟩
theorem VRs.append : ∀ {xs xs' : List Va} {ys ys' : List V}, VRs S ρ n H xs ys → VRs S ρ n H xs' ys' → VRs S ρ n H (xs ++ xs') (ys ++ ys')
  | [], _, _, _, h, h' => by unfold VRs at h; subst h; exact h'
  | x :: xs, _, _, _, h, h' => by
    unfold VRs at h
    obtain ⟨y, r, rfl, h2, h3⟩ := h
    exact VRs.cons h2 (VRs.append h3 h')
theorem VRs.set : ∀ {xs : List Va} {ys : List V} {i : Nat} {x : Va} {y : V}, VRs S ρ n H xs ys → VR S ρ n H x y → VRs S ρ n H (xs.set i x) (ys.set i y)
  | [], _, _, _, _, h, _ => by unfold VRs at h; subst h; exact VRs.nil
  | x0 :: xs, _, i, x, y, h, h' => by
    unfold VRs at h
    obtain ⟨z, r, rfl, h2, h3⟩ := h
    cases i with
    | zero => exact VRs.cons h' h3
    | succ i => exact VRs.cons h2 (VRs.set h3 h')
theorem VRs.take (k : Nat) : ∀ {xs : List Va} {ys : List V}, VRs S ρ n H xs ys → VRs S ρ n H (xs.take k) (ys.take k) := by
  induction k with
  | zero => intro xs ys _; simpa using VRs.nil
  | succ k ih =>
    intro xs ys h
    cases xs with
    | nil => unfold VRs at h; subst h; exact VRs.nil
    | cons x xs =>
      unfold VRs at h
      obtain ⟨y, r, rfl, h2, h3⟩ := h
      exact VRs.cons h2 (ih h3)
theorem VRs.drop (k : Nat) : ∀ {xs : List Va} {ys : List V}, VRs S ρ n H xs ys → VRs S ρ n H (xs.drop k) (ys.drop k) := by
  induction k with
  | zero => intro xs ys h; exact h
  | succ k ih =>
    intro xs ys h
    cases xs with
    | nil => unfold VRs at h; subst h; exact VRs.nil
    | cons x xs =>
      unfold VRs at h
      obtain ⟨y, r, rfl, h2, h3⟩ := h
      exact ih h3
end
/-! ### objects -/
/-- a written list of the text, as it stands -/
def Kl (K : PySem.W.Frag) (a : Addr) (xs : List V) : Prop :=
  ∃ (o : Obj) (its : Array Value) (n : Nat), K.lookup a = some o ∧ o.cls = .type "list" ∧ o.dict = none ∧ o.data = .seq its n ∧ its.size ≤ sizeLine ∧ Vals xs its.toList
/-- attributes by their numbers -/
def FR (S : Sx) (ρ : Nat → Addr) (n : Nat) (H : Hp) : List (Nat × Va) → List (Str × V) → Prop
  | [], gs => gs = []
  | (f, x) :: fs, gs => ∃ y r, gs = (S.nm f, y) :: r ∧ f < S.nn ∧ VR S ρ n H x y ∧ FR S ρ n H fs r
/-- keys that are ints or texts -/
def keyS : Va → Option Key
  | .int i => some (.inl i)
  | .str s => some (.inr (toS s))
  | _ => none
def DRk (S : Sx) (ρ : Nat → Addr) (n : Nat) (H : Hp) : List (Va × Va) → List (Key × V) → Prop
  | [], gs => gs = []
  | (k, x) :: fs, gs => ∃ k' y r, gs = (k', y) :: r ∧ keyS k = some k' ∧ VR S ρ n H x y ∧ DRk S ρ n H fs r
def OR (S : Sx) (ρ : Nat → Addr) (n : Nat) (H : Hp) : VO → Addr → Prop
  | .lst false xs, a => ∃ ys, H a = some (.lst ys) ∧ VRs S ρ n H xs ys
  | .lst true xs, a => ∃ ys, ((∃ o, H a = some (.frz o (.lst ys))) ∨ Kl S.K a ys) ∧ VRs S ρ n H xs ys
  | .dct false kvs, a => ∃ ks, H a = some (.dK ks) ∧ DRk S ρ n H kvs ks
  | .dct true kvs, a => ∃ o ks, H a = some (.frz o (.dK ks)) ∧ DRk S ρ n H kvs ks
  | .ins c fs, a => ∃ dx gs, H a = some (.ins (S.ca c) dx gs) ∧ FR S ρ n H fs gs ∧ fs.length ≤ 900 ∧ c < S.nc ∧ ∀ p ∈ fs, p.1 ∈ (S.cd c).flds
  | .deq _, _ => False
structure Rl (S : Sx) (ρ : Nat → Addr) (G : Gh) (H : Hp) : Prop where
  ob : ∀ (m : Nat) (o : VO), G[m]? = some o → OR S ρ G.length H o (ρ m)
  inj : ∀ (i j : Nat) (oi oj : VO), G[i]? = some oi → G[j]? = some oj → oi.tr = true → oj.tr = true → ρ i = ρ j → i = j
section
variable {S : Sx} {ρ ρ' : Nat → Addr} {n n' : Nat} {H H' : Hp} {G : Gh}
theorem FR.mono (e : Ext ρ n H ρ' n' H') : ∀ {fs : List (Nat × Va)} {gs : List (Str × V)}, FR S ρ n H fs gs → FR S ρ' n' H' fs gs
  | [], _, h => h
  | (f, x) :: fs, _, h => by
    obtain ⟨y, r, h1, h0, h2, h3⟩ := h
    exact ⟨y, r, h1, h0, h2.mono e, FR.mono e h3⟩
theorem DRk.mono (e : Ext ρ n H ρ' n' H') : ∀ {fs : List (Va × Va)} {gs : List (Key × V)}, DRk S ρ n H fs gs → DRk S ρ' n' H' fs gs
  | [], _, h => h
  | (f, x) :: fs, _, h => by
    obtain ⟨k', y, r, h1, h0, h2, h3⟩ := h
    exact ⟨k', y, r, h1, h0, h2.mono e, DRk.mono e h3⟩
/-- an object's description where its own place is as it was -/
theorem OR.mono (e : Ext ρ n H ρ' n' H') {a : Addr} (ha : ∀ o, H a = some o → H' a = some o) : ∀ {o : VO}, OR S ρ n H o a → OR S ρ' n' H' o a
  | .lst false xs, ⟨ys, h1, h2⟩ => ⟨ys, ha _ h1, h2.mono e⟩
  | .lst true xs, ⟨ys, h1, h2⟩ => ⟨ys, h1.elim (fun ⟨o, q⟩ => .inl ⟨o, e.fz _ _ _ q⟩) .inr, h2.mono e⟩
  | .dct false kvs, ⟨ks, h1, h2⟩ => ⟨ks, ha _ h1, h2.mono e⟩
  | .dct true kvs, ⟨o, ks, h1, h2⟩ => ⟨o, ks, ha _ h1, h2.mono e⟩
  | .ins c fs, ⟨dx, gs, h1, h2, h3, h5, h4⟩ => ⟨dx, gs, ha _ h1, h2.mono e, h3, h5, h4⟩
/-- what is tracked stands -/
theorem OR.there : ∀ {o : VO} {a : Addr}, OR S ρ n H o a → o.tr = true → ∃ u, H a = some u
  | .lst false xs, _, ⟨ys, h1, _⟩, _ => ⟨_, h1⟩
  | .lst true xs, _, _, h => by simp [VO.tr] at h
  | .dct false kvs, _, ⟨ks, h1, _⟩, _ => ⟨_, h1⟩
  | .dct true kvs, _, ⟨_, ks, h1, _⟩, _ => ⟨_, h1⟩
  | .ins c fs, _, ⟨dx, gs, h1, _⟩, _ => ⟨_, h1⟩
/-- where the place stays as it was -/
theorem OR.same (e : Ext ρ n H ρ' n' H') {a : Addr} {o : VO} (h : OR S ρ n H o a) (ha : o.tr = true → H' a = H a) : OR S ρ' n' H' o a := by
  cases ho : o.tr with
  | true => exact h.mono e fun u q => (ha ho).trans q
  | false =>
    cases o with
    | lst fz xs =>
      cases fz with
      | true =>
        obtain ⟨ys, h1, h2⟩ := h
        exact ⟨ys, h1.elim (fun ⟨o, q⟩ => .inl ⟨o, e.fz _ _ _ q⟩) .inr, h2.mono e⟩
      | false => simp [VO.tr] at ho
    | dct lk kvs => simp [VO.tr] at ho
    | ins c fs => simp [VO.tr] at ho
    | deq xs => simp [VO.tr] at ho
/-- the map with one place more -/
def put (ρ : Nat → Addr) (n : Nat) (p : Addr) : Nat → Addr := fun i => if i = n then p else ρ i
theorem put_same {p : Addr} : put ρ n p n = p := if_pos rfl
theorem put_old {p : Addr} {i : Nat} (h : i < n) : put ρ n p i = ρ i := if_neg (Nat.ne_of_lt h)
/-- a new thing that is no object of ours is laid at p -/
theorem Ext.new {p : Addr} {o : HO} (hp : H p = none) : Ext ρ n H ρ n (upd H p o) :=
  ⟨Nat.le_refl _, fun _ _ => rfl, fun a xs h => by rw [upd_ne (ne_of_none h hp)]; exact h, fun a o u h => by rw [upd_ne (ne_of_none h hp)]; exact h⟩
theorem Ext.newO {p : Addr} {o : HO} (hp : H p = none) : Ext ρ n H (put ρ n p) (n + 1) (upd H p o) :=
  ⟨Nat.le_succ _, fun i h => put_old h, fun a xs h => by rw [upd_ne (ne_of_none h hp)]; exact h, fun a o u h => by rw [upd_ne (ne_of_none h hp)]; exact h⟩
/-- all that is tracked stays -/
theorem Rl.keep (R : Rl S ρ G H) (h : ∀ a u, H a = some u → H' a = some u) : Rl S ρ G H' :=
  ⟨fun m o q => (R.ob m o q).mono ⟨Nat.le_refl _, fun _ _ => rfl, fun a xs => h a _, fun a o u => h a _⟩ fun u => h _ u, R.inj⟩
theorem Rl.new {p : Addr} {o : HO} (R : Rl S ρ G H) (hp : H p = none) : Rl S ρ G (upd H p o) := R.keep fun a u h => by rw [upd_ne (ne_of_none h hp)]; exact h
theorem getElem?_snoc {α : Type} {l : List α} {x y : α} {i : Nat} (h : (l ++ [x])[i]? = some y) : (i < l.length ∧ l[i]? = some y) ∨ (i = l.length ∧ y = x) := by
  by_cases hi : i < l.length
  · rw [List.getElem?_append_left hi] at h
    exact .inl ⟨hi, h⟩
  · rw [List.getElem?_append_right (by omega)] at h
    have : i - l.length = 0 := by
      cases e : i - l.length with
      | zero => rfl
      | succ k => rw [e] at h; simp at h
    rw [this] at h
    simp at h
    exact .inr ⟨by omega, h.symm⟩
/-- a new object of ours at p -/
theorem Rl.push {p : Addr} {o : VO} (R : Rl S ρ G H) (e : Ext ρ G.length H (put ρ G.length p) (G.length + 1) H') (keep : ∀ a u, H a = some u → H' a = some u) (hp : H p = none) (new : OR S (put ρ G.length p) (G.length + 1) H' o p) :
    Rl S (put ρ G.length p) (G ++ [o]) H' := by
  have el : (G ++ [o]).length = G.length + 1 := by simp
  refine ⟨fun m u h => ?_, fun i j oi oj hi hj ti tj q => ?_⟩
  · rw [el]
    rcases getElem?_snoc h with ⟨h1, h2⟩ | ⟨h1, h2⟩
    · rw [put_old h1]
      exact (R.ob m u h2).mono e fun u => keep _ u
    · subst h1; subst h2; rw [put_same]; exact new
  · rcases getElem?_snoc hi with ⟨h1, h2⟩ | ⟨h1, h2⟩
    · rcases getElem?_snoc hj with ⟨h3, h4⟩ | ⟨h3, h4⟩
      · rw [put_old h1, put_old h3] at q
        exact R.inj i j oi oj h2 h4 ti tj q
      · exfalso
        rw [put_old h1, h3, put_same] at q
        obtain ⟨u, hu⟩ := (R.ob i oi h2).there ti
        rw [q, hp] at hu; cases hu
    · rcases getElem?_snoc hj with ⟨h3, h4⟩ | ⟨h3, h4⟩
      · exfalso
        rw [h1, put_same, put_old h3] at q
        obtain ⟨u, hu⟩ := (R.ob j oj h4).there tj
        rw [← q, hp] at hu; cases hu
      · omega
/-- an object of ours is changed -/
theorem Rl.write {m : Nat} {o o' : VO} {u : HO} (R : Rl S ρ G H) (hm : G[m]? = some o) (ho : o.tr = true) (ho' : o'.tr = true) (nt : ∀ xs, H (ρ m) ≠ some (.tup xs)) (nf : ∀ b v, H (ρ m) ≠ some (.frz b v)) (new : ∀ ρ', ρ' = ρ → Ext ρ G.length H ρ' G.length (upd H (ρ m) u) → OR S ρ' G.length (upd H (ρ m) u) o' (ρ m)) :
    Rl S ρ (G.set m o') (upd H (ρ m) u) ∧ Ext ρ G.length H ρ (G.set m o').length (upd H (ρ m) u) := by
  have e : Ext ρ G.length H ρ G.length (upd H (ρ m) u) := ⟨Nat.le_refl _, fun _ _ => rfl, fun a xs h => by
      rw [upd_ne (fun z => by rw [z] at h; exact nt _ h)]; exact h, fun a b v h => by
      rw [upd_ne (fun z => by rw [z] at h; exact nf _ _ h)]; exact h⟩
  have el : (G.set m o').length = G.length := List.length_set ..
  have hl : m < G.length := (List.getElem?_eq_some_iff.mp hm).1
  refine ⟨⟨fun i v h => ?_, fun i j oi oj hi hj ti tj q => ?_⟩, by rw [el]; exact e⟩
  · rw [el]
    by_cases hi : i = m
    · subst hi
      rw [List.getElem?_set_self hl] at h
      cases h
      exact new ρ rfl e
    · rw [List.getElem?_set_ne (Ne.symm hi)] at h
      exact (R.ob i v h).same e fun tv => upd_ne fun z => hi (R.inj i m v o h hm tv ho z)
  · have g : ∀ {k : Nat} {v : VO}, (G.set m o')[k]? = some v → v.tr = true → ∃ v', G[k]? = some v' ∧ v'.tr = true := fun {k v} h t => by
      by_cases hk : k = m
      · subst hk; exact ⟨o, hm, ho⟩
      · rw [List.getElem?_set_ne (Ne.symm hk)] at h; exact ⟨v, h, t⟩
    obtain ⟨vi, a1, a2⟩ := g hi ti
    obtain ⟨vj, b1, b2⟩ := g hj tj
    exact R.inj i j vi vj a1 b1 a2 b2 q
end
end VM
namespace VM
open PySem PySem.Spec PyProof.Rows L2
/-! ### wishes -/
def LR (S : Sx) (ρ : Nat → Addr) (n : Nat) (H : Hp) (L : Lo) (σ : L2.St) : Prop := ∀ (i : Nat) (x : Va), L[i]? = some (some x) → ∃ v, σ[i]? = some (some v) ∧ VR S ρ n H x v
theorem LR.mono {S : Sx} {ρ ρ' : Nat → Addr} {n n' : Nat} {H H' : Hp} {L : Lo} {σ : L2.St} (e : Ext ρ n H ρ' n' H') (h : LR S ρ n H L σ) : LR S ρ' n' H' L σ := fun i x q => by
  obtain ⟨v, h1, h2⟩ := h i x q
  exact ⟨v, h1, h2.mono e⟩
abbrev RelT (α β : Type) := (Nat → Addr) → Nat → Hp → α → β → Prop
def Post {α β : Type} (S : Sx) (rel : RelT α β) (E : XK) (ρ : Nat → Addr) (n : Nat) (H : Hp) (Q : β → Hp → Prop) (r : Res α) : Prop :=
  match r with
  | .ok v G' => ∀ ρ' H' v', Ext ρ n H ρ' G'.length H' → Rl S ρ' G' H' → rel ρ' G'.length H' v v' → Q v' H'
  | .ex c fs G' => ∀ ρ' H' d fs', Ext ρ n H ρ' G'.length H' → Rl S ρ' G' H' → FR S ρ' G'.length H' fs fs' → H' d = some (.xd fs') → E (.ref (S.ca c)) (some d) H'
  | .no => False
section
variable {α β γ δ : Type} {S : Sx} {ra : RelT α β} {rb : RelT γ δ} {E : XK} {ρ ρ' : Nat → Addr} {n n' : Nat} {H H' : Hp} {Q : δ → Hp → Prop} {Q1 : β → Hp → Prop}
theorem Post.after {r : Res γ} (p : Post S rb E ρ n H Q r) (e : Ext ρ n H ρ' n' H') : Post S rb E ρ' n' H' Q r := by
  cases r with
  | ok v G => exact fun ρ2 H2 v2 e2 => p ρ2 H2 v2 (e.trans e2)
  | ex c fs G => exact fun ρ2 H2 d fs' e2 => p ρ2 H2 d fs' (e.trans e2)
  | no => exact p
theorem Post.bind {r : Res α} {f : α → Gh → Res γ} (p : Post S rb E ρ n H Q (r.bind f))
    (k : ∀ (a : α) (G' : Gh) (ρ' : Nat → Addr) (H' : Hp) (x : β), Ext ρ n H ρ' G'.length H' → Rl S ρ' G' H' → ra ρ' G'.length H' a x → Post S rb E ρ' G'.length H' Q (f a G') → Q1 x H') : Post S ra E ρ n H Q1 r := by
  cases r with
  | ok v G => exact fun ρ2 H2 v2 e2 R2 r2 => k v G ρ2 H2 v2 e2 R2 r2 (Post.after (r := f v G) p e2)
  | ex c fs G => exact p
  | no => exact p
theorem Post.bindE {r : Res α} {f : α → Gh → Res γ} (p : Post S rb E ρ n H Q (r.bind f))
    (k : ∀ (a : α) (G' : Gh) (ρ' : Nat → Addr) (H' : Hp) (x : β), r = .ok a G' → Ext ρ n H ρ' G'.length H' → Rl S ρ' G' H' → ra ρ' G'.length H' a x → Post S rb E ρ' G'.length H' Q (f a G') → Q1 x H') : Post S ra E ρ n H Q1 r := by
  cases r with
  | ok v G => exact fun ρ2 H2 v2 e2 R2 r2 => k v G ρ2 H2 v2 rfl e2 R2 r2 (Post.after (r := f v G) p e2)
  | ex c fs G => exact p
  | no => exact p
theorem Post.mono {Q' : δ → Hp → Prop} {r : Res γ} (p : Post S rb E ρ n H Q r) (h : ∀ v H, Q v H → Q' v H) : Post S rb E ρ n H Q' r := by
  cases r with
  | ok v G => exact fun ρ2 H2 v2 e2 R2 r2 => h _ _ (p ρ2 H2 v2 e2 R2 r2)
  | ex c fs G => exact p
  | no => exact p
end
abbrev EW := L2.St → XK
abbrev relB : RelT Bool Bool := fun _ _ _ a b => a = b
def WG {α β : Type} (S : Sx) (rel : RelT α β) (E : EW) (ev : Lo → Gh → Res α) : L2.St → Hp → (β → Hp → Prop) → Prop := fun σ H Q => ∃ ρ L G, Rl S ρ G H ∧ LR S ρ G.length H L σ ∧ Post S rel (E σ) ρ G.length H Q (ev L G)
abbrev WE (S : Sx) (E : EW) (ev : Lo → Gh → Res Va) : TE := WG S (VR S) E ev
abbrev WT (S : Sx) (E : EW) (ev : Lo → Gh → Res Bool) : TT := WG S relB E ev
abbrev WA (S : Sx) (E : EW) (ev : Lo → Gh → Res (List Va)) : TA := WG S (VRs S) E ev
def lift {α : Type} : Option (α × Gh) → Res α
  | some (a, G) => .ok a G
  | none => .no
theorem bind_inv {α β : Type} {r : Res α} {f : α → Gh → Res β} {v : β} {G : Gh} (h : r.bind f = .ok v G) : ∃ a G1, r = .ok a G1 ∧ f a G1 = .ok v G := by
  cases r with
  | ok a G1 => exact ⟨a, G1, rfl, h⟩
  | ex c fs G1 => cases h
  | no => cases h
theorem lift_inv {α : Type} {o : Option (α × Gh)} {v : α} {G : Gh} (h : lift o = .ok v G) : o = some (v, G) := by
  cases o with
  | none => cases h
  | some p => cases h; rfl
def noex {α : Type} : Res α → Res α
  | .ex _ _ _ => .no
  | r => r
/-- operations on values that raise nothing -/
abbrev Op1 := Va → Gh → Option (Va × Gh)
abbrev Op2 := Va → Va → Gh → Option (Va × Gh)
abbrev OpN := List Va → Gh → Option (Va × Gh)
def Fin1 (S : Sx) (ρ : Nat → Addr) (n : Nat) (H : Hp) (Q : VK) (r : Option (Va × Gh)) : Prop := ∃ v G', r = some (v, G') ∧ ∀ ρ' H' v', Ext ρ n H ρ' G'.length H' → Rl S ρ' G' H' → VR S ρ' G'.length H' v v' → Q v' H'
def rO1 (S : Sx) (op : Op1) : V → Hp → VK → Prop := fun x H Q => ∃ ρ G a, Rl S ρ G H ∧ VR S ρ G.length H a x ∧ Fin1 S ρ G.length H Q (op a G)
def rO2 (S : Sx) (op : Op2) : R2 := fun x y H Q => ∃ ρ G a b, Rl S ρ G H ∧ VR S ρ G.length H a x ∧ VR S ρ G.length H b y ∧ Fin1 S ρ G.length H Q (op a b G)
def rON (S : Sx) (op : OpN) : List V → Hp → VK → Prop := fun xs H Q => ∃ ρ G as, Rl S ρ G H ∧ VRs S ρ G.length H as xs ∧ Fin1 S ρ G.length H Q (op as G)
theorem fin_of_lift {S : Sx} {E : XK} {ρ : Nat → Addr} {n : Nat} {H : Hp} {Q : VK} {r : Option (Va × Gh)} (p : Post S (VR S) E ρ n H Q (lift r)) : Fin1 S ρ n H Q r := by
  cases r with
  | none => exact p.elim
  | some x => exact ⟨x.1, x.2, rfl, p⟩
/-- the result stands already -/
theorem Fin1.old {S : Sx} {ρ : Nat → Addr} {G : Gh} {H : Hp} {Q : VK} {v : Va} {v' : V} (h : Fin1 S ρ G.length H Q (some (v, G))) (R : Rl S ρ G H) (r : VR S ρ G.length H v v') : Q v' H := by
  obtain ⟨a, b, e, k⟩ := h
  cases e
  exact k ρ H v' (Ext.refl _ _ _) R r
theorem Fin1.ex1 {S : Sx} {ρ : Nat → Addr} {n : Nat} {H : Hp} {Q : VK} {r : Option (Va × Gh)} (h : Fin1 S ρ n H Q r) : ∃ v G', r = some (v, G') := let ⟨v, G', e, _⟩ := h; ⟨v, G', e⟩
/-- a value without parts at hand, on the heap as it is, or with things that are not ours -/
theorem Fin1.now {S : Sx} {ρ : Nat → Addr} {G : Gh} {H H' : Hp} {Q : VK} {v : Va} {v' : V} (h : Fin1 S ρ G.length H Q (some (v, G))) (e : Ext ρ G.length H ρ G.length H') (R : Rl S ρ G H') (r : VR S ρ G.length H' v v') : Q v' H' := by
  obtain ⟨a, b, q, k⟩ := h
  cases q
  exact k ρ H' v' e R r
/-- a new tuple -/
theorem Fin1.tup {S : Sx} {ρ : Nat → Addr} {G : Gh} {H : Hp} {Q : VK} {xs : List Va} {ys : List V} (h : Fin1 S ρ G.length H Q (some (.tup xs, G))) (R : Rl S ρ G H) (r : VRs S ρ G.length H xs ys) {p : Addr} (hp : H p = none) : Q (.ref p) (upd H p (.tup ys)) := by
  have e : Ext ρ G.length H ρ G.length (upd H p (.tup ys)) := Ext.new hp
  refine h.now e (R.new hp) ?_
  unfold VR
  exact ⟨p, ys, rfl, SqT.of upd_same, r.mono e⟩
/-- a new list -/
theorem rl_lst {S : Sx} {ρ : Nat → Addr} {G : Gh} {H : Hp} {xs : List Va} {ys : List V} (R : Rl S ρ G H) (r : VRs S ρ G.length H xs ys) {p : Addr} (hp : H p = none) :
    Rl S (put ρ G.length p) (G ++ [.lst false xs]) (upd H p (.lst ys)) ∧ Ext ρ G.length H (put ρ G.length p) (G ++ [VO.lst false xs]).length (upd H p (.lst ys)) ∧ VR S (put ρ G.length p) (G ++ [VO.lst false xs]).length (upd H p (.lst ys)) (.ref G.length) (.ref p) := by
  have e : Ext ρ G.length H (put ρ G.length p) (G.length + 1) (upd H p (.lst ys)) := Ext.newO hp
  have el : (G ++ [VO.lst false xs]).length = G.length + 1 := by simp
  refine ⟨R.push e (fun a u h => by rw [upd_ne (ne_of_none h hp)]; exact h) hp ⟨ys, upd_same, r.mono e⟩, by rw [el]; exact e, ?_⟩
  unfold VR
  exact ⟨by rw [el]; exact Nat.lt_succ_self _, by rw [put_same]⟩
theorem Fin1.lst {S : Sx} {ρ : Nat → Addr} {G : Gh} {H : Hp} {Q : VK} {xs : List Va} {ys : List V} (h : Fin1 S ρ G.length H Q (some (.ref G.length, G ++ [.lst false xs]))) (R : Rl S ρ G H) (r : VRs S ρ G.length H xs ys) {p : Addr} (hp : H p = none) : Q (.ref p) (upd H p (.lst ys)) := by
  obtain ⟨a, b, q, k⟩ := h
  cases q
  obtain ⟨a1, a2, a3⟩ := rl_lst R r hp
  exact k _ _ _ a2 a1 a3
/-! ### the context of a piece of code -/
def scIs (sc : Scope) (x : Str) (k : NameKind) : Bool := decide (sc.names.lookup x = some k)
def scVis (sc : Scope) (x : Str) : Bool := scIs sc x .local || scIs sc x .cell || scIs sc x .free
def scLoc (sc : Scope) (x : Str) : Bool := scIs sc x .local || scIs sc x .cell
def tagL : List String := ["NoneType", "bool", "int", "str", "tuple", "list", "dict"]
/-- what the text has of a class, of a def -/
structure ClsOk (S : Sx) (c : Nat) : Prop where
  cl : Cls S.K (S.ca c)
  nf : ∀ f ∈ (S.cd c).flds, NoAttr S.K (S.ca c) (S.nm f)
  mt : ∀ m k, (S.cd c).mth m = some k → k < S.nf ∧ Meth S.K (S.ca c) (S.nm m) (S.fa k)
  co : ∀ f v, (S.cd c).con f = some v → ∃ v' u, Con S.K (S.ca c) (S.nm f) v' u ∧ ∀ ρ n H, VR S ρ n H v v'
  mak : ∀ k, (S.cd c).init = some k → k < S.nf ∧ Mk S.K (S.ca c) (S.fa k)
  ic : PySem.W.findIn S.K (.ref (S.ca c)) "__class__" = some (some (.builtin "object.__class__"))
  im : PySem.W.mroIn S.K (S.ca c) (.type "object") = some true
  it : ∀ m ∈ tagL, PySem.W.kitOne S.K (.type m) (.ref (S.ca c)) = some false
  ib : ∀ m, (c, m) ∈ S.ibl → PySem.W.kitOne S.K (.ref (S.ca c)) (.type m) = some false
  is : ∀ c', (c', c) ∈ S.isl → PySem.W.kitOne S.K (.ref (S.ca c')) (.ref (S.ca c)) = some (S.sub c' c)
  bo : ∀ k, (S.cd c).bool = some k → k < S.nf ∧ PySem.W.findIn S.K (.ref (S.ca c)) "__bool__" = some (some (.ref (S.fa k))) ∧ PySem.W.isFn S.K (.ref (S.fa k)) = true
def spV (S : Sx) (k : Nat) (ar : Nat) : Sp := fun vs H Q E => ∃ ρ G as, Rl S ρ G H ∧ VRs S ρ G.length H as vs ∧ as.length = ar ∧ Post S (VR S) E ρ G.length H Q (S.call k as G)
def FnG (S : Sx) (lev k : Nat) : Prop := PySem.W.keepIn S.K (.ref (S.fa k)) = true ∧ ∃ fd ps, FnOk S.P S.w S.K S.mg S.base (CX S.P S.w) lev (S.fa k) fd ps (spV S k ps.length) ∧ Binds S.K fd ps [] ∧ ∀ as G, as.length ≠ ps.length → S.call k as G = .no
structure Good (S : Sx) (lev : Nat) : Prop where
  cls : ∀ c, c < S.nc → ClsOk S c
  fn : ∀ k, k < S.nf → FnG S lev k
  nmi : ∀ i j, i < S.nn → j < S.nn → S.nm i = S.nm j → i = j
  cg1 : PySem.W.specialIn S.K (.builtin "object.__class__") "__get__" = some (some (.builtin "getset_descriptor.__get__"))
  cg2 : PySem.W.takesIn S.K (.builtin "object.__class__") = some true
  bl : ∀ x ∈ S.bl, S.mg x = none
  gl : ∀ p ∈ S.gl, ∃ v' u, S.mg p.1 = some u ∧ RelV v' u ∧ ∀ ρ n H, VR S ρ n H p.2 v'
  cg : ∀ p ∈ S.cg, p.2 < S.nc ∧ S.mg p.1 = some (.ref (S.ca p.2)) ∧ PySem.W.keepIn S.K (.ref (S.ca p.2)) = true
  fg : ∀ p ∈ S.fg, p.2 < S.nf ∧ S.mg p.1 = some (.ref (S.fa p.2))
  bg : ∀ p ∈ S.bg, S.mg p.1 = some (.builtin p.2)
  tg : ∀ p ∈ S.tg, S.mg p.1 = some (.type p.2)
/-- what the calls of the text's defs need of the context -/
structure Okw (S : Sx) (lev : Nat) (E : EW) (X : Cx) : Prop where
  P : X.prog = S.P
  w : X.w = S.w
  K : X.K = S.K
  mg : X.mg = S.mg
  base : X.base = S.base
  room : Room lev X.A
  good : Good S lev
  pass : ∀ σ, PassesAt (CX S.P S.w) X σ (E σ)
structure Okx (S : Sx) (sc : Scope) (N : List Str) (lev : Nat) (E : EW) (X : Cx) : Prop where
  P : X.prog = S.P
  w : X.w = S.w
  K : X.K = S.K
  mg : X.mg = S.mg
  N : X.N = N
  nd : X.N.Nodup
  calm : X.calm = true
  base : X.base = S.base
  room : Room (lev + 2) X.A
  good : Good S lev
  sub : ∀ x k, sc.names.lookup x = some k → k ≠ .free → X.env.scope.names.lookup x = some k
  subF : ∀ x, sc.names.lookup x = some .free → X.env.scope.names.lookup x = some .cell ∨ X.env.scope.names.lookup x = some .free
  stf : ∀ x, scLoc sc x = true → X.fn x = true ∨ X.env.scope.names.lookup x = some .local
  pass : ∀ σ, PassesAt (CX S.P S.w) X σ (E σ)
  own : PassesOwn (model X.prog X.w) X.A X.env X.xe
  tk : Takes X fun c d σ H => E σ c d H
section
variable {S : Sx} {sc : Scope} {N : List Str} {lev : Nat} {E : EW} {X : Cx}
theorem scIs_iff {x : Str} {k : NameKind} : scIs sc x k = true ↔ sc.names.lookup x = some k := by unfold scIs; simp
theorem Okx.vis (o : Okx S sc N lev E X) {x : Str} (h : scVis sc x = true) : Vis X.env.scope x := by
  simp only [scVis, Bool.or_eq_true, scIs_iff] at h
  rcases h with (h | h) | h
  · exact .inl (o.sub _ _ h (by decide))
  · exact .inr (.inl (o.sub _ _ h (by decide)))
  · exact (o.subF _ h).elim (fun z => .inr (.inl z)) fun z => .inr (.inr z)
theorem Okx.loc (o : Okx S sc N lev E X) {x : Str} (h : scLoc sc x = true) : Loc X.env.scope x := by
  simp only [scLoc, Bool.or_eq_true, scIs_iff] at h
  rcases h with h | h
  · exact .inl (o.sub _ _ h (by decide))
  · exact .inr (o.sub _ _ h (by decide))
theorem Okx.gl (o : Okx S sc N lev E X) {x : Str} (h : scIs sc x .globalImplicit = true) : Gl X x := o.sub _ _ (scIs_iff.mp h) (by decide)
end
/-! ### the text's shapes -/
def isStar : Expr → Bool
  | .Starred .. => true
  | _ => false
theorem starEach_cons {e : Expr} {es : List Expr} {env : Env} (h : isStar e = false) : starEach (e :: es) env = (false, eval e env) :: starEach es env := by
  cases e <;> first | rfl | (exact absurd h (by simp [isStar]))
def noStars (es : List Expr) : Bool := es.all fun e => !isStar e
theorem noStars_cons {e : Expr} {es : List Expr} (h : noStars (e :: es) = true) : isStar e = false ∧ noStars es = true := by
  unfold noStars at h ⊢
  simpa using h
theorem backTo_plain {pos : Pos} {env : Env} : ∀ {es : List Expr}, noStars es = true → (backTo pos (starEach es env)).any (·.1) = false
  | [], _ => rfl
  | e :: es, h => by
    obtain ⟨h1, h2⟩ := noStars_cons h
    rw [starEach_cons h1]
    show (false || (backTo pos (starEach es env)).any (·.1)) = false
    rw [backTo_plain h2]
    rfl
/-- what is asked for its truth as a value -/
def plainT : Expr → Bool
  | .UnaryOp .Not _ _ => false
  | .BoolOp .. => false
  | .IfExp .. => false
  | .Compare .. => false
  | _ => true
theorem isTrue_plainT {e : Expr} {env : Env} (h : plainT e = true) (whole : Sem Value) : isTrue e env whole = (do let v ← whole; standAt e.pos; holding [v] (truthy v)) := by
  cases e with
  | UnaryOp op x pos => cases op <;> first | rfl | (exact absurd h (by simp [plainT]))
  | BoolOp op xs pos => exact absurd h (by simp [plainT])
  | IfExp a b c pos => exact absurd h (by simp [plainT])
  | Compare a b c pos => exact absurd h (by simp [plainT])
  | _ => rfl
def isComp : Expr → Bool
  | .ListComp .. => true
  | .SetComp .. => true
  | .DictComp .. => true
  | _ => false
theorem swaps_plain {e : Expr} {t : Option Expr} {l : Nat} {env : Env} (h : isComp e = false) : swapsWith e t l env = pure false := by
  cases e <;> first | rfl | (exact absurd h (by simp [isComp]))
def isSetE : Expr → Bool
  | .Set .. => true
  | _ => false
theorem folded_plain {e : Expr} {env : Env} (h : isSetE e = false) : ∀ x, foldedSetIterable e env x = pure x := by
  intro x
  cases e <;> first | rfl | (exact absurd h (by simp [isSetE]))
theorem marks_plain {op : CmpOp} {e : Expr} (h : isSetE e = false) : behindInMarks op e = false := by
  cases e <;> first | rfl | (exact absurd h (by simp [isSetE]))
def isSuper : Expr → Bool
  | .Call (.Name id _) [] [] _ => id == ("super" : Str)
  | _ => false
theorem base_plain {e : Expr} {a : Str} {env : Env} {whole : Sem Value} (h : isSuper e = false) : attributeBase e a env whole = whole := by
  unfold attributeBase
  split
  · rename_i id _ pos
    have h' : (id == ("super" : Str)) = false := h
    have h2 : (id != ("super" : Str)) = true := by simp only [bne, h', Bool.not_false]
    simp only [h2, Bool.true_or, if_true]
  · rfl
/-! ### truth, calls -/
def asB : Va → Gh → Res Bool
  | .bl b, G => .ok b G
  | _, _ => .no
def trI (S : Sx) (n : Nat) (G : Gh) : Option Nat → Res Bool
  | some k => (S.call k [.ref n] G).bind asB
  | none => .no
def trO (S : Sx) (n : Nat) (G : Gh) : Option VO → Res Bool
  | some (.lst _ xs) => .ok (!xs.isEmpty) G
  | some (.dct false kvs) => .ok (!kvs.isEmpty) G
  | some (.ins c _) => trI S n G (S.cd c).bool
  | _ => .no
def trS (s : Tx) (G : Gh) : Res Bool := if s.length ≤ sizeLine then .ok (!s.isEmpty) G else .no
def tr (S : Sx) : Va → Gh → Res Bool
  | .non, G => .ok false G
  | .bl b, G => .ok b G
  | .int i, G => .ok (i != 0) G
  | .str s, G => trS s G
  | .tup xs, G => .ok (!xs.isEmpty) G
  | .ref n, G => trO S n G G[n]?
  | _, _ => .no
section
variable {S : Sx} {sc : Scope} {N : List Str} {lev : Nat} {E : EW} {X : Cx} {pins : List (Addr × Obj)} {σ : L2.St} {H : Hp} {s : Shared}
theorem toS_len (s : Tx) : (toS s).length = s.length := by simp [toS, Str.length]
theorem DRk.len {ρ : Nat → Addr} {n : Nat} : ∀ {fs : List (Va × Va)} {gs : List (Key × V)}, DRk S ρ n H fs gs → gs.length = fs.length
  | [], _, h => by cases h; rfl
  | (f, x) :: fs, _, h => by
    obtain ⟨k', y, r, rfl, _, _, h3⟩ := h
    simp [DRk.len h3]
theorem isEmpty_len {α β : Type} {a : List α} {b : List β} (h : a.length = b.length) : a.isEmpty = b.isEmpty := by
  cases a <;> cases b <;> first | rfl | simp at h
/-- the context within a built-in function -/
abbrev inn (X : Cx) : Cx := { X with A := X.A.in1.in1 }
theorem ok_inn {X : Cx} (o : X.Ok) : (inn X).Ok := ⟨o.mod, o.kind, o.glob, o.blt, o.above, o.inj, o.has, o.cab, o.hd, o.frames, o.stk, o.exf, o.bs, o.bsz, o.noex, o.exfs, o.funs, o.frf⟩
theorem ok_out {X : Cx} (o : (inn X).Ok) : X.Ok := ⟨o.mod, o.kind, o.glob, o.blt, o.above, o.inj, o.has, o.cab, o.hd, o.frames, o.stk, o.exf, o.bs, o.bsz, o.noex, o.exfs, o.funs, o.frf⟩
theorem inv_inn {X : Cx} {pins : List (Addr × Obj)} {σ : L2.St} {H : Hp} {s : Shared} (I : Inv X pins σ H s) : Inv (inn X) pins σ H s := ⟨ok_inn I.ok, I.os, I.bare, I.base, I.loc, I.cell, I.free, I.freeC, I.pin, I.hok, I.len⟩
theorem inv_out {X : Cx} {pins : List (Addr × Obj)} {σ : L2.St} {H : Hp} {s : Shared} (I : Inv (inn X) pins σ H s) : Inv X pins σ H s := ⟨ok_out I.ok, I.os, I.bare, I.base, I.loc, I.cell, I.free, I.freeC, I.pin, I.hok, I.len⟩
theorem Okx.wk (o : Okx S sc N lev E X) : Okw S lev E X := ⟨o.P, o.w, o.K, o.mg, o.base, o.room.mono (Nat.le_add_right _ _), o.good, o.pass⟩
theorem Okx.inw (o : Okx S sc N lev E X) : Okw S lev E (inn X) := ⟨o.P, o.w, o.K, o.mg, o.base, (show Room (lev + 1) X.A.in1 from Room.in1 o.room).in1, o.good, fun σ pins H s e s' I h => o.pass σ pins H s e s' (inv_out I) h⟩
/-- one of the text's defs runs -/
theorem Okw.run (o : Okw S lev E X) {k : Nat} (hk : k < S.nf) {us : List Value} {vs : List V} {Q : VK} (I : Inv X pins σ H s) (r : Vals vs us)
    (h : ∃ ρ G as, Rl S ρ G H ∧ VRs S ρ G.length H as vs ∧ Post S (VR S) (E σ) ρ G.length H Q (S.call k as G)) : wpAny (model X.prog X.w) X.A (call (.ref (S.fa k)) us) (EP X pins σ Q) X.xe s := by
  obtain ⟨_, fd, ps, F, b, ha⟩ := o.good.fn k hk
  obtain ⟨ρ, G, as, R, va, p⟩ := h
  have hl : as.length = ps.length := by
    by_cases z : as.length = ps.length
    · exact z
    · rw [ha as G z] at p; exact p.elim
  have F' : FnOk X.prog X.w X.K X.mg X.base (CX S.P S.w) lev (S.fa k) fd ps (spV S k ps.length) := by rw [o.P, o.w, o.K, o.mg, o.base]; exact F
  have b' : Binds X.K fd ps [] := by rw [o.K]; exact b
  exact run_fnS (E := E) F' o.room b' (o.pass σ) I r ⟨ρ, G, as, R, va, hl, p⟩
theorem Okx.run (o : Okx S sc N lev E X) {k : Nat} (hk : k < S.nf) {us : List Value} {vs : List V} {Q : VK} (I : Inv X pins σ H s) (r : Vals vs us)
    (h : ∃ ρ G as, Rl S ρ G H ∧ VRs S ρ G.length H as vs ∧ Post S (VR S) (E σ) ρ G.length H Q (S.call k as G)) : wpAny (model X.prog X.w) X.A (call (.ref (S.fa k)) us) (EP X pins σ Q) X.xe s := o.wk.run hk I r h
theorem tr_okW (o : Okw S lev E X) {x : V} {v : Value} {Q : Bool → Hp → Prop} (I : Inv X pins σ H s) (rx : RelV x v)
    (h : ∃ ρ G a, Rl S ρ G H ∧ VR S ρ G.length H a x ∧ Post S relB (E σ) ρ G.length H Q (tr S a G)) : wpAny (model X.prog X.w) X.A (truthy v) (TP X pins σ Q) X.xe s := by
  obtain ⟨ρ, G, a, R, ra, p⟩ := h
  have base : ∀ {k : Bool}, tr S a G = .ok k G → TruV X.K x H k → wpAny (model X.prog X.w) X.A (truthy v) (TP X pins σ Q) X.xe s := fun {k} e t => by
    rw [e] at p
    exact tru_ok pins s σ H x v Q I rx ⟨k, t, p ρ H k (Ext.refl _ _ _) R rfl⟩
  cases a with
  | non =>
    unfold VR at ra; subst ra
    exact base rfl rfl
  | bl b =>
    unfold VR at ra; subst ra
    exact base rfl rfl
  | int i =>
    unfold VR at ra; subst ra
    exact base rfl rfl
  | str t =>
    unfold VR at ra; subst ra
    have p : Post S relB (E σ) ρ G.length H Q (trS t G) := p
    unfold trS at p
    by_cases hz : t.length ≤ sizeLine
    · refine base (k := !t.isEmpty) (by show trS t G = _; unfold trS; rw [if_pos hz]) ⟨by rw [toS_len]; exact hz, ?_⟩
      rw [toS_len]
      cases t <;> simp
      omega
    · rw [if_neg hz] at p; exact p.elim
  | tup xs =>
    unfold VR at ra
    obtain ⟨b, ys, rfl, h2, h3⟩ := ra
    refine base (k := !xs.isEmpty) rfl (.inr (.inl ⟨ys, by rw [o.K]; exact h2, ?_⟩))
    rw [isEmpty_len h3.length]
  | ref n =>
    unfold VR at ra
    obtain ⟨hn, rfl⟩ := ra
    obtain ⟨u, hu⟩ : ∃ u, G[n]? = some u := ⟨G[n], by simp [hn]⟩
    have ob := R.ob n u hu
    cases u with
    | lst fz xs =>
      have e : tr S (.ref n) G = .ok (!xs.isEmpty) G := by show trO S n G G[n]? = _; rw [hu]; rfl
      cases fz with
      | false =>
        obtain ⟨ys, h1, h2⟩ := ob
        exact base e (.inl ⟨ys, SqL.of h1, by rw [isEmpty_len h2.length]⟩)
      | true =>
        obtain ⟨ys, h1, h2⟩ := ob
        refine base e (.inl ⟨ys, ?_, by rw [isEmpty_len h2.length]⟩)
        rw [o.K]
        exact h1.elim (fun z => .inl (.inr z)) .inr
    | dct lk kvs =>
      cases lk with
      | false =>
        have e : tr S (.ref n) G = .ok (!kvs.isEmpty) G := by show trO S n G G[n]? = _; rw [hu]; rfl
        obtain ⟨ks, h1, h2⟩ := ob
        exact base e (.inr (.inr ⟨ks, h1, by rw [isEmpty_len h2.len]⟩))
      | true =>
        have e : tr S (.ref n) G = .no := by show trO S n G G[n]? = _; rw [hu]; rfl
        rw [e] at p; exact p.elim
    | ins c fs =>
      obtain ⟨dx, gs, h1, h2, h3, h5, h4⟩ := ob
      cases hb : (S.cd c).bool with
      | none =>
        have e : tr S (.ref n) G = .no := by show trO S n G G[n]? = _; rw [hu]; show trI S n G (S.cd c).bool = _; rw [hb]; rfl
        rw [e] at p; exact p.elim
      | some k =>
        have e : tr S (.ref n) G = (S.call k [.ref n] G).bind asB := by show trO S n G G[n]? = _; rw [hu]; show trI S n G (S.cd c).bool = _; rw [hb]; rfl
        rw [e] at p
        cases (show v = Value.ref (ρ n) from rx)
        obtain ⟨b1, b2, b3⟩ := (o.good.cls c h5).bo k hb
        obtain ⟨mA, O, _⟩ := ins_get I.hok h1
        obtain ⟨od, J, _⟩ := O.look
        have lt := (I.lt)
        obtain ⟨m, F⟩ := I.fr
        refine PySem.W.truthy_K F I.ok.mod.kin J (by rw [o.K]; exact b2) (by rw [o.K]; exact b3) (thn (o.run (vs := [V.ref (ρ n)]) b1 I (.cons rfl .nil) (Q := fun v H' => ∃ b, v = .bl b ∧ Q b H') ⟨ρ, G, [.ref n], R, VRs.cons (by unfold VR; exact ⟨hn, rfl⟩) .nil, Post.bind p fun a1 G1 ρ1 H1 x1 e1 R1 r1 p1 => ?_⟩) fun u s1 hh => ?_)
        · cases a1 with
          | bl b =>
            unfold VR at r1; subst r1
            exact ⟨b, rfl, p1 ρ1 H1 b (Ext.refl _ _ _) R1 rfl⟩
          | _ => exact p1.elim
        · obtain ⟨w1, H1, I1, rw1, b, rfl, q⟩ := hh
          cases (show u = Value.bool b from rw1)
          exact ⟨H1, I1, q⟩
    | deq xs => exact ob.elim
  | cl k =>
    have e : tr S (.cl k) G = .no := rfl
    rw [e] at p; exact p.elim
  | ty t =>
    have e : tr S (.ty t) G = .no := rfl
    rw [e] at p; exact p.elim
theorem tr_ok (o : Okx S sc N lev E X) {x : V} {v : Value} {Q : Bool → Hp → Prop} (I : Inv X pins σ H s) (rx : RelV x v)
    (h : ∃ ρ G a, Rl S ρ G H ∧ VR S ρ G.length H a x ∧ Post S relB (E σ) ρ G.length H Q (tr S a G)) : wpAny (model X.prog X.w) X.A (truthy v) (TP X pins σ Q) X.xe s := tr_okW o.wk I rx h
end
end VM
namespace VM
open PySem PySem.Spec PyProof.Rows L2
/-! ### operators -/
def lstO : Option VO → Option (List Va)
  | some (.lst _ xs) => some xs
  | _ => none
def mlsO : Option VO → Option (List Va)
  | some (.lst false xs) => some xs
  | _ => none
section
variable {S : Sx} {ρ : Nat → Addr} {G : Gh} {H : Hp} {m : Nat} {xs : List Va}
theorem mls_eq {u : Option VO} (h : mlsO u = some xs) : u = some (.lst false xs) := by
  unfold mlsO at h
  split at h
  · cases h; rfl
  · cases h
theorem mls_ok (R : Rl S ρ G H) (h : mlsO G[m]? = some xs) : ∃ ys, H (ρ m) = some (.lst ys) ∧ VRs S ρ G.length H xs ys := R.ob m _ (mls_eq h)
theorem lst_ok (R : Rl S ρ G H) (h : lstO G[m]? = some xs) : ∃ ys, SqL S.K H (ρ m) ys ∧ VRs S ρ G.length H xs ys := by
  unfold lstO at h
  split at h
  · rename_i fz zs e
    cases h
    have ob := R.ob m _ e
    cases fz with
    | false =>
      obtain ⟨ys, h1, h2⟩ := ob
      exact ⟨ys, SqL.of h1, h2⟩
    | true =>
      obtain ⟨ys, h1, h2⟩ := ob
      exact ⟨ys, h1.elim (fun z => .inl (.inr z)) .inr, h2⟩
  · cases h
end
def addL : Option (List Va) → Option (List Va) → Gh → Option (Va × Gh)
  | some xs, some ys, G => if xs.length + ys.length ≤ sizeLine then some (.ref G.length, G ++ [.lst false (xs ++ ys)]) else none
  | _, _, _ => none
def addS (s t : Tx) (G : Gh) : Option (Va × Gh) := if s.length + t.length ≤ sizeLine then some (.str (s ++ t), G) else none
def addT (s t : List Va) (G : Gh) : Option (Va × Gh) := if s.length + t.length ≤ sizeLine then some (.tup (s ++ t), G) else none
def opAdd : Op2
  | .int i, .int j, G => some (.int (i + j), G)
  | .int i, .bl b, G => some (.int (i + if b then 1 else 0), G)
  | .str s, .str t, G => addS s t G
  | .tup xs, .tup ys, G => addT xs ys G
  | .ref m, .ref n, G => addL (mlsO G[m]?) (mlsO G[n]?) G
  | _, _, _ => none
def opSub : Op2
  | .int i, .int j, G => some (.int (i - j), G)
  | _, _, _ => none
def mulI (i j : Int) (G : Gh) : Option (Va × Gh) := if (-(2 ^ 64) < i ∧ i < 2 ^ 64) ∨ (-(2 ^ 64) < j ∧ j < 2 ^ 64) then some (.int (i * j), G) else none
def mulT (xs : List Va) (k : Int) (G : Gh) : Option (Va × Gh) := if xs ≠ [] ∧ 2 ≤ k ∧ k ≤ 1000 ∧ xs.length ≤ 1000 then some (.tup (List.replicate k.toNat xs).flatten, G) else if k = 1 ∧ False then some (.tup xs, G) else none
def mulL : Option (List Va) → Int → Gh → Option (Va × Gh)
  | some xs, k, G => if -(2 ^ 63) ≤ k ∧ k < 2 ^ 63 ∧ xs.length * k.toNat ≤ sizeLine then some (.ref G.length, G ++ [.lst false (List.replicate k.toNat xs).flatten]) else none
  | _, _, _ => none
def opMul : Op2
  | .int i, .int j, G => mulI i j G
  | .tup xs, .int k, G => mulT xs k G
  | .ref m, .int k, G => mulL (mlsO G[m]?) k G
  | _, _, _ => none
def divI (i j : Int) (G : Gh) : Option (Va × Gh) := if 0 < j ∧ j.natAbs.log2 < 9000 then some (.int (i / j), G) else none
def opDiv : Op2
  | .int i, .int j, G => divI i j G
  | _, _, _ => none
def modI (i j : Int) (G : Gh) : Option (Va × Gh) := if 0 < j then some (.int (i % j), G) else none
def opMod : Op2
  | .int i, .int j, G => modI i j G
  | _, _, _ => none
def powI (i j : Int) (G : Gh) : Option (Va × Gh) := if 0 ≤ j ∧ j ≤ 1000000 ∧ i.natAbs < 2 ^ 64 then some (.int (i ^ j.toNat), G) else none
def opPow : Op2
  | .int i, .int j, G => powI i j G
  | _, _, _ => none
def binF : Operator → Op2
  | .Add => opAdd
  | .Sub => opSub
  | .Mult => opMul
  | .FloorDiv => opDiv
  | .Mod => opMod
  | .Pow => opPow
  | _ => fun _ _ _ => none
theorem toS_app (s t : Tx) : toS s ++ toS t = toS (s ++ t) := by
  show (⟨s.toArray ++ t.toArray⟩ : Str) = ⟨(s ++ t).toArray⟩
  simp
theorem VRs.flat {S : Sx} {ρ : Nat → Addr} {n : Nat} {H : Hp} {xs : List Va} {ys : List V} (h : VRs S ρ n H xs ys) : ∀ k : Nat, VRs S ρ n H (List.replicate k xs).flatten (List.replicate k ys).flatten
  | 0 => by simpa using VRs.nil
  | k + 1 => by
    rw [List.replicate_succ, List.replicate_succ, List.flatten_cons, List.flatten_cons]
    exact VRs.append h (VRs.flat h k)
theorem VRs.isNil {S : Sx} {ρ : Nat → Addr} {n : Nat} {H : Hp} {xs : List Va} {ys : List V} (h : VRs S ρ n H xs ys) : xs = [] ↔ ys = [] := by
  have := h.length
  constructor
  · intro e; subst e; exact List.eq_nil_of_length_eq_zero (by simpa using this)
  · intro e; subst e; exact List.eq_nil_of_length_eq_zero (by simpa using this.symm)
section
variable {S : Sx} {sc : Scope} {N : List Str} {lev : Nat} {E : EW} {X : Cx}
theorem fin_no {S : Sx} {ρ : Nat → Addr} {n : Nat} {H : Hp} {Q : VK} (h : Fin1 S ρ n H Q none) : False := by
  obtain ⟨_, _, e, _⟩ := h; cases e
theorem op_no (o : Okx S sc N lev E X) {f : Value → Value → Sem Value} {op : Op2} (h : ∀ a b G, op a b G = none) : OpR X f (rO2 S op) := by
  intro pins s σ H x y v u Q I rx ry ⟨ρ, G, a, b, R, ra, rb, p⟩
  rw [h] at p; exact (fin_no p).elim
theorem add_ok (o : Okx S sc N lev E X) : OpR X (binaryOp .Add) (rO2 S opAdd) := by
  intro pins s σ H x y v u Q I rx ry ⟨ρ, G, a, b, R, ra, rb, p⟩
  cases a with
  | int i =>
    unfold VR at ra; subst ra
    cases b with
    | int j =>
      unfold VR at rb; subst rb
      exact op_add pins s σ H _ _ v u Q I rx ry ⟨i, j, rfl, rfl, p.old R (by unfold VR; rfl)⟩
    | bl j =>
      unfold VR at rb; subst rb
      refine op_add_ib pins s σ H _ _ v u Q I rx ry ⟨i, j, rfl, rfl, p.old R ?_⟩
      unfold VR; cases j <;> rfl
    | _ => exact (fin_no p).elim
  | str i =>
    unfold VR at ra; subst ra
    cases b with
    | str j =>
      unfold VR at rb; subst rb
      have p : Fin1 S ρ G.length H Q (addS i j G) := p
      unfold addS at p
      split at p
      · rename_i hz
        refine op_add_str pins s σ H _ _ v u Q I rx ry ⟨_, _, rfl, rfl, by rw [toS_len, toS_len]; exact hz, p.old R ?_⟩
        unfold VR; rw [toS_app]
      · exact (fin_no p).elim
    | _ => exact (fin_no p).elim
  | tup xs =>
    cases b with
    | tup ys =>
      unfold VR at ra rb
      obtain ⟨a1, zs, rfl, h1, h2⟩ := ra
      obtain ⟨b1, ws, rfl, h3, h4⟩ := rb
      have p : Fin1 S ρ G.length H Q (addT xs ys G) := p
      unfold addT at p
      split at p
      · rename_i hz
        have e1 := h2.length
        have e2 := h4.length
        refine op_catA pins s σ H _ _ v u Q I rx ry ⟨a1, b1, zs, ws, rfl, rfl, by rw [o.K]; exact h1, by rw [o.K]; exact h3, by omega, fun e => ?_, fun _ e => ?_, fun _ _ q hq => p.tup R (h2.append h4) hq⟩
        · refine p.old R ?_
          unfold VR
          refine ⟨b1, ws, rfl, h3, ?_⟩
          rw [h2.isNil.mpr e]; exact h4
        · refine p.old R ?_
          unfold VR
          refine ⟨a1, zs, rfl, h1, ?_⟩
          rw [h4.isNil.mpr e, List.append_nil]; exact h2
      · exact (fin_no p).elim
    | _ => exact (fin_no p).elim
  | ref m =>
    cases b with
    | ref n =>
      unfold VR at ra rb
      obtain ⟨_, rfl⟩ := ra
      obtain ⟨_, rfl⟩ := rb
      have p : Fin1 S ρ G.length H Q (addL (mlsO G[m]?) (mlsO G[n]?) G) := p
      cases h1 : mlsO G[m]? with
      | none => rw [h1] at p; exact (fin_no p).elim
      | some xs =>
        cases h2 : mlsO G[n]? with
        | none => rw [h1, h2] at p; exact (fin_no p).elim
        | some ys =>
          rw [h1, h2] at p
          have p : Fin1 S ρ G.length H Q (if xs.length + ys.length ≤ sizeLine then some (.ref G.length, G ++ [.lst false (xs ++ ys)]) else none) := p
          split at p
          · rename_i hz
            obtain ⟨zs, k1, k2⟩ := mls_ok R h1
            obtain ⟨ws, k3, k4⟩ := mls_ok R h2
            have e1 := k2.length
            have e2 := k4.length
            exact op_cat pins s σ H _ _ v u Q I rx ry ⟨_, _, zs, ws, rfl, rfl, k1, k3, by omega, fun q hq => p.lst R (k2.append k4) hq⟩
          · exact (fin_no p).elim
    | _ => exact (fin_no p).elim
  | _ => exact (fin_no p).elim
theorem sub_ok (o : Okx S sc N lev E X) : OpR X (binaryOp .Sub) (rO2 S opSub) := by
  intro pins s σ H x y v u Q I rx ry ⟨ρ, G, a, b, R, ra, rb, p⟩
  cases a with
  | int i =>
    unfold VR at ra; subst ra
    cases b with
    | int j =>
      unfold VR at rb; subst rb
      exact op_sub pins s σ H _ _ v u Q I rx ry ⟨i, j, rfl, rfl, p.old R (by unfold VR; rfl)⟩
    | _ => exact (fin_no p).elim
  | _ => exact (fin_no p).elim
theorem mul_ok (o : Okx S sc N lev E X) : OpR X (binaryOp .Mult) (rO2 S opMul) := by
  intro pins s σ H x y v u Q I rx ry ⟨ρ, G, a, b, R, ra, rb, p⟩
  cases a with
  | int i =>
    unfold VR at ra; subst ra
    cases b with
    | int j =>
      unfold VR at rb; subst rb
      have p : Fin1 S ρ G.length H Q (mulI i j G) := p
      unfold mulI at p
      split at p
      · rename_i hz
        exact op_mul pins s σ H _ _ v u Q I rx ry ⟨i, j, rfl, rfl, hz, p.old R (by unfold VR; rfl)⟩
      · exact (fin_no p).elim
    | _ => exact (fin_no p).elim
  | tup xs =>
    cases b with
    | int k =>
      unfold VR at ra rb
      obtain ⟨a1, zs, rfl, h1, h2⟩ := ra
      subst rb
      have p : Fin1 S ρ G.length H Q (mulT xs k G) := p
      unfold mulT at p
      split at p
      · rename_i hz
        obtain ⟨z1, z2, z3, z4⟩ := hz
        have e1 := h2.length
        exact op_repT pins s σ H _ _ v u Q I rx ry ⟨a1, k, zs, rfl, rfl, by rw [o.K]; exact h1, fun e => z1 (h2.isNil.mpr e), z2, z3, by omega, fun q hq => p.tup R (h2.flat _) hq⟩
      · rw [if_neg (by simp)] at p
        exact (fin_no p).elim
    | _ => exact (fin_no p).elim
  | ref m =>
    cases b with
    | int k =>
      unfold VR at ra rb
      obtain ⟨_, rfl⟩ := ra
      subst rb
      have p : Fin1 S ρ G.length H Q (mulL (mlsO G[m]?) k G) := p
      cases h1 : mlsO G[m]? with
      | none => rw [h1] at p; exact (fin_no p).elim
      | some xs =>
        rw [h1] at p
        have p : Fin1 S ρ G.length H Q (if -(2 ^ 63) ≤ k ∧ k < 2 ^ 63 ∧ xs.length * k.toNat ≤ sizeLine then some (.ref G.length, G ++ [.lst false (List.replicate k.toNat xs).flatten]) else none) := p
        split at p
        · rename_i hz
          obtain ⟨z1, z2, z3⟩ := hz
          obtain ⟨zs, k1, k2⟩ := mls_ok R h1
          have e1 := k2.length
          exact op_rep pins s σ H _ _ v u Q I rx ry ⟨_, k, zs, rfl, rfl, k1, z1, z2, by rw [e1]; exact z3, fun q hq => p.lst R (k2.flat _) hq⟩
        · exact (fin_no p).elim
    | _ => exact (fin_no p).elim
  | _ => exact (fin_no p).elim
theorem div_ok (o : Okx S sc N lev E X) : OpR X (binaryOp .FloorDiv) (rO2 S opDiv) := by
  intro pins s σ H x y v u Q I rx ry ⟨ρ, G, a, b, R, ra, rb, p⟩
  cases a with
  | int i =>
    unfold VR at ra; subst ra
    cases b with
    | int j =>
      unfold VR at rb; subst rb
      have p : Fin1 S ρ G.length H Q (divI i j G) := p
      unfold divI at p
      split at p
      · rename_i hz
        exact op_fdivW pins s σ H _ _ v u Q I rx ry ⟨i, j, rfl, rfl, hz, p.old R (by unfold VR; rfl)⟩
      · exact (fin_no p).elim
    | _ => exact (fin_no p).elim
  | _ => exact (fin_no p).elim
theorem mod_ok (o : Okx S sc N lev E X) : OpR X (binaryOp .Mod) (rO2 S opMod) := by
  intro pins s σ H x y v u Q I rx ry ⟨ρ, G, a, b, R, ra, rb, p⟩
  cases a with
  | int i =>
    unfold VR at ra; subst ra
    cases b with
    | int j =>
      unfold VR at rb; subst rb
      have p : Fin1 S ρ G.length H Q (modI i j G) := p
      unfold modI at p
      split at p
      · rename_i hz
        exact op_mod pins s σ H _ _ v u Q I rx ry ⟨i, j, rfl, rfl, hz, p.old R (by unfold VR; rfl)⟩
      · exact (fin_no p).elim
    | _ => exact (fin_no p).elim
  | _ => exact (fin_no p).elim
theorem pow_ok (o : Okx S sc N lev E X) : OpR X (binaryOp .Pow) (rO2 S opPow) := by
  intro pins s σ H x y v u Q I rx ry ⟨ρ, G, a, b, R, ra, rb, p⟩
  cases a with
  | int i =>
    unfold VR at ra; subst ra
    cases b with
    | int j =>
      unfold VR at rb; subst rb
      have p : Fin1 S ρ G.length H Q (powI i j G) := p
      unfold powI at p
      split at p
      · rename_i hz
        exact op_pow pins s σ H _ _ v u Q I rx ry ⟨i, j, rfl, rfl, hz, p.old R (by unfold VR; rfl)⟩
      · exact (fin_no p).elim
    | _ => exact (fin_no p).elim
  | _ => exact (fin_no p).elim
theorem bin_ok (o : Okx S sc N lev E X) (op : Operator) : OpR X (binaryOp op) (rO2 S (binF op)) := by
  cases op with
  | Add => exact add_ok o
  | Sub => exact sub_ok o
  | Mult => exact mul_ok o
  | FloorDiv => exact div_ok o
  | Mod => exact mod_ok o
  | Pow => exact pow_ok o
  | _ => exact op_no o fun _ _ _ => rfl
end
end VM
namespace VM
open PySem PySem.Spec PyProof.Rows L2
/-! ### data, compared -/
def mapO {α β : Type} (f : α → Option β) : List α → Option (List β)
  | [] => some []
  | x :: xs => match f x, mapO f xs with
    | some y, some ys => some (y :: ys)
    | _, _ => none
theorem mapO_cons {α β : Type} {f : α → Option β} {x : α} {xs : List α} {zs : List β} (h : mapO f (x :: xs) = some zs) : ∃ y ys, f x = some y ∧ mapO f xs = some ys ∧ zs = y :: ys := by
  unfold mapO at h
  split at h
  · rename_i y ys h1 h2
    cases h
    exact ⟨y, ys, h1, h2, rfl⟩
  · cases h
def toD : Nat → Gh → Va → Option PyData
  | _, _, .non => some .none
  | _, _, .bl b => some (.bool b)
  | _, _, .int i => some (.int i)
  | _, _, .str s => some (.str (toS s))
  | k + 1, G, .tup xs => (mapO (toD k G) xs).map .tuple
  | k + 1, G, .ref n => ((lstO G[n]?).bind (mapO (toD k G))).map .list
  | _, _, _ => none
def eqSc : Va → Va → Option Bool
  | .int i, .int j => some (decide (i = j))
  | .str s, .str t => some (decide (s = t))
  | .bl a, .bl b => some (decide (a = b))
  | .non, .non => some true
  | .non, .int _ => some false
  | .int _, .non => some false
  | .non, .bl _ => some false
  | .bl _, .non => some false
  | .non, .str _ => some false
  | .str _, .non => some false
  | .int _, .str _ => some false
  | .str _, .int _ => some false
  | .bl _, .str _ => some false
  | .str _, .bl _ => some false
  | _, _ => none
def eqDD : Option PyData → Option PyData → Option Bool
  | some d, some e => if SeqAt.shaped d = true ∧ SeqAt.shaped e = true then some (PyData.eqv d e) else none
  | _, _ => none
def eqD (G : Gh) (x y : Va) : Option Bool := match eqSc x y with
  | some b => some b
  | none => eqDD (toD 30 G x) (toD 30 G y)
section
variable {S : Sx} {ρ : Nat → Addr} {G : Gh} {H : Hp}
theorem dpAll {f : Va → Option PyData} {K : PySem.W.Frag} {n : Nat} (h : ∀ x v d, f x = some d → VR S ρ n H x v → Dp K H v d) : ∀ {xs : List Va} {ys : List V} {ds : List PyData}, mapO f xs = some ds → VRs S ρ n H xs ys → DpAll K H ys ds
  | [], _, _, e, r => by
    cases e
    unfold VRs at r; subst r
    exact .nil
  | x :: xs, _, _, e, r => by
    obtain ⟨d, ds, h1, h2, rfl⟩ := mapO_cons e
    unfold VRs at r
    obtain ⟨y, t, rfl, r1, r2⟩ := r
    exact .cons (h x y d h1 r1) (dpAll h h2 r2)
theorem toD_ok (R : Rl S ρ G H) : ∀ (k : Nat) (x : Va) (v : V) (d : PyData), toD k G x = some d → VR S ρ G.length H x v → Dp S.K H v d := by
  intro k
  induction k with
  | zero =>
    intro x v d e r
    cases x <;> first | (cases e; unfold VR at r; subst r; constructor) | (exfalso; simp [toD] at e)
  | succ k ih =>
    intro x v d e r
    cases x with
    | non => cases e; unfold VR at r; subst r; constructor
    | bl b => cases e; unfold VR at r; subst r; constructor
    | int i => cases e; unfold VR at r; subst r; constructor
    | str s => cases e; unfold VR at r; subst r; constructor
    | tup xs =>
      have e : (mapO (toD k G) xs).map PyData.tuple = some d := e
      obtain ⟨ds, h1, rfl⟩ := Option.map_eq_some_iff.mp e
      unfold VR at r
      obtain ⟨a, ys, rfl, h2, h3⟩ := r
      exact .tup h2 (dpAll ih h1 h3)
    | ref n =>
      have e : ((lstO G[n]?).bind (mapO (toD k G))).map PyData.list = some d := e
      obtain ⟨ds, h1, rfl⟩ := Option.map_eq_some_iff.mp e
      obtain ⟨xs, h0, h1⟩ := Option.bind_eq_some_iff.mp h1
      unfold VR at r
      obtain ⟨hn, rfl⟩ := r
      obtain ⟨ys, h2, h3⟩ := lst_ok R h0
      exact .lst h2 (dpAll ih h1 h3)
    | cl k => exact absurd e (by simp [toD])
    | ty t => exact absurd e (by simp [toD])
theorem toS_dec (s t : Tx) : decide (toS s = toS t) = decide (s = t) := by
  by_cases h : s = t
  · subst h; simp
  · rw [decide_eq_false h, decide_eq_false fun e => h (toS_inj e)]
theorem eqSc_ok {x y : Va} {v u : V} {b : Bool} {n : Nat} (h : eqSc x y = some b) (r1 : VR S ρ n H x v) (r2 : VR S ρ n H y u) : scal v u = true ∧ decide (v = u) = b := by
  unfold eqSc at h
  split at h <;> first
    | (cases h; unfold VR at r1 r2; subst r1; subst r2; exact ⟨rfl, decide_eq_false (fun z => nomatch z)⟩)
    | (cases h; unfold VR at r1 r2; subst r1; subst r2; exact ⟨rfl, decide_eq_true rfl⟩)
    | (cases h; unfold VR at r1 r2; subst r1; subst r2; refine ⟨rfl, ?_⟩; simp only [V.int.injEq]; done)
    | (cases h; unfold VR at r1 r2; subst r1; subst r2; refine ⟨rfl, ?_⟩; simp only [V.bl.injEq]; done)
    | (cases h; unfold VR at r1 r2; subst r1; subst r2; refine ⟨rfl, ?_⟩; simp only [V.str.injEq]; exact toS_dec _ _)
    | (cases h; done)
end
def opEq : Op2 := fun x y G => (eqD G x y).map fun b => (.bl b, G)
def opNe : Op2 := fun x y G => (eqD G x y).map fun b => (.bl (!b), G)
def opLt : Op2
  | .int i, .int j, G => some (.bl (decide (i < j)), G)
  | .str i, .str j, G => some (.bl (decide (i < j)), G)
  | _, _, _ => none
def opLe : Op2
  | .int i, .int j, G => some (.bl (decide (i ≤ j)), G)
  | .str i, .str j, G => some (.bl (!decide (j < i)), G)
  | _, _, _ => none
def opGt : Op2
  | .int i, .int j, G => some (.bl (decide (j < i)), G)
  | .str i, .str j, G => some (.bl (decide (j < i)), G)
  | _, _, _ => none
def opGe : Op2
  | .int i, .int j, G => some (.bl (decide (j ≤ i)), G)
  | .str i, .str j, G => some (.bl (!decide (i < j)), G)
  | _, _, _ => none
def isNon : Va → Bool
  | .non => true
  | _ => false
def opIs : Op2
  | x, .non, G => some (.bl (isNon x), G)
  | _, _, _ => none
def opIsNot : Op2
  | x, .non, G => some (.bl (!isNon x), G)
  | _, _, _ => none
def flatA : Va → Bool
  | .non => true
  | .bl _ => true
  | .int _ => true
  | .str _ => true
  | _ => false
/-- == of flat values -/
def eqA : Va → Va → Bool
  | .non, .non => true
  | .bl a, .bl b => a == b
  | .bl a, .int b => (if a then 1 else 0) == b
  | .int a, .bl b => a == (if b then 1 else 0)
  | .int a, .int b => a == b
  | .str a, .str b => a == b
  | _, _ => false
def seqO (G : Gh) : Va → Option (List Va)
  | .tup xs => some xs
  | .ref n => lstO G[n]?
  | _ => none
def inDD : Option PyData → Option (List PyData) → Option Bool
  | some d, some ds => if SeqAt.shaped d = true ∧ SeqAt.shaped (.list ds) = true then some (ds.any fun z => PyData.eqv z d) else none
  | _, _ => none
def inR (G : Gh) (x : Va) (xs : List Va) : Va → Option Bool
  | .ref _ => inDD (toD 29 G x) (mapO (toD 29 G) xs)
  | _ => none
def inS (G : Gh) (x : Va) (xs : List Va) (y : Va) : Option Bool := if flatA x = true ∧ xs.all flatA = true then some (xs.any fun z => eqA z x) else inR G x xs y
def inSeq (G : Gh) (x : Va) : Option (List Va) → Va → Option Bool
  | some xs, y => inS G x xs y
  | none, _ => none
def opIn : Op2 := fun x y G => (inSeq G x (seqO G y) y).map fun b => (.bl b, G)
def opNotIn : Op2 := fun x y G => (inSeq G x (seqO G y) y).map fun b => (.bl (!b), G)
def cmpF : CmpOp → Op2
  | .Eq => opEq
  | .NotEq => opNe
  | .Lt => opLt
  | .LtE => opLe
  | .Gt => opGt
  | .GtE => opGe
  | .Is => opIs
  | .IsNot => opIsNot
  | .In => opIn
  | .NotIn => opNotIn
section
variable {S : Sx} {sc : Scope} {N : List Str} {lev : Nat} {E : EW} {X : Cx}
theorem Okx.u64 (o : Okx S sc N lev E X) : X.A.units + 64 < cLine := o.room.units
theorem Okx.u65 (o : Okx S sc N lev E X) : X.A.units + 65 < cLine := by have := o.room.un; omega
theorem eq_ok (o : Okx S sc N lev E X) : OpR X (compareOp .Eq) (rO2 S opEq) := by
  intro pins s σ H x y v u Q I rx ry ⟨ρ, G, a, b, R, ra, rb, p⟩
  obtain ⟨w, G', e, k⟩ := p
  obtain ⟨c, h1, h2⟩ := Option.map_eq_some_iff.mp e
  cases h2
  have q : Q (.bl c) H := k ρ H _ (Ext.refl _ _ _) R (by unfold VR; rfl)
  unfold eqD at h1
  split at h1
  · rename_i hb
    cases h1
    obtain ⟨z1, z2⟩ := eqSc_ok hb ra rb
    exact op_eq pins s σ H x y v u Q I rx ry ⟨z1, by rw [z2]; exact q⟩
  · unfold eqDD at h1
    split at h1
    · rename_i d e' hd he
      split at h1
      · rename_i hz
        cases h1
        exact op_eqD o.u64 pins s σ H x y v u Q I rx ry ⟨d, e', by rw [o.K]; exact toD_ok R _ _ _ _ hd ra, by rw [o.K]; exact toD_ok R _ _ _ _ he rb, hz.1, hz.2, q⟩
      · cases h1
    · cases h1
theorem ne_ok (o : Okx S sc N lev E X) : OpR X (compareOp .NotEq) (rO2 S opNe) := by
  intro pins s σ H x y v u Q I rx ry ⟨ρ, G, a, b, R, ra, rb, p⟩
  obtain ⟨w, G', e, k⟩ := p
  obtain ⟨c, h1, h2⟩ := Option.map_eq_some_iff.mp e
  cases h2
  have q : Q (.bl (!c)) H := k ρ H _ (Ext.refl _ _ _) R (by unfold VR; rfl)
  unfold eqD at h1
  split at h1
  · rename_i hb
    cases h1
    obtain ⟨z1, z2⟩ := eqSc_ok hb ra rb
    exact op_ne pins s σ H x y v u Q I rx ry ⟨z1, by rw [z2]; exact q⟩
  · unfold eqDD at h1
    split at h1
    · rename_i d e' hd he
      split at h1
      · rename_i hz
        cases h1
        exact op_neD o.u64 pins s σ H x y v u Q I rx ry ⟨d, e', by rw [o.K]; exact toD_ok R _ _ _ _ hd ra, by rw [o.K]; exact toD_ok R _ _ _ _ he rb, hz.1, hz.2, q⟩
      · cases h1
    · cases h1
/-- an order of ints and of texts -/
theorem ord_ok (o : Okx S sc N lev E X) {f : Value → Value → Sem Value} {op : Op2} {g : Int → Int → Bool} {t : List Nat → List Nat → Bool} (h1 : OpR X f (rI0 fun i j => .bl (g i j))) (h2 : OpR X f (fun x y H Q => ∃ i j, x = .str i ∧ y = .str j ∧ Q (.bl (t i.cps.toList j.cps.toList)) H))
    (e1 : ∀ i j G, op (.int i) (.int j) G = some (.bl (g i j), G)) (e2 : ∀ i j G, op (.str i) (.str j) G = some (.bl (t i j), G)) (e3 : ∀ x y G, op x y G ≠ none → (∃ i j, x = .int i ∧ y = .int j) ∨ ∃ i j, x = .str i ∧ y = .str j) : OpR X f (rO2 S op) := by
  intro pins s σ H x y v u Q I rx ry ⟨ρ, G, a, b, R, ra, rb, p⟩
  obtain ⟨w, G', e⟩ := p.ex1
  rcases e3 a b G (by rw [e]; simp) with ⟨i, j, rfl, rfl⟩ | ⟨i, j, rfl, rfl⟩
  · unfold VR at ra rb
    subst ra; subst rb
    rw [e1] at p
    exact h1 pins s σ H _ _ v u Q I rx ry ⟨i, j, rfl, rfl, p.old R (by unfold VR; rfl)⟩
  · unfold VR at ra rb
    subst ra; subst rb
    rw [e2] at p
    exact h2 pins s σ H _ _ v u Q I rx ry ⟨_, _, rfl, rfl, p.old R (by unfold VR; simp [toS])⟩
theorem vr_isN {ρ : Nat → Addr} {n : Nat} {H : Hp} {a : Va} {x : V} (r : VR S ρ n H a x) : isNon a = decide (x = .non) := by
  cases a with
  | tup xs => unfold VR at r; obtain ⟨b, ys, rfl, _⟩ := r; rfl
  | ref m => unfold VR at r; obtain ⟨_, rfl⟩ := r; rfl
  | _ => unfold VR at r; subst r; rfl
theorem is_ok (o : Okx S sc N lev E X) : OpR X (compareOp .Is) (rO2 S opIs) := by
  intro pins s σ H x y v u Q I rx ry ⟨ρ, G, a, b, R, ra, rb, p⟩
  cases b with
  | non =>
    unfold VR at rb; subst rb
    have e : opIs a .non G = some (.bl (isNon a), G) := by cases a <;> rfl
    rw [e] at p
    exact op_isN pins s σ H _ _ v u Q I rx ry ⟨rfl, p.old R (by unfold VR; rw [vr_isN ra])⟩
  | _ => cases a <;> exact (fin_no p).elim
theorem isnot_ok (o : Okx S sc N lev E X) : OpR X (compareOp .IsNot) (rO2 S opIsNot) := by
  intro pins s σ H x y v u Q I rx ry ⟨ρ, G, a, b, R, ra, rb, p⟩
  cases b with
  | non =>
    unfold VR at rb; subst rb
    have e : opIsNot a .non G = some (.bl (!isNon a), G) := by cases a <;> rfl
    rw [e] at p
    exact op_notN pins s σ H _ _ v u Q I rx ry ⟨rfl, p.old R (by unfold VR; rw [vr_isN ra])⟩
  | _ => cases a <;> exact (fin_no p).elim
end
end VM
namespace VM
open PySem PySem.Spec PyProof.Rows L2
section
variable {S : Sx} {sc : Scope} {N : List Str} {lev : Nat} {E : EW} {X : Cx} {ρ : Nat → Addr} {G : Gh} {H : Hp} {n : Nat}
theorem vr_flat {a : Va} {x : V} (r : VR S ρ n H a x) (h : flatA a = true) : flatV x = true := by
  cases a with
  | tup xs => exact absurd h (by simp [flatA])
  | ref m => exact absurd h (by simp [flatA])
  | cl m => exact absurd h (by simp [flatA])
  | ty m => exact absurd h (by simp [flatA])
  | _ => unfold VR at r; subst r; rfl
theorem toS_beq (s t : Tx) : (toS s == toS t) = (s == t) := by
  rw [Bool.eq_iff_iff]
  simp only [beq_iff_eq]
  exact ⟨toS_inj, fun e => by rw [e]⟩
theorem vr_eqA {a b : Va} {x y : V} (r : VR S ρ n H a x) (q : VR S ρ n H b y) (h : flatA a = true) (h' : flatA b = true) : eqV x y = eqA a b := by
  cases a with
  | tup xs => exact absurd h (by simp [flatA])
  | ref m => exact absurd h (by simp [flatA])
  | cl m => exact absurd h (by simp [flatA])
  | ty m => exact absurd h (by simp [flatA])
  | _ =>
    unfold VR at r; subst r
    cases b with
    | tup xs => exact absurd h' (by simp [flatA])
    | ref m => exact absurd h' (by simp [flatA])
    | cl m => exact absurd h' (by simp [flatA])
    | ty m => exact absurd h' (by simp [flatA])
    | _ => unfold VR at q; subst q; first | rfl | exact toS_beq _ _
theorem vrs_flat : ∀ {xs : List Va} {ys : List V}, VRs S ρ n H xs ys → xs.all flatA = true → ys.all flatV = true
  | [], _, r, _ => by unfold VRs at r; subst r; rfl
  | x :: xs, _, r, h => by
    unfold VRs at r
    obtain ⟨y, t, rfl, r1, r2⟩ := r
    simp only [List.all_cons, Bool.and_eq_true] at h ⊢
    exact ⟨vr_flat r1 h.1, vrs_flat r2 h.2⟩
theorem vrs_any {a : Va} {x : V} (r : VR S ρ n H a x) (h : flatA a = true) : ∀ {xs : List Va} {ys : List V}, VRs S ρ n H xs ys → xs.all flatA = true → (ys.any fun z => eqV z x) = xs.any fun z => eqA z a
  | [], _, q, _ => by unfold VRs at q; subst q; rfl
  | z :: xs, _, q, h' => by
    unfold VRs at q
    obtain ⟨y, t, rfl, r1, r2⟩ := q
    simp only [List.all_cons, Bool.and_eq_true] at h'
    simp only [List.any_cons]
    rw [vr_eqA r1 r h'.1 h, vrs_any r h r2 h'.2]
theorem seq_ok {b : Va} {y : V} {xs : List Va} (R : Rl S ρ G H) (h : seqO G b = some xs) (r : VR S ρ G.length H b y) : ∃ p ys, y = .ref p ∧ (SqL S.K H p ys ∨ SqT S.K H p ys) ∧ VRs S ρ G.length H xs ys := by
  cases b with
  | tup zs =>
    cases h
    unfold VR at r
    obtain ⟨a, ys, rfl, h1, h2⟩ := r
    exact ⟨a, ys, rfl, .inr h1, h2⟩
  | ref m =>
    unfold VR at r
    obtain ⟨_, rfl⟩ := r
    obtain ⟨ys, h1, h2⟩ := lst_ok R h
    exact ⟨_, ys, rfl, .inl h1, h2⟩
  | _ => cases h
theorem inAny_ok (o : Okx S sc N lev E X) {cop : CmpOp} {neg : Bool} {op : Op2} (hop : ∀ x y G, op x y G = (inSeq G x (seqO G y) y).map fun b => (.bl (if neg then !b else b), G)) (h1 : OpR X (compareOp cop) (rIn X.K neg))
    (h2 : OpR X (compareOp cop) (fun x y H Q => ∃ d ds, Dp X.K H x d ∧ Dp X.K H y (.list ds) ∧ SeqAt.shaped d = true ∧ SeqAt.shaped (.list ds) = true ∧ Q (.bl (if neg then !(ds.any fun z => PyData.eqv z d) else ds.any fun z => PyData.eqv z d)) H)) : OpR X (compareOp cop) (rO2 S op) := by
  intro pins s σ H x y v u Q I rx ry ⟨ρ, G, a, b, R, ra, rb, p⟩
  rw [hop] at p
  obtain ⟨w, G', e, k⟩ := p
  obtain ⟨c, e1, e2⟩ := Option.map_eq_some_iff.mp e
  cases e2
  have q : Q (.bl (if neg then !c else c)) H := k ρ H _ (Ext.refl _ _ _) R (by unfold VR; rfl)
  cases hs : seqO G b with
  | none => rw [hs] at e1; cases e1
  | some xs =>
    rw [hs] at e1
    have e1 : inS G a xs b = some c := e1
    unfold inS at e1
    split at e1
    · rename_i hf
      cases e1
      obtain ⟨pp, ys, rfl, hq, hv⟩ := seq_ok R hs rb
      refine h1 pins s σ H _ _ v u Q I rx ry ⟨pp, ys, rfl, by rw [o.K]; exact hq, vr_flat ra hf.1, vrs_flat hv hf.2, ?_⟩
      unfold inV
      rw [vrs_any ra hf.1 hv hf.2]
      exact q
    · cases b with
      | ref m =>
        have e1 : inDD (toD 29 G a) (mapO (toD 29 G) xs) = some c := e1
        unfold inDD at e1
        split at e1
        · rename_i d ds hd hds
          split at e1
          · rename_i hz
            cases e1
            refine h2 pins s σ H _ _ v u Q I rx ry ⟨d, ds, by rw [o.K]; exact toD_ok R _ _ _ _ hd ra, ?_, hz.1, hz.2, q⟩
            have hl : toD 30 G (.ref m) = some (.list ds) := by
              show ((lstO G[m]?).bind (mapO (toD 29 G))).map PyData.list = _
              rw [show lstO G[m]? = some xs from hs]
              show (mapO (toD 29 G) xs).map PyData.list = _
              rw [hds]; rfl
            rw [o.K]
            exact toD_ok R _ _ _ _ hl rb
          · cases e1
        · cases e1
      | _ => cases e1
theorem in_ok (o : Okx S sc N lev E X) : OpR X (compareOp .In) (rO2 S opIn) :=
  inAny_ok (neg := false) o (fun _ _ _ => rfl) op_in_seq (op_inD o.u65)
theorem notin_ok (o : Okx S sc N lev E X) : OpR X (compareOp .NotIn) (rO2 S opNotIn) :=
  inAny_ok (neg := true) o (fun _ _ _ => rfl) op_notIn_seq (op_notInD o.u65)
theorem cmp_ok (o : Okx S sc N lev E X) (op : CmpOp) : OpR X (compareOp op) (rO2 S (cmpF op)) := by
  cases op with
  | Eq => exact eq_ok o
  | NotEq => exact ne_ok o
  | Lt =>
    refine ord_ok o (g := fun i j => decide (i < j)) (t := fun i j => decide (i < j)) op_lt op_lt_str (fun _ _ _ => rfl) (fun _ _ _ => rfl) fun x y G h => ?_
    cases x <;> cases y <;> first | exact .inl ⟨_, _, rfl, rfl⟩ | exact .inr ⟨_, _, rfl, rfl⟩ | exact absurd rfl h
  | LtE =>
    refine ord_ok o (g := fun i j => decide (i ≤ j)) (t := fun i j => !decide (j < i)) op_le op_le_str (fun _ _ _ => rfl) (fun _ _ _ => rfl) fun x y G h => ?_
    cases x <;> cases y <;> first | exact .inl ⟨_, _, rfl, rfl⟩ | exact .inr ⟨_, _, rfl, rfl⟩ | exact absurd rfl h
  | Gt =>
    refine ord_ok o (g := fun i j => decide (j < i)) (t := fun i j => decide (j < i)) op_gt op_gt_str (fun _ _ _ => rfl) (fun _ _ _ => rfl) fun x y G h => ?_
    cases x <;> cases y <;> first | exact .inl ⟨_, _, rfl, rfl⟩ | exact .inr ⟨_, _, rfl, rfl⟩ | exact absurd rfl h
  | GtE =>
    refine ord_ok o (g := fun i j => decide (j ≤ i)) (t := fun i j => !decide (i < j)) op_ge op_ge_str (fun _ _ _ => rfl) (fun _ _ _ => rfl) fun x y G h => ?_
    cases x <;> cases y <;> first | exact .inl ⟨_, _, rfl, rfl⟩ | exact .inr ⟨_, _, rfl, rfl⟩ | exact absurd rfl h
  | Is => exact is_ok o
  | IsNot => exact isnot_ok o
  | In => exact in_ok o
  | NotIn => exact notin_ok o
end
end VM
namespace VM
open PySem PySem.Spec PyProof.Rows L2
theorem pe_imp {X : Cx} {e : Expr} {t t' : TE} (h : PE X e t) (k : ∀ σ H Q, t' σ H Q → t σ H Q) : PE X e t' := ⟨fun pins s σ H Q I q => h.run pins s σ H Q I (k σ H Q q)⟩
theorem pt_imp {X : Cx} {e : Expr} {t t' : TT} (h : PT X e t) (k : ∀ σ H Q, t' σ H Q → t σ H Q) : PT X e t' := ⟨fun pins s σ H Q I q => h.run pins s σ H Q I (k σ H Q q)⟩
theorem pa_imp {X : Cx} {e : List Expr} {t t' : TA} (h : PA X e t) (k : ∀ σ H Q, t' σ H Q → t σ H Q) : PA X e t' := ⟨fun pos pins s σ H Q I q => h.run pos pins s σ H Q I (k σ H Q q)⟩
/-- an expression as code: what it does, which text it stands for, that it does what the text does -/
structure CE (S : Sx) where
  ev : Lo → Gh → Res Va
  tv : Lo → Gh → Res Bool
  chk : List Str → Scope → Expr → Bool
  pe : ∀ {sc N lev E X e}, Okx S sc N lev E X → chk N sc e = true → PE X e (WE S E ev)
  pt : ∀ {sc N lev E X e}, Okx S sc N lev E X → chk N sc e = true → PT X e (WT S E tv)
  ns : ∀ {N sc e}, chk N sc e = true → isStar e = false
/-- a list of arguments -/
structure CA (S : Sx) where
  ev : Lo → Gh → Res (List Va)
  chk : List Str → Scope → List Expr → Bool
  pl : Bool
  pa : ∀ {sc N lev E X es}, Okx S sc N lev E X → chk N sc es = true → PA X es (WA S E ev)
  ns : ∀ {N sc es}, pl = true → chk N sc es = true → noStars es = true
section
variable {S : Sx}
theorem pt_of_pe {sc : Scope} {N : List Str} {lev : Nat} {E : EW} {X : Cx} {e : Expr} {ev : Lo → Gh → Res Va} (o : Okx S sc N lev E X) (he : PE X e (WE S E ev)) (hp : plainT e = true) : PT X e (WT S E fun L G => (ev L G).bind (tr S)) := by
  refine ⟨fun pins s σ H Q I h => ?_⟩
  obtain ⟨ρ, L, G, R, l, p⟩ := h
  refine isTrue_plain (thn (he.run pins s σ H (fun x H1 => ∃ ρ G a, Rl S ρ G H1 ∧ VR S ρ G.length H1 a x ∧ Post S relB (E σ) ρ G.length H1 Q (tr S a G)) I ⟨ρ, L, G, R, l, Post.bind p fun a G1 ρ1 H1 x e1 R1 r1 p1 => ⟨ρ1, G1, a, R1, r1, p1⟩⟩) fun v s1 ⟨x, H1, I1, rx, q⟩ => tr_ok o I1 rx q) (isTrue_plainT hp _)
def CE.plain (ev : Lo → Gh → Res Va) (chk : List Str → Scope → Expr → Bool) (pe : ∀ {sc N lev E X e}, Okx S sc N lev E X → chk N sc e = true → PE X e (WE S E ev)) (hp : ∀ N sc e, chk N sc e = true → plainT e = true ∧ isStar e = false) : CE S :=
  ⟨ev, fun L G => (ev L G).bind (tr S), chk, pe, fun o h => pt_of_pe o (pe o h) (hp _ _ _ h).1, fun h => (hp _ _ _ h).2⟩
/-! ### names and constants -/
def getL : Option (Option Va) → Gh → Res Va
  | some (some v), G => .ok v G
  | _, _ => .no
def kVar (i : Nat) (N : List Str) (sc : Scope) : Expr → Bool
  | .Name x _ => decide (N[i]? = some x) && (scVis sc x && (!(x == ("__debug__" : Str)) && !(x == ("__classdict__" : Str))))
  | _ => false
def cVar (i : Nat) : CE S := .plain (fun L G => getL L[i]? G) (kVar i) (fun {sc N lev E X e} o h => by
  cases e with
  | Name x pos =>
    simp only [kVar, Bool.and_eq_true, decide_eq_true_eq, Bool.not_eq_true'] at h
    obtain ⟨h1, h2, h3, h4⟩ := h
    refine pe_imp (pe_var (i := i) (by rw [o.N]; exact h1) (o.vis h2) h3 h4) fun σ H Q q => ?_
    obtain ⟨ρ, L, G, R, l, p⟩ := q
    have p : Post S (VR S) (E σ) ρ G.length H Q (getL L[i]? G) := p
    cases hl : L[i]? with
    | none => rw [hl] at p; exact p.elim
    | some a =>
      cases a with
      | none => rw [hl] at p; exact p.elim
      | some a =>
        rw [hl] at p
        obtain ⟨v, h5, h6⟩ := l i a hl
        exact ⟨v, h5, p ρ H v (Ext.refl _ _ _) R h6⟩
  | _ => cases h) fun N sc e h => by cases e <;> first | exact ⟨rfl, rfl⟩ | cases h
theorem we_now {E : EW} {σ : L2.St} {H : Hp} {Q : VK} {a : Va} {v : V} (h : WE S E (fun _ G => .ok a G) σ H Q) (hv : ∀ ρ n H, VR S ρ n H a v) : Q v H := by
  obtain ⟨ρ, L, G, R, l, p⟩ := h
  exact p ρ H v (Ext.refl _ _ _) R (hv _ _ _)
def kI (i : Int) (N : List Str) (sc : Scope) : Expr → Bool
  | .Constant (.int j) _ _ => decide (i = j)
  | _ => false
def cI (i : Int) : CE S := .plain (fun _ G => .ok (.int i) G) (kI i) (fun {sc N lev E X e} o h => by
  cases e with
  | Constant c j pos =>
    cases c with
    | int j =>
      have e : i = j := by simpa [kI] using h
      subst e
      exact pe_imp pe_int fun σ H Q q => we_now q fun _ _ _ => by unfold VR; rfl
    | _ => cases h
  | _ => cases h) fun N sc e h => by cases e <;> first | exact ⟨rfl, rfl⟩ | cases h
def kS (i : Tx) (N : List Str) (sc : Scope) : Expr → Bool
  | .Constant (.str j) _ _ => decide (toS i = j)
  | _ => false
def cS (i : Tx) : CE S := .plain (fun _ G => .ok (.str i) G) (kS i) (fun {sc N lev E X e} o h => by
  cases e with
  | Constant c j pos =>
    cases c with
    | str j =>
      have e : toS i = j := by simpa [kS] using h
      subst e
      exact pe_imp pe_str fun σ H Q q => we_now q fun _ _ _ => by unfold VR; rfl
    | _ => cases h
  | _ => cases h) fun N sc e h => by cases e <;> first | exact ⟨rfl, rfl⟩ | cases h
def kB (i : Bool) (N : List Str) (sc : Scope) : Expr → Bool
  | .Constant (.bool j) _ _ => decide (i = j)
  | _ => false
def cB (i : Bool) : CE S := .plain (fun _ G => .ok (.bl i) G) (kB i) (fun {sc N lev E X e} o h => by
  cases e with
  | Constant c j pos =>
    cases c with
    | bool j =>
      have e : i = j := by simpa [kB] using h
      subst e
      exact pe_imp pe_bl fun σ H Q q => we_now q fun _ _ _ => by unfold VR; rfl
    | _ => cases h
  | _ => cases h) fun N sc e h => by cases e <;> first | exact ⟨rfl, rfl⟩ | cases h
def kN (N : List Str) (sc : Scope) : Expr → Bool
  | .Constant .none _ _ => true
  | _ => false
def cN : CE S := .plain (fun _ G => .ok .non G) kN (fun {sc N lev E X e} o h => by
  cases e with
  | Constant c j pos =>
    cases c with
    | none => exact pe_imp pe_non fun σ H Q q => we_now q fun _ _ _ => by unfold VR; rfl
    | _ => cases h
  | _ => cases h) fun N sc e h => by cases e <;> first | exact ⟨rfl, rfl⟩ | cases h
/-- a constant of the module -/
def glv (S : Sx) (j : Nat) : Va := ((S.gl[j]?).map (·.2)).getD .non
def kGl (S : Sx) (j : Nat) (N : List Str) (sc : Scope) : Expr → Bool
  | .Name x _ => decide ((S.gl[j]?).map (·.1) = some x) && (scIs sc x .globalImplicit && !(x == ("__debug__" : Str)))
  | _ => false
def cGl (j : Nat) : CE S := .plain (fun _ G => .ok (glv S j) G) (kGl S j) (fun {sc N lev E X e} o h => by
  cases e with
  | Name x pos =>
    simp only [kGl, Bool.and_eq_true, decide_eq_true_eq, Bool.not_eq_true'] at h
    obtain ⟨h1, h2, h3⟩ := h
    obtain ⟨p, hp, rfl⟩ := Option.map_eq_some_iff.mp h1
    obtain ⟨v', u, g1, g2, g3⟩ := o.good.gl p (List.mem_of_getElem? hp)
    refine pe_imp (pe_glob (v := v') (o.gl h2) (by rw [o.mg]; exact g1) g2 h3) fun σ H Q q => ?_
    refine we_now q fun ρ n H => ?_
    have e : glv S j = p.2 := by unfold glv; rw [hp]; rfl
    rw [e]; exact g3 ρ n H
  | _ => cases h) fun N sc e h => by cases e <;> first | exact ⟨rfl, rfl⟩ | cases h
/-- a class as a value -/
def kCl (S : Sx) (c : Nat) (N : List Str) (sc : Scope) : Expr → Bool
  | .Name x _ => decide ((x, c) ∈ S.cg) && (scIs sc x .globalImplicit && !(x == ("__debug__" : Str)))
  | _ => false
def cCl (c : Nat) : CE S := .plain (fun _ G => .ok (.cl c) G) (kCl S c) (fun {sc N lev E X e} o h => by
  cases e with
  | Name x pos =>
    simp only [kCl, Bool.and_eq_true, decide_eq_true_eq, Bool.not_eq_true'] at h
    obtain ⟨h1, h2, h3⟩ := h
    obtain ⟨_, g1, _⟩ := o.good.cg _ h1
    exact pe_imp (pe_glob (v := .ref (S.ca c)) (o.gl h2) (by rw [o.mg]; exact g1) rfl h3) fun σ H Q q => we_now q fun ρ n H => by unfold VR; rfl
  | _ => cases h) fun N sc e h => by cases e <;> first | exact ⟨rfl, rfl⟩ | cases h
/-- a built-in type as a value -/
def isTyB (n : String) : Option Value → Bool
  | some (.type m) => decide (n = m)
  | _ => false
theorem isTyB_eq {n : String} {o : Option Value} (h : isTyB n o = true) : o = some (.type n) := by
  unfold isTyB at h
  split at h
  · rw [of_decide_eq_true h]
  · cases h
def kTy (S : Sx) (n : String) (N : List Str) (sc : Scope) : Expr → Bool
  | .Name x _ => decide (x ∈ S.bl) && (isTyB n (bootBuiltins x) && (scIs sc x .globalImplicit && (!(x == ("__debug__" : Str)) && !decide (x = "__name__"))))
  | _ => false
def cTy (n : String) : CE S := .plain (fun _ G => .ok (.ty n) G) (kTy S n) (fun {sc N lev E X e} o h => by
  cases e with
  | Name x pos =>
    simp only [kTy, Bool.and_eq_true, decide_eq_true_eq, Bool.not_eq_true', decide_eq_false_iff_not] at h
    obtain ⟨h1, h2, h3, h4, h5⟩ := h
    exact pe_imp (pe_bltn (v := .ty n) (o.gl h3) (by rw [o.mg]; exact o.good.bl _ h1) (isTyB_eq h2) rfl h5 h4) fun σ H Q q => we_now q fun ρ n H => by unfold VR; rfl
  | _ => cases h) fun N sc e h => by cases e <;> first | exact ⟨rfl, rfl⟩ | cases h
/-! ### lists of arguments, displays -/
theorem aNil_pa {sc : Scope} {N : List Str} {lev : Nat} {E : EW} {X : Cx} {es : List Expr} (o : Okx S sc N lev E X) (h : es.isEmpty = true) : PA X es (WA S E fun _ G => .ok [] G) := by
  cases es with
  | nil =>
    refine pa_imp pa_nil fun σ H Q q => ?_
    obtain ⟨ρ, L, G, R, l, p⟩ := q
    exact p ρ H [] (Ext.refl _ _ _) R .nil
  | cons _ _ => cases h
theorem aNil_ns {es : List Expr} (h : es.isEmpty = true) : noStars es = true := by
  cases es with
  | nil => rfl
  | cons _ _ => cases h
def aNil : CA S := ⟨fun _ G => .ok [] G, fun _ _ es => es.isEmpty, true, aNil_pa, fun _ h => aNil_ns h⟩
def kCons (a : CE S) (r : CA S) (N : List Str) (sc : Scope) : List Expr → Bool
  | e :: es => a.chk N sc e && r.chk N sc es
  | [] => false
def eCons (a : CE S) (r : CA S) : Lo → Gh → Res (List Va) := fun L G => (a.ev L G).bind fun v G1 => (r.ev L G1).bind fun vs G2 => .ok (v :: vs) G2
theorem aCons_pa (a : CE S) (r : CA S) {sc : Scope} {N : List Str} {lev : Nat} {E : EW} {X : Cx} {es : List Expr} (o : Okx S sc N lev E X) (h : kCons a r N sc es = true) : PA X es (WA S E (eCons a r)) := by
  cases es with
  | nil => cases h
  | cons e es =>
    simp only [kCons, Bool.and_eq_true] at h
    refine pa_imp (pa_cons (a.pe o h.1) (r.pa o h.2) (starEach_cons (a.ns h.1))) fun σ H Q q => ?_
    obtain ⟨ρ, L, G, R, l, p⟩ := q
    refine ⟨ρ, L, G, R, l, Post.bind p fun v G1 ρ1 H1 x e1 R1 r1 p1 => ?_⟩
    refine ⟨ρ1, L, G1, R1, l.mono e1, Post.bind p1 fun vs G2 ρ2 H2 xs e2 R2 r2 p2 => ?_⟩
    exact p2 ρ2 H2 (x :: xs) (Ext.refl _ _ _) R2 (VRs.cons (r1.mono e2) r2)
theorem aCons_ns (a : CE S) (r : CA S) {sc : Scope} {N : List Str} {es : List Expr} (hp : r.pl = true) (h : kCons a r N sc es = true) : noStars es = true := by
  cases es with
  | nil => cases h
  | cons e es =>
    simp only [kCons, Bool.and_eq_true] at h
    have h2 := r.ns hp h.2
    unfold noStars at h2 ⊢
    simp only [List.all_cons, Bool.and_eq_true, Bool.not_eq_true']
    exact ⟨a.ns h.1, h2⟩
def aCons (a : CE S) (r : CA S) : CA S := ⟨eCons a r, kCons a r, r.pl, aCons_pa a r, aCons_ns a r⟩
def seqR (G : Gh) : Option (List Va) → Res (List Va)
  | some xs => .ok xs G
  | none => .no
def kStar (a : CE S) (r : CA S) (N : List Str) (sc : Scope) : List Expr → Bool
  | .Starred e _ :: es => a.chk N sc e && r.chk N sc es
  | _ => false
def eStar (a : CE S) (r : CA S) : Lo → Gh → Res (List Va) := fun L G => (a.ev L G).bind fun v G1 => (seqR G1 (seqO G1 v)).bind fun xs G1 => (r.ev L G1).bind fun vs G2 => .ok (xs ++ vs) G2
theorem aStar_pa (a : CE S) (r : CA S) {sc : Scope} {N : List Str} {lev : Nat} {E : EW} {X : Cx} {es : List Expr} (o : Okx S sc N lev E X) (h : kStar a r N sc es = true) : PA X es (WA S E (eStar a r)) := by
  cases es with
  | nil => cases h
  | cons e es =>
    cases e with
    | Starred e pos =>
      simp only [kStar, Bool.and_eq_true] at h
      refine pa_imp (StX.pa_star (a.pe o h.1) (r.pa o h.2) rfl) fun σ H Q q => ?_
      obtain ⟨ρ, L, G, R, l, p⟩ := q
      refine ⟨ρ, L, G, R, l, Post.bind p fun v G1 ρ1 H1 x e1 R1 r1 p1 => ?_⟩
      cases hs : seqO G1 v with
      | none => rw [hs] at p1; exact p1.elim
      | some zs =>
        rw [hs] at p1
        obtain ⟨b, ys, rfl, hq, hv⟩ := seq_ok R1 hs r1
        refine ⟨b, ys, rfl, by rw [o.K]; exact hq.symm, ρ1, L, G1, R1, l.mono e1, Post.bind (r := r.ev L G1) p1 fun vs G2 ρ2 H2 xs e2 R2 r2 p2 => ?_⟩
        exact p2 ρ2 H2 (ys ++ xs) (Ext.refl _ _ _) R2 ((hv.mono e2).append r2)
    | _ => cases h
def aStar (a : CE S) (r : CA S) : CA S := ⟨eStar a r, kStar a r, false, aStar_pa a r, fun hp _ => by cases hp⟩
def tupR (xs : List Va) (G : Gh) : Res Va := if xs.length ≤ sizeLine then .ok (.tup xs) G else .no
def lstR (xs : List Va) (G : Gh) : Res Va := if xs.length ≤ sizeLine then .ok (.ref G.length) (G ++ [.lst false xs]) else .no
def kTup (r : CA S) (N : List Str) (sc : Scope) : Expr → Bool
  | .Tuple es _ _ => r.chk N sc es
  | _ => false
def cTup (r : CA S) : CE S := .plain (fun L G => (r.ev L G).bind tupR) (kTup r) (fun {sc N lev E X e} o h => by
  cases e with
  | Tuple es k pos =>
    refine pe_imp (pe_tup (r.pa o h)) fun σ H Q q => ?_
    obtain ⟨ρ, L, G, R, l, p⟩ := q
    refine ⟨ρ, L, G, R, l, Post.bind p fun vs G1 ρ1 H1 xs e1 R1 r1 p1 => ?_⟩
    unfold tupR at p1
    split at p1
    · rename_i hz
      refine ⟨by rw [r1.length]; exact hz, fun q hq => ?_⟩
      have e2 : Ext ρ1 G1.length H1 ρ1 G1.length (upd H1 q (.tup xs)) := Ext.new hq
      refine p1 ρ1 _ _ e2 (R1.new hq) ?_
      unfold VR
      exact ⟨q, xs, rfl, SqT.of upd_same, r1.mono e2⟩
    · exact p1.elim
  | _ => cases h) fun N sc e h => by cases e <;> first | exact ⟨rfl, rfl⟩ | cases h
def kLst (r : CA S) (N : List Str) (sc : Scope) : Expr → Bool
  | .List es _ => r.chk N sc es
  | _ => false
def cLst (r : CA S) : CE S := .plain (fun L G => (r.ev L G).bind lstR) (kLst r) (fun {sc N lev E X e} o h => by
  cases e with
  | List es pos =>
    refine pe_imp (pe_lst (r.pa o h)) fun σ H Q q => ?_
    obtain ⟨ρ, L, G, R, l, p⟩ := q
    refine ⟨ρ, L, G, R, l, Post.bind p fun vs G1 ρ1 H1 xs e1 R1 r1 p1 => ?_⟩
    unfold lstR at p1
    split at p1
    · rename_i hz
      refine ⟨by rw [r1.length]; exact hz, fun q hq => ?_⟩
      obtain ⟨a1, a2, a3⟩ := rl_lst R1 r1 hq
      exact p1 _ _ _ a2 a1 a3
    · exact p1.elim
  | _ => cases h) fun N sc e h => by cases e <;> first | exact ⟨rfl, rfl⟩ | cases h
/-! ### operators -/
def kBin (op : Operator) (a b : CE S) (N : List Str) (sc : Scope) : Expr → Bool
  | .BinOp x op' y _ => decide (op = op') && (a.chk N sc x && b.chk N sc y)
  | _ => false
/-- two operands, then what is done with them -/
theorem two_ok {sc : Scope} {N : List Str} {lev : Nat} {E : EW} {X : Cx} (a b : CE S) (op : Op2) {σ : L2.St} {H : Hp} {Q : VK} (q : WE S E (fun L G => (a.ev L G).bind fun x G1 => (b.ev L G1).bind fun y G2 => lift (op x y G2)) σ H Q) : tOp (rO2 S op) (WE S E a.ev) (WE S E b.ev) σ H Q := by
  obtain ⟨ρ, L, G, R, l, p⟩ := q
  refine ⟨ρ, L, G, R, l, Post.bind p fun v G1 ρ1 H1 x e1 R1 r1 p1 => ?_⟩
  refine ⟨ρ1, L, G1, R1, l.mono e1, Post.bind p1 fun w G2 ρ2 H2 y e2 R2 r2 p2 => ?_⟩
  exact ⟨ρ2, G2, v, w, R2, r1.mono e2, r2, fin_of_lift p2⟩
def cBin (op : Operator) (a b : CE S) : CE S := .plain (fun L G => (a.ev L G).bind fun x G1 => (b.ev L G1).bind fun y G2 => lift (binF op x y G2)) (kBin op a b) (fun {sc N lev E X e} o h => by
  cases e with
  | BinOp x op' y pos =>
    simp only [kBin, Bool.and_eq_true, decide_eq_true_eq] at h
    obtain ⟨rfl, h1, h2⟩ := h
    exact pe_imp (pe_op (bin_ok o op) (a.pe o h1) (b.pe o h2)) fun σ H Q q => two_ok (sc := sc) (N := N) (lev := lev) (X := X) a b (binF op) q
  | _ => cases h) fun N sc e h => by cases e <;> first | exact ⟨rfl, rfl⟩ | cases h
def negF : Op1
  | .int i, G => some (.int (-i), G)
  | _, _ => none
def kNeg (a : CE S) (N : List Str) (sc : Scope) : Expr → Bool
  | .UnaryOp .USub x _ => a.chk N sc x
  | _ => false
def cNeg (a : CE S) : CE S := .plain (fun L G => (a.ev L G).bind fun x G1 => lift (negF x G1)) (kNeg a) (fun {sc N lev E X e} o h => by
  cases e with
  | UnaryOp op x pos =>
    cases op with
    | USub =>
      refine pe_imp (pe_un un_neg (a.pe o h)) fun σ H Q q => ?_
      obtain ⟨ρ, L, G, R, l, p⟩ := q
      refine ⟨ρ, L, G, R, l, Post.bind p fun v G1 ρ1 H1 x e1 R1 r1 p1 => ?_⟩
      cases v with
      | int i =>
        unfold VR at r1; subst r1
        exact ⟨i, rfl, p1 ρ1 H1 _ (Ext.refl _ _ _) R1 (by unfold VR; rfl)⟩
      | _ => exact p1.elim
    | _ => cases h
  | _ => cases h) fun N sc e h => by
    cases e with
    | UnaryOp op x pos => cases op <;> first | exact ⟨rfl, rfl⟩ | cases h
    | _ => cases h
end
end VM
namespace VM
open PySem PySem.Spec PyProof.Rows L2
section
variable {S : Sx}
theorem cmpF_bl {op : CmpOp} {a b : Va} {G G' : Gh} {v : Va} (h : cmpF op a b G = some (v, G')) : ∃ c, v = .bl c ∧ G' = G := by
  have mp : ∀ {o : Option Bool} {g : Bool → Bool}, (o.map fun b => (Va.bl (g b), G)) = some (v, G') → ∃ c, v = .bl c ∧ G' = G := fun {o g} q => by
    obtain ⟨c, _, e⟩ := Option.map_eq_some_iff.mp q
    cases e
    exact ⟨_, rfl, rfl⟩
  cases op with
  | Eq => exact mp (g := fun b => b) h
  | NotEq => exact mp (g := fun b => !b) h
  | In => exact mp (g := fun b => b) h
  | NotIn => exact mp (g := fun b => !b) h
  | Lt => cases a <;> cases b <;> first | (cases h; exact ⟨_, rfl, rfl⟩) | cases h
  | LtE => cases a <;> cases b <;> first | (cases h; exact ⟨_, rfl, rfl⟩) | cases h
  | Gt => cases a <;> cases b <;> first | (cases h; exact ⟨_, rfl, rfl⟩) | cases h
  | GtE => cases a <;> cases b <;> first | (cases h; exact ⟨_, rfl, rfl⟩) | cases h
  | Is => cases a <;> cases b <;> first | (cases h; exact ⟨_, rfl, rfl⟩) | cases h
  | IsNot => cases a <;> cases b <;> first | (cases h; exact ⟨_, rfl, rfl⟩) | cases h
def kCmp (op : CmpOp) (a b : CE S) (N : List Str) (sc : Scope) : Expr → Bool
  | .Compare x [op'] [y] _ => decide (op = op') && (!isSetE y && (a.chk N sc x && b.chk N sc y))
  | _ => false
def eCmp (op : CmpOp) (a b : CE S) : Lo → Gh → Res Va := fun L G => (a.ev L G).bind fun x G1 => (b.ev L G1).bind fun y G2 => lift (cmpF op x y G2)
theorem cCmp_pe (op : CmpOp) (a b : CE S) {sc : Scope} {N : List Str} {lev : Nat} {E : EW} {X : Cx} {e : Expr} (o : Okx S sc N lev E X) (h : kCmp op a b N sc e = true) : PE X e (WE S E (eCmp op a b)) := by
  unfold kCmp at h
  split at h
  · simp only [Bool.and_eq_true, decide_eq_true_eq, Bool.not_eq_true'] at h
    obtain ⟨rfl, h0, h1, h2⟩ := h
    exact pe_imp (pe_cmpR (cmp_ok o op) (a.pe o h1) (b.pe o h2) (marks_plain h0)) fun σ H Q q => two_ok (sc := sc) (N := N) (lev := lev) (X := X) a b (cmpF op) q
  · cases h
theorem eCmp_bl {op : CmpOp} {a b : CE S} {L : Lo} {G G' : Gh} {v : Va} (h : eCmp op a b L G = .ok v G') : ∃ c, v = .bl c := by
  obtain ⟨x, G1, _, h2⟩ := bind_inv h
  obtain ⟨y, G2, _, h3⟩ := bind_inv h2
  obtain ⟨c, e, _⟩ := cmpF_bl (lift_inv h3)
  exact ⟨c, e⟩
theorem cCmp_pt (op : CmpOp) (a b : CE S) {sc : Scope} {N : List Str} {lev : Nat} {E : EW} {X : Cx} {e : Expr} (o : Okx S sc N lev E X) (h : kCmp op a b N sc e = true) : PT X e (WT S E fun L G => (eCmp op a b L G).bind (tr S)) := by
  unfold kCmp at h
  split at h
  · simp only [Bool.and_eq_true, decide_eq_true_eq, Bool.not_eq_true'] at h
    obtain ⟨rfl, h0, h1, h2⟩ := h
    refine pt_imp (pt_cmpR (cmp_ok o op) (a.pe o h1) (b.pe o h2) (marks_plain h0)) fun σ H Q q => ?_
    refine two_ok (sc := sc) (N := N) (lev := lev) (X := X) a b (cmpF op) (Q := fun x H' => ∃ k, x = .bl k ∧ Q k H') ?_
    obtain ⟨ρ, L, G, R, l, p⟩ := q
    refine ⟨ρ, L, G, R, l, Post.bindE (r := eCmp op a b L G) p fun v G1 ρ1 H1 x er e1 R1 r1 p1 => ?_⟩
    obtain ⟨c, rfl⟩ := eCmp_bl er
    unfold VR at r1; subst r1
    exact ⟨c, rfl, p1 ρ1 H1 c (Ext.refl _ _ _) R1 rfl⟩
  · cases h
def cCmp (op : CmpOp) (a b : CE S) : CE S := ⟨eCmp op a b, fun L G => (eCmp op a b L G).bind (tr S), kCmp op a b, cCmp_pe op a b, cCmp_pt op a b, fun {N sc e} h => by cases e <;> first | rfl | cases h⟩
/-! ### a op b op c -/
def chnK (op : CmpOp) (c : CE S) (L : Lo) (y : Va) : Va → Gh → Res Va
  | .bl true, G => (c.ev L G).bind fun z G1 => lift (cmpF op y z G1)
  | .bl false, G => .ok (.bl false) G
  | _, _ => .no
def eChn (o1 o2 : CmpOp) (a b c : CE S) : Lo → Gh → Res Va := fun L G => (a.ev L G).bind fun x G1 => (b.ev L G1).bind fun y G2 => (lift (cmpF o1 x y G2)).bind (chnK o2 c L y)
def kChn (o1 o2 : CmpOp) (a b c : CE S) (N : List Str) (sc : Scope) : Expr → Bool
  | .Compare x [p1, p2] [y, z] _ => decide (o1 = p1) && (decide (o2 = p2) && (!isSetE z && (a.chk N sc x && (b.chk N sc y && c.chk N sc z))))
  | _ => false
theorem eChn_bl {o1 o2 : CmpOp} {a b c : CE S} {L : Lo} {G G' : Gh} {v : Va} (h : eChn o1 o2 a b c L G = .ok v G') : ∃ c, v = .bl c := by
  obtain ⟨x, G1, _, h2⟩ := bind_inv h
  obtain ⟨y, G2, _, h3⟩ := bind_inv h2
  obtain ⟨z, G3, h4, h5⟩ := bind_inv h3
  obtain ⟨k, rfl, rfl⟩ := cmpF_bl (lift_inv h4)
  cases k with
  | false => cases h5; exact ⟨_, rfl⟩
  | true =>
    obtain ⟨w, G4, _, h6⟩ := bind_inv (r := c.ev L G3) h5
    obtain ⟨k, e, _⟩ := cmpF_bl (lift_inv h6)
    exact ⟨k, e⟩
theorem chn_ok {sc : Scope} {N : List Str} {lev : Nat} {E : EW} {X : Cx} {o1 o2 : CmpOp} (a b c : CE S) {σ : L2.St} {H : Hp} {Q : VK} (q : WE S E (eChn o1 o2 a b c) σ H Q) :
    tChain (rO2 S (cmpF o1)) (rO2 S (cmpF o2)) (WE S E a.ev) (WE S E b.ev) (WE S E c.ev) σ H Q := by
  obtain ⟨ρ, L, G, R, l, p⟩ := q
  refine ⟨ρ, L, G, R, l, Post.bind p fun v G1 ρ1 H1 x e1 R1 r1 p1 => ?_⟩
  refine ⟨ρ1, L, G1, R1, l.mono e1, Post.bind p1 fun w G2 ρ2 H2 y e2 R2 r2 p2 => ?_⟩
  refine ⟨ρ2, G2, v, w, R2, r1.mono e2, r2, ?_⟩
  cases hc : cmpF o1 v w G2 with
  | none => rw [hc] at p2; exact p2.elim
  | some z =>
    obtain ⟨z, G3⟩ := z
    obtain ⟨k, rfl, rfl⟩ := cmpF_bl hc
    rw [hc] at p2
    refine ⟨_, _, rfl, fun ρ3 H3 z' e3 R3 r3 => ?_⟩
    unfold VR at r3; subst r3
    refine ⟨k, rfl, ?_⟩
    cases k with
    | false =>
      rw [if_neg Bool.false_ne_true]
      exact p2 ρ3 H3 _ e3 R3 (by unfold VR; rfl)
    | true =>
      rw [if_pos rfl]
      have p3 : Post S (VR S) (E σ) ρ3 G3.length H3 Q ((c.ev L G3).bind fun z G1 => lift (cmpF o2 w z G1)) := Post.after p2 e3
      refine ⟨ρ3, L, G3, R3, (l.mono e1).mono (e2.trans e3), Post.bind p3 fun u G4 ρ4 H4 z e4 R4 r4 p4 => ?_⟩
      exact ⟨ρ4, G4, w, u, R4, r2.mono (e3.trans e4), r4, fin_of_lift p4⟩
theorem chn_marks {o1 o2 : CmpOp} {y z : Expr} (h : isSetE z = false) : lastMarks [o1, o2] [y, z] = false := by
  show behindInMarks o2 z = false
  exact marks_plain h
theorem cChn_pe (o1 o2 : CmpOp) (a b c : CE S) {sc : Scope} {N : List Str} {lev : Nat} {E : EW} {X : Cx} {e : Expr} (o : Okx S sc N lev E X) (h : kChn o1 o2 a b c N sc e = true) : PE X e (WE S E (eChn o1 o2 a b c)) := by
  unfold kChn at h
  split at h
  · simp only [Bool.and_eq_true, decide_eq_true_eq, Bool.not_eq_true'] at h
    obtain ⟨rfl, rfl, h0, h1, h2, h3⟩ := h
    exact pe_imp (pe_chain (cmp_ok o o1) (cmp_ok o o2) (a.pe o h1) (b.pe o h2) (c.pe o h3) (chn_marks h0)) fun σ H Q q => chn_ok (sc := sc) (N := N) (lev := lev) (X := X) a b c q
  · cases h
theorem cChn_pt (o1 o2 : CmpOp) (a b c : CE S) {sc : Scope} {N : List Str} {lev : Nat} {E : EW} {X : Cx} {e : Expr} (o : Okx S sc N lev E X) (h : kChn o1 o2 a b c N sc e = true) : PT X e (WT S E fun L G => (eChn o1 o2 a b c L G).bind (tr S)) := by
  unfold kChn at h
  split at h
  · simp only [Bool.and_eq_true, decide_eq_true_eq, Bool.not_eq_true'] at h
    obtain ⟨rfl, rfl, h0, h1, h2, h3⟩ := h
    refine pt_imp (pt_chain (cmp_ok o o1) (cmp_ok o o2) (a.pe o h1) (b.pe o h2) (c.pe o h3) (chn_marks h0)) fun σ H Q q => ?_
    refine chn_ok (sc := sc) (N := N) (lev := lev) (X := X) (Q := fun x H' => ∃ k, x = .bl k ∧ Q k H') a b c ?_
    obtain ⟨ρ, L, G, R, l, p⟩ := q
    refine ⟨ρ, L, G, R, l, Post.bindE (r := eChn o1 o2 a b c L G) p fun v G1 ρ1 H1 x er e1 R1 r1 p1 => ?_⟩
    obtain ⟨k, rfl⟩ := eChn_bl er
    unfold VR at r1; subst r1
    exact ⟨k, rfl, p1 ρ1 H1 k (Ext.refl _ _ _) R1 rfl⟩
  · cases h
def cChn (o1 o2 : CmpOp) (a b c : CE S) : CE S := ⟨eChn o1 o2 a b c, fun L G => (eChn o1 o2 a b c L G).bind (tr S), kChn o1 o2 a b c, cChn_pe o1 o2 a b c, cChn_pt o1 o2 a b c, fun {N sc e} h => by cases e <;> first | rfl | cases h⟩
/-! ### not, and, or, a if t else b -/
def eT (a : CE S) : Lo → Gh → Res Bool := fun L G => (a.ev L G).bind (tr S)
def eNot (a : CE S) : Lo → Gh → Res Va := fun L G => (eT a L G).bind fun b G1 => .ok (.bl (!b)) G1
def kNot (a : CE S) (N : List Str) (sc : Scope) : Expr → Bool
  | .UnaryOp .Not x _ => a.chk N sc x
  | _ => false
theorem bind_assoc {α β γ : Type} (r : Res α) (f : α → Gh → Res β) (g : β → Gh → Res γ) : (r.bind f).bind g = r.bind fun a G => (f a G).bind g := by
  cases r <;> rfl
theorem cNot_pe (a : CE S) {sc : Scope} {N : List Str} {lev : Nat} {E : EW} {X : Cx} {e : Expr} (o : Okx S sc N lev E X) (h : kNot a N sc e = true) : PE X e (WE S E (eNot a)) := by
  unfold kNot at h
  split at h
  · refine ⟨fun pins s σ H Q I q => ?_⟩
    obtain ⟨ρ, L, G, R, l, p⟩ := q
    have p : Post S (VR S) (E σ) ρ G.length H Q ((a.ev L G).bind fun v G1 => (tr S v G1).bind fun b G2 => .ok (.bl (!b)) G2) := by
      have p := p
      unfold eNot eT at p
      rw [bind_assoc] at p
      exact p
    refine UnaryOp_ (thn ((a.pe o h).run pins s σ H (fun x H1 => ∃ ρ G v, Rl S ρ G H1 ∧ VR S ρ G.length H1 v x ∧ Post S (VR S) (E σ) ρ G.length H1 Q ((tr S v G).bind fun b G2 => .ok (.bl (!b)) G2)) I ⟨ρ, L, G, R, l, Post.bind p fun v G1 ρ1 H1 x e1 R1 r1 p1 => ⟨ρ1, G1, v, R1, r1, p1⟩⟩) fun u s1 hh => ?_)
    obtain ⟨x, H1, I1, rx, ρ1, G1, v, R1, r1, p1⟩ := hh
    refine not_of (thn (tr_ok o I1 rx (Q := fun b H' => Q (.bl (!b)) H') ⟨ρ1, G1, v, R1, r1, Post.bind p1 fun b G2 ρ2 H2 c e2 R2 r2 p2 => ?_⟩) fun c s2 hh => ?_)
    · cases r2
      exact p2 ρ2 H2 _ (Ext.refl _ _ _) R2 (by unfold VR; rfl)
    · obtain ⟨H2, I2, q2⟩ := hh
      exact ⟨.bl (!c), H2, I2, rfl, q2⟩
  · cases h
def tNt (a : CE S) : Lo → Gh → Res Bool := fun L G => (a.tv L G).bind fun b G1 => .ok (!b) G1
theorem cNot_pt (a : CE S) {sc : Scope} {N : List Str} {lev : Nat} {E : EW} {X : Cx} {e : Expr} (o : Okx S sc N lev E X) (h : kNot a N sc e = true) : PT X e (WT S E (tNt a)) := by
  unfold kNot at h
  split at h
  · refine pt_imp (pt_not (a.pt o h)) fun σ H Q q => ?_
    obtain ⟨ρ, L, G, R, l, p⟩ := q
    refine ⟨ρ, L, G, R, l, Post.bind (r := a.tv L G) p fun v G1 ρ1 H1 x e1 R1 r1 p1 => ?_⟩
    cases r1
    exact p1 ρ1 H1 _ (Ext.refl _ _ _) R1 rfl
  · cases h
def cNot (a : CE S) : CE S := ⟨eNot a, tNt a, kNot a, cNot_pe a, cNot_pt a, fun {N sc e} h => by cases e <;> first | rfl | cases h⟩
/-- and (true), or (false): the values as Python hands them on -/
def eBop (c : Bool) : CE S → List (CE S) → Lo → Gh → Res Va
  | a, [] => a.ev
  | a, b :: r => fun L G => (a.ev L G).bind fun v G1 => (tr S v G1).bind fun t G2 => if t = c then eBop c b r L G2 else .ok v G2
def kList : List (CE S) → List Str → Scope → List Expr → Bool
  | [], _, _, es => es.isEmpty
  | a :: r, N, sc, e :: es => a.chk N sc e && kList r N sc es
  | _ :: _, _, _, [] => false
def boolC (c : Bool) : BoolOp := if c then .And else .Or
def kBop (c : Bool) (a : CE S) (r : List (CE S)) (N : List Str) (sc : Scope) : Expr → Bool
  | .BoolOp op xs _ => decide (op = boolC c) && kList (a :: r) N sc xs
  | _ => false
theorem bop_pe {sc : Scope} {N : List Str} {lev : Nat} {E : EW} {X : Cx} (o : Okx S sc N lev E X) (c : Bool) {pos : Pos} : ∀ (r : List (CE S)) (a : CE S) (xs : List Expr), kList (a :: r) N sc xs = true → PE X (.BoolOp (boolC c) xs pos) (WE S E (eBop c a r))
  | [], a, xs, h => by
    cases xs with
    | nil => cases h
    | cons x xs =>
      simp only [kList, Bool.and_eq_true] at h
      cases xs with
      | nil => exact pe_one (a.pe o h.1)
      | cons _ _ => exact absurd h.2 (by simp)
  | b :: r, a, xs, h => by
    cases xs with
    | nil => cases h
    | cons x xs =>
      cases xs with
      | nil => exact absurd h (by simp [kList])
      | cons y xs =>
        have h1 : a.chk N sc x = true ∧ kList (b :: r) N sc (y :: xs) = true := by
          have h := h
          unfold kList at h
          simpa only [Bool.and_eq_true] using h
        have ih := bop_pe o c (pos := pos) r b (y :: xs) h1.2
        refine ⟨fun pins s σ H Q I q => ?_⟩
        obtain ⟨ρ, L, G, R, l, p⟩ := q
        have first : wpAny (model X.prog X.w) X.A (eval x X.env) (fun v s1 => wpAny (model X.prog X.w) X.A (truthy v) (fun t s2 => if t = c then wpAny (model X.prog X.w) X.A (eval (.BoolOp (boolC c) (y :: xs) pos) X.env) (EP X pins σ Q) X.xe s2 else EP X pins σ Q v s2) X.xe s1) X.xe s := by
          refine thn ((a.pe o h1.1).run pins s σ H (fun x H1 => ∃ ρ G v, Rl S ρ G H1 ∧ LR S ρ G.length H1 L σ ∧ VR S ρ G.length H1 v x ∧ Post S (VR S) (E σ) ρ G.length H1 Q ((tr S v G).bind fun t G2 => if t = c then eBop c b r L G2 else .ok v G2)) I ⟨ρ, L, G, R, l, Post.bind p fun v G1 ρ1 H1 x e1 R1 r1 p1 => ⟨ρ1, G1, v, R1, l.mono e1, r1, p1⟩⟩) fun u s1 hh => ?_
          obtain ⟨x1, H1, I1, rx, ρ1, G1, v, R1, l1, r1, p1⟩ := hh
          refine thn (tr_ok o I1 rx (Q := fun t H' => if t = c then WE S E (eBop c b r) σ H' Q else Q x1 H') ⟨ρ1, G1, v, R1, r1, Post.bind p1 fun t G2 ρ2 H2 t' e2 R2 r2 p2 => ?_⟩) fun t s2 hh => ?_
          · cases r2
            by_cases ht : t = c
            · rw [if_pos ht] at p2 ⊢
              exact ⟨ρ2, L, G2, R2, l1.mono e2, p2⟩
            · rw [if_neg ht] at p2 ⊢
              exact p2 ρ2 H2 _ (Ext.refl _ _ _) R2 (r1.mono e2)
          · obtain ⟨H2, I2, q2⟩ := hh
            by_cases ht : t = c
            · rw [if_pos ht] at q2 ⊢
              exact ih.run pins s2 σ H2 Q I2 q2
            · rw [if_neg ht] at q2 ⊢
              exact ⟨x1, H2, I2, rx, q2⟩
        cases c with
        | true => exact BoolOp_and first
        | false =>
          refine BoolOp_or (wpAny_mono first (fun v s1 h1 => wpAny_mono h1 (fun t s2 h2 => ?_) fun _ _ z => z) fun _ _ z => z)
          cases t with
          | true => exact h2
          | false => exact h2
def tBop (c : Bool) : CE S → List (CE S) → Lo → Gh → Res Bool
  | a, [] => a.tv
  | a, b :: r => fun L G => (a.tv L G).bind fun t G1 => if t = c then tBop c b r L G1 else .ok t G1
theorem bop_pt {sc : Scope} {N : List Str} {lev : Nat} {E : EW} {X : Cx} (o : Okx S sc N lev E X) (c : Bool) {pos : Pos} : ∀ (r : List (CE S)) (a : CE S) (xs : List Expr), kList (a :: r) N sc xs = true → PW X (.BoolOp (boolC c) xs pos) (WT S E (tBop c a r))
  | [], a, xs, h => by
    cases xs with
    | nil => cases h
    | cons x xs =>
      simp only [kList, Bool.and_eq_true] at h
      cases xs with
      | nil =>
        cases c with
        | true => exact pw_and1 (a.pt o h.1)
        | false => exact pw_or1 (a.pt o h.1)
      | cons _ _ => exact absurd h.2 (by simp)
  | b :: r, a, xs, h => by
    cases xs with
    | nil => cases h
    | cons x xs =>
      cases xs with
      | nil => exact absurd h (by simp [kList])
      | cons y xs =>
        have h1 : a.chk N sc x = true ∧ kList (b :: r) N sc (y :: xs) = true := by
          have h := h
          unfold kList at h
          simpa only [Bool.and_eq_true] using h
        have ih := bop_pt o c (pos := pos) r b (y :: xs) h1.2
        have go : ∀ σ H Q, WT S E (tBop c a (b :: r)) σ H Q → WT S E a.tv σ H fun t H1 => if t = c then WT S E (tBop c b r) σ H1 Q else Q t H1 := fun σ H Q q => by
          obtain ⟨ρ, L, G, R, l, p⟩ := q
          refine ⟨ρ, L, G, R, l, Post.bind (r := a.tv L G) p fun t G1 ρ1 H1 t' e1 R1 r1 p1 => ?_⟩
          cases r1
          by_cases ht : t = c
          · rw [if_pos ht] at p1 ⊢
            exact ⟨ρ1, L, G1, R1, l.mono e1, p1⟩
          · rw [if_neg ht] at p1 ⊢
            exact p1 ρ1 H1 _ (Ext.refl _ _ _) R1 rfl
        cases c with
        | true =>
          refine ⟨fun wh pins s σ H Q I q => (pw_and (a.pt o h1.1) ih).run wh pins s σ H Q I ?_⟩
          refine (show WT S E a.tv σ H (fun c H1 => if c = true then WT S E (tBop true b r) σ H1 Q else Q false H1) from ?_)
          obtain ⟨ρ, L, G, R, l, p⟩ := go σ H Q q
          refine ⟨ρ, L, G, R, l, p.mono fun t H1 z => ?_⟩
          cases t with
          | true => exact z
          | false => exact z
        | false =>
          refine ⟨fun wh pins s σ H Q I q => (pw_or (a.pt o h1.1) ih).run wh pins s σ H Q I ?_⟩
          refine (show WT S E a.tv σ H (fun c H1 => if c = true then Q true H1 else WT S E (tBop false b r) σ H1 Q) from ?_)
          obtain ⟨ρ, L, G, R, l, p⟩ := go σ H Q q
          refine ⟨ρ, L, G, R, l, p.mono fun t H1 z => ?_⟩
          cases t with
          | true => exact z
          | false => exact z
theorem cBop_pe (c : Bool) (a : CE S) (r : List (CE S)) {sc : Scope} {N : List Str} {lev : Nat} {E : EW} {X : Cx} {e : Expr} (o : Okx S sc N lev E X) (h : kBop c a r N sc e = true) : PE X e (WE S E (eBop c a r)) := by
  unfold kBop at h
  split at h
  · simp only [Bool.and_eq_true, decide_eq_true_eq] at h
    obtain ⟨rfl, h1⟩ := h
    exact bop_pe o c r a _ h1
  · cases h
theorem cBop_pt (c : Bool) (a : CE S) (r : List (CE S)) {sc : Scope} {N : List Str} {lev : Nat} {E : EW} {X : Cx} {e : Expr} (o : Okx S sc N lev E X) (h : kBop c a r N sc e = true) : PT X e (WT S E (tBop c a r)) := by
  unfold kBop at h
  split at h
  · simp only [Bool.and_eq_true, decide_eq_true_eq] at h
    obtain ⟨rfl, h1⟩ := h
    exact (bop_pt o c r a _ h1).pt
  · cases h
def cBop (c : Bool) (a : CE S) (r : List (CE S)) : CE S := ⟨eBop c a r, tBop c a r, kBop c a r, cBop_pe c a r, cBop_pt c a r, fun {N sc e} h => by cases e <;> first | rfl | cases h⟩
def eIf (c a b : CE S) : Lo → Gh → Res Va := fun L G => (c.tv L G).bind fun t G1 => if t = true then a.ev L G1 else b.ev L G1
def tIfx (c a b : CE S) : Lo → Gh → Res Bool := fun L G => (c.tv L G).bind fun t G1 => if t = true then a.tv L G1 else b.tv L G1
def kIf (c a b : CE S) (N : List Str) (sc : Scope) : Expr → Bool
  | .IfExp x y z _ => c.chk N sc x && (a.chk N sc y && b.chk N sc z)
  | _ => false
theorem cIf_pe (c a b : CE S) {sc : Scope} {N : List Str} {lev : Nat} {E : EW} {X : Cx} {e : Expr} (o : Okx S sc N lev E X) (h : kIf c a b N sc e = true) : PE X e (WE S E (eIf c a b)) := by
  unfold kIf at h
  split at h
  · simp only [Bool.and_eq_true] at h
    obtain ⟨h1, h2, h3⟩ := h
    refine pe_imp (pe_ifExp (c.pt o h1) (a.pe o h2) (b.pe o h3)) fun σ H Q q => ?_
    obtain ⟨ρ, L, G, R, l, p⟩ := q
    refine ⟨ρ, L, G, R, l, Post.bind (r := c.tv L G) p fun t G1 ρ1 H1 t' e1 R1 r1 p1 => ?_⟩
    cases r1
    cases t with
    | true => exact ⟨ρ1, L, G1, R1, l.mono e1, p1⟩
    | false => exact ⟨ρ1, L, G1, R1, l.mono e1, p1⟩
  · cases h
theorem isTrue_ifx {M : Model} {A : Around} {E : Value → Shared → Prop} {env : Env} {s : Shared} {x y z : Expr} {pos : Pos} {whole : Sem Value} {Q : Bool → Shared → Prop}
    (h : wpAny M A (isTrue x env (eval x env)) (fun c s' => if c = true then wpAny M A (isTrue y env (eval y env)) Q E s' else wpAny M A (isTrue z env (eval z env)) Q E s') E s) : wpAny M A (isTrue (.IfExp x y z pos) env whole) Q E s := by
  show wpAny M A (do if ← isTrue x env (eval x env) then isTrue y env (eval y env) else isTrue z env (eval z env)) Q E s
  refine wpAny_bind (wpAny_mono h (fun c s' h' => ?_) fun _ _ x => x)
  cases c with
  | true => exact h'
  | false => exact h'
theorem cIf_pt (c a b : CE S) {sc : Scope} {N : List Str} {lev : Nat} {E : EW} {X : Cx} {e : Expr} (o : Okx S sc N lev E X) (h : kIf c a b N sc e = true) : PT X e (WT S E (tIfx c a b)) := by
  unfold kIf at h
  split at h
  · simp only [Bool.and_eq_true] at h
    obtain ⟨h1, h2, h3⟩ := h
    refine ⟨fun pins s σ H Q I q => ?_⟩
    obtain ⟨ρ, L, G, R, l, p⟩ := q
    refine isTrue_ifx (thn ((c.pt o h1).run pins s σ H (fun t H1 => if t = true then WT S E a.tv σ H1 Q else WT S E b.tv σ H1 Q) I ⟨ρ, L, G, R, l, Post.bind (r := c.tv L G) p fun t G1 ρ1 H1 t' e1 R1 r1 p1 => ?_⟩) fun t s1 hh => ?_)
    · cases r1
      cases t with
      | true => exact ⟨ρ1, L, G1, R1, l.mono e1, p1⟩
      | false => exact ⟨ρ1, L, G1, R1, l.mono e1, p1⟩
    · obtain ⟨H1, I1, q1⟩ := hh
      cases t with
      | true => exact (a.pt o h2).run pins s1 σ H1 Q I1 q1
      | false => exact (b.pt o h3).run pins s1 σ H1 Q I1 q1
  · cases h
def cIf (c a b : CE S) : CE S := ⟨eIf c a b, tIfx c a b, kIf c a b, cIf_pe c a b, cIf_pt c a b, fun {N sc e} h => by cases e <;> first | rfl | cases h⟩
end
end VM
namespace VM
open PySem PySem.Spec PyProof.Rows L2
/-! ### keys -/
mutual
def kEq : Va → Va → Bool
  | .int i, .int j => decide (i = j)
  | .str s, .str t => decide (s = t)
  | .non, .non => true
  | .tup xs, .tup ys => kEqs xs ys
  | _, _ => false
def kEqs : List Va → List Va → Bool
  | [], [] => true
  | x :: xs, y :: ys => kEq x y && kEqs xs ys
  | _, _ => false
end
def dGet (kvs : List (Va × Va)) (k : Va) : Option Va := (kvs.find? fun p => kEq p.1 k).map (·.2)
def dPut (kvs : List (Va × Va)) (k v : Va) : List (Va × Va) := if (kvs.any fun p => kEq p.1 k) = true then kvs.map (fun p => if kEq p.1 k = true then (p.1, v) else p) else kvs ++ [(k, v)]
def dDrop (kvs : List (Va × Va)) (k : Va) : List (Va × Va) := kvs.filter fun p => !kEq p.1 k
section
variable {S : Sx} {sc : Scope} {N : List Str} {lev : Nat} {E : EW} {X : Cx} {ρ : Nat → Addr} {G : Gh} {H : Hp} {n : Nat}
theorem keyS_eq {a b : Va} {k l : Key} (h : keyS a = some k) (h' : keyS b = some l) : kEq a b = decide (k = l) := by
  cases a with
  | int i =>
    cases h
    cases b with
    | int j => cases h'; unfold kEq; rw [key_ll]; simp only [Bool.beq_eq_decide_eq]
    | str t => cases h'; unfold kEq; rw [key_lr]
    | _ => cases h'
  | str s =>
    cases h
    cases b with
    | int j => cases h'; unfold kEq; rw [key_rl]
    | str t => cases h'; unfold kEq; rw [key_rr, toS_dec]
    | _ => cases h'
  | _ => cases h
theorem keyS_V {a : Va} {k : Key} {v : V} (h : keyS a = some k) (r : VR S ρ n H a v) : v = kV k := by
  cases a <;> first | (cases h; unfold VR at r; subst r; rfl) | exact absurd h (by simp [keyS])
theorem drk_get {k : Va} {k' : Key} (hk : keyS k = some k') : ∀ {kvs : List (Va × Va)} {ks : List (Key × V)}, DRk S ρ n H kvs ks → (dGet kvs k = none ∧ valV ks k' = none) ∨ ∃ x v, dGet kvs k = some x ∧ valV ks k' = some v ∧ VR S ρ n H x v
  | [], _, h => by cases h; exact .inl ⟨rfl, rfl⟩
  | (a, x) :: kvs, _, h => by
    obtain ⟨a', y, r, rfl, h1, h2, h3⟩ := h
    have e := keyS_eq h1 hk
    by_cases q : a' = k'
    · rw [decide_eq_true q] at e
      refine .inr ⟨x, y, ?_, valV_pos q, h2⟩
      unfold dGet; rw [List.find?_cons, e]; rfl
    · rw [decide_eq_false q] at e
      have g : dGet ((a, x) :: kvs) k = dGet kvs k := by unfold dGet; rw [List.find?_cons, e]
      rw [g, valV_neg (p := (a', y)) q]
      exact drk_get hk h3
theorem vrs_at {xs : List Va} {ys : List V} {i : Int} {x : Va} (r : VRs S ρ n H xs ys) (h : atI xs i = some x) : ∃ y, atI ys i = some y ∧ VR S ρ n H x y := by
  unfold atI at h ⊢
  rw [r.length]
  obtain ⟨j, h1, h2⟩ := Option.bind_eq_some_iff.mp h
  obtain ⟨y, h3, h4⟩ := r.get h2
  exact ⟨y, by rw [h1]; exact h3, h4⟩
end
/-! ### a[i] -/
def okV (G : Gh) : Option Va → Option (Va × Gh)
  | some v => some (v, G)
  | none => none
def idxO (G : Gh) : Option VO → Va → Option (Va × Gh)
  | some (.lst _ xs), .int i => okV G (atI xs i)
  | some (.dct _ kvs), k => if (keyS k).isSome = true then okV G (dGet kvs k) else none
  | _, _ => none
def idxS (s : Tx) (i : Int) (G : Gh) : Option (Va × Gh) := if s.length ≤ sizeLine then okV G ((atI s i).map fun c => .str [c]) else none
def opIdx : Op2
  | .tup xs, .int i, G => okV G (atI xs i)
  | .str s, .int i, G => idxS s i G
  | .ref n, k, G => idxO G G[n]? k
  | _, _, _ => none
def isSl : Expr → Bool
  | .Slice .. => true
  | _ => false
theorem plainIx {b : Expr} (h : isSl b = false) : PlainIx b := by
  intro o i
  cases b <;> first | rfl | exact absurd h (by simp [isSl])
section
variable {S : Sx} {sc : Scope} {N : List Str} {lev : Nat} {E : EW} {X : Cx}
theorem okV_inv {G : Gh} {o : Option Va} {p : Va × Gh} (h : okV G o = some p) : ∃ v, o = some v ∧ p = (v, G) := by
  cases o with
  | none => cases h
  | some v => cases h; exact ⟨v, rfl, rfl⟩
theorem Okx.u1 (o : Okx S sc N lev E X) : X.A.units + 1 < cLine := by have := o.u64; omega
theorem dget_of {ρ : Nat → Addr} {G : Gh} {H : Hp} {m : Nat} {lk : Bool} {kvs : List (Va × Va)} (R : Rl S ρ G H) (h : G[m]? = some (.dct lk kvs)) : ∃ ks, Rd H (ρ m) (.dK ks) ∧ DRk S ρ G.length H kvs ks := by
  have ob := R.ob m _ h
  cases lk with
  | false =>
    obtain ⟨ks, h1, h2⟩ := ob
    exact ⟨ks, .inl h1, h2⟩
  | true =>
    obtain ⟨o, ks, h1, h2⟩ := ob
    exact ⟨ks, .inr ⟨o, h1⟩, h2⟩
theorem idx_ok (o : Okx S sc N lev E X) : IxR X (rO2 S opIdx) := by
  intro value slice pins s σ H x y v u Q I rx ry ⟨ρ, G, a, b, R, ra, rb, p⟩ hs
  cases a with
  | tup xs =>
    cases b with
    | int i =>
      unfold VR at ra rb
      obtain ⟨a1, zs, rfl, h1, h2⟩ := ra
      subst rb
      have p : Fin1 S ρ G.length H Q (okV G (atI xs i)) := p
      cases hx : atI xs i with
      | none => rw [hx] at p; exact (fin_no p).elim
      | some z =>
        rw [hx] at p
        obtain ⟨w, h3, h4⟩ := vrs_at h2 hx
        exact ix_tup value slice pins s σ H _ _ v u Q I rx ry ⟨a1, zs, i, w, rfl, rfl, by rw [o.K]; exact h1, h3, p.old R h4⟩ hs
    | _ => exact (fin_no p).elim
  | str t =>
    cases b with
    | int i =>
      unfold VR at ra rb
      subst ra; subst rb
      have p : Fin1 S ρ G.length H Q (idxS t i G) := p
      unfold idxS at p
      split at p
      · rename_i hz
        cases hx : atI t i with
        | none => rw [hx] at p; exact (fin_no p).elim
        | some c =>
          rw [hx] at p
          refine ix_str value slice pins s σ H _ _ v u Q I rx ry ⟨toS t, i, c, rfl, rfl, by rw [toS_len]; exact hz, hx, p.old R ?_⟩ hs
          unfold VR; rfl
      · exact (fin_no p).elim
    | _ => exact (fin_no p).elim
  | ref m =>
    unfold VR at ra
    obtain ⟨hm, rfl⟩ := ra
    have p : Fin1 S ρ G.length H Q (idxO G G[m]? b) := p
    obtain ⟨w, hw⟩ : ∃ w, G[m]? = some w := ⟨G[m], by simp [hm]⟩
    rw [hw] at p
    cases w with
    | lst fz xs =>
      cases b with
      | int i =>
        unfold VR at rb; subst rb
        have p : Fin1 S ρ G.length H Q (okV G (atI xs i)) := p
        obtain ⟨zs, h1, h2⟩ := lst_ok R (m := m) (xs := xs) (by rw [hw]; rfl)
        cases hx : atI xs i with
        | none => rw [hx] at p; exact (fin_no p).elim
        | some z =>
          rw [hx] at p
          obtain ⟨w, h3, h4⟩ := vrs_at h2 hx
          exact ix_list value slice pins s σ H _ _ v u Q I rx ry ⟨_, zs, i, w, rfl, rfl, by rw [o.K]; exact h1, h3, p.old R h4⟩ hs
      | _ => exact (fin_no p).elim
    | dct lk kvs =>
      have p : Fin1 S ρ G.length H Q (if (keyS b).isSome = true then okV G (dGet kvs b) else none) := p
      split at p
      · rename_i hk
        obtain ⟨k', hk'⟩ := Option.isSome_iff_exists.mp hk
        obtain ⟨ks, h1, h2⟩ := dget_of R hw
        have ey := keyS_V hk' rb
        rcases drk_get hk' h2 with ⟨g1, g2⟩ | ⟨z, w, g1, g2, g3⟩
        · rw [g1] at p; exact (fin_no p).elim
        · rw [g1] at p
          cases (show v = Value.ref (ρ m) from rx)
          have g : DGet H (ρ m) y (some w) := .inl ⟨ks, k', h1, ey, g2.symm⟩
          exact tail_any (dict_typeIs I g) PySem.F.slot_dict_getitem.lookup (d_getItem o.u1 I g ry fun w' s3 I3 rw' => ⟨w, H, I3, rw', p.old R g3⟩) hs
      · exact (fin_no p).elim
    | _ => exact (fin_no p).elim
  | _ => cases b <;> exact (fin_no p).elim
def kIdx (a b : CE S) (N : List Str) (sc : Scope) : Expr → Bool
  | .Subscript x y _ => !isSl y && (a.chk N sc x && b.chk N sc y)
  | _ => false
def cIdx (a b : CE S) : CE S := .plain (fun L G => (a.ev L G).bind fun x G1 => (b.ev L G1).bind fun y G2 => lift (opIdx x y G2)) (kIdx a b) (fun {sc N lev E X e} o h => by
  cases e with
  | Subscript x y pos =>
    simp only [kIdx, Bool.and_eq_true, Bool.not_eq_true'] at h
    obtain ⟨h0, h1, h2⟩ := h
    exact pe_imp (pe_ix (idx_ok o) (a.pe o h1) (b.pe o h2) (plainIx h0)) fun σ H Q q => two_ok (sc := sc) (N := N) (lev := lev) (X := X) a b opIdx q
  | _ => cases h) fun N sc e h => by cases e <;> first | exact ⟨rfl, rfl⟩ | cases h
/-! ### a[lo:hi] -/
def cut {α : Type} (xs : List α) (lo hi : Option Int) : List α := (xs.drop (HT.sIx xs.length 0 lo)).take (HT.sIx xs.length xs.length hi - HT.sIx xs.length 0 lo)
def slO (G : Gh) (lo hi : Option Int) : Option (List Va) → Option (Va × Gh)
  | some xs => some (.ref G.length, G ++ [.lst false (cut xs lo hi)])
  | none => none
def opSl (lo hi : Option Int) : Op1
  | .tup xs, G => some (.tup (cut xs lo hi), G)
  | .str s, G => if s.length ≤ sizeLine then some (.str (cut s lo hi), G) else none
  | .ref n, G => slO G lo hi (lstO G[n]?)
  | _, _ => none
theorem vrs_cut {ρ : Nat → Addr} {n : Nat} {H : Hp} {xs : List Va} {ys : List V} (r : VRs S ρ n H xs ys) (lo hi : Option Int) : VRs S ρ n H (cut xs lo hi) (cutV ys lo hi) := by
  unfold cut cutV
  rw [r.length]
  exact (r.drop _).take _
/-- a bound of a slice: nothing, or a whole number -/
def part : Option (CE S) → Lo → Gh → Res (Option Int)
  | none, _, G => .ok none G
  | some a, L, G => (a.ev L G).bind fun v G1 => match v with
    | .int i => .ok (some i) G1
    | _ => .no
def kPart : Option (CE S) → List Str → Scope → Option Expr → Bool
  | none, _, _, none => true
  | some a, N, sc, some e => a.chk N sc e
  | _, _, _, _ => false
abbrev relP : RelT (Option Int) (Option Int) := fun _ _ _ a b => a = b
theorem part_po {E : EW} {a : Option (CE S)} {e : Option Expr} (o : Okx S sc N lev E X) (h : kPart a N sc e = true) : ∃ t, PO X e t ∧ ∀ σ H Q, WG S relP E (part a) σ H Q → t σ H Q := by
  cases a with
  | none =>
    cases e with
    | none =>
      refine ⟨_, po_none, fun σ H Q q => ?_⟩
      obtain ⟨ρ, L, G, R, l, p⟩ := q
      exact p ρ H none (Ext.refl _ _ _) R rfl
    | some e => cases h
  | some a =>
    cases e with
    | none => cases h
    | some e =>
      refine ⟨_, po_some (a.pe o h), fun σ H Q q => ?_⟩
      obtain ⟨ρ, L, G, R, l, p⟩ := q
      refine ⟨ρ, L, G, R, l, Post.bind (r := a.ev L G) p fun v G1 ρ1 H1 x e1 R1 r1 p1 => ?_⟩
      cases v with
      | int i =>
        unfold VR at r1; subst r1
        exact ⟨i, rfl, p1 ρ1 H1 _ (Ext.refl _ _ _) R1 rfl⟩
      | _ => exact p1.elim
theorem cutS_eq (s : Tx) (lo hi : Option Int) : cutS (toS s) lo hi = toS (cut s lo hi) := by
  unfold cutS toS cut
  first | rfl | simp
theorem sl_ok (o : Okx S sc N lev E X) : SlR X (fun x lo hi H Q => ∃ ρ G a, Rl S ρ G H ∧ VR S ρ G.length H a x ∧ Fin1 S ρ G.length H Q (opSl lo hi a G)) := by
  intro pins s σ H x v vl vu lo hi sl Q I rx hsl pl pu h
  obtain ⟨ρ, G, a, R, ra, p⟩ := h
  cases a with
  | tup xs =>
    unfold VR at ra
    obtain ⟨a1, zs, rfl, h1, h2⟩ := ra
    have p : Fin1 S ρ G.length H Q (some (.tup (cut xs lo hi), G)) := p
    refine sl_tupA pins s σ H _ v vl vu lo hi sl Q I rx hsl pl pu ⟨a1, zs, rfl, by rw [o.K]; exact h1, fun hw => ?_, fun _ q hq => p.tup R (vrs_cut h2 lo hi) hq⟩
    refine p.old R ?_
    unfold VR
    refine ⟨a1, zs, rfl, h1, ?_⟩
    have e : cut xs lo hi = xs := by
      unfold cut
      rw [← h2.length, hw.1, hw.2, List.drop_zero, Nat.sub_zero, h2.length, List.take_length]
    rw [e]; exact h2
  | str t =>
    unfold VR at ra; subst ra
    have p : Fin1 S ρ G.length H Q (if t.length ≤ sizeLine then some (.str (cut t lo hi), G) else none) := p
    split at p
    · rename_i hz
      refine sl_str pins s σ H _ v vl vu lo hi sl Q I rx hsl pl pu ⟨toS t, rfl, by rw [toS_len]; exact hz, p.old R ?_⟩
      unfold VR
      rw [cutS_eq]
    · exact (fin_no p).elim
  | ref m =>
    unfold VR at ra
    obtain ⟨hm, rfl⟩ := ra
    have p : Fin1 S ρ G.length H Q (slO G lo hi (lstO G[m]?)) := p
    cases hx : lstO G[m]? with
    | none => rw [hx] at p; exact (fin_no p).elim
    | some xs =>
      rw [hx] at p
      have p : Fin1 S ρ G.length H Q (some (.ref G.length, G ++ [.lst false (cut xs lo hi)])) := p
      obtain ⟨zs, h1, h2⟩ := lst_ok R hx
      exact sl_list pins s σ H _ v vl vu lo hi sl Q I rx hsl pl pu ⟨_, zs, rfl, by rw [o.K]; exact h1, fun q hq => p.lst R (vrs_cut h2 lo hi) hq⟩
  | _ => exact (fin_no p).elim
def kSl (a : CE S) (lo hi : Option (CE S)) (N : List Str) (sc : Scope) : Expr → Bool
  | .Subscript x (.Slice l u none _) _ => a.chk N sc x && (kPart lo N sc l && kPart hi N sc u)
  | _ => false
def eSl (a : CE S) (lo hi : Option (CE S)) : Lo → Gh → Res Va := fun L G => (a.ev L G).bind fun x G1 => (part lo L G1).bind fun l G2 => (part hi L G2).bind fun u G3 => lift (opSl l u x G3)
theorem cSl_pe (a : CE S) (lo hi : Option (CE S)) {sc : Scope} {N : List Str} {lev : Nat} {E : EW} {X : Cx} {e : Expr} (o : Okx S sc N lev E X) (h : kSl a lo hi N sc e = true) : PE X e (WE S E (eSl a lo hi)) := by
  unfold kSl at h
  split at h
  · simp only [Bool.and_eq_true] at h
    obtain ⟨h0, h1, h2⟩ := h
    obtain ⟨t1, P1, k1⟩ := part_po o h1
    obtain ⟨t2, P2, k2⟩ := part_po o h2
    refine pe_imp (pe_slice (sl_ok o) (a.pe o h0) P1 P2) fun σ H Q q => ?_
    obtain ⟨ρ, L, G, R, l, p⟩ := q
    refine ⟨ρ, L, G, R, l, Post.bind p fun v G1 ρ1 H1 x e1 R1 r1 p1 => ?_⟩
    refine k1 _ _ _ ⟨ρ1, L, G1, R1, l.mono e1, Post.bind p1 fun l1 G2 ρ2 H2 l1' e2 R2 r2 p2 => ?_⟩
    refine k2 _ _ _ ⟨ρ2, L, G2, R2, (l.mono e1).mono e2, Post.bind p2 fun l2 G3 ρ3 H3 l2' e3 R3 r3 p3 => ?_⟩
    cases r2; cases r3
    exact ⟨ρ3, G3, v, R3, (r1.mono e2).mono e3, fin_of_lift p3⟩
  · cases h
def cSl (a : CE S) (lo hi : Option (CE S)) : CE S := .plain (eSl a lo hi) (kSl a lo hi) (cSl_pe a lo hi) fun N sc e h => by cases e <;> first | exact ⟨rfl, rfl⟩ | cases h
end
end VM
namespace VM
open PySem PySem.Spec PyProof.Rows L2
section
variable {S : Sx} {sc : Scope} {N : List Str} {lev : Nat} {E : EW} {X : Cx} {ρ : Nat → Addr} {G : Gh} {H : Hp} {n : Nat}
/-! ### o.f -/
theorem fr_get (g : ∀ i j, i < S.nn → j < S.nn → S.nm i = S.nm j → i = j) {f : Nat} (hf : f < S.nn) : ∀ {fs : List (Nat × Va)} {gs : List (Str × V)}, FR S ρ n H fs gs → (fs.lookup f = none ∧ gs.lookup (S.nm f) = none) ∨ ∃ x v, fs.lookup f = some x ∧ gs.lookup (S.nm f) = some v ∧ VR S ρ n H x v ∧ ∃ y, (f, y) ∈ fs
  | [], _, h => by cases h; exact .inl ⟨rfl, rfl⟩
  | (k, x) :: fs, _, h => by
    obtain ⟨y, r, rfl, h1, h2, h3⟩ := h
    by_cases q : f = k
    · subst q
      refine .inr ⟨x, y, ?_, ?_, h2, x, List.mem_cons_self⟩
      · simp [List.lookup]
      · simp [List.lookup]
    · have e1 : (f == k) = false := by simpa using q
      have e2 : (S.nm f == S.nm k) = false := by
        simp only [beq_eq_false_iff_ne, ne_eq]
        exact fun z => q (g f k hf h1 z)
      have l1 : List.lookup f ((k, x) :: fs) = fs.lookup f := by simp only [List.lookup, e1]
      have l2 : List.lookup (S.nm f) ((S.nm k, y) :: r) = r.lookup (S.nm f) := by simp only [List.lookup, e2]
      rw [l1, l2]
      rcases fr_get g hf h3 with z | ⟨x', v', z1, z2, z3, y', z4⟩
      · exact .inl z
      · exact .inr ⟨x', v', z1, z2, z3, y', List.mem_cons_of_mem _ z4⟩
def okR (G : Gh) : Option Va → Res Va
  | some v => .ok v G
  | none => .no
def attI (S : Sx) (c f : Nat) (G : Gh) : Option Va → Res Va
  | some v => .ok v G
  | none => okR G ((S.cd c).con f)
def attO (S : Sx) (f : Nat) (G : Gh) : Option VO → Res Va
  | some (.ins c fs) => attI S c f G (fs.lookup f)
  | _ => .no
def attV (S : Sx) (f : Nat) : Va → Gh → Res Va
  | .ref n, G => attO S f G G[n]?
  | _, _ => .no
def kAtt (S : Sx) (a : CE S) (f : Nat) (N : List Str) (sc : Scope) : Expr → Bool
  | .Attribute x y _ => decide (f < S.nn) && (decide (S.nm f = y) && (!isSuper x && a.chk N sc x))
  | _ => false
theorem cAtt_pe (a : CE S) (f : Nat) {e : Expr} (o : Okx S sc N lev E X) (h : kAtt S a f N sc e = true) : PE X e (WE S E fun L G => (a.ev L G).bind (attV S f)) := by
  unfold kAtt at h
  split at h
  · simp only [Bool.and_eq_true, decide_eq_true_eq, Bool.not_eq_true'] at h
    obtain ⟨hf, rfl, h0, h1⟩ := h
    refine ⟨fun pins s σ H Q I q => ?_⟩
    obtain ⟨ρ, L, G, R, l, p⟩ := q
    refine attr_of (base_plain h0) (thn ((a.pe o h1).run pins s σ H (fun x H1 => ∃ ρ G v, Rl S ρ G H1 ∧ VR S ρ G.length H1 v x ∧ Post S (VR S) (E σ) ρ G.length H1 Q (attV S f v G)) I ⟨ρ, L, G, R, l, Post.bind p fun v G1 ρ1 H1 x e1 R1 r1 p1 => ⟨ρ1, G1, v, R1, r1, p1⟩⟩) fun u s1 hh => ?_)
    obtain ⟨x, H1, I1, rx, ρ1, G1, v, R1, r1, p1⟩ := hh
    cases v with
    | ref m =>
      unfold VR at r1
      obtain ⟨hm, rfl⟩ := r1
      cases (show u = Value.ref (ρ1 m) from rx)
      have p1 : Post S (VR S) (E σ) ρ1 G1.length H1 Q (attO S f G1 G1[m]?) := p1
      obtain ⟨w, hw⟩ : ∃ w, G1[m]? = some w := ⟨G1[m], by simp [hm]⟩
      have ob := R1.ob m w hw
      rw [hw] at p1
      cases w with
      | ins c fs =>
        obtain ⟨dx, gs, k1, k2, k3, k5, k4⟩ := ob
        have C := o.good.cls c k5
        have p1 : Post S (VR S) (E σ) ρ1 G1.length H1 Q (attI S c f G1 (fs.lookup f)) := p1
        rcases fr_get o.good.nmi hf k2 with ⟨z1, z2⟩ | ⟨y, v', z1, z2, z3, y', z4⟩
        · rw [z1] at p1
          have p1 : Post S (VR S) (E σ) ρ1 G1.length H1 Q (okR G1 ((S.cd c).con f)) := p1
          cases hc : (S.cd c).con f with
          | none => rw [hc] at p1; exact p1.elim
          | some v0 =>
            rw [hc] at p1
            obtain ⟨v', u', c1, c2⟩ := C.co f v0 hc
            exact getcon_ok (v := v') I1 k1 (by rw [o.K]; exact C.cl) (by rw [o.K]; exact c1) z2 fun s2 I2 => ⟨v', H1, I2, c1.rel, p1 ρ1 H1 v' (Ext.refl _ _ _) R1 (c2 _ _ _)⟩
        · rw [z1] at p1
          exact getattr_ok I1 k1 (by rw [o.K]; exact C.cl) (by rw [o.K]; exact C.nf f (k4 _ z4)) z2 fun u' s2 I2 ru => ⟨v', H1, I2, ru, p1 ρ1 H1 v' (Ext.refl _ _ _) R1 z3⟩
      | _ => exact p1.elim
    | _ => exact p1.elim
  · cases h
def cAtt (a : CE S) (f : Nat) : CE S := .plain (fun L G => (a.ev L G).bind (attV S f)) (kAtt S a f) (cAtt_pe a f) fun N sc e h => by cases e <;> first | exact ⟨rfl, rfl⟩ | cases h
/-! ### calls -/
/-- the arguments of a plain call, then the call -/
theorem call_with {es : List Expr} (args : CA S) (o : Okx S sc N lev E X) (hp : args.pl = true) (h : args.chk N sc es = true) {f : Value} {first : List Value} {pos : Pos} (hk : PySem.W.keepIn S.K f = true) {pins : List (Addr × Obj)} {s : Shared} {σ : L2.St} {H : Hp} {Q : VK}
    (I : Inv X pins σ H s) {R : List V → Hp → Prop} (ha : WA S E args.ev σ H R) (hc : ∀ us s1 vs H1, Inv X pins σ H1 s1 → Vals vs us → R vs H1 → wpAny (model X.prog X.w) X.A (call f (first ++ us)) (EP X pins σ Q) X.xe s1) :
    wpAny (model X.prog X.w) X.A (callWith pos f first (backTo pos (starEach es X.env)) (backToKw pos (keywordEach [] X.env))) (EP X pins σ Q) X.xe s := by
  have hk' : PySem.W.keepIn X.K f = true := by rw [o.K]; exact hk
  have run := (args.pa o h).run pos pins s σ H R I ha
  cases es with
  | nil =>
    refine fun Γ p hΓ => ?_
    obtain ⟨vs, H1, I1, r1, q1⟩ : AP X pins σ R [] s := run Γ p hΓ
    exact (PySem.W.callWith_K0 I.kIn hk' (hc [] s vs H1 I1 r1 q1)) Γ p hΓ
  | cons e es =>
    have hs := args.ns hp h
    obtain ⟨h1, h2⟩ := noStars_cons hs
    exact PySem.W.callWith_K (h₀ := X.base) I.ok.mod.kin hk' (thn run fun us s1 ⟨vs, H1, I1, r1, q1⟩ => ⟨I1.kIn, hc us s1 vs H1 I1 r1 q1⟩) (starEach_cons h1) (backTo_plain h2)
/-- a call of one of the text's defs -/
def eCall (k : Nat) (args : CA S) : Lo → Gh → Res Va := fun L G => (args.ev L G).bind (S.call k)
def kCall (S : Sx) (k : Nat) (args : CA S) (N : List Str) (sc : Scope) : Expr → Bool
  | .Call (.Name x _) es [] _ => decide ((x, k) ∈ S.fg) && (scIs sc x .globalImplicit && (!(x == ("__debug__" : Str)) && (args.pl && args.chk N sc es)))
  | _ => false
theorem cCall_pe (k : Nat) (args : CA S) {e : Expr} (o : Okx S sc N lev E X) (h : kCall S k args N sc e = true) : PE X e (WE S E (eCall k args)) := by
  unfold kCall at h
  split at h
  · simp only [Bool.and_eq_true, decide_eq_true_eq, Bool.not_eq_true'] at h
    obtain ⟨h1, h2, h3, h4, h5⟩ := h
    obtain ⟨hk, hm⟩ := o.good.fg _ h1
    refine ⟨fun pins s σ H Q I q => ?_⟩
    obtain ⟨ρ, L, G, R, l, p⟩ := q
    refine wpAny_Call_Name_kw (ld_glob I (o.gl h2) (by rw [o.mg]; exact hm) ?_ h3)
    refine call_with args o h4 h5 (o.good.fn k hk).1 I (R := fun vs H1 => ∃ ρ G as, Rl S ρ G H1 ∧ VRs S ρ G.length H1 as vs ∧ Post S (VR S) (E σ) ρ G.length H1 Q (S.call k as G)) ⟨ρ, L, G, R, l, Post.bind p fun as G1 ρ1 H1 xs e1 R1 r1 p1 => ⟨ρ1, G1, as, R1, r1, p1⟩⟩ fun us s1 vs H1 I1 r1 q1 => ?_
    exact o.run hk I1 r1 q1
  · cases h
def isCallE : Expr → Bool
  | .Call .. => true
  | _ => false
def cCall (k : Nat) (args : CA S) : CE S := .plain (eCall k args) (kCall S k args) (cCall_pe k args) fun N sc e h => by cases e <;> first | exact ⟨rfl, rfl⟩ | cases h
/-- C(..): a new instance, then its __init__ -/
def newB (n : Nat) : Va → Gh → Res Va
  | .non, G => .ok (.ref n) G
  | _, _ => .no
def newI (S : Sx) (c : Nat) (vs : List Va) (G : Gh) : Option Nat → Res Va
  | some k => (S.call k (.ref G.length :: vs) (G ++ [.ins c []])).bind (newB G.length)
  | none => .no
def newV (S : Sx) (c : Nat) (vs : List Va) (G : Gh) : Res Va := newI S c vs G (S.cd c).init
theorem Rl.made {c : Nat} {x dx : Addr} (R : Rl S ρ G H) (hx : H x = none) (hdx : H dx = none) (ne : dx ≠ x) (hc : c < S.nc) :
    Rl S (put ρ G.length x) (G ++ [.ins c []]) (upd (upd H dx (.own x)) x (.ins (S.ca c) dx [])) ∧ Ext ρ G.length H (put ρ G.length x) (G ++ [VO.ins c []]).length (upd (upd H dx (.own x)) x (.ins (S.ca c) dx [])) := by
  have hx1 : (upd H dx (.own x)) x = none := by rw [upd_ne (Ne.symm ne)]; exact hx
  have e1 : Ext ρ G.length H ρ G.length (upd H dx (.own x)) := Ext.new hdx
  have R1 : Rl S ρ G (upd H dx (.own x)) := R.new hdx
  have e2 : Ext ρ G.length (upd H dx (.own x)) (put ρ G.length x) (G.length + 1) (upd (upd H dx (.own x)) x (.ins (S.ca c) dx [])) := Ext.newO hx1
  have el : (G ++ [VO.ins c []]).length = G.length + 1 := by simp
  refine ⟨R1.push e2 (fun a u h => by rw [upd_ne (ne_of_none h hx1)]; exact h) hx1 ⟨dx, [], upd_same, rfl, Nat.zero_le _, hc, fun p hp => absurd hp (by simp)⟩, ?_⟩
  rw [el]
  exact e1.trans e2
theorem run_new (o : Okx S sc N lev E X) {c k : Nat} (hc : c < S.nc) (hi : (S.cd c).init = some k) {pins : List (Addr × Obj)} {s : Shared} {σ : L2.St} {H : Hp} {Q : VK} {us : List Value} {vs : List V} (I : Inv X pins σ H s) (r : Vals vs us)
    (h : ∃ ρ G as, Rl S ρ G H ∧ VRs S ρ G.length H as vs ∧ Post S (VR S) (E σ) ρ G.length H Q (newV S c as G)) : wpAny (model X.prog X.w) X.A (call (.ref (S.ca c)) us) (EP X pins σ Q) X.xe s := by
  obtain ⟨ρ, G, as, R, va, p⟩ := h
  have C := o.good.cls c hc
  obtain ⟨hk, M⟩ := C.mak k hi
  obtain ⟨_, fd, ps, F, b, ha⟩ := o.good.fn k hk
  have p : Post S (VR S) (E σ) ρ G.length H Q ((S.call k (.ref G.length :: as) (G ++ [.ins c []])).bind (newB G.length)) := by
    have p := p
    unfold newV at p
    rw [hi] at p
    exact p
  have hl : (Va.ref G.length :: as).length = ps.length := by
    by_cases z : (Va.ref G.length :: as).length = ps.length
    · exact z
    · rw [ha _ _ z] at p; exact p.elim
  obtain ⟨x, hxe⟩ : ∃ x, x = s.heap.objs.size + 1 := ⟨_, rfl⟩
  obtain ⟨dx, hde⟩ : ∃ dx, dx = s.heap.objs.size := ⟨_, rfl⟩
  have hx : H x = none := by rw [hxe]; exact I.hok.fresh (Nat.le_succ _)
  have hdx : H dx = none := by rw [hde]; exact I.hok.fresh (Nat.le_refl _)
  have ne : dx ≠ x := by rw [hxe, hde]; exact Nat.ne_of_lt (Nat.lt_succ_self _)
  have I2 := Inv.made (C := S.ca c) I
  rw [← hxe, ← hde] at I2
  obtain ⟨R2, e2⟩ := R.made hx hdx ne hc
  have el : (G ++ [VO.ins c []]).length = G.length + 1 := by simp
  have hq : spV S k ps.length (V.ref x :: vs) (upd (upd H dx (.own x)) x (.ins (S.ca c) dx [])) (fun v H2 => v = .non ∧ Q (.ref x) H2) (E σ) := by
    refine ⟨put ρ G.length x, G ++ [.ins c []], .ref G.length :: as, R2, VRs.cons (by unfold VR; exact ⟨by rw [el]; exact Nat.lt_succ_self _, by rw [put_same]⟩) (va.mono e2), hl, ?_⟩
    refine Post.bind (Post.after p e2) fun a1 G1 ρ1 H1 v1 e1 R1 r1 p1 => ?_
    cases a1 with
    | non =>
      unfold VR at r1; subst r1
      refine ⟨rfl, p1 ρ1 H1 _ (Ext.refl _ _ _) R1 ?_⟩
      unfold VR
      have hlt : G.length < (G ++ [VO.ins c []]).length := by rw [el]; exact Nat.lt_succ_self _
      exact ⟨Nat.lt_of_lt_of_le hlt e1.le, by rw [e1.eq _ hlt, put_same]⟩
    | _ => exact p1.elim
  have r2 : Vals (V.ref x :: vs) (Value.ref x :: us) := .cons rfl r
  have hl2 : (Value.ref x :: us).length = ps.length := by
    rw [← r2.length, ← hl]
    have := va.length
    simp only [List.length_cons]; omega
  have F' : FnOk X.prog X.w X.K X.mg X.base (CX S.P S.w) lev (S.fa k) fd ps (spV S k ps.length) := by rw [o.P, o.w, o.K, o.mg, o.base]; exact F
  have b' : Binds X.K fd ps [] := by rw [o.K]; exact b
  have M' : Mk X.K (S.ca c) (S.fa k) := by rw [o.K]; exact M
  refine wpAny_call (make_map (f := S.fa k) I.kIn M'.makes M'.init (beq_iff_eq.mp M'.fn) ?_)
  rw [← hxe, ← hde]
  have bb := b' _ (Value.ref x :: us) I2.kIn (by rw [List.append_nil]; exact hl2)
  rw [List.append_nil] at bb
  refine codeAny_mono (F'.run _ X.stack _ _ ⟨Value.ref x :: us, []⟩ (Value.ref x :: us) _ _ (E σ) ((o.room.mono (Nat.le_succ _)).make (S.ca c) us []) (I2.env0.make (S.ca c) us []) bb r2 hq) fun r s' hq' => ?_
  cases r with
  | error e => exact o.pass σ pins _ _ e s' I2 (by rw [← o.P, ← o.w] at hq'; rw [← o.P, ← o.w]; exact hq')
  | ok fl =>
    cases fl with
    | ret u =>
      obtain ⟨v, H', I3, rv, ev, q3⟩ := I2.after hq'
      subst ev
      exact ⟨rv, ⟨V.ref x, H', I3, rfl, q3⟩⟩
    | next => exact False.elim hq'
    | brk => exact False.elim hq'
    | cont => exact False.elim hq'
def eNew (c : Nat) (args : CA S) : Lo → Gh → Res Va := fun L G => (args.ev L G).bind (newV S c)
def kNew (S : Sx) (c : Nat) (args : CA S) (N : List Str) (sc : Scope) : Expr → Bool
  | .Call (.Name x _) es [] _ => decide ((x, c) ∈ S.cg) && ((S.cd c).init.isSome && (scIs sc x .globalImplicit && (!(x == ("__debug__" : Str)) && (args.pl && args.chk N sc es))))
  | _ => false
theorem cNew_pe (c : Nat) (args : CA S) {e : Expr} (o : Okx S sc N lev E X) (h : kNew S c args N sc e = true) : PE X e (WE S E (eNew c args)) := by
  unfold kNew at h
  split at h
  · simp only [Bool.and_eq_true, decide_eq_true_eq, Bool.not_eq_true'] at h
    obtain ⟨h1, h0, h2, h3, h4, h5⟩ := h
    obtain ⟨k, hi⟩ := Option.isSome_iff_exists.mp h0
    obtain ⟨hc, hm, hkp⟩ := o.good.cg _ h1
    refine ⟨fun pins s σ H Q I q => ?_⟩
    obtain ⟨ρ, L, G, R, l, p⟩ := q
    refine wpAny_Call_Name_kw (ld_glob I (o.gl h2) (by rw [o.mg]; exact hm) ?_ h3)
    refine call_with args o h4 h5 hkp I (R := fun vs H1 => ∃ ρ G as, Rl S ρ G H1 ∧ VRs S ρ G.length H1 as vs ∧ Post S (VR S) (E σ) ρ G.length H1 Q (newV S c as G)) ⟨ρ, L, G, R, l, Post.bind p fun as G1 ρ1 H1 xs e1 R1 r1 p1 => ⟨ρ1, G1, as, R1, r1, p1⟩⟩ fun us s1 vs H1 I1 r1 q1 => ?_
    exact run_new o hc hi I1 r1 q1
  · cases h
def cNew (c : Nat) (args : CA S) : CE S := .plain (eNew c args) (kNew S c args) (cNew_pe c args) fun N sc e h => by cases e <;> first | exact ⟨rfl, rfl⟩ | cases h
/-- o.m(..) of one of the text's classes -/
def mthI (G : Gh) : Option Nat → Res Nat
  | some k => .ok k G
  | none => .no
def mthO (S : Sx) (m : Nat) (G : Gh) : Option VO → Res Nat
  | some (.ins c _) => mthI G ((S.cd c).mth m)
  | _ => .no
def mthR (S : Sx) (m : Nat) : Va → Gh → Res Nat
  | .ref n, G => mthO S m G G[n]?
  | _, _ => .no
def eMth (m : Nat) (a : CE S) (args : CA S) : Lo → Gh → Res Va := fun L G => (a.ev L G).bind fun v G1 => (mthR S m v G1).bind fun k G1 => (args.ev L G1).bind fun vs G2 => S.call k (v :: vs) G2
def kMth (S : Sx) (m : Nat) (a : CE S) (args : CA S) (N : List Str) (sc : Scope) : Expr → Bool
  | .Call (.Attribute x y ap) es [] pos => decide (S.nm m = y) && (decide (es.length < 30) && (decide (ap.endLine = pos.line) && (!isSuper x && (args.pl && (args.chk N sc es && a.chk N sc x)))))
  | _ => false
theorem any_back {pos : Pos} {env : Env} {es : List Expr} (h : noStars es = true) : ((backTo pos (starEach es env)).all fun x => !x.1) = true := by
  have q := backTo_plain (pos := pos) (env := env) h
  rw [List.any_eq_false] at q
  rw [List.all_eq_true]
  intro x hx
  have := q x hx
  simpa using this
theorem eval_meth {x : Expr} {m : Str} {ap pos : Pos} {es : List Expr} {env : Env} (hs : isSuper x = false) (hn : noStars es = true) (hl : es.length < 30) (hp : ap.endLine = pos.line) : eval (.Call (.Attribute x m ap) es [] pos) env = (do
      let ov ← eval x env
      standAt ap.atName
      let (f, first) ← holding [ov] (getMethod ov m (do return (← importBound x env).getD true))
      callWith pos f first (backTo pos (starEach es env)) (backToKw pos (keywordEach [] env))) := by
  have hf : methodCallForm (es.length + ([] : List Keyword).length) (backTo pos (starEach es env)) (backToKw pos (keywordEach [] env)) = true := by
    unfold methodCallForm
    rw [any_back hn]
    simp [keywordEach, backToKw]
    exact hl
  rw [arm_eval_Call, base_plain hs]
  unfold methodCall
  rw [hf]
  have e2 : ∀ o, methodCallPos true o env ap pos = pure pos := fun o => by
    unfold methodCallPos
    rw [hp]
    simp
  simp only [e2, calleeOf, if_true, pure_bind]
theorem cMth_pe (m : Nat) (a : CE S) (args : CA S) {e : Expr} (o : Okx S sc N lev E X) (h : kMth S m a args N sc e = true) : PE X e (WE S E (eMth m a args)) := by
  unfold kMth at h
  split at h
  · simp only [Bool.and_eq_true, decide_eq_true_eq, Bool.not_eq_true'] at h
    obtain ⟨rfl, hl, hp, h0, h4, h5, h1⟩ := h
    have hns := args.ns h4 h5
    refine ⟨fun pins s σ H Q I q => ?_⟩
    obtain ⟨ρ, L, G, R, l, p⟩ := q
    refine PySem.W.methodCall_KW (thn ((a.pe o h1).run pins s σ H (fun x H1 => ∃ ρ G v, Rl S ρ G H1 ∧ LR S ρ G.length H1 L σ ∧ VR S ρ G.length H1 v x ∧ Post S (VR S) (E σ) ρ G.length H1 Q ((mthR S m v G).bind fun k G1 => (args.ev L G1).bind fun vs G2 => S.call k (v :: vs) G2)) I ⟨ρ, L, G, R, l, Post.bind p fun v G1 ρ1 H1 x e1 R1 r1 p1 => ⟨ρ1, G1, v, R1, l.mono e1, r1, p1⟩⟩) fun u s1 hh => ?_) (eval_meth h0 hns hl hp)
    obtain ⟨x, H1, I1, rx, ρ1, G1, v, R1, l1, r1, p1⟩ := hh
    cases v with
    | ref i =>
      have r0 := r1
      unfold VR at r1
      obtain ⟨hi, rfl⟩ := r1
      cases (show u = Value.ref (ρ1 i) from rx)
      obtain ⟨w, hw⟩ : ∃ w, G1[i]? = some w := ⟨G1[i], by simp [hi]⟩
      have ob := R1.ob i w hw
      have p1 : Post S (VR S) (E σ) ρ1 G1.length H1 Q ((mthO S m G1 G1[i]?).bind fun k G1 => (args.ev L G1).bind fun vs G2 => S.call k (.ref i :: vs) G2) := p1
      rw [hw] at p1
      cases w with
      | ins c fs =>
        obtain ⟨dx, gs, k1, k2, k3, k5, k4⟩ := ob
        have C := o.good.cls c k5
        cases hm : (S.cd c).mth m with
        | none =>
          have z : mthO S m G1 (some (VO.ins c fs)) = .no := by show mthI G1 ((S.cd c).mth m) = _; rw [hm]; rfl
          rw [z] at p1; exact p1.elim
        | some k =>
          have z : mthO S m G1 (some (VO.ins c fs)) = .ok k G1 := by show mthI G1 ((S.cd c).mth m) = _; rw [hm]; rfl
          rw [z] at p1
          obtain ⟨hk, M⟩ := C.mt m k hm
          have lk : gs.lookup (S.nm m) = none := by
            cases e : gs.lookup (S.nm m) with
            | none => rfl
            | some v' =>
              exfalso
              have key : ∀ {fs : List (Nat × Va)} {gs : List (Str × V)}, FR S ρ1 G1.length H1 fs gs → gs.lookup (S.nm m) = some v' → ∃ f y, (f, y) ∈ fs ∧ S.nm f = S.nm m := by
                intro fs
                induction fs with
                | nil => intro gs h e; cases h; cases e
                | cons q fs ih =>
                  intro gs h e
                  obtain ⟨f, y0⟩ := q
                  obtain ⟨y, r, rfl, _, _, h3⟩ := h
                  by_cases q : S.nm f = S.nm m
                  · exact ⟨f, y0, List.mem_cons_self, q⟩
                  · have e2 : (S.nm m == S.nm f) = false := by simpa [beq_eq_false_iff_ne] using fun z => q z.symm
                    simp only [List.lookup, e2] at e
                    obtain ⟨f', y', a1, a2⟩ := ih h3 e
                    exact ⟨f', y', List.mem_cons_of_mem _ a1, a2⟩
              obtain ⟨f, y, a1, a2⟩ := key k2 e
              have nf := C.nf f (k4 _ a1)
              have mt := M.at_
              unfold NoAttr at nf
              rw [a2, mt] at nf
              cases nf
          refine getmeth_ok I1 k1 (by rw [o.K]; exact C.cl) (by rw [o.K]; exact M) lk ?_
          refine call_with (first := [.ref (ρ1 i)]) args o h4 h5 (o.good.fn k hk).1 I1 (R := fun vs H2 => ∃ ρ G as, Rl S ρ G H2 ∧ VRs S ρ G.length H2 as (V.ref (ρ1 i) :: vs) ∧ Post S (VR S) (E σ) ρ G.length H2 Q (S.call k as G)) ⟨ρ1, L, G1, R1, l1, Post.bind (r := args.ev L G1) p1 fun as G2 ρ2 H2 xs e2 R2 r2 p2 => ⟨ρ2, G2, .ref i :: as, R2, VRs.cons (r0.mono e2) r2, p2⟩⟩ fun us s2 vs H2 I2 r2 q2 => ?_
          exact o.run (us := .ref (ρ1 i) :: us) (vs := .ref (ρ1 i) :: vs) hk I2 (.cons rfl r2) q2
      | _ => exact p1.elim
    | _ => exact p1.elim
  · cases h
def cMth (m : Nat) (a : CE S) (args : CA S) : CE S := .plain (eMth m a args) (kMth S m a args) (cMth_pe m a args) fun N sc e h => by cases e <;> first | exact ⟨rfl, rfl⟩ | cases h
end
end VM
namespace VM
open PySem PySem.Spec PyProof.Rows L2
section
variable {S : Sx} {sc : Scope} {N : List Str} {lev : Nat} {E : EW} {X : Cx} {ρ : Nat → Addr} {G : Gh} {H : Hp} {n : Nat}
theorem VRs.cons_inv {x : Va} {xs : List Va} {zs : List V} (h : VRs S ρ n H (x :: xs) zs) : ∃ y ys, zs = y :: ys ∧ VR S ρ n H x y ∧ VRs S ρ n H xs ys := by
  unfold VRs at h; exact h
theorem VRs.one {x : Va} {zs : List V} (h : VRs S ρ n H [x] zs) : ∃ y, zs = [y] ∧ VR S ρ n H x y := by
  obtain ⟨y, ys, rfl, h1, h2⟩ := h.cons_inv
  unfold VRs at h2; subst h2
  exact ⟨y, rfl, h1⟩
theorem VRs.two {x x' : Va} {zs : List V} (h : VRs S ρ n H [x, x'] zs) : ∃ y y', zs = [y, y'] ∧ VR S ρ n H x y ∧ VR S ρ n H x' y' := by
  obtain ⟨y, ys, rfl, h1, h2⟩ := h.cons_inv
  obtain ⟨y', rfl, h3⟩ := h2.one
  exact ⟨y, y', rfl, h1, h3⟩
theorem Fin1.no {Q : VK} (h : Fin1 S ρ n H Q none) : False := by
  obtain ⟨a, b, e, _⟩ := h; cases e
theorem vr_int {i : Int} {x : V} (h : VR S ρ n H (.int i) x) : x = .int i := by unfold VR at h; exact h
theorem vr_bl {i : Bool} {x : V} (h : VR S ρ n H (.bl i) x) : x = .bl i := by unfold VR at h; exact h
theorem vr_str {i : Tx} {x : V} (h : VR S ρ n H (.str i) x) : x = .str (toS i) := by unfold VR at h; exact h
theorem vr_int' {i : Int} : VR S ρ n H (.int i) (.int i) := by unfold VR; rfl
theorem vr_bl' {i : Bool} : VR S ρ n H (.bl i) (.bl i) := by unfold VR; rfl
theorem vr_str' {i : Tx} : VR S ρ n H (.str i) (.str (toS i)) := by unfold VR; rfl
theorem vr_non' : VR S ρ n H .non .non := by unfold VR; rfl
/-- operations of one argument -/
def on1 (f : Va → Gh → Option (Va × Gh)) : OpN
  | [v], G => f v G
  | _, _ => none
def on2 (f : Va → Va → Gh → Option (Va × Gh)) : OpN
  | [v, w], G => f v w G
  | _, _ => none
def orN (f g : OpN) : OpN := fun vs G => match f vs G with
  | some r => some r
  | none => g vs G
theorem crOr {f : Value} {a b : OpN} (ha : CallR X f (rON S a)) (hb : CallR X f (rON S b)) : CallR X f (rON S (orN a b)) := by
  intro pins s σ H xs us Q I r h
  obtain ⟨ρ, G, as, R, va, p⟩ := h
  unfold orN at p
  cases e : a as G with
  | some z =>
    refine ha pins s σ H xs us Q I r ⟨ρ, G, as, R, va, ?_⟩
    simp only [e] at p
    rw [e]; exact p
  | none =>
    refine hb pins s σ H xs us Q I r ⟨ρ, G, as, R, va, ?_⟩
    simp only [e] at p
    exact p
theorem cr1 {f : Value} {op : Op1} (h : ∀ (pins : List (Addr × Obj)) (s : Shared) (σ : L2.St) (H : Hp) (x : V) (u : Value) (Q : VK) ρ G v, Inv X pins σ H s → RelV x u → Rl S ρ G H → VR S ρ G.length H v x → Fin1 S ρ G.length H Q (op v G) → wpAny (model X.prog X.w) X.A (call f [u]) (EP X pins σ Q) X.xe s) : CallR X f (rON S (on1 op)) := by
  intro pins s σ H xs us Q I r hh
  obtain ⟨ρ, G, as, R, va, p⟩ := hh
  cases as with
  | nil => exact p.no.elim
  | cons v as =>
    cases as with
    | cons w as => exact p.no.elim
    | nil =>
      obtain ⟨x, rfl, r1⟩ := va.one
      obtain ⟨u, rfl, ru⟩ := vals1 r
      exact h pins s σ H x u Q ρ G v I ru R r1 p
theorem cr2 {f : Value} {op : Op2} (h : ∀ (pins : List (Addr × Obj)) (s : Shared) (σ : L2.St) (H : Hp) (x y : V) (us : List Value) (Q : VK) ρ G v w, Inv X pins σ H s → Vals [x, y] us → Rl S ρ G H → VR S ρ G.length H v x → VR S ρ G.length H w y → Fin1 S ρ G.length H Q (op v w G) → wpAny (model X.prog X.w) X.A (call f us) (EP X pins σ Q) X.xe s) : CallR X f (rON S (on2 op)) := by
  intro pins s σ H xs us Q I r hh
  obtain ⟨ρ, G, as, R, va, p⟩ := hh
  cases as with
  | nil => exact p.no.elim
  | cons v as =>
    cases as with
    | nil => exact p.no.elim
    | cons w as =>
      cases as with
      | cons z as => exact p.no.elim
      | nil =>
        obtain ⟨x, y, rfl, r1, r2⟩ := va.two
        exact h pins s σ H x y us Q ρ G v w I r R r1 r2 p
/-! ### the built-in functions -/
def lenO : Option VO → Option Nat
  | some (.lst _ xs) => some xs.length
  | some (.dct false kvs) => some kvs.length
  | _ => none
def lenS (s : Tx) : Option Nat := if s.length ≤ sizeLine then some s.length else none
def lenV : Va → Gh → Option Nat
  | .str s, _ => lenS s
  | .tup xs, _ => some xs.length
  | .ref n, G => lenO G[n]?
  | _, _ => none
def lenF : Op1 := fun v G => (lenV v G).map fun (n : Nat) => (Va.int n, G)
/-- a list that is read -/
theorem rl_seq (R : Rl S ρ G H) {m : Nat} {fz : Bool} {xs : List Va} (hm : G[m]? = some (.lst fz xs)) : ∃ ys, SqL S.K H (ρ m) ys ∧ VRs S ρ G.length H xs ys := by
  have ob := R.ob m _ hm
  cases fz with
  | false =>
    obtain ⟨ys, h1, h2⟩ := ob
    exact ⟨ys, SqL.of h1, h2⟩
  | true =>
    obtain ⟨ys, h1, h2⟩ := ob
    exact ⟨ys, h1.elim (fun z => .inl (.inr z)) .inr, h2⟩
theorem vr_ref (h : VR S ρ n H (.ref m) x) : m < n ∧ x = .ref (ρ m) := by unfold VR at h; exact h
theorem vr_tup {xs : List Va} {x : V} (h : VR S ρ n H (.tup xs) x) : ∃ a ys, x = .ref a ∧ SqT S.K H a ys ∧ VRs S ρ n H xs ys := by unfold VR at h; exact h
theorem get_of {m : Nat} (h : m < G.length) : ∃ o, G[m]? = some o := ⟨G[m], by simp [h]⟩
theorem cr_lenF (o : Okx S sc N lev E X) : CallR X (.builtin "len") (rON S (on1 lenF)) := by
  refine cr1 fun pins s σ H x u Q ρ G v I ru R r p => ?_
  cases v with
  | str t =>
    obtain rfl := vr_str r
    have p : Fin1 S ρ G.length H Q ((lenS t).map fun (n : Nat) => (Va.int n, G)) := p
    unfold lenS at p
    by_cases hz : t.length ≤ sizeLine
    · rw [if_pos hz] at p
      refine call_len pins s σ H _ _ Q I (.cons ru .nil) ⟨.str (toS t), t.length, rfl, ⟨by rw [toS_len]; exact hz, (toS_len t).symm⟩, p.old R vr_int'⟩
    · rw [if_neg hz] at p; exact p.no.elim
  | tup xs =>
    obtain ⟨a, ys, rfl, h1, h2⟩ := vr_tup r
    refine call_len pins s σ H _ _ Q I (.cons ru .nil) ⟨_, ys.length, rfl, .inr ⟨ys, by rw [o.K]; exact h1, rfl⟩, ?_⟩
    rw [h2.length]
    exact p.old R vr_int'
  | ref m =>
    obtain ⟨hm, rfl⟩ := vr_ref r
    obtain ⟨w, hw⟩ := get_of hm
    have p : Fin1 S ρ G.length H Q ((lenO G[m]?).map fun (n : Nat) => (Va.int n, G)) := p
    rw [hw] at p
    cases w with
    | lst fz xs =>
      obtain ⟨ys, h1, h2⟩ := rl_seq R hw
      refine call_len pins s σ H _ _ Q I (.cons ru .nil) ⟨_, ys.length, rfl, .inl ⟨ys, by rw [o.K]; exact h1, rfl⟩, ?_⟩
      rw [h2.length]
      exact p.old R vr_int'
    | dct lk kvs =>
      cases lk with
      | true => exact p.no.elim
      | false =>
        obtain ⟨ks, h1, h2⟩ := R.ob m _ hw
        refine call_lenD pins s σ H _ _ Q I (.cons ru .nil) ⟨_, ks, rfl, h1, ?_⟩
        rw [h2.len]
        exact p.old R vr_int'
    | _ => exact p.no.elim
  | _ => exact p.no.elim
def absF : Op1
  | .int i, G => some (.int (if i < 0 then -i else i), G)
  | _, _ => none
theorem cr_absF (o : Okx S sc N lev E X) : CallR X (.builtin "abs") (rON S (on1 absF)) := by
  refine cr1 fun pins s σ H x u Q ρ G v I ru R r p => ?_
  cases v with
  | int i =>
    obtain rfl := vr_int r
    exact call_abs pins s σ H _ _ Q I (.cons ru .nil) ⟨i, rfl, p.old R vr_int'⟩
  | _ => exact p.no.elim
def intF : Op1
  | .int i, G => some (.int i, G)
  | .bl b, G => some (.int (if b then 1 else 0), G)
  | _, _ => none
theorem cr_intF (o : Okx S sc N lev E X) : CallR X (.type "int") (rON S (on1 intF)) := by
  refine cr1 fun pins s σ H x u Q ρ G v I ru R r p => ?_
  cases v with
  | int i =>
    obtain rfl := vr_int r
    exact call_int1 pins s σ H _ _ Q I (.cons ru .nil) (.inl ⟨i, rfl, p.old R vr_int'⟩)
  | bl i =>
    obtain rfl := vr_bl r
    exact call_int1 pins s σ H _ _ Q I (.cons ru .nil) (.inr ⟨i, rfl, p.old R vr_int'⟩)
  | _ => exact p.no.elim
def i2 (f : Int → Int → Int) : Op2
  | .int i, .int j, G => some (.int (f i j), G)
  | _, _, _ => none
theorem cr_i2 {f : Int → Int → Int} {u : Value} (h : CallR X u (fun xs H Q => ∃ i j, xs = [.int i, .int j] ∧ Q (.int (f i j)) H)) : CallR X u (rON S (on2 (i2 f))) := by
  refine cr2 fun pins s σ H x y us Q ρ G v w I ru R r1 r2 p => ?_
  cases v with
  | int i =>
    cases w with
    | int j =>
      obtain rfl := vr_int r1
      obtain rfl := vr_int r2
      exact h pins s σ H _ _ Q I ru ⟨i, j, rfl, p.old R vr_int'⟩
    | _ => exact p.no.elim
  | _ => exact p.no.elim
def imax (i j : Int) : Int := if j > i then j else i
def imin (i j : Int) : Int := if j < i then j else i
def igcd (a b : Int) : Int := ((Nat.gcd a.natAbs b.natAbs : Nat) : Int)
/-- a list's items, all ints; all bools -/
def intsV : List Va → Option (List Int)
  | [] => some []
  | .int i :: r => (intsV r).map (i :: ·)
  | _ :: _ => none
def blsV : List Va → Option (List Bool)
  | [] => some []
  | .bl i :: r => (blsV r).map (i :: ·)
  | _ :: _ => none
theorem intsV_ok : ∀ {xs : List Va} {is : List Int} {ys : List V}, intsV xs = some is → VRs S ρ n H xs ys → ys = is.map V.int
  | [], is, ys, h, r => by
    cases h
    unfold VRs at r; exact r
  | x :: xs, is, ys, h, r => by
    cases x with
    | int i =>
      obtain ⟨js, h1, rfl⟩ := Option.map_eq_some_iff.mp h
      obtain ⟨y, zs, rfl, h2, h3⟩ := r.cons_inv
      rw [vr_int h2, intsV_ok h1 h3]; rfl
    | _ => cases h
theorem blsV_ok : ∀ {xs : List Va} {is : List Bool} {ys : List V}, blsV xs = some is → VRs S ρ n H xs ys → ys = is.map V.bl
  | [], is, ys, h, r => by
    cases h
    unfold VRs at r; exact r
  | x :: xs, is, ys, h, r => by
    cases x with
    | bl i =>
      obtain ⟨js, h1, rfl⟩ := Option.map_eq_some_iff.mp h
      obtain ⟨y, zs, rfl, h2, h3⟩ := r.cons_inv
      rw [vr_bl h2, blsV_ok h1 h3]; rfl
    | _ => cases h
def lstOf : Option VO → Option (List Va)
  | some (.lst _ xs) => some xs
  | _ => none
def onL {α : Type} (g : List Va → Option α) (k : α → Option Va) : Op1
  | .ref n, G => (((lstOf G[n]?).bind g).bind k).map fun v => (v, G)
  | _, _ => none
theorem crL {α : Type} {g : List Va → Option α} {k : α → Option Va} {f : Value} (h : ∀ (pins : List (Addr × Obj)) (s : Shared) (σ : L2.St) (H : Hp) (a : Addr) (us : List Value) (Q : VK) xs ys ρ G z v, Inv X pins σ H s → Vals [.ref a] us → Rl S ρ G H → SqL S.K H a ys → VRs S ρ G.length H xs ys → g xs = some z → k z = some v → Fin1 S ρ G.length H Q (some (v, G)) → wpAny (model X.prog X.w) X.A (call f us) (EP X pins σ Q) X.xe s) : CallR X f (rON S (on1 (onL g k))) := by
  refine cr1 fun pins s σ H x u Q ρ G v I ru R r p => ?_
  cases v with
  | ref m =>
    obtain ⟨hm, rfl⟩ := vr_ref r
    obtain ⟨w, hw⟩ := get_of hm
    have p : Fin1 S ρ G.length H Q ((((lstOf G[m]?).bind g).bind k).map fun v => (v, G)) := p
    rw [hw] at p
    cases w with
    | lst fz xs =>
      obtain ⟨ys, h1, h2⟩ := rl_seq R hw
      have p : Fin1 S ρ G.length H Q (((g xs).bind k).map fun v => (v, G)) := p
      cases e1 : g xs with
      | none => rw [e1] at p; exact p.no.elim
      | some z =>
        rw [e1] at p
        have p : Fin1 S ρ G.length H Q ((k z).map fun v => (v, G)) := p
        cases e2 : k z with
        | none => rw [e2] at p; exact p.no.elim
        | some v =>
          rw [e2] at p
          exact h pins s σ H _ _ Q xs ys ρ G z v I (.cons ru .nil) R h1 h2 e1 e2 p
    | _ => exact p.no.elim
  | _ => exact p.no.elim
def sumF : Op1 := onL intsV fun is => some (.int is.sum)
theorem cr_sumF (o : Okx S sc N lev E X) : CallR X (.builtin "sum") (rON S (on1 sumF)) := by
  refine crL fun pins s σ H a us Q xs ys ρ G z v I ru R h1 h2 e1 e2 p => ?_
  cases e2
  rw [intsV_ok e1 h2] at h1
  exact cr_sum o.calm pins s σ H _ _ Q I ru ⟨a, z, rfl, by rw [o.K]; exact h1, p.old R vr_int'⟩
def anyF : Op1 := onL blsV fun is => some (.bl (is.any id))
theorem cr_anyF (o : Okx S sc N lev E X) : CallR X (.builtin "any") (rON S (on1 anyF)) := by
  refine crL fun pins s σ H a us Q xs ys ρ G z v I ru R h1 h2 e1 e2 p => ?_
  cases e2
  rw [blsV_ok e1 h2] at h1
  exact cr_any o.calm pins s σ H _ _ Q I ru ⟨a, z, rfl, by rw [o.K]; exact h1, p.old R vr_bl'⟩
def allF : Op1 := onL blsV fun is => some (.bl (is.all id))
theorem cr_allF (o : Okx S sc N lev E X) : CallR X (.builtin "all") (rON S (on1 allF)) := by
  refine crL fun pins s σ H a us Q xs ys ρ G z v I ru R h1 h2 e1 e2 p => ?_
  cases e2
  rw [blsV_ok e1 h2] at h1
  exact cr_all o.calm pins s σ H _ _ Q I ru ⟨a, z, rfl, by rw [o.K]; exact h1, p.old R vr_bl'⟩
def mxL : List Int → Option Va
  | [] => none
  | i :: r => some (.int (r.foldl imax i))
def mnL : List Int → Option Va
  | [] => none
  | i :: r => some (.int (r.foldl imin i))
theorem imax_ge (i j : Int) : i ≤ imax i j ∧ j ≤ imax i j ∧ (imax i j = i ∨ imax i j = j) := by
  unfold imax; split <;> omega
theorem imin_le (i j : Int) : imin i j ≤ i ∧ imin i j ≤ j ∧ (imin i j = i ∨ imin i j = j) := by
  unfold imin; split <;> omega
theorem fold_max : ∀ (r : List Int) (i : Int), (r.foldl imax i) ∈ i :: r ∧ ∀ y ∈ i :: r, y ≤ r.foldl imax i
  | [], i => ⟨by simp, by simp⟩
  | j :: r, i => by
    obtain ⟨h1, h2⟩ := fold_max r (imax i j)
    obtain ⟨a, b, c⟩ := imax_ge i j
    rw [List.foldl_cons]
    refine ⟨?_, fun y hy => ?_⟩
    · rcases List.mem_cons.mp h1 with q | q
      · rcases c with c | c <;> rw [q, c] <;> simp
      · exact List.mem_cons_of_mem _ (List.mem_cons_of_mem _ q)
    · have h3 := h2 (imax i j) List.mem_cons_self
      rcases List.mem_cons.mp hy with rfl | hy
      · omega
      · rcases List.mem_cons.mp hy with rfl | hy
        · omega
        · exact h2 y (List.mem_cons_of_mem _ hy)
theorem fold_min : ∀ (r : List Int) (i : Int), (r.foldl imin i) ∈ i :: r ∧ ∀ y ∈ i :: r, r.foldl imin i ≤ y
  | [], i => ⟨by simp, by simp⟩
  | j :: r, i => by
    obtain ⟨h1, h2⟩ := fold_min r (imin i j)
    obtain ⟨a, b, c⟩ := imin_le i j
    rw [List.foldl_cons]
    refine ⟨?_, fun y hy => ?_⟩
    · rcases List.mem_cons.mp h1 with q | q
      · rcases c with c | c <;> rw [q, c] <;> simp
      · exact List.mem_cons_of_mem _ (List.mem_cons_of_mem _ q)
    · have h3 := h2 (imin i j) List.mem_cons_self
      rcases List.mem_cons.mp hy with rfl | hy
      · omega
      · rcases List.mem_cons.mp hy with rfl | hy
        · omega
        · exact h2 y (List.mem_cons_of_mem _ hy)
theorem cr_mxL (o : Okx S sc N lev E X) : CallR X (.builtin "max") (rON S (on1 (onL intsV mxL))) := by
  refine crL fun pins s σ H a us Q xs ys ρ G z v I ru R h1 h2 e1 e2 p => ?_
  rw [intsV_ok e1 h2] at h1
  cases z with
  | nil => cases e2
  | cons i r =>
    cases e2
    obtain ⟨f1, f2⟩ := fold_max r i
    refine cr_max o.calm pins s σ H _ _ Q I ru ⟨a, i :: r, rfl, by rw [o.K]; exact h1, Nat.succ_pos _, fun m hm hy => ?_⟩
    have e : m = r.foldl imax i := Int.le_antisymm (f2 m hm) (hy _ f1)
    rw [e]
    exact p.old R vr_int'
theorem cr_mnL (o : Okx S sc N lev E X) : CallR X (.builtin "min") (rON S (on1 (onL intsV mnL))) := by
  refine crL fun pins s σ H a us Q xs ys ρ G z v I ru R h1 h2 e1 e2 p => ?_
  rw [intsV_ok e1 h2] at h1
  cases z with
  | nil => cases e2
  | cons i r =>
    cases e2
    obtain ⟨f1, f2⟩ := fold_min r i
    refine cr_min o.calm pins s σ H _ _ Q I ru ⟨a, i :: r, rfl, by rw [o.K]; exact h1, Nat.succ_pos _, fun m hm hy => ?_⟩
    have e : m = r.foldl imin i := Int.le_antisymm (hy _ f1) (f2 m hm)
    rw [e]
    exact p.old R vr_int'
def maxF : OpN := orN (on2 (i2 imax)) (on1 (onL intsV mxL))
def minF : OpN := orN (on2 (i2 imin)) (on1 (onL intsV mnL))
theorem cr_maxF (o : Okx S sc N lev E X) : CallR X (.builtin "max") (rON S maxF) := crOr (cr_i2 (f := imax) (call_max2 o.calm)) (cr_mxL o)
theorem cr_minF (o : Okx S sc N lev E X) : CallR X (.builtin "min") (rON S minF) := crOr (cr_i2 (f := imin) (call_min2 o.calm)) (cr_mnL o)
theorem cr_gcdF (o : Okx S sc N lev E X) : CallR X (.builtin "math.gcd") (rON S (on2 (i2 igcd))) := cr_i2 (f := igcd) cr_gcd
/-- list(x), tuple(x) of a list, a tuple -/
def listF : Op1 := fun v G => (seqO G v).map fun xs => (.ref G.length, G ++ [.lst false xs])
theorem cr_listF (o : Okx S sc N lev E X) : CallR X (.type "list") (rON S (on1 listF)) := by
  refine cr1 fun pins s σ H x u Q ρ G v I ru R r p => ?_
  unfold listF at p
  cases e : seqO G v with
  | none => rw [e] at p; exact p.no.elim
  | some xs =>
    rw [e] at p
    obtain ⟨a, ys, rfl, h1, h2⟩ := seq_ok R e r
    exact call_list_of pins s σ H _ _ Q I (.cons ru .nil) ⟨a, ys, rfl, by rw [o.K]; exact h1, fun l hl => p.lst R h2 hl⟩
def tupF : Op1
  | .tup xs, G => some (.tup xs, G)
  | .ref n, G => (lstOf G[n]?).map fun xs => (.tup xs, G)
  | _, _ => none
theorem cr_tupF (o : Okx S sc N lev E X) : CallR X (.type "tuple") (rON S (on1 tupF)) := by
  refine cr1 fun pins s σ H x u Q ρ G v I ru R r p => ?_
  cases v with
  | tup xs =>
    have r0 := r
    obtain ⟨a, ys, rfl, h1, h2⟩ := vr_tup r
    exact call_tuple_of pins s σ H _ _ Q I (.cons ru .nil) ⟨a, ys, rfl, .inr ⟨by rw [o.K]; exact h1, p.old R r0⟩⟩
  | ref m =>
    obtain ⟨hm, rfl⟩ := vr_ref r
    obtain ⟨w, hw⟩ := get_of hm
    have p : Fin1 S ρ G.length H Q ((lstOf G[m]?).map fun xs => (.tup xs, G)) := p
    rw [hw] at p
    cases w with
    | lst fz xs =>
      obtain ⟨ys, h1, h2⟩ := rl_seq R hw
      exact call_tuple_of pins s σ H _ _ Q I (.cons ru .nil) ⟨_, ys, rfl, .inl ⟨by rw [o.K]; exact h1, fun l hl => p.tup R h2 hl⟩⟩
    | _ => exact p.no.elim
  | _ => exact p.no.elim
def lstR1 (xs : List Va) : Op1 := fun _ G => some (.ref G.length, G ++ [.lst false xs])
/-- decimal signs -/
def itx (i : Int) : Tx := (toString i).toList.map Char.toNat
end
end VM
/-! VMk: calls of built-in functions, types -/
namespace VM
open PySem PySem.Spec PyProof.Rows L2
/-- bool.__new__ of anything: its truth -/
theorem meets_bool_any {prog : Program} {w : World} (x : Value) : MeetsIn prog w (Builtin.«bool.__new__» ⟨[.type "bool", x], []⟩) (fun A R s => wpAny (model prog w) A.in1 (truthy x) (fun b s' => R (.ok (.ret (.bool b))) s') (fun e s' => R (.error e) s') s) :=
  MeetsIn.of_wp fun A R s hs => by
    have f1 := F.conv_sub_bool
    repeat (any_goals (first | assumption | (with_reducible refine wpAny_mono hs (fun b s' hb => ?_) fun _ _ x => x) | wp_step))
    all_goals first | exact ⟨_, rfl, hs⟩ | exact ⟨_, rfl, hb⟩ | exact hs | skip
theorem call_bool_any {prog : Program} {w : World} {A : Around} {E : Value → Shared → Prop} {s : Shared} {x : Value} {Q : Value → Shared → Prop} (h : wpAny (model prog w) A.in1.in1 (truthy x) (fun b s' => Q (.bool b) s') E s) : wpAny (model prog w) A (call (.type "bool") [x]) Q E s :=
  callType_newIn F.called_bool F.newNe_bool (F.typeCall_bool_1 x) (F.newCall_bool_1 x) (fun obj => F.args_object_init_2 obj x) F.entry_bool_new (meets_bool_any x) (wpAny_mono h (fun b s' hb => ⟨rfl, hb⟩) fun _ _ y => y)
section
variable {S : Sx} {sc : Scope} {N : List Str} {lev : Nat} {E : EW} {X : Cx} {ρ : Nat → Addr} {G : Gh} {H : Hp} {n : Nat}
/-! ### a built-in function by its name -/
def isBiB (n : String) : Option Value → Bool
  | some (.builtin m) => decide (n = m)
  | _ => false
theorem isBiB_eq {n : String} {o : Option Value} (h : isBiB n o = true) : o = some (.builtin n) := by
  unfold isBiB at h
  split at h
  · rw [of_decide_eq_true h]
  · cases h
def bltN (S : Sx) (x : Str) (sc : Scope) : Bool := decide (x ∈ S.bl) && (scIs sc x .globalImplicit && (!(x == ("__debug__" : Str)) && !decide (x = "__name__")))
def kBi (S : Sx) (id : String) (args : CA S) (N : List Str) (sc : Scope) : Expr → Bool
  | .Call (.Name x _) (e :: es) [] _ => bltN S x sc && (isBiB id (bootBuiltins x) && (args.pl && args.chk N sc (e :: es)))
  | _ => false
def kBt (S : Sx) (id : String) (args : CA S) (N : List Str) (sc : Scope) : Expr → Bool
  | .Call (.Name x _) (e :: es) [] _ => bltN S x sc && (isTyB id (bootBuiltins x) && (args.pl && args.chk N sc (e :: es)))
  | _ => false
def kBg (S : Sx) (id : String) (args : CA S) (N : List Str) (sc : Scope) : Expr → Bool
  | .Call (.Name x _) (e :: es) [] _ => decide ((x, id) ∈ S.bg) && (scIs sc x .globalImplicit && (!(x == ("__debug__" : Str)) && (args.pl && args.chk N sc (e :: es))))
  | _ => false
def eBi (op : OpN) (args : CA S) : Lo → Gh → Res Va := fun L G => (args.ev L G).bind fun vs G1 => lift (op vs G1)
theorem bi_we (op : OpN) (args : CA S) {σ : L2.St} {H : Hp} {Q : VK} (q : WE S E (eBi op args) σ H Q) : tCB (rON S op) (WA S E args.ev) σ H Q := by
  obtain ⟨ρ, L, G, R, l, p⟩ := q
  exact ⟨ρ, L, G, R, l, Post.bind p fun vs G1 ρ1 H1 xs e1 R1 r1 p1 => ⟨ρ1, G1, vs, R1, r1, fin_of_lift p1⟩⟩
/-- an operation that is a built-in function's, a type's -/
structure Bop (S : Sx) (f : Value) where
  op : OpN
  ok : ∀ {sc N lev E X}, Okx S sc N lev E X → CallR X f (rON S op)
theorem bltN_ok (o : Okx S sc N lev E X) {x : Str} (h : bltN S x sc = true) : Gl X x ∧ X.mg x = none ∧ x ≠ "__name__" ∧ (x == ("__debug__" : Str)) = false := by
  simp only [bltN, Bool.and_eq_true, decide_eq_true_eq, Bool.not_eq_true', decide_eq_false_iff_not] at h
  obtain ⟨h1, h2, h3, h4⟩ := h
  exact ⟨o.gl h2, by rw [o.mg]; exact o.good.bl _ h1, h4, h3⟩
theorem args_st (args : CA S) {e : Expr} {es : List Expr} {env : Env} (hp : args.pl = true) (h : args.chk N sc (e :: es) = true) {pos : Pos} : starEach (e :: es) env = (false, eval e env) :: starEach es env ∧ (backTo pos (starEach es env)).any (·.1) = false := by
  obtain ⟨h1, h2⟩ := noStars_cons (args.ns hp h)
  exact ⟨starEach_cons h1, backTo_plain h2⟩
theorem cBi_pe {id : String} (b : Bop S (.builtin id)) (args : CA S) {e : Expr} (o : Okx S sc N lev E X) (h : kBi S id args N sc e = true) : PE X e (WE S E (eBi b.op args)) := by
  unfold kBi at h
  split at h
  · simp only [Bool.and_eq_true] at h
    obtain ⟨h1, h2, h3, h4⟩ := h
    obtain ⟨g1, g2, g3, g4⟩ := bltN_ok o h1
    obtain ⟨a1, a2⟩ := args_st args h3 h4
    exact pe_imp (pe_callB (b.ok o) g1 g2 (isBiB_eq h2) (args.pa o h4) g3 g4 a1 a2) fun σ H Q q => bi_we b.op args q
  · cases h
def cBi {id : String} (b : Bop S (.builtin id)) (args : CA S) : CE S := .plain (eBi b.op args) (kBi S id args) (cBi_pe b args) fun N sc e h => by cases e <;> first | exact ⟨rfl, rfl⟩ | cases h
theorem cBt_pe {id : String} (b : Bop S (.type id)) (args : CA S) {e : Expr} (o : Okx S sc N lev E X) (h : kBt S id args N sc e = true) : PE X e (WE S E (eBi b.op args)) := by
  unfold kBt at h
  split at h
  · simp only [Bool.and_eq_true] at h
    obtain ⟨h1, h2, h3, h4⟩ := h
    obtain ⟨g1, g2, g3, g4⟩ := bltN_ok o h1
    obtain ⟨a1, a2⟩ := args_st args h3 h4
    exact pe_imp (pe_callTy (b.ok o) g1 g2 (isTyB_eq h2) (args.pa o h4) g3 g4 a1 a2) fun σ H Q q => bi_we b.op args q
  · cases h
def cBt {id : String} (b : Bop S (.type id)) (args : CA S) : CE S := .plain (eBi b.op args) (kBt S id args) (cBt_pe b args) fun N sc e h => by cases e <;> first | exact ⟨rfl, rfl⟩ | cases h
theorem cBg_pe {id : String} (b : Bop S (.builtin id)) (args : CA S) {e : Expr} (o : Okx S sc N lev E X) (h : kBg S id args N sc e = true) : PE X e (WE S E (eBi b.op args)) := by
  unfold kBg at h
  split at h
  · simp only [Bool.and_eq_true, decide_eq_true_eq, Bool.not_eq_true'] at h
    obtain ⟨h1, h2, h5, h3, h4⟩ := h
    obtain ⟨a1, a2⟩ := args_st args h3 h4
    exact pe_imp (pe_callBfun (b.ok o) (o.gl h2) (by rw [o.mg]; exact o.good.bg _ h1) (args.pa o h4) h5 a1 a2) fun σ H Q q => bi_we b.op args q
  · cases h
def cBg {id : String} (b : Bop S (.builtin id)) (args : CA S) : CE S := .plain (eBi b.op args) (kBg S id args) (cBg_pe b args) fun N sc e h => by cases e <;> first | exact ⟨rfl, rfl⟩ | cases h
def bLen : Bop S (.builtin "len") := ⟨on1 lenF, cr_lenF⟩
def bAbs : Bop S (.builtin "abs") := ⟨on1 absF, cr_absF⟩
def bMax : Bop S (.builtin "max") := ⟨maxF, cr_maxF⟩
def bMin : Bop S (.builtin "min") := ⟨minF, cr_minF⟩
def bSum : Bop S (.builtin "sum") := ⟨on1 sumF, cr_sumF⟩
def bAny : Bop S (.builtin "any") := ⟨on1 anyF, cr_anyF⟩
def bAll : Bop S (.builtin "all") := ⟨on1 allF, cr_allF⟩
def bGcd : Bop S (.builtin "math.gcd") := ⟨on2 (i2 igcd), cr_gcdF⟩
def bInt : Bop S (.type "int") := ⟨on1 intF, cr_intF⟩
def bList : Bop S (.type "list") := ⟨on1 listF, cr_listF⟩
def bTup : Bop S (.type "tuple") := ⟨on1 tupF, cr_tupF⟩
/-! ### bool(x) -/
def eBool (a : CE S) : Lo → Gh → Res Va := fun L G => (a.ev L G).bind fun v G1 => (tr S v G1).bind fun b G2 => .ok (.bl b) G2
def kBool (S : Sx) (a : CE S) (N : List Str) (sc : Scope) : Expr → Bool
  | .Call (.Name x _) [e] [] _ => bltN S x sc && (isTyB "bool" (bootBuiltins x) && (!isStar e && a.chk N sc e))
  | _ => false
theorem cBool_pe (a : CE S) {e : Expr} (o : Okx S sc N lev E X) (h : kBool S a N sc e = true) : PE X e (WE S E (eBool a)) := by
  unfold kBool at h
  split at h
  · rename_i x p e pos
    simp only [Bool.and_eq_true, Bool.not_eq_true'] at h
    obtain ⟨h1, h2, h3, h4⟩ := h
    obtain ⟨g1, g2, g3, g4⟩ := bltN_ok o h1
    have st : starEach [e] X.env = (false, eval e X.env) :: starEach [] X.env := starEach_cons h3
    refine ⟨fun pins s σ H Q I q => ?_⟩
    refine wpAny_Call_Name_kw (ld_blt I g1 g2 (isTyB_eq h2) ?_ g3 g4)
    refine PyProof.Rows.callWith_type1 (thn ((pa_cons (a.pe o h4) pa_nil st).run pos pins s σ H (fun vs H1 => ∃ v ρ G w, vs = [v] ∧ Rl S ρ G H1 ∧ VR S ρ G.length H1 w v ∧ Post S (VR S) (E σ) ρ G.length H1 Q ((tr S w G).bind fun b G2 => .ok (.bl b) G2)) I ?_) fun us s1 hh => ?_) st rfl
    · obtain ⟨ρ, L, G, R, l, p⟩ := q
      exact ⟨ρ, L, G, R, l, Post.bind p fun v G1 ρ1 H1 x e1 R1 r1 p1 => ⟨x, ρ1, G1, v, rfl, R1, r1, p1⟩⟩
    · obtain ⟨vs, H1, I1, r1, v, ρ, G, w, rfl, R, rv, p⟩ := hh
      obtain ⟨u, rfl, ru⟩ := vals1 r1
      refine call_bool_any (wpAny_mono (tr_okW o.inw (inv_inn I1) ru (Q := fun b H2 => Q (.bl b) H2) ⟨ρ, G, w, R, rv, Post.bind p fun b G2 ρ2 H2 b' e2 R2 r2 p2 => ?_⟩) (fun b s2 hb => ?_) fun _ _ y => y)
      · subst r2
        exact p2 ρ2 H2 _ (Ext.refl _ _ _) R2 vr_bl'
      · obtain ⟨H2, I2, q2⟩ := hb
        exact ⟨.bl b, H2, inv_out I2, rfl, q2⟩
  · cases h
def cBool (a : CE S) : CE S := .plain (eBool a) (kBool S a) (cBool_pe a) fun N sc e h => by cases e <;> first | exact ⟨rfl, rfl⟩ | cases h
/-! ### isinstance -/
inductive Tag where
  | b (n : String) | c (k : Nat)
def tagO : Option VO → Option Tag
  | some (.lst _ _) => some (.b "list")
  | some (.dct _ _) => some (.b "dict")
  | some (.ins c _) => some (.c c)
  | _ => none
def tagV : Va → Gh → Option Tag
  | .non, _ => some (.b "NoneType")
  | .bl _, _ => some (.b "bool")
  | .int _, _ => some (.b "int")
  | .str _, _ => some (.b "str")
  | .tup _, _ => some (.b "tuple")
  | .ref n, G => tagO G[n]?
  | _, _ => none
def tyIs (a b : String) : Option Bool := if a ∈ tagL then (if b ∈ tagL then some (decide (a = b) || (decide (a = "bool") && decide (b = "int"))) else none) else none
theorem kitB_all : tagL.all (fun a => tagL.all fun b => decide (kitB a b = some (decide (a = b) || (decide (a = "bool") && decide (b = "int"))))) = true := by decide +kernel
def tagIs (S : Sx) : Tag → Va → Option Bool
  | .b a, .ty b => tyIs a b
  | .b a, .cl c => if a ∈ tagL then (if c < S.nc then some false else none) else none
  | .c c, .ty b => if (c, b) ∈ S.ibl then some false else none
  | .c c, .cl c' => if c' < S.nc ∧ (c, c') ∈ S.isl then some (S.sub c c') else none
  | _, _ => none
def Tag.u (S : Sx) : Tag → Value
  | .b y => .type y
  | .c z => .ref (S.ca z)
def clsU (S : Sx) : Va → Option (V × Value)
  | .ty b => some (.ty b, .type b)
  | .cl c => some (.ref (S.ca c), .ref (S.ca c))
  | _ => none
theorem tagIs_ok (g : Good S lev) {t : Tag} (ht : ∀ c, t = .c c → c < S.nc) {w : Va} {r : Bool} (h : tagIs S t w = some r) : ∃ v u, clsU S w = some (v, u) ∧ ClsV v u ∧ PySem.W.kitOne S.K (t.u S) u = some r := by
  cases t with
  | b a =>
    cases w with
    | ty b =>
      refine ⟨_, _, rfl, .ty b, kit_ty ?_⟩
      have h : tyIs a b = some r := h
      unfold tyIs at h
      split at h
      · rename_i ha
        split at h
        · rename_i hb
          rw [← h]
          exact of_decide_eq_true ((List.all_eq_true.mp ((List.all_eq_true.mp kitB_all) a ha)) b hb)
        · cases h
      · cases h
    | cl c =>
      have h : (if a ∈ tagL then (if c < S.nc then some false else none) else none) = some r := h
      split at h
      · rename_i ha
        split at h
        · rename_i hc
          cases h
          exact ⟨_, _, rfl, .own _, (g.cls c hc).it a ha⟩
        · cases h
      · cases h
    | _ => cases h
  | c k =>
    cases w with
    | ty b =>
      have h : (if (k, b) ∈ S.ibl then some false else none) = some r := h
      split at h
      · rename_i hb
        cases h
        exact ⟨_, _, rfl, .ty b, (g.cls k (ht k rfl)).ib b hb⟩
      · cases h
    | cl c =>
      have h : (if c < S.nc ∧ (k, c) ∈ S.isl then some (S.sub k c) else none) = some r := h
      split at h
      · rename_i hc
        cases h
        exact ⟨_, _, rfl, .own _, (g.cls c hc.1).is k hc.2⟩
      · cases h
    | _ => cases h
theorem tag_ok (g : Good S lev) (R : Rl S ρ G H) {v : Va} {x : V} (r : VR S ρ G.length H v x) {t : Tag} (h : tagV v G = some t) : TyX S.K H x (t.u S) ∧ ∀ c, t = .c c → c < S.nc := by
  cases v with
  | non => cases h; unfold VR at r; subst r; exact ⟨.base .non, fun c e => by cases e⟩
  | bl b => cases h; obtain rfl := vr_bl r; exact ⟨.base (.bl _), fun c e => by cases e⟩
  | int b => cases h; obtain rfl := vr_int r; exact ⟨.base (.int _), fun c e => by cases e⟩
  | str b => cases h; obtain rfl := vr_str r; exact ⟨.base (.str _), fun c e => by cases e⟩
  | tup xs =>
    cases h
    obtain ⟨a, ys, rfl, h1, h2⟩ := vr_tup r
    refine ⟨?_, fun c e => by cases e⟩
    rcases h1 with (h1 | ⟨o, h1⟩) | ⟨o, its, n, h1, h3, _⟩
    · exact .base (.tup h1)
    · exact .fTuple h1
    · exact .kTuple h1 h3
  | ref m =>
    obtain ⟨hm, rfl⟩ := vr_ref r
    obtain ⟨w, hw⟩ := get_of hm
    have h : tagO G[m]? = some t := h
    rw [hw] at h
    have ob := R.ob m w hw
    cases w with
    | lst fz xs =>
      cases h
      refine ⟨?_, fun c e => by cases e⟩
      cases fz with
      | false =>
        obtain ⟨ys, h1, h2⟩ := ob
        exact .base (.lst h1)
      | true =>
        obtain ⟨ys, h1, h2⟩ := ob
        rcases h1 with ⟨o, h1⟩ | ⟨o, its, n, h1, h3, _⟩
        · exact .base (.frz h1)
        · exact .kList h1 h3
    | dct lk kvs =>
      cases h
      refine ⟨?_, fun c e => by cases e⟩
      cases lk with
      | false =>
        obtain ⟨ks, h1, h2⟩ := ob
        exact .base (.dK h1)
      | true =>
        obtain ⟨o, ks, h1, h2⟩ := ob
        exact .fDict h1
    | ins c fs =>
      cases h
      obtain ⟨dx, gs, h1, h2, h3, h5, h4⟩ := ob
      refine ⟨?_, fun c' e => by cases e; exact h5⟩
      have C := g.cls c h5
      exact .base (.ins h1 C.cl C.ic g.cg1 g.cg2 C.im)
    | deq xs => exact ob.elim
  | cl k => cases h
  | ty k => cases h
def isiF (S : Sx) : Op2 := fun v w G => ((tagV v G).bind fun t => tagIs S t w).map fun b => (Va.bl b, G)
theorem clsU_vr {w : Va} {v : V} {u : Value} (h : clsU S w = some (v, u)) {y : V} (r : VR S ρ n H w y) : y = v := by
  cases w with
  | ty b => cases h; unfold VR at r; exact r
  | cl b => cases h; unfold VR at r; exact r
  | _ => cases h
theorem cr_isiF (o : Okx S sc N lev E X) : CallR X (.builtin "isinstance") (rON S (on2 (isiF S))) := by
  refine cr2 fun pins s σ H x y us Q ρ G v w I ru R r1 r2 p => ?_
  unfold isiF at p
  cases e : tagV v G with
  | none => rw [e] at p; exact p.no.elim
  | some t =>
    rw [e] at p
    have p : Fin1 S ρ G.length H Q ((tagIs S t w).map fun b => (Va.bl b, G)) := p
    obtain ⟨t1, t2⟩ := tag_ok o.good R r1 e
    cases e2 : tagIs S t w with
    | none => rw [e2] at p; exact p.no.elim
    | some b =>
      rw [e2] at p
      obtain ⟨v', u', c1, c2, c3⟩ := tagIs_ok o.good t2 e2
      obtain rfl := clsU_vr c1 r2
      exact call_isi pins s σ H _ _ Q I ru ⟨x, _, _, u', b, rfl, c2, by rw [o.K]; exact t1, by rw [o.K]; exact c3, p.old R vr_bl'⟩
def bIsi : Bop S (.builtin "isinstance") := ⟨on2 (isiF S), cr_isiF⟩
/-- isinstance(x, (C, ..)) -/
def anyIs (S : Sx) (t : Tag) : List Va → Option Bool
  | [] => some false
  | w :: r => (tagIs S t w).bind fun b => (anyIs S t r).map fun b' => b || b'
theorem anyIs_ok (g : Good S lev) {t : Tag} (ht : ∀ c, t = .c c → c < S.nc) : ∀ {ws : List Va} {r : Bool} {ys : List V}, anyIs S t ws = some r → VRs S ρ n H ws ys → ∃ us, Paired ClsV ys us ∧ PySem.W.kitAny S.K (t.u S) us = some r
  | [], r, ys, h, hv => by
    cases h
    unfold VRs at hv; subst hv
    exact ⟨[], .nil, rfl⟩
  | w :: ws, r, ys, h, hv => by
    obtain ⟨y, zs, rfl, h1, h2⟩ := hv.cons_inv
    have h : ((tagIs S t w).bind fun b => (anyIs S t ws).map fun b' => b || b') = some r := h
    cases e : tagIs S t w with
    | none => rw [e] at h; cases h
    | some b =>
      rw [e] at h
      obtain ⟨b', e2, rfl⟩ := Option.map_eq_some_iff.mp h
      obtain ⟨us, p1, p2⟩ := anyIs_ok g ht e2 h2
      obtain ⟨v', u', c1, c2, c3⟩ := tagIs_ok g ht e
      obtain rfl := clsU_vr c1 h1
      refine ⟨u' :: us, .cons c2 p1, kitAny_cons c3 (fun hb => ?_) fun hb => ?_⟩
      · subst hb; simpa using p2
      · subst hb; rfl
def eIsT (a : CE S) (ts : CA S) : Lo → Gh → Res Va := fun L G => (a.ev L G).bind fun v G1 => (ts.ev L G1).bind fun ws G2 => lift (((tagV v G2).bind fun t => if ws.length ≤ sizeLine then anyIs S t ws else none).map fun b => (Va.bl b, G2))
def kIsT (S : Sx) (a : CE S) (ts : CA S) (N : List Str) (sc : Scope) : Expr → Bool
  | .Call (.Name x _) [e, .Tuple es _ _] [] _ => bltN S x sc && (isBiB "isinstance" (bootBuiltins x) && (!isStar e && (a.chk N sc e && ts.chk N sc es)))
  | _ => false
theorem tag_mono {v : Va} {x : V} {ρ' : Nat → Addr} {n' : Nat} {H' : Hp} : True := trivial
theorem cIsT_pe (a : CE S) (ts : CA S) {e : Expr} (o : Okx S sc N lev E X) (h : kIsT S a ts N sc e = true) : PE X e (WE S E (eIsT a ts)) := by
  unfold kIsT at h
  split at h
  · rename_i x p e es k pt pos
    simp only [Bool.and_eq_true, Bool.not_eq_true'] at h
    obtain ⟨h1, h2, h3, h4, h5⟩ := h
    obtain ⟨g1, g2, g3, g4⟩ := bltN_ok o h1
    have st : starEach [e, .Tuple es k pt] X.env = (false, eval e X.env) :: starEach [.Tuple es k pt] X.env := starEach_cons h3
    have st2 : starEach [.Tuple es k pt] X.env = (false, eval (.Tuple es k pt) X.env) :: starEach [] X.env := rfl
    refine pe_imp (pe_callB call_isiT g1 g2 (isBiB_eq h2) (pa_cons (a.pe o h4) (pa_cons (pe_tup (ts.pa o h5)) pa_nil st2) st) g3 g4 st rfl) fun σ H Q q => ?_
    obtain ⟨ρ, L, G, R, l, p⟩ := q
    refine ⟨ρ, L, G, R, l, Post.bind p fun v G1 ρ1 H1 x e1 R1 r1 p1 => ?_⟩
    refine ⟨ρ1, L, G1, R1, l.mono e1, Post.bind p1 fun ws G2 ρ2 H2 ys e2 R2 r2 p2 => ?_⟩
    have p2 : Fin1 S ρ2 G2.length H2 Q (((tagV v G2).bind fun t => if ws.length ≤ sizeLine then anyIs S t ws else none).map fun b => (Va.bl b, G2)) := fin_of_lift p2
    cases e3 : tagV v G2 with
    | none => rw [e3] at p2; exact p2.no.elim
    | some t =>
      rw [e3] at p2
      have p2 : Fin1 S ρ2 G2.length H2 Q ((if ws.length ≤ sizeLine then anyIs S t ws else none).map fun b => (Va.bl b, G2)) := p2
      split at p2
      · rename_i hz
        refine ⟨by rw [r2.length]; exact hz, fun b hb => ?_⟩
        have e4 : Ext ρ2 G2.length H2 ρ2 G2.length (upd H2 b (.tup ys)) := Ext.new hb
        have R4 := R2.new (o := .tup ys) hb
        cases e5 : anyIs S t ws with
        | none => rw [e5] at p2; exact p2.no.elim
        | some r =>
          rw [e5] at p2
          obtain ⟨t1, t2⟩ := tag_ok o.good R4 ((r1.mono e2).mono e4) e3
          obtain ⟨us, c1, c2⟩ := anyIs_ok o.good t2 e5 r2
          exact ⟨x, b, ys, _, us, r, rfl, upd_same, c1, by rw [o.K]; exact t1, by rw [o.K]; exact c2, p2.now e4 R4 vr_bl'⟩
      · exact p2.no.elim
  · cases h
def cIsT (a : CE S) (ts : CA S) : CE S := .plain (eIsT a ts) (kIsT S a ts) (cIsT_pe a ts) fun N sc e h => by cases e <;> first | exact ⟨rfl, rfl⟩ | cases h
end
end VM
/-! VMl: what is gone through; targets -/
namespace VM
open PySem PySem.Spec PyProof.Rows L2
inductive Src where
  | ob (n : Nat) | fix (xs : List Va) | rng (lo : Int) (n : Nat)
def nxO : Option VO → Nat → Option (Option Va)
  | some (.lst _ xs), i => some xs[i]?
  | _, _ => none
def nxt : Src → Nat → Gh → Option (Option Va)
  | .ob n, i, G => nxO G[n]? i
  | .fix xs, i, _ => some xs[i]?
  | .rng lo n, i, _ => some (if i < n then some (.int (lo + i)) else none)
def IR (S : Sx) : RelT Src It := fun ρ n H src J => ∀ ρ' G' H' i, Ext ρ n H ρ' G'.length H' → Rl S ρ' G' H' →
  (∀ v, nxt src i G' = some (some v) → J.go i H' ∧ ∀ x H'', J.yld i H' x H'' → Ext ρ' G'.length H' ρ' G'.length H'' ∧ Rl S ρ' G' H'' ∧ VR S ρ' G'.length H'' v x) ∧ (nxt src i G' = some none → J.stop i H')
abbrev WI (S : Sx) (E : EW) (ev : Lo → Gh → Res Src) : TI := WG S (IR S) E ev
structure CI (S : Sx) where
  ev : Lo → Gh → Res Src
  chk : List Str → Scope → Expr → Expr → Bool
  pi : ∀ {sc N lev E X tg e}, Okx S sc N lev E X → chk N sc tg e = true → PI X tg e (WI S E ev)
theorem pi_imp {X : Cx} {tg e : Expr} {w w' : TI} (h : PI X tg e w) (i : ∀ σ H R, w' σ H R → w σ H R) : PI X tg e w' := ⟨fun pins s σ H R I hw => h.run pins s σ H R I (i σ H R hw)⟩
section
variable {S : Sx} {sc : Scope} {N : List Str} {lev : Nat} {E : EW} {X : Cx} {ρ ρ' : Nat → Addr} {G : Gh} {H H' : Hp} {n n' : Nat}
theorem IR.mono {src : Src} {J : It} (h : IR S ρ n H src J) (e : Ext ρ n H ρ' n' H') : IR S ρ' n' H' src J := fun ρ2 G2 H2 i e2 R2 => h ρ2 G2 H2 i (e.trans e2) R2
/-! ### a list, a tuple -/
def iSeq (K : PySem.W.Frag) (tl : TE) : TI := fun σ H R => tl σ H fun x H1 => ∃ a, x = .ref a ∧ (((∃ xs, SqL K H1 a xs) ∧ R (Itl K a) H1) ∨ ((∃ xs, SqT K H1 a xs) ∧ R (Itt K a) H1))
theorem pi_seq {tg l : Expr} {tl : TE} (hl : PE X l tl) : PI X tg l (iSeq X.K tl) := by
  refine ⟨fun pins s σ H R I h => ?_⟩
  refine thn (hl.run pins s σ H _ I h) fun v s1 ⟨x, H1, I1, r1, q1⟩ => ?_
  obtain ⟨a, e, q⟩ := q1
  subst e
  cases r1
  have new : ∀ b, b ∈ [s1.heap.objs.size] → FpOk X pins H1 b := fun b hb => by
    have e : b = s1.heap.objs.size := by simpa using hb
    subst e
    exact I1.fpOk (Nat.le_refl _) (I1.hok.fresh (Nat.le_refl _))
  rcases q with ⟨⟨xs, hq⟩, q⟩ | ⟨⟨xs, hq⟩, q⟩
  · obtain ⟨its, rv, p, hz⟩ := I1.list hq
    refine wpAny_pyIter_list p.isList ?_
    exact ⟨s1.heap.objs.size, [s1.heap.objs.size], _, _, H1, rfl, I1.kept (t' := s1.toks) fun b o e => Heap.get?_push_of_some _ e, turn_list a _, ⟨_, Heap.get?_push_size _ rfl, rfl, rfl⟩, new, q⟩
  · obtain ⟨its, rv, p, hz⟩ := I1.tuple hq
    refine wpAny_pyIter_tuple (show s1.heap.IsTuple a its.toArray from p) ?_
    exact ⟨s1.heap.objs.size, [s1.heap.objs.size], _, _, H1, rfl, I1.kept (t' := s1.toks) fun b o e => Heap.get?_push_of_some _ e, turn_tuple a _, ⟨_, Heap.get?_push_size _ rfl, rfl, rfl⟩, new, q⟩
def srcO : Nat → Option VO → Option Src
  | n, some (.lst _ _) => some (.ob n)
  | _, _ => none
def srcV : Va → Gh → Option Src
  | .tup xs, _ => some (.fix xs)
  | .ref n, G => srcO n G[n]?
  | _, _ => none
def srcR (G : Gh) : Option Src → Res Src
  | some s => .ok s G
  | none => .no
theorem sql_inj {K : PySem.W.Frag} {a : Addr} {xs ys : List V} : True := trivial
theorem ir_list {m : Nat} (hm : m < n) : IR S ρ n H (.ob m) (Itl S.K (ρ m)) ∨ True := .inr trivial
theorem cItV_pi (a : CE S) {tg e : Expr} (o : Okx S sc N lev E X) (h : a.chk N sc e = true) : PI X tg e (WI S E fun L G => (a.ev L G).bind fun v G1 => srcR G1 (srcV v G1)) := by
  refine pi_imp (pi_seq (a.pe o h)) fun σ H R q => ?_
  obtain ⟨ρ, L, G, Rl0, l, p⟩ := q
  refine ⟨ρ, L, G, Rl0, l, Post.bind p fun v G1 ρ1 H1 x e1 R1 r1 p1 => ?_⟩
  rw [o.K]
  cases v with
  | tup xs =>
    obtain ⟨b, ys, rfl, h1, h2⟩ := vr_tup r1
    refine ⟨b, rfl, .inr ⟨⟨ys, h1⟩, p1 ρ1 H1 _ (Ext.refl _ _ _) R1 fun ρ' G' H' i e' R' => ?_⟩⟩
    have s1 := sqt_mono e' h1
    have r2 := h2.mono e'
    refine ⟨fun v hv => ?_, fun hv => ?_⟩
    · have hv : xs[i]? = some v := by simpa [nxt] using hv
      obtain ⟨y, hy, ry⟩ := r2.get hv
      refine ⟨⟨ys, y, s1, hy⟩, fun x H'' yl => ?_⟩
      obtain ⟨rfl, yl⟩ := yl
      have := yl ys s1
      rw [hy] at this; cases this
      exact ⟨Ext.refl _ _ _, R', ry⟩
    · have hv : xs.length ≤ i := by simpa [nxt] using hv
      exact ⟨ys, s1, by rw [h2.length]; exact hv⟩
  | ref m =>
    obtain ⟨hm, rfl⟩ := vr_ref r1
    obtain ⟨w, hw⟩ := get_of hm
    have p1 : Post S (IR S) (E σ) ρ1 G1.length H1 R (srcR G1 (srcO m G1[m]?)) := p1
    rw [hw] at p1
    cases w with
    | lst fz xs =>
      obtain ⟨ys, h1, h2⟩ := rl_seq R1 hw
      refine ⟨_, rfl, .inl ⟨⟨ys, h1⟩, p1 ρ1 H1 _ (Ext.refl _ _ _) R1 fun ρ' G' H' i e' R' => ?_⟩⟩
      have em : ρ' m = ρ1 m := e'.eq m hm
      have hm' : m < G'.length := Nat.lt_of_lt_of_le hm e'.le
      obtain ⟨w', hw'⟩ := get_of hm'
      have nx : ∀ i, nxt (.ob m) i G' = nxO (some w') i := fun i => by show nxO G'[m]? i = _; rw [hw']
      rw [nx]
      cases w' with
      | lst fz' xs' =>
        obtain ⟨ys', h1', h2'⟩ := rl_seq R' hw'
        rw [em] at h1'
        refine ⟨fun v hv => ?_, fun hv => ?_⟩
        · have hv : xs'[i]? = some v := by simpa [nxO] using hv
          obtain ⟨y, hy, ry⟩ := h2'.get hv
          refine ⟨⟨ys', y, h1', hy⟩, fun x H'' yl => ?_⟩
          obtain ⟨rfl, yl⟩ := yl
          have := yl ys' h1'
          rw [hy] at this; cases this
          exact ⟨Ext.refl _ _ _, R', ry⟩
        · have hv : xs'.length ≤ i := by simpa [nxO] using hv
          exact ⟨ys', h1', by rw [h2'.length]; exact hv⟩
      | _ => exact ⟨fun v (hv : (none : Option (Option Va)) = _) => (by cases hv), fun (hv : (none : Option (Option Va)) = _) => (by cases hv)⟩
    | _ => exact p1.elim
  | _ => exact p1.elim
def cItV (a : CE S) : CI S := ⟨fun L G => (a.ev L G).bind fun v G1 => srcR G1 (srcV v G1), fun N sc _ e => a.chk N sc e, cItV_pi a⟩
/-! ### range -/
theorem ir_rng (lo : Int) (k : Nat) : IR S ρ n H (.rng lo k) (Itr lo k) := fun ρ' G' H' i e' R' => by
  refine ⟨fun v hv => ?_, fun hv => ?_⟩
  · have hv : (if i < k then some (Va.int (lo + i)) else none) = some v := by simpa [nxt] using hv
    split at hv
    · rename_i hi
      cases hv
      refine ⟨hi, fun x H'' yl => ?_⟩
      obtain ⟨rfl, rfl⟩ := yl
      exact ⟨Ext.refl _ _ _, R', vr_int'⟩
    · cases hv
  · have hv : (if i < k then some (Va.int (lo + i)) else none) = none := by simpa [nxt] using hv
    split at hv
    · cases hv
    · rename_i hi
      exact Nat.le_of_not_lt hi
def big (i : Int) : Bool := decide (-(2 ^ 62) ≤ i) && decide (i < 2 ^ 62)
theorem big_iff {i : Int} (h : big i = true) : -(2 ^ 62) ≤ i ∧ i < 2 ^ 62 := by
  unfold big at h
  simpa only [Bool.and_eq_true, decide_eq_true_eq] using h
def rngR (G : Gh) (b : Bool) (lo : Int) (k : Nat) : Res Src := if b = true then .ok (.rng lo k) G else .no
def rng1 : Va → Gh → Res Src
  | .int j, G => rngR G (big j) 0 j.toNat
  | _, _ => .no
def rng2 : Va → Va → Gh → Res Src
  | .int i, .int j, G => rngR G (big i && big j) i (j - i).toNat
  | _, _, _ => .no
def kRng1 (S : Sx) (a : CE S) (N : List Str) (sc : Scope) : Expr → Bool
  | .Call (.Name x _) [e] [] _ => decide (x = "range") && (bltN S x sc && (!isStar e && a.chk N sc e))
  | _ => false
theorem cRng1_pi (a : CE S) {tg e : Expr} (o : Okx S sc N lev E X) (h : kRng1 S a N sc e = true) : PI X tg e (WI S E fun L G => (a.ev L G).bind rng1) := by
  unfold kRng1 at h
  split at h
  · rename_i x p e pos
    simp only [Bool.and_eq_true, decide_eq_true_eq, Bool.not_eq_true'] at h
    obtain ⟨rfl, h1, h2, h3⟩ := h
    obtain ⟨g1, g2, _, _⟩ := bltN_ok o h1
    refine pi_imp (pi_range1 g1 g2 (pa_cons (a.pe o h3) pa_nil (starEach_cons h2)) (starEach_cons h2)) fun σ H R q => ?_
    obtain ⟨ρ, L, G, Rl0, l, p⟩ := q
    refine ⟨ρ, L, G, Rl0, l, Post.bind p fun v G1 ρ1 H1 x e1 R1 r1 p1 => ?_⟩
    cases v with
    | int j =>
      obtain rfl := vr_int r1
      have p1 : Post S (IR S) (E σ) ρ1 G1.length H1 R (rngR G1 (big j) 0 j.toNat) := p1
      unfold rngR at p1
      split at p1
      · rename_i hb
        obtain ⟨b1, b2⟩ := big_iff hb
        exact ⟨j, rfl, b1, b2, p1 ρ1 H1 _ (Ext.refl _ _ _) R1 (ir_rng _ _)⟩
      · exact p1.elim
    | _ => exact p1.elim
  · cases h
def cRng1 (a : CE S) : CI S := ⟨fun L G => (a.ev L G).bind rng1, fun N sc _ e => kRng1 S a N sc e, cRng1_pi a⟩
def kRng2 (S : Sx) (a b : CE S) (N : List Str) (sc : Scope) : Expr → Bool
  | .Call (.Name x _) [e, f] [] _ => decide (x = "range") && (bltN S x sc && ((!isStar e && !isStar f) && (a.chk N sc e && b.chk N sc f)))
  | _ => false
theorem cRng2_pi (a b : CE S) {tg e : Expr} (o : Okx S sc N lev E X) (h : kRng2 S a b N sc e = true) : PI X tg e (WI S E fun L G => (a.ev L G).bind fun v G1 => (b.ev L G1).bind (rng2 v)) := by
  unfold kRng2 at h
  split at h
  · rename_i x p e f pos
    simp only [Bool.and_eq_true, decide_eq_true_eq, Bool.not_eq_true'] at h
    obtain ⟨rfl, h1, ⟨h2, h2'⟩, h3, h4⟩ := h
    obtain ⟨g1, g2, _, _⟩ := bltN_ok o h1
    have st : starEach [f] X.env = (false, eval f X.env) :: starEach [] X.env := starEach_cons h2'
    refine pi_imp (pi_range2 g1 g2 (pa_cons (a.pe o h3) (pa_cons (b.pe o h4) pa_nil st) (starEach_cons h2)) (by rw [starEach_cons h2, st]; rfl) st) fun σ H R q => ?_
    obtain ⟨ρ, L, G, Rl0, l, p⟩ := q
    refine ⟨ρ, L, G, Rl0, l, Post.bind p fun v G1 ρ1 H1 x e1 R1 r1 p1 => ?_⟩
    refine ⟨ρ1, L, G1, R1, l.mono e1, Post.bind p1 fun w G2 ρ2 H2 y e2 R2 r2 p2 => ?_⟩
    cases v with
    | int i =>
      obtain rfl := vr_int r1
      cases w with
      | int j =>
        obtain rfl := vr_int r2
        have p2 : Post S (IR S) (E σ) ρ2 G2.length H2 R (rngR G2 (big i && big j) i (j - i).toNat) := p2
        unfold rngR at p2
        split at p2
        · rename_i hb
          rw [Bool.and_eq_true] at hb
          obtain ⟨b1, b2⟩ := big_iff hb.1
          obtain ⟨b3, b4⟩ := big_iff hb.2
          exact ⟨i, j, rfl, ⟨b1, b2, b3, b4⟩, p2 ρ2 H2 _ (Ext.refl _ _ _) R2 (ir_rng _ _)⟩
        · exact p2.elim
      | _ => exact p2.elim
    | _ => exact p2.elim
  · cases h
def cRng2 (a b : CE S) : CI S := ⟨fun L G => (a.ev L G).bind fun v G1 => (b.ev L G1).bind (rng2 v), fun N sc _ e => kRng2 S a b N sc e, cRng2_pi a b⟩
/-! ### targets -/
theorem pg_imp {X : Cx} {e : Expr} {t t' : TG} (h : PG X e t) (i : ∀ v σ H Q, t' v σ H Q → t v σ H Q) : PG X e t' := ⟨fun pins s σ H v u Q I r hw => h.run pins s σ H v u Q I r (i v σ H Q hw)⟩
theorem pgs_imp {X : Cx} {e : List Expr} {t t' : TGs} (h : PGs X e t) (i : ∀ v σ H Q, t' v σ H Q → t v σ H Q) : PGs X e t' := ⟨fun pins s σ H v u Q I r hw => h.run pins s σ H v u Q I r (i v σ H Q hw)⟩
def Same (sl : List Nat) (σ σ' : L2.St) : Prop := σ'.length = σ.length ∧ ∀ i, i ∉ sl → σ'[i]? = σ[i]?
def GR (S : Sx) (sl : List Nat) (σ : L2.St) : RelT Lo L2.St := fun ρ n H L' σ' => LR S ρ n H L' σ' ∧ Same sl σ σ'
def noE : XK := fun _ _ _ => False
/-- a part that raises nothing -/
theorem Post.bindN {α β γ δ : Type} {ra : RelT α β} {rb : RelT γ δ} {E0 E1 : XK} {Q : δ → Hp → Prop} {Q1 : β → Hp → Prop} {r : Res α} {f : α → Gh → Res γ} (p : Post S rb E0 ρ n H Q ((noex r).bind f))
    (k : ∀ (a : α) (G' : Gh) (ρ' : Nat → Addr) (H' : Hp) (x : β), Ext ρ n H ρ' G'.length H' → Rl S ρ' G' H' → ra ρ' G'.length H' a x → Post S rb E0 ρ' G'.length H' Q (f a G') → Q1 x H') : Post S ra E1 ρ n H Q1 r := by
  cases r with
  | ok v G => exact fun ρ2 H2 v2 e2 R2 r2 => k v G ρ2 H2 v2 e2 R2 r2 (Post.after (r := f v G) p e2)
  | ex c fs G => exact (show False from p).elim
  | no => exact (show False from p).elim
theorem Post.rel {α β : Type} {ra ra' : RelT α β} {E0 : XK} {Q : β → Hp → Prop} {r : Res α} (p : Post S ra E0 ρ n H Q r) (h : ∀ ρ n H a b, ra' ρ n H a b → ra ρ n H a b) : Post S ra' E0 ρ n H Q r := by
  cases r with
  | ok v G => exact fun ρ2 H2 v2 e2 R2 r2 => p ρ2 H2 v2 e2 R2 (h _ _ _ _ _ r2)
  | ex c fs G => exact p
  | no => exact p
/-- a last part that raises nothing -/
theorem Post.lastN {α β : Type} {ra : RelT α β} {E0 E1 : XK} {Q : β → Hp → Prop} {r : Res α} (p : Post S ra E0 ρ n H Q (noex r)) : Post S ra E1 ρ n H Q r := by
  cases r with
  | ok v G => exact p
  | ex c fs G => exact (show False from p).elim
  | no => exact (show False from p).elim
abbrev WGt (S : Sx) (sl : List Nat) (ev : Va → Lo → Gh → Res Lo) : TG := fun v σ H Q => ∃ ρ L G a, Rl S ρ G H ∧ LR S ρ G.length H L σ ∧ VR S ρ G.length H a v ∧ Post S (GR S sl σ) noE ρ G.length H Q (ev a L G)
abbrev WGs (S : Sx) (sl : List Nat) (ev : List Va → Lo → Gh → Res Lo) : TGs := fun vs σ H Q => ∃ ρ L G as, Rl S ρ G H ∧ LR S ρ G.length H L σ ∧ VRs S ρ G.length H as vs ∧ Post S (GR S sl σ) noE ρ G.length H Q (ev as L G)
theorem Same.refl {sl : List Nat} {σ : L2.St} : Same sl σ σ := ⟨rfl, fun _ _ => rfl⟩
theorem Same.trans {a b : List Nat} {σ σ' σ'' : L2.St} (h : Same a σ σ') (k : Same b σ' σ'') : Same (a ++ b) σ σ'' :=
  ⟨k.1.trans h.1, fun i hi => (k.2 i fun z => hi (List.mem_append_right _ z)).trans (h.2 i fun z => hi (List.mem_append_left _ z))⟩
theorem Same.set {i : Nat} {σ : L2.St} {v : Option V} : Same [i] σ (σ.set i v) := ⟨List.length_set .., fun j hj => List.getElem?_set_ne fun e => hj (by simp [e])⟩
theorem LR.set {L : Lo} {σ : L2.St} {i : Nat} {a : Va} {v : V} (l : LR S ρ n H L σ) (hi : i < σ.length) (r : VR S ρ n H a v) : LR S ρ n H (L.set i (some a)) (σ.set i (some v)) := fun j x h => by
  by_cases e : i = j
  · subst e
    by_cases hl : i < L.length
    · rw [List.getElem?_set_self hl] at h
      cases h
      exact ⟨v, by rw [List.getElem?_set_self hi], r⟩
    · rw [List.getElem?_eq_none (by rw [List.length_set]; omega)] at h; cases h
  · rw [List.getElem?_set_ne e] at h
    obtain ⟨y, h1, h2⟩ := l j x h
    exact ⟨y, by rw [List.getElem?_set_ne e]; exact h1, h2⟩
structure CG (S : Sx) where
  ev : Va → Lo → Gh → Res Lo
  sl : List Nat
  chk : List Str → Scope → Expr → Bool
  pg : ∀ {sc N lev E X e}, Okx S sc N lev E X → chk N sc e = true → PG X e (WGt S sl ev)
  st : ∀ {N sc e env}, chk N sc e = true → assignEach [e] env = [(false, assign e env)]
structure CGs (S : Sx) where
  ev : List Va → Lo → Gh → Res Lo
  sl : List Nat
  chk : List Str → Scope → List Expr → Bool
  pg : ∀ {sc N lev E X es}, Okx S sc N lev E X → chk N sc es = true → PGs X es (WGs S sl ev)
  st : ∀ {N sc es env}, chk N sc es = true → assignEach es env = es.map fun e => (false, assign e env)
theorem each_cons {e : Expr} {es : List Expr} {env : Env} (h : isStar e = false) : assignEach (e :: es) env = (false, assign e env) :: assignEach es env := by
  cases e <;> first | rfl | (exact absurd h (by simp [isStar]))
/-! ### names -/
def gNmE (i : Nat) : Va → Lo → Gh → Res Lo := fun v L G => .ok (L.set i (some v)) G
def kNm (i : Nat) (N : List Str) (sc : Scope) : Expr → Bool
  | .Name x _ => decide (N[i]? = some x) && scLoc sc x
  | _ => false
theorem gNm_pg (i : Nat) {e : Expr} (o : Okx S sc N lev E X) (h : kNm i N sc e = true) : PG X e (WGt S [i] (gNmE i)) := by
  unfold kNm at h
  split at h
  · rename_i x p
    simp only [Bool.and_eq_true, decide_eq_true_eq] at h
    obtain ⟨h1, h2⟩ := h
    refine ⟨fun pins s σ H v u Q I r hw => ?_⟩
    refine (pg_name (pos := p) o.nd (by rw [o.N]; exact h1) (o.loc h2) (o.stf _ h2)).run pins s σ H v u Q I r ?_
    obtain ⟨ρ, L, G, a, R, l, ra, q⟩ := hw
    have hi : i < σ.length := by
      rw [I.len, o.N]
      exact (List.getElem?_eq_some_iff.mp h1).1
    exact q ρ H _ (Ext.refl _ _ _) R ⟨l.set hi ra, Same.set⟩
  · cases h
def gNm (i : Nat) : CG S := ⟨gNmE i, [i], kNm i, gNm_pg i, fun {N sc e env} h => by cases e <;> first | rfl | cases h⟩
/-! ### tuples of targets -/
theorem gsNil_pg {es : List Expr} (o : Okx S sc N lev E X) (h : es.isEmpty = true) : PGs X es (WGs S [] fun vs L G => match vs with | [] => .ok L G | _ => .no) := by
  cases es with
  | cons _ _ => cases h
  | nil =>
    refine pgs_imp pgs_nil fun vs σ H Q q => ?_
    obtain ⟨ρ, L, G, as, R, l, ra, p⟩ := q
    cases as with
    | nil =>
      unfold VRs at ra
      exact ⟨ra, p ρ H _ (Ext.refl _ _ _) R ⟨l, Same.refl⟩⟩
    | cons _ _ => exact p.elim
def gsNil : CGs S := ⟨fun vs L G => match vs with | [] => .ok L G | _ => .no, [], fun _ _ es => es.isEmpty, gsNil_pg, fun {N sc es env} h => by cases es <;> first | rfl | cases h⟩
def gsE (g : CG S) (r : CGs S) : List Va → Lo → Gh → Res Lo := fun vs L G => match vs with
  | v :: vs => (g.ev v L G).bind fun L1 G1 => r.ev vs L1 G1
  | [] => .no
def ksC (g : CG S) (r : CGs S) (N : List Str) (sc : Scope) : List Expr → Bool
  | e :: es => !isStar e && (g.chk N sc e && r.chk N sc es)
  | [] => false
theorem gsCons_pg (g : CG S) (r : CGs S) {es : List Expr} (o : Okx S sc N lev E X) (h : ksC g r N sc es = true) : PGs X es (WGs S (g.sl ++ r.sl) (gsE g r)) := by
  cases es with
  | nil => cases h
  | cons e es =>
    simp only [ksC, Bool.and_eq_true, Bool.not_eq_true'] at h
    obtain ⟨h0, h1, h2⟩ := h
    refine pgs_imp (pgs_cons (g.pg o h1) (r.pg o h2) (by rw [each_cons h0]; rfl)) fun vs σ H Q q => ?_
    obtain ⟨ρ, L, G, as, R, l, ra, p⟩ := q
    cases as with
    | nil => exact p.elim
    | cons a as =>
      obtain ⟨y, ys, rfl, r1, r2⟩ := ra.cons_inv
      have p : Post S (GR S (g.sl ++ r.sl) σ) noE ρ G.length H Q ((g.ev a L G).bind fun L1 G1 => r.ev as L1 G1) := p
      refine ⟨y, ys, rfl, ρ, L, G, a, R, l, r1, Post.bind p fun L1 G1 ρ1 H1 σ1 e1 R1 l1 p1 => ?_⟩
      exact ⟨ρ1, L1, G1, as, R1, l1.1, r2.mono e1, Post.rel p1 fun ρ n H L2 σ2 z => ⟨z.1, l1.2.trans z.2⟩⟩
def gsCons (g : CG S) (r : CGs S) : CGs S := ⟨gsE g r, g.sl ++ r.sl, ksC g r, gsCons_pg g r, fun {N sc es env} h => by
  cases es with
  | nil => cases h
  | cons e es =>
    simp only [ksC, Bool.and_eq_true, Bool.not_eq_true'] at h
    rw [each_cons h.1, r.st h.2.2]; rfl⟩
def gTpE (r : CGs S) : Va → Lo → Gh → Res Lo
  | .tup xs, L, G => r.ev xs L G
  | _, _, _ => .no
def kTp (n : Nat) (r : CGs S) (N : List Str) (sc : Scope) : Expr → Bool
  | .Tuple es _ _ => decide (es.length = n) && r.chk N sc es
  | _ => false
def lenIs (n : Nat) (v : Va) (r : Res Lo) : Res Lo := match v with
  | .tup xs => if xs.length = n then r else .no
  | _ => .no
theorem find_none {α : Type} : ∀ (l : List α), (l.map fun e => ((false : Bool), e)).findIdx? (·.1) = none
  | [] => rfl
  | a :: l => by
    rw [List.map_cons, List.findIdx?_cons]
    simp [find_none l]
theorem gTp_pg (n : Nat) (r : CGs S) {e : Expr} (o : Okx S sc N lev E X) (h : kTp n r N sc e = true) : PG X e (WGt S r.sl fun v L G => lenIs n v (gTpE r v L G)) := by
  unfold kTp at h
  split at h
  · rename_i es k p
    simp only [Bool.and_eq_true, decide_eq_true_eq] at h
    obtain ⟨h1, h2⟩ := h
    have st := r.st (env := X.env) h2
    refine pg_imp (pg_tup (n := n) o.calm (r.pg o h2) (by rw [st, List.length_map]; exact h1) (by rw [st]; have := find_none (es.map fun e => assign e X.env); simpa [List.map_map, Function.comp] using this)) fun v σ H Q q => ?_
    obtain ⟨ρ, L, G, a, R, l, ra, p⟩ := q
    cases a with
    | tup xs =>
      obtain ⟨b, ys, rfl, q1, q2⟩ := vr_tup ra
      have p : Post S (GR S r.sl σ) noE ρ G.length H Q (if xs.length = n then r.ev xs L G else .no) := p
      split at p
      · rename_i hn
        exact ⟨b, ys, rfl, by rw [o.K]; exact q1, by rw [q2.length]; exact hn, ρ, L, G, xs, R, l, q2, p⟩
      · exact p.elim
    | _ => exact p.elim
  · cases h
def gTp (n : Nat) (r : CGs S) : CG S := ⟨fun v L G => lenIs n v (gTpE r v L G), r.sl, kTp n r, gTp_pg n r, fun {N sc e env} h => by cases e <;> first | rfl | cases h⟩
end
end VM
/-! VMm: list comprehensions -/
namespace VM
open PySem PySem.Spec PyProof.Rows L2
def noE2 : EW := fun _ => noE
section
variable {S : Sx} {sc : Scope} {N : List Str} {lev : Nat} {E : EW} {X : Cx} {ρ ρ' : Nat → Addr} {G : Gh} {H H' : Hp} {n n' : Nat}
/-! ### the block's context -/
theorem blk_ok (o : Okx S sc N lev E X) {scope : Scope} {own : List (Str × Nat)} (b : BlkOk N sc scope own) : BlkOk X.N X.env.scope scope own :=
  ⟨b.kind, b.uniq, fun p hp => by rw [o.N]; exact b.ix p hp, fun y hy e => by
    rcases b.free y hy e with k | k
    · exact .inl (o.sub _ _ k (by decide))
    · exact o.subF _ k, fun y hy e => by rw [o.N]; exact b.own y hy e⟩
theorem okx_blk (o : Okx S sc N lev E X) {scope : Scope} {own : List (Str × Nat)} (b : BlkOk N sc scope own) (s : Shared) (H : Hp) (C : Addr) (cl : List (Str × Addr)) (fp : List Addr) : Okx S scope N lev noE2 (X.blk s H scope (compEnvC scope cl C X.env) fp) where
  P := o.P
  w := o.w
  K := o.K
  mg := o.mg
  N := o.N
  nd := o.nd
  calm := o.calm
  base := o.base
  room := o.room
  good := o.good
  sub := fun x k h hk => by
    have := lookup_relS_keep (sc := X.env.scope) hk h
    exact this
  subF := fun x h => by
    have key : ∀ {names : List (Str × NameKind)}, names.lookup x = some .free → (names.map fun (n, k) => if (k == NameKind.free && X.env.scope.kind == .function && X.env.scope.names.lookup n == some .cell) then (n, NameKind.cell) else (n, k)).lookup x = some .cell ∨ (names.map fun (n, k) => if (k == NameKind.free && X.env.scope.kind == .function && X.env.scope.names.lookup n == some .cell) then (n, NameKind.cell) else (n, k)).lookup x = some .free := by
      intro names
      induction names with
      | nil => intro h; cases h
      | cons p r ih =>
        obtain ⟨m, k⟩ := p
        intro h
        show List.lookup x ((if (k == NameKind.free && X.env.scope.kind == .function && X.env.scope.names.lookup m == some .cell) = true then (m, NameKind.cell) else (m, k)) :: (r.map _)) = _ ∨ List.lookup x ((if (k == NameKind.free && X.env.scope.kind == .function && X.env.scope.names.lookup m == some .cell) = true then (m, NameKind.cell) else (m, k)) :: (r.map _)) = _
        cases hx : x == m with
        | true =>
          simp only [List.lookup_cons, hx] at h
          cases h
          split
          · exact .inl (by simp only [List.lookup_cons, hx])
          · exact .inr (by simp only [List.lookup_cons, hx])
        | false =>
          simp only [List.lookup_cons, hx] at h
          split
          · simpa only [List.lookup_cons, hx] using ih h
          · simpa only [List.lookup_cons, hx] using ih h
    exact key h
  stf := fun x h => by
    simp only [scLoc, Bool.or_eq_true, scIs_iff] at h
    rcases h with h | h
    · refine .inr ?_
      have := lookup_relS_keep (sc := X.env.scope) (x := x) (k := .local) (by decide) h
      exact this
    · refine .inl ?_
      show (scope.names.lookup x == some .cell) = true
      rw [h]; rfl
  pass := fun σ pins H s e s' I c => by
    obtain ⟨a, B, H', cls, d, _, _, _, _, _, _, _, hE⟩ := c
    exact hE
  own := PassesOwn.never
  tk := fun u s' ⟨a, B, sI, pins, σ, H, cls, d, e, I, nb, up, sky, na, os, ag, w⟩ => w
/-! ### tests -/
structure CT (S : Sx) where
  ev : Lo → Gh → Res Bool
  chk : List Str → Scope → List Expr → Bool
  pt : ∀ {sc N lev E X es}, Okx S sc N lev E X → chk N sc es = true → PTs X es (WT S E ev)
theorem pts_imp {X : Cx} {es : List Expr} {t t' : TT} (h : PTs X es t) (i : ∀ σ H Q, t' σ H Q → t σ H Q) : PTs X es t' := ⟨fun pins s σ H Q I hw => h.run pins s σ H Q I (i σ H Q hw)⟩
def t0 : CT S := ⟨fun _ G => .ok true G, fun _ _ es => es.isEmpty, fun {sc N lev E X es} o h => by
  cases es with
  | cons _ _ => cases h
  | nil =>
    refine pts_imp pts_nil fun σ H Q q => ?_
    obtain ⟨ρ, L, G, R, l, p⟩ := q
    exact p ρ H true (Ext.refl _ _ _) R rfl⟩
def kt1 (a : CE S) (N : List Str) (sc : Scope) : List Expr → Bool
  | [e] => a.chk N sc e
  | _ => false
def t1 (a : CE S) : CT S := ⟨a.tv, kt1 a, fun {sc N lev E X es} o h => by
  cases es with
  | nil => cases h
  | cons e es =>
    cases es with
    | cons _ _ => cases h
    | nil => exact pts_one (a.pt o h)⟩
/-! ### one clause -/
def appD (d : Nat) (y : Va) (G : Gh) : Option VO → Res Unit
  | some (.lst false acc) => if acc.length < sizeLine then .ok () (G.set d (.lst false (acc ++ [y]))) else .no
  | _ => .no
def lcY (d : Nat) (te : Lo → Gh → Res Va) (L : Lo) (G : Gh) (b : Bool) : Res Unit := if b = true then (noex (te L G)).bind fun y G3 => appD d y G3 G3[d]? else .ok () G
def lcT (d : Nat) (g : Va → Lo → Gh → Res Lo) (tt : Lo → Gh → Res Bool) (te : Lo → Gh → Res Va) (L : Lo) (v : Va) (G : Gh) : Res Unit :=
  (noex (g v L G)).bind fun L2 G1 => (noex (tt L2 G1)).bind fun b G2 => lcY d te L2 G2 b
def lcL (src : Src) (turn : Va → Gh → Res Unit) : Nat → Nat → Gh → Res Unit
  | 0, _, _ => .no
  | m + 1, i, G => match nxt src i G with
    | none => .no
    | some none => .ok () G
    | some (some v) => (turn v G).bind fun _ G' => lcL src turn m (i + 1) G'
def wipeL (L : Lo) : List Nat → Lo
  | [] => L
  | v :: vs => (wipeL L vs).set v none
def fuelC : Nat := 1000000
def lcE (it : Lo → Gh → Res Src) (g : Va → Lo → Gh → Res Lo) (tt : Lo → Gh → Res Bool) (te : Lo → Gh → Res Va) (vs : List Nat) : Lo → Gh → Res Va := fun L G =>
  (it L G).bind fun src G1 => (lcL src (lcT G1.length g tt te (wipeL L vs)) fuelC 0 (G1 ++ [.lst false []])).bind fun _ G2 => .ok (.ref G1.length) G2
theorem lr_wipe {L : Lo} {σ : L2.St} (l : LR S ρ n H L σ) : ∀ vs, LR S ρ n H (wipeL L vs) (wipe σ vs)
  | [] => l
  | v :: vs => fun i x h => by
    have ih := lr_wipe l vs
    unfold wipeL at h
    unfold wipe
    by_cases e : v = i
    · subst e
      by_cases hv : v < (wipeL L vs).length
      · rw [List.getElem?_set_self hv] at h; cases h
      · rw [List.getElem?_eq_none (by simpa using hv)] at h; cases h
    · rw [List.getElem?_set_ne e] at h
      obtain ⟨y, h1, h2⟩ := ih i x h
      exact ⟨y, by rw [List.getElem?_set_ne e]; exact h1, h2⟩
theorem wipe_get {σ : L2.St} {i : Nat} : ∀ {vs : List Nat}, i ∉ vs → (wipe σ vs)[i]? = σ[i]?
  | [], _ => rfl
  | v :: vs, h => by
    unfold wipe
    rw [List.getElem?_set_ne fun e => h (by simp [e])]
    exact wipe_get fun z => h (List.mem_cons_of_mem _ z)
theorem wipe_none {σ : L2.St} {i : Nat} : ∀ {vs : List Nat}, i ∈ vs → i < σ.length → (wipe σ vs)[i]? = some none
  | v :: vs, h, hi => by
    unfold wipe
    by_cases e : v = i
    · subst e
      exact List.getElem?_set_self (by rw [wipe_length]; exact hi)
    · rw [List.getElem?_set_ne e]
      rcases List.mem_cons.mp h with z | z
      · exact absurd z.symm e
      · exact wipe_none z hi
theorem same_wipe {σ σ' : L2.St} {sl vs : List Nat} (h : Same sl (wipe σ vs) σ') (hs : ∀ i ∈ sl, i ∈ vs) : wipe σ' vs = wipe σ vs := by
  have hl : σ'.length = σ.length := by rw [h.1, wipe_length]
  apply List.ext_getElem?
  intro i
  by_cases hi : i < σ.length
  · by_cases hv : i ∈ vs
    · rw [wipe_none hv hi, wipe_none hv (by rw [hl]; exact hi)]
    · rw [wipe_get hv, h.2 i fun z => hv (hs i z)]
  · rw [List.getElem?_eq_none (by rw [wipe_length, hl]; omega), List.getElem?_eq_none (by rw [wipe_length]; omega)]
theorem nxt_cases {α : Type} (src : Src) (turn : Va → Gh → Res Unit) (m i : Nat) (G : Gh) : (nxt src i G = none ∧ lcL src turn (m + 1) i G = .no) ∨ (nxt src i G = some none ∧ lcL src turn (m + 1) i G = .ok () G) ∨ ∃ v, nxt src i G = some (some v) ∧ lcL src turn (m + 1) i G = (turn v G).bind fun _ G' => lcL src turn m (i + 1) G' := by
  show (_ ∧ (match nxt src i G with | none => Res.no | some none => .ok () G | some (some v) => (turn v G).bind fun _ G' => lcL src turn m (i + 1) G') = _) ∨ (_ ∧ (match nxt src i G with | none => Res.no | some none => .ok () G | some (some v) => (turn v G).bind fun _ G' => lcL src turn m (i + 1) G') = _) ∨ ∃ v, _ ∧ (match nxt src i G with | none => Res.no | some none => .ok () G | some (some v) => (turn v G).bind fun _ G' => lcL src turn m (i + 1) G') = _
  cases nxt src i G with
  | none => exact .inl ⟨rfl, rfl⟩
  | some o =>
    cases o with
    | none => exact .inr (.inl ⟨rfl, rfl⟩)
    | some v => exact .inr (.inr ⟨v, rfl, rfl⟩)
/-- the machine's list comprehension is what the layer asks -/
theorem lc_we {it : Lo → Gh → Res Src} {g : Va → Lo → Gh → Res Lo} {sl : List Nat} {tt : Lo → Gh → Res Bool} {te : Lo → Gh → Res Va} {vs : List Nat} (hs : ∀ i ∈ sl, i ∈ vs) {σ : L2.St} {H : Hp} {Q : VK} (q : WE S E (lcE it g tt te vs) σ H Q) :
    tLc (WI S E it) (WGt S sl g) (WT S noE2 tt) (WE S noE2 te) vs σ H Q := by
  obtain ⟨ρ, L, G, R, l, p⟩ := q
  refine ⟨ρ, L, G, R, l, Post.bind p fun src G1 ρ1 H1 J e1 R1 r1 p1 => ?_⟩
  intro D hD
  have l1 : LR S ρ1 G1.length H1 (wipeL L vs) (wipe σ vs) := lr_wipe (l.mono e1) vs
  obtain ⟨R2, e2, v2⟩ := rl_lst R1 (xs := []) VRs.nil hD
  generalize hd : G1.length = d at *
  generalize hρ : put ρ1 d D = ρ2 at *
  generalize hH : upd H1 D (.lst []) = H2 at *
  obtain ⟨hdl, hD2⟩ := vr_ref v2
  have hD2 : ρ2 d = D := by injection hD2 with z; exact z.symm
  generalize hG : G1 ++ [VO.lst false []] = G2 at *
  refine ⟨fun i m H => ∃ ρ' G', Ext ρ2 G2.length H2 ρ' G'.length H ∧ Rl S ρ' G' H ∧ Post S (VR S) (E σ) ρ' G'.length H Q ((lcL src (lcT d g tt te (wipeL L vs)) m i G').bind fun _ G2 => .ok (.ref d) G2), ⟨fuelC, ρ2, G2, Ext.refl _ _ _, R2, Post.after p1 e2⟩, ?_⟩
  rintro i m H3 ⟨ρ3, G3, e3, R3, p3⟩
  have hd3 : d < G3.length := Nat.lt_of_lt_of_le hdl e3.le
  have hD3 : ρ3 d = D := (e3.eq d hdl).trans hD2
  cases m with
  | zero => exact p3.elim
  | succ m =>
    have ir := r1 ρ3 G3 H3 i (e2.trans e3) R3
    rcases nxt_cases (α := Unit) src (lcT d g tt te (wipeL L vs)) m i G3 with ⟨h1, h2⟩ | ⟨h1, h2⟩ | ⟨v, h1, h2⟩
    · rw [h2] at p3; exact p3.elim
    · rw [h2] at p3
      refine .inl ⟨ir.2 h1, p3 ρ3 H3 _ (Ext.refl _ _ _) R3 ?_⟩
      unfold VR
      exact ⟨hd3, by rw [hD3]⟩
    · rw [h2] at p3
      obtain ⟨go, yl⟩ := ir.1 v h1
      refine .inr ⟨go, fun H' => ∃ ρ' G', Ext ρ2 G2.length H2 ρ' G'.length H' ∧ Rl S ρ' G' H' ∧ Post S (VR S) (E σ) ρ' G'.length H' Q ((lcL src (lcT d g tt te (wipeL L vs)) m (i + 1) G').bind fun _ G2 => .ok (.ref d) G2), fun H' z => ⟨m, Nat.lt_succ_self m, z⟩, fun x H4 y => ?_⟩
      obtain ⟨e4, R4, r4⟩ := yl x H4 y
      have l4 : LR S ρ3 G3.length H4 (wipeL L vs) (wipe σ vs) := l1.mono ((e2.trans e3).trans e4)
      have p4 := Post.after p3 e4
      have as1 : ∀ {α β γ : Type} (r : Res α) (f : α → Gh → Res β) (k : β → Gh → Res γ), (r.bind f).bind k = r.bind fun a G => (f a G).bind k := fun r f k => by cases r <;> rfl
      have p4 : Post S (VR S) (E σ) ρ3 G3.length H4 Q ((noex (g v (wipeL L vs) G3)).bind fun L2 G5 => ((noex (tt L2 G5)).bind fun b G6 => lcY d te L2 G6 b).bind fun _ G7 => (lcL src (lcT d g tt te (wipeL L vs)) m (i + 1) G7).bind fun _ G2 => .ok (.ref d) G2) := by
        have z := p4
        unfold lcT at z
        rw [as1, as1] at z
        exact z
      refine ⟨ρ3, wipeL L vs, G3, v, R4, l4, r4, Post.bindN (ra := GR S sl (wipe σ vs)) p4 fun L5 G5 ρ5 H5 σ5 e5 R5 l5 p5 => ?_⟩
      refine ⟨same_wipe l5.2 hs, ?_⟩
      have p5 : Post S (VR S) (E σ) ρ5 G5.length H5 Q ((noex (tt L5 G5)).bind fun b G6 => (lcY d te L5 G6 b).bind fun _ G7 => (lcL src (lcT d g tt te (wipeL L vs)) m (i + 1) G7).bind fun _ G2 => .ok (.ref d) G2) := by
        rw [as1] at p5; exact p5
      refine ⟨ρ5, L5, G5, R5, l5.1, Post.bindN (ra := relB) p5 fun b G6 ρ6 H6 b' e6 R6 r6 p6 => ?_⟩
      obtain rfl : b = b' := r6
      have e26 := (((e3.trans e4).trans e5).trans e6)
      by_cases hb : b = true
      · rw [if_pos hb]
        have p6 : Post S (VR S) (E σ) ρ6 G6.length H6 Q ((noex (te L5 G6)).bind fun y G7 => (appD d y G7 G7[d]?).bind fun _ G7 => (lcL src (lcT d g tt te (wipeL L vs)) m (i + 1) G7).bind fun _ G2 => .ok (.ref d) G2) := by
          have z := p6
          unfold lcY at z
          rw [if_pos hb, as1] at z
          exact z
        refine ⟨ρ6, L5, G6, R6, l5.1.mono e6, Post.bindN (ra := VR S) p6 fun y G7 ρ7 H7 y' e7 R7 r7 p7 => ?_⟩
        have e27 := e26.trans e7
        have hd7 : d < G7.length := Nat.lt_of_lt_of_le hdl e27.le
        have hD7 : ρ7 d = D := (e27.eq d hdl).trans hD2
        obtain ⟨u, hu⟩ := get_of hd7
        rw [hu] at p7
        cases u with
        | lst fz acc =>
          cases fz with
          | true => exact p7.elim
          | false =>
            have p7 : Post S (VR S) (E σ) ρ7 G7.length H7 Q ((if acc.length < sizeLine then .ok () (G7.set d (.lst false (acc ++ [y]))) else Res.no).bind fun _ G7 => (lcL src (lcT d g tt te (wipeL L vs)) m (i + 1) G7).bind fun _ G2 => .ok (.ref d) G2) := p7
            split at p7
            · rename_i hz
              obtain ⟨ys, k1, k2⟩ := R7.ob d _ hu
              rw [hD7] at k1
              have w := R7.write (o' := .lst false (acc ++ [y])) (u := .lst (ys ++ [y'])) hu rfl rfl (fun xs z => by rw [hD7, k1] at z; cases z) (fun b v z => by rw [hD7, k1] at z; cases z) (fun ρ' hρ' ex => by
                subst hρ'
                exact ⟨_, upd_same, (k2.append (VRs.cons r7 .nil)).mono ex⟩)
              rw [hD7] at w
              exact ⟨ys, k1, by rw [k2.length]; exact hz, ρ7, _, e27.trans w.2, w.1, Post.after p7 w.2⟩
            · exact p7.elim
        | _ => exact p7.elim
      · rw [if_neg hb]
        have p6 : Post S (VR S) (E σ) ρ6 G6.length H6 Q ((lcL src (lcT d g tt te (wipeL L vs)) m (i + 1) G6).bind fun _ G2 => .ok (.ref d) G2) := by
          have z := p6
          unfold lcY at z
          rw [if_neg hb] at z
          exact z
        exact ⟨ρ6, G6, e26, R6, p6⟩
def kLc (it : CI S) (g : CG S) (tt : CT S) (te : CE S) (own : List (Str × Nat)) (N : List Str) (sc : Scope) : Expr → Bool
  | .ListComp elt [⟨tg, iter, ifs, 0⟩] scope _ => blkC N sc scope own && (!isSetE iter && (it.chk N sc tg iter && (g.chk N scope tg && (tt.chk N scope ifs && (te.chk N scope elt && g.sl.all fun i => (own.map (·.2)).contains i)))))
  | _ => false
theorem cLc_pe (it : CI S) (g : CG S) (tt : CT S) (te : CE S) (own : List (Str × Nat)) {e : Expr} (o : Okx S sc N lev E X) (h : kLc it g tt te own N sc e = true) : PE X e (WE S E (lcE it.ev g.ev tt.ev te.ev (own.map (·.2)))) := by
  unfold kLc at h
  split at h
  · simp only [Bool.and_eq_true, Bool.not_eq_true'] at h
    obtain ⟨h1, h2, h3, h4, h5, h6, h7⟩ := h
    have B := blkOk_by h1
    refine pe_imp (pe_lc o.calm o.nd (it.pi o h3) (blk_ok o B) (fun s H C cl fp => g.pg (okx_blk o B s H C cl fp) h4) (fun s H C cl fp => tt.pt (okx_blk o B s H C cl fp) h5) (fun s H C cl fp => te.pe (okx_blk o B s H C cl fp) h6) (folded_plain h2)) fun σ H Q q => lc_we (fun i hi => ?_) q
    have := List.all_eq_true.mp h7 i hi
    simpa using this
  · cases h
def cLc (it : CI S) (g : CG S) (tt : CT S) (te : CE S) (own : List (Str × Nat)) : CE S := .plain (lcE it.ev g.ev tt.ev te.ev (own.map (·.2))) (kLc it g tt te own) (cLc_pe it g tt te own) fun N sc e h => by cases e <;> first | exact ⟨rfl, rfl⟩ | cases h
end
end VM
/-! VMn: statements -/
namespace VM
open PySem PySem.Spec PyProof.Rows L2
inductive SR where
  | nx (L : Lo) (G : Gh) | bk (L : Lo) (G : Gh) | ct (L : Lo) (G : Gh) | rt (v : Va) (G : Gh) | ex (c : Nat) (fs : List (Nat × Va)) (L : Lo) (G : Gh) | no
/-- an expression ahead of what a statement does -/
def sx {α : Type} (r : Res α) (L : Lo) (k : α → Gh → SR) : SR :=
  match r with
  | .ok a G => k a G
  | .ex c fs G => .ex c fs L G
  | .no => .no
def sq (r : SR) (k : Lo → Gh → SR) : SR :=
  match r with
  | .nx L G => k L G
  | r => r
def PostS (S : Sx) (D : Ends) (E : EW) (ρ : Nat → Addr) (n : Nat) (H : Hp) (r : SR) : Prop :=
  match r with
  | .nx L G => ∀ ρ' H' σ', Ext ρ n H ρ' G.length H' → Rl S ρ' G H' → LR S ρ' G.length H' L σ' → D.nx σ' H'
  | .bk L G => ∀ ρ' H' σ', Ext ρ n H ρ' G.length H' → Rl S ρ' G H' → LR S ρ' G.length H' L σ' → D.bk σ' H'
  | .ct L G => ∀ ρ' H' σ', Ext ρ n H ρ' G.length H' → Rl S ρ' G H' → LR S ρ' G.length H' L σ' → D.ct σ' H'
  | .rt v G => ∀ ρ' H' v', Ext ρ n H ρ' G.length H' → Rl S ρ' G H' → VR S ρ' G.length H' v v' → D.rt v' H'
  | .ex c fs L G => ∀ ρ' H' σ' d fs', Ext ρ n H ρ' G.length H' → Rl S ρ' G H' → LR S ρ' G.length H' L σ' → FR S ρ' G.length H' fs fs' → H' d = some (.xd fs') → E σ' (.ref (S.ca c)) (some d) H'
  | .no => False
def WS (S : Sx) (E : EW) (ev : Lo → Gh → SR) : TS := fun D σ H => ∃ ρ L G, Rl S ρ G H ∧ LR S ρ G.length H L σ ∧ PostS S D E ρ G.length H (ev L G)
structure CS (S : Sx) where
  ev : Lo → Gh → SR
  chk : List Str → Scope → Stmt → Bool
  ps : ∀ {sc N lev E X st}, Okx S sc N lev E X → chk N sc st = true → PS X st (WS S E ev)
structure CB (S : Sx) where
  ev : Lo → Gh → SR
  chk : List Str → Scope → List Stmt → Bool
  ps : ∀ {sc N lev E X st}, Okx S sc N lev E X → chk N sc st = true → PSs X st (WS S E ev)
theorem ps_imp {X : Cx} {st : Stmt} {t t' : TS} (h : PS X st t) (i : ∀ D σ H, t' D σ H → t D σ H) : PS X st t' := ⟨fun pins s σ H D I hw => h.run pins s σ H D I (i D σ H hw)⟩
theorem pss_imp {X : Cx} {st : List Stmt} {t t' : TS} (h : PSs X st t) (i : ∀ D σ H, t' D σ H → t D σ H) : PSs X st t' := ⟨fun pins s σ H D I hw => h.run pins s σ H D I (i D σ H hw)⟩
section
variable {S : Sx} {sc : Scope} {N : List Str} {lev : Nat} {E : EW} {X : Cx} {ρ ρ' : Nat → Addr} {G : Gh} {H H' : Hp} {n n' : Nat} {D : Ends}
theorem PostS.after {r : SR} (p : PostS S D E ρ n H r) (e : Ext ρ n H ρ' n' H') : PostS S D E ρ' n' H' r := by
  cases r with
  | nx L G => exact fun ρ2 H2 v2 e2 => p ρ2 H2 v2 (e.trans e2)
  | bk L G => exact fun ρ2 H2 v2 e2 => p ρ2 H2 v2 (e.trans e2)
  | ct L G => exact fun ρ2 H2 v2 e2 => p ρ2 H2 v2 (e.trans e2)
  | rt L G => exact fun ρ2 H2 v2 e2 => p ρ2 H2 v2 (e.trans e2)
  | ex c fs L G => exact fun ρ2 H2 σ2 d fs' e2 => p ρ2 H2 σ2 d fs' (e.trans e2)
  | no => exact p
theorem PostS.sx {α β : Type} {ra : RelT α β} {Q1 : β → Hp → Prop} {r : Res α} {L : Lo} {σ : L2.St} {k : α → Gh → SR} (p : PostS S D E ρ n H (sx r L k)) (l : LR S ρ n H L σ)
    (h : ∀ (a : α) (G' : Gh) (ρ' : Nat → Addr) (H' : Hp) (x : β), Ext ρ n H ρ' G'.length H' → Rl S ρ' G' H' → ra ρ' G'.length H' a x → PostS S D E ρ' G'.length H' (k a G') → Q1 x H') : Post S ra (E σ) ρ n H Q1 r := by
  cases r with
  | ok a G => exact fun ρ2 H2 v2 e2 R2 r2 => h a G ρ2 H2 v2 e2 R2 r2 (PostS.after (r := k a G) p e2)
  | ex c fs G => exact fun ρ2 H2 d fs' e2 R2 f2 hd => p ρ2 H2 σ d fs' e2 R2 (l.mono e2) f2 hd
  | no => exact p
theorem PostS.sxN {α β : Type} {ra : RelT α β} {Q1 : β → Hp → Prop} {E1 : XK} {r : Res α} {L : Lo} {k : α → Gh → SR} (p : PostS S D E ρ n H (VM.sx (noex r) L k))
    (h : ∀ (a : α) (G' : Gh) (ρ' : Nat → Addr) (H' : Hp) (x : β), Ext ρ n H ρ' G'.length H' → Rl S ρ' G' H' → ra ρ' G'.length H' a x → PostS S D E ρ' G'.length H' (k a G') → Q1 x H') : Post S ra E1 ρ n H Q1 r := by
  cases r with
  | ok a G => exact fun ρ2 H2 v2 e2 R2 r2 => h a G ρ2 H2 v2 e2 R2 r2 (PostS.after (r := k a G) p e2)
  | ex c fs G => exact (show False from p).elim
  | no => exact (show False from p).elim
/-- a statement ahead of others: the wish for the first -/
theorem PostS.sq {r : SR} {k : Lo → Gh → SR} {D1 : Ends} (p : PostS S D E ρ n H (sq r k)) (hr : D1.rt = D.rt) (hb : D1.bk = D.bk) (hc : D1.ct = D.ct)
    (h : ∀ (L : Lo) (G' : Gh) (ρ' : Nat → Addr) (H' : Hp) (σ' : L2.St), Ext ρ n H ρ' G'.length H' → Rl S ρ' G' H' → LR S ρ' G'.length H' L σ' → PostS S D E ρ' G'.length H' (k L G') → D1.nx σ' H') : PostS S D1 E ρ n H r := by
  cases r with
  | nx L G => exact fun ρ2 H2 v2 e2 R2 r2 => h L G ρ2 H2 v2 e2 R2 r2 (PostS.after (r := k L G) p e2)
  | bk L G => intro a b c d e f; rw [hb]; exact p a b c d e f
  | ct L G => intro a b c d e f; rw [hc]; exact p a b c d e f
  | rt L G => intro a b c d e f; rw [hr]; exact p a b c d e f
  | ex c fs L G => exact p
  | no => exact p
/-! ### blocks -/
def bNil : CB S := ⟨fun L G => .nx L G, fun _ _ st => st.isEmpty, fun {sc N lev E X st} o h => by
  cases st with
  | cons _ _ => cases h
  | nil =>
    refine pss_imp pss_nil fun D σ H q => ?_
    obtain ⟨ρ, L, G, R, l, p⟩ := q
    exact p ρ H σ (Ext.refl _ _ _) R l⟩
def kbC (a : CS S) (r : CB S) (N : List Str) (sc : Scope) : List Stmt → Bool
  | st :: rest => a.chk N sc st && r.chk N sc rest
  | [] => false
def bCons (a : CS S) (r : CB S) : CB S := ⟨fun L G => sq (a.ev L G) r.ev, kbC a r, fun {sc N lev E X st} o h => by
  cases st with
  | nil => cases h
  | cons st rest =>
    simp only [kbC, Bool.and_eq_true] at h
    refine pss_imp (pss_cons (a.ps o h.1) (r.ps o h.2)) fun D σ H q => ?_
    obtain ⟨ρ, L, G, R, l, p⟩ := q
    exact ⟨ρ, L, G, R, l, PostS.sq (k := r.ev) p rfl rfl rfl fun L1 G1 ρ1 H1 σ1 e1 R1 l1 p1 => ⟨ρ1, L1, G1, R1, l1, p1⟩⟩⟩
/-! ### small statements -/
def sNever : CS S := ⟨fun _ _ => .no, fun _ _ _ => true, fun {sc N lev E X st} o h => ps_imp ps_never fun D σ H q => by
  obtain ⟨ρ, L, G, R, l, p⟩ := q
  exact p⟩
def kPass (N : List Str) (sc : Scope) : Stmt → Bool
  | .Pass _ => true
  | .Expr (.Constant (.str _) _ _) _ => true
  | _ => false
def sPass : CS S := ⟨fun L G => .nx L G, kPass, fun {sc N lev E X st} o h => by
  unfold kPass at h
  split at h
  · refine ps_imp ps_pass fun D σ H q => ?_
    obtain ⟨ρ, L, G, R, l, p⟩ := q
    exact p ρ H σ (Ext.refl _ _ _) R l
  · refine ps_imp ps_doc fun D σ H q => ?_
    obtain ⟨ρ, L, G, R, l, p⟩ := q
    exact p ρ H σ (Ext.refl _ _ _) R l
  · cases h⟩
def kBreak (N : List Str) (sc : Scope) : Stmt → Bool
  | .Break _ => true
  | _ => false
def sBreak : CS S := ⟨fun L G => .bk L G, kBreak, fun {sc N lev E X st} o h => by
  unfold kBreak at h
  split at h
  · refine ps_imp ps_break fun D σ H q => ?_
    obtain ⟨ρ, L, G, R, l, p⟩ := q
    exact p ρ H σ (Ext.refl _ _ _) R l
  · cases h⟩
def kCont (N : List Str) (sc : Scope) : Stmt → Bool
  | .Continue _ => true
  | _ => false
def sCont : CS S := ⟨fun L G => .ct L G, kCont, fun {sc N lev E X st} o h => by
  unfold kCont at h
  split at h
  · refine ps_imp ps_continue fun D σ H q => ?_
    obtain ⟨ρ, L, G, R, l, p⟩ := q
    exact p ρ H σ (Ext.refl _ _ _) R l
  · cases h⟩
def kRet (a : CE S) (N : List Str) (sc : Scope) : Stmt → Bool
  | .Return (some e) _ => a.chk N sc e
  | _ => false
def sRet (a : CE S) : CS S := ⟨fun L G => sx (a.ev L G) L fun v G1 => .rt v G1, kRet a, fun {sc N lev E X st} o h => by
  unfold kRet at h
  split at h
  · refine ps_imp (ps_ret (a.pe o h)) fun D σ H q => ?_
    obtain ⟨ρ, L, G, R, l, p⟩ := q
    exact ⟨ρ, L, G, R, l, PostS.sx (k := fun v G1 => .rt v G1) p l fun v G1 ρ1 H1 x e1 R1 r1 p1 => p1 ρ1 H1 x (Ext.refl _ _ _) R1 r1⟩
  · cases h⟩
def kRetN (N : List Str) (sc : Scope) : Stmt → Bool
  | .Return none _ => true
  | _ => false
def sRetN : CS S := ⟨fun L G => .rt .non G, kRetN, fun {sc N lev E X st} o h => by
  unfold kRetN at h
  split at h
  · refine ps_imp ps_retN fun D σ H q => ?_
    obtain ⟨ρ, L, G, R, l, p⟩ := q
    exact p ρ H _ (Ext.refl _ _ _) R vr_non'
  · cases h⟩
def kExpr (a : CE S) (N : List Str) (sc : Scope) : Stmt → Bool
  | .Expr e _ => !isComp e && a.chk N sc e
  | _ => false
def sExpr (a : CE S) : CS S := ⟨fun L G => sx (a.ev L G) L fun _ G1 => .nx L G1, kExpr a, fun {sc N lev E X st} o h => by
  unfold kExpr at h
  split at h
  · simp only [Bool.and_eq_true, Bool.not_eq_true'] at h
    refine ps_imp (ps_expr (a.pe o h.2) (swaps_plain h.1)) fun D σ H q => ?_
    obtain ⟨ρ, L, G, R, l, p⟩ := q
    exact ⟨ρ, L, G, R, l, PostS.sx (k := fun v G1 => .nx L G1) p l fun v G1 ρ1 H1 x e1 R1 r1 p1 => p1 ρ1 H1 σ (Ext.refl _ _ _) R1 (l.mono e1)⟩
  · cases h⟩
def kIfS (c : CE S) (a b : CB S) (N : List Str) (sc : Scope) : Stmt → Bool
  | .If e x y _ => c.chk N sc e && (a.chk N sc x && b.chk N sc y)
  | _ => false
def ifE (b : Bool) (x y : SR) : SR := if b = true then x else y
def sIf (c : CE S) (a b : CB S) : CS S := ⟨fun L G => sx (c.tv L G) L fun t G1 => ifE t (a.ev L G1) (b.ev L G1), kIfS c a b, fun {sc N lev E X st} o h => by
  unfold kIfS at h
  split at h
  · simp only [Bool.and_eq_true] at h
    refine ps_imp (ps_if (c.pt o h.1) (a.ps o h.2.1) (b.ps o h.2.2)) fun D σ H q => ?_
    obtain ⟨ρ, L, G, R, l, p⟩ := q
    refine ⟨ρ, L, G, R, l, PostS.sx (ra := relB) (k := fun t G1 => ifE t (a.ev L G1) (b.ev L G1)) p l fun t G1 ρ1 H1 x e1 R1 r1 p1 => ?_⟩
    obtain rfl : t = x := r1
    unfold ifE at p1
    split
    · rename_i ht
      rw [if_pos ht] at p1
      exact ⟨ρ1, L, G1, R1, l.mono e1, p1⟩
    · rename_i ht
      rw [if_neg ht] at p1
      exact ⟨ρ1, L, G1, R1, l.mono e1, p1⟩
  · cases h⟩
/-! ### assignments -/
/-- no swapped stores, by the text alone -/
def nmOk (sc : Scope) : Expr → Bool
  | .Name x _ => scLoc sc x
  | _ => true
def starAny (vs : List Expr) : Bool := vs.any isStar
def locNames (sc : Scope) (ts : List Expr) (line : Nat) : List Str := ts.filterMap fun
  | .Name id pos => if scIs sc id .local && pos.line == line then some id else none
  | _ => none
def swNone (sc : Scope) (ts vs : List Expr) : Bool :=
  !(ts.length == 2 || ts.length == 3) || vs.length != ts.length || starAny vs ||
    ((locNames sc ts ((ts.head?.map (·.pos.line)).getD 0)).length != ts.length || (locNames sc ts ((ts.head?.map (·.pos.line)).getD 0)).eraseDups.length != (locNames sc ts ((ts.head?.map (·.pos.line)).getD 0)).length) || vs.all (foldedForSure 8)
def swOk (sc : Scope) : Expr → Expr → Bool
  | .Tuple ts _ _, .Tuple vs _ _ => ts.all (nmOk sc) && swNone sc ts vs
  | .List _ _, .Tuple _ _ _ => false
  | _, _ => true
theorem names_eq (o : Okx S sc N lev E X) {line : Nat} : ∀ {ts : List Expr}, ts.all (nmOk sc) = true → (ts.filterMap fun
    | .Name id pos => if X.env.kindOf id == some .local && pos.line == line then some id else none
    | _ => none) = locNames sc ts line
  | [], _ => rfl
  | t :: ts, h => by
    simp only [List.all_cons, Bool.and_eq_true] at h
    have ih := names_eq o (line := line) (ts := ts) h.2
    unfold locNames at ih ⊢
    rw [List.filterMap_cons, List.filterMap_cons, ih]
    cases t with
    | Name id pos =>
      have hk : (X.env.kindOf id == some .local) = scIs sc id .local := by
        have h1 : scLoc sc id = true := h.1
        simp only [scLoc, Bool.or_eq_true, scIs_iff] at h1
        rcases h1 with h1 | h1
        · have : X.env.kindOf id = some .local := o.sub _ _ h1 (by decide)
          rw [this, scIs_iff.mpr h1]; rfl
        · have : X.env.kindOf id = some .cell := o.sub _ _ h1 (by decide)
          rw [this]
          unfold scIs
          rw [h1]
          rfl
      simp only [hk]
    | _ => rfl
theorem blockKind_fn (ok : X.Ok) : X.env.blockKind = .function := by unfold Env.blockKind; rw [ok.kind]; rfl
theorem sw_none (o : Okx S sc N lev E X) (ok : X.Ok) {tg e : Expr} (h : swOk sc tg e = true) : swappedStores [tg] e X.env = pure none := by
  cases tg with
  | Tuple ts k p =>
    cases e with
    | Tuple vs k2 p2 =>
      have h : (ts.all (nmOk sc) && swNone sc ts vs) = true := h
      rw [Bool.and_eq_true] at h
      obtain ⟨h1, h2⟩ := h
      unfold swappedStores
      have nm := names_eq o (line := (ts.head?.map (·.pos.line)).getD 0) h1
      unfold swNone at h2
      simp only [Bool.or_eq_true] at h2
      show (if (!(ts.length == 2 || ts.length == 3) || vs.length != ts.length || X.env.blockKind != .function) = true then pure none else _) = _
      by_cases c1 : (!(ts.length == 2 || ts.length == 3) || vs.length != ts.length || X.env.blockKind != .function) = true
      · rw [if_pos c1]
      · rw [if_neg c1]
        simp only [Bool.or_eq_true, not_or] at c1
        by_cases c2 : starAny vs = true
        · exact if_pos c2
        · refine (if_neg c2).trans ?_
          show (if ((ts.filterMap fun
            | .Name id pos => if X.env.kindOf id == some .local && pos.line == ((ts.head?.map (·.pos.line)).getD 0) then some id else none
            | _ => none).length != ts.length || (ts.filterMap fun
            | .Name id pos => if X.env.kindOf id == some .local && pos.line == ((ts.head?.map (·.pos.line)).getD 0) then some id else none
            | _ => none).eraseDups.length != (ts.filterMap fun
            | .Name id pos => if X.env.kindOf id == some .local && pos.line == ((ts.head?.map (·.pos.line)).getD 0) then some id else none
            | _ => none).length) = true then pure none else _) = _
          rw [nm]
          by_cases c3 : ((locNames sc ts ((ts.head?.map (·.pos.line)).getD 0)).length != ts.length || (locNames sc ts ((ts.head?.map (·.pos.line)).getD 0)).eraseDups.length != (locNames sc ts ((ts.head?.map (·.pos.line)).getD 0)).length) = true
          · rw [if_pos c3]
          · rw [if_neg c3]
            have c4 : vs.all (foldedForSure 8) = true := by
              rcases h2 with ((h2 | h2) | h2) | h2
              · rcases h2 with h2 | h2
                · exact absurd h2 c1.1.1
                · exact absurd h2 c1.1.2
              · exact absurd h2 c2
              · exact absurd (by rw [Bool.or_eq_true]; exact h2) c3
              · exact h2
            exact if_pos c4
    | _ => rfl
  | List ts p =>
    cases e with
    | Tuple vs k2 p2 => cases h
    | _ => rfl
  | _ => rfl
theorem sole_plain {tg e : Expr} {l : Nat} {env : Env} (h : isComp e = false) : swapsWithSole [tg] e l env = pure false := swaps_plain h
end
end VM
/-! VMo: assignments -/
namespace VM
open PySem PySem.Spec PyProof.Rows L2
def notName : Expr → Bool
  | .Name .. => false
  | _ => true
section
variable {S : Sx} {sc : Scope} {N : List Str} {lev : Nat} {E : EW} {X : Cx} {ρ ρ' : Nat → Addr} {G : Gh} {H H' : Hp} {n n' : Nat} {D : Ends}
theorem swaps_tg {tg e : Expr} {l : Nat} {env : Env} (h : (!isComp e || notName tg) = true) : swapsWithSole [tg] e l env = pure false := by
  cases hc : isComp e with
  | false => exact swaps_plain hc
  | true =>
    rw [hc] at h
    have h : notName tg = true := by simpa using h
    cases e <;> first | (cases hc; done) | (cases tg <;> first | rfl | (cases h; done))
def eAsg (a : Lo → Gh → Res Va) (g : Va → Lo → Gh → Res Lo) : Lo → Gh → SR := fun L G => sx (a L G) L fun v G1 => sx (noex (g v L G1)) L fun L2 G2 => .nx L2 G2
theorem asg_we {a : Lo → Gh → Res Va} {g : Va → Lo → Gh → Res Lo} {sl : List Nat} {σ : L2.St} (q : WS S E (eAsg a g) D σ H) : tAsg (WE S E a) (WGt S sl g) D σ H := by
  obtain ⟨ρ, L, G, R, l, p⟩ := q
  refine ⟨ρ, L, G, R, l, PostS.sx (k := fun v G1 => sx (noex (g v L G1)) L fun L2 G2 => .nx L2 G2) p l fun v G1 ρ1 H1 x e1 R1 r1 p1 => ?_⟩
  exact ⟨ρ1, L, G1, v, R1, l.mono e1, r1, PostS.sxN (k := fun L2 G2 => .nx L2 G2) p1 fun L2 G2 ρ2 H2 σ2 e2 R2 r2 p2 => p2 ρ2 H2 σ2 (Ext.refl _ _ _) R2 r2.1⟩
def kAsg (g : CG S) (a : CE S) (N : List Str) (sc : Scope) : Stmt → Bool
  | .Assign [tg] e _ => swOk sc tg e && ((!isComp e || notName tg) && (g.chk N sc tg && a.chk N sc e))
  | _ => false
def sAsg (g : CG S) (a : CE S) : CS S := ⟨eAsg a.ev g.ev, kAsg g a, fun {sc N lev E X st} o h => by
  unfold kAsg at h
  split at h
  · rename_i tg e pos
    rw [Bool.and_eq_true, Bool.and_eq_true, Bool.and_eq_true] at h
    obtain ⟨h1, h2, h3, h4⟩ := h
    refine ⟨fun pins s σ H D I hw => ?_⟩
    exact (ps_asg (a.pe o h4) (g.pg o h3) (swaps_tg h2) (sw_none o I.ok h1) (by rw [g.st h3]; rfl)).run pins s σ H D I (asg_we hw)
  · cases h⟩
/-- name = [..] -/
def kLcS (i : Nat) (it : CI S) (g : CG S) (tt : CT S) (te : CE S) (own : List (Str × Nat)) (N : List Str) (sc : Scope) : Stmt → Bool
  | .Assign [.Name y py] (.ListComp elt [⟨tg, iter, ifs, 0⟩] scope pos) _ => kLc it g tt te own N sc (.ListComp elt [⟨tg, iter, ifs, 0⟩] scope pos) && (decide (N[i]? = some y) && (scIs sc y .local && ((py.line == pos.line) && !(scope.names.any fun (n, k) => n == y && (k == .local || k == .cell)))))
  | _ => false
def sLcS (i : Nat) (it : CI S) (g : CG S) (tt : CT S) (te : CE S) (own : List (Str × Nat)) : CS S := ⟨eAsg (lcE it.ev g.ev tt.ev te.ev (own.map (·.2))) (gNmE i), kLcS i it g tt te own, fun {sc N lev E X st} o h => by
  unfold kLcS at h
  split at h
  · rename_i y py elt tg iter ifs scope pos spos
    simp only [Bool.and_eq_true, Bool.not_eq_true', decide_eq_true_eq] at h
    obtain ⟨h0, h1, h2, h3, h4⟩ := h
    have h0 : (blkC N sc scope own && (!isSetE iter && (it.chk N sc tg iter && (g.chk N scope tg && (tt.chk N scope ifs && (te.chk N scope elt && g.sl.all fun i => (own.map (·.2)).contains i)))))) = true := h0
    simp only [Bool.and_eq_true, Bool.not_eq_true'] at h0
    obtain ⟨k1, k2, k3, k4, k5, k6, k7⟩ := h0
    have B := blkOk_by k1
    have hy : X.env.scope.names.lookup y = some .local := o.sub _ _ (scIs_iff.mp h2) (by decide)
    refine ⟨fun pins s σ H D I hw => ?_⟩
    refine (ps_setLc (i := i) (py := py) (spos := spos) o.calm o.nd (by rw [o.N]; exact h1) hy (sw_true I.ok.kind hy h3 h4) (it.pi o k3) (blk_ok o B) (fun s H C cl fp => g.pg (okx_blk o B s H C cl fp) k4) (fun s H C cl fp => tt.pt (okx_blk o B s H C cl fp) k5) (fun s H C cl fp => te.pe (okx_blk o B s H C cl fp) k6) (folded_plain k2)).run pins s σ H D I ?_
    obtain ⟨ρ, L, G, R, l, p⟩ := hw
    refine lc_we (E := E) (fun i hi => ?_) ⟨ρ, L, G, R, l, PostS.sx (k := fun v G1 => sx (noex (gNmE i v L G1)) L fun L2 G2 => .nx L2 G2) p l fun v G1 ρ1 H1 x e1 R1 r1 p1 => ?_⟩
    · have := List.all_eq_true.mp k7 i hi
      simpa using this
    · have hi : i < σ.length := by
        rw [I.len, o.N]
        exact (List.getElem?_eq_some_iff.mp h1).1
      have p1 : PostS S D E ρ1 G1.length H1 (.nx (L.set i (some v)) G1) := p1
      exact p1 ρ1 H1 _ (Ext.refl _ _ _) R1 ((l.mono e1).set hi r1)
  · cases h⟩
/-- a, b = x, y, plain local names -/
def par2 : List Va → Option (Va × Va)
  | [v, w] => some (v, w)
  | _ => none
def eP2 (i j : Nat) (L : Lo) (G : Gh) : Option (Va × Va) → SR
  | some (v, w) => .nx ((L.set i (some v)).set j (some w)) G
  | none => .no
def sw2 (sc : Scope) (x y : Str) (px py : Pos) (a b : Expr) : Bool := scIs sc x .local && (scIs sc y .local && ((py.line == px.line) && (!(x == y) && ((!isStar a && !isStar b) && (!([a, b].all (foldedForSure 8)) && !([a, b].all (constantsAlone 8)))))))
def kPar (i j : Nat) (args : CA S) (N : List Str) (sc : Scope) : Stmt → Bool
  | .Assign [.Tuple [.Name x px, .Name y py] _ _] (.Tuple [a, b] _ _) _ => sw2 sc x y px py a b && (decide (N[i]? = some x) && (decide (N[j]? = some y) && (decide (i ≠ j) && (args.pl && args.chk N sc [a, b]))))
  | _ => false
theorem sw2_ok (ok : X.Ok) {x y : Str} {px py pt pt2 : Pos} {kt k2 : Nat} {a b : Expr} (hx : X.env.scope.names.lookup x = some .local) (hy : X.env.scope.names.lookup y = some .local) (hl : (py.line == px.line) = true) (hne : (x == y) = false) (h1 : isStar a = false) (h2 : isStar b = false) (h3 : ([a, b].all (foldedForSure 8)) = false) (h4 : ([a, b].all (constantsAlone 8)) = false) :
    swappedStores [.Tuple [.Name x px, .Name y py] kt pt] (.Tuple [a, b] k2 pt2) X.env = pure (some [x, y]) := by
  have kx : X.env.kindOf x = some .local := hx
  have ky : X.env.kindOf y = some .local := hy
  have hb := blockKind_fn ok
  have st : starAny [a, b] = false := by
    unfold starAny
    rw [List.any_cons, List.any_cons, h1, h2]; rfl
  have lx : (Expr.Name x px).pos.line = px.line := rfl
  have hyx : (y == x) = false := by
    have : ¬ x = y := by simpa using hne
    simpa using fun z => this z.symm
  have ed : [x, y].eraseDups = [x, y] := by
    simp [List.eraseDups_cons, List.filter, hyx]
  unfold swappedStores
  simp only [hb, List.length_cons, List.length_nil, List.head?_cons, Option.map_some, Option.getD_some, lx, List.filterMap_cons, List.filterMap_nil, kx, ky, hl, beq_self_eq_true, Bool.and_self, if_true, ed]
  refine (if_neg (by decide)).trans ?_
  refine (if_neg fun h => absurd ((show starAny [a, b] = true from h).symm.trans st) (by decide)).trans ?_
  refine (if_neg (by decide)).trans ?_
  refine (if_neg (by rw [h3]; decide)).trans ?_
  refine (if_neg (by rw [h4]; decide)).trans ?_
  rfl
def sPar (i j : Nat) (args : CA S) : CS S := ⟨fun L G => sx (args.ev L G) L fun vs G1 => eP2 i j L G1 (par2 vs), kPar i j args, fun {sc N lev E X st} o h => by
  unfold kPar at h
  split at h
  · rename_i x px y py kt pt a b k2 pt2 pos
    simp only [Bool.and_eq_true, decide_eq_true_eq, sw2, Bool.not_eq_true'] at h
    obtain ⟨⟨h1, h2, h3, h4, ⟨h5, h6⟩, h7, h8⟩, k1, k2', k3, k4, k5⟩ := h
    have hx : X.env.scope.names.lookup x = some .local := o.sub _ _ (scIs_iff.mp h1) (by decide)
    have hy : X.env.scope.names.lookup y = some .local := o.sub _ _ (scIs_iff.mp h2) (by decide)
    refine ⟨fun pins s σ H D I hw => ?_⟩
    refine (ps_par (i := i) (j := j) o.calm o.nd (by rw [o.N]; exact k1) (by rw [o.N]; exact k2') k3 hx hy (args.pa o k5) (sw2_ok I.ok hx hy h3 h4 h5 h6 h7 h8)).run pins s σ H D I ?_
    obtain ⟨ρ, L, G, R, l, p⟩ := hw
    refine ⟨ρ, L, G, R, l, PostS.sx (k := fun vs G1 => eP2 i j L G1 (par2 vs)) p l fun vs G1 ρ1 H1 xs e1 R1 r1 p1 => ?_⟩
    unfold par2 at p1
    split at p1
    · rename_i v w
      obtain ⟨y1, y2, rfl, q1, q2⟩ := r1.two
      have hi : i < σ.length := by
        rw [I.len, o.N]
        exact (List.getElem?_eq_some_iff.mp k1).1
      have hj : j < (σ.set i (some y1)).length := by
        rw [List.length_set, I.len, o.N]
        exact (List.getElem?_eq_some_iff.mp k2').1
      have p1 : PostS S D E ρ1 G1.length H1 (.nx ((L.set i (some v)).set j (some w)) G1) := p1
      exact ⟨y1, y2, rfl, p1 ρ1 H1 _ (Ext.refl _ _ _) R1 (((l.mono e1).set hi q1).set hj q2)⟩
    · exact p1.elim
  · cases h⟩
end
end VM
/-! VMp: stores to attributes, items; augmented ones; loops -/
namespace VM
open PySem PySem.Spec PyProof.Rows L2
section
variable {S : Sx} {sc : Scope} {N : List Str} {lev : Nat} {E : EW} {X : Cx} {ρ ρ' : Nat → Addr} {G : Gh} {H H' : Hp} {n n' : Nat} {D : Ends}
/-! ### a, b, c = x, y, z -/
def par3 : List Va → Option (Va × Va × Va)
  | [v, w, z] => some (v, w, z)
  | _ => none
def eP3 (i j k : Nat) (L : Lo) (G : Gh) : Option (Va × Va × Va) → SR
  | some (v, w, z) => .nx (((L.set i (some v)).set j (some w)).set k (some z)) G
  | none => .no
def sw3 (sc : Scope) (x y z : Str) (px py pz : Pos) (a b c : Expr) : Bool := scIs sc x .local && (scIs sc y .local && (scIs sc z .local && ((py.line == px.line && pz.line == px.line) && ((!(x == y) && !(x == z) && !(y == z)) && ((!isStar a && !isStar b && !isStar c) && (!([a, b, c].all (foldedForSure 8)) && !([a, b, c].all (constantsAlone 8))))))))
def kPar3 (i j k : Nat) (args : CA S) (N : List Str) (sc : Scope) : Stmt → Bool
  | .Assign [.Tuple [.Name x px, .Name y py, .Name z pz] _ _] (.Tuple [a, b, c] _ _) _ => sw3 sc x y z px py pz a b c && (decide (N[i]? = some x) && (decide (N[j]? = some y) && (decide (N[k]? = some z) && ((decide (i ≠ j) && decide (i ≠ k) && decide (j ≠ k)) && (args.pl && args.chk N sc [a, b, c])))))
  | _ => false
theorem beq_ne {x y : Str} (h : (x == y) = false) : (y == x) = false := by
  have : ¬ x = y := by simpa using h
  simpa using fun z => this z.symm
theorem sw3_ok (ok : X.Ok) {x y z : Str} {px py pz pt pt2 : Pos} {kt k2 : Nat} {a b c : Expr} (hx : X.env.scope.names.lookup x = some .local) (hy : X.env.scope.names.lookup y = some .local) (hz : X.env.scope.names.lookup z = some .local) (hl : (py.line == px.line) = true) (hl2 : (pz.line == px.line) = true) (n1 : (x == y) = false) (n2 : (x == z) = false) (n3 : (y == z) = false)
    (h1 : isStar a = false) (h2 : isStar b = false) (h2' : isStar c = false) (h3 : ([a, b, c].all (foldedForSure 8)) = false) (h4 : ([a, b, c].all (constantsAlone 8)) = false) :
    swappedStores [.Tuple [.Name x px, .Name y py, .Name z pz] kt pt] (.Tuple [a, b, c] k2 pt2) X.env = pure (some [x, y, z]) := by
  have kx : X.env.kindOf x = some .local := hx
  have ky : X.env.kindOf y = some .local := hy
  have kz : X.env.kindOf z = some .local := hz
  have hb := blockKind_fn ok
  have st : starAny [a, b, c] = false := by
    unfold starAny
    rw [List.any_cons, List.any_cons, List.any_cons, h1, h2, h2']; rfl
  have lx : (Expr.Name x px).pos.line = px.line := rfl
  have ed : [x, y, z].eraseDups = [x, y, z] := by
    simp [List.eraseDups_cons, List.filter, beq_ne n1, beq_ne n2, beq_ne n3]
  unfold swappedStores
  simp only [hb, List.length_cons, List.length_nil, List.head?_cons, Option.map_some, Option.getD_some, lx, List.filterMap_cons, List.filterMap_nil, kx, ky, kz, hl, hl2, beq_self_eq_true, Bool.and_self, if_true, ed]
  refine (if_neg (by decide)).trans ?_
  refine (if_neg fun h => absurd ((show starAny [a, b, c] = true from h).symm.trans st) (by decide)).trans ?_
  refine (if_neg (by decide)).trans ?_
  refine (if_neg (by rw [h3]; decide)).trans ?_
  refine (if_neg (by rw [h4]; decide)).trans ?_
  rfl
theorem VRs.three {x x' x'' : Va} {zs : List V} (h : VRs S ρ n H [x, x', x''] zs) : ∃ y y' y'', zs = [y, y', y''] ∧ VR S ρ n H x y ∧ VR S ρ n H x' y' ∧ VR S ρ n H x'' y'' := by
  obtain ⟨y, ys, rfl, h1, h2⟩ := h.cons_inv
  obtain ⟨y', y'', rfl, h3, h4⟩ := h2.two
  exact ⟨y, y', y'', rfl, h1, h3, h4⟩
def sPar3 (i j k : Nat) (args : CA S) : CS S := ⟨fun L G => sx (args.ev L G) L fun vs G1 => eP3 i j k L G1 (par3 vs), kPar3 i j k args, fun {sc N lev E X st} o h => by
  unfold kPar3 at h
  split at h
  · rename_i x px y py z pz kt pt a b c k2 pt2 pos
    simp only [Bool.and_eq_true, decide_eq_true_eq, sw3, Bool.not_eq_true'] at h
    obtain ⟨⟨h1, h2, h3, ⟨h4, h4'⟩, ⟨⟨n1, n2⟩, n3⟩, ⟨⟨h5, h6⟩, h6'⟩, h7, h8⟩, k1, k2', k2'', ⟨⟨k3, k3'⟩, k3''⟩, k4, k5⟩ := h
    have hx : X.env.scope.names.lookup x = some .local := o.sub _ _ (scIs_iff.mp h1) (by decide)
    have hy : X.env.scope.names.lookup y = some .local := o.sub _ _ (scIs_iff.mp h2) (by decide)
    have hz : X.env.scope.names.lookup z = some .local := o.sub _ _ (scIs_iff.mp h3) (by decide)
    refine ⟨fun pins s σ H D I hw => ?_⟩
    refine (ps_par3 (i := i) (j := j) (l := k) o.calm o.nd (by rw [o.N]; exact k1) (by rw [o.N]; exact k2') (by rw [o.N]; exact k2'') k3 k3' k3'' hx hy hz (args.pa o k5) (sw3_ok I.ok hx hy hz h4 h4' n1 n2 n3 h5 h6 h6' h7 h8)).run pins s σ H D I ?_
    obtain ⟨ρ, L, G, R, l, p⟩ := hw
    refine ⟨ρ, L, G, R, l, PostS.sx (k := fun vs G1 => eP3 i j k L G1 (par3 vs)) p l fun vs G1 ρ1 H1 xs e1 R1 r1 p1 => ?_⟩
    unfold par3 at p1
    split at p1
    · rename_i v w u
      obtain ⟨y1, y2, y3, rfl, q1, q2, q3⟩ := r1.three
      have hi : i < σ.length := by
        rw [I.len, o.N]
        exact (List.getElem?_eq_some_iff.mp k1).1
      have hj : j < (σ.set i (some y1)).length := by
        rw [List.length_set, I.len, o.N]
        exact (List.getElem?_eq_some_iff.mp k2').1
      have hk : k < ((σ.set i (some y1)).set j (some y2)).length := by
        rw [List.length_set, List.length_set, I.len, o.N]
        exact (List.getElem?_eq_some_iff.mp k2'').1
      have p1 : PostS S D E ρ1 G1.length H1 (.nx (((L.set i (some v)).set j (some w)).set k (some u)) G1) := p1
      exact ⟨y1, y2, y3, rfl, p1 ρ1 H1 _ (Ext.refl _ _ _) R1 ((((l.mono e1).set hi q1).set hj q2).set hk q3)⟩
    · exact p1.elim
  · cases h⟩
/-! ### o.f = v -/
def putN (f : Nat) (v : Va) : List (Nat × Va) → List (Nat × Va)
  | [] => [(f, v)]
  | (g, x) :: r => if g = f then (g, v) :: r else (g, x) :: putN f v r
theorem len_putN (f : Nat) (v : Va) : ∀ fs : List (Nat × Va), (putN f v fs).length ≤ fs.length + 1
  | [] => Nat.le_refl _
  | (g, x) :: r => by
    unfold putN
    split
    · exact Nat.le_succ _
    · have := len_putN f v r
      simp only [List.length_cons]; omega
theorem mem_putN {f : Nat} {v : Va} : ∀ {fs : List (Nat × Va)} {p : Nat × Va}, p ∈ putN f v fs → p.1 = f ∨ p ∈ fs
  | [], p, h => by
    unfold putN at h
    have := List.mem_singleton.mp h
    subst this
    exact .inl rfl
  | (g, x) :: r, p, h => by
    unfold putN at h
    split at h
    · rename_i hg
      rcases List.mem_cons.mp h with z | z
      · subst z; exact .inl hg
      · exact .inr (List.mem_cons_of_mem _ z)
    · rcases List.mem_cons.mp h with z | z
      · exact .inr (by rw [z]; exact List.mem_cons_self)
      · exact (mem_putN z).imp id fun w => List.mem_cons_of_mem _ w
theorem fr_put (g : ∀ i j, i < S.nn → j < S.nn → S.nm i = S.nm j → i = j) {f : Nat} (hf : f < S.nn) {v : Va} {y : V} (r : VR S ρ n H v y) : ∀ {fs : List (Nat × Va)} {gs : List (Str × V)}, FR S ρ n H fs gs → FR S ρ n H (putN f v fs) (putF (S.nm f) y gs)
  | [], _, h => by
    cases h
    exact ⟨y, [], rfl, hf, r, rfl⟩
  | (k, x) :: fs, _, h => by
    obtain ⟨z, t, rfl, h1, h2, h3⟩ := h
    unfold putN putF
    by_cases q : k = f
    · subst q
      rw [if_pos rfl, if_pos rfl]
      exact ⟨y, t, rfl, h1, r, h3⟩
    · rw [if_neg q, if_neg fun e => q (g k f h1 hf e)]
      exact ⟨z, _, rfl, h1, h2, fr_put g hf r h3⟩
def setO (S : Sx) (m f : Nat) (v : Va) (G : Gh) : Option VO → Option Gh
  | some (.ins c fs) => if f ∈ (S.cd c).flds ∧ fs.length < 900 then some (G.set m (.ins c (putN f v fs))) else none
  | _ => none
def setV (S : Sx) (f : Nat) (v : Va) : Va → Gh → Option Gh
  | .ref m, G => setO S m f v G G[m]?
  | _, _ => none
def nxS (L : Lo) : Option Gh → SR
  | some G => .nx L G
  | none => .no
/-- the instance's attribute is written -/
theorem set_fld (o : Okx S sc N lev E X) {m f : Nat} {v : Va} {y : V} {σ : L2.St} {L : Lo} (hf : f < S.nn) (R : Rl S ρ G H) (l : LR S ρ G.length H L σ) (rv : VR S ρ G.length H v y) (hm : m < G.length) (p : PostS S D E ρ G.length H (nxS L (setO S m f v G G[m]?))) :
    ∃ C dx fs, H (ρ m) = some (.ins C dx fs) ∧ Cls S.K C ∧ NoAttr S.K C (S.nm f) ∧ fs.length < 1000 ∧ D.nx σ (upd H (ρ m) (.ins C dx (putF (S.nm f) y fs))) := by
  obtain ⟨w, hw⟩ := get_of hm
  rw [hw] at p
  cases w with
  | ins c fs =>
    obtain ⟨dx, gs, k1, k2, k3, k5, k4⟩ := R.ob m _ hw
    have p : PostS S D E ρ G.length H (nxS L (if f ∈ (S.cd c).flds ∧ fs.length < 900 then some (G.set m (.ins c (putN f v fs))) else none)) := p
    split at p
    · rename_i hc
      have C := o.good.cls c k5
      have len : gs.length = fs.length := by
        have key : ∀ {fs : List (Nat × Va)} {gs : List (Str × V)}, FR S ρ G.length H fs gs → gs.length = fs.length := by
          intro fs
          induction fs with
          | nil => intro gs h; cases h; rfl
          | cons q fs ih =>
            intro gs h
            obtain ⟨f, x⟩ := q
            obtain ⟨y, r, rfl, _, _, h3⟩ := h
            simp [ih h3]
        exact key k2
      have w := R.write (o' := .ins c (putN f v fs)) (u := .ins (S.ca c) dx (putF (S.nm f) y gs)) hw rfl rfl (fun xs z => by rw [k1] at z; cases z) (fun b v z => by rw [k1] at z; cases z) (fun ρ' hρ' ex => by
        subst hρ'
        refine ⟨dx, _, upd_same, (fr_put o.good.nmi hf rv k2).mono ex, ?_, k5, fun q hq => ?_⟩
        · have := len_putN f v fs
          omega
        · rcases mem_putN hq with z | z
          · rw [z]; exact hc.1
          · exact k4 q z)
      refine ⟨S.ca c, dx, gs, k1, C.cl, C.nf f hc.1, by rw [len]; omega, ?_⟩
      have e2 : Ext ρ G.length H ρ G.length (upd H (ρ m) (.ins (S.ca c) dx (putF (S.nm f) y gs))) := by
        have e := w.2
        rwa [List.length_set] at e
      have p : PostS S D E ρ G.length H (.nx L (G.set m (.ins c (putN f v fs)))) := p
      exact p ρ _ σ w.2 w.1 (by rw [List.length_set]; exact l.mono e2)
    · exact p.elim
  | _ => exact p.elim
def eFld (a : Lo → Gh → Res Va) (ob : Lo → Gh → Res Va) (S : Sx) (f : Nat) : Lo → Gh → SR := fun L G => sx (a L G) L fun v G1 => sx (ob L G1) L fun w G2 => nxS L (setV S f v w G2)
def kFld (S : Sx) (ob : CE S) (f : Nat) (a : CE S) (N : List Str) (sc : Scope) : Stmt → Bool
  | .Assign [.Attribute x y _] e _ => decide (f < S.nn) && (decide (S.nm f = y) && (ob.chk N sc x && a.chk N sc e))
  | _ => false
def sFldS (ob : CE S) (f : Nat) (a : CE S) : CS S := ⟨eFld a.ev ob.ev S f, kFld S ob f a, fun {sc N lev E X st} o h => by
  unfold kFld at h
  split at h
  · rename_i x y pa e pos
    simp only [Bool.and_eq_true, decide_eq_true_eq] at h
    obtain ⟨hf, rfl, h1, h2⟩ := h
    refine ps_imp (ps_fld (ob.pe o h1) (a.pe o h2) (swaps_tg (tg := .Attribute x (S.nm f) pa) (l := pos.line) (env := X.env) (by simp [notName]))) fun D σ H q => ?_
    obtain ⟨ρ, L, G, R, l, p⟩ := q
    refine ⟨ρ, L, G, R, l, PostS.sx (k := fun v G1 => sx (ob.ev L G1) L fun w G2 => nxS L (setV S f v w G2)) p l fun v G1 ρ1 H1 y1 e1 R1 r1 p1 => ?_⟩
    refine ⟨ρ1, L, G1, R1, l.mono e1, PostS.sx (k := fun w G2 => nxS L (setV S f v w G2)) p1 (l.mono e1) fun w G2 ρ2 H2 y2 e2 R2 r2 p2 => ?_⟩
    cases w with
    | ref m =>
      obtain ⟨hm, rfl⟩ := vr_ref r2
      obtain ⟨C, dx, fs, q1, q2, q3, q4, q5⟩ := set_fld o hf R2 ((l.mono e1).mono e2) (r1.mono e2) hm p2
      exact ⟨_, C, dx, fs, rfl, q1, by rw [o.K]; exact q2, by rw [o.K]; exact q3, q4, q5⟩
    | _ => exact p2.elim
  · cases h⟩
/-! ### o[i] = v -/
def stO (m : Nat) (k v : Va) (G : Gh) : Option VO → Option Gh
  | some (.lst false xs) => match k with
    | .int i => (ixN xs.length i).map fun j => G.set m (.lst false (xs.set j v))
    | _ => none
  | some (.dct false kvs) => if (keyS k).isSome = true ∧ kvs.length < sizeLine then some (G.set m (.dct false (dPut kvs k v))) else none
  | _ => none
def stV (k v : Va) : Va → Gh → Option Gh
  | .ref m, G => stO m k v G G[m]?
  | _, _ => none
/-- by values -/
def rSet (S : Sx) : TSet := fun o i v H Q => ∃ ρ G a b c G', Rl S ρ G H ∧ VR S ρ G.length H a o ∧ VR S ρ G.length H b i ∧ VR S ρ G.length H c v ∧ stV b c a G = some G' ∧ ∀ H', Ext ρ G.length H ρ G'.length H' → Rl S ρ G' H' → Q H'
theorem drk_any {k : Va} {k' : Key} (hk : keyS k = some k') : ∀ {kvs : List (Va × Va)} {ks : List (Key × V)}, DRk S ρ n H kvs ks → (kvs.any fun p => kEq p.1 k) = (ks.any fun p => decide (p.1 = k'))
  | [], _, h => by cases h; rfl
  | (a, x) :: kvs, _, h => by
    obtain ⟨a', y, r, rfl, h1, h2, h3⟩ := h
    rw [List.any_cons, List.any_cons, drk_any hk h3, keyS_eq h1 hk]
theorem drk_map {k : Va} {k' : Key} {v : Va} {v' : V} (hk : keyS k = some k') (rv : VR S ρ n H v v') : ∀ {kvs : List (Va × Va)} {ks : List (Key × V)}, DRk S ρ n H kvs ks → DRk S ρ n H (kvs.map fun p => if kEq p.1 k = true then (p.1, v) else p) (ks.map fun p => if p.1 = k' then (p.1, v') else p)
  | [], _, h => by cases h; rfl
  | (a, x) :: kvs, _, h => by
    obtain ⟨a', y, r, rfl, h1, h2, h3⟩ := h
    have e := keyS_eq h1 hk
    rw [List.map_cons, List.map_cons]
    by_cases q : a' = k'
    · rw [decide_eq_true q] at e
      rw [if_pos e, if_pos q]
      exact ⟨a', v', _, rfl, h1, rv, drk_map hk rv h3⟩
    · rw [decide_eq_false q] at e
      rw [if_neg (by rw [e]; decide), if_neg q]
      exact ⟨a', y, _, rfl, h1, h2, drk_map hk rv h3⟩
theorem drk_app {k : Va} {k' : Key} {v : Va} {v' : V} (hk : keyS k = some k') (rv : VR S ρ n H v v') : ∀ {kvs : List (Va × Va)} {ks : List (Key × V)}, DRk S ρ n H kvs ks → DRk S ρ n H (kvs ++ [(k, v)]) (ks ++ [(k', v')])
  | [], _, h => by cases h; exact ⟨k', v', [], rfl, hk, rv, rfl⟩
  | (a, x) :: kvs, _, h => by
    obtain ⟨a', y, r, rfl, h1, h2, h3⟩ := h
    exact ⟨a', y, _, rfl, h1, h2, drk_app hk rv h3⟩
theorem drk_put {k : Va} {k' : Key} {v : Va} {v' : V} (hk : keyS k = some k') (rv : VR S ρ n H v v') {kvs : List (Va × Va)} {ks : List (Key × V)} (h : DRk S ρ n H kvs ks) : DRk S ρ n H (dPut kvs k v) (putK ks k' v') := by
  unfold dPut putK
  rw [drk_any hk h]
  split
  · exact drk_map hk rv h
  · exact drk_app hk rv h
theorem rset_ok (o : Okx S sc N lev E X) : PSet X (rSet S) := by
  intro pins s σ H ov iv v u1 u2 u3 Q I r1 r2 r3 h
  obtain ⟨ρ, G, a, b, c, G', R, ra, rb, rc, e, q⟩ := h
  cases a with
  | ref m =>
    obtain ⟨hm, rfl⟩ := vr_ref ra
    obtain ⟨w, hw⟩ := get_of hm
    have e : stO m b c G G[m]? = some G' := e
    rw [hw] at e
    cases w with
    | lst fz xs =>
      cases fz with
      | true => cases e
      | false =>
        cases b with
        | int i =>
          obtain rfl := vr_int rb
          obtain ⟨j, hj, rfl⟩ := Option.map_eq_some_iff.mp e
          obtain ⟨ys, k1, k2⟩ := R.ob m _ hw
          refine set_list pins s σ H _ _ v u1 u2 u3 Q I r1 r2 r3 ⟨ρ m, ys, i, j, rfl, rfl, k1, by rw [k2.length]; exact hj, ?_⟩
          have w := R.write (o' := .lst false (xs.set j c)) (u := .lst (ys.set j v)) hw rfl rfl (fun xs z => by rw [k1] at z; cases z) (fun b v z => by rw [k1] at z; cases z) (fun ρ' hρ' ex => by
            subst hρ'
            exact ⟨_, upd_same, (k2.set rc).mono ex⟩)
          exact q _ w.2 w.1
        | _ => cases e
    | dct lk kvs =>
      cases lk with
      | true => cases e
      | false =>
        have e : (if (keyS b).isSome = true ∧ kvs.length < sizeLine then some (G.set m (.dct false (dPut kvs b c))) else none) = some G' := e
        split at e
        · rename_i hc
          cases e
          obtain ⟨k', hk⟩ := Option.isSome_iff_exists.mp hc.1
          obtain rfl := keyS_V hk rb
          obtain ⟨ks, k1, k2⟩ := R.ob m _ hw
          refine set_dict o.u1 pins s σ H _ _ v u1 u2 u3 Q I r1 r2 r3 ⟨ρ m, _, rfl, DPut.k k1 (by rw [k2.len]; exact hc.2), ?_⟩
          have w := R.write (o' := .dct false (dPut kvs b c)) (u := .dK (putK ks k' v)) hw rfl rfl (fun xs z => by rw [k1] at z; cases z) (fun b v z => by rw [k1] at z; cases z) (fun ρ' hρ' ex => by
            subst hρ'
            exact ⟨_, upd_same, (drk_put hk rc k2).mono ex⟩)
          exact q _ w.2 w.1
        · cases e
    | _ => cases e
  | _ => cases e
def okL (L : Lo) : Option Gh → Res Lo
  | some G => .ok L G
  | none => .no
def gSubE (a i : Lo → Gh → Res Va) : Va → Lo → Gh → Res Lo := fun v L G => (noex (a L G)).bind fun o G1 => (noex (i L G1)).bind fun k G2 => okL L (stV k v o G2)
def kSub (a i : CE S) (N : List Str) (sc : Scope) : Expr → Bool
  | .Subscript x y _ => !isSl y && (a.chk N sc x && i.chk N sc y)
  | _ => false
theorem gSub_pg (a i : CE S) {e : Expr} (o : Okx S sc N lev E X) (h : kSub a i N sc e = true) : PG X e (WGt S [] (gSubE a.ev i.ev)) := by
  unfold kSub at h
  split at h
  · rename_i x y p
    simp only [Bool.and_eq_true, Bool.not_eq_true'] at h
    obtain ⟨h0, h1, h2⟩ := h
    refine pg_imp (pg_sub (a.pe o h1) (i.pe o h2) (rset_ok o) (fun v => by cases y <;> first | rfl | (cases h0; done))) fun v σ H Q q => ?_
    obtain ⟨ρ, L, G, w, R, l, rw', p⟩ := q
    refine ⟨ρ, L, G, R, l, Post.bindN p fun ob G1 ρ1 H1 x1 e1 R1 r1 p1 => ?_⟩
    refine ⟨ρ1, L, G1, R1, l.mono e1, Post.bindN p1 fun k G2 ρ2 H2 x2 e2 R2 r2 p2 => ?_⟩
    cases es : stV k w ob G2 with
    | none => rw [es] at p2; exact p2.elim
    | some G' =>
      rw [es] at p2
      refine ⟨ρ2, G2, ob, k, w, G', R2, r1.mono e2, r2, (rw'.mono e1).mono e2, es, fun H' e3 R3 => p2 ρ2 H' σ e3 R3 ⟨((l.mono e1).mono e2).mono e3, Same.refl⟩⟩
  · cases h
def gSubS (a i : CE S) : CG S := ⟨gSubE a.ev i.ev, [], kSub a i, gSub_pg a i, fun {N sc e env} h => by cases e <;> first | rfl | cases h⟩
end
end VM
/-! VMq: augmented stores, loops -/
namespace VM
open PySem PySem.Spec PyProof.Rows L2
section
variable {S : Sx} {sc : Scope} {N : List Str} {lev : Nat} {E : EW} {X : Cx} {ρ ρ' : Nat → Addr} {G : Gh} {H H' : Hp} {n n' : Nat} {D : Ends}
/-! ### x += e -/
def ipS (s t : Tx) (G : Gh) : Option (Va × Gh) := if s.length + t.length ≤ sizeLine then some (.str (s ++ t), G) else none
def ipL (m : Nat) (G : Gh) : Option (List Va) → Option (List Va) → Option (Va × Gh)
  | some xs, some ys => if xs.length + ys.length ≤ sizeLine then some (.ref m, G.set m (.lst false (xs ++ ys))) else none
  | _, _ => none
def ipAdd : Op2
  | .int i, .int j, G => some (.int (i + j), G)
  | .str s, .str t, G => ipS s t G
  | .ref m, .ref k, G => ipL m G (mlsO G[m]?) (mlsO G[k]?)
  | _, _, _ => none
theorem toS_append (s t : Tx) : toS s ++ toS t = toS (s ++ t) := by
  unfold toS
  show (⟨s.toArray ++ t.toArray⟩ : Str) = _
  simp
theorem fin_step {Q : VK} {v : Va} {G' : Gh} {v' : V} (h : Fin1 S ρ n H Q (some (v, G'))) (e : Ext ρ n H ρ' G'.length H') (R : Rl S ρ' G' H') (r : VR S ρ' G'.length H' v v') : Q v' H' := by
  obtain ⟨a, b, q, k⟩ := h
  cases q
  exact k ρ' H' v' e R r
theorem ip_ok (o : Okx S sc N lev E X) : PIp X .Add (rO2 S ipAdd) := by
  intro pins s σ H x y v u Q I rx ry h
  obtain ⟨ρ, G, a, b, R, ra, rb, p⟩ := h
  cases a with
  | int i =>
    cases b with
    | int j =>
      obtain rfl := vr_int ra
      obtain rfl := vr_int rb
      exact ip_add pins s σ H _ _ v u Q I rx ry ⟨i, j, rfl, rfl, p.old R vr_int'⟩
    | _ => exact p.no.elim
  | str i =>
    cases b with
    | str j =>
      obtain rfl := vr_str ra
      obtain rfl := vr_str rb
      have p : Fin1 S ρ G.length H Q (ipS i j G) := p
      unfold ipS at p
      split at p
      · rename_i hz
        refine iop_add_str pins s σ H _ _ v u Q I rx ry ⟨toS i, toS j, rfl, rfl, by rw [toS_len, toS_len]; exact hz, ?_⟩
        rw [toS_append]
        exact p.old R vr_str'
      · exact p.no.elim
    | _ => exact p.no.elim
  | ref m =>
    cases b with
    | ref k =>
      obtain ⟨hm, rfl⟩ := vr_ref ra
      obtain ⟨hk, rfl⟩ := vr_ref rb
      have p : Fin1 S ρ G.length H Q (ipL m G (mlsO G[m]?) (mlsO G[k]?)) := p
      cases e1 : mlsO G[m]? with
      | none => rw [e1] at p; exact p.no.elim
      | some xs =>
        cases e2 : mlsO G[k]? with
        | none => rw [e1, e2] at p; exact p.no.elim
        | some zs =>
          rw [e1, e2] at p
          have p : Fin1 S ρ G.length H Q (if xs.length + zs.length ≤ sizeLine then some (.ref m, G.set m (.lst false (xs ++ zs))) else none) := p
          split at p
          · rename_i hz
            have hw := mls_eq e1
            obtain ⟨ys, k1, k2⟩ := mls_ok R e1
            obtain ⟨ws, k3, k4⟩ := mls_ok R e2
            refine iop_ext pins s σ H _ _ v u Q I rx ry ⟨ρ m, ρ k, ys, ws, rfl, rfl, k1, k3, by rw [k2.length, k4.length]; exact hz, ?_⟩
            have w := R.write (o' := .lst false (xs ++ zs)) (u := .lst (ys ++ ws)) hw rfl rfl (fun xs z => by rw [k1] at z; cases z) (fun b v z => by rw [k1] at z; cases z) (fun ρ' hρ' ex => by
              subst hρ'
              exact ⟨_, upd_same, (k2.append k4).mono ex⟩)
            refine fin_step p w.2 w.1 ?_
            unfold VR
            exact ⟨Nat.lt_of_lt_of_le hm w.2.le, rfl⟩
          · exact p.no.elim
    | _ => exact p.no.elim
  | _ => exact p.no.elim
def augR (i : Nat) (L : Lo) : Option (Va × Gh) → SR
  | some (v, G) => .nx (L.set i (some v)) G
  | none => .no
def augX (i : Nat) (a : Lo → Gh → Res Va) (L : Lo) (G : Gh) : Option (Option Va) → SR
  | some (some x) => sx (a L G) L fun y G1 => augR i L (ipAdd x y G1)
  | _ => .no
def kAugN (i : Nat) (a : CE S) (N : List Str) (sc : Scope) : Stmt → Bool
  | .AugAssign (.Name x _) .Add e _ => decide (N[i]? = some x) && (scLoc sc x && a.chk N sc e)
  | _ => false
def sAugN (i : Nat) (a : CE S) : CS S := ⟨fun L G => augX i a.ev L G L[i]?, kAugN i a, fun {sc N lev E X st} o h => by
  unfold kAugN at h
  split at h
  · simp only [Bool.and_eq_true, decide_eq_true_eq] at h
    obtain ⟨h1, h2, h3⟩ := h
    refine ⟨fun pins s σ H D I hw => ?_⟩
    refine (ps_aug (i := i) o.nd (by rw [o.N]; exact h1) (o.loc h2) (a.pe o h3) (ip_ok o) (o.stf _ h2)).run pins s σ H D I ?_
    obtain ⟨ρ, L, G, R, l, p⟩ := hw
    have hi : i < σ.length := by
      rw [I.len, o.N]
      exact (List.getElem?_eq_some_iff.mp h1).1
    have p : PostS S D E ρ G.length H (augX i a.ev L G L[i]?) := p
    cases hl : L[i]? with
    | none => rw [hl] at p; exact p.elim
    | some w =>
      cases w with
      | none => rw [hl] at p; exact p.elim
      | some x =>
        rw [hl] at p
        obtain ⟨v, q1, q2⟩ := l i x hl
        refine ⟨v, q1, ρ, L, G, R, l, PostS.sx (k := fun y G1 => augR i L (ipAdd x y G1)) p l fun y G1 ρ1 H1 y' e1 R1 r1 p1 => ?_⟩
        refine ⟨ρ1, G1, x, y, R1, q2.mono e1, r1, ?_⟩
        cases hp : ipAdd x y G1 with
        | none => rw [hp] at p1; exact p1.elim
        | some z =>
          obtain ⟨z, G2⟩ := z
          rw [hp] at p1
          exact ⟨z, G2, rfl, fun ρ2 H2 z' e2 R2 r2 => p1 ρ2 H2 _ e2 R2 (((l.mono e1).mono e2).set hi r2)⟩
  · cases h⟩
/-- o[i], by values -/
def getF : Op2
  | .ref n, k, G => idxO G G[n]? k
  | _, _, _ => none
theorem get_ok (o : Okx S sc N lev E X) : PGet X (rO2 S getF) := by
  intro pins s σ H x y v u Q I rx ry h
  obtain ⟨ρ, G, a, b, R, ra, rb, p⟩ := h
  cases a with
  | ref m =>
    obtain ⟨hm, rfl⟩ := vr_ref ra
    obtain ⟨w, hw⟩ := get_of hm
    have p : Fin1 S ρ G.length H Q (idxO G G[m]? b) := p
    rw [hw] at p
    cases (show v = Value.ref (ρ m) from rx)
    cases w with
    | lst fz xs =>
      cases b with
      | int i =>
        obtain rfl := vr_int rb
        obtain ⟨t, rfl⟩ := ry
        have p : Fin1 S ρ G.length H Q (okV G (atI xs i)) := p
        obtain ⟨z, G', ez⟩ := p.ex1
        obtain ⟨z', hz, e⟩ := okV_inv ez
        rw [hz] at p
        obtain ⟨ys, k1, k2⟩ := rl_seq R hw
        obtain ⟨y, hy, ry'⟩ := vrs_at k2 hz
        rw [← o.K] at k1
        obtain ⟨its, r, pl, hsz⟩ := I.list k1
        obtain ⟨j, h1, h2, h3, h4, h5⟩ := atI_get hy
        obtain ⟨w, ew, rw'⟩ := r.get h2
        have hl := r.length
        have hn := line63
        have fin : EP X pins σ Q w s := ⟨y, H, I, rw', p.old R ry'⟩
        by_cases h0 : 0 ≤ i
        · have hj : i.toNat = j := by
            rw [seqIndex_of h0 h5] at h1
            exact Option.some.inj h1
          exact wpAny_getItem_list pl.isList h0 (by omega) (by rw [hj]; simpa using ew) fin
        · have hj : (i + (its.toArray.size : Int)).toNat = j := by
            rw [seqIndex_neg (by omega) h4] at h1
            rw [List.size_toArray, ← hl]
            exact Option.some.inj h1
          exact wpAny_getItem_list_neg pl.isList (by omega) (by rw [List.size_toArray] <;> omega) (by omega) (by rw [hj]; simpa using ew) fin
      | _ => exact p.no.elim
    | dct lk kvs =>
      have p : Fin1 S ρ G.length H Q (if (keyS b).isSome = true then okV G (dGet kvs b) else none) := p
      split at p
      · rename_i hk
        obtain ⟨k', hk⟩ := Option.isSome_iff_exists.mp hk
        obtain rfl := keyS_V hk rb
        obtain ⟨ks, k1, k2⟩ := dget_of R hw
        obtain ⟨z, G', ez⟩ := p.ex1
        obtain ⟨z', hz, e⟩ := okV_inv ez
        rw [hz] at p
        rcases drk_get hk k2 with ⟨n1, n2⟩ | ⟨x', v', g1, g2, g3⟩
        · rw [n1] at hz; cases hz
        · rw [hz] at g1; cases g1
          exact d_getItem o.u1 I (.inl ⟨ks, k', k1, rfl, g2.symm⟩) ry fun w' s' I' rw' => ⟨v', H, I', rw', p.old R g3⟩
      · exact p.no.elim
    | _ => exact p.no.elim
  | _ => exact p.no.elim
def augG (L : Lo) (o k : Va) : Option (Va × Gh) → SR
  | some (v, G) => nxS L (stV k v o G)
  | none => .no
def augB (a : Lo → Gh → Res Va) (L : Lo) (o k : Va) : Option (Va × Gh) → SR
  | some (x, G) => sx (a L G) L fun y G1 => augG L o k (ipAdd x y G1)
  | none => .no
def kAugS (ob ix a : CE S) (N : List Str) (sc : Scope) : Stmt → Bool
  | .AugAssign (.Subscript x y _) .Add e _ => !isSl y && (ob.chk N sc x && (ix.chk N sc y && a.chk N sc e))
  | _ => false
def sAugS (ob ix a : CE S) : CS S := ⟨fun L G => sx (ob.ev L G) L fun o G1 => sx (ix.ev L G1) L fun k G2 => augB a.ev L o k (getF o k G2), kAugS ob ix a, fun {sc N lev E X st} o h => by
  unfold kAugS at h
  split at h
  · rename_i x y p1 e pos
    simp only [Bool.and_eq_true, Bool.not_eq_true'] at h
    obtain ⟨h0, h1, h2, h3⟩ := h
    refine ps_imp (ps_augS (ob.pe o h1) (ix.pe o h2) (get_ok o) (a.pe o h3) (ip_ok o) (rset_ok o) (fun ov iv new => by cases y <;> first | rfl | (cases h0; done))) fun D σ H q => ?_
    obtain ⟨ρ, L, G, R, l, p⟩ := q
    refine ⟨ρ, L, G, R, l, PostS.sx (k := fun o G1 => sx (ix.ev L G1) L fun k G2 => augB a.ev L o k (getF o k G2)) p l fun ov G1 ρ1 H1 x1 e1 R1 r1 p1 => ?_⟩
    have l1 := l.mono e1
    refine ⟨ρ1, L, G1, R1, l1, PostS.sx (k := fun k G2 => augB a.ev L ov k (getF ov k G2)) p1 l1 fun kv G2 ρ2 H2 x2 e2 R2 r2 p2 => ?_⟩
    have l2 := l1.mono e2
    refine ⟨ρ2, G2, ov, kv, R2, r1.mono e2, r2, ?_⟩
    cases hg : getF ov kv G2 with
    | none => rw [hg] at p2; exact p2.elim
    | some z =>
      obtain ⟨z, G3⟩ := z
      rw [hg] at p2
      refine ⟨z, G3, rfl, fun ρ3 H3 z' e3 R3 r3 => ?_⟩
      have p3 : PostS S D E ρ3 G3.length H3 (sx (a.ev L G3) L fun y G1 => augG L ov kv (ipAdd z y G1)) := PostS.after p2 e3
      refine ⟨ρ3, L, G3, R3, l2.mono e3, PostS.sx (k := fun y G1 => augG L ov kv (ipAdd z y G1)) p3 (l2.mono e3) fun y G4 ρ4 H4 y' e4 R4 r4 p4 => ?_⟩
      refine ⟨ρ4, G4, z, y, R4, r3.mono e4, r4, ?_⟩
      cases hp : ipAdd z y G4 with
      | none => rw [hp] at p4; exact p4.elim
      | some t =>
        obtain ⟨t, G5⟩ := t
        rw [hp] at p4
        refine ⟨t, G5, rfl, fun ρ5 H5 t' e5 R5 r5 => ?_⟩
        have e25 := (e3.trans e4).trans e5
        have p5 : PostS S D E ρ5 G5.length H5 (nxS L (stV kv t ov G5)) := PostS.after p4 e5
        cases hs : stV kv t ov G5 with
        | none => rw [hs] at p5; exact p5.elim
        | some G6 =>
          rw [hs] at p5
          exact ⟨ρ5, G5, ov, kv, t, G6, R5, (r1.mono e2).mono e25, r2.mono e25, r5, hs, fun H6 e6 R6 => p5 ρ5 H6 σ e6 R6 ((l2.mono e25).mono e6)⟩
  · cases h⟩
/-! ### for -/
def lpK (r : SR) (k : Lo → Gh → SR) : SR :=
  match r with
  | .nx L G => k L G
  | .ct L G => k L G
  | .bk L G => .nx L G
  | .rt v G => .rt v G
  | .ex c fs L G => .ex c fs L G
  | .no => .no
theorem PostS.lpK {r : SR} {k : Lo → Gh → SR} {N : L2.St → Hp → Prop} (p : PostS S D E ρ n H (lpK r k))
    (h : ∀ (L : Lo) (G' : Gh) (ρ' : Nat → Addr) (H' : Hp) (σ' : L2.St), Ext ρ n H ρ' G'.length H' → Rl S ρ' G' H' → LR S ρ' G'.length H' L σ' → PostS S D E ρ' G'.length H' (k L G') → N σ' H') : PostS S { D with nx := N, ct := N, bk := D.nx } E ρ n H r := by
  cases r with
  | nx L G => exact fun ρ2 H2 v2 e2 R2 r2 => h L G ρ2 H2 v2 e2 R2 r2 (PostS.after (r := k L G) p e2)
  | ct L G => exact fun ρ2 H2 v2 e2 R2 r2 => h L G ρ2 H2 v2 e2 R2 r2 (PostS.after (r := k L G) p e2)
  | bk L G => exact p
  | rt v G => exact p
  | ex c fs L G => exact p
  | no => exact p
def forL (src : Src) (g : Va → Lo → Gh → Res Lo) (b : Lo → Gh → SR) : Nat → Nat → Lo → Gh → SR
  | 0, _, _, _ => .no
  | m + 1, i, L, G => match nxt src i G with
    | none => .no
    | some none => .nx L G
    | some (some v) => sx (noex (g v L G)) L fun L2 G2 => lpK (b L2 G2) fun L3 G3 => forL src g b m (i + 1) L3 G3
def fuelF : Nat := 1000000
theorem for_cases (src : Src) (g : Va → Lo → Gh → Res Lo) (b : Lo → Gh → SR) (m i : Nat) (L : Lo) (G : Gh) : (nxt src i G = none ∧ forL src g b (m + 1) i L G = .no) ∨ (nxt src i G = some none ∧ forL src g b (m + 1) i L G = .nx L G) ∨ ∃ v, nxt src i G = some (some v) ∧ forL src g b (m + 1) i L G = sx (noex (g v L G)) L fun L2 G2 => lpK (b L2 G2) fun L3 G3 => forL src g b m (i + 1) L3 G3 := by
  have e : forL src g b (m + 1) i L G = (match nxt src i G with | none => .no | some none => .nx L G | some (some v) => sx (noex (g v L G)) L fun L2 G2 => lpK (b L2 G2) fun L3 G3 => forL src g b m (i + 1) L3 G3) := rfl
  rw [e]
  cases nxt src i G with
  | none => exact .inl ⟨rfl, rfl⟩
  | some o =>
    cases o with
    | none => exact .inr (.inl ⟨rfl, rfl⟩)
    | some v => exact .inr (.inr ⟨v, rfl, rfl⟩)
def kFor (it : CI S) (g : CG S) (b : CB S) (N : List Str) (sc : Scope) : Stmt → Bool
  | .For tg iter body [] _ => !isSetE iter && (it.chk N sc tg iter && (g.chk N sc tg && b.chk N sc body))
  | _ => false
def sFor (it : CI S) (g : CG S) (b : CB S) : CS S := ⟨fun L G => sx (it.ev L G) L fun src G1 => forL src g.ev b.ev fuelF 0 L G1, kFor it g b, fun {sc N lev E X st} o h => by
  unfold kFor at h
  split at h
  · simp only [Bool.and_eq_true, Bool.not_eq_true'] at h
    obtain ⟨h1, h2, h3, h4⟩ := h
    refine ps_imp (ps_for o.own o.calm (it.pi o h2) (g.pg o h3) (b.ps o h4) (folded_plain h1)) fun D σ H q => ?_
    obtain ⟨ρ, L, G, R, l, p⟩ := q
    refine ⟨ρ, L, G, R, l, PostS.sx (k := fun src G1 => forL src g.ev b.ev fuelF 0 L G1) p l fun src G1 ρ1 H1 J e1 R1 r1 p1 => ?_⟩
    refine ⟨fun i m σ H => ∃ ρ' L' G', Ext ρ1 G1.length H1 ρ' G'.length H ∧ Rl S ρ' G' H ∧ LR S ρ' G'.length H L' σ ∧ PostS S D E ρ' G'.length H (forL src g.ev b.ev m i L' G'), ⟨fuelF, ρ1, L, G1, Ext.refl _ _ _, R1, l.mono e1, p1⟩, ?_⟩
    rintro i m σ3 H3 ⟨ρ3, L3, G3, e3, R3, l3, p3⟩
    cases m with
    | zero => exact p3.elim
    | succ m =>
      have ir := r1 ρ3 G3 H3 i e3 R3
      rcases for_cases src g.ev b.ev m i L3 G3 with ⟨k1, k2⟩ | ⟨k1, k2⟩ | ⟨v, k1, k2⟩
      · rw [k2] at p3; exact p3.elim
      · rw [k2] at p3
        exact .inl ⟨ir.2 k1, p3 ρ3 H3 σ3 (Ext.refl _ _ _) R3 l3⟩
      · rw [k2] at p3
        obtain ⟨go, yl⟩ := ir.1 v k1
        refine .inr ⟨go, fun σ' H' => ∃ ρ' L' G', Ext ρ1 G1.length H1 ρ' G'.length H' ∧ Rl S ρ' G' H' ∧ LR S ρ' G'.length H' L' σ' ∧ PostS S D E ρ' G'.length H' (forL src g.ev b.ev m (i + 1) L' G'), fun σ' H' z => ⟨m, Nat.lt_succ_self m, z⟩, fun x H4 y => ?_⟩
        obtain ⟨e4, R4, r4⟩ := yl x H4 y
        have p4 := PostS.after p3 e4
        refine ⟨ρ3, L3, G3, v, R4, l3.mono e4, r4, PostS.sxN (k := fun L2 G2 => lpK (b.ev L2 G2) fun L3 G3 => forL src g.ev b.ev m (i + 1) L3 G3) p4 fun L5 G5 ρ5 H5 σ5 e5 R5 r5 p5 => ?_⟩
        exact ⟨ρ5, L5, G5, R5, r5.1, PostS.lpK (k := fun L3 G3 => forL src g.ev b.ev m (i + 1) L3 G3) p5 fun L6 G6 ρ6 H6 σ6 e6 R6 l6 p6 => ⟨ρ6, L6, G6, ((e3.trans e4).trans e5).trans e6, R6, l6, p6⟩⟩
  · cases h⟩
/-! ### while -/
def whE (c : Bool) (x : SR) (L : Lo) (G : Gh) : SR := if c = true then x else .nx L G
def whL (t : Lo → Gh → Res Bool) (b : Lo → Gh → SR) : Nat → Lo → Gh → SR
  | 0, _, _ => .no
  | m + 1, L, G => sx (t L G) L fun c G1 => whE c (lpK (b L G1) fun L3 G3 => whL t b m L3 G3) L G1
def kWh (c : CE S) (b : CB S) (N : List Str) (sc : Scope) : Stmt → Bool
  | .While e body [] _ => c.chk N sc e && b.chk N sc body
  | _ => false
def sWh (c : CE S) (b : CB S) : CS S := ⟨fun L G => whL c.tv b.ev fuelF L G, kWh c b, fun {sc N lev E X st} o h => by
  unfold kWh at h
  split at h
  · simp only [Bool.and_eq_true] at h
    refine ps_imp (ps_while o.own (c.pt o h.1) (b.ps o h.2)) fun D σ H q => ?_
    obtain ⟨ρ, L, G, R, l, p⟩ := q
    refine ⟨fun m σ H => ∃ ρ' L' G', Rl S ρ' G' H ∧ LR S ρ' G'.length H L' σ ∧ PostS S D E ρ' G'.length H (whL c.tv b.ev m L' G'), ⟨fuelF, ρ, L, G, R, l, p⟩, ?_⟩
    rintro m σ3 H3 ⟨ρ3, L3, G3, R3, l3, p3⟩
    cases m with
    | zero => exact p3.elim
    | succ m =>
      have p3 : PostS S D E ρ3 G3.length H3 (sx (c.tv L3 G3) L3 fun t G1 => whE t (lpK (b.ev L3 G1) fun L3 G3 => whL c.tv b.ev m L3 G3) L3 G1) := p3
      refine ⟨ρ3, L3, G3, R3, l3, PostS.sx (ra := relB) (k := fun t G1 => whE t (lpK (b.ev L3 G1) fun L3 G3 => whL c.tv b.ev m L3 G3) L3 G1) p3 l3 fun t G4 ρ4 H4 t' e4 R4 r4 p4 => ?_⟩
      obtain rfl : t = t' := r4
      unfold whE at p4
      split
      · rename_i ht
        rw [if_pos ht] at p4
        exact ⟨fun σ' H' => ∃ ρ' L' G', Rl S ρ' G' H' ∧ LR S ρ' G'.length H' L' σ' ∧ PostS S D E ρ' G'.length H' (whL c.tv b.ev m L' G'), fun σ' H' z => ⟨m, Nat.lt_succ_self m, z⟩, ρ4, L3, G4, R4, l3.mono e4, PostS.lpK (k := fun L3 G3 => whL c.tv b.ev m L3 G3) p4 fun L6 G6 ρ6 H6 σ6 e6 R6 l6 p6 => ⟨ρ6, L6, G6, R6, l6, p6⟩⟩
      · rename_i ht
        rw [if_neg ht] at p4
        exact p4 ρ4 H4 σ3 (Ext.refl _ _ _) R4 (l3.mono e4)
  · cases h⟩
end
end VM
/-! VMr: defs -/
namespace VM
open PySem PySem.Spec PyProof.Rows L2
/-! ### the relations do not ask how the text's defs run -/
section
variable {S : Sx} {f : Nat → List Va → Gh → Res Va} {ρ : Nat → Addr} {n : Nat} {H : Hp} {G : Gh}
abbrev Sx.at (S : Sx) (f : Nat → List Va → Gh → Res Va) : Sx := { S with call := f }
mutual
theorem VR.cg {f g : Nat → List Va → Gh → Res Va} : ∀ {x : Va} {v : V}, VR (S.at f) ρ n H x v → VR (S.at g) ρ n H x v
  | .non, _, h => by simpa [VR] using h
  | .bl _, _, h => by simpa [VR] using h
  | .int _, _, h => by simpa [VR] using h
  | .str _, _, h => by simpa [VR] using h
  | .tup xs, _, h => by
    unfold VR at h ⊢
    obtain ⟨a, ys, h1, h2, h3⟩ := h
    exact ⟨a, ys, h1, h2, VRs.cg h3⟩
  | .ref m, _, h => by unfold VR at h ⊢; exact h
  | .cl _, _, h => by unfold VR at h ⊢; exact h
  | .ty _, _, h => by unfold VR at h ⊢; exact h
theorem VRs.cg {f g : Nat → List Va → Gh → Res Va} : ∀ {x : List Va} {v : List V}, VRs (S.at f) ρ n H x v → VRs (S.at g) ρ n H x v
  | [], _, h => by unfold VRs at h ⊢; exact h
  | x :: xs, _, h => by
    unfold VRs at h ⊢
    obtain ⟨y, r, h1, h2, h3⟩ := h
    exact ⟨y, r, h1, VR.cg h2, VRs.cg h3⟩
end
theorem vr_cg (S : Sx) (f g : Nat → List Va → Gh → Res Va) : VR (S.at f) = VR (S.at g) := by
  funext ρ n H x v
  exact propext ⟨VR.cg, VR.cg⟩
theorem vrs_cg (S : Sx) (f g : Nat → List Va → Gh → Res Va) : VRs (S.at f) = VRs (S.at g) := by
  funext ρ n H x v
  exact propext ⟨VRs.cg, VRs.cg⟩
theorem FR.cg {f g : Nat → List Va → Gh → Res Va} : ∀ {fs : List (Nat × Va)} {gs : List (Str × V)}, FR (S.at f) ρ n H fs gs → FR (S.at g) ρ n H fs gs
  | [], _, h => h
  | (a, x) :: fs, _, h => by
    obtain ⟨y, r, h1, h2, h3, h4⟩ := h
    exact ⟨y, r, h1, h2, VR.cg h3, FR.cg h4⟩
theorem fr_cg (S : Sx) (f g : Nat → List Va → Gh → Res Va) : FR (S.at f) = FR (S.at g) := by
  funext ρ n H x v
  exact propext ⟨FR.cg, FR.cg⟩
theorem DRk.cg {f g : Nat → List Va → Gh → Res Va} : ∀ {fs : List (Va × Va)} {gs : List (Key × V)}, DRk (S.at f) ρ n H fs gs → DRk (S.at g) ρ n H fs gs
  | [], _, h => h
  | (a, x) :: fs, _, h => by
    obtain ⟨k', y, r, h1, h2, h3, h4⟩ := h
    exact ⟨k', y, r, h1, h2, VR.cg h3, DRk.cg h4⟩
theorem OR.cg {f g : Nat → List Va → Gh → Res Va} {o : VO} {a : Addr} (h : OR (S.at f) ρ n H o a) : OR (S.at g) ρ n H o a := by
  cases o with
  | lst fz xs =>
    cases fz with
    | false => obtain ⟨ys, h1, h2⟩ := h; exact ⟨ys, h1, h2.cg⟩
    | true => obtain ⟨ys, h1, h2⟩ := h; exact ⟨ys, h1, h2.cg⟩
  | dct lk kvs =>
    cases lk with
    | false => obtain ⟨ys, h1, h2⟩ := h; exact ⟨ys, h1, h2.cg⟩
    | true => obtain ⟨o, ys, h1, h2⟩ := h; exact ⟨o, ys, h1, h2.cg⟩
  | ins c fs => obtain ⟨dx, gs, h1, h2, h3⟩ := h; exact ⟨dx, gs, h1, h2.cg, h3⟩
  | deq xs => exact h
theorem Rl.cg {f g : Nat → List Va → Gh → Res Va} (R : Rl (S.at f) ρ G H) : Rl (S.at g) ρ G H := ⟨fun m o h => (R.ob m o h).cg, R.inj⟩
theorem rl_cg (S : Sx) (f g : Nat → List Va → Gh → Res Va) : Rl (S.at f) = Rl (S.at g) := by
  funext ρ G H
  exact propext ⟨Rl.cg, Rl.cg⟩
theorem Post.cg {f g : Nat → List Va → Gh → Res Va} {E : XK} {Q : VK} {r : Res Va} (p : Post (S.at f) (VR (S.at f)) E ρ n H Q r) : Post (S.at g) (VR (S.at g)) E ρ n H Q r := by
  cases r with
  | ok v G => exact fun ρ' H' v' e R r => p ρ' H' v' e R.cg r.cg
  | ex c fs G => exact fun ρ' H' d fs' e R r hd => p ρ' H' d fs' e R.cg r.cg hd
  | no => exact p
end
/-! ### a def of the machine -/
structure FDef (S : Sx) where
  N : List Str
  ar : Nat
  body : CB S
def startL (N : List Str) (as : List Va) : Lo := as.map some ++ List.replicate (N.length - as.length) none
def toR : SR → Res Va
  | .rt v G => .ok v G
  | .nx _ G => .ok .non G
  | .ex c fs _ G => .ex c fs G
  | _ => .no
def runF {S : Sx} (d : Option (FDef S)) (as : List Va) (G : Gh) : Res Va :=
  match d with
  | some d => if as.length = d.ar then toR (d.body.ev (startL d.N as) G) else .no
  | none => .no
abbrev Code := (S : Sx) → Nat → Option (FDef S)
def callF (S : Sx) (code : Code) : Nat → Nat → List Va → Gh → Res Va
  | 0 => fun _ _ _ => .no
  | d + 1 => fun k as G => runF (code (S.at (callF S code d)) k) as G
abbrev Sx.dp (S : Sx) (code : Code) (d : Nat) : Sx := S.at (callF S code d)
/-- what the text has of a def -/
structure DefAt (S : Sx) (code : Code) (k : Nat) (fd : FuncData) (ps : List Str) : Prop where
  ex : ∃ (x qual : Str) (st : Stmt) (N : List Str), L2.Fun S.K x qual st (S.fa k) fd ∧ Binds S.K fd ps [] ∧ FnScope N ps (defScope st) ∧
    ∀ d, ∃ b, code (S.dp code d) k = some ⟨N, ps.length, b⟩ ∧ b.chk N (defScope st) (defBody st) = true
def DefOk (S : Sx) (code : Code) (k : Nat) : Prop := ∃ fd ps, DefAt S code k fd ps
/-- what does not ask how defs run -/
structure Good0 (S : Sx) : Prop where
  cls : ∀ c, c < S.nc → ClsOk S c
  nmi : ∀ i j, i < S.nn → j < S.nn → S.nm i = S.nm j → i = j
  cg1 : PySem.W.specialIn S.K (.builtin "object.__class__") "__get__" = some (some (.builtin "getset_descriptor.__get__"))
  cg2 : PySem.W.takesIn S.K (.builtin "object.__class__") = some true
  bl : ∀ x ∈ S.bl, S.mg x = none
  gl : ∀ p ∈ S.gl, ∃ v' u, S.mg p.1 = some u ∧ RelV v' u ∧ ∀ ρ n H, VR S ρ n H p.2 v'
  cg : ∀ p ∈ S.cg, p.2 < S.nc ∧ S.mg p.1 = some (.ref (S.ca p.2)) ∧ PySem.W.keepIn S.K (.ref (S.ca p.2)) = true
  fg : ∀ p ∈ S.fg, p.2 < S.nf ∧ S.mg p.1 = some (.ref (S.fa p.2))
  bg : ∀ p ∈ S.bg, S.mg p.1 = some (.builtin p.2)
  tg : ∀ p ∈ S.tg, S.mg p.1 = some (.type p.2)
theorem ClsOk.at {S : Sx} {c : Nat} (h : ClsOk S c) (f : Nat → List Va → Gh → Res Va) : ClsOk (S.at f) c :=
  ⟨h.cl, h.nf, h.mt, fun f' v e => by
    obtain ⟨v', u, h1, h2⟩ := h.co f' v e
    exact ⟨v', u, h1, fun ρ n H => (VR.cg (S := S) (f := S.call) (h2 ρ n H))⟩, h.mak, h.ic, h.im, h.it, h.ib, h.is, h.bo⟩
section
variable {S : Sx} {code : Code}
theorem PostS.toR {S : Sx} {E0 : XK} {ρ : Nat → Addr} {n : Nat} {H : Hp} {Q : VK} {r : SR} (p : Post S (VR S) E0 ρ n H Q (toR r)) : PostS S { nx := fun _ H' => Q .non H', rt := Q } (fun _ => E0) ρ n H r := by
  cases r with
  | nx L G => exact fun ρ' H' σ' e R l => p ρ' H' _ e R vr_non'
  | rt v G => exact p
  | ex c fs L G => exact fun ρ' H' σ' d fs' e R l => p ρ' H' d fs' e R
  | bk L G => exact (show False from p).elim
  | ct L G => exact (show False from p).elim
  | no => exact p
theorem lr_start {S : Sx} {ρ : Nat → Addr} {n : Nat} {H : Hp} {N : List Str} {as : List Va} {vs : List V} (r : VRs S ρ n H as vs) : LR S ρ n H (startL N as) (L2.start N vs) := fun i x h => by
  unfold startL at h
  unfold L2.start
  have hl := r.length
  by_cases hi : i < as.length
  · rw [List.getElem?_append_left (by simpa using hi), List.getElem?_map] at h
    obtain ⟨a, ha, e⟩ := Option.map_eq_some_iff.mp h
    cases e
    obtain ⟨y, h1, h2⟩ := r.get ha
    exact ⟨y, by rw [List.getElem?_append_left (by simp; omega), List.getElem?_map, h1]; rfl, h2⟩
  · exfalso
    rw [List.getElem?_append_right (by simpa using hi)] at h
    rw [List.getElem?_replicate] at h
    split at h <;> cases h
/-- the context of a def's body -/
theorem okx_body {S : Sx} {lev : Nat} (g : Good S lev) {N ps : List Str} {qual : Str} {scope : Scope} (sc : FnScope N ps scope) {f : Addr} {cdv : Value} {A : Around} {outer : List Env} {s : Shared} {H : Hp} {E : XK} (hr : Room (lev + 2) (A.deeper (envOfC qual scope s.heap.objs.size f cdv))) :
    Okx S scope N lev (fun _ => E) (cxOf (L2.CX S.P S.w) S.P S.w S.K S.mg S.base N qual scope f cdv A outer s H E) := by
  have tk : Takes (cxOf (L2.CX S.P S.w) S.P S.w S.K S.mg S.base N qual scope f cdv A outer s H E) (fun c d _ H' => E c d H') := takes_of rfl rfl rfl rfl
  exact ⟨rfl, rfl, rfl, rfl, rfl, sc.nd, rfl, rfl, hr, g, fun x k h _ => h, fun x h => .inr h, fun _ _ => .inl rfl, fun σ => passAt tk σ, passes_of rfl, tk⟩
theorem spV_len {S : Sx} {k ar : Nat} {vs : List V} {H : Hp} {Q : VK} {E : XK} (h : spV S k ar vs H Q E) : vs.length = ar := by
  obtain ⟨ρ, G, as, R, va, hl, p⟩ := h
  rw [va.length, hl]
/-- a def, one step deeper -/
theorem fn_at {lev d k : Nat} {fd : FuncData} {ps : List Str} (D : DefAt S code k fd ps) (g : Good (S.dp code d) lev) : FnOk S.P S.w S.K S.mg S.base (L2.CX S.P S.w) (lev + 3) (S.fa k) fd ps (spV (S.dp code (d + 1)) k ps.length) ∧ ∀ as G, as.length ≠ ps.length → (S.dp code (d + 1)).call k as G = .no := by
  obtain ⟨x, qual, st, N, F, b, sc, h⟩ := D.ex
  obtain ⟨bd, hb, hc⟩ := h d
  have run : ∀ as G, (S.dp code (d + 1)).call k as G = if as.length = ps.length then toR (bd.ev (startL N as) G) else .no := fun as G => by
    show runF (code (S.dp code d) k) as G = _
    rw [hb]; rfl
  refine ⟨?_, fun as G hn => by rw [run, if_neg hn]⟩
  show FnOk S.P S.w S.K S.mg S.base (L2.CX S.P S.w) (lev + 2 + 1) (S.fa k) fd ps (spV (S.dp code (d + 1)) k ps.length)
  refine F.okX sc (fun vs H Q E q => spV_len q) fun cdv A outer s H vs Q E hr q => ?_
  have o : Okx (S.dp code d) (defScope st) N lev (fun _ => E) (cxOf (L2.CX S.P S.w) S.P S.w S.K S.mg S.base N qual (defScope st) (S.fa k) cdv A outer s H E) := okx_body g sc hr
  refine ⟨_, bd.ps o hc, ?_⟩
  obtain ⟨ρ, G, as, R, va, hl, p⟩ := q
  rw [run, if_pos hl] at p
  have R' : Rl (S.dp code d) ρ G H := Rl.cg R
  have va' : VRs (S.dp code d) ρ G.length H as vs := VRs.cg va
  exact ⟨ρ, startL N as, G, R', lr_start va', PostS.toR (Post.cg p)⟩
theorem DefAt.parts {k : Nat} {fd : FuncData} {ps : List Str} (D : DefAt S code k fd ps) : PySem.W.keepIn S.K (.ref (S.fa k)) = true ∧ Binds S.K fd ps [] := by
  obtain ⟨x, qual, st, N, F, b, sc, h⟩ := D.ex
  exact ⟨F.kp, b⟩
theorem fn_step {lev d k : Nat} (D : DefOk S code k) (g : Good (S.dp code d) lev) : FnG (S.dp code (d + 1)) (lev + 3) k := by
  obtain ⟨fd, ps, D⟩ := D
  obtain ⟨h1, h2⟩ := fn_at D g
  exact ⟨D.parts.1, fd, ps, h1, D.parts.2, h2⟩
theorem fn_zero {k : Nat} (D : DefOk S code k) : FnG (S.dp code 0) 0 k := by
  obtain ⟨fd, ps, D⟩ := D
  refine ⟨D.parts.1, fd, ps, ⟨fun vs H Q E q => spV_len q, fun A outer s H args us vs Q E _ _ _ _ q => ?_⟩, D.parts.2, fun as G _ => rfl⟩
  obtain ⟨ρ, G, as, R, va, hl, p⟩ := q
  exact p.elim
theorem good_at {lev : Nat} (g : Good0 S) {f : Nat → List Va → Gh → Res Va} (fn : ∀ k, k < S.nf → FnG (S.at f) lev k) : Good (S.at f) lev :=
  ⟨fun c h => (g.cls c h).at f, fn, g.nmi, g.cg1, g.cg2, g.bl, fun p hp => by
    obtain ⟨v', u, h1, h2, h3⟩ := g.gl p hp
    exact ⟨v', u, h1, h2, fun ρ n H => VR.cg (S := S) (f := S.call) (h3 ρ n H)⟩, g.cg, g.fg, g.bg, g.tg⟩
theorem good_dp (g : Good0 S) (D : ∀ k, k < S.nf → DefOk S code k) : ∀ d, Good (S.dp code d) (3 * d)
  | 0 => good_at g fun k hk => fn_zero (D k hk)
  | d + 1 => good_at g fun k hk => fn_step (D k hk) (good_dp g D d)
/-! ### the law's end -/
/-- the law's promise: on any script it answers True -/
def spL (K : PySem.W.Frag) : Sp := fun vs H Q E => ∃ (a : Addr) (ns : List Int), vs = [.ref a] ∧ SqL K H a (ns.map V.int) ∧ Only H ∧ ns.length ≤ 63 ∧ ∀ H', Q (.bl true) H'
theorem vrs_ints {S : Sx} {ρ : Nat → Addr} {n : Nat} {H : Hp} : ∀ ns : List Int, VRs S ρ n H (ns.map Va.int) (ns.map V.int)
  | [] => VRs.nil
  | i :: r => VRs.cons vr_int' (vrs_ints r)
theorem law_imp {S : Sx} {k : Nat} (hv : ∀ ns : List Int, ns.length ≤ 63 → ∃ G', S.call k [.ref 0] [.lst true (ns.map Va.int)] = .ok (.bl true) G') {vs : List V} {H : Hp} {Q : VK} {E : XK} (h : spL S.K vs H Q E) : spV S k 1 vs H Q E := by
  obtain ⟨a, ns, rfl, hq, ho, hl, q⟩ := h
  obtain ⟨G', e⟩ := hv ns hl
  refine ⟨fun _ => a, [.lst true (ns.map Va.int)], [.ref 0], ⟨fun m o hm => ?_, fun i j oi oj hi hj ti tj _ => ?_⟩, VRs.cons (by unfold VR; exact ⟨Nat.zero_lt_one, rfl⟩) .nil, rfl, ?_⟩
  · cases m with
    | succ m => cases m <;> cases hm
    | zero =>
      cases hm
      refine ⟨ns.map V.int, ?_, vrs_ints ns⟩
      rcases hq with (hq | hq) | hq
      · rcases ho a with z | ⟨o, xs, z⟩
        · rw [z] at hq; cases hq
        · rw [z] at hq; cases hq
      · exact .inl hq
      · exact .inr hq
  · cases i with
    | succ i => cases i <;> cases hi
    | zero => cases hi; cases ti
  · rw [e]
    intro ρ' H' v' _ _ r
    obtain rfl := vr_bl r
    exact q H'
theorem law_end {k : Nat} {fd : FuncData} {x : Str} (D : DefAt S code k fd [x]) (g : Good0 S) (Ds : ∀ k, k < S.nf → DefOk S code k) (d : Nat) (hv : ∀ ns : List Int, ns.length ≤ 63 → ∃ G', callF S code (d + 1) k [.ref 0] [.lst true (ns.map Va.int)] = .ok (.bl true) G') :
    FnOk S.P S.w S.K S.mg S.base (L2.CX S.P S.w) (3 * d + 3) (S.fa k) fd [x] (spL S.K) :=
  (fn_at D (good_dp g Ds d)).1.imp fun vs H Q E h => law_imp (S := S.dp code (d + 1)) hv h
end
end VM
/-! VMs: methods of built-in types -/
namespace VM
open PySem PySem.Spec PyProof.Rows L2
abbrev OpM := Va → List Va → Gh → Option (Va × Gh)
def rOM (S : Sx) (op : OpM) : V → List V → Hp → VK → Prop := fun x xs H Q => ∃ ρ G a as, Rl S ρ G H ∧ VR S ρ G.length H a x ∧ VRs S ρ G.length H as xs ∧ Fin1 S ρ G.length H Q (op a as G)
structure Mop (S : Sx) (T : String) (name : Str) (id : String) where
  op : OpM
  ty : Va → Gh → Bool
  pa : PlainAttrs T
  slot : Slot T name id
  hty : typeOf (.builtin id) = pure (.type "method_descriptor")
  tyv : ∀ {ρ G H v x}, ty v G = true → Rl S ρ G H → VR S ρ G.length H v x → tyV S.K T x H
  ok : ∀ {sc N lev E X}, Okx S sc N lev E X → MtR X id (rOM S op)
section
variable {S : Sx} {sc : Scope} {N : List Str} {lev : Nat} {E : EW} {X : Cx} {ρ : Nat → Addr} {G : Gh} {H : Hp} {n : Nat} {T : String} {name : Str} {id : String}
def bmR (m : Mop S T name id) (args : Lo → Gh → Res (List Va)) (L : Lo) (v : Va) (G : Gh) : Res Va := if m.ty v G = true then (args L G).bind fun vs G2 => lift (m.op v vs G2) else .no
def eBm (m : Mop S T name id) (a : CE S) (args : CA S) : Lo → Gh → Res Va := fun L G => (a.ev L G).bind fun v G1 => bmR m args.ev L v G1
def kBm (name : Str) (a : CE S) (args : CA S) (N : List Str) (sc : Scope) : Expr → Bool
  | .Call (.Attribute x y ap) (e :: es) [] pos => decide (name = y) && (decide ((e :: es).length < 30) && ((ap.endLine == pos.line) && (!isSuper x && (args.pl && (args.chk N sc (e :: es) && a.chk N sc x)))))
  | _ => false
theorem cBm_pe (m : Mop S T name id) (a : CE S) (args : CA S) {e : Expr} (o : Okx S sc N lev E X) (h : kBm name a args N sc e = true) : PE X e (WE S E (eBm m a args)) := by
  unfold kBm at h
  split at h
  · rename_i x y ap e es pos
    simp only [Bool.and_eq_true, decide_eq_true_eq, Bool.not_eq_true'] at h
    obtain ⟨rfl, hl, hp, h0, h4, h5, h1⟩ := h
    have hns := args.ns h4 h5
    obtain ⟨s1, s2⟩ := noStars_cons hns
    refine pe_imp (pe_bm m.pa m.slot m.hty (m.ok o) (a.pe o h1) (args.pa o h5) (base_plain h0) ?_ hp (starEach_cons s1) (backTo_plain s2)) fun σ H Q q => ?_
    · rw [any_back hns]
      simp [keywordEach, backToKw] at hl ⊢
      exact hl
    obtain ⟨ρ, L, G, R, l, p⟩ := q
    refine ⟨ρ, L, G, R, l, Post.bind p fun v G1 ρ1 H1 x1 e1 R1 r1 p1 => ?_⟩
    unfold bmR at p1
    split at p1
    · rename_i ht
      refine ⟨by rw [o.K]; exact m.tyv ht R1 r1, ρ1, L, G1, R1, l.mono e1, Post.bind p1 fun vs G2 ρ2 H2 xs e2 R2 r2 p2 => ?_⟩
      exact ⟨ρ2, G2, v, vs, R2, r1.mono e2, r2, fin_of_lift p2⟩
    · exact p1.elim
  · cases h
def cBm (m : Mop S T name id) (a : CE S) (args : CA S) : CE S := .plain (eBm m a args) (kBm name a args) (cBm_pe m a args) fun N sc e h => by cases e <;> first | exact ⟨rfl, rfl⟩ | cases h
def bm0R (m : Mop S T name id) (v : Va) (G : Gh) : Res Va := if m.ty v G = true then lift (m.op v [] G) else .no
def eBm0 (m : Mop S T name id) (a : CE S) : Lo → Gh → Res Va := fun L G => (a.ev L G).bind (bm0R m)
def kBm0 (name : Str) (a : CE S) (N : List Str) (sc : Scope) : Expr → Bool
  | .Call (.Attribute x y ap) [] [] pos => decide (name = y) && ((ap.endLine == pos.line) && (!isSuper x && a.chk N sc x))
  | _ => false
theorem cBm0_pe (m : Mop S T name id) (a : CE S) {e : Expr} (o : Okx S sc N lev E X) (h : kBm0 name a N sc e = true) : PE X e (WE S E (eBm0 m a)) := by
  unfold kBm0 at h
  split at h
  · rename_i x y ap pos
    simp only [Bool.and_eq_true, decide_eq_true_eq, Bool.not_eq_true'] at h
    obtain ⟨rfl, hp, h0, h1⟩ := h
    refine pe_imp (pe_bm0 m.pa m.slot m.hty (m.ok o) (a.pe o h1) (base_plain h0) hp) fun σ H Q q => ?_
    obtain ⟨ρ, L, G, R, l, p⟩ := q
    refine ⟨ρ, L, G, R, l, Post.bind p fun v G1 ρ1 H1 x1 e1 R1 r1 p1 => ?_⟩
    unfold bm0R at p1
    split at p1
    · rename_i ht
      exact ⟨by rw [o.K]; exact m.tyv ht R1 r1, ρ1, G1, v, [], R1, r1, .nil, fin_of_lift p1⟩
    · exact p1.elim
  · cases h
def cBm0 (m : Mop S T name id) (a : CE S) : CE S := .plain (eBm0 m a) (kBm0 name a) (cBm0_pe m a) fun N sc e h => by cases e <;> first | exact ⟨rfl, rfl⟩ | cases h
/-! ### lists -/
def isL : Option VO → Bool
  | some (.lst _ _) => true
  | _ => false
def tyL : Va → Gh → Bool
  | .ref n, G => isL G[n]?
  | _, _ => false
theorem tyL_ok {v : Va} {x : V} (h : tyL v G = true) (R : Rl S ρ G H) (r : VR S ρ G.length H v x) : tyV S.K "list" x H := by
  cases v with
  | ref m =>
    obtain ⟨hm, rfl⟩ := vr_ref r
    obtain ⟨w, hw⟩ := get_of hm
    have h : isL G[m]? = true := h
    rw [hw] at h
    cases w with
    | lst fz xs =>
      obtain ⟨ys, h1, h2⟩ := rl_seq R hw
      exact .inl ⟨rfl, ys, h1⟩
    | _ => cases h
  | _ => cases h
def appF (m : Nat) (y : Va) (G : Gh) : Option (List Va) → Option (Va × Gh)
  | some xs => if xs.length < sizeLine then some (.non, G.set m (.lst false (xs ++ [y]))) else none
  | none => none
def opApp : OpM
  | .ref m, [y], G => appF m y G (mlsO G[m]?)
  | _, _, _ => none
theorem wr_lst {m : Nat} {xs xs' : List Va} {ys' : List V} (R : Rl S ρ G H) (h : mlsO G[m]? = some xs) (r : VRs S ρ G.length H xs' ys') : Rl S ρ (G.set m (.lst false xs')) (upd H (ρ m) (.lst ys')) ∧ Ext ρ G.length H ρ (G.set m (VO.lst false xs')).length (upd H (ρ m) (.lst ys')) := by
  obtain ⟨ys, k1, k2⟩ := mls_ok R h
  exact R.write (o' := .lst false xs') (u := .lst ys') (mls_eq h) rfl rfl (fun xs z => by rw [k1] at z; cases z) (fun b v z => by rw [k1] at z; cases z) (fun ρ' hρ' ex => by
    subst hρ'
    exact ⟨_, upd_same, r.mono ex⟩)
theorem app_mt (o : Okx S sc N lev E X) : MtR X "list.append" (rOM S opApp) := by
  intro pins s σ H x xs v us Q I rx rs h
  obtain ⟨ρ, G, a, as, R, ra, rv, p⟩ := h
  cases a with
  | ref m =>
    obtain ⟨hm, rfl⟩ := vr_ref ra
    cases as with
    | nil => exact p.no.elim
    | cons y as =>
      cases as with
      | cons _ _ => exact p.no.elim
      | nil =>
        obtain ⟨y', rfl, ry⟩ := rv.one
        have p : Fin1 S ρ G.length H Q (appF m y G (mlsO G[m]?)) := p
        cases e : mlsO G[m]? with
        | none => rw [e] at p; exact p.no.elim
        | some zs =>
          rw [e] at p
          have p : Fin1 S ρ G.length H Q (if zs.length < sizeLine then some (.non, G.set m (.lst false (zs ++ [y]))) else none) := p
          split at p
          · rename_i hz
            obtain ⟨ys, k1, k2⟩ := mls_ok R e
            refine mt_append pins s σ H _ _ v us Q I rx rs ⟨ρ m, ys, y', rfl, rfl, k1, by rw [k2.length]; exact hz, ?_⟩
            have w := wr_lst R e (k2.append (VRs.cons ry .nil))
            exact fin_step p w.2 w.1 vr_non'
          · exact p.no.elim
  | _ => exact p.no.elim
def mApp : Mop S "list" "append" "list.append" := ⟨opApp, tyL, PySem.F.plainAttrs_list, PySem.F.slot_list_append, PySem.F.type_list_append, fun h R r => tyL_ok h R r, app_mt⟩
end
end VM
/-! VMt: what the top has written, as the machine's tables -/
namespace VM
open PySem PySem.Spec PyProof.Rows L2
theorem ref_beq (a b : Addr) : (Value.ref a == Value.ref b) = (a == b) := by
  rw [Bool.eq_iff_iff, beq_iff_eq, beq_iff_eq]
  exact ⟨fun h => Value.ref.inj h, fun h => by rw [h]⟩
theorem cls_some {K : PySem.W.Frag} {C : Addr} {v : Value} {b : Bool} (h : PySem.W.mroIn K C v = some b) : (PySem.W.clsIn K C).isSome = true := by
  unfold PySem.W.mroIn at h
  cases e : PySem.W.clsIn K C with
  | none => rw [e] at h; cases h
  | some cd => rfl
theorem ty_some {K : PySem.W.Frag} {C : Addr} (h : PySem.W.typeIn K (.ref C) = some (.type "type")) : (PySem.W.typeIn K (.ref C) == some (.type "type")) = true := by rw [h]; decide +kernel
theorem kit_tag {K : PySem.W.Frag} {C : Addr} (im : PySem.W.mroIn K C (.type "object") = some true) (ty : PySem.W.typeIn K (.ref C) = some (.type "type")) : ∀ m ∈ tagL, PySem.W.kitOne K (.type m) (.ref C) = some false := by
  have key : ∀ m, (PySem.fastBuiltinMro m).map (·.contains (Value.ref C)) = some false → PySem.W.kitOne K (.type m) (.ref C) = some false := fun m h => by
    unfold PySem.W.kitOne
    rw [if_neg (fun z => by have z := beq_iff_eq.mp z; cases z)]
    show (if ((PySem.W.clsIn K C).isSome && PySem.W.typeIn K (.ref C) == some (.type "type")) = true then PySem.W.subIn K (.type m) (.ref C) else none) = _
    rw [if_pos (by rw [cls_some im, ty_some ty]; rfl)]
    exact h
  refine List.forall_mem_cons.mpr ⟨key _ (by kernel_rfl), List.forall_mem_cons.mpr ⟨key _ (by kernel_rfl), List.forall_mem_cons.mpr ⟨key _ (by kernel_rfl), List.forall_mem_cons.mpr ⟨key _ (by kernel_rfl), List.forall_mem_cons.mpr ⟨key _ (by kernel_rfl), List.forall_mem_cons.mpr ⟨key _ (by kernel_rfl), List.forall_mem_cons.mpr ⟨key _ (by kernel_rfl), fun _ h => by cases h⟩⟩⟩⟩⟩⟩⟩
theorem kit_cls {K : PySem.W.Frag} {C C' : Addr} {v : Value} {b b' : Bool} (im : PySem.W.mroIn K C v = some b') (ty : PySem.W.typeIn K (.ref C) = some (.type "type")) (mr : PySem.W.mroIn K C' (.ref C) = some b) (ne : (C' == C) = false) : PySem.W.kitOne K (.ref C') (.ref C) = some b := by
  unfold PySem.W.kitOne
  rw [if_neg (by rw [ref_beq, ne]; decide)]
  show (if ((PySem.W.clsIn K C).isSome && PySem.W.typeIn K (.ref C) == some (.type "type")) = true then PySem.W.subIn K (.ref C') (.ref C) else none) = _
  rw [if_pos (by rw [cls_some im, ty_some ty]; rfl)]
  exact mr
theorem kit_self {K : PySem.W.Frag} {C : Addr} : PySem.W.kitOne K (.ref C) (.ref C) = some true := by
  unfold PySem.W.kitOne
  rw [if_pos (by rw [ref_beq]; exact beq_self_eq_true _)]
theorem look_all {Q : Nat → Nat → Prop} : ∀ {l : List (Nat × Nat)}, (∀ p ∈ l, Q p.1 p.2) → ∀ m k, l.lookup m = some k → Q m k
  | [], _, m, k, h => by cases h
  | (a, b) :: l, hl, m, k, h => by
    obtain ⟨h1, h2⟩ := List.forall_mem_cons.mp hl
    rw [List.lookup_cons] at h
    cases e : m == a with
    | true =>
      rw [e] at h
      cases h
      have : m = a := by simpa using e
      subst this
      exact h1
    | false =>
      rw [e] at h
      exact look_all h2 m k h
/-- a def's facts -/
theorem def_mk {S : Sx} {code : Code} {k : Nat} {x qual : Str} {st : Stmt} {N ps : List Str} {oc : Value} {od an : Option Addr} {osl : Array (Option Value)} {kV doc pm cdv ct : Value}
    (l : S.K.lookup (S.fa k) = some ⟨oc, od, .func (PySem.W.fnOf x qual (defArgs st) (defBody st) (defScope st) .none kV doc pm an cdv ct), osl⟩)
    (c : PySem.W.codeIn S.K cdv qual = true) (kp : PySem.W.keepIn S.K (.ref (S.fa k)) = true)
    (hb : ∀ (kV doc pm : Value) (an : Option Addr) (cdv ct : Value) (us : List Value), us.length = ps.length → bindArgs (PySem.W.fnOf x qual (defArgs st) (defBody st) (defScope st) .none kV doc pm an cdv ct) ⟨us, []⟩ = pure (ps.zip us))
    (sc : FnScope N ps (defScope st)) (h : ∀ d, ∃ b, code (S.dp code d) k = some ⟨N, ps.length, b⟩ ∧ b.chk N (defScope st) (defBody st) = true) :
    DefAt S code k (PySem.W.fnOf x qual (defArgs st) (defBody st) (defScope st) .none kV doc pm an cdv ct) ps :=
  have F := fun_mk l c kp
  ⟨⟨x, qual, st, N, F, F.binds hb, sc, h⟩⟩
end VM
namespace LawX
open PySem PySem.Spec PyProof.Rows L2 VM
def top (i : Nat) : Stmt := PySem.Challenge.pw_openchange_k68_whole_lease_relations.main.body.getD i (.Pass ⟨0, 0, 0, 0⟩)
def nms : List Str := ["shortest_wait", "reach", "delay", "shows", "tells", "made", "came", "used", "margin", "drift", "wait", "length", "longest_lease", "__init__", "__bool__"]
def nmF (i : Nat) : Str := nms.getD i ""
section
variable (S : Sx)
def f0 : FDef S := ⟨["value", "low", "high"], 3,
 (bCons (sRet (cBop true (cBi bIsi (aCons (cVar 0) (aCons (cTy "int") aNil))) [(cNot (cBi bIsi (aCons (cVar 0) (aCons (cTy "bool") aNil)))), (cChn .LtE .LtE (cVar 1) (cVar 0) (cVar 2))]))
  bNil)⟩
def f1 : FDef S := ⟨["lag"], 1,
 (bCons (sIf (cNot (cCall 0 (aCons (cVar 0) (aCons (cI 1) (aCons (cGl 0) aNil)))))
 (bCons sNever
  bNil)
 bNil)
  (bCons (sRet (cVar 0))
  bNil))⟩
def f2 : FDef S := ⟨["above", "below", "common"], 2,
 (bCons (sAsg (gNm 2) (cBg bGcd (aCons (cVar 0) (aCons (cVar 1) aNil))))
  (bCons (sRet (cTup (aCons (cBin .FloorDiv (cVar 0) (cVar 2)) (aCons (cBin .FloorDiv (cVar 1) (cVar 2)) aNil))))
  bNil))⟩
def f3 : FDef S := ⟨["one", "other"], 2,
 (bCons (sRet (cCall 2 (aCons (cBin .Add (cBin .Mult (cIdx (cVar 0) (cI 0)) (cIdx (cVar 1) (cI 1))) (cBin .Mult (cIdx (cVar 1) (cI 0)) (cIdx (cVar 0) (cI 1)))) (aCons (cBin .Mult (cIdx (cVar 0) (cI 1)) (cIdx (cVar 1) (cI 1))) aNil))))
  bNil)⟩
def f4 : FDef S := ⟨["one", "other"], 2,
 (bCons (sRet (cCmp .Lt (cBin .Mult (cIdx (cVar 0) (cI 0)) (cIdx (cVar 1) (cI 1))) (cBin .Mult (cIdx (cVar 1) (cI 0)) (cIdx (cVar 0) (cI 1)))))
  bNil)⟩
def f5 : FDef S := ⟨["value", "one"], 1,
 (bCons (sIf (cBop false (cNot (cBi bIsi (aCons (cVar 0) (aCons (cTy "tuple") aNil)))) [(cCmp .NotEq (cBi bLen (aCons (cVar 0) aNil)) (cI 2))])
 (bCons (sRet (cB false))
  bNil)
 bNil)
  (bCons (sIf (cNot (cBi bAll (aCons (cLc (cItV (cVar 0)) (gNm 1) t0 (cBop true (cBi bIsi (aCons (cVar 1) (aCons (cTy "int") aNil))) [(cNot (cBi bIsi (aCons (cVar 1) (aCons (cTy "bool") aNil))))]) [("one", 1)]) aNil)))
 (bCons (sRet (cB false))
  bNil)
 bNil)
  (bCons (sRet (cBop true (cCmp .GtE (cIdx (cVar 0) (cI 0)) (cI 0)) [(cCmp .Gt (cIdx (cVar 0) (cI 1)) (cI 0)), (cCmp .Eq (cBg bGcd (aCons (cIdx (cVar 0) (cI 0)) (aCons (cIdx (cVar 0) (cI 1)) aNil))) (cI 1))]))
  bNil)))⟩
def f6 : FDef S := ⟨["terms", "lag", "wait", "reach"], 2,
 (bCons (sPar 2 3 (aCons (cMth 0 (cVar 0) aNil) (aCons (cMth 1 (cVar 0) aNil) aNil)))
  (bCons (sRet (cTup (aCons (cBin .Sub (cBin .Mult (cBin .Mult (cVar 1) (cIdx (cVar 2) (cI 0))) (cIdx (cVar 3) (cI 1))) (cBin .Mult (cIdx (cVar 3) (cI 0)) (cIdx (cVar 2) (cI 1)))) (aCons (cBin .Mult (cIdx (cVar 2) (cI 1)) (cIdx (cVar 3) (cI 1))) aNil))))
  bNil))⟩
def f7 : FDef S := ⟨["tells", "wait", "at"], 2,
 (bCons (sRet (cBi bAll (aCons (cLc (cRng1 (cBin .Sub (cBi bLen (aCons (cVar 0) aNil)) (cI 1))) (gNm 2) t0 (cNot (cCall 4 (aCons (cIdx (cVar 0) (cBin .Add (cVar 2) (cI 1))) (aCons (cCall 3 (aCons (cIdx (cVar 0) (cVar 2)) (aCons (cVar 1) aNil))) aNil)))) [("at", 2)]) aNil)))
  bNil)⟩
def f8 : FDef S := ⟨["tells", "time", "one"], 2,
 (bCons (sRet (cBin .Sub (cBi bLen (aCons (cLc (cItV (cVar 0)) (gNm 2) (t1 (cNot (cCall 4 (aCons (cVar 1) (aCons (cVar 2) aNil))))) (cVar 2) [("one", 2)]) aNil)) (cI 1)))
  bNil)⟩
def f9 : FDef S := ⟨["terms", "lag", "tells", "turn", "gap", "early", "made", "came", "found", "wait"], 2,
 (bCons (sExpr (cCall 1 (aCons (cVar 1) aNil)))
  (bCons (sPar 8 9 (aCons (cCall 6 (aCons (cVar 0) (aCons (cVar 1) aNil))) (aCons (cMth 0 (cVar 0) aNil) aNil)))
  (bCons (sIf (cCmp .GtE (cIdx (cVar 8) (cI 0)) (cI 0))
 (bCons (sRet (cNew 1 (aCons (cCall 2 (aCons (cIdx (cVar 8) (cI 0)) (aCons (cIdx (cVar 8) (cI 1)) aNil))) aNil)))
  bNil)
 bNil)
  (bCons (sAsg (gNm 2) (cLst (aCons (cTup (aCons (cI 0) (aCons (cI 1) aNil))) aNil)))
  (bCons (sFor (cRng1 (cBin .Add (cVar 1) (cI 1))) (gNm 3)
 (bCons (sExpr (cBm mApp (cVar 2) (aCons (cCall 3 (aCons (cIdx (cVar 2) (cNeg (cI 1))) (aCons (cVar 9) aNil))) aNil)))
  bNil))
  (bCons (sAsg (gNm 4) (cCall 2 (aCons (cNeg (cIdx (cVar 8) (cI 0))) (aCons (cBin .Mult (cI 2) (cIdx (cVar 8) (cI 1))) aNil))))
  (bCons (sAsg (gNm 5) (cIf (cCall 4 (aCons (cVar 4) (aCons (cVar 9) aNil))) (cVar 4) (cVar 9)))
  (bCons (sAsg (gNm 6) (cCall 2 (aCons (cBin .Sub (cBin .Mult (cIdx (cVar 9) (cI 0)) (cIdx (cVar 5) (cI 1))) (cBin .Mult (cIdx (cVar 5) (cI 0)) (cIdx (cVar 9) (cI 1)))) (aCons (cBin .Mult (cIdx (cVar 9) (cI 1)) (cIdx (cVar 5) (cI 1))) aNil))))
  (bCons (sAsg (gNm 7) (cCall 3 (aCons (cVar 6) (aCons (cTup (aCons (cAtt (cVar 0) 2) (aCons (cI 1) aNil))) aNil))))
  (bCons (sRet (cNew 2 (aCons (cVar 2) (aCons (cVar 6) (aCons (cVar 7) (aCons (cIf (cCall 4 (aCons (cIdx (cVar 2) (cNeg (cI 1))) (aCons (cVar 7) aNil))) (cVar 7) (cIdx (cVar 2) (cNeg (cI 1)))) aNil))))))
  bNil))))))))))⟩
def f10 : FDef S := ⟨["length", "delay", "drift", "lag", "terms", "reach", "above", "below"], 4,
 (bCons (sExpr (cCall 1 (aCons (cVar 3) aNil)))
  (bCons (sAsg (gNm 4) (cNew 0 (aCons (cVar 0) (aCons (cVar 1) (aCons (cI 1) (aCons (cVar 2) aNil))))))
  (bCons (sAsg (gTp 2 (gsCons (gNm 6) (gsCons (gNm 7) gsNil))) (cVar 2))
  (bCons (sAsg (gNm 5) (cMth 1 (cVar 4) aNil))
  (bCons (sRet (cBi bMax (aCons (cI 1) (aCons (cNeg (cBin .FloorDiv (cBin .Mult (cNeg (cIdx (cVar 5) (cI 0))) (cBin .Add (cVar 7) (cVar 6))) (cBin .Mult (cBin .Mult (cIdx (cVar 5) (cI 1)) (cVar 7)) (cVar 3)))) aNil))))
  bNil)))))⟩
def f11 : FDef S := ⟨["terms", "found", "wait", "reach"], 1,
 (bCons (sPar 2 3 (aCons (cMth 0 (cVar 0) aNil) (aCons (cMth 1 (cVar 0) aNil) aNil)))
  (bCons (sAsg (gNm 1) (cBi bMax (aCons (cI 1) (aCons (cNeg (cBin .FloorDiv (cBin .Mult (cNeg (cIdx (cVar 3) (cI 0))) (cIdx (cVar 2) (cI 1))) (cBin .Mult (cIdx (cVar 3) (cI 1)) (cIdx (cVar 2) (cI 0))))) aNil))))
  (bCons (sRet (cIf (cCmp .LtE (cVar 1) (cI 20)) (cVar 1) cN))
  bNil)))⟩
def f12 : FDef S := ⟨["script", "index", "rest", "step", "blend", "cell", "turn"], 2,
 (bCons (sAsg (gTp 2 (gsCons (gNm 5) (gsCons (gNm 6) gsNil))) (cIf (cCmp .NotEq (cVar 0) (cLst aNil)) (cTup (aCons (cIdx (cVar 0) (cBin .Mod (cVar 1) (cBi bLen (aCons (cVar 0) aNil)))) (aCons (cBin .FloorDiv (cVar 1) (cBi bLen (aCons (cVar 0) aNil))) aNil))) (cTup (aCons (cI 12345) (aCons (cI 0) aNil)))))
  (bCons (sAsg (gNm 2) (cIf (cCmp .Lt (cVar 6) (cI 60)) (cBin .Sub (cVar 5) (cBin .Pow (cI 10) (cI 18))) (cI 0)))
  (bCons (sFor (cRng1 (cBin .Mod (cBt bInt (aCons (cVar 6) aNil)) (cI 60))) (gNm 3)
 (bCons (sAsg (gNm 2) (cBin .FloorDiv (cVar 2) (cI 1009)))
  bNil))
  (bCons (sIf (cCmp .Gt (cVar 2) (cI 0))
 (bCons (sRet (cBin .Mod (cBt bInt (aCons (cVar 2) aNil)) (cI 1009)))
  bNil)
 bNil)
  (bCons (sAsg (gNm 4) (cBin .Mod (cBin .Add (cBin .Mult (cBt bInt (aCons (cBin .Add (cVar 5) (cBin .Mult (cI 977) (cVar 1))) aNil)) (cI 48271)) (cBin .Mult (cI 31) (cBi bLen (aCons (cVar 0) aNil)))) (cI 2147483647)))
  (bCons (sAsg (gNm 4) (cBin .Mod (cBin .Add (cBin .Mult (cVar 4) (cVar 4)) (cBin .Mult (cI 40503) (cVar 1))) (cI 2147483629)))
  (bCons (sRet (cBt bInt (aCons (cBin .Mod (cBin .Add (cBin .Mult (cVar 4) (cI 69621)) (cBin .FloorDiv (cVar 4) (cI 977))) (cI 2147483587)) aNil)))
  bNil)))))))⟩
def f13 : FDef S := ⟨["draw", "many"], 2,
 (bCons (sAugS (cVar 0) (cI 1) (cI 1))
  (bCons (sRet (cBin .Mod (cBt bInt (aCons (cCall 12 (aCons (cIdx (cVar 0) (cI 0)) (aCons (cBt bInt (aCons (cIdx (cVar 0) (cI 1)) aNil)) aNil))) aNil)) (cVar 1)))
  bNil))⟩
def f14 : FDef S := ⟨["above", "below", "turn", "one", "other"], 2,
 (bCons (sPar 3 4 (aCons (cBi bAbs (aCons (cVar 0) aNil)) (aCons (cBi bAbs (aCons (cVar 1) aNil)) aNil)))
  (bCons (sFor (cRng1 (cI 5000)) (gNm 2)
 (bCons (sIf (cCmp .Eq (cVar 4) (cI 0))
 (bCons sBreak
  bNil)
 bNil)
  (bCons (sPar 3 4 (aCons (cVar 4) (aCons (cBin .Mod (cBt bInt (aCons (cVar 3) aNil)) (cVar 4)) aNil)))
  bNil)))
  (bCons (sRet (cTup (aCons (cBin .FloorDiv (cVar 0) (cVar 3)) (aCons (cBin .FloorDiv (cVar 1) (cVar 3)) aNil))))
  bNil)))⟩
def f15 : FDef S := ⟨["script", "draw", "f", "drift", "found", "better", "many", "scaled", "waits", "low", "least", "e", "lag", "length", "delay", "wait", "terms", "rows", "one", "time"], 1,
 (bCons (sAsg (gNm 1) (cLst (aCons (cVar 0) (aCons (cI 0) aNil))))
  (bCons (sAsg (gNm 2) (cBin .Add (cI 2) (cCall 13 (aCons (cVar 1) (aCons (cI 30) aNil)))))
  (bCons (sPar 11 12 (aCons (cCall 13 (aCons (cVar 1) (aCons (cVar 2) aNil))) (aCons (cBin .Add (cI 1) (cCall 13 (aCons (cVar 1) (aCons (cI 6) aNil)))) aNil)))
  (bCons (sAsg (gNm 3) (cCall 14 (aCons (cVar 11) (aCons (cVar 2) aNil))))
  (bCons (sAsg (gTp 3 (gsCons (gNm 13) (gsCons (gNm 14) (gsCons (gNm 15) gsNil)))) (cTup (aCons (cBin .Add (cI 1) (cCall 13 (aCons (cVar 1) (aCons (cI 50) aNil)))) (aCons (cCall 13 (aCons (cVar 1) (aCons (cI 30) aNil))) (aCons (cBin .Add (cI 1) (cCall 13 (aCons (cVar 1) (aCons (cI 90) aNil)))) aNil)))))
  (bCons (sAsg (gNm 4) (cCall 9 (aCons (cNew 0 (aCons (cVar 13) (aCons (cVar 14) (aCons (cVar 15) (aCons (cVar 3) aNil))))) (aCons (cVar 12) aNil))))
  (bCons (sAsg (gNm 5) (cLst (aCons (cCall 9 (aCons (cNew 0 (aCons (cVar 13) (aCons (cVar 14) (aCons (cBin .Add (cBin .Add (cVar 15) (cI 1)) (cCall 13 (aCons (cVar 1) (aCons (cI 9) aNil)))) (aCons (cVar 3) aNil))))) (aCons (cVar 12) aNil))) (aCons (cCall 9 (aCons (cNew 0 (aCons (cVar 13) (aCons (cVar 14) (aCons (cVar 15) (aCons (cVar 3) aNil))))) (aCons (cBin .Add (cVar 12) (cI 1)) aNil))) aNil))))
  (bCons (sAugN 5 (cLst (aCons (cCall 9 (aCons (cNew 0 (aCons (cBin .Add (cI 1) (cCall 13 (aCons (cVar 1) (aCons (cVar 13) aNil)))) (aCons (cCall 13 (aCons (cVar 1) (aCons (cBin .Add (cVar 14) (cI 1)) aNil))) (aCons (cVar 15) (aCons (cCall 14 (aCons (cCall 13 (aCons (cVar 1) (aCons (cBin .Add (cVar 11) (cI 1)) aNil))) (aCons (cVar 2) aNil))) aNil))))) (aCons (cVar 12) aNil))) aNil)))
  (bCons (sIf (cBop true (cVar 4) [(cNot (cBi bAll (aCons (cLc (cItV (cVar 5)) (gNm 18) t0 (cBool (cVar 18)) [("one", 18)]) aNil)))])
 (bCons (sRet (cB false))
  bNil)
 bNil)
  (bCons (sAsg (gNm 6) (cBin .Add (cI 2) (cCall 13 (aCons (cVar 1) (aCons (cI 900) aNil)))))
  (bCons (sAsg (gNm 7) (cCall 9 (aCons (cNew 0 (aCons (cBin .Mult (cVar 13) (cVar 6)) (aCons (cBin .Mult (cVar 14) (cVar 6)) (aCons (cBin .Mult (cVar 15) (cVar 6)) (aCons (cVar 3) aNil))))) (aCons (cVar 12) aNil))))
  (bCons (sIf (cBop false (cCmp .NotEq (cBool (cVar 7)) (cBool (cVar 4))) [(cCmp .NotEq (cBool (cCall 9 (aCons (cNew 0 (aCons (cVar 13) (aCons (cVar 14) (aCons (cBin .Mult (cVar 15) (cVar 12)) (aCons (cVar 3) aNil))))) (aCons (cI 1) aNil)))) (cBool (cVar 4)))])
 (bCons (sRet (cB false))
  bNil)
 bNil)
  (bCons (sIf (cBop true (cVar 4) [(cCmp .NotEq (cAtt (cVar 7) 8) (cCall 14 (aCons (cBin .Mult (cIdx (cAtt (cVar 4) 8) (cI 0)) (cVar 6)) (aCons (cIdx (cAtt (cVar 4) 8) (cI 1)) aNil))))])
 (bCons (sRet (cB false))
  bNil)
 bNil)
  (bCons (sIf (cBi bIsi (aCons (cVar 4) (aCons (cCl 2) aNil)))
 (bCons (sAsg (gNm 16) (cNew 0 (aCons (cVar 13) (aCons (cVar 14) (aCons (cVar 15) (aCons (cVar 3) aNil))))))
  (bCons (sIf (cNot (cBi bAll (aCons (cLc (cRng2 (cI 1) (cBin .Add (cVar 12) (cI 1))) (gNm 18) t0 (cMth 3 (cVar 4) (aCons (cVar 16) (aCons (cVar 18) aNil))) [("one", 18)]) aNil)))
 (bCons (sRet (cB false))
  bNil)
 bNil)
  (bCons (sLcS 17 (cItV (cBin .Add (cBt bList (aCons (cAtt (cVar 4) 4) aNil)) (cLst (aCons (cAtt (cVar 4) 5) (aCons (cAtt (cVar 4) 6) (aCons (cAtt (cVar 4) 7) aNil)))))) (gNm 19) t0 (cCall 14 (aCons (cBin .Add (cIdx (cVar 19) (cI 0)) (cBin .Mult (cI 5) (cIdx (cVar 19) (cI 1)))) (aCons (cIdx (cVar 19) (cI 1)) aNil))) [("time", 19)])
  (bCons (sIf (cNot (cMth 3 (cNew 2 (aCons (cSl (cVar 17) none (some (cNeg (cI 3)))) (aCons (cIdx (cVar 17) (cNeg (cI 3))) (aCons (cIdx (cVar 17) (cNeg (cI 2))) (aCons (cIdx (cVar 17) (cNeg (cI 1))) aNil))))) (aCons (cVar 16) (aCons (cVar 12) aNil))))
 (bCons (sRet (cB false))
  bNil)
 bNil)
  bNil))))
 bNil)
  (bCons (sLcS 8 (cItV (cTup (aCons (cI 1) (aCons (cVar 12) (aCons (cBin .Add (cVar 12) (cI 1)) aNil))))) (gNm 18) t0 (cCall 10 (aCons (cVar 13) (aCons (cVar 14) (aCons (cVar 3) (aCons (cVar 18) aNil))))) [("one", 18)])
  (bCons (sIf (cBop false (cNot (cChn .GtE .GtE (cIdx (cVar 8) (cI 0)) (cIdx (cVar 8) (cI 1)) (cIdx (cVar 8) (cI 2)))) [(cCmp .NotEq (cCmp .LtE (cIdx (cVar 8) (cI 1)) (cVar 15)) (cBool (cVar 4)))])
 (bCons (sRet (cB false))
  bNil)
 bNil)
  (bCons (sAsg (gNm 9) (cBi bMin (aCons (cVar 14) (aCons (cVar 15) aNil))))
  (bCons (sIf (cBop false (cCmp .NotEq (cCall 11 (aCons (cNew 0 (aCons (cBin .Sub (cBin .Mult (cI 20) (cVar 15)) (cVar 9)) (aCons (cVar 9) (aCons (cVar 15) (aCons (cTup (aCons (cI 0) (aCons (cI 1) aNil))) aNil))))) aNil)) (cI 20)) [(cCmp .IsNot (cCall 11 (aCons (cNew 0 (aCons (cBin .Add (cBin .Sub (cBin .Mult (cI 20) (cVar 15)) (cVar 9)) (cI 1)) (aCons (cVar 9) (aCons (cVar 15) (aCons (cTup (aCons (cI 0) (aCons (cI 1) aNil))) aNil))))) aNil)) cN)])
 (bCons (sRet (cB false))
  bNil)
 bNil)
  (bCons (sIf (cCmp .NotEq (cCall 11 (aCons (cNew 0 (aCons (cBin .Add (cBin .Sub (cBin .Mult (cI 19) (cVar 15)) (cVar 9)) (cI 1)) (aCons (cVar 9) (aCons (cVar 15) (aCons (cTup (aCons (cI 0) (aCons (cI 1) aNil))) aNil))))) aNil)) (cI 20))
 (bCons (sRet (cB false))
  bNil)
 bNil)
  (bCons (sAsg (gNm 10) (cCall 11 (aCons (cNew 0 (aCons (cVar 13) (aCons (cVar 14) (aCons (cVar 15) (aCons (cVar 3) aNil))))) aNil)))
  (bCons (sRet (cCmp .Eq (cBop true (cCmp .IsNot (cVar 10) cN) [(cCmp .LtE (cVar 10) (cVar 12))]) (cBool (cVar 4))))
  bNil)))))))))))))))))))))⟩
def f16 : FDef S := ⟨["self", "length", "delay", "wait", "drift", "rights", "part", "is_right"], 5,
 (bCons (sAsg (gNm 5) (cTup (aCons (cTup (aCons (cS [108, 101, 110, 103, 116, 104]) (aCons (cCall 0 (aCons (cVar 1) (aCons (cI 1) (aCons (cGl 1) aNil)))) aNil))) (aCons (cTup (aCons (cS [100, 101, 108, 97, 121]) (aCons (cCall 0 (aCons (cVar 2) (aCons (cI 0) (aCons (cGl 1) aNil)))) aNil))) (aCons (cTup (aCons (cS [119, 97, 105, 116]) (aCons (cCall 0 (aCons (cVar 3) (aCons (cI 1) (aCons (cGl 1) aNil)))) aNil))) (aCons (cTup (aCons (cS [100, 114, 105, 102, 116]) (aCons (cBop true (cCall 5 (aCons (cVar 4) aNil)) [(cChn .Lt .LtE (cIdx (cVar 4) (cI 0)) (cIdx (cVar 4) (cI 1)) (cI 1000))]) aNil))) aNil))))))
  (bCons (sFor (cItV (cVar 5)) (gTp 2 (gsCons (gNm 6) (gsCons (gNm 7) gsNil)))
 (bCons (sIf (cNot (cVar 7))
 (bCons sNever
  bNil)
 bNil)
  bNil))
  (bCons (sFldS (cVar 0) 11 (cVar 1))
  (bCons (sFldS (cVar 0) 2 (cVar 2))
  (bCons (sFldS (cVar 0) 10 (cVar 3))
  (bCons (sFldS (cVar 0) 9 (cVar 4))
  bNil))))))⟩
def f17 : FDef S := ⟨["self", "above", "below"], 1,
 (bCons (sAsg (gTp 2 (gsCons (gNm 1) (gsCons (gNm 2) gsNil))) (cAtt (cVar 0) 9))
  (bCons (sRet (cCall 2 (aCons (cBin .Mult (cAtt (cVar 0) 10) (cVar 2)) (aCons (cBin .Add (cVar 2) (cVar 1)) aNil))))
  bNil))⟩
def f18 : FDef S := ⟨["self", "above", "below"], 1,
 (bCons (sAsg (gTp 2 (gsCons (gNm 1) (gsCons (gNm 2) gsNil))) (cAtt (cVar 0) 9))
  (bCons (sRet (cCall 2 (aCons (cBin .Mult (cAtt (cVar 0) 11) (cVar 2)) (aCons (cBin .Sub (cVar 2) (cVar 1)) aNil))))
  bNil))⟩
def f19 : FDef S := ⟨["self"], 1,
 (bCons (sRet (cCall 3 (aCons (cTup (aCons (cAtt (cVar 0) 2) (aCons (cI 1) aNil))) (aCons (cMth 12 (cVar 0) aNil) aNil))))
  bNil)⟩
def f20 : FDef S := ⟨["self", "margin_of_waits"], 2,
 (bCons (sFldS (cVar 0) 8 (cVar 1))
  bNil)⟩
def f21 : FDef S := ⟨["self"], 1,
 (bCons (sRet (cB true))
  bNil)⟩
def f22 : FDef S := ⟨["self", "terms", "lag", "found"], 3,
 (bCons (sExpr (cCall 1 (aCons (cVar 2) aNil)))
  (bCons (sAsg (gNm 3) (cCall 6 (aCons (cVar 1) (aCons (cVar 2) aNil))))
  (bCons (sRet (cBop true (cCmp .GtE (cIdx (cVar 3) (cI 0)) (cI 0)) [(cCmp .Eq (cAtt (cVar 0) 8) (cCall 2 (aCons (cIdx (cVar 3) (cI 0)) (aCons (cIdx (cVar 3) (cI 1)) aNil))))]))
  bNil)))⟩
def f23 : FDef S := ⟨["self", "tells", "made", "came", "used"], 5,
 (bCons (sFldS (cVar 0) 4 (cBt bTup (aCons (cVar 1) aNil)))
  (bCons (sFldS (cVar 0) 5 (cVar 2))
  (bCons (sFldS (cVar 0) 6 (cVar 3))
  (bCons (sFldS (cVar 0) 7 (cVar 4))
  bNil))))⟩
def f24 : FDef S := ⟨["self"], 1,
 (bCons (sRet (cB false))
  bNil)⟩
def f25 : FDef S := ⟨["self", "terms", "lag", "time"], 3,
 (bCons (sExpr (cCall 1 (aCons (cVar 2) aNil)))
  (bCons (sIf (cNot (cBi bAll (aCons (cLc (cItV (cTup (aStar (cAtt (cVar 0) 4) (aCons (cAtt (cVar 0) 5) (aCons (cAtt (cVar 0) 6) (aCons (cAtt (cVar 0) 7) aNil)))))) (gNm 3) t0 (cCall 5 (aCons (cVar 3) aNil)) [("time", 3)]) aNil)))
 (bCons (sRet (cB false))
  bNil)
 bNil)
  (bCons (sIf (cBop false (cCmp .Eq (cAtt (cVar 0) 4) (cTup aNil)) [(cNot (cCall 7 (aCons (cAtt (cVar 0) 4) (aCons (cMth 0 (cVar 1) aNil) aNil))))])
 (bCons (sRet (cB false))
  bNil)
 bNil)
  (bCons (sIf (cBop false (cCall 4 (aCons (cAtt (cVar 0) 5) (aCons (cIdx (cAtt (cVar 0) 4) (cI 0)) aNil))) [(cCall 4 (aCons (cAtt (cVar 0) 6) (aCons (cAtt (cVar 0) 5) aNil))), (cCall 4 (aCons (cAtt (cVar 0) 7) (aCons (cAtt (cVar 0) 6) aNil)))])
 (bCons (sRet (cB false))
  bNil)
 bNil)
  (bCons (sIf (cCall 4 (aCons (cCall 3 (aCons (cAtt (cVar 0) 5) (aCons (cTup (aCons (cAtt (cVar 1) 2) (aCons (cI 1) aNil))) aNil))) (aCons (cAtt (cVar 0) 6) aNil)))
 (bCons (sRet (cB false))
  bNil)
 bNil)
  (bCons (sIf (cNot (cCall 4 (aCons (cAtt (cVar 0) 7) (aCons (cCall 3 (aCons (cAtt (cVar 0) 6) (aCons (cMth 12 (cVar 1) aNil) aNil))) aNil))))
 (bCons (sRet (cB false))
  bNil)
 bNil)
  (bCons (sRet (cCmp .Gt (cBin .Sub (cCall 8 (aCons (cAtt (cVar 0) 4) (aCons (cAtt (cVar 0) 7) aNil))) (cCall 8 (aCons (cAtt (cVar 0) 4) (aCons (cAtt (cVar 0) 5) aNil)))) (cVar 2)))
  bNil)))))))⟩
end
def code : VM.Code := fun S k => match k with
  | 0 => some (f0 S)
  | 1 => some (f1 S)
  | 2 => some (f2 S)
  | 3 => some (f3 S)
  | 4 => some (f4 S)
  | 5 => some (f5 S)
  | 6 => some (f6 S)
  | 7 => some (f7 S)
  | 8 => some (f8 S)
  | 9 => some (f9 S)
  | 10 => some (f10 S)
  | 11 => some (f11 S)
  | 12 => some (f12 S)
  | 13 => some (f13 S)
  | 14 => some (f14 S)
  | 15 => some (f15 S)
  | 16 => some (f16 S)
  | 17 => some (f17 S)
  | 18 => some (f18 S)
  | 19 => some (f19 S)
  | 20 => some (f20 S)
  | 21 => some (f21 S)
  | 22 => some (f22 S)
  | 23 => some (f23 S)
  | 24 => some (f24 S)
  | 25 => some (f25 S)
  | _ => none
def cdF : Nat → Cd
  | 0 => { flds := [2, 9, 11, 10], mth := fun m => List.lookup m ([(0, 17), (12, 18), (1, 19)] : List (Nat × Nat)), con := fun _ => none, init := some 16, bool := none, eq := none }
  | 1 => { flds := [8], mth := fun m => List.lookup m ([(3, 22)] : List (Nat × Nat)), con := fun _ => none, init := some 20, bool := some 21, eq := none }
  | 2 => { flds := [6, 5, 4, 7], mth := fun m => List.lookup m ([(3, 25)] : List (Nat × Nat)), con := fun _ => none, init := some 23, bool := some 24, eq := none }
  | _ => { flds := [], mth := fun _ => none, con := fun _ => none, init := none, bool := none, eq := none }
abbrev mkS (P : Program) (w : World) (K : PySem.W.Frag) (mg : Str → Option Value) (base : Heap) (ca fa : Nat → Addr) : Sx where
  P := P
  w := w
  K := K
  mg := mg
  base := base
  ca := ca
  fa := fa
  nm := nmF
  nn := 15
  nc := 3
  nf := 26
  cd := cdF
  sub := fun a b => a == b
  isl := [(0, 0), (0, 1), (0, 2), (1, 0), (1, 1), (1, 2), (2, 0), (2, 1), (2, 2)]
  ibl := []
  call := fun _ _ _ => .no
  bl := ["abs", "all", "bool", "int", "isinstance", "len", "list", "max", "min", "range", "tuple"]
  gl := [("MOST_LAG", .int 20), ("FAR", .int 1000000)]
  cg := [("Terms", 0), ("Enough", 1), ("TooShort", 2)]
  fg := [("is_whole", 0), ("checked_lag", 1), ("lowest", 2), ("plus", 3), ("is_less", 4), ("is_fraction", 5), ("margin", 6), ("is_spaced", 7), ("newest", 8), ("judge_terms", 9), ("least_wait", 10), ("least_lag", 11), ("_law_number", 12), ("_law_take", 13), ("_law_lowest", 14), ("law", 15)]
  bg := [("gcd", "math.gcd")]
  tg := []
abbrev st0 : Stmt := (top 8)
abbrev st1 : Stmt := (top 9)
abbrev st2 : Stmt := (top 12)
abbrev st3 : Stmt := (top 13)
abbrev st4 : Stmt := (top 14)
abbrev st5 : Stmt := (top 15)
abbrev st6 : Stmt := (top 17)
abbrev st7 : Stmt := (top 20)
abbrev st8 : Stmt := (top 21)
abbrev st9 : Stmt := (top 22)
abbrev st10 : Stmt := (top 23)
abbrev st11 : Stmt := (top 24)
abbrev st12 : Stmt := (top 26)
abbrev st13 : Stmt := (top 27)
abbrev st14 : Stmt := (top 28)
abbrev st15 : Stmt := (top 29)
abbrev st16 : Stmt := (inClass (top 16) 0)
abbrev st17 : Stmt := (inClass (top 16) 2)
abbrev st18 : Stmt := (inClass (top 16) 3)
abbrev st19 : Stmt := (inClass (top 16) 4)
abbrev st20 : Stmt := (inClass (top 18) 0)
abbrev st21 : Stmt := (inClass (top 18) 2)
abbrev st22 : Stmt := (inClass (top 18) 3)
abbrev st23 : Stmt := (inClass (top 19) 0)
abbrev st24 : Stmt := (inClass (top 19) 2)
abbrev st25 : Stmt := (inClass (top 19) 3)
section
variable (P : Program) (w : World) (K : PySem.W.Frag) (mg : Str → Option Value) (base : Heap) (ca fa : Nat → Addr) (d : Nat)
theorem ck0 : (f0 ((mkS P w K mg base ca fa).dp code d)).body.chk ["value", "low", "high"] (defScope st0) (defBody st0) = true := by kernel_rfl
theorem fs0 : FnScope ["value", "low", "high"] ["value", "low", "high"] (defScope st0) := C8.fnScope_by (by decide +kernel)
theorem ck1 : (f1 ((mkS P w K mg base ca fa).dp code d)).body.chk ["lag"] (defScope st1) (defBody st1) = true := by kernel_rfl
theorem fs1 : FnScope ["lag"] ["lag"] (defScope st1) := C8.fnScope_by (by decide +kernel)
theorem ck2 : (f2 ((mkS P w K mg base ca fa).dp code d)).body.chk ["above", "below", "common"] (defScope st2) (defBody st2) = true := by kernel_rfl
theorem fs2 : FnScope ["above", "below", "common"] ["above", "below"] (defScope st2) := C8.fnScope_by (by decide +kernel)
theorem ck3 : (f3 ((mkS P w K mg base ca fa).dp code d)).body.chk ["one", "other"] (defScope st3) (defBody st3) = true := by kernel_rfl
theorem fs3 : FnScope ["one", "other"] ["one", "other"] (defScope st3) := C8.fnScope_by (by decide +kernel)
theorem ck4 : (f4 ((mkS P w K mg base ca fa).dp code d)).body.chk ["one", "other"] (defScope st4) (defBody st4) = true := by kernel_rfl
theorem fs4 : FnScope ["one", "other"] ["one", "other"] (defScope st4) := C8.fnScope_by (by decide +kernel)
theorem ck5 : (f5 ((mkS P w K mg base ca fa).dp code d)).body.chk ["value", "one"] (defScope st5) (defBody st5) = true := by kernel_rfl
theorem fs5 : FnScope ["value", "one"] ["value"] (defScope st5) := C8.fnScope_by (by decide +kernel)
theorem ck6 : (f6 ((mkS P w K mg base ca fa).dp code d)).body.chk ["terms", "lag", "wait", "reach"] (defScope st6) (defBody st6) = true := by kernel_rfl
theorem fs6 : FnScope ["terms", "lag", "wait", "reach"] ["terms", "lag"] (defScope st6) := C8.fnScope_by (by decide +kernel)
theorem ck7 : (f7 ((mkS P w K mg base ca fa).dp code d)).body.chk ["tells", "wait", "at"] (defScope st7) (defBody st7) = true := by kernel_rfl
theorem fs7 : FnScope ["tells", "wait", "at"] ["tells", "wait"] (defScope st7) := C8.fnScope_by (by decide +kernel)
theorem ck8 : (f8 ((mkS P w K mg base ca fa).dp code d)).body.chk ["tells", "time", "one"] (defScope st8) (defBody st8) = true := by kernel_rfl
theorem fs8 : FnScope ["tells", "time", "one"] ["tells", "time"] (defScope st8) := C8.fnScope_by (by decide +kernel)
theorem ck9 : (f9 ((mkS P w K mg base ca fa).dp code d)).body.chk ["terms", "lag", "tells", "turn", "gap", "early", "made", "came", "found", "wait"] (defScope st9) (defBody st9) = true := by kernel_rfl
theorem fs9 : FnScope ["terms", "lag", "tells", "turn", "gap", "early", "made", "came", "found", "wait"] ["terms", "lag"] (defScope st9) := C8.fnScope_by (by decide +kernel)
theorem ck10 : (f10 ((mkS P w K mg base ca fa).dp code d)).body.chk ["length", "delay", "drift", "lag", "terms", "reach", "above", "below"] (defScope st10) (defBody st10) = true := by kernel_rfl
theorem fs10 : FnScope ["length", "delay", "drift", "lag", "terms", "reach", "above", "below"] ["length", "delay", "drift", "lag"] (defScope st10) := C8.fnScope_by (by decide +kernel)
theorem ck11 : (f11 ((mkS P w K mg base ca fa).dp code d)).body.chk ["terms", "found", "wait", "reach"] (defScope st11) (defBody st11) = true := by kernel_rfl
theorem fs11 : FnScope ["terms", "found", "wait", "reach"] ["terms"] (defScope st11) := C8.fnScope_by (by decide +kernel)
theorem ck12 : (f12 ((mkS P w K mg base ca fa).dp code d)).body.chk ["script", "index", "rest", "step", "blend", "cell", "turn"] (defScope st12) (defBody st12) = true := by kernel_rfl
theorem fs12 : FnScope ["script", "index", "rest", "step", "blend", "cell", "turn"] ["script", "index"] (defScope st12) := C8.fnScope_by (by decide +kernel)
theorem ck13 : (f13 ((mkS P w K mg base ca fa).dp code d)).body.chk ["draw", "many"] (defScope st13) (defBody st13) = true := by kernel_rfl
theorem fs13 : FnScope ["draw", "many"] ["draw", "many"] (defScope st13) := C8.fnScope_by (by decide +kernel)
theorem ck14 : (f14 ((mkS P w K mg base ca fa).dp code d)).body.chk ["above", "below", "turn", "one", "other"] (defScope st14) (defBody st14) = true := by kernel_rfl
theorem fs14 : FnScope ["above", "below", "turn", "one", "other"] ["above", "below"] (defScope st14) := C8.fnScope_by (by decide +kernel)
theorem ck15 : (f15 ((mkS P w K mg base ca fa).dp code d)).body.chk ["script", "draw", "f", "drift", "found", "better", "many", "scaled", "waits", "low", "least", "e", "lag", "length", "delay", "wait", "terms", "rows", "one", "time"] (defScope st15) (defBody st15) = true := by kernel_rfl
theorem fs15 : FnScope ["script", "draw", "f", "drift", "found", "better", "many", "scaled", "waits", "low", "least", "e", "lag", "length", "delay", "wait", "terms", "rows", "one", "time"] ["script"] (defScope st15) := C8.fnScope_by (by decide +kernel)
theorem ck16 : (f16 ((mkS P w K mg base ca fa).dp code d)).body.chk ["self", "length", "delay", "wait", "drift", "rights", "part", "is_right"] (defScope st16) (defBody st16) = true := by kernel_rfl
theorem fs16 : FnScope ["self", "length", "delay", "wait", "drift", "rights", "part", "is_right"] ["self", "length", "delay", "wait", "drift"] (defScope st16) := C8.fnScope_by (by decide +kernel)
theorem ck17 : (f17 ((mkS P w K mg base ca fa).dp code d)).body.chk ["self", "above", "below"] (defScope st17) (defBody st17) = true := by kernel_rfl
theorem fs17 : FnScope ["self", "above", "below"] ["self"] (defScope st17) := C8.fnScope_by (by decide +kernel)
theorem ck18 : (f18 ((mkS P w K mg base ca fa).dp code d)).body.chk ["self", "above", "below"] (defScope st18) (defBody st18) = true := by kernel_rfl
theorem fs18 : FnScope ["self", "above", "below"] ["self"] (defScope st18) := C8.fnScope_by (by decide +kernel)
theorem ck19 : (f19 ((mkS P w K mg base ca fa).dp code d)).body.chk ["self"] (defScope st19) (defBody st19) = true := by kernel_rfl
theorem fs19 : FnScope ["self"] ["self"] (defScope st19) := C8.fnScope_by (by decide +kernel)
theorem ck20 : (f20 ((mkS P w K mg base ca fa).dp code d)).body.chk ["self", "margin_of_waits"] (defScope st20) (defBody st20) = true := by kernel_rfl
theorem fs20 : FnScope ["self", "margin_of_waits"] ["self", "margin_of_waits"] (defScope st20) := C8.fnScope_by (by decide +kernel)
theorem ck21 : (f21 ((mkS P w K mg base ca fa).dp code d)).body.chk ["self"] (defScope st21) (defBody st21) = true := by kernel_rfl
theorem fs21 : FnScope ["self"] ["self"] (defScope st21) := C8.fnScope_by (by decide +kernel)
theorem ck22 : (f22 ((mkS P w K mg base ca fa).dp code d)).body.chk ["self", "terms", "lag", "found"] (defScope st22) (defBody st22) = true := by kernel_rfl
theorem fs22 : FnScope ["self", "terms", "lag", "found"] ["self", "terms", "lag"] (defScope st22) := C8.fnScope_by (by decide +kernel)
theorem ck23 : (f23 ((mkS P w K mg base ca fa).dp code d)).body.chk ["self", "tells", "made", "came", "used"] (defScope st23) (defBody st23) = true := by kernel_rfl
theorem fs23 : FnScope ["self", "tells", "made", "came", "used"] ["self", "tells", "made", "came", "used"] (defScope st23) := C8.fnScope_by (by decide +kernel)
theorem ck24 : (f24 ((mkS P w K mg base ca fa).dp code d)).body.chk ["self"] (defScope st24) (defBody st24) = true := by kernel_rfl
theorem fs24 : FnScope ["self"] ["self"] (defScope st24) := C8.fnScope_by (by decide +kernel)
theorem ck25 : (f25 ((mkS P w K mg base ca fa).dp code d)).body.chk ["self", "terms", "lag", "time"] (defScope st25) (defBody st25) = true := by kernel_rfl
theorem fs25 : FnScope ["self", "terms", "lag", "time"] ["self", "terms", "lag"] (defScope st25) := C8.fnScope_by (by decide +kernel)
end
end LawX
namespace LawX
open PySem PySem.Spec PyProof.Rows L2 VM
theorem nm_inj : ∀ i j, i < 15 → j < 15 → nmF i = nmF j → i = j := by
  have h : (List.range 15).all (fun i => (List.range 15).all fun j => !decide (nmF i = nmF j) || decide (i = j)) = true := by decide +kernel
  intro i j hi hj e
  have h1 := List.all_eq_true.mp (List.all_eq_true.mp h i (List.mem_range.mpr hi)) j (List.mem_range.mpr hj)
  rw [decide_eq_true e] at h1
  simpa using h1
theorem all_mk {l : PySem.W.OpenLaw} {w : World} {K : PySem.W.Frag} {h : Heap} {mg : Str → Option Value} {fa : Addr} (X : K.In h) (G : h.Ns mainGlobals mg) (hfa : mg "law" = some (.ref fa))
    {f0 f1 f2 f3 f4 f5 f6 f7 f8 f9 f10 f11 f12 f13 f14 f15 f16 f17 f18 f19 f20 f21 f22 f23 f24 f25 C0 C1 C2 : Addr} {t0 : Tok} {t1 : Tok}
    {od0 an0 od1 an1 od2 an2 od3 an3 od4 an4 od5 an5 od6 an6 od7 an7 od8 an8 od9 an9 od10 an10 od11 an11 od12 an12 od13 an13 od14 an14 od15 an15 od16 an16 od17 an17 od18 an18 od19 an19 od20 an20 od21 an21 od22 an22 od23 an23 od24 an24 od25 an25 : Option Addr} {sl0 sl1 sl2 sl3 sl4 sl5 sl6 sl7 sl8 sl9 sl10 sl11 sl12 sl13 sl14 sl15 sl16 sl17 sl18 sl19 sl20 sl21 sl22 sl23 sl24 sl25 : Array (Option Value)} {oc0 kV0 dc0 pm0 cd0 ct0 oc1 kV1 dc1 pm1 cd1 ct1 oc2 kV2 dc2 pm2 cd2 ct2 oc3 kV3 dc3 pm3 cd3 ct3 oc4 kV4 dc4 pm4 cd4 ct4 oc5 kV5 dc5 pm5 cd5 ct5 oc6 kV6 dc6 pm6 cd6 ct6 oc7 kV7 dc7 pm7 cd7 ct7 oc8 kV8 dc8 pm8 cd8 ct8 oc9 kV9 dc9 pm9 cd9 ct9 oc10 kV10 dc10 pm10 cd10 ct10 oc11 kV11 dc11 pm11 cd11 ct11 oc12 kV12 dc12 pm12 cd12 ct12 oc13 kV13 dc13 pm13 cd13 ct13 oc14 kV14 dc14 pm14 cd14 ct14 oc15 kV15 dc15 pm15 cd15 ct15 oc16 kV16 dc16 pm16 cd16 ct16 oc17 kV17 dc17 pm17 cd17 ct17 oc18 kV18 dc18 pm18 cd18 ct18 oc19 kV19 dc19 pm19 cd19 ct19 oc20 kV20 dc20 pm20 cd20 ct20 oc21 kV21 dc21 pm21 cd21 ct21 oc22 kV22 dc22 pm22 cd22 ct22 oc23 kV23 dc23 pm23 cd23 ct23 oc24 kV24 dc24 pm24 cd24 ct24 oc25 kV25 dc25 pm25 cd25 ct25 : Value}
    (aC0 : PySem.W.nsIn K mainGlobals "Terms" = some (some (.ref C0)))
    (aC1 : PySem.W.nsIn K mainGlobals "Enough" = some (some (.ref C1)))
    (aC2 : PySem.W.nsIn K mainGlobals "TooShort" = some (some (.ref C2)))
    (a0 : PySem.W.nsIn K mainGlobals "is_whole" = some (some (.ref f0)))
    (l0 : K.lookup f0 = some ⟨oc0, od0, .func (PySem.W.fnOf "is_whole" "is_whole" (defArgs st0) (defBody st0) (defScope st0) .none kV0 dc0 pm0 an0 cd0 ct0), sl0⟩)
    (c0 : PySem.W.codeIn K cd0 "is_whole" = true)
    (k0 : PySem.W.keepIn K (.ref f0) = true)
    (a1 : PySem.W.nsIn K mainGlobals "checked_lag" = some (some (.ref f1)))
    (l1 : K.lookup f1 = some ⟨oc1, od1, .func (PySem.W.fnOf "checked_lag" "checked_lag" (defArgs st1) (defBody st1) (defScope st1) .none kV1 dc1 pm1 an1 cd1 ct1), sl1⟩)
    (c1 : PySem.W.codeIn K cd1 "checked_lag" = true)
    (k1 : PySem.W.keepIn K (.ref f1) = true)
    (a2 : PySem.W.nsIn K mainGlobals "lowest" = some (some (.ref f2)))
    (l2 : K.lookup f2 = some ⟨oc2, od2, .func (PySem.W.fnOf "lowest" "lowest" (defArgs st2) (defBody st2) (defScope st2) .none kV2 dc2 pm2 an2 cd2 ct2), sl2⟩)
    (c2 : PySem.W.codeIn K cd2 "lowest" = true)
    (k2 : PySem.W.keepIn K (.ref f2) = true)
    (a3 : PySem.W.nsIn K mainGlobals "plus" = some (some (.ref f3)))
    (l3 : K.lookup f3 = some ⟨oc3, od3, .func (PySem.W.fnOf "plus" "plus" (defArgs st3) (defBody st3) (defScope st3) .none kV3 dc3 pm3 an3 cd3 ct3), sl3⟩)
    (c3 : PySem.W.codeIn K cd3 "plus" = true)
    (k3 : PySem.W.keepIn K (.ref f3) = true)
    (a4 : PySem.W.nsIn K mainGlobals "is_less" = some (some (.ref f4)))
    (l4 : K.lookup f4 = some ⟨oc4, od4, .func (PySem.W.fnOf "is_less" "is_less" (defArgs st4) (defBody st4) (defScope st4) .none kV4 dc4 pm4 an4 cd4 ct4), sl4⟩)
    (c4 : PySem.W.codeIn K cd4 "is_less" = true)
    (k4 : PySem.W.keepIn K (.ref f4) = true)
    (a5 : PySem.W.nsIn K mainGlobals "is_fraction" = some (some (.ref f5)))
    (l5 : K.lookup f5 = some ⟨oc5, od5, .func (PySem.W.fnOf "is_fraction" "is_fraction" (defArgs st5) (defBody st5) (defScope st5) .none kV5 dc5 pm5 an5 cd5 ct5), sl5⟩)
    (c5 : PySem.W.codeIn K cd5 "is_fraction" = true)
    (k5 : PySem.W.keepIn K (.ref f5) = true)
    (a6 : PySem.W.nsIn K mainGlobals "margin" = some (some (.ref f6)))
    (l6 : K.lookup f6 = some ⟨oc6, od6, .func (PySem.W.fnOf "margin" "margin" (defArgs st6) (defBody st6) (defScope st6) .none kV6 dc6 pm6 an6 cd6 ct6), sl6⟩)
    (c6 : PySem.W.codeIn K cd6 "margin" = true)
    (k6 : PySem.W.keepIn K (.ref f6) = true)
    (a7 : PySem.W.nsIn K mainGlobals "is_spaced" = some (some (.ref f7)))
    (l7 : K.lookup f7 = some ⟨oc7, od7, .func (PySem.W.fnOf "is_spaced" "is_spaced" (defArgs st7) (defBody st7) (defScope st7) .none kV7 dc7 pm7 an7 cd7 ct7), sl7⟩)
    (c7 : PySem.W.codeIn K cd7 "is_spaced" = true)
    (k7 : PySem.W.keepIn K (.ref f7) = true)
    (a8 : PySem.W.nsIn K mainGlobals "newest" = some (some (.ref f8)))
    (l8 : K.lookup f8 = some ⟨oc8, od8, .func (PySem.W.fnOf "newest" "newest" (defArgs st8) (defBody st8) (defScope st8) .none kV8 dc8 pm8 an8 cd8 ct8), sl8⟩)
    (c8 : PySem.W.codeIn K cd8 "newest" = true)
    (k8 : PySem.W.keepIn K (.ref f8) = true)
    (a9 : PySem.W.nsIn K mainGlobals "judge_terms" = some (some (.ref f9)))
    (l9 : K.lookup f9 = some ⟨oc9, od9, .func (PySem.W.fnOf "judge_terms" "judge_terms" (defArgs st9) (defBody st9) (defScope st9) .none kV9 dc9 pm9 an9 cd9 ct9), sl9⟩)
    (c9 : PySem.W.codeIn K cd9 "judge_terms" = true)
    (k9 : PySem.W.keepIn K (.ref f9) = true)
    (a10 : PySem.W.nsIn K mainGlobals "least_wait" = some (some (.ref f10)))
    (l10 : K.lookup f10 = some ⟨oc10, od10, .func (PySem.W.fnOf "least_wait" "least_wait" (defArgs st10) (defBody st10) (defScope st10) .none kV10 dc10 pm10 an10 cd10 ct10), sl10⟩)
    (c10 : PySem.W.codeIn K cd10 "least_wait" = true)
    (k10 : PySem.W.keepIn K (.ref f10) = true)
    (a11 : PySem.W.nsIn K mainGlobals "least_lag" = some (some (.ref f11)))
    (l11 : K.lookup f11 = some ⟨oc11, od11, .func (PySem.W.fnOf "least_lag" "least_lag" (defArgs st11) (defBody st11) (defScope st11) .none kV11 dc11 pm11 an11 cd11 ct11), sl11⟩)
    (c11 : PySem.W.codeIn K cd11 "least_lag" = true)
    (k11 : PySem.W.keepIn K (.ref f11) = true)
    (a12 : PySem.W.nsIn K mainGlobals "_law_number" = some (some (.ref f12)))
    (l12 : K.lookup f12 = some ⟨oc12, od12, .func (PySem.W.fnOf "_law_number" "_law_number" (defArgs st12) (defBody st12) (defScope st12) .none kV12 dc12 pm12 an12 cd12 ct12), sl12⟩)
    (c12 : PySem.W.codeIn K cd12 "_law_number" = true)
    (k12 : PySem.W.keepIn K (.ref f12) = true)
    (a13 : PySem.W.nsIn K mainGlobals "_law_take" = some (some (.ref f13)))
    (l13 : K.lookup f13 = some ⟨oc13, od13, .func (PySem.W.fnOf "_law_take" "_law_take" (defArgs st13) (defBody st13) (defScope st13) .none kV13 dc13 pm13 an13 cd13 ct13), sl13⟩)
    (c13 : PySem.W.codeIn K cd13 "_law_take" = true)
    (k13 : PySem.W.keepIn K (.ref f13) = true)
    (a14 : PySem.W.nsIn K mainGlobals "_law_lowest" = some (some (.ref f14)))
    (l14 : K.lookup f14 = some ⟨oc14, od14, .func (PySem.W.fnOf "_law_lowest" "_law_lowest" (defArgs st14) (defBody st14) (defScope st14) .none kV14 dc14 pm14 an14 cd14 ct14), sl14⟩)
    (c14 : PySem.W.codeIn K cd14 "_law_lowest" = true)
    (k14 : PySem.W.keepIn K (.ref f14) = true)
    (a15 : PySem.W.nsIn K mainGlobals "law" = some (some (.ref f15)))
    (l15 : K.lookup f15 = some ⟨oc15, od15, .func (PySem.W.fnOf "law" "law" (defArgs st15) (defBody st15) (defScope st15) .none kV15 dc15 pm15 an15 cd15 ct15), sl15⟩)
    (c15 : PySem.W.codeIn K cd15 "law" = true)
    (k15 : PySem.W.keepIn K (.ref f15) = true)
    (a16 : PySem.W.findIn K (.ref C0) "__init__" = some (some (.ref f16)))
    (i16 : PySem.W.isFn K (.ref f16) = true)
    (l16 : K.lookup f16 = some ⟨oc16, od16, .func (PySem.W.fnOf "__init__" "Terms.__init__" (defArgs st16) (defBody st16) (defScope st16) .none kV16 dc16 pm16 an16 cd16 ct16), sl16⟩)
    (c16 : PySem.W.codeIn K cd16 "Terms.__init__" = true)
    (k16 : PySem.W.keepIn K (.ref f16) = true)
    (a17 : PySem.W.findIn K (.ref C0) "shortest_wait" = some (some (.ref f17)))
    (i17 : PySem.W.isFn K (.ref f17) = true)
    (l17 : K.lookup f17 = some ⟨oc17, od17, .func (PySem.W.fnOf "shortest_wait" "Terms.shortest_wait" (defArgs st17) (defBody st17) (defScope st17) .none kV17 dc17 pm17 an17 cd17 ct17), sl17⟩)
    (c17 : PySem.W.codeIn K cd17 "Terms.shortest_wait" = true)
    (k17 : PySem.W.keepIn K (.ref f17) = true)
    (a18 : PySem.W.findIn K (.ref C0) "longest_lease" = some (some (.ref f18)))
    (i18 : PySem.W.isFn K (.ref f18) = true)
    (l18 : K.lookup f18 = some ⟨oc18, od18, .func (PySem.W.fnOf "longest_lease" "Terms.longest_lease" (defArgs st18) (defBody st18) (defScope st18) .none kV18 dc18 pm18 an18 cd18 ct18), sl18⟩)
    (c18 : PySem.W.codeIn K cd18 "Terms.longest_lease" = true)
    (k18 : PySem.W.keepIn K (.ref f18) = true)
    (a19 : PySem.W.findIn K (.ref C0) "reach" = some (some (.ref f19)))
    (i19 : PySem.W.isFn K (.ref f19) = true)
    (l19 : K.lookup f19 = some ⟨oc19, od19, .func (PySem.W.fnOf "reach" "Terms.reach" (defArgs st19) (defBody st19) (defScope st19) .none kV19 dc19 pm19 an19 cd19 ct19), sl19⟩)
    (c19 : PySem.W.codeIn K cd19 "Terms.reach" = true)
    (k19 : PySem.W.keepIn K (.ref f19) = true)
    (a20 : PySem.W.findIn K (.ref C1) "__init__" = some (some (.ref f20)))
    (i20 : PySem.W.isFn K (.ref f20) = true)
    (l20 : K.lookup f20 = some ⟨oc20, od20, .func (PySem.W.fnOf "__init__" "Enough.__init__" (defArgs st20) (defBody st20) (defScope st20) .none kV20 dc20 pm20 an20 cd20 ct20), sl20⟩)
    (c20 : PySem.W.codeIn K cd20 "Enough.__init__" = true)
    (k20 : PySem.W.keepIn K (.ref f20) = true)
    (a21 : PySem.W.findIn K (.ref C1) "__bool__" = some (some (.ref f21)))
    (i21 : PySem.W.isFn K (.ref f21) = true)
    (l21 : K.lookup f21 = some ⟨oc21, od21, .func (PySem.W.fnOf "__bool__" "Enough.__bool__" (defArgs st21) (defBody st21) (defScope st21) .none kV21 dc21 pm21 an21 cd21 ct21), sl21⟩)
    (c21 : PySem.W.codeIn K cd21 "Enough.__bool__" = true)
    (k21 : PySem.W.keepIn K (.ref f21) = true)
    (a22 : PySem.W.findIn K (.ref C1) "shows" = some (some (.ref f22)))
    (i22 : PySem.W.isFn K (.ref f22) = true)
    (l22 : K.lookup f22 = some ⟨oc22, od22, .func (PySem.W.fnOf "shows" "Enough.shows" (defArgs st22) (defBody st22) (defScope st22) .none kV22 dc22 pm22 an22 cd22 ct22), sl22⟩)
    (c22 : PySem.W.codeIn K cd22 "Enough.shows" = true)
    (k22 : PySem.W.keepIn K (.ref f22) = true)
    (a23 : PySem.W.findIn K (.ref C2) "__init__" = some (some (.ref f23)))
    (i23 : PySem.W.isFn K (.ref f23) = true)
    (l23 : K.lookup f23 = some ⟨oc23, od23, .func (PySem.W.fnOf "__init__" "TooShort.__init__" (defArgs st23) (defBody st23) (defScope st23) .none kV23 dc23 pm23 an23 cd23 ct23), sl23⟩)
    (c23 : PySem.W.codeIn K cd23 "TooShort.__init__" = true)
    (k23 : PySem.W.keepIn K (.ref f23) = true)
    (a24 : PySem.W.findIn K (.ref C2) "__bool__" = some (some (.ref f24)))
    (i24 : PySem.W.isFn K (.ref f24) = true)
    (l24 : K.lookup f24 = some ⟨oc24, od24, .func (PySem.W.fnOf "__bool__" "TooShort.__bool__" (defArgs st24) (defBody st24) (defScope st24) .none kV24 dc24 pm24 an24 cd24 ct24), sl24⟩)
    (c24 : PySem.W.codeIn K cd24 "TooShort.__bool__" = true)
    (k24 : PySem.W.keepIn K (.ref f24) = true)
    (a25 : PySem.W.findIn K (.ref C2) "shows" = some (some (.ref f25)))
    (i25 : PySem.W.isFn K (.ref f25) = true)
    (l25 : K.lookup f25 = some ⟨oc25, od25, .func (PySem.W.fnOf "shows" "TooShort.shows" (defArgs st25) (defBody st25) (defScope st25) .none kV25 dc25 pm25 an25 cd25 ct25), sl25⟩)
    (c25 : PySem.W.codeIn K cd25 "TooShort.shows" = true)
    (k25 : PySem.W.keepIn K (.ref f25) = true)
    (pg0 : PySem.W.plainGet K C0 Str.empty = true)
    (hd0 : PySem.W.hasDictIn K C0 = true)
    (po0 : PySem.W.plainOver K C0 = true)
    (sa0 : PySem.W.findIn K (.ref C0) "__setattr__" = some (some (.builtin "object.__setattr__")))
    (mk0 : PySem.W.makesIn K C0 = true)
    (kc0 : PySem.W.keepIn K (.ref C0) = true)
    (ic0 : PySem.W.findIn K (.ref C0) "__class__" = some (some (.builtin "object.__class__")))
    (im0 : PySem.W.mroIn K C0 (.type "object") = some true)
    (ty0 : PySem.W.typeIn K (.ref C0) = some (.type "type"))
    (n0_2 : PySem.W.findIn K (.ref C0) "delay" = some none)
    (n0_9 : PySem.W.findIn K (.ref C0) "drift" = some none)
    (n0_11 : PySem.W.findIn K (.ref C0) "length" = some none)
    (n0_10 : PySem.W.findIn K (.ref C0) "wait" = some none)
    (pg1 : PySem.W.plainGet K C1 Str.empty = true)
    (hd1 : PySem.W.hasDictIn K C1 = true)
    (po1 : PySem.W.plainOver K C1 = true)
    (sa1 : PySem.W.findIn K (.ref C1) "__setattr__" = some (some (.builtin "object.__setattr__")))
    (mk1 : PySem.W.makesIn K C1 = true)
    (kc1 : PySem.W.keepIn K (.ref C1) = true)
    (ic1 : PySem.W.findIn K (.ref C1) "__class__" = some (some (.builtin "object.__class__")))
    (im1 : PySem.W.mroIn K C1 (.type "object") = some true)
    (ty1 : PySem.W.typeIn K (.ref C1) = some (.type "type"))
    (n1_8 : PySem.W.findIn K (.ref C1) "margin" = some none)
    (pg2 : PySem.W.plainGet K C2 Str.empty = true)
    (hd2 : PySem.W.hasDictIn K C2 = true)
    (po2 : PySem.W.plainOver K C2 = true)
    (sa2 : PySem.W.findIn K (.ref C2) "__setattr__" = some (some (.builtin "object.__setattr__")))
    (mk2 : PySem.W.makesIn K C2 = true)
    (kc2 : PySem.W.keepIn K (.ref C2) = true)
    (ic2 : PySem.W.findIn K (.ref C2) "__class__" = some (some (.builtin "object.__class__")))
    (im2 : PySem.W.mroIn K C2 (.type "object") = some true)
    (ty2 : PySem.W.typeIn K (.ref C2) = some (.type "type"))
    (n2_6 : PySem.W.findIn K (.ref C2) "came" = some none)
    (n2_5 : PySem.W.findIn K (.ref C2) "made" = some none)
    (n2_4 : PySem.W.findIn K (.ref C2) "tells" = some none)
    (n2_7 : PySem.W.findIn K (.ref C2) "used" = some none)
    (mr0_1 : PySem.W.mroIn K C0 (.ref C1) = some false)
    (ne0_1 : (C0 == C1) = false)
    (mr0_2 : PySem.W.mroIn K C0 (.ref C2) = some false)
    (ne0_2 : (C0 == C2) = false)
    (mr1_0 : PySem.W.mroIn K C1 (.ref C0) = some false)
    (ne1_0 : (C1 == C0) = false)
    (mr1_2 : PySem.W.mroIn K C1 (.ref C2) = some false)
    (ne1_2 : (C1 == C2) = false)
    (mr2_0 : PySem.W.mroIn K C2 (.ref C0) = some false)
    (ne2_0 : (C2 == C0) = false)
    (mr2_1 : PySem.W.mroIn K C2 (.ref C1) = some false)
    (ne2_1 : (C2 == C1) = false)
    (z0 : PySem.W.nsIn K mainGlobals "abs" = some none)
    (z1 : PySem.W.nsIn K mainGlobals "all" = some none)
    (z2 : PySem.W.nsIn K mainGlobals "bool" = some none)
    (z3 : PySem.W.nsIn K mainGlobals "int" = some none)
    (z4 : PySem.W.nsIn K mainGlobals "isinstance" = some none)
    (z5 : PySem.W.nsIn K mainGlobals "len" = some none)
    (z6 : PySem.W.nsIn K mainGlobals "list" = some none)
    (z7 : PySem.W.nsIn K mainGlobals "max" = some none)
    (z8 : PySem.W.nsIn K mainGlobals "min" = some none)
    (z9 : PySem.W.nsIn K mainGlobals "range" = some none)
    (z10 : PySem.W.nsIn K mainGlobals "tuple" = some none)
    (b0 : PySem.W.nsIn K mainGlobals "gcd" = some (some (.builtin "math.gcd")))
    (gk0 : PySem.W.nsIn K mainGlobals "MOST_LAG" = some (some (.int 20 t0)))
    (gk1 : PySem.W.nsIn K mainGlobals "FAR" = some (some (.int 1000000 t1)))
    (cg1 : PySem.W.specialIn K (.builtin "object.__class__") "__get__" = some (some (.builtin "getset_descriptor.__get__")))
    (cg2 : PySem.W.takesIn K (.builtin "object.__class__") = some true)
    (hv : ∀ (P : Program) (w : World) (K : PySem.W.Frag) (mg : Str → Option Value) (base : Heap) (ca fa : Nat → Addr) (ns : List Int), ns.length ≤ 63 → ∃ G, callF (mkS P w K mg base ca fa) code 31 15 [.ref 0] [.lst true (ns.map Va.int)] = .ok (.bl true) G) :
    ∃ fd : FuncData, (∀ (s : Shared) (v : Value), BindsTo s fd ⟨[v], []⟩ [("script", v)]) ∧ ∀ base : Heap, K.In base → base.Ns mainGlobals mg → FnOk l.prog w K mg base (L2.CX l.prog w) 93 fa fd ["script"] (spL K) := by
  have e := hfa.symm.trans (PySem.W.mg_of X G a15)
  have e2 : f15 = fa := (Value.ref.inj (Option.some.inj e)).symm
  subst e2
  have g0 : ∀ base : Heap, Good0 (mkS l.prog w K mg base (fun i => ([C0, C1, C2] : List Addr).getD i 0) (fun i => ([f0, f1, f2, f3, f4, f5, f6, f7, f8, f9, f10, f11, f12, f13, f14, f15, f16, f17, f18, f19, f20, f21, f22, f23, f24, f25] : List Addr).getD i 0)) := fun base => by
    refine ⟨?_, ?_, cg1, cg2, ?_, ?_, ?_, ?_, ?_, fun _ h => by cases h⟩
    · intro c hc
      have isA : ∀ p ∈ ([(0, 0), (0, 1), (0, 2), (1, 0), (1, 1), (1, 2), (2, 0), (2, 1), (2, 2)] : List (Nat × Nat)), PySem.W.kitOne K (.ref (([C0, C1, C2] : List Addr).getD p.1 0)) (.ref (([C0, C1, C2] : List Addr).getD p.2 0)) = some (p.1 == p.2) := 
        List.forall_mem_cons.mpr ⟨kit_self, List.forall_mem_cons.mpr ⟨kit_cls im1 ty1 mr0_1 ne0_1, List.forall_mem_cons.mpr ⟨kit_cls im2 ty2 mr0_2 ne0_2, List.forall_mem_cons.mpr ⟨kit_cls im0 ty0 mr1_0 ne1_0, List.forall_mem_cons.mpr ⟨kit_self, List.forall_mem_cons.mpr ⟨kit_cls im2 ty2 mr1_2 ne1_2, List.forall_mem_cons.mpr ⟨kit_cls im0 ty0 mr2_0 ne2_0, List.forall_mem_cons.mpr ⟨kit_cls im1 ty1 mr2_1 ne2_1, List.forall_mem_cons.mpr ⟨kit_self, fun _ h => by cases h⟩⟩⟩⟩⟩⟩⟩⟩⟩
      match c, hc with
      | 0, _ => exact ⟨⟨pg0, hd0, po0, sa0⟩, (show ∀ f ∈ ([2, 9, 11, 10] : List Nat), PySem.W.findIn K (.ref C0) (nmF f) = some none from List.forall_mem_cons.mpr ⟨n0_2, List.forall_mem_cons.mpr ⟨n0_9, List.forall_mem_cons.mpr ⟨n0_11, List.forall_mem_cons.mpr ⟨n0_10, fun _ h => by cases h⟩⟩⟩⟩),
          look_all (Q := fun m k => k < 26 ∧ Meth K C0 (nmF m) (([f0, f1, f2, f3, f4, f5, f6, f7, f8, f9, f10, f11, f12, f13, f14, f15, f16, f17, f18, f19, f20, f21, f22, f23, f24, f25] : List Addr).getD k 0)) (List.forall_mem_cons.mpr ⟨⟨Nat.le_of_ble_eq_true rfl, a17, i17, k17⟩, List.forall_mem_cons.mpr ⟨⟨Nat.le_of_ble_eq_true rfl, a18, i18, k18⟩, List.forall_mem_cons.mpr ⟨⟨Nat.le_of_ble_eq_true rfl, a19, i19, k19⟩, fun _ h => by cases h⟩⟩⟩), fun f v h => (by cases h), fun k h => (by cases h; exact ⟨Nat.le_of_ble_eq_true rfl, mk0, a16, i16, kc0⟩), ic0, im0, kit_tag im0 ty0, fun m h => (by cases h), fun c' h => isA (c', 0) h, fun k h => (by cases h)⟩
      | 1, _ => exact ⟨⟨pg1, hd1, po1, sa1⟩, (show ∀ f ∈ ([8] : List Nat), PySem.W.findIn K (.ref C1) (nmF f) = some none from List.forall_mem_cons.mpr ⟨n1_8, fun _ h => by cases h⟩),
          look_all (Q := fun m k => k < 26 ∧ Meth K C1 (nmF m) (([f0, f1, f2, f3, f4, f5, f6, f7, f8, f9, f10, f11, f12, f13, f14, f15, f16, f17, f18, f19, f20, f21, f22, f23, f24, f25] : List Addr).getD k 0)) (List.forall_mem_cons.mpr ⟨⟨Nat.le_of_ble_eq_true rfl, a22, i22, k22⟩, fun _ h => by cases h⟩), fun f v h => (by cases h), fun k h => (by cases h; exact ⟨Nat.le_of_ble_eq_true rfl, mk1, a20, i20, kc1⟩), ic1, im1, kit_tag im1 ty1, fun m h => (by cases h), fun c' h => isA (c', 1) h, fun k h => (by cases h; exact ⟨Nat.le_of_ble_eq_true rfl, a21, i21⟩)⟩
      | 2, _ => exact ⟨⟨pg2, hd2, po2, sa2⟩, (show ∀ f ∈ ([6, 5, 4, 7] : List Nat), PySem.W.findIn K (.ref C2) (nmF f) = some none from List.forall_mem_cons.mpr ⟨n2_6, List.forall_mem_cons.mpr ⟨n2_5, List.forall_mem_cons.mpr ⟨n2_4, List.forall_mem_cons.mpr ⟨n2_7, fun _ h => by cases h⟩⟩⟩⟩),
          look_all (Q := fun m k => k < 26 ∧ Meth K C2 (nmF m) (([f0, f1, f2, f3, f4, f5, f6, f7, f8, f9, f10, f11, f12, f13, f14, f15, f16, f17, f18, f19, f20, f21, f22, f23, f24, f25] : List Addr).getD k 0)) (List.forall_mem_cons.mpr ⟨⟨Nat.le_of_ble_eq_true rfl, a25, i25, k25⟩, fun _ h => by cases h⟩), fun f v h => (by cases h), fun k h => (by cases h; exact ⟨Nat.le_of_ble_eq_true rfl, mk2, a23, i23, kc2⟩), ic2, im2, kit_tag im2 ty2, fun m h => (by cases h), fun c' h => isA (c', 2) h, fun k h => (by cases h; exact ⟨Nat.le_of_ble_eq_true rfl, a24, i24⟩)⟩
      | n + 3, h => exact absurd h (Nat.not_lt.mpr (Nat.le_add_left _ _))
    · exact nm_inj
    · exact List.forall_mem_cons.mpr ⟨PySem.W.mg_none_of X G z0, List.forall_mem_cons.mpr ⟨PySem.W.mg_none_of X G z1, List.forall_mem_cons.mpr ⟨PySem.W.mg_none_of X G z2, List.forall_mem_cons.mpr ⟨PySem.W.mg_none_of X G z3, List.forall_mem_cons.mpr ⟨PySem.W.mg_none_of X G z4, List.forall_mem_cons.mpr ⟨PySem.W.mg_none_of X G z5, List.forall_mem_cons.mpr ⟨PySem.W.mg_none_of X G z6, List.forall_mem_cons.mpr ⟨PySem.W.mg_none_of X G z7, List.forall_mem_cons.mpr ⟨PySem.W.mg_none_of X G z8, List.forall_mem_cons.mpr ⟨PySem.W.mg_none_of X G z9, List.forall_mem_cons.mpr ⟨PySem.W.mg_none_of X G z10, fun _ h => by cases h⟩⟩⟩⟩⟩⟩⟩⟩⟩⟩⟩
    · exact List.forall_mem_cons.mpr ⟨⟨V.int 20, _, PySem.W.mg_of X G gk0, ⟨_, rfl⟩, fun ρ n H => vr_int'⟩, List.forall_mem_cons.mpr ⟨⟨V.int 1000000, _, PySem.W.mg_of X G gk1, ⟨_, rfl⟩, fun ρ n H => vr_int'⟩, fun _ h => by cases h⟩⟩
    · exact List.forall_mem_cons.mpr ⟨⟨Nat.le_of_ble_eq_true rfl, PySem.W.mg_of X G aC0, kc0⟩, List.forall_mem_cons.mpr ⟨⟨Nat.le_of_ble_eq_true rfl, PySem.W.mg_of X G aC1, kc1⟩, List.forall_mem_cons.mpr ⟨⟨Nat.le_of_ble_eq_true rfl, PySem.W.mg_of X G aC2, kc2⟩, fun _ h => by cases h⟩⟩⟩
    · exact List.forall_mem_cons.mpr ⟨⟨Nat.le_of_ble_eq_true rfl, PySem.W.mg_of X G a0⟩, List.forall_mem_cons.mpr ⟨⟨Nat.le_of_ble_eq_true rfl, PySem.W.mg_of X G a1⟩, List.forall_mem_cons.mpr ⟨⟨Nat.le_of_ble_eq_true rfl, PySem.W.mg_of X G a2⟩, List.forall_mem_cons.mpr ⟨⟨Nat.le_of_ble_eq_true rfl, PySem.W.mg_of X G a3⟩, List.forall_mem_cons.mpr ⟨⟨Nat.le_of_ble_eq_true rfl, PySem.W.mg_of X G a4⟩, List.forall_mem_cons.mpr ⟨⟨Nat.le_of_ble_eq_true rfl, PySem.W.mg_of X G a5⟩, List.forall_mem_cons.mpr ⟨⟨Nat.le_of_ble_eq_true rfl, PySem.W.mg_of X G a6⟩, List.forall_mem_cons.mpr ⟨⟨Nat.le_of_ble_eq_true rfl, PySem.W.mg_of X G a7⟩, List.forall_mem_cons.mpr ⟨⟨Nat.le_of_ble_eq_true rfl, PySem.W.mg_of X G a8⟩, List.forall_mem_cons.mpr ⟨⟨Nat.le_of_ble_eq_true rfl, PySem.W.mg_of X G a9⟩, List.forall_mem_cons.mpr ⟨⟨Nat.le_of_ble_eq_true rfl, PySem.W.mg_of X G a10⟩, List.forall_mem_cons.mpr ⟨⟨Nat.le_of_ble_eq_true rfl, PySem.W.mg_of X G a11⟩, List.forall_mem_cons.mpr ⟨⟨Nat.le_of_ble_eq_true rfl, PySem.W.mg_of X G a12⟩, List.forall_mem_cons.mpr ⟨⟨Nat.le_of_ble_eq_true rfl, PySem.W.mg_of X G a13⟩, List.forall_mem_cons.mpr ⟨⟨Nat.le_of_ble_eq_true rfl, PySem.W.mg_of X G a14⟩, List.forall_mem_cons.mpr ⟨⟨Nat.le_of_ble_eq_true rfl, PySem.W.mg_of X G a15⟩, fun _ h => by cases h⟩⟩⟩⟩⟩⟩⟩⟩⟩⟩⟩⟩⟩⟩⟩⟩
    · exact List.forall_mem_cons.mpr ⟨PySem.W.mg_of X G b0, fun _ h => by cases h⟩
  have D0 : ∀ base : Heap, DefAt (mkS l.prog w K mg base (fun i => ([C0, C1, C2] : List Addr).getD i 0) (fun i => ([f0, f1, f2, f3, f4, f5, f6, f7, f8, f9, f10, f11, f12, f13, f14, f15, f16, f17, f18, f19, f20, f21, f22, f23, f24, f25] : List Addr).getD i 0)) code 0 (PySem.W.fnOf "is_whole" "is_whole" (defArgs st0) (defBody st0) (defScope st0) .none kV0 dc0 pm0 an0 cd0 ct0) ["value", "low", "high"] := fun base => def_mk l0 c0 k0 (fun _ _ _ _ _ _ us hl => match us, hl with | [_, _, _], _ => rfl) fs0 fun d => ⟨_, rfl, ck0 ..⟩
  have D1 : ∀ base : Heap, DefAt (mkS l.prog w K mg base (fun i => ([C0, C1, C2] : List Addr).getD i 0) (fun i => ([f0, f1, f2, f3, f4, f5, f6, f7, f8, f9, f10, f11, f12, f13, f14, f15, f16, f17, f18, f19, f20, f21, f22, f23, f24, f25] : List Addr).getD i 0)) code 1 (PySem.W.fnOf "checked_lag" "checked_lag" (defArgs st1) (defBody st1) (defScope st1) .none kV1 dc1 pm1 an1 cd1 ct1) ["lag"] := fun base => def_mk l1 c1 k1 (fun _ _ _ _ _ _ us hl => match us, hl with | [_], _ => rfl) fs1 fun d => ⟨_, rfl, ck1 ..⟩
  have D2 : ∀ base : Heap, DefAt (mkS l.prog w K mg base (fun i => ([C0, C1, C2] : List Addr).getD i 0) (fun i => ([f0, f1, f2, f3, f4, f5, f6, f7, f8, f9, f10, f11, f12, f13, f14, f15, f16, f17, f18, f19, f20, f21, f22, f23, f24, f25] : List Addr).getD i 0)) code 2 (PySem.W.fnOf "lowest" "lowest" (defArgs st2) (defBody st2) (defScope st2) .none kV2 dc2 pm2 an2 cd2 ct2) ["above", "below"] := fun base => def_mk l2 c2 k2 (fun _ _ _ _ _ _ us hl => match us, hl with | [_, _], _ => rfl) fs2 fun d => ⟨_, rfl, ck2 ..⟩
  have D3 : ∀ base : Heap, DefAt (mkS l.prog w K mg base (fun i => ([C0, C1, C2] : List Addr).getD i 0) (fun i => ([f0, f1, f2, f3, f4, f5, f6, f7, f8, f9, f10, f11, f12, f13, f14, f15, f16, f17, f18, f19, f20, f21, f22, f23, f24, f25] : List Addr).getD i 0)) code 3 (PySem.W.fnOf "plus" "plus" (defArgs st3) (defBody st3) (defScope st3) .none kV3 dc3 pm3 an3 cd3 ct3) ["one", "other"] := fun base => def_mk l3 c3 k3 (fun _ _ _ _ _ _ us hl => match us, hl with | [_, _], _ => rfl) fs3 fun d => ⟨_, rfl, ck3 ..⟩
  have D4 : ∀ base : Heap, DefAt (mkS l.prog w K mg base (fun i => ([C0, C1, C2] : List Addr).getD i 0) (fun i => ([f0, f1, f2, f3, f4, f5, f6, f7, f8, f9, f10, f11, f12, f13, f14, f15, f16, f17, f18, f19, f20, f21, f22, f23, f24, f25] : List Addr).getD i 0)) code 4 (PySem.W.fnOf "is_less" "is_less" (defArgs st4) (defBody st4) (defScope st4) .none kV4 dc4 pm4 an4 cd4 ct4) ["one", "other"] := fun base => def_mk l4 c4 k4 (fun _ _ _ _ _ _ us hl => match us, hl with | [_, _], _ => rfl) fs4 fun d => ⟨_, rfl, ck4 ..⟩
  have D5 : ∀ base : Heap, DefAt (mkS l.prog w K mg base (fun i => ([C0, C1, C2] : List Addr).getD i 0) (fun i => ([f0, f1, f2, f3, f4, f5, f6, f7, f8, f9, f10, f11, f12, f13, f14, f15, f16, f17, f18, f19, f20, f21, f22, f23, f24, f25] : List Addr).getD i 0)) code 5 (PySem.W.fnOf "is_fraction" "is_fraction" (defArgs st5) (defBody st5) (defScope st5) .none kV5 dc5 pm5 an5 cd5 ct5) ["value"] := fun base => def_mk l5 c5 k5 (fun _ _ _ _ _ _ us hl => match us, hl with | [_], _ => rfl) fs5 fun d => ⟨_, rfl, ck5 ..⟩
  have D6 : ∀ base : Heap, DefAt (mkS l.prog w K mg base (fun i => ([C0, C1, C2] : List Addr).getD i 0) (fun i => ([f0, f1, f2, f3, f4, f5, f6, f7, f8, f9, f10, f11, f12, f13, f14, f15, f16, f17, f18, f19, f20, f21, f22, f23, f24, f25] : List Addr).getD i 0)) code 6 (PySem.W.fnOf "margin" "margin" (defArgs st6) (defBody st6) (defScope st6) .none kV6 dc6 pm6 an6 cd6 ct6) ["terms", "lag"] := fun base => def_mk l6 c6 k6 (fun _ _ _ _ _ _ us hl => match us, hl with | [_, _], _ => rfl) fs6 fun d => ⟨_, rfl, ck6 ..⟩
  have D7 : ∀ base : Heap, DefAt (mkS l.prog w K mg base (fun i => ([C0, C1, C2] : List Addr).getD i 0) (fun i => ([f0, f1, f2, f3, f4, f5, f6, f7, f8, f9, f10, f11, f12, f13, f14, f15, f16, f17, f18, f19, f20, f21, f22, f23, f24, f25] : List Addr).getD i 0)) code 7 (PySem.W.fnOf "is_spaced" "is_spaced" (defArgs st7) (defBody st7) (defScope st7) .none kV7 dc7 pm7 an7 cd7 ct7) ["tells", "wait"] := fun base => def_mk l7 c7 k7 (fun _ _ _ _ _ _ us hl => match us, hl with | [_, _], _ => rfl) fs7 fun d => ⟨_, rfl, ck7 ..⟩
  have D8 : ∀ base : Heap, DefAt (mkS l.prog w K mg base (fun i => ([C0, C1, C2] : List Addr).getD i 0) (fun i => ([f0, f1, f2, f3, f4, f5, f6, f7, f8, f9, f10, f11, f12, f13, f14, f15, f16, f17, f18, f19, f20, f21, f22, f23, f24, f25] : List Addr).getD i 0)) code 8 (PySem.W.fnOf "newest" "newest" (defArgs st8) (defBody st8) (defScope st8) .none kV8 dc8 pm8 an8 cd8 ct8) ["tells", "time"] := fun base => def_mk l8 c8 k8 (fun _ _ _ _ _ _ us hl => match us, hl with | [_, _], _ => rfl) fs8 fun d => ⟨_, rfl, ck8 ..⟩
  have D9 : ∀ base : Heap, DefAt (mkS l.prog w K mg base (fun i => ([C0, C1, C2] : List Addr).getD i 0) (fun i => ([f0, f1, f2, f3, f4, f5, f6, f7, f8, f9, f10, f11, f12, f13, f14, f15, f16, f17, f18, f19, f20, f21, f22, f23, f24, f25] : List Addr).getD i 0)) code 9 (PySem.W.fnOf "judge_terms" "judge_terms" (defArgs st9) (defBody st9) (defScope st9) .none kV9 dc9 pm9 an9 cd9 ct9) ["terms", "lag"] := fun base => def_mk l9 c9 k9 (fun _ _ _ _ _ _ us hl => match us, hl with | [_, _], _ => rfl) fs9 fun d => ⟨_, rfl, ck9 ..⟩
  have D10 : ∀ base : Heap, DefAt (mkS l.prog w K mg base (fun i => ([C0, C1, C2] : List Addr).getD i 0) (fun i => ([f0, f1, f2, f3, f4, f5, f6, f7, f8, f9, f10, f11, f12, f13, f14, f15, f16, f17, f18, f19, f20, f21, f22, f23, f24, f25] : List Addr).getD i 0)) code 10 (PySem.W.fnOf "least_wait" "least_wait" (defArgs st10) (defBody st10) (defScope st10) .none kV10 dc10 pm10 an10 cd10 ct10) ["length", "delay", "drift", "lag"] := fun base => def_mk l10 c10 k10 (fun _ _ _ _ _ _ us hl => match us, hl with | [_, _, _, _], _ => rfl) fs10 fun d => ⟨_, rfl, ck10 ..⟩
  have D11 : ∀ base : Heap, DefAt (mkS l.prog w K mg base (fun i => ([C0, C1, C2] : List Addr).getD i 0) (fun i => ([f0, f1, f2, f3, f4, f5, f6, f7, f8, f9, f10, f11, f12, f13, f14, f15, f16, f17, f18, f19, f20, f21, f22, f23, f24, f25] : List Addr).getD i 0)) code 11 (PySem.W.fnOf "least_lag" "least_lag" (defArgs st11) (defBody st11) (defScope st11) .none kV11 dc11 pm11 an11 cd11 ct11) ["terms"] := fun base => def_mk l11 c11 k11 (fun _ _ _ _ _ _ us hl => match us, hl with | [_], _ => rfl) fs11 fun d => ⟨_, rfl, ck11 ..⟩
  have D12 : ∀ base : Heap, DefAt (mkS l.prog w K mg base (fun i => ([C0, C1, C2] : List Addr).getD i 0) (fun i => ([f0, f1, f2, f3, f4, f5, f6, f7, f8, f9, f10, f11, f12, f13, f14, f15, f16, f17, f18, f19, f20, f21, f22, f23, f24, f25] : List Addr).getD i 0)) code 12 (PySem.W.fnOf "_law_number" "_law_number" (defArgs st12) (defBody st12) (defScope st12) .none kV12 dc12 pm12 an12 cd12 ct12) ["script", "index"] := fun base => def_mk l12 c12 k12 (fun _ _ _ _ _ _ us hl => match us, hl with | [_, _], _ => rfl) fs12 fun d => ⟨_, rfl, ck12 ..⟩
  have D13 : ∀ base : Heap, DefAt (mkS l.prog w K mg base (fun i => ([C0, C1, C2] : List Addr).getD i 0) (fun i => ([f0, f1, f2, f3, f4, f5, f6, f7, f8, f9, f10, f11, f12, f13, f14, f15, f16, f17, f18, f19, f20, f21, f22, f23, f24, f25] : List Addr).getD i 0)) code 13 (PySem.W.fnOf "_law_take" "_law_take" (defArgs st13) (defBody st13) (defScope st13) .none kV13 dc13 pm13 an13 cd13 ct13) ["draw", "many"] := fun base => def_mk l13 c13 k13 (fun _ _ _ _ _ _ us hl => match us, hl with | [_, _], _ => rfl) fs13 fun d => ⟨_, rfl, ck13 ..⟩
  have D14 : ∀ base : Heap, DefAt (mkS l.prog w K mg base (fun i => ([C0, C1, C2] : List Addr).getD i 0) (fun i => ([f0, f1, f2, f3, f4, f5, f6, f7, f8, f9, f10, f11, f12, f13, f14, f15, f16, f17, f18, f19, f20, f21, f22, f23, f24, f25] : List Addr).getD i 0)) code 14 (PySem.W.fnOf "_law_lowest" "_law_lowest" (defArgs st14) (defBody st14) (defScope st14) .none kV14 dc14 pm14 an14 cd14 ct14) ["above", "below"] := fun base => def_mk l14 c14 k14 (fun _ _ _ _ _ _ us hl => match us, hl with | [_, _], _ => rfl) fs14 fun d => ⟨_, rfl, ck14 ..⟩
  have D15 : ∀ base : Heap, DefAt (mkS l.prog w K mg base (fun i => ([C0, C1, C2] : List Addr).getD i 0) (fun i => ([f0, f1, f2, f3, f4, f5, f6, f7, f8, f9, f10, f11, f12, f13, f14, f15, f16, f17, f18, f19, f20, f21, f22, f23, f24, f25] : List Addr).getD i 0)) code 15 (PySem.W.fnOf "law" "law" (defArgs st15) (defBody st15) (defScope st15) .none kV15 dc15 pm15 an15 cd15 ct15) ["script"] := fun base => def_mk l15 c15 k15 (fun _ _ _ _ _ _ us hl => match us, hl with | [_], _ => rfl) fs15 fun d => ⟨_, rfl, ck15 ..⟩
  have D16 : ∀ base : Heap, DefAt (mkS l.prog w K mg base (fun i => ([C0, C1, C2] : List Addr).getD i 0) (fun i => ([f0, f1, f2, f3, f4, f5, f6, f7, f8, f9, f10, f11, f12, f13, f14, f15, f16, f17, f18, f19, f20, f21, f22, f23, f24, f25] : List Addr).getD i 0)) code 16 (PySem.W.fnOf "__init__" "Terms.__init__" (defArgs st16) (defBody st16) (defScope st16) .none kV16 dc16 pm16 an16 cd16 ct16) ["self", "length", "delay", "wait", "drift"] := fun base => def_mk l16 c16 k16 (fun _ _ _ _ _ _ us hl => match us, hl with | [_, _, _, _, _], _ => rfl) fs16 fun d => ⟨_, rfl, ck16 ..⟩
  have D17 : ∀ base : Heap, DefAt (mkS l.prog w K mg base (fun i => ([C0, C1, C2] : List Addr).getD i 0) (fun i => ([f0, f1, f2, f3, f4, f5, f6, f7, f8, f9, f10, f11, f12, f13, f14, f15, f16, f17, f18, f19, f20, f21, f22, f23, f24, f25] : List Addr).getD i 0)) code 17 (PySem.W.fnOf "shortest_wait" "Terms.shortest_wait" (defArgs st17) (defBody st17) (defScope st17) .none kV17 dc17 pm17 an17 cd17 ct17) ["self"] := fun base => def_mk l17 c17 k17 (fun _ _ _ _ _ _ us hl => match us, hl with | [_], _ => rfl) fs17 fun d => ⟨_, rfl, ck17 ..⟩
  have D18 : ∀ base : Heap, DefAt (mkS l.prog w K mg base (fun i => ([C0, C1, C2] : List Addr).getD i 0) (fun i => ([f0, f1, f2, f3, f4, f5, f6, f7, f8, f9, f10, f11, f12, f13, f14, f15, f16, f17, f18, f19, f20, f21, f22, f23, f24, f25] : List Addr).getD i 0)) code 18 (PySem.W.fnOf "longest_lease" "Terms.longest_lease" (defArgs st18) (defBody st18) (defScope st18) .none kV18 dc18 pm18 an18 cd18 ct18) ["self"] := fun base => def_mk l18 c18 k18 (fun _ _ _ _ _ _ us hl => match us, hl with | [_], _ => rfl) fs18 fun d => ⟨_, rfl, ck18 ..⟩
  have D19 : ∀ base : Heap, DefAt (mkS l.prog w K mg base (fun i => ([C0, C1, C2] : List Addr).getD i 0) (fun i => ([f0, f1, f2, f3, f4, f5, f6, f7, f8, f9, f10, f11, f12, f13, f14, f15, f16, f17, f18, f19, f20, f21, f22, f23, f24, f25] : List Addr).getD i 0)) code 19 (PySem.W.fnOf "reach" "Terms.reach" (defArgs st19) (defBody st19) (defScope st19) .none kV19 dc19 pm19 an19 cd19 ct19) ["self"] := fun base => def_mk l19 c19 k19 (fun _ _ _ _ _ _ us hl => match us, hl with | [_], _ => rfl) fs19 fun d => ⟨_, rfl, ck19 ..⟩
  have D20 : ∀ base : Heap, DefAt (mkS l.prog w K mg base (fun i => ([C0, C1, C2] : List Addr).getD i 0) (fun i => ([f0, f1, f2, f3, f4, f5, f6, f7, f8, f9, f10, f11, f12, f13, f14, f15, f16, f17, f18, f19, f20, f21, f22, f23, f24, f25] : List Addr).getD i 0)) code 20 (PySem.W.fnOf "__init__" "Enough.__init__" (defArgs st20) (defBody st20) (defScope st20) .none kV20 dc20 pm20 an20 cd20 ct20) ["self", "margin_of_waits"] := fun base => def_mk l20 c20 k20 (fun _ _ _ _ _ _ us hl => match us, hl with | [_, _], _ => rfl) fs20 fun d => ⟨_, rfl, ck20 ..⟩
  have D21 : ∀ base : Heap, DefAt (mkS l.prog w K mg base (fun i => ([C0, C1, C2] : List Addr).getD i 0) (fun i => ([f0, f1, f2, f3, f4, f5, f6, f7, f8, f9, f10, f11, f12, f13, f14, f15, f16, f17, f18, f19, f20, f21, f22, f23, f24, f25] : List Addr).getD i 0)) code 21 (PySem.W.fnOf "__bool__" "Enough.__bool__" (defArgs st21) (defBody st21) (defScope st21) .none kV21 dc21 pm21 an21 cd21 ct21) ["self"] := fun base => def_mk l21 c21 k21 (fun _ _ _ _ _ _ us hl => match us, hl with | [_], _ => rfl) fs21 fun d => ⟨_, rfl, ck21 ..⟩
  have D22 : ∀ base : Heap, DefAt (mkS l.prog w K mg base (fun i => ([C0, C1, C2] : List Addr).getD i 0) (fun i => ([f0, f1, f2, f3, f4, f5, f6, f7, f8, f9, f10, f11, f12, f13, f14, f15, f16, f17, f18, f19, f20, f21, f22, f23, f24, f25] : List Addr).getD i 0)) code 22 (PySem.W.fnOf "shows" "Enough.shows" (defArgs st22) (defBody st22) (defScope st22) .none kV22 dc22 pm22 an22 cd22 ct22) ["self", "terms", "lag"] := fun base => def_mk l22 c22 k22 (fun _ _ _ _ _ _ us hl => match us, hl with | [_, _, _], _ => rfl) fs22 fun d => ⟨_, rfl, ck22 ..⟩
  have D23 : ∀ base : Heap, DefAt (mkS l.prog w K mg base (fun i => ([C0, C1, C2] : List Addr).getD i 0) (fun i => ([f0, f1, f2, f3, f4, f5, f6, f7, f8, f9, f10, f11, f12, f13, f14, f15, f16, f17, f18, f19, f20, f21, f22, f23, f24, f25] : List Addr).getD i 0)) code 23 (PySem.W.fnOf "__init__" "TooShort.__init__" (defArgs st23) (defBody st23) (defScope st23) .none kV23 dc23 pm23 an23 cd23 ct23) ["self", "tells", "made", "came", "used"] := fun base => def_mk l23 c23 k23 (fun _ _ _ _ _ _ us hl => match us, hl with | [_, _, _, _, _], _ => rfl) fs23 fun d => ⟨_, rfl, ck23 ..⟩
  have D24 : ∀ base : Heap, DefAt (mkS l.prog w K mg base (fun i => ([C0, C1, C2] : List Addr).getD i 0) (fun i => ([f0, f1, f2, f3, f4, f5, f6, f7, f8, f9, f10, f11, f12, f13, f14, f15, f16, f17, f18, f19, f20, f21, f22, f23, f24, f25] : List Addr).getD i 0)) code 24 (PySem.W.fnOf "__bool__" "TooShort.__bool__" (defArgs st24) (defBody st24) (defScope st24) .none kV24 dc24 pm24 an24 cd24 ct24) ["self"] := fun base => def_mk l24 c24 k24 (fun _ _ _ _ _ _ us hl => match us, hl with | [_], _ => rfl) fs24 fun d => ⟨_, rfl, ck24 ..⟩
  have D25 : ∀ base : Heap, DefAt (mkS l.prog w K mg base (fun i => ([C0, C1, C2] : List Addr).getD i 0) (fun i => ([f0, f1, f2, f3, f4, f5, f6, f7, f8, f9, f10, f11, f12, f13, f14, f15, f16, f17, f18, f19, f20, f21, f22, f23, f24, f25] : List Addr).getD i 0)) code 25 (PySem.W.fnOf "shows" "TooShort.shows" (defArgs st25) (defBody st25) (defScope st25) .none kV25 dc25 pm25 an25 cd25 ct25) ["self", "terms", "lag"] := fun base => def_mk l25 c25 k25 (fun _ _ _ _ _ _ us hl => match us, hl with | [_, _, _], _ => rfl) fs25 fun d => ⟨_, rfl, ck25 ..⟩
  refine ⟨_, fun s v => .of_eq rfl, fun base _ _ => law_end (D15 base) (g0 base) (fun k hk => ?_) 30 fun ns hn => hv _ _ _ _ _ _ _ ns hn⟩
  match k, hk with
  | 0, _ => exact ⟨_, _, D0 base⟩
  | 1, _ => exact ⟨_, _, D1 base⟩
  | 2, _ => exact ⟨_, _, D2 base⟩
  | 3, _ => exact ⟨_, _, D3 base⟩
  | 4, _ => exact ⟨_, _, D4 base⟩
  | 5, _ => exact ⟨_, _, D5 base⟩
  | 6, _ => exact ⟨_, _, D6 base⟩
  | 7, _ => exact ⟨_, _, D7 base⟩
  | 8, _ => exact ⟨_, _, D8 base⟩
  | 9, _ => exact ⟨_, _, D9 base⟩
  | 10, _ => exact ⟨_, _, D10 base⟩
  | 11, _ => exact ⟨_, _, D11 base⟩
  | 12, _ => exact ⟨_, _, D12 base⟩
  | 13, _ => exact ⟨_, _, D13 base⟩
  | 14, _ => exact ⟨_, _, D14 base⟩
  | 15, _ => exact ⟨_, _, D15 base⟩
  | 16, _ => exact ⟨_, _, D16 base⟩
  | 17, _ => exact ⟨_, _, D17 base⟩
  | 18, _ => exact ⟨_, _, D18 base⟩
  | 19, _ => exact ⟨_, _, D19 base⟩
  | 20, _ => exact ⟨_, _, D20 base⟩
  | 21, _ => exact ⟨_, _, D21 base⟩
  | 22, _ => exact ⟨_, _, D22 base⟩
  | 23, _ => exact ⟨_, _, D23 base⟩
  | 24, _ => exact ⟨_, _, D24 base⟩
  | 25, _ => exact ⟨_, _, D25 base⟩
  | n + 26, h => exact absurd h (Nat.not_lt.mpr (Nat.le_add_left _ _))
theorem walk {l : PySem.W.OpenLaw} {q : Program} {loose : List Str} {XP : (Str → Option Value) → Heap → Prop} {YP : World → Heap → Prop} {d : DefRec} {K : Params → PySem.W.Frag} (hn : l.most = some 63) (hdf : d.params.defaults = [])
    (hY : ∀ (w : World) (h : Heap), YP w h → (K w.params).In h)
    (F : ∀ (w : World) (mg : Str → Option Value) (fa : Addr) (h : Heap), (K w.params).In h → h.Ns mainGlobals mg → mg d.name = some (.ref fa) →
      ∃ fd : FuncData, (∀ (s : Shared) (u : Value), BindsTo s fd ⟨[u], []⟩ [("script", u)]) ∧ ∀ base : Heap, (K w.params).In base → base.Ns mainGlobals mg → FnOk l.prog w (K w.params) mg base (L2.CX l.prog w) 93 fa fd ["script"] (spL (K w.params))) :
    PySem.W.WalkO q loose XP YP l.row.toRowW d [] (fun f vs => PySem.call f vs) :=
  L2.walk_of (n := 63) (k := 93) (x := "script") (CX := fun w => L2.CX l.prog w) (sp := fun w => spL (K w.params)) hn (by decide) hdf ⟨rfl, by decide, by decide⟩ hY F (fun w H a ns hl ho hS => ⟨a, ns, rfl, hS, ho, hl, fun _ => rfl⟩) fun w H s e s' z => by
    obtain ⟨_, _, _, _, _, _, _, _, _, _, _, _, z⟩ := z
    exact z
end LawX
/-! VMu: the machine's steps as equations for simp -/
namespace VM
open PySem PySem.Spec PyProof.Rows L2
section
variable {S : Sx} {L : Lo} {G : Gh} {a b c : CE S} {r : CA S} {i : Nat}
@[simp] theorem run_some (d : FDef S) (as : List Va) : runF (some d) as G = if as.length = d.ar then toR (d.body.ev (startL d.N as) G) else .no := rfl
@[simp] theorem toR_rt (v : Va) : toR (.rt v G) = .ok v G := rfl
@[simp] theorem toR_nx : toR (.nx L G) = .ok .non G := rfl
@[simp] theorem bCons_ev {x : CS S} {y : CB S} : (bCons x y).ev L G = sq (x.ev L G) y.ev := rfl
@[simp] theorem bNil_ev : (bNil : CB S).ev L G = .nx L G := rfl
@[simp] theorem sq_nx {k : Lo → Gh → SR} : sq (.nx L G) k = k L G := rfl
@[simp] theorem sq_rt {k : Lo → Gh → SR} {v : Va} : sq (.rt v G) k = .rt v G := rfl
@[simp] theorem sq_bk {k : Lo → Gh → SR} : sq (.bk L G) k = .bk L G := rfl
@[simp] theorem sq_ct {k : Lo → Gh → SR} : sq (.ct L G) k = .ct L G := rfl
@[simp] theorem sx_ok {α : Type} {x : α} {k : α → Gh → SR} : sx (.ok x G) L k = k x G := rfl
@[simp] theorem sNever_ev : (sNever : CS S).ev L G = .no := rfl
@[simp] theorem sPass_ev : (sPass : CS S).ev L G = .nx L G := rfl
@[simp] theorem sBreak_ev : (sBreak : CS S).ev L G = .bk L G := rfl
@[simp] theorem sCont_ev : (sCont : CS S).ev L G = .ct L G := rfl
@[simp] theorem sRet_ev : (sRet a).ev L G = sx (a.ev L G) L fun v G1 => .rt v G1 := rfl
@[simp] theorem sRetN_ev : (sRetN : CS S).ev L G = .rt .non G := rfl
@[simp] theorem sExpr_ev : (sExpr a).ev L G = sx (a.ev L G) L fun _ G1 => .nx L G1 := rfl
@[simp] theorem sIf_ev {x y : CB S} : (sIf a x y).ev L G = sx (a.tv L G) L fun t G1 => ifE t (x.ev L G1) (y.ev L G1) := rfl
@[simp] theorem ifE_true {x y : SR} : ifE true x y = x := rfl
@[simp] theorem ifE_false {x y : SR} : ifE false x y = y := rfl
@[simp] theorem sAsg_ev {g : CG S} : (sAsg g a).ev L G = sx (a.ev L G) L fun v G1 => sx (noex (g.ev v L G1)) L fun L2 G2 => .nx L2 G2 := rfl
@[simp] theorem noex_ok {α : Type} {x : α} : noex (.ok x G) = .ok x G := rfl
@[simp] theorem gNm_ev {v : Va} : (gNm i : CG S).ev v L G = .ok (L.set i (some v)) G := rfl
@[simp] theorem gTp_ev {n : Nat} {s : CGs S} {xs : List Va} : (gTp n s).ev (.tup xs) L G = if xs.length = n then s.ev xs L G else .no := rfl
@[simp] theorem gsCons_ev {g : CG S} {s : CGs S} {v : Va} {vs : List Va} : (gsCons g s).ev (v :: vs) L G = (g.ev v L G).bind fun L1 G1 => s.ev vs L1 G1 := rfl
@[simp] theorem gsNil_ev : (gsNil : CGs S).ev [] L G = .ok L G := rfl
@[simp] theorem sPar_ev {j : Nat} : (sPar i j r).ev L G = sx (r.ev L G) L fun vs G1 => eP2 i j L G1 (par2 vs) := rfl
@[simp] theorem par2_eq {v w : Va} : par2 [v, w] = some (v, w) := rfl
@[simp] theorem eP2_eq {v w : Va} {j : Nat} : eP2 i j L G (some (v, w)) = .nx ((L.set i (some v)).set j (some w)) G := rfl
@[simp] theorem sPar3_ev {j k : Nat} : (sPar3 i j k r).ev L G = sx (r.ev L G) L fun vs G1 => eP3 i j k L G1 (par3 vs) := rfl
@[simp] theorem par3_eq {v w z : Va} : par3 [v, w, z] = some (v, w, z) := rfl
@[simp] theorem eP3_eq {v w z : Va} {j k : Nat} : eP3 i j k L G (some (v, w, z)) = .nx (((L.set i (some v)).set j (some w)).set k (some z)) G := rfl
@[simp] theorem sFldS_ev {f : Nat} : (sFldS b f a).ev L G = sx (a.ev L G) L fun v G1 => sx (b.ev L G1) L fun w G2 => nxS L (setV S f v w G2) := rfl
@[simp] theorem setV_ref {f n : Nat} {v : Va} : setV S f v (.ref n) G = setO S n f v G G[n]? := rfl
@[simp] theorem setO_ins {m f n : Nat} {v : Va} {fs : List (Nat × Va)} : setO S m f v G (some (.ins n fs)) = if f ∈ (S.cd n).flds ∧ fs.length < 900 then some (G.set m (.ins n (putN f v fs))) else none := rfl
@[simp] theorem nxS_some : nxS L (some G) = .nx L G := rfl
-- expressions
@[simp] theorem cVar_ev : (cVar i : CE S).ev L G = getL L[i]? G := rfl
@[simp] theorem getL_ok {v : Va} : getL (some (some v)) G = .ok v G := rfl
@[simp] theorem cI_ev {n : Int} : (cI n : CE S).ev L G = .ok (.int n) G := rfl
@[simp] theorem cB_ev {n : Bool} : (cB n : CE S).ev L G = .ok (.bl n) G := rfl
@[simp] theorem cS_ev {n : Tx} : (cS n : CE S).ev L G = .ok (.str n) G := rfl
@[simp] theorem cN_ev : (cN : CE S).ev L G = .ok .non G := rfl
@[simp] theorem cTy_ev {n : String} : (cTy n : CE S).ev L G = .ok (.ty n) G := rfl
@[simp] theorem cCl_ev {n : Nat} : (cCl n : CE S).ev L G = .ok (.cl n) G := rfl
@[simp] theorem cGl_ev {n : Nat} : (cGl n : CE S).ev L G = .ok (glv S n) G := rfl
@[simp] theorem aNil_ev : (aNil : CA S).ev L G = .ok [] G := rfl
@[simp] theorem aCons_ev : (aCons a r).ev L G = (a.ev L G).bind fun v G1 => (r.ev L G1).bind fun vs G2 => .ok (v :: vs) G2 := rfl
@[simp] theorem aStar_ev : (aStar a r).ev L G = (a.ev L G).bind fun v G1 => (seqR G1 (seqO G1 v)).bind fun xs G1 => (r.ev L G1).bind fun vs G2 => .ok (xs ++ vs) G2 := rfl
@[simp] theorem cTup_ev : (cTup r).ev L G = (r.ev L G).bind tupR := rfl
@[simp] theorem tupR_ok {xs : List Va} (h : xs.length ≤ 16777216) : tupR xs G = .ok (.tup xs) G := by unfold tupR; rw [if_pos (by rw [sizeLine_eq]; exact h)]
@[simp] theorem cLst_ev : (cLst r).ev L G = (r.ev L G).bind lstR := rfl
@[simp] theorem lstR_ok {xs : List Va} (h : xs.length ≤ 16777216) : lstR xs G = .ok (.ref G.length) (G ++ [.lst false xs]) := by unfold lstR; rw [if_pos (by rw [sizeLine_eq]; exact h)]
@[simp] theorem cBin_ev {op : Operator} : (cBin op a b).ev L G = (a.ev L G).bind fun x G1 => (b.ev L G1).bind fun y G2 => lift (binF op x y G2) := rfl
@[simp] theorem lift_ok {v : Va} : lift (some (v, G)) = .ok v G := rfl
@[simp] theorem add_int {x y : Int} : binF .Add (.int x) (.int y) G = some (.int (x + y), G) := rfl
@[simp] theorem sub_int {x y : Int} : binF .Sub (.int x) (.int y) G = some (.int (x - y), G) := rfl
def sm (x : Int) : Prop := -(2 ^ 64) < x ∧ x < 2 ^ 64
def po (x : Int) : Prop := 0 < x ∧ x < 2 ^ 64
@[simp] theorem mul_l {x y : Int} (h : sm x) : binF .Mult (.int x) (.int y) G = some (.int (x * y), G) := by
  show mulI x y G = _
  unfold mulI; rw [if_pos (.inl h)]
@[simp] theorem mul_r {x y : Int} (h : sm y) : binF .Mult (.int x) (.int y) G = some (.int (x * y), G) := by
  show mulI x y G = _
  unfold mulI; rw [if_pos (.inr h)]
@[simp] theorem div_int {x y : Int} (h : po y) : binF .FloorDiv (.int x) (.int y) G = some (.int (x / y), G) := by
  show divI x y G = _
  have h1 : 0 < y := h.1
  have h2 : y < 2 ^ 64 := h.2
  have hn : y.natAbs ≠ 0 := by omega
  have : y.natAbs.log2 < 64 := (Nat.log2_lt hn).mpr (by omega)
  unfold divI; rw [if_pos ⟨h.1, by omega⟩]
@[simp] theorem mod_int {x y : Int} (h : 0 < y) : binF .Mod (.int x) (.int y) G = some (.int (x % y), G) := by
  show modI x y G = _
  unfold modI; rw [if_pos h]
@[simp] theorem cNeg_ev : (cNeg a).ev L G = (a.ev L G).bind fun x G1 => lift (negF x G1) := rfl
@[simp] theorem neg_int {x : Int} : negF (.int x) G = some (.int (-x), G) := rfl
@[simp] theorem cCmp_ev {op : CmpOp} : (cCmp op a b).ev L G = eCmp op a b L G := rfl
@[simp] theorem cCmp_tv {op : CmpOp} : (cCmp op a b).tv L G = (eCmp op a b L G).bind (tr S) := rfl
@[simp] theorem cChn_ev {o1 o2 : CmpOp} : (cChn o1 o2 a b c).ev L G = eChn o1 o2 a b c L G := rfl
@[simp] theorem cChn_tv {o1 o2 : CmpOp} : (cChn o1 o2 a b c).tv L G = (eChn o1 o2 a b c L G).bind (tr S) := rfl
@[simp] theorem tr_bl {t : Bool} : tr S (.bl t) G = .ok t G := rfl
@[simp] theorem tr_int {t : Int} : tr S (.int t) G = .ok (t != 0) G := rfl
@[simp] theorem cNot_ev : (cNot a).ev L G = eNot a L G := rfl
@[simp] theorem cNot_tv : (cNot a).tv L G = tNt a L G := rfl
@[simp] theorem cBop_ev {t : Bool} {rs : List (CE S)} : (cBop t a rs).ev L G = eBop t a rs L G := rfl
@[simp] theorem cBop_tv {t : Bool} {rs : List (CE S)} : (cBop t a rs).tv L G = tBop t a rs L G := rfl
@[simp] theorem cIf_ev : (cIf c a b).ev L G = eIf c a b L G := rfl
@[simp] theorem cIf_tv : (cIf c a b).tv L G = tIfx c a b L G := rfl
@[simp] theorem cIdx_ev : (cIdx a b).ev L G = (a.ev L G).bind fun x G1 => (b.ev L G1).bind fun y G2 => lift (opIdx x y G2) := rfl
@[simp] theorem cIdx_tv : (cIdx a b).tv L G = ((cIdx a b).ev L G).bind (tr S) := rfl
@[simp] theorem cVar_tv : (cVar i : CE S).tv L G = (getL L[i]? G).bind (tr S) := rfl
@[simp] theorem idx_tup0 {x : Va} {xs : List Va} : opIdx (.tup (x :: xs)) (.int 0) G = some (x, G) := by
  show okV G (atI (x :: xs) 0) = _
  unfold atI ixN
  simp [okV]
@[simp] theorem idx_tup1 {x y : Va} {xs : List Va} : opIdx (.tup (x :: y :: xs)) (.int 1) G = some (y, G) := by
  show okV G (atI (x :: y :: xs) 1) = _
  unfold atI ixN
  rw [if_pos (by decide), if_pos (by simp only [List.length_cons]; omega)]
  rfl
@[simp] theorem cAtt_ev {f : Nat} : (cAtt a f).ev L G = (a.ev L G).bind (attV S f) := rfl
@[simp] theorem attV_ref {f n : Nat} : attV S f (.ref n) G = attO S f G G[n]? := rfl
@[simp] theorem attO_ins {f n : Nat} {fs : List (Nat × Va)} : attO S f G (some (.ins n fs)) = attI S n f G (fs.lookup f) := rfl
@[simp] theorem attI_some {f n : Nat} {v : Va} : attI S n f G (some v) = .ok v G := rfl
@[simp] theorem cCall_ev {k : Nat} : (cCall k r).ev L G = (r.ev L G).bind (S.call k) := rfl
@[simp] theorem cCall_tv {k : Nat} : (cCall k r).tv L G = ((cCall k r).ev L G).bind (tr S) := rfl
@[simp] theorem cNew_ev {k : Nat} : (cNew k r).ev L G = (r.ev L G).bind (newV S k) := rfl
theorem newV_eq {k j : Nat} {vs : List Va} (h : (S.cd k).init = some j) : newV S k vs G = (S.call j (.ref G.length :: vs) (G ++ [.ins k []])).bind (newB G.length) := by
  unfold newV; rw [h]; rfl
@[simp] theorem newB_non {n : Nat} : newB n .non G = .ok (.ref n) G := rfl
@[simp] theorem cMth_ev {m : Nat} : (cMth m a r).ev L G = (a.ev L G).bind fun v G1 => (mthR S m v G1).bind fun k G1 => (r.ev L G1).bind fun vs G2 => S.call k (v :: vs) G2 := rfl
@[simp] theorem cMth_tv {m : Nat} : (cMth m a r).tv L G = ((cMth m a r).ev L G).bind (tr S) := rfl
@[simp] theorem mthR_ref {m n : Nat} : mthR S m (.ref n) G = mthO S m G G[n]? := rfl
@[simp] theorem mthO_ins {m n : Nat} {fs : List (Nat × Va)} : mthO S m G (some (.ins n fs)) = mthI G ((S.cd n).mth m) := rfl
@[simp] theorem mthI_some {k : Nat} : mthI G (some k) = .ok k G := rfl
@[simp] theorem cBi_ev {id : String} {o : Bop S (.builtin id)} : (cBi o r).ev L G = (r.ev L G).bind fun vs G1 => lift (o.op vs G1) := rfl
@[simp] theorem cBi_tv {id : String} {o : Bop S (.builtin id)} : (cBi o r).tv L G = ((cBi o r).ev L G).bind (tr S) := rfl
@[simp] theorem cBt_ev {id : String} {o : Bop S (.type id)} : (cBt o r).ev L G = (r.ev L G).bind fun vs G1 => lift (o.op vs G1) := rfl
@[simp] theorem cBg_ev {id : String} {o : Bop S (.builtin id)} : (cBg o r).ev L G = (r.ev L G).bind fun vs G1 => lift (o.op vs G1) := rfl
@[simp] theorem cBool_ev : (cBool a).ev L G = (a.ev L G).bind fun v G1 => (tr S v G1).bind fun b G2 => .ok (.bl b) G2 := rfl
@[simp] theorem cBool_tv : (cBool a).tv L G = ((cBool a).ev L G).bind (tr S) := rfl
@[simp] theorem gcd_op {x y : Int} : (bGcd : Bop S (.builtin "math.gcd")).op [.int x, .int y] G = some (.int (igcd x y), G) := rfl
@[simp] theorem int_op {x : Int} : (bInt : Bop S (.type "int")).op [.int x] G = some (.int x, G) := rfl
@[simp] theorem abs_op {x : Int} : (bAbs : Bop S (.builtin "abs")).op [.int x] G = some (.int (if x < 0 then -x else x), G) := rfl
@[simp] theorem max_op {x y : Int} : (bMax : Bop S (.builtin "max")).op [.int x, .int y] G = some (.int (imax x y), G) := rfl
@[simp] theorem min_op {x y : Int} : (bMin : Bop S (.builtin "min")).op [.int x, .int y] G = some (.int (imin x y), G) := rfl
@[simp] theorem len_tup {xs : List Va} : (bLen : Bop S (.builtin "len")).op [.tup xs] G = some (.int xs.length, G) := rfl
@[simp] theorem call_dp {code : Code} {d : Nat} : (S.dp code d).call = callF S code d := rfl
theorem callF_succ {code : Code} {d k : Nat} {as : List Va} : callF S code (d + 1) k as G = runF (code (S.dp code d) k) as G := rfl
@[simp] theorem sAugN_ev : (sAugN i a).ev L G = augX i a.ev L G L[i]? := rfl
@[simp] theorem augX_some {v : Va} {ev : Lo → Gh → Res Va} : augX i ev L G (some (some v)) = sx (ev L G) L fun y G1 => augR i L (ipAdd v y G1) := rfl
@[simp] theorem augR_some {v : Va} : augR i L (some (v, G)) = .nx (L.set i (some v)) G := rfl
@[simp] theorem sFor_ev {it : CI S} {g : CG S} {y : CB S} : (sFor it g y).ev L G = sx (it.ev L G) L fun src G1 => forL src g.ev y.ev fuelF 0 L G1 := rfl
@[simp] theorem cItV_ev : (cItV a).ev L G = (a.ev L G).bind fun v G1 => srcR G1 (srcV v G1) := rfl
@[simp] theorem cRng1_ev : (cRng1 a).ev L G = (a.ev L G).bind rng1 := rfl
@[simp] theorem cRng2_ev : (cRng2 a b).ev L G = (a.ev L G).bind fun v G1 => (b.ev L G1).bind (rng2 v) := rfl
@[simp] theorem sLcS_ev {it : CI S} {g : CG S} {tt : CT S} {own : List (Str × Nat)} : (sLcS i it g tt a own).ev L G = sx (lcE it.ev g.ev tt.ev a.ev (own.map (·.2)) L G) L fun v G1 => sx (noex (gNmE i v L G1)) L fun L2 G2 => .nx L2 G2 := rfl
@[simp] theorem cLc_ev {it : CI S} {g : CG S} {tt : CT S} {own : List (Str × Nat)} : (cLc it g tt a own).ev L G = lcE it.ev g.ev tt.ev a.ev (own.map (·.2)) L G := rfl
@[simp] theorem gNmE_eq {v : Va} : gNmE i v L G = .ok (L.set i (some v)) G := rfl
@[simp] theorem eCmp_eq {op : CmpOp} : eCmp op a b L G = (a.ev L G).bind fun x G1 => (b.ev L G1).bind fun y G2 => lift (cmpF op x y G2) := rfl
@[simp] theorem eChn_eq {o1 o2 : CmpOp} : eChn o1 o2 a b c L G = (a.ev L G).bind fun x G1 => (b.ev L G1).bind fun y G2 => (lift (cmpF o1 x y G2)).bind (chnK o2 c L y) := rfl
@[simp] theorem lt_int {x y : Int} : cmpF .Lt (.int x) (.int y) G = some (.bl (decide (x < y)), G) := rfl
@[simp] theorem le_int {x y : Int} : cmpF .LtE (.int x) (.int y) G = some (.bl (decide (x ≤ y)), G) := rfl
@[simp] theorem gt_int {x y : Int} : cmpF .Gt (.int x) (.int y) G = some (.bl (decide (y < x)), G) := rfl
@[simp] theorem ge_int {x y : Int} : cmpF .GtE (.int x) (.int y) G = some (.bl (decide (y ≤ x)), G) := rfl
@[simp] theorem eNot_eq : eNot a L G = (eT a L G).bind fun b G1 => .ok (.bl (!b)) G1 := rfl
@[simp] theorem eT_eq : eT a L G = (a.ev L G).bind (tr S) := rfl
@[simp] theorem chn_t {op : CmpOp} {y : Va} : chnK op c L y (.bl true) G = (c.ev L G).bind fun z G1 => lift (cmpF op y z G1) := rfl
@[simp] theorem chn_f {op : CmpOp} {y : Va} : chnK op c L y (.bl false) G = .ok (.bl false) G := rfl
@[simp] theorem tNt_eq : tNt a L G = (a.tv L G).bind fun b G1 => .ok (!b) G1 := rfl
@[simp] theorem eBop_one {t : Bool} : eBop t a [] L G = a.ev L G := rfl
@[simp] theorem eBop_cons {t : Bool} {r : List (CE S)} : eBop t a (b :: r) L G = (a.ev L G).bind fun v G1 => (tr S v G1).bind fun t' G2 => if t' = t then eBop t b r L G2 else .ok v G2 := rfl
@[simp] theorem tBop_one {t : Bool} : tBop t a [] L G = a.tv L G := rfl
@[simp] theorem tBop_cons {t : Bool} {r : List (CE S)} : tBop t a (b :: r) L G = (a.tv L G).bind fun t' G1 => if t' = t then tBop t b r L G1 else .ok t' G1 := rfl
@[simp] theorem eIf_eq : eIf c a b L G = (c.tv L G).bind fun t G1 => if t = true then a.ev L G1 else b.ev L G1 := rfl
@[simp] theorem tIfx_eq : tIfx c a b L G = (c.tv L G).bind fun t G1 => if t = true then a.tv L G1 else b.tv L G1 := rfl
@[simp] theorem cB_tv {n : Bool} : (cB n : CE S).tv L G = .ok n G := rfl
@[simp] theorem cAtt_tv {f : Nat} : (cAtt a f).tv L G = ((a.ev L G).bind (attV S f)).bind (tr S) := rfl
@[simp] theorem lpK_nx {k : Lo → Gh → SR} : lpK (.nx L G) k = k L G := rfl
@[simp] theorem lpK_ct {k : Lo → Gh → SR} : lpK (.ct L G) k = k L G := rfl
@[simp] theorem lpK_bk {k : Lo → Gh → SR} : lpK (.bk L G) k = .nx L G := rfl
@[simp] theorem lpK_rt {k : Lo → Gh → SR} {v : Va} : lpK (.rt v G) k = .rt v G := rfl
@[simp] theorem srcV_tup {xs : List Va} : srcV (.tup xs) G = some (.fix xs) := rfl
@[simp] theorem srcR_some {s : Src} : srcR G (some s) = .ok s G := rfl
def for1 (r : Option Va) (g : Va → Lo → Gh → Res Lo) (b : Lo → Gh → SR) (k : Lo → Gh → SR) (L : Lo) (G : Gh) : SR :=
  match r with
  | none => .nx L G
  | some v => sx (noex (g v L G)) L fun L2 G2 => lpK (b L2 G2) k
@[simp] theorem for1_none {g : Va → Lo → Gh → Res Lo} {b k : Lo → Gh → SR} : for1 none g b k L G = .nx L G := rfl
@[simp] theorem for1_some {v : Va} {g : Va → Lo → Gh → Res Lo} {b k : Lo → Gh → SR} : for1 (some v) g b k L G = sx (noex (g v L G)) L fun L2 G2 => lpK (b L2 G2) k := rfl
theorem forL_at {src : Src} {g : Va → Lo → Gh → Res Lo} {b : Lo → Gh → SR} {m i : Nat} {r : Option Va} (h : nxt src i G = some r) : forL src g b (m + 1) i L G = for1 r g b (fun L3 G3 => forL src g b m (i + 1) L3 G3) L G := by
  rcases for_cases src g b m i L G with ⟨h1, h2⟩ | ⟨h1, h2⟩ | ⟨v, h1, h2⟩
  · rw [h] at h1; cases h1
  · rw [h] at h1; cases h1; exact h2
  · rw [h] at h1; cases h1; exact h2
theorem forL_fix {xs : List Va} {g : Va → Lo → Gh → Res Lo} {b : Lo → Gh → SR} {m i : Nat} : forL (.fix xs) g b (m + 1) i L G = for1 xs[i]? g b (fun L3 G3 => forL (.fix xs) g b m (i + 1) L3 G3) L G := forL_at rfl
theorem forL_rng {lo : Int} {k : Nat} {g : Va → Lo → Gh → Res Lo} {b : Lo → Gh → SR} {m i : Nat} : forL (.rng lo k) g b (m + 1) i L G = for1 (if i < k then some (.int (lo + i)) else none) g b (fun L3 G3 => forL (.rng lo k) g b m (i + 1) L3 G3) L G := forL_at rfl
@[simp] theorem cBm_ev {T : String} {name : Str} {id : String} {m : Mop S T name id} : (cBm m a r).ev L G = (a.ev L G).bind fun v G1 => bmR m r.ev L v G1 := rfl
theorem bmR_ok {T : String} {name : Str} {id : String} {m : Mop S T name id} {ev : Lo → Gh → Res (List Va)} {v : Va} (h : m.ty v G = true) : bmR m ev L v G = (ev L G).bind fun vs G2 => lift (m.op v vs G2) := by unfold bmR; rw [if_pos h]
end
end VM
/-! VMv: list comprehensions and loops, summed up -/
namespace VM
open PySem PySem.Spec PyProof.Rows L2
section
variable {G t : Gh} {o : VO} {n : Nat}
theorem at_d : (G ++ o :: t)[G.length]? = some o := by simp
theorem at_old (h : n < G.length) : (G ++ t)[n]? = G[n]? := List.getElem?_append_left h
theorem set_d {o' : VO} : (G ++ o :: t).set G.length o' = G ++ o' :: t := by simp
theorem appD_ok {acc : List Va} {y : Va} (h : acc.length < 1000000) : appD G.length y (G ++ .lst false acc :: t) (G ++ VO.lst false acc :: t)[G.length]? = .ok () (G ++ .lst false (acc ++ [y]) :: t) := by
  rw [at_d]
  show (if acc.length < sizeLine then Res.ok () ((G ++ .lst false acc :: t).set G.length (.lst false (acc ++ [y]))) else .no) = _
  rw [if_pos (by rw [sizeLine_eq]; omega), set_d]
theorem lcT_yes {g : Va → Lo → Gh → Res Lo} {tt : Lo → Gh → Res Bool} {te : Lo → Gh → Res Va} {L L2 : Lo} {v y : Va} {acc : List Va} {t1 t2 t3 : Gh} (h1 : g v L (G ++ .lst false acc :: t) = .ok L2 (G ++ .lst false acc :: t1)) (h2 : tt L2 (G ++ .lst false acc :: t1) = .ok true (G ++ .lst false acc :: t2)) (h3 : te L2 (G ++ .lst false acc :: t2) = .ok y (G ++ .lst false acc :: t3)) (h : acc.length < 1000000) :
    lcT G.length g tt te L v (G ++ .lst false acc :: t) = .ok () (G ++ .lst false (acc ++ [y]) :: t3) := by
  unfold lcT
  rw [h1, noex_ok, Res.bind_ok, h2, noex_ok, Res.bind_ok]
  unfold lcY
  rw [if_pos rfl, h3, noex_ok, Res.bind_ok]
  exact appD_ok h
theorem lcT_no {g : Va → Lo → Gh → Res Lo} {tt : Lo → Gh → Res Bool} {te : Lo → Gh → Res Va} {L L2 : Lo} {v : Va} {acc : List Va} {t1 t2 : Gh} (h1 : g v L (G ++ .lst false acc :: t) = .ok L2 (G ++ .lst false acc :: t1)) (h2 : tt L2 (G ++ .lst false acc :: t1) = .ok false (G ++ .lst false acc :: t2)) :
    lcT G.length g tt te L v (G ++ .lst false acc :: t) = .ok () (G ++ .lst false acc :: t2) := by
  unfold lcT
  rw [h1, noex_ok, Res.bind_ok, h2, noex_ok, Res.bind_ok]
  unfold lcY
  rw [if_neg (by decide)]
theorem lcL_all {src : Src} {turn : Va → Gh → Res Unit} {xs : List Va} {f : Va → List Va} (hn : ∀ i o t, nxt src i (G ++ o :: t) = some xs[i]?)
    (hs : ∀ v acc t, v ∈ xs → acc.length < 1000000 → ∃ t', turn v (G ++ .lst false acc :: t) = .ok () (G ++ .lst false (acc ++ f v) :: t')) (hf : ∀ v ∈ xs, (f v).length ≤ 1) : ∀ (k i m : Nat) (acc : List Va) (t : Gh), k + i = xs.length → acc.length ≤ i → xs.length < 1000000 → k < m → ∃ t', lcL src turn m i (G ++ .lst false acc :: t) = .ok () (G ++ .lst false (acc ++ (xs.drop i).flatMap f) :: t')
  | 0, i, m + 1, acc, t, hk, ha, hx, _ => by
    have e : xs[i]? = none := List.getElem?_eq_none (by omega)
    refine ⟨t, ?_⟩
    rw [List.drop_eq_nil_of_le (by omega), List.flatMap_nil, List.append_nil]
    rcases nxt_cases (α := Unit) src turn m i (G ++ .lst false acc :: t) with ⟨h1, h2⟩ | ⟨h1, h2⟩ | ⟨v, h1, h2⟩
    · rw [hn] at h1; cases h1
    · exact h2
    · rw [hn, e] at h1; cases h1
  | k + 1, i, m + 1, acc, t, hk, ha, hx, hm => by
    have hi : i < xs.length := by omega
    have e : xs[i]? = some xs[i] := by simp [hi]
    obtain ⟨t', ht⟩ := hs xs[i] acc t (List.getElem_mem hi) (by omega)
    have hl := hf xs[i] (List.getElem_mem hi)
    obtain ⟨t2, h3⟩ := lcL_all hn hs hf k (i + 1) m (acc ++ f xs[i]) t' (by omega) (by rw [List.length_append]; omega) hx (by omega)
    refine ⟨t2, ?_⟩
    rcases nxt_cases (α := Unit) src turn m i (G ++ .lst false acc :: t) with ⟨h1, h2⟩ | ⟨h1, h2⟩ | ⟨v, h1, h2⟩
    · rw [hn] at h1; cases h1
    · rw [hn, e] at h1; cases h1
    · rw [hn, e] at h1
      cases h1
      rw [h2, ht, Res.bind_ok, h3]
      congr 3
      rw [List.append_assoc]
      congr 1
      rw [List.drop_eq_getElem_cons hi, List.flatMap_cons]
theorem lcE_all {it : Lo → Gh → Res Src} {g : Va → Lo → Gh → Res Lo} {tt : Lo → Gh → Res Bool} {te : Lo → Gh → Res Va} {vs : List Nat} {L : Lo} {src : Src} {xs : List Va} {f : Va → List Va} {G0 : Gh} (hit : it L G0 = .ok src G) (hn : ∀ i o t, nxt src i (G ++ o :: t) = some xs[i]?)
    (hs : ∀ v acc t, v ∈ xs → acc.length < 1000000 → ∃ t', lcT G.length g tt te (wipeL L vs) v (G ++ .lst false acc :: t) = .ok () (G ++ .lst false (acc ++ f v) :: t')) (hf : ∀ v ∈ xs, (f v).length ≤ 1) (hx : xs.length < 1000000) :
    ∃ t', lcE it g tt te vs L G0 = .ok (.ref G.length) (G ++ .lst false (xs.flatMap f) :: t') := by
  obtain ⟨t', h⟩ := lcL_all hn hs hf xs.length 0 fuelC [] [] (by omega) (Nat.le_refl _) hx (by unfold fuelC; omega)
  refine ⟨t', ?_⟩
  unfold lcE
  rw [hit, Res.bind_ok]
  have h' : lcL src (lcT G.length g tt te (wipeL L vs)) fuelC 0 (G ++ [.lst false []]) = _ := h
  rw [h', Res.bind_ok, List.drop_zero, List.nil_append]
theorem nxt_fix {xs : List Va} {i : Nat} : nxt (.fix xs) i G = some xs[i]? := rfl
theorem nxt_ob {fz : Bool} {xs : List Va} {i : Nat} (h : G[n]? = some (.lst fz xs)) : nxt (.ob n) i (G ++ t) = some xs[i]? := by
  have hl : n < G.length := (List.getElem?_eq_some_iff.mp h).1
  show nxO (G ++ t)[n]? i = _
  rw [at_old hl, h]; rfl
theorem nxt_rng {lo : Int} {k i : Nat} : nxt (.rng lo k) i G = some (((List.range k).map fun (j : Nat) => Va.int (lo + j))[i]?) := by
  show some (if i < k then some (Va.int (lo + i)) else none) = _
  by_cases h : i < k
  · rw [if_pos h, List.getElem?_map, List.getElem?_range h]; rfl
  · rw [if_neg h, List.getElem?_eq_none (by simpa using h)]
theorem all_bls {bs : List Bool} : blsV (bs.map Va.bl) = some bs := by
  induction bs with
  | nil => rfl
  | cons b bs ih =>
    show ((blsV (bs.map Va.bl)).map (b :: ·)) = _
    rw [ih]; rfl
theorem all_op {S : Sx} {bs : List Bool} (h : G[n]? = some (.lst false (bs.map Va.bl))) : (bAll : Bop S (.builtin "all")).op [.ref n] G = some (.bl (bs.all id), G) := by
  show (((lstOf G[n]?).bind blsV).bind fun is => some (Va.bl (is.all id))).map (fun v => (v, G)) = _
  rw [h]
  show ((blsV (bs.map Va.bl)).bind fun is => some (Va.bl (is.all id))).map (fun v => (v, G)) = _
  rw [all_bls]; rfl
end
end VM
namespace LawX
open PySem PySem.Spec PyProof.Rows L2 VM
section
variable (S : Sx)
def q0 : CS S :=
 (sAsg (gNm 1) (cLst (aCons (cVar 0) (aCons (cI 0) aNil))))
def q1 : CS S :=
 (sAsg (gNm 2) (cBin .Add (cI 2) (cCall 13 (aCons (cVar 1) (aCons (cI 30) aNil)))))
def q2 : CS S :=
 (sPar 11 12 (aCons (cCall 13 (aCons (cVar 1) (aCons (cVar 2) aNil))) (aCons (cBin .Add (cI 1) (cCall 13 (aCons (cVar 1) (aCons (cI 6) aNil)))) aNil)))
def q3 : CS S :=
 (sAsg (gNm 3) (cCall 14 (aCons (cVar 11) (aCons (cVar 2) aNil))))
def q4 : CS S :=
 (sAsg (gTp 3 (gsCons (gNm 13) (gsCons (gNm 14) (gsCons (gNm 15) gsNil)))) (cTup (aCons (cBin .Add (cI 1) (cCall 13 (aCons (cVar 1) (aCons (cI 50) aNil)))) (aCons (cCall 13 (aCons (cVar 1) (aCons (cI 30) aNil))) (aCons (cBin .Add (cI 1) (cCall 13 (aCons (cVar 1) (aCons (cI 90) aNil)))) aNil)))))
def q5 : CS S :=
 (sAsg (gNm 4) (cCall 9 (aCons (cNew 0 (aCons (cVar 13) (aCons (cVar 14) (aCons (cVar 15) (aCons (cVar 3) aNil))))) (aCons (cVar 12) aNil))))
def q6 : CS S :=
 (sAsg (gNm 5) (cLst (aCons (cCall 9 (aCons (cNew 0 (aCons (cVar 13) (aCons (cVar 14) (aCons (cBin .Add (cBin .Add (cVar 15) (cI 1)) (cCall 13 (aCons (cVar 1) (aCons (cI 9) aNil)))) (aCons (cVar 3) aNil))))) (aCons (cVar 12) aNil))) (aCons (cCall 9 (aCons (cNew 0 (aCons (cVar 13) (aCons (cVar 14) (aCons (cVar 15) (aCons (cVar 3) aNil))))) (aCons (cBin .Add (cVar 12) (cI 1)) aNil))) aNil))))
def q7 : CS S :=
 (sAugN 5 (cLst (aCons (cCall 9 (aCons (cNew 0 (aCons (cBin .Add (cI 1) (cCall 13 (aCons (cVar 1) (aCons (cVar 13) aNil)))) (aCons (cCall 13 (aCons (cVar 1) (aCons (cBin .Add (cVar 14) (cI 1)) aNil))) (aCons (cVar 15) (aCons (cCall 14 (aCons (cCall 13 (aCons (cVar 1) (aCons (cBin .Add (cVar 11) (cI 1)) aNil))) (aCons (cVar 2) aNil))) aNil))))) (aCons (cVar 12) aNil))) aNil)))
def q8 : CS S :=
 (sIf (cBop true (cVar 4) [(cNot (cBi bAll (aCons (cLc (cItV (cVar 5)) (gNm 18) t0 (cBool (cVar 18)) [("one", 18)]) aNil)))])
 (bCons (sRet (cB false))
  bNil)
 bNil)
def q9 : CS S :=
 (sAsg (gNm 6) (cBin .Add (cI 2) (cCall 13 (aCons (cVar 1) (aCons (cI 900) aNil)))))
def q10 : CS S :=
 (sAsg (gNm 7) (cCall 9 (aCons (cNew 0 (aCons (cBin .Mult (cVar 13) (cVar 6)) (aCons (cBin .Mult (cVar 14) (cVar 6)) (aCons (cBin .Mult (cVar 15) (cVar 6)) (aCons (cVar 3) aNil))))) (aCons (cVar 12) aNil))))
def q11 : CS S :=
 (sIf (cBop false (cCmp .NotEq (cBool (cVar 7)) (cBool (cVar 4))) [(cCmp .NotEq (cBool (cCall 9 (aCons (cNew 0 (aCons (cVar 13) (aCons (cVar 14) (aCons (cBin .Mult (cVar 15) (cVar 12)) (aCons (cVar 3) aNil))))) (aCons (cI 1) aNil)))) (cBool (cVar 4)))])
 (bCons (sRet (cB false))
  bNil)
 bNil)
def q12 : CS S :=
 (sIf (cBop true (cVar 4) [(cCmp .NotEq (cAtt (cVar 7) 8) (cCall 14 (aCons (cBin .Mult (cIdx (cAtt (cVar 4) 8) (cI 0)) (cVar 6)) (aCons (cIdx (cAtt (cVar 4) 8) (cI 1)) aNil))))])
 (bCons (sRet (cB false))
  bNil)
 bNil)
def q13 : CS S :=
 (sIf (cBi bIsi (aCons (cVar 4) (aCons (cCl 2) aNil)))
 (bCons (sAsg (gNm 16) (cNew 0 (aCons (cVar 13) (aCons (cVar 14) (aCons (cVar 15) (aCons (cVar 3) aNil))))))
  (bCons (sIf (cNot (cBi bAll (aCons (cLc (cRng2 (cI 1) (cBin .Add (cVar 12) (cI 1))) (gNm 18) t0 (cMth 3 (cVar 4) (aCons (cVar 16) (aCons (cVar 18) aNil))) [("one", 18)]) aNil)))
 (bCons (sRet (cB false))
  bNil)
 bNil)
  (bCons (sLcS 17 (cItV (cBin .Add (cBt bList (aCons (cAtt (cVar 4) 4) aNil)) (cLst (aCons (cAtt (cVar 4) 5) (aCons (cAtt (cVar 4) 6) (aCons (cAtt (cVar 4) 7) aNil)))))) (gNm 19) t0 (cCall 14 (aCons (cBin .Add (cIdx (cVar 19) (cI 0)) (cBin .Mult (cI 5) (cIdx (cVar 19) (cI 1)))) (aCons (cIdx (cVar 19) (cI 1)) aNil))) [("time", 19)])
  (bCons (sIf (cNot (cMth 3 (cNew 2 (aCons (cSl (cVar 17) none (some (cNeg (cI 3)))) (aCons (cIdx (cVar 17) (cNeg (cI 3))) (aCons (cIdx (cVar 17) (cNeg (cI 2))) (aCons (cIdx (cVar 17) (cNeg (cI 1))) aNil))))) (aCons (cVar 16) (aCons (cVar 12) aNil))))
 (bCons (sRet (cB false))
  bNil)
 bNil)
  bNil))))
 bNil)
def q14 : CS S :=
 (sLcS 8 (cItV (cTup (aCons (cI 1) (aCons (cVar 12) (aCons (cBin .Add (cVar 12) (cI 1)) aNil))))) (gNm 18) t0 (cCall 10 (aCons (cVar 13) (aCons (cVar 14) (aCons (cVar 3) (aCons (cVar 18) aNil))))) [("one", 18)])
def q15 : CS S :=
 (sIf (cBop false (cNot (cChn .GtE .GtE (cIdx (cVar 8) (cI 0)) (cIdx (cVar 8) (cI 1)) (cIdx (cVar 8) (cI 2)))) [(cCmp .NotEq (cCmp .LtE (cIdx (cVar 8) (cI 1)) (cVar 15)) (cBool (cVar 4)))])
 (bCons (sRet (cB false))
  bNil)
 bNil)
def q16 : CS S :=
 (sAsg (gNm 9) (cBi bMin (aCons (cVar 14) (aCons (cVar 15) aNil))))
def q17 : CS S :=
 (sIf (cBop false (cCmp .NotEq (cCall 11 (aCons (cNew 0 (aCons (cBin .Sub (cBin .Mult (cI 20) (cVar 15)) (cVar 9)) (aCons (cVar 9) (aCons (cVar 15) (aCons (cTup (aCons (cI 0) (aCons (cI 1) aNil))) aNil))))) aNil)) (cI 20)) [(cCmp .IsNot (cCall 11 (aCons (cNew 0 (aCons (cBin .Add (cBin .Sub (cBin .Mult (cI 20) (cVar 15)) (cVar 9)) (cI 1)) (aCons (cVar 9) (aCons (cVar 15) (aCons (cTup (aCons (cI 0) (aCons (cI 1) aNil))) aNil))))) aNil)) cN)])
 (bCons (sRet (cB false))
  bNil)
 bNil)
def q18 : CS S :=
 (sIf (cCmp .NotEq (cCall 11 (aCons (cNew 0 (aCons (cBin .Add (cBin .Sub (cBin .Mult (cI 19) (cVar 15)) (cVar 9)) (cI 1)) (aCons (cVar 9) (aCons (cVar 15) (aCons (cTup (aCons (cI 0) (aCons (cI 1) aNil))) aNil))))) aNil)) (cI 20))
 (bCons (sRet (cB false))
  bNil)
 bNil)
def q19 : CS S :=
 (sAsg (gNm 10) (cCall 11 (aCons (cNew 0 (aCons (cVar 13) (aCons (cVar 14) (aCons (cVar 15) (aCons (cVar 3) aNil))))) aNil)))
def q20 : CS S :=
 (sRet (cCmp .Eq (cBop true (cCmp .IsNot (cVar 10) cN) [(cCmp .LtE (cVar 10) (cVar 12))]) (cBool (cVar 4))))
theorem law_body : (f15 S).body = (bCons (q0 S) (bCons (q1 S) (bCons (q2 S) (bCons (q3 S) (bCons (q4 S) (bCons (q5 S) (bCons (q6 S) (bCons (q7 S) (bCons (q8 S) (bCons (q9 S) (bCons (q10 S) (bCons (q11 S) (bCons (q12 S) (bCons (q13 S) (bCons (q14 S) (bCons (q15 S) (bCons (q16 S) (bCons (q17 S) (bCons (q18 S) (bCons (q19 S) (bCons (q20 S) bNil))))))))))))))))))))) := rfl
end
end LawX
namespace LawX
open PySem PySem.Spec L2 VM
/-! ### fractions -/
def na (x y : Int) : Int := x / igcd x y
def da (x y : Int) : Int := y / igcd x y
theorem igcd_eq (x y : Int) : igcd x y = (Int.gcd x y : Int) := rfl
theorem fr_g {x y : Int} (h : 0 < y) : 0 < igcd x y ∧ igcd x y ≤ y := by
  rw [igcd_eq]
  have h1 : 0 < Int.gcd x y := Int.gcd_pos_of_ne_zero_right _ (by omega)
  have h2 : (Int.gcd x y : Int) ∣ y := Int.gcd_dvd_right ..
  exact ⟨by exact_mod_cast h1, Int.le_of_dvd h h2⟩
theorem fr_n (x y : Int) : x = igcd x y * na x y := by
  unfold na; rw [igcd_eq]
  exact (Int.mul_ediv_cancel' (Int.gcd_dvd_left ..)).symm
theorem fr_d (x y : Int) : y = igcd x y * da x y := by
  unfold da; rw [igcd_eq]
  exact (Int.mul_ediv_cancel' (Int.gcd_dvd_right ..)).symm
theorem da_pos {x y : Int} (h : 0 < y) : 0 < da x y := by
  have h1 := (fr_g (x := x) h).1
  have h2 := fr_d x y
  rcases Int.lt_trichotomy (da x y) 0 with z | z | z
  · exfalso; have := Int.mul_neg_of_pos_of_neg h1 z; omega
  · rw [z, Int.mul_zero] at h2; omega
  · exact z
theorem da_le {x y : Int} (h : 0 < y) : da x y ≤ y := by
  have h1 := (fr_g (x := x) h).1
  have h3 := da_pos (x := x) h
  have h2 := fr_d x y
  have : 1 * da x y ≤ igcd x y * da x y := Int.mul_le_mul_of_nonneg_right (by omega) (by omega)
  omega
theorem na_nn {x y : Int} (h : 0 < y) (hx : 0 ≤ x) : 0 ≤ na x y := by
  have h1 := (fr_g (x := x) h).1
  exact Int.ediv_nonneg hx (by omega)
theorem na_le {x y : Int} (h : 0 < y) (hx : 0 ≤ x) : na x y ≤ x := by
  have h1 := (fr_g (x := x) h).1
  have h3 := na_nn h hx
  have h2 := fr_n x y
  have : 1 * na x y ≤ igcd x y * na x y := Int.mul_le_mul_of_nonneg_right (by omega) h3
  omega
theorem na_pos {x y : Int} (h : 0 < y) (hx : 0 < x) : 0 < na x y := by
  have h1 := (fr_g (x := x) h).1
  have h3 := na_nn h (Int.le_of_lt hx)
  have h2 := fr_n x y
  rcases Int.lt_or_eq_of_le h3 with z | z
  · exact z
  · rw [← z, Int.mul_zero] at h2; omega
theorem na_cop {x y : Int} (h : 0 < y) : igcd (na x y) (da x y) = 1 := by
  have h1 := (fr_g (x := x) h).1
  unfold na da
  rw [igcd_eq] at h1 ⊢
  have : Int.gcd (x / (Int.gcd x y : Int)) (y / (Int.gcd x y : Int)) = 1 := Int.gcd_ediv_gcd_ediv_gcd (by exact_mod_cast h1)
  rw [igcd_eq, this]; rfl
theorem cop_dvd {a b c : Int} (h : Int.gcd b a = 1) (d : b ∣ a * c) : b ∣ c := by
  have h' : b.natAbs.Coprime a.natAbs := h
  have d' := Int.natAbs_dvd_natAbs.mpr d
  rw [Int.natAbs_mul] at d'
  exact Int.natAbs_dvd_natAbs.mp (h'.dvd_of_dvd_mul_left d')
/-- the same quotient, the same lowest terms -/
theorem low_eq {x y x' y' : Int} (hy : 0 < y) (hy' : 0 < y') (h : x * y' = x' * y) : na x y = na x' y' ∧ da x y = da x' y' := by
  have g1 := (fr_g (x := x) hy).1
  have g2 := (fr_g (x := x') hy').1
  have d1 := da_pos (x := x) hy
  have d2 := da_pos (x := x') hy'
  have e1 := fr_n x y
  have e2 := fr_d x y
  have e3 := fr_n x' y'
  have e4 := fr_d x' y'
  have c1 := na_cop (x := x) hy
  have c2 := na_cop (x := x') hy'
  generalize na x y = a at *
  generalize da x y = b at *
  generalize na x' y' = a' at *
  generalize da x' y' = b' at *
  generalize igcd x y = g at *
  generalize igcd x' y' = g' at *
  have k : a * b' = a' * b := by
    rw [e1, e2, e3, e4] at h
    have h' : (g * g') * (a * b') = (g * g') * (a' * b) := by
      calc (g * g') * (a * b') = g * a * (g' * b') := by ac_rfl
        _ = g' * a' * (g * b) := h
        _ = (g * g') * (a' * b) := by ac_rfl
    exact Int.eq_of_mul_eq_mul_left (by have := Int.mul_pos g1 g2; omega) h'
  rw [igcd_eq] at c1 c2
  have c1 : Int.gcd a b = 1 := by exact_mod_cast c1
  have c2 : Int.gcd a' b' = 1 := by exact_mod_cast c2
  have t1 : b ∣ b' := by
    have : b ∣ a * b' := ⟨a', by rw [k, Int.mul_comm]⟩
    exact cop_dvd (by rw [Int.gcd_comm]; exact c1) this
  have t2 : b' ∣ b := by
    have : b' ∣ a' * b := ⟨a, by rw [← k, Int.mul_comm]⟩
    exact cop_dvd (by rw [Int.gcd_comm]; exact c2) this
  have eb : b = b' := Int.le_antisymm (Int.le_of_dvd d2 t1) (Int.le_of_dvd d1 t2)
  subst eb
  exact ⟨Int.eq_of_mul_eq_mul_right (by omega) k, rfl⟩
end LawX
namespace LawX
open PySem PySem.Spec L2 VM
/-- what is fixed of the tables -/
structure Tb (S : Sx) : Prop where
  cd : S.cd = cdF
  gl : S.gl = ([("MOST_LAG", Va.int 20), ("FAR", Va.int 1000000)] : List (Str × Va))
  nc : S.nc = 3
  isl : S.isl = [(0, 0), (0, 1), (0, 2), (1, 0), (1, 1), (1, 2), (2, 0), (2, 1), (2, 2)]
  sub : S.sub = fun a b => a == b
theorem sm_1 : sm 1 := by unfold sm; omega
theorem sm_of {x : Int} (h : 0 ≤ x) (h2 : x ≤ 10000000000000) : sm x := by unfold sm; omega
theorem po_of {x : Int} (h : 0 < x) (h2 : x ≤ 10000000000000) : po x := by unfold po; omega
structure TC (l de w al be : Int) : Prop where
  l0 : 0 < l
  l1 : l ≤ 1000000
  d0 : 0 ≤ de
  d1 : de ≤ 1000000
  w0 : 0 < w
  w1 : w ≤ 1000000
  a0 : 0 ≤ al
  ab : al < be
  b1 : be ≤ 1000
  cp : igcd al be = 1
def W0 (w al be : Int) : Int := na (w * be) (be + al)
def W1 (w al be : Int) : Int := da (w * be) (be + al)
def L0 (l al be : Int) : Int := na (l * be) (be - al)
def L1 (l al be : Int) : Int := da (l * be) (be - al)
def R0 (l de al be : Int) : Int := na (de * L1 l al be + L0 l al be) (L1 l al be)
def R1 (l de al be : Int) : Int := da (de * L1 l al be + L0 l al be) (L1 l al be)
section
variable {l de w al be : Int}
theorem mul_bd {a b A B : Int} (h0 : 0 ≤ a) (h1 : a ≤ A) (h2 : 0 ≤ b) (h3 : b ≤ B) : 0 ≤ a * b ∧ a * b ≤ A * B :=
  ⟨Int.mul_nonneg h0 h2, Int.mul_le_mul h1 h3 h2 (by omega)⟩
theorem TC.wb (t : TC l de w al be) : 0 < w * be ∧ w * be ≤ 1000000000 := by
  have := mul_bd (Int.le_of_lt t.w0) t.w1 (by have := t.a0; have := t.ab; omega : 0 ≤ be) t.b1
  exact ⟨Int.mul_pos t.w0 (by have := t.a0; have := t.ab; omega), by omega⟩
theorem TC.lb (t : TC l de w al be) : 0 < l * be ∧ l * be ≤ 1000000000 := by
  have := mul_bd (Int.le_of_lt t.l0) t.l1 (by have := t.a0; have := t.ab; omega : 0 ≤ be) t.b1
  exact ⟨Int.mul_pos t.l0 (by have := t.a0; have := t.ab; omega), by omega⟩
theorem TC.sum (t : TC l de w al be) : 0 < be + al ∧ be + al ≤ 2000 := by have := t.a0; have := t.ab; have := t.b1; omega
theorem TC.dif (t : TC l de w al be) : 0 < be - al ∧ be - al ≤ 1000 := by have := t.a0; have := t.ab; have := t.b1; omega
theorem TC.W0 (t : TC l de w al be) : 0 < W0 w al be ∧ W0 w al be ≤ 1000000000 := by
  have h := na_le t.sum.1 (Int.le_of_lt t.wb.1)
  exact ⟨na_pos t.sum.1 t.wb.1, Int.le_trans h t.wb.2⟩
theorem TC.W1 (t : TC l de w al be) : 0 < W1 w al be ∧ W1 w al be ≤ 2000 := ⟨da_pos t.sum.1, Int.le_trans (da_le t.sum.1) t.sum.2⟩
theorem TC.L0 (t : TC l de w al be) : 0 < L0 l al be ∧ L0 l al be ≤ 1000000000 := ⟨na_pos t.dif.1 t.lb.1, Int.le_trans (na_le t.dif.1 (Int.le_of_lt t.lb.1)) t.lb.2⟩
theorem TC.L1 (t : TC l de w al be) : 0 < L1 l al be ∧ L1 l al be ≤ 1000 := ⟨da_pos t.dif.1, Int.le_trans (da_le t.dif.1) t.dif.2⟩
theorem TC.RN (t : TC l de w al be) : 0 < de * LawX.L1 l al be + LawX.L0 l al be ∧ de * LawX.L1 l al be + LawX.L0 l al be ≤ 2000000000 := by
  have h1 := mul_bd t.d0 t.d1 (Int.le_of_lt t.L1.1) t.L1.2
  have h2 := t.L0
  omega
theorem TC.R0 (t : TC l de w al be) : 0 < R0 l de al be ∧ R0 l de al be ≤ 2000000000 := ⟨na_pos t.L1.1 t.RN.1, Int.le_trans (na_le t.L1.1 (Int.le_of_lt t.RN.1)) t.RN.2⟩
theorem TC.R1 (t : TC l de w al be) : 0 < R1 l de al be ∧ R1 l de al be ≤ 1000 := ⟨da_pos t.L1.1, Int.le_trans (da_le t.L1.1) t.L1.2⟩
theorem po_g {x y : Int} (h : 0 < y) (h2 : y ≤ 10000000000000) : po (igcd x y) := po_of (fr_g h).1 (Int.le_trans (fr_g h).2 h2)
end
section
variable {S : Sx} {d : Nat} {G : Gh}
theorem v_lowest {x y : Int} (h : 0 < y) (h2 : y ≤ 10000000000000) : callF S code (d + 1) 2 [.int x, .int y] G = .ok (.tup [.int (na x y), .int (da x y)]) G := by
  have h := po_g (x := x) h h2
  rw [callF_succ]
  simp [code, f2, startL, h, na, da]
theorem v_plus {a b x y : Int} (h1 : sm y) (h2 : sm b) (h : 0 < b * y) (h3 : b * y ≤ 10000000000000) : callF S code (d + 2) 3 [.tup [.int a, .int b], .tup [.int x, .int y]] G = .ok (.tup [.int (na (a * y + x * b) (b * y)), .int (da (a * y + x * b) (b * y))]) G := by
  rw [callF_succ]
  simp [code, f3, startL, h1, h2, v_lowest, h, h3]
theorem v_less {a b x y : Int} (h1 : sm y) (h2 : sm b) : callF S code (d + 1) 4 [.tup [.int a, .int b], .tup [.int x, .int y]] G = .ok (.bl (decide (a * y < x * b))) G := by
  rw [callF_succ]
  simp [code, f4, startL, h1, h2]
/-- a set of terms as it stands -/
def tmO (l de w al be : Int) : VO := .ins 0 [(11, .int l), (2, .int de), (10, .int w), (9, .tup [.int al, .int be])]
variable {n : Nat} {l de w al be : Int}
theorem v_wait (t : TC l de w al be) (hG : G[n]? = some (tmO l de w al be)) : callF S code (d + 2) 17 [.ref n] G = .ok (.tup [.int (W0 w al be), .int (W1 w al be)]) G := by
  have h1 : sm be := sm_of (by have := t.a0; have := t.ab; omega) (by have := t.b1; omega)
  have h2 := t.sum.1
  have h3 : be + al ≤ 10000000000000 := by have := t.sum.2; omega
  rw [callF_succ]
  simp [code, f17, startL, h1, hG, tmO, v_lowest, h2, h3, List.lookup, W0, W1]
theorem v_long (t : TC l de w al be) (hG : G[n]? = some (tmO l de w al be)) : callF S code (d + 2) 18 [.ref n] G = .ok (.tup [.int (L0 l al be), .int (L1 l al be)]) G := by
  have h1 : sm be := sm_of (by have := t.a0; have := t.ab; omega) (by have := t.b1; omega)
  have h2 := t.dif.1
  have h3 : be - al ≤ 10000000000000 := by have := t.dif.2; omega
  rw [callF_succ]
  have key : callF S code (d + 1) 2 [.int (l * be), .int (be - al)] G = _ := v_lowest h2 h3
  simp [code, f18, startL, h1, hG, tmO, key, List.lookup, L0, L1]
theorem v_reach (T : Tb S) (t : TC l de w al be) (hG : G[n]? = some (tmO l de w al be)) : callF S code (d + 3) 19 [.ref n] G = .ok (.tup [.int (R0 l de al be), .int (R1 l de al be)]) G := by
  have h1 : sm (L1 l al be) := sm_of (Int.le_of_lt t.L1.1) (by have := t.L1.2; omega)
  have h2 := t.L1
  have h3 : L1 l al be ≤ 10000000000000 := by omega
  rw [callF_succ]
  have key := v_plus (S := S) (d := d) (G := G) (a := de) (b := 1) (x := L0 l al be) (y := L1 l al be) h1 sm_1 (by omega) (by omega)
  rw [Int.one_mul, Int.mul_one] at key
  simp [code, f19, startL, hG, tmO, v_long t hG, T.cd, cdF, List.lookup, R0, R1, key]
def M0 (l de w al be lag : Int) : Int := lag * W0 w al be * R1 l de al be - R0 l de al be * W1 w al be
def M1 (l de w al be : Int) : Int := W1 w al be * R1 l de al be
theorem v_margin (T : Tb S) (t : TC l de w al be) (hG : G[n]? = some (tmO l de w al be)) {lag : Int} (hl : sm lag) : callF S code (d + 4) 6 [.ref n, .int lag] G = .ok (.tup [.int (M0 l de w al be lag), .int (M1 l de w al be)]) G := by
  have h1 : sm (R1 l de al be) := sm_of (Int.le_of_lt t.R1.1) (by have := t.R1.2; omega)
  have h2 : sm (W1 w al be) := sm_of (Int.le_of_lt t.W1.1) (by have := t.W1.2; omega)
  rw [callF_succ]
  simp [code, f6, startL, hG, tmO, v_wait t hG, v_reach T t hG, T.cd, cdF, List.lookup, M0, M1, h1, h2, hl]
end
end LawX
namespace LawX
open PySem PySem.Spec L2 VM
theorem ty_ii : tyIs "int" "int" = some true := by decide +kernel
theorem ty_ib : tyIs "int" "bool" = some false := by decide +kernel
theorem ty_tt : tyIs "tuple" "tuple" = some true := by decide +kernel
section
variable {S : Sx} {d n : Nat} {G : Gh}
theorem isi_ii {x : Int} : (bIsi : Bop S (.builtin "isinstance")).op [.int x, .ty "int"] G = some (.bl true, G) := by
  show ((tyIs "int" "int")).map (fun b => (Va.bl b, G)) = _
  rw [ty_ii]; rfl
theorem isi_ib {x : Int} : (bIsi : Bop S (.builtin "isinstance")).op [.int x, .ty "bool"] G = some (.bl false, G) := by
  show ((tyIs "int" "bool")).map (fun b => (Va.bl b, G)) = _
  rw [ty_ib]; rfl
theorem isi_tt {x : List Va} : (bIsi : Bop S (.builtin "isinstance")).op [.tup x, .ty "tuple"] G = some (.bl true, G) := by
  show ((tyIs "tuple" "tuple")).map (fun b => (Va.bl b, G)) = _
  rw [ty_tt]; rfl
theorem eq_int {x y : Int} : cmpF .Eq (.int x) (.int y) G = some (.bl (decide (x = y)), G) := by
  show (eqD G (.int x) (.int y)).map (fun b => (Va.bl b, G)) = _
  simp [eqD, eqSc]
theorem ne_int {x y : Int} : cmpF .NotEq (.int x) (.int y) G = some (.bl (!decide (x = y)), G) := by
  show (eqD G (.int x) (.int y)).map (fun b => (Va.bl (!b), G)) = _
  simp [eqD, eqSc]
theorem v_whole {v a b : Int} (h1 : a ≤ v) (h2 : v ≤ b) : callF S code (d + 1) 0 [.int v, .int a, .int b] G = .ok (.bl true) G := by
  rw [callF_succ]
  simp [code, f0, startL, isi_ii, isi_ib, h1, h2]
theorem glv0 (T : Tb S) : glv S 0 = .int 20 := by unfold glv; rw [T.gl]; rfl
theorem glv1 (T : Tb S) : glv S 1 = .int 1000000 := by unfold glv; rw [T.gl]; rfl
theorem glv_at {f : Nat → List Va → Gh → Res Va} {j : Nat} : glv (S.at f) j = glv S j := rfl
theorem v_lag (T : Tb S) {v : Int} (h1 : 1 ≤ v) (h2 : v ≤ 20) : callF S code (d + 2) 1 [.int v] G = .ok (.int v) G := by
  rw [callF_succ]
  simp [code, f1, startL, v_whole h1 h2, glv_at, glv0 T]
theorem v_frac {a b : Int} (h1 : 0 ≤ a) (h2 : 0 < b) (h3 : igcd a b = 1) : ∃ t, callF S code (d + 1) 5 [.tup [.int a, .int b]] G = .ok (.bl true) (G ++ t) := by
  rw [callF_succ]
  obtain ⟨t, ht⟩ := lcE_all (G := G) (G0 := G) (L := [some (.tup [.int a, .int b]), none]) (vs := [1]) (it := (cItV (cVar 0) : CI (S.dp code d)).ev) (g := (gNm 1 : CG (S.dp code d)).ev) (tt := (t0 : CT (S.dp code d)).ev)
    (te := (cBop true (cBi bIsi (aCons (cVar 1) (aCons (cTy "int") aNil))) [(cNot (cBi bIsi (aCons (cVar 1) (aCons (cTy "bool") aNil))))] : CE (S.dp code d)).ev) (src := .fix [.int a, .int b]) (xs := [.int a, .int b]) (f := fun _ => [.bl true]) (by simp [srcV, srcR]) (fun i o t => nxt_fix)
    (fun v acc t hv ha => by
      obtain ⟨x, rfl⟩ : ∃ x, v = .int x := by
        rcases List.mem_cons.mp hv with rfl | hv
        · exact ⟨_, rfl⟩
        · rcases List.mem_cons.mp hv with rfl | hv
          · exact ⟨_, rfl⟩
          · cases hv
      exact ⟨t, lcT_yes (t1 := t) (t2 := t) (t3 := t) (L2 := [some (.tup [.int a, .int b]), some (.int x)]) (by simp [wipeL]) rfl (by simp [isi_ii, isi_ib]) ha⟩) (fun _ _ => Nat.le_refl _) (by simp)
  refine ⟨.lst false [.bl true, .bl true] :: t, ?_⟩
  have hd : (G ++ VO.lst false [.bl true, .bl true] :: t)[G.length]? = some (.lst false ([true, true].map Va.bl)) := at_d
  have ha := all_op (S := S.dp code d) hd
  have ht' := ht
  simp only [List.flatMap_cons, List.flatMap_nil, List.cons_append, List.nil_append] at ht'
  simp [code, f5, startL, isi_tt, ne_int, ht', ha, h1, h2, h3, eq_int]
/-- Terms(..) -/
theorem v_init (T : Tb S) {l de w al be : Int} (t : TC l de w al be) (hn : G[n]? = some (.ins 0 [])) : ∃ t', callF S code (d + 2) 16 [.ref n, .int l, .int de, .int w, .tup [.int al, .int be]] G = .ok .non ((G ++ t').set n (tmO l de w al be)) := by
  rw [callF_succ]
  obtain ⟨t1, h1⟩ := v_frac (S := S) (d := d) (G := G) t.a0 (by have := t.a0; have := t.ab; omega) t.cp
  have hn' : (G ++ t1)[n]? = some (.ins 0 []) := by rw [at_old (List.getElem?_eq_some_iff.mp hn).1]; exact hn
  refine ⟨t1, ?_⟩
  have l1 := t.l0
  have l2 := t.l1
  have d1 := t.d0
  have d2 := t.d1
  have w1 := t.w0
  have w2 := t.w1
  have b1 := t.ab
  have b2 := t.b1
  have l3 : 1 ≤ l := l1
  have w3 : 1 ≤ w := w1
  have nf : ∀ f ∈ ([11, 2, 10, 9] : List Nat), f ∈ (S.cd 0).flds := by rw [T.cd]; decide
  have n1 := nf 11 (by decide)
  have n2 := nf 2 (by decide)
  have n3 := nf 10 (by decide)
  have n4 := nf 9 (by decide)
  have hlt := (List.getElem?_eq_some_iff.mp hn').1
  obtain ⟨m, hm⟩ : ∃ m, fuelF = m + 5 := ⟨999995, rfl⟩
  generalize G ++ t1 = G1 at *
  have hg : G1[n] = VO.ins 0 [] := by
    have z := hn'
    rw [List.getElem?_eq_getElem hlt] at z
    exact Option.some.inj z
  simp [code, f16, startL, v_whole, glv_at, glv1 T, h1, l3, l2, d1, d2, w3, w2, b1, b2, hm, forL_fix, hg, n1, n2, n3, n4, putN, hlt, tmO]
end
end LawX
namespace LawX
open PySem PySem.Spec L2 VM
/-- a fraction in lowest terms -/
def fr (X Y : Int) : Va := .tup [.int (na X Y), .int (da X Y)]
theorem fr_eq {X Y X' Y' : Int} (h : 0 < Y) (h' : 0 < Y') (e : X * Y' = X' * Y) : fr X Y = fr X' Y' := by
  obtain ⟨h1, h2⟩ := low_eq h h' e
  unfold fr; rw [h1, h2]
/-- the reduced parts in the same proportion -/
theorem red (X Y : Int) : na X Y * Y = X * da X Y := by
  have h1 := fr_n X Y
  have h2 := fr_d X Y
  generalize na X Y = a at *
  generalize da X Y = b at *
  generalize igcd X Y = g at *
  rw [h1, h2]; ac_rfl
theorem cross {X Y X' Y' : Int} (h : 0 < Y) (h' : 0 < Y') : (na X Y * da X' Y' < na X' Y' * da X Y) ↔ X * Y' < X' * Y := by
  have r1 := red X Y
  have r2 := red X' Y'
  have d1 := da_pos (x := X) h
  have d2 := da_pos (x := X') h'
  generalize na X Y = a at *
  generalize da X Y = b at *
  generalize na X' Y' = a' at *
  generalize da X' Y' = b' at *
  -- multiply by Y Y' > 0 on the left, by b b' > 0 on the right
  have p : 0 < Y * Y' := Int.mul_pos h h'
  have q : 0 < b * b' := Int.mul_pos d1 d2
  have e1 : a * b' * (Y * Y') = X * Y' * (b * b') := by
    calc a * b' * (Y * Y') = a * Y * (b' * Y') := by ac_rfl
      _ = X * b * (b' * Y') := by rw [r1]
      _ = X * Y' * (b * b') := by ac_rfl
  have e2 : a' * b * (Y * Y') = X' * Y * (b * b') := by
    calc a' * b * (Y * Y') = a' * Y' * (b * Y) := by ac_rfl
      _ = X' * b' * (b * Y) := by rw [r2]
      _ = X' * Y * (b * b') := by ac_rfl
  constructor
  · intro z
    have := Int.mul_lt_mul_of_pos_right z p
    rw [e1, e2] at this
    exact Int.lt_of_mul_lt_mul_right this (Int.le_of_lt q)
  · intro z
    have := Int.mul_lt_mul_of_pos_right z q
    rw [← e1, ← e2] at this
    exact Int.lt_of_mul_lt_mul_right this (Int.le_of_lt p)
theorem sum_fr {X Y X' Y' : Int} (h : 0 < Y) (h' : 0 < Y') : Va.tup [.int (na (na X Y * da X' Y' + na X' Y' * da X Y) (da X Y * da X' Y')), .int (da (na X Y * da X' Y' + na X' Y' * da X Y) (da X Y * da X' Y'))] = fr (X * Y' + X' * Y) (Y * Y') := by
  have r1 := red X Y
  have r2 := red X' Y'
  have d1 := da_pos (x := X) h
  have d2 := da_pos (x := X') h'
  refine fr_eq (Int.mul_pos d1 d2) (Int.mul_pos h h') ?_
  generalize na X Y = a at *
  generalize da X Y = b at *
  generalize na X' Y' = a' at *
  generalize da X' Y' = b' at *
  calc (a * b' + a' * b) * (Y * Y') = (a * Y) * (b' * Y') + (a' * Y') * (b * Y) := by rw [Int.add_mul]; congr 1 <;> ac_rfl
    _ = (X * b) * (b' * Y') + (X' * b') * (b * Y) := by rw [r1, r2]
    _ = (X * Y' + X' * Y) * (b * b') := by rw [Int.add_mul]; congr 1 <;> ac_rfl
section
variable {S : Sx} {d n : Nat} {G : Gh}
theorem sm_da {X Y : Int} (h : 0 < Y) (h2 : Y ≤ 10000000000000) : sm (da X Y) := sm_of (Int.le_of_lt (da_pos h)) (Int.le_trans (da_le h) h2)
theorem mul_ge {a b : Int} (h : 0 < a) (h' : 0 < b) : a ≤ a * b ∧ b ≤ a * b := by
  have h1 : a * 1 ≤ a * b := Int.mul_le_mul_of_nonneg_left (by omega) (by omega)
  have h2 : 1 * b ≤ a * b := Int.mul_le_mul_of_nonneg_right (by omega) (by omega)
  omega
theorem v_sum {X Y X' Y' : Int} (h : 0 < Y) (h' : 0 < Y') (h2 : Y * Y' ≤ 10000000000000) : callF S code (d + 2) 3 [fr X Y, fr X' Y'] G = .ok (fr (X * Y' + X' * Y) (Y * Y')) G := by
  have d1 := da_pos (x := X) h
  have d2 := da_pos (x := X') h'
  have g := mul_ge h h'
  have b : da X Y * da X' Y' ≤ Y * Y' := Int.mul_le_mul (da_le h) (da_le h') (Int.le_of_lt d2) (Int.le_of_lt h)
  rw [← sum_fr h h']
  exact v_plus (sm_da h' (by omega)) (sm_da h (by omega)) (Int.mul_pos d1 d2) (by omega)
theorem v_lt {X Y X' Y' : Int} (h : 0 < Y) (h2 : Y ≤ 10000000000000) (h' : 0 < Y') (h2' : Y' ≤ 10000000000000) : callF S code (d + 1) 4 [fr X Y, fr X' Y'] G = .ok (.bl (decide (X * Y' < X' * Y))) G := by
  have e := v_less (S := S) (d := d) (G := G) (a := na X Y) (b := da X Y) (x := na X' Y') (y := da X' Y') (sm_da h' h2') (sm_da h h2)
  rw [decide_eq_decide.mpr (cross h h')] at e
  exact e
theorem v_isf {X Y : Int} (h0 : 0 ≤ X) (h : 0 < Y) : ∃ t, callF S code (d + 1) 5 [fr X Y] G = .ok (.bl true) (G ++ t) := v_frac (na_nn h h0) (da_pos h) (na_cop h)
theorem v_low {X Y : Int} (h : 0 < Y) (h2 : Y ≤ 10000000000000) : callF S code (d + 1) 2 [.int X, .int Y] G = .ok (fr X Y) G := v_lowest h h2
theorem fr_one {X : Int} : fr X 1 = .tup [.int X, .int 1] := by
  have h : igcd X 1 = 1 := by rw [igcd_eq, Int.gcd_one]; rfl
  unfold fr na da
  rw [h, Int.ediv_one]; rfl
/-- a new set of terms -/
theorem v_new (T : Tb S) {l de w al be : Int} (t : TC l de w al be) : ∃ t', newV (S.dp code (d + 2)) 0 [.int l, .int de, .int w, .tup [.int al, .int be]] G = .ok (.ref G.length) (G ++ tmO l de w al be :: t') := by
  obtain ⟨t', h⟩ := v_init (S := S) (d := d) (n := G.length) (G := G ++ [.ins 0 []]) T t (by simp)
  refine ⟨t', ?_⟩
  rw [newV_eq (S := S.dp code (d + 2)) (k := 0) (j := 16) (by show (S.cd 0).init = some 16; rw [T.cd]; rfl)]
  rw [call_dp]
  rw [h, Res.bind_ok, newB_non]
  congr 1
  simp
def enO (v : Va) : VO := .ins 1 [(8, v)]
theorem v_enough (T : Tb S) {v : Va} : newV (S.dp code (d + 1)) 1 [v] G = .ok (.ref G.length) (G ++ [enO v]) := by
  rw [newV_eq (S := S.dp code (d + 1)) (k := 1) (j := 20) (by show (S.cd 1).init = some 20; rw [T.cd]; rfl)]
  rw [call_dp]
  rw [callF_succ]
  have n1 : 8 ∈ (S.cd 1).flds := by rw [T.cd]; decide
  simp [code, f20, startL, n1, putN, enO]
def shO (ts : List Va) (m c u : Va) : VO := .ins 2 [(4, .tup ts), (5, m), (6, c), (7, u)]
theorem tup_op {fz : Bool} {xs : List Va} (h : G[n]? = some (.lst fz xs)) : (bTup : Bop S (.type "tuple")).op [.ref n] G = some (.tup xs, G) := by
  show (lstOf G[n]?).map (fun xs => (Va.tup xs, G)) = _
  rw [h]; rfl
theorem v_short (T : Tb S) {ts : List Va} {m c u : Va} {fz : Bool} (hn : G[n]? = some (.lst fz ts)) : newV (S.dp code (d + 1)) 2 [.ref n, m, c, u] G = .ok (.ref G.length) (G ++ [shO ts m c u]) := by
  rw [newV_eq (S := S.dp code (d + 1)) (k := 2) (j := 23) (by show (S.cd 2).init = some 23; rw [T.cd]; rfl)]
  rw [call_dp]
  rw [callF_succ]
  have nf : ∀ f ∈ ([4, 5, 6, 7] : List Nat), f ∈ (S.cd 2).flds := by rw [T.cd]; decide
  have n1 := nf 4 (by decide)
  have n2 := nf 5 (by decide)
  have n3 := nf 6 (by decide)
  have n4 := nf 7 (by decide)
  have hl := (List.getElem?_eq_some_iff.mp hn).1
  have hn' : (G ++ [VO.ins 2 []])[n]? = some (.lst fz ts) := by rw [at_old hl]; exact hn
  have k := tup_op (S := S.dp code d) hn'
  simp [code, f23, startL, n1, n2, n3, n4, putN, shO, k]
end
end LawX
namespace LawX
open PySem PySem.Spec L2 VM
section
variable {l de w al be lag : Int}
def QQ (l de al be : Int) : Int := de * (be - al) + l * be
def NN (l de w al be lag : Int) : Int := lag * (w * be) * (be - al) - QQ l de al be * (be + al)
def DD (al be : Int) : Int := (be + al) * (be - al)
theorem TC.D (t : TC l de w al be) : 0 < DD al be ∧ DD al be ≤ 2000000 := by
  have a := t.sum
  have b := t.dif
  have := mul_bd (Int.le_of_lt a.1) a.2 (Int.le_of_lt b.1) b.2
  exact ⟨Int.mul_pos a.1 b.1, by unfold DD; omega⟩
theorem wait_fr : Va.tup [.int (W0 w al be), .int (W1 w al be)] = fr (w * be) (be + al) := rfl
theorem reach_fr (t : TC l de w al be) : Va.tup [.int (R0 l de al be), .int (R1 l de al be)] = fr (QQ l de al be) (be - al) := by
  refine fr_eq t.L1.1 t.dif.1 ?_
  have r := red (l * be) (be - al)
  unfold QQ
  show (de * L1 l al be + L0 l al be) * (be - al) = (de * (be - al) + l * be) * L1 l al be
  have r : L0 l al be * (be - al) = l * be * L1 l al be := r
  rw [Int.add_mul, r, Int.add_mul]
  congr 1
  ac_rfl
theorem rW (t : TC l de w al be) : W0 w al be * (be + al) = w * be * W1 w al be := red _ _
theorem rR (t : TC l de w al be) : R0 l de al be * (be - al) = QQ l de al be * R1 l de al be := by
  have h := reach_fr t
  unfold fr at h
  injection h with h
  injection h with h1 h
  injection h with h2 h
  injection h1 with h1
  injection h2 with h2
  rw [h1, h2]
  exact red _ _
theorem mar (t : TC l de w al be) : M0 l de w al be lag * DD al be = NN l de w al be lag * M1 l de w al be := by
  have h1 := rW t
  have h2 := rR t
  unfold M0 M1 DD NN
  generalize W0 w al be = a at *
  generalize W1 w al be = b at *
  generalize R0 l de al be = x at *
  generalize R1 l de al be = y at *
  generalize QQ l de al be = q at *
  generalize be + al = A at *
  generalize be - al = B at *
  generalize w * be = p at *
  calc (lag * a * y - x * b) * (A * B) = lag * (a * A) * (y * B) - (x * B) * (b * A) := by rw [Int.sub_mul]; congr 1 <;> ac_rfl
    _ = lag * (p * b) * (y * B) - (q * y) * (b * A) := by rw [h1, h2]
    _ = (lag * p * B - q * A) * (b * y) := by rw [Int.sub_mul]; congr 1 <;> ac_rfl
theorem TC.M1 (t : TC l de w al be) : 0 < LawX.M1 l de w al be ∧ LawX.M1 l de w al be ≤ 2000000 := by
  have a := t.W1
  have b := t.R1
  have := mul_bd (Int.le_of_lt a.1) a.2 (Int.le_of_lt b.1) b.2
  exact ⟨Int.mul_pos a.1 b.1, by unfold LawX.M1; omega⟩
theorem mar_fr (t : TC l de w al be) : fr (M0 l de w al be lag) (M1 l de w al be) = fr (NN l de w al be lag) (DD al be) := fr_eq t.M1.1 t.D.1 (mar t)
theorem mar_nn (t : TC l de w al be) : 0 ≤ M0 l de w al be lag ↔ 0 ≤ NN l de w al be lag := by
  have h := mar (lag := lag) t
  have d := t.D.1
  have m := t.M1.1
  constructor
  · intro z
    have := Int.mul_nonneg z (Int.le_of_lt d)
    rw [h] at this
    exact Int.nonneg_of_mul_nonneg_left this m
  · intro z
    have := Int.mul_nonneg z (Int.le_of_lt m)
    rw [← h] at this
    exact Int.nonneg_of_mul_nonneg_left this d
end
section
variable {S : Sx} {d n : Nat} {G : Gh} {l de w al be lag : Int}
theorem m_app {xs : List Va} {y : Va} (h : G[n]? = some (.lst false xs)) (hl : xs.length < 1000000) : (mApp : Mop S "list" "append" "list.append").op (.ref n) [y] G = some (.non, G.set n (.lst false (xs ++ [y]))) := by
  show appF n y G (mlsO G[n]?) = _
  rw [h]
  show (if xs.length < sizeLine then _ else _) = _
  rw [if_pos (by rw [sizeLine_eq]; omega)]
theorem m_ty {xs : List Va} {fz : Bool} (h : G[n]? = some (.lst fz xs)) : (mApp : Mop S "list" "append" "list.append").ty (.ref n) G = true := by
  show isL G[n]? = true
  rw [h]; rfl
theorem idx_last {xs : List Va} {x : Va} {fz : Bool} (h : G[n]? = some (.lst fz (xs ++ [x]))) : opIdx (.ref n) (.int (-1)) G = some (x, G) := by
  show idxO G G[n]? (.int (-1)) = _
  rw [h]
  show okV G (atI (xs ++ [x]) (-1)) = _
  unfold atI ixN
  rw [if_neg (by decide), if_pos (by simp only [List.length_append, List.length_singleton]; omega)]
  have e : (-1 + ((xs ++ [x]).length : Int)).toNat = xs.length := by simp only [List.length_append, List.length_singleton]; omega
  rw [e]
  simp [okV]
/-- the tellings, as they grow -/
def tl (P A : Int) (k : Nat) : List Va := (List.range (k + 1)).map fun (j : Nat) => fr ((j : Int) * P) A
theorem tl_succ {P A : Int} {k : Nat} : tl P A (k + 1) = tl P A k ++ [fr (((k : Int) + 1) * P) A] := by
  unfold tl
  rw [List.range_succ (n := k + 1), List.map_append]; rfl
theorem tl_len {P A : Int} {k : Nat} : (tl P A k).length = k + 1 := by simp [tl]
theorem tl_last {P A : Int} {k : Nat} : ∃ xs, tl P A k = xs ++ [fr ((k : Int) * P) A] := by
  cases k with
  | zero => exact ⟨[], by simp [tl]⟩
  | succ k => exact ⟨tl P A k, by rw [tl_succ]; rfl⟩
def jbody (S : Sx) : CB S := bCons (sExpr (cBm mApp (cVar 2) (aCons (cCall 3 (aCons (cIdx (cVar 2) (cNeg (cI 1))) (aCons (cVar 9) aNil))) aNil))) bNil
theorem j_loop {P A : Int} {L1 L2 L3 : Option Va} {k : Nat} (hA : 0 < A) (hA2 : A ≤ 1000000) (hk : k < 1000) :
    ∀ (r i m : Nat) (x : Option Va), i + r = k → r < m → ∃ x', forL (.rng 0 k) (gNm 3 : CG (S.dp code (d + 2))).ev (jbody (S.dp code (d + 2))).ev m i [L1, L2, some (.ref G.length), x, none, none, none, none, L3, some (fr P A)] (G ++ [.lst false (tl P A i)]) = .nx [L1, L2, some (.ref G.length), x', none, none, none, none, L3, some (fr P A)] (G ++ [.lst false (tl P A k)])
  | 0, i, m + 1, x, hi, hm => by
    have e : i = k := by omega
    subst e
    refine ⟨x, ?_⟩
    rw [forL_rng, if_neg (by omega), for1_none]
  | r + 1, i, m + 1, x, hi, hm => by
    obtain ⟨x', ih⟩ := j_loop (P := P) (L1 := L1) (L2 := L2) (L3 := L3) hA hA2 hk r (i + 1) m (some (.int (i : Int))) (by omega) (by omega)
    refine ⟨x', ?_⟩
    rw [forL_rng, if_pos (by omega)]
    obtain ⟨xs, hx⟩ := tl_last (P := P) (A := A) (k := i)
    have hd : (G ++ [VO.lst false (tl P A i)])[G.length]? = some (.lst false (tl P A i)) := at_d
    have hd2 : (G ++ [VO.lst false (tl P A i)])[G.length]? = some (.lst false (xs ++ [fr ((i : Int) * P) A])) := by rw [← hx]; exact hd
    have s := v_sum (S := S) (d := d) (G := G ++ [.lst false (tl P A i)]) (X := (i : Int) * P) (Y := A) (X' := P) (Y' := A) hA hA (by have := mul_bd (Int.le_of_lt hA) hA2 (Int.le_of_lt hA) hA2; omega)
    have e : fr ((i : Int) * P * A + P * A) (A * A) = fr (((i : Int) + 1) * P) A := by
      refine fr_eq (Int.mul_pos hA hA) hA ?_
      show ((i : Int) * P * A + P * A) * A = ((i : Int) + 1) * P * (A * A)
      rw [Int.add_mul, Int.add_mul, Int.add_mul, Int.one_mul]
      congr 1 <;> ac_rfl
    rw [e] at s
    have ap := m_app (S := S.dp code (d + 2)) (y := fr (((i : Int) + 1) * P) A) hd (by rw [tl_len]; omega)
    rw [← tl_succ, set_d] at ap
    have ty := m_ty (S := S.dp code (d + 2)) hd
    have ix := idx_last hd2
    simp [jbody, bmR_ok, ty, ix, s, ap]
    exact ih
theorem dif_fr {X Y X' Y' : Int} (h : 0 < Y) (h' : 0 < Y') : fr (na X Y * da X' Y' - na X' Y' * da X Y) (da X Y * da X' Y') = fr (X * Y' - X' * Y) (Y * Y') := by
  have r1 := red X Y
  have r2 := red X' Y'
  have d1 := da_pos (x := X) h
  have d2 := da_pos (x := X') h'
  refine fr_eq (Int.mul_pos d1 d2) (Int.mul_pos h h') ?_
  generalize na X Y = a at *
  generalize da X Y = b at *
  generalize na X' Y' = a' at *
  generalize da X' Y' = b' at *
  calc (a * b' - a' * b) * (Y * Y') = (a * Y) * (b' * Y') - (a' * Y') * (b * Y) := by rw [Int.sub_mul]; congr 1 <;> ac_rfl
    _ = (X * b) * (b' * Y') - (X' * b') * (b * Y) := by rw [r1, r2]
    _ = (X * Y' - X' * Y) * (b * b') := by rw [Int.sub_mul]; congr 1 <;> ac_rfl
theorem v_margin' (T : Tb S) (t : TC l de w al be) (hG : G[n]? = some (tmO l de w al be)) (h1 : 1 ≤ lag) (h2 : lag ≤ 20) : callF S code (d + 4) 6 [.ref n, .int lag] G = .ok (.tup [.int (M0 l de w al be lag), .int (M1 l de w al be)]) G := v_margin T t hG (sm_of (by omega) (by omega))
theorem v_judge1 (T : Tb S) (t : TC l de w al be) (hG : G[n]? = some (tmO l de w al be)) (h1 : 1 ≤ lag) (h2 : lag ≤ 20) (hN : 0 ≤ NN l de w al be lag) :
    callF S code (d + 5) 9 [.ref n, .int lag] G = .ok (.ref G.length) (G ++ [enO (fr (NN l de w al be lag) (DD al be))]) := by
  have hM := (mar_nn (lag := lag) t).mpr hN
  have lo := v_low (S := S) (d := d + 3) (G := G) (X := M0 l de w al be lag) t.M1.1 (by have := t.M1.2; omega)
  rw [mar_fr t] at lo
  have en := v_enough (S := S) (d := d + 3) (G := G) T (v := fr (NN l de w al be lag) (DD al be))
  rw [callF_succ]
  simp [code, f9, startL, v_lag T h1 h2, v_margin' T t hG h1 h2, hG, tmO, T.cd, cdF, List.lookup, v_wait t hG, hM, lo, en]
end
end LawX
namespace LawX
open PySem PySem.Spec L2 VM
/-- the parts of what is told of a wait that is too short -/
structure Sh where
  E0 : Int
  E1 : Int
def shE (l de w al be lag : Int) : Int × Int := if -NN l de w al be lag * (be + al) < (w * be) * (2 * DD al be) then (-NN l de w al be lag, 2 * DD al be) else (w * be, be + al)
def mdX (l de w al be lag : Int) : Int := (w * be) * (shE l de w al be lag).2 - (shE l de w al be lag).1 * (be + al)
def mdY (l de w al be lag : Int) : Int := (be + al) * (shE l de w al be lag).2
def cmX (l de w al be lag : Int) : Int := mdX l de w al be lag + de * mdY l de w al be lag
def usX (l de w al be lag : Int) : Int × Int := if (lag + 1) * (w * be) * mdY l de w al be lag < cmX l de w al be lag * (be + al) then (cmX l de w al be lag, mdY l de w al be lag) else ((lag + 1) * (w * be), be + al)
def kk (lag : Int) : Nat := (lag + 1).toNat
def tls (w al be lag : Int) : List Va := tl (w * be) (be + al) (kk lag)
def shOf (l de w al be lag : Int) : VO := shO (tls w al be lag) (fr (mdX l de w al be lag) (mdY l de w al be lag)) (fr (cmX l de w al be lag) (mdY l de w al be lag)) (fr (usX l de w al be lag).1 (usX l de w al be lag).2)
section
variable {S : Sx} {d n : Nat} {G : Gh} {l de w al be lag : Int}
theorem TC.E (t : TC l de w al be) : 0 < (shE l de w al be lag).2 ∧ (shE l de w al be lag).2 ≤ 4000000 := by
  unfold shE
  have := t.D
  have := t.sum
  split
  · constructor <;> (show _ ; simp only; omega)
  · constructor <;> (show _ ; simp only; omega)
theorem TC.mY (t : TC l de w al be) : 0 < mdY l de w al be lag ∧ mdY l de w al be lag ≤ 8000000000 := by
  have a := t.sum
  have b := t.E (lag := lag)
  have := mul_bd (Int.le_of_lt a.1) a.2 (Int.le_of_lt b.1) b.2
  exact ⟨Int.mul_pos a.1 b.1, by unfold mdY; omega⟩
theorem gap_fr (t : TC l de w al be) : fr (-M0 l de w al be lag) (2 * M1 l de w al be) = fr (-NN l de w al be lag) (2 * DD al be) := by
  have m := t.M1.1
  have dd := t.D.1
  refine fr_eq (by omega) (by omega) ?_
  have h := mar (lag := lag) t
  rw [Int.neg_mul, Int.neg_mul]
  congr 1
  calc M0 l de w al be lag * (2 * DD al be) = 2 * (M0 l de w al be lag * DD al be) := by ac_rfl
    _ = 2 * (NN l de w al be lag * M1 l de w al be) := by rw [h]
    _ = NN l de w al be lag * (2 * M1 l de w al be) := by ac_rfl
theorem fr_0 {X Y : Int} : opIdx (fr X Y) (.int 0) G = some (.int (na X Y), G) := idx_tup0
theorem fr_1 {X Y : Int} : opIdx (fr X Y) (.int 1) G = some (.int (da X Y), G) := idx_tup1
theorem sm_2 : sm 2 := by unfold sm; omega
theorem v_judge2 (T : Tb S) (t : TC l de w al be) (hG : G[n]? = some (tmO l de w al be)) (h1 : 1 ≤ lag) (h2 : lag ≤ 20) (hN : NN l de w al be lag < 0) :
    callF S code (d + 5) 9 [.ref n, .int lag] G = .ok (.ref (G.length + 1)) (G ++ [.lst false (tls w al be lag), shOf l de w al be lag]) := by
  have hM : ¬ 0 ≤ M0 l de w al be lag := fun z => by have := (mar_nn (lag := lag) t).mp z; omega
  have hl : n < G.length := (List.getElem?_eq_some_iff.mp hG).1
  have m1 := t.M1
  have dd := t.D
  have a := t.sum
  -- the tellings
  have tl0 : [Va.tup [.int 0, .int 1]] = tl (w * be) (be + al) 0 := by
    have e : fr (((0 : Nat) : Int) * (w * be)) (be + al) = fr 0 1 := fr_eq a.1 (by decide) (by simp)
    unfold tl
    rw [List.range_succ, List.range_zero, List.nil_append, List.map_cons, List.map_nil, e, fr_one]
  obtain ⟨x', lp⟩ := j_loop (S := S) (d := d + 2) (G := G) (P := w * be) (A := be + al) (L1 := some (.ref n)) (L2 := some (.int lag)) (L3 := some (.tup [.int (M0 l de w al be lag), .int (M1 l de w al be)])) (k := kk lag) a.1 (by omega) (by unfold kk; omega) (kk lag) 0 fuelF none (by omega) (by unfold kk fuelF; omega)
  have hb : big (lag + 1) = true := by unfold big; simp only [Bool.and_eq_true, decide_eq_true_eq]; omega
  have hr : rng1 (.int (lag + 1)) (G ++ [.lst false (tl (w * be) (be + al) 0)]) = .ok (.rng 0 (kk lag)) (G ++ [.lst false (tl (w * be) (be + al) 0)]) := by
    show rngR _ (big (lag + 1)) 0 _ = _
    unfold rngR; rw [if_pos hb]; rfl
  rw [callF_succ]
  simp [code, f9, startL, v_lag T h1 h2, v_margin' T t hG h1 h2, hG, tmO, T.cd, cdF, List.lookup, v_wait t hG, hM]
  rw [tl0, hr, sx_ok, wait_fr]
  change forL _ (gNm 3 : CG (S.dp code (d + 4))).ev (jbody (S.dp code (d + 4))).ev _ _ _ _ = _ at lp
  unfold jbody at lp
  rw [lp]
  have hG1 : (G ++ [VO.lst false (tl (w * be) (be + al) (kk lag))])[n]? = some (tmO l de w al be) := by rw [at_old hl]; exact hG
  have hT : (G ++ [VO.lst false (tl (w * be) (be + al) (kk lag))])[G.length]? = some (.lst false (tl (w * be) (be + al) (kk lag))) := at_d
  have hlen : (G ++ [VO.lst false (tl (w * be) (be + al) (kk lag))]).length = G.length + 1 := by simp
  have hfin : ∀ v, G ++ [VO.lst false (tl (w * be) (be + al) (kk lag))] ++ [v] = G ++ [.lst false (tl (w * be) (be + al) (kk lag)), v] := fun v => by simp
  unfold tls
  generalize G ++ [VO.lst false (tl (w * be) (be + al) (kk lag))] = G1 at *
  obtain ⟨xs, hx⟩ := tl_last (P := w * be) (A := be + al) (k := kk lag)
  have hT2 := hT
  rw [hx] at hT2
  have ek : ((kk lag : Nat) : Int) = lag + 1 := by unfold kk; omega
  rw [ek] at hT2
  have ix := idx_last hT2
  have lo1 := v_low (S := S) (d := d + 3) (G := G1) (X := -M0 l de w al be lag) (Y := 2 * M1 l de w al be) (by omega) (by omega)
  rw [gap_fr t] at lo1
  have lt1 := v_lt (S := S) (d := d + 3) (G := G1) (X := -NN l de w al be lag) (Y := 2 * DD al be) (X' := w * be) (Y' := be + al) (by omega) (by omega) a.1 (by omega)
  have s0 : sm (M1 l de w al be) := sm_of (by omega) (by omega)
  have e := t.E (lag := lag)
  have sE : sm (da (shE l de w al be lag).1 (shE l de w al be lag).2) := sm_da e.1 (by omega)
  have sA : sm (da (w * be) (be + al)) := sm_da a.1 (by omega)
  have key : (if -NN l de w al be lag * (be + al) < w * be * (2 * DD al be) then fr (-NN l de w al be lag) (2 * DD al be) else fr (w * be) (be + al)) = fr (shE l de w al be lag).1 (shE l de w al be lag).2 := by
    unfold shE
    split <;> rfl
  simp [lo1, lt1, sm_2, s0]
  have key2 : (if -NN l de w al be lag * (be + al) < w * be * (2 * DD al be) then Res.ok (fr (-NN l de w al be lag) (2 * DD al be)) G1 else Res.ok (fr (w * be) (be + al)) G1) = Res.ok (fr (shE l de w al be lag).1 (shE l de w al be lag).2) G1 := by
    rw [← key]; split <;> rfl
  rw [key2, sx_ok]
  have y := t.mY (lag := lag)
  have eY := e.1
  have dA := da_pos (x := w * be) a.1
  have dE := da_pos (x := (shE l de w al be lag).1) e.1
  have bd := mul_bd (Int.le_of_lt dA) (Int.le_trans (da_le a.1) a.2) (Int.le_of_lt dE) (Int.le_trans (da_le e.1) e.2)
  have lo2 := v_low (S := S) (d := d + 3) (G := G1) (X := na (w * be) (be + al) * da (shE l de w al be lag).1 (shE l de w al be lag).2 - na (shE l de w al be lag).1 (shE l de w al be lag).2 * da (w * be) (be + al)) (Y := da (w * be) (be + al) * da (shE l de w al be lag).1 (shE l de w al be lag).2) (Int.mul_pos dA dE) (by omega)
  rw [dif_fr a.1 e.1] at lo2
  have lo2 : _ = Res.ok (fr (mdX l de w al be lag) (mdY l de w al be lag)) G1 := lo2
  have sm1 := v_sum (S := S) (d := d + 2) (G := G1) (X := mdX l de w al be lag) (Y := mdY l de w al be lag) (X' := de) (Y' := 1) y.1 (by decide) (by omega)
  rw [Int.mul_one, Int.mul_one, fr_one] at sm1
  have sm1 : _ = Res.ok (fr (cmX l de w al be lag) (mdY l de w al be lag)) G1 := sm1
  have lt2 := v_lt (S := S) (d := d + 3) (G := G1) (X := (lag + 1) * (w * be)) (Y := be + al) (X' := cmX l de w al be lag) (Y' := mdY l de w al be lag) a.1 (by omega) y.1 (by omega)
  have key3 : (if (lag + 1) * (w * be) * mdY l de w al be lag < cmX l de w al be lag * (be + al) then Res.ok (fr (cmX l de w al be lag) (mdY l de w al be lag)) G1 else Res.ok (fr ((lag + 1) * (w * be)) (be + al)) G1) = Res.ok (fr (usX l de w al be lag).1 (usX l de w al be lag).2) G1 := by
    unfold usX; split <;> rfl
  have vs := v_short (S := S) (d := d + 3) (G := G1) T (m := fr (mdX l de w al be lag) (mdY l de w al be lag)) (c := fr (cmX l de w al be lag) (mdY l de w al be lag)) (u := fr (usX l de w al be lag).1 (usX l de w al be lag).2) hT
  simp [fr_0, fr_1, sE, sA, lo2, hG1, tmO, List.lookup, sm1, ix, lt2, key3, vs, hlen]
  exact hfin _
end
end LawX
namespace LawX
open PySem PySem.Spec L2 VM
section
variable {S : Sx} {d n : Nat} {G : Gh} {l de w al be lag : Int}
def ceil (x y : Int) : Int := -(-x / y)
theorem mthO_tm {m : Nat} : mthO S m G (some (tmO l de w al be)) = mthI G ((S.cd 0).mth m) := rfl
theorem v_lwait (T : Tb S) (t : TC l de 1 al be) (h1 : 1 ≤ lag) (h2 : lag ≤ 20) : ∃ t', callF S code (d + 4) 10 [.int l, .int de, .tup [.int al, .int be], .int lag] G = .ok (.int (imax 1 (ceil (R0 l de al be * (be + al)) (R1 l de al be * be * lag)))) (G ++ t') := by
  obtain ⟨t', h⟩ := v_new (S := S) (d := d + 1) (G := G) T t
  refine ⟨tmO l de 1 al be :: t', ?_⟩
  have hG : (G ++ tmO l de 1 al be :: t')[G.length]? = some (tmO l de 1 al be) := at_d
  have vr := v_reach (S := S) (d := d) T t hG
  have r1 := t.R1
  have b0 : 0 < be := by have := t.a0; have := t.ab; omega
  have b1 := t.b1
  have q := mul_bd (Int.le_of_lt r1.1) r1.2 (Int.le_of_lt b0) b1
  have q2 := mul_bd q.1 q.2 (by omega : 0 ≤ lag) h2
  have sb : sm (be + al) := sm_of (by have := t.sum; omega) (by have := t.sum; omega)
  have sbe : sm be := sm_of (by omega) (by omega)
  have sl : sm lag := sm_of (by omega) (by omega)
  have po1 : po (R1 l de al be * be * lag) := po_of (Int.mul_pos (Int.mul_pos r1.1 b0) (by omega)) (by omega)
  rw [callF_succ]
  simp [code, f10, startL, v_lag T h1 h2, h, hG, mthO_tm, T.cd, cdF, List.lookup, vr, sb, sbe, sl, po1, ceil, Int.neg_mul]
def llag (l de w al be : Int) : Int := imax 1 (ceil (R0 l de al be * W1 w al be) (R1 l de al be * W0 w al be))
theorem v_llag (T : Tb S) (t : TC l de w al be) (hG : G[n]? = some (tmO l de w al be)) : callF S code (d + 4) 11 [.ref n] G = .ok (if llag l de w al be ≤ 20 then .int (llag l de w al be) else .non) G := by
  have vr := v_reach (S := S) (d := d) T t hG
  have r1 := t.R1
  have w0 := t.W0
  have w1 := t.W1
  have q := mul_bd (Int.le_of_lt r1.1) r1.2 (Int.le_of_lt w0.1) w0.2
  have s1 : sm (W1 w al be) := sm_of (by omega) (by omega)
  have s2 : sm (R1 l de al be) := sm_of (by omega) (by omega)
  have po1 : po (R1 l de al be * W0 w al be) := po_of (Int.mul_pos r1.1 w0.1) (by omega)
  have e : (if llag l de w al be ≤ 20 then Res.ok (.int (llag l de w al be)) G else Res.ok .non G) = Res.ok (if llag l de w al be ≤ 20 then Va.int (llag l de w al be) else .non) G := by split <;> rfl
  rw [← e]
  rw [callF_succ]
  simp [code, f11, startL, hG, mthO_tm, T.cd, cdF, List.lookup, vr, v_wait t hG, s1, s2, po1, llag, ceil, Int.neg_mul]
  split <;> rename_i hh <;> simp [hh]
end
end LawX
namespace LawX
open PySem PySem.Spec L2 VM
section
variable {S : Sx} {d n : Nat} {G : Gh}
theorem mapO_ints {k : Nat} : ∀ ns : List Int, mapO (toD k G) (ns.map Va.int) = some (ns.map PyData.int)
  | [] => rfl
  | i :: r => by
    have h : toD k G (.int i) = some (.int i) := by cases k <;> rfl
    have ih := mapO_ints (k := k) r
    simp [mapO, h, ih]
theorem shp_ints (ns : List Int) : SeqAt.shaped (.list (ns.map PyData.int)) = true := by
  have h1 : ∀ ns : List Int, PyData.canLayAll0 (ns.map PyData.int) = true := by
    intro ns
    induction ns with
    | nil => simp [PyData.canLayAll0]
    | cons i r ih => simp [PyData.canLayAll0, PyData.canLay0, ih]
  have h2 : ∀ ns : List Int, PyData.depthAll (ns.map PyData.int) ≤ 1 := by
    intro ns
    induction ns with
    | nil => simp [PyData.depthAll]
    | cons i r ih =>
      simp only [List.map_cons, PyData.depthAll, PyData.depth]
      omega
  unfold SeqAt.shaped
  rw [Bool.and_eq_true]
  refine ⟨by simp only [PyData.canLay0]; exact h1 ns, ?_⟩
  have := h2 ns
  exact decide_eq_true (by rw [PyData.depth]; omega)
theorem ne_nil {m : Nat} {fz : Bool} {ns : List Int} (h : G[n]? = some (.lst fz (ns.map Va.int))) (h2 : G[m]? = some (.lst false [])) : cmpF .NotEq (.ref n) (.ref m) G = some (.bl (!ns.isEmpty), G) := by
  have e1 : toD 30 G (.ref n) = some (.list (ns.map PyData.int)) := by
    show ((lstO G[n]?).bind (mapO (toD 29 G))).map PyData.list = _
    rw [h]
    show (mapO (toD 29 G) (ns.map Va.int)).map PyData.list = _
    rw [mapO_ints]; rfl
  have e2 : toD 30 G (.ref m) = some (.list []) := by
    show ((lstO G[m]?).bind (mapO (toD 29 G))).map PyData.list = _
    rw [h2]; rfl
  show ((eqDD (toD 30 G (.ref n)) (toD 30 G (.ref m))).map fun b => (Va.bl (!b), G)) = _
  rw [e1, e2]
  show ((if SeqAt.shaped (.list (ns.map PyData.int)) = true ∧ SeqAt.shaped (.list []) = true then some (PyData.eqv (.list (ns.map PyData.int)) (.list [])) else none).map fun b => (Va.bl (!b), G)) = _
  rw [if_pos ⟨shp_ints ns, shp_ints []⟩]
  cases ns <;> simp [PyData.eqv, PyData.eqvAll]
theorem len_ref {fz : Bool} {xs : List Va} (h : G[n]? = some (.lst fz xs)) : (bLen : Bop S (.builtin "len")).op [.ref n] G = some (.int xs.length, G) := by
  show (lenO G[n]?).map (fun (k : Nat) => (Va.int k, G)) = _
  rw [h]; rfl
theorem pow_18 : binF .Pow (.int 10) (.int 18) G = some (.int 1000000000000000000, G) := by
  show powI 10 18 G = _
  unfold powI
  rw [if_pos (by decide)]; rfl
theorem sm_lit {x : Int} (h : -(2 ^ 64) < x ∧ x < 2 ^ 64) : sm x := h
theorem idx_ints {fz : Bool} {ns : List Int} {i : Int} (h : G[n]? = some (.lst fz (ns.map Va.int))) (h0 : 0 ≤ i) (h1 : i < ns.length) : ∃ c, opIdx (.ref n) (.int i) G = some (.int c, G) := by
  have hi : i.toNat < ns.length := by omega
  refine ⟨ns[i.toNat], ?_⟩
  show idxO G G[n]? (.int i) = _
  rw [h]
  show okV G (atI (ns.map Va.int) i) = _
  unfold atI ixN
  rw [if_pos h0, if_pos (by rw [List.length_map]; exact h1)]
  show okV G ((ns.map Va.int)[i.toNat]?) = _
  rw [List.getElem?_map, List.getElem?_eq_getElem hi]; rfl
theorem n_loop {L0 L1 L4 L5 L6 : Option Va} {k : Nat} : ∀ (r i m : Nat) (x : Option Va) (y : Int), i + r = k → r < m → ∃ x' y', forL (.rng 0 k) (gNm 3 : CG (S.dp code d)).ev (bCons (sAsg (gNm 2) (cBin .FloorDiv (cVar 2) (cI 1009))) bNil : CB (S.dp code d)).ev m i [L0, L1, some (.int y), x, L4, L5, L6] G = .nx [L0, L1, some (.int y'), x', L4, L5, L6] G
  | 0, i, m + 1, x, y, hi, hm => by
    have e : i = k := by omega
    subst e
    exact ⟨x, y, by rw [forL_rng, if_neg (by omega), for1_none]⟩
  | r + 1, i, m + 1, x, y, hi, hm => by
    obtain ⟨x', y', ih⟩ := n_loop (k := k) (L0 := L0) (L1 := L1) (L4 := L4) (L5 := L5) (L6 := L6) r (i + 1) m (some (.int (i : Int))) (y / 1009) (by omega) (by omega)
    refine ⟨x', y', ?_⟩
    rw [forL_rng, if_pos (by omega)]
    have p : po 1009 := by unfold po; omega
    simp [p]
    exact ih
theorem v_number {ns : List Int} {t : Int} (hs : G[0]? = some (.lst true (ns.map Va.int))) (hl : ns.length ≤ 63) (h0 : 0 ≤ t) : ∃ v, 0 ≤ v ∧ callF S code (d + 1) 12 [.ref 0, .int t] G = .ok (.int v) (G ++ [.lst false []]) := by
  have h0l : 0 < G.length := (List.getElem?_eq_some_iff.mp hs).1
  have hs' : (G ++ [VO.lst false []])[0]? = some (.lst true (ns.map Va.int)) := by rw [at_old h0l]; exact hs
  have hd : (G ++ [VO.lst false []])[G.length]? = some (.lst false []) := at_d
  have nn := ne_nil hs' hd
  have ln := len_ref (S := S.dp code d) hs'
  rw [List.length_map] at ln
  obtain ⟨c, u, hu, hc⟩ : ∃ c u : Int, 0 ≤ u ∧ (cIf (cCmp .NotEq (cVar 0) (cLst aNil)) (cTup (aCons (cIdx (cVar 0) (cBin .Mod (cVar 1) (cBi bLen (aCons (cVar 0) aNil)))) (aCons (cBin .FloorDiv (cVar 1) (cBi bLen (aCons (cVar 0) aNil))) aNil))) (cTup (aCons (cI 12345) (aCons (cI 0) aNil))) : CE (S.dp code d)).ev [some (.ref 0), some (.int t), none, none, none, none, none] G = .ok (.tup [.int c, .int u]) (G ++ [.lst false []]) := by
    cases ns with
    | nil => exact ⟨12345, 0, by decide, by simp [nn]⟩
    | cons a r =>
      have lp : (0 : Int) < ((a :: r).length : Int) := by simp only [List.length_cons]; omega
      have pl : po ((a :: r).length : Int) := po_of lp (by omega)
      obtain ⟨c, hc⟩ := idx_ints hs' (Int.emod_nonneg t (by omega)) (Int.emod_lt_of_pos t lp)
      have nn' : cmpF .NotEq (.ref 0) (.ref G.length) (G ++ [.lst false []]) = some (.bl true, G ++ [.lst false []]) := nn
      refine ⟨c, t / ((a :: r).length : Int), Int.ediv_nonneg h0 (by omega), ?_⟩
      generalize ((a :: r).length : Int) = q at *
      simp [nn', ln, lp, pl, hc]
  generalize G ++ [VO.lst false []] = G1 at *
  have hb : big (u % 60) = true := by
    have := Int.emod_nonneg u (by decide : (60 : Int) ≠ 0)
    have := Int.emod_lt_of_pos u (by decide : (0 : Int) < 60)
    unfold big; simp only [Bool.and_eq_true, decide_eq_true_eq]; omega
  have hr : rng1 (.int (u % 60)) G1 = .ok (.rng 0 (u % 60).toNat) G1 := by
    show rngR _ (big (u % 60)) 0 _ = _
    unfold rngR; rw [if_pos hb]
  obtain ⟨y, hy⟩ : ∃ y : Int, (cIf (cCmp .Lt (cVar 6) (cI 60)) (cBin .Sub (cVar 5) (cBin .Pow (cI 10) (cI 18))) (cI 0) : CE (S.dp code d)).ev [some (.ref 0), some (.int t), none, none, none, some (.int c), some (.int u)] G1 = .ok (.int y) G1 := by
    by_cases z : u < 60
    · exact ⟨c - 1000000000000000000, by simp [z, pow_18]⟩
    · exact ⟨0, by simp [z]⟩
  obtain ⟨x', y', lp⟩ := n_loop (S := S) (d := d) (G := G1) (L0 := some (.ref 0)) (L1 := some (.int t)) (L4 := none) (L5 := some (.int c)) (L6 := some (.int u)) (k := (u % 60).toNat) (u % 60).toNat 0 fuelF none y (by omega) (by
    have := Int.emod_lt_of_pos u (by decide : (0 : Int) < 60)
    unfold fuelF; omega)
  rw [callF_succ]
  have s1 : sm 48271 := sm_lit (by decide)
  have s2 : sm 31 := sm_lit (by decide)
  have s3 : sm 977 := sm_lit (by decide)
  have s4 : sm 40503 := sm_lit (by decide)
  have s5 : sm 69621 := sm_lit (by decide)
  have p1 : po 977 := by unfold po; omega
  by_cases hp : 0 < y'
  · refine ⟨y' % 1009, Int.emod_nonneg _ (by decide), ?_⟩
    simp [code, f12, startL, -cIf_ev, hc, hy, hr, lp, hp, int_op]
  · have q : ∀ b : Int, 0 ≤ b % 2147483647 ∧ b % 2147483647 < 2147483647 := fun b => ⟨Int.emod_nonneg b (by decide), Int.emod_lt_of_pos b (by decide)⟩
    have q' : ∀ b : Int, sm (b % 2147483647) := fun b => by have := q b; unfold sm; omega
    refine ⟨_, ?_, by simp [code, f12, startL, -cIf_ev, hc, hy, hr, lp, hp, int_op, s1, s2, s3, s4, s5, p1, ln, q']; exact rfl⟩
    exact Int.emod_nonneg _ (by decide)
end
end LawX
namespace LawX
open PySem PySem.Spec L2 VM
/-- the script and the draws' list -/
def St (G : Gh) (ns : List Int) : Prop := ∃ t : Int, 0 ≤ t ∧ G[0]? = some (.lst true (ns.map Va.int)) ∧ G[1]? = some (.lst false [.ref 0, .int t])
def Ke (G G' : Gh) : Prop := G.length ≤ G'.length ∧ ∀ i, 2 ≤ i → i < G.length → G'[i]? = G[i]?
section
variable {S : Sx} {d n : Nat} {G G' G'' : Gh} {ns : List Int}
theorem Ke.refl : Ke G G := ⟨Nat.le_refl _, fun _ _ _ => rfl⟩
theorem Ke.trans (a : Ke G G') (b : Ke G' G'') : Ke G G'' := ⟨Nat.le_trans a.1 b.1, fun i h1 h2 => (b.2 i h1 (Nat.lt_of_lt_of_le h2 a.1)).trans (a.2 i h1 h2)⟩
theorem Ke.app {t : Gh} : Ke G (G ++ t) := ⟨by simp, fun i _ h => at_old h⟩
theorem Ke.get {o : VO} (k : Ke G G') (h2 : 2 ≤ n) (h : G[n]? = some o) : G'[n]? = some o := (k.2 n h2 (List.getElem?_eq_some_iff.mp h).1).trans h
theorem St.app {t : Gh} (s : St G ns) : St (G ++ t) ns := by
  obtain ⟨x, h0, h1, h2⟩ := s
  exact ⟨x, h0, by rw [at_old (List.getElem?_eq_some_iff.mp h1).1]; exact h1, by rw [at_old (List.getElem?_eq_some_iff.mp h2).1]; exact h2⟩
theorem St.len (s : St G ns) : 2 ≤ G.length := by
  obtain ⟨x, h0, h1, h2⟩ := s
  exact (List.getElem?_eq_some_iff.mp h2).1
theorem get_l2 {x y : Va} {fz : Bool} (h : G[n]? = some (.lst fz [x, y])) : getF (.ref n) (.int 1) G = some (y, G) := by
  show idxO G G[n]? (.int 1) = _
  rw [h]; rfl
theorem st_l2 {x y v : Va} (h : G[n]? = some (.lst false [x, y])) : stV (.int 1) v (.ref n) G = some (G.set n (.lst false [x, v])) := by
  show stO n (.int 1) v G G[n]? = _
  rw [h]; rfl
theorem idx_l20 {x y : Va} {fz : Bool} (h : G[n]? = some (.lst fz [x, y])) : opIdx (.ref n) (.int 0) G = some (x, G) := by
  show idxO G G[n]? (.int 0) = _
  rw [h]; rfl
theorem idx_l21 {x y : Va} {fz : Bool} (h : G[n]? = some (.lst fz [x, y])) : opIdx (.ref n) (.int 1) G = some (y, G) := by
  show idxO G G[n]? (.int 1) = _
  rw [h]; rfl
theorem sAugS_ev {L : Lo} {o i a : CE S} : (sAugS o i a).ev L G = sx (o.ev L G) L fun o G1 => sx (i.ev L G1) L fun k G2 => augB a.ev L o k (getF o k G2) := rfl
theorem augB_some {L : Lo} {o k x : Va} {a : Lo → Gh → Res Va} : augB a L o k (some (x, G)) = sx (a L G) L fun y G1 => augG L o k (ipAdd x y G1) := rfl
theorem augG_some {L : Lo} {o k x : Va} : augG L o k (some (x, G)) = nxS L (stV k x o G) := rfl
theorem ip_int {x y : Int} : ipAdd (.int x) (.int y) G = some (.int (x + y), G) := rfl
theorem v_take (hl : ns.length ≤ 63) (s : St G ns) {many : Int} (hm : 0 < many) : ∃ v G', 0 ≤ v ∧ v < many ∧ callF S code (d + 2) 13 [.ref 1, .int many] G = .ok (.int v) G' ∧ St G' ns ∧ Ke G G' := by
  obtain ⟨t, h0, h1, h2⟩ := s
  have l1 := (List.getElem?_eq_some_iff.mp h1).1
  have l2 := (List.getElem?_eq_some_iff.mp h2).1
  have g1 := get_l2 h2
  have g2 := st_l2 (v := .int (t + 1)) h2
  have e1 : (G.set 1 (.lst false [.ref 0, .int (t + 1)]))[1]? = some (.lst false [.ref 0, .int (t + 1)]) := by rw [List.getElem?_set_self l2]
  have e0 : (G.set 1 (.lst false [.ref 0, .int (t + 1)]))[0]? = some (.lst true (ns.map Va.int)) := by rw [List.getElem?_set_ne (by decide)]; exact h1
  have k : Ke G (G.set 1 (.lst false [.ref 0, .int (t + 1)])) := ⟨by simp, fun i hi _ => by rw [List.getElem?_set_ne (by omega)]⟩
  generalize G.set 1 (.lst false [.ref 0, .int (t + 1)]) = G1 at *
  obtain ⟨v, hv, hc⟩ := v_number (S := S) (d := d) (G := G1) (t := t + 1) e0 hl (by omega)
  have i0 := idx_l20 e1
  have i1 := idx_l21 e1
  refine ⟨v % many, G1 ++ [.lst false []], Int.emod_nonneg _ (by omega), Int.emod_lt_of_pos _ hm, ?_, ?_, k.trans Ke.app⟩
  · rw [callF_succ]
    simp [code, f13, startL, sAugS_ev, g1, augB_some, ip_int, augG_some, g2, i0, i1, int_op, hc, hm]
  · exact St.app ⟨t + 1, by omega, e0, e1⟩
theorem eq_i {x y : Int} : cmpF .Eq (.int x) (.int y) G = some (.bl (decide (x = y)), G) := eq_int
def ebody (S : Sx) : CB S := bCons (sIf (cCmp .Eq (cVar 4) (cI 0)) (bCons sBreak bNil) bNil) (bCons (sPar 3 4 (aCons (cVar 4) (aCons (cBin .Mod (cBt bInt (aCons (cVar 3) aNil)) (cVar 4)) aNil))) bNil)
theorem e_step {L0 L1 x : Option Va} {a b : Int} {i m : Nat} (hi : i < 5000) (hb : 0 < b) : forL (.rng 0 5000) (gNm 2 : CG S).ev (ebody S).ev (m + 1) i [L0, L1, x, some (.int a), some (.int b)] G = forL (.rng 0 5000) (gNm 2 : CG S).ev (ebody S).ev m (i + 1) [L0, L1, some (.int (i : Int)), some (.int b), some (.int (a % b))] G := by
  have nz : ¬ b = 0 := by omega
  rw [forL_rng, if_pos hi]
  simp [ebody, eq_i, nz, int_op, hb]
theorem e_stop {L0 L1 x : Option Va} {a : Int} {i m : Nat} (hi : i < 5000) : forL (.rng 0 5000) (gNm 2 : CG S).ev (ebody S).ev (m + 1) i [L0, L1, x, some (.int a), some (.int 0)] G = .nx [L0, L1, some (.int (i : Int)), some (.int a), some (.int 0)] G := by
  rw [forL_rng, if_pos hi]
  simp [ebody, eq_i]
theorem gcd_step {a b : Int} (ha : 0 ≤ a) (hb : 0 < b) : igcd b (a % b) = igcd a b := by
  rw [igcd_eq, igcd_eq, Int.gcd_comm b (a % b)]
  congr 1
  have : a % b = a - b * (a / b) := by have := Int.emod_add_mul_ediv a b; omega
  rw [this]
  exact Int.gcd_sub_mul_left_left ..
theorem e_loop {L0 L1 : Option Va} : ∀ (k : Nat) (a b : Int) (x : Option Va) (i m : Nat), 0 ≤ a → 0 ≤ b → b < 2 ^ k → i + 2 * k + 1 ≤ 5000 → 2 * k + 1 < m → ∃ x', forL (.rng 0 5000) (gNm 2 : CG S).ev (ebody S).ev m i [L0, L1, x, some (.int a), some (.int b)] G = .nx [L0, L1, x', some (.int (igcd a b)), some (.int 0)] G
  | 0, a, b, x, i, m, ha, hb, h, hi, hm => by
    have e : b = 0 := by simp at h; omega
    subst e
    obtain ⟨m, rfl⟩ : ∃ q, m = q + 1 := ⟨m - 1, by omega⟩
    have : igcd a 0 = a := by rw [igcd_eq, Int.gcd_zero]; omega
    rw [this, e_stop (by omega)]
    exact ⟨_, rfl⟩
  | k + 1, a, b, x, i, m, ha, hb, h, hi, hm => by
    obtain ⟨m, rfl⟩ : ∃ q, m = q + 2 := ⟨m - 2, by omega⟩
    by_cases z : b = 0
    · subst z
      have : igcd a 0 = a := by rw [igcd_eq, Int.gcd_zero]; omega
      rw [this, e_stop (by omega)]
      exact ⟨_, rfl⟩
    · have hb' : 0 < b := by omega
      rw [e_step (by omega) hb', ← gcd_step ha hb']
      have r0 := Int.emod_nonneg a z
      have r1 := Int.emod_lt_of_pos a hb'
      generalize a % b = r at *
      by_cases zr : r = 0
      · subst zr
        have : igcd b 0 = b := by rw [igcd_eq, Int.gcd_zero]; omega
        rw [this, e_stop (by omega)]
        exact ⟨_, rfl⟩
      · have hr : 0 < r := by omega
        rw [e_step (by omega) hr, ← gcd_step hb hr]
        have q0 := Int.emod_nonneg b zr
        have q1 := Int.emod_lt_of_pos b hr
        have q2 : b % r + r ≤ b := by
          have e := Int.emod_add_mul_ediv b r
          have : 1 ≤ b / r := by
            rw [Int.le_ediv_iff_mul_le hr]; omega
          have : r * 1 ≤ r * (b / r) := Int.mul_le_mul_of_nonneg_left this (by omega)
          omega
        have p : (2 : Int) ^ (k + 1) = 2 ^ k * 2 := Int.pow_succ ..
        exact e_loop k r (b % r) _ (i + 1 + 1) m (by omega) q0 (by omega) (by omega) (by omega)
theorem v_llow {X Y : Int} (hY : 0 < Y) (hY2 : Y < 2 ^ 64) (h0 : 0 ≤ X) : callF S code (d + 1) 14 [.int X, .int Y] G = .ok (fr X Y) G := by
  have aX : (if X < 0 then -X else X) = X := if_neg (by omega)
  have aY : (if Y < 0 then -Y else Y) = Y := if_neg (by omega)
  obtain ⟨x', lp⟩ := e_loop (S := S.dp code d) (G := G) (L0 := some (.int X)) (L1 := some (.int Y)) 64 X Y none 0 fuelF h0 (by omega) hY2 (by omega) (by unfold fuelF; omega)
  have hr : rng1 (.int 5000) G = .ok (.rng 0 5000) G := rfl
  have pg : po (igcd X Y) := by
    have := fr_g (x := X) hY
    unfold po; omega
  rw [callF_succ]
  unfold ebody at lp
  simp [code, f14, startL, abs_op, aX, aY, hr, lp, pg, fr, na, da]
end
end LawX
namespace LawX
open PySem PySem.Spec L2 VM
theorem flat_nil {α β : Type} {f : α → List β} : ∀ {l : List α}, (∀ v ∈ l, f v = []) → l.flatMap f = []
  | [], _ => rfl
  | a :: l, h => by
    rw [List.flatMap_cons, h a List.mem_cons_self, flat_nil fun v hv => h v (List.mem_cons_of_mem _ hv)]; rfl
theorem flat_id {α : Type} {f : α → List α} : ∀ {l : List α}, (∀ v ∈ l, f v = [v]) → l.flatMap f = l
  | [], _ => rfl
  | a :: l, h => by
    rw [List.flatMap_cons, h a List.mem_cons_self, flat_id fun v hv => h v (List.mem_cons_of_mem _ hv)]; rfl
theorem flat_true {α : Type} : ∀ (l : List α), l.flatMap (fun _ => [Va.bl true]) = (List.replicate l.length true).map Va.bl
  | [] => rfl
  | a :: l => by
    rw [List.flatMap_cons, flat_true l]; rfl
theorem rep_true (k : Nat) : (List.replicate k true).all id = true := by
  induction k with
  | zero => rfl
  | succ k ih => rw [List.replicate_succ, List.all_cons, ih]; rfl
/-- tellings from c on -/
def tlc (c P A : Int) (k : Nat) : List Va := (List.range (k + 1)).map fun (j : Nat) => fr ((j : Int) * P + c * A) A
theorem tlc_len {c P A : Int} {k : Nat} : (tlc c P A k).length = k + 1 := by simp [tlc]
theorem tlc_get {c P A : Int} {k j : Nat} (h : j ≤ k) : (tlc c P A k)[j]? = some (fr ((j : Int) * P + c * A) A) := by
  unfold tlc
  rw [List.getElem?_map, List.getElem?_range (by omega)]; rfl
theorem tlc_mem {c P A : Int} {k : Nat} {v : Va} (h : v ∈ tlc c P A k) : ∃ j : Nat, j ≤ k ∧ v = fr ((j : Int) * P + c * A) A := by
  unfold tlc at h
  obtain ⟨j, h1, h2⟩ := List.mem_map.mp h
  exact ⟨j, by have := List.mem_range.mp h1; omega, h2.symm⟩
theorem tl_tlc {P A : Int} {k : Nat} : tl P A k = tlc 0 P A k := by
  unfold tl tlc
  congr 1
  funext j
  rw [Int.zero_mul, Int.add_zero]
section
variable {S : Sx} {d n : Nat} {G : Gh} {c P A : Int} {k : Nat}
theorem idx_tupN {xs : List Va} {i : Int} {x : Va} (h0 : 0 ≤ i) (h1 : i < xs.length) (h : xs[i.toNat]? = some x) : opIdx (.tup xs) (.int i) G = some (x, G) := by
  show okV G (atI xs i) = _
  unfold atI ixN
  rw [if_pos h0, if_pos h1]
  show okV G (xs[i.toNat]?) = _
  rw [h]; rfl
/-- newest(tells, time), by the answers -/
theorem v_newest {TX TY : Int} (hT : 0 < TY) (hT2 : TY ≤ 10000000000000) (hA : 0 < A) (hA2 : A ≤ 10000000000000) (f : Va → List Va) (hf : ∀ j : Nat, j ≤ k → f (fr ((j : Int) * P + c * A) A) = if TX * A < ((j : Int) * P + c * A) * TY then [] else [fr ((j : Int) * P + c * A) A]) (hk : k < 1000) :
    ∃ t, callF S code (d + 2) 8 [.tup (tlc c P A k), fr TX TY] G = .ok (.int ((((tlc c P A k).flatMap f).length : Int) - 1)) (G ++ t) := by
  obtain ⟨t, ht⟩ := lcE_all (G := G) (G0 := G) (L := [some (.tup (tlc c P A k)), some (fr TX TY), none]) (vs := [2]) (it := (cItV (cVar 0) : CI (S.dp code (d + 1))).ev) (g := (gNm 2 : CG (S.dp code (d + 1))).ev) (tt := (t1 (cNot (cCall 4 (aCons (cVar 1) (aCons (cVar 2) aNil)))) : CT (S.dp code (d + 1))).ev)
    (te := (cVar 2 : CE (S.dp code (d + 1))).ev) (src := .fix (tlc c P A k)) (xs := tlc c P A k) (f := f) (by simp [srcV, srcR]) (fun i o t => nxt_fix)
    (fun v acc t hv ha => by
      obtain ⟨j, hj, rfl⟩ := tlc_mem hv
      have e := v_lt (S := S) (d := d) (G := G ++ .lst false acc :: t) (X := TX) (Y := TY) (X' := (j : Int) * P + c * A) (Y' := A) hT hT2 hA hA2
      have t1e : ∀ L G, (t1 (cNot (cCall 4 (aCons (cVar 1) (aCons (cVar 2) aNil)))) : CT (S.dp code (d + 1))).ev L G = (cNot (cCall 4 (aCons (cVar 1) (aCons (cVar 2) aNil))) : CE (S.dp code (d + 1))).tv L G := fun _ _ => rfl
      rw [hf j hj]
      by_cases z : TX * A < ((j : Int) * P + c * A) * TY
      · rw [if_pos z, List.append_nil]
        rw [decide_eq_true z] at e
        exact ⟨t, lcT_no (t1 := t) (t2 := t) (L2 := [some (.tup (tlc c P A k)), some (fr TX TY), some (fr ((j : Int) * P + c * A) A)]) (by simp [wipeL]) (by rw [t1e]; simp [e])⟩
      · rw [if_neg z]
        rw [decide_eq_false z] at e
        exact ⟨t, lcT_yes (t1 := t) (t2 := t) (t3 := t) (L2 := [some (.tup (tlc c P A k)), some (fr TX TY), some (fr ((j : Int) * P + c * A) A)]) (by simp [wipeL]) (by rw [t1e]; simp [e]) (by simp) ha⟩)
    (fun v hv => by
      obtain ⟨j, hj, rfl⟩ := tlc_mem hv
      rw [hf j hj]; split <;> simp) (by rw [tlc_len]; omega)
  refine ⟨.lst false ((tlc c P A k).flatMap f) :: t, ?_⟩
  · rw [callF_succ]
    have ln := len_ref (S := S.dp code (d + 1)) (at_d (G := G) (t := t) (o := .lst false ((tlc c P A k).flatMap f)))
    simp [code, f8, startL, ht, ln]
theorem v_spaced {W0' A' : Int} (hA : 0 < A) (hA2 : A ≤ 1000000) (hk : k < 1000) : ∃ t, callF S code (d + 3) 7 [.tup (tlc c P A k), fr P A] G = .ok (.bl true) (G ++ t) := by
  have q : A * A ≤ 1000000000000 := by have := mul_bd (Int.le_of_lt hA) hA2 (Int.le_of_lt hA) hA2; omega
  have hb : big ((((tlc c P A k).length : Nat) : Int) - 1) = true := by rw [tlc_len]; unfold big; simp only [Bool.and_eq_true, decide_eq_true_eq]; omega
  have hr : ∀ G : Gh, rng1 (.int ((((tlc c P A k).length : Nat) : Int) - 1)) G = .ok (.rng 0 k) G := fun G => by
    show rngR _ (big _) 0 _ = _
    unfold rngR; rw [if_pos hb, tlc_len]
    congr 1
    congr 1
    omega
  obtain ⟨t, ht⟩ := lcE_all (G := G) (G0 := G) (L := [some (.tup (tlc c P A k)), some (fr P A), none]) (vs := [2]) (it := (cRng1 (cBin .Sub (cBi bLen (aCons (cVar 0) aNil)) (cI 1)) : CI (S.dp code (d + 2))).ev) (g := (gNm 2 : CG (S.dp code (d + 2))).ev) (tt := (t0 : CT (S.dp code (d + 2))).ev)
    (te := (cNot (cCall 4 (aCons (cIdx (cVar 0) (cBin .Add (cVar 2) (cI 1))) (aCons (cCall 3 (aCons (cIdx (cVar 0) (cVar 2)) (aCons (cVar 1) aNil))) aNil))) : CE (S.dp code (d + 2))).ev) (src := .rng 0 k) (xs := (List.range k).map fun (j : Nat) => Va.int (0 + j)) (f := fun _ => [.bl true]) (by simp [hr]) (fun i o t => nxt_rng)
    (fun v acc t hv ha => by
      obtain ⟨j, h1, rfl⟩ := List.mem_map.mp hv
      have hj := List.mem_range.mp h1
      have i1 : opIdx (.tup (tlc c P A k)) (.int ((0 : Int) + j)) (G ++ .lst false acc :: t) = some (fr ((j : Int) * P + c * A) A, G ++ .lst false acc :: t) := idx_tupN (by omega) (by rw [tlc_len]; omega) (by
        have e : ((0 : Int) + j).toNat = j := by omega
        rw [e]; exact tlc_get (by omega))
      have i2 : opIdx (.tup (tlc c P A k)) (.int ((0 : Int) + j + 1)) (G ++ .lst false acc :: t) = some (fr (((j + 1 : Nat) : Int) * P + c * A) A, G ++ .lst false acc :: t) := idx_tupN (by omega) (by rw [tlc_len]; omega) (by
        have e : ((0 : Int) + j + 1).toNat = j + 1 := by omega
        rw [e]; exact tlc_get (by omega))
      have s := v_sum (S := S) (d := d) (G := G ++ .lst false acc :: t) (X := (j : Int) * P + c * A) (Y := A) (X' := P) (Y' := A) hA hA (by omega)
      have e := v_lt (S := S) (d := d + 1) (G := G ++ .lst false acc :: t) (X := ((j + 1 : Nat) : Int) * P + c * A) (Y := A) (X' := ((j : Int) * P + c * A) * A + P * A) (Y' := A * A) hA (by omega) (Int.mul_pos hA hA) (by omega)
      have z : ¬ (((j + 1 : Nat) : Int) * P + c * A) * (A * A) < (((j : Int) * P + c * A) * A + P * A) * A := by
        have : (((j + 1 : Nat) : Int) * P + c * A) * (A * A) = (((j : Int) * P + c * A) * A + P * A) * A := by
          rw [Int.natCast_add]
          show (((j : Int) + 1) * P + c * A) * (A * A) = _
          rw [Int.add_mul (j : Int) 1 P, Int.one_mul, ← Int.mul_assoc]
          congr 1
          rw [Int.add_mul, Int.add_mul, Int.add_mul]
          omega
        omega
      rw [decide_eq_false z] at e
      have cj : ((j + 1 : Nat) : Int) = (j : Int) + 1 := by omega
      rw [Int.zero_add] at i1 i2
      rw [cj] at i2 e
      exact ⟨t, lcT_yes (t1 := t) (t2 := t) (t3 := t) (L2 := [some (.tup (tlc c P A k)), some (fr P A), some (.int (0 + (j : Int)))]) (by simp [wipeL]) rfl (by simp [i1, i2, s, e]) ha⟩)
    (fun _ _ => Nat.le_refl _) (by simp; omega)
  rw [flat_true] at ht
  refine ⟨.lst false ((List.replicate ((List.range k).map fun (j : Nat) => Va.int (0 + j)).length true).map Va.bl) :: t, ?_⟩
  ·
    have ha := all_op (S := S.dp code (d + 2)) (at_d (G := G) (t := t) (o := .lst false ((List.replicate ((List.range k).map fun (j : Nat) => Va.int (0 + j)).length true).map Va.bl)))
    rw [rep_true] at ha
    generalize VO.lst false ((List.replicate ((List.range k).map fun (j : Nat) => Va.int (0 + j)).length true).map Va.bl) = O at *
    rw [callF_succ]
    simp [code, f7, startL, ht, ha]
end
end LawX
namespace LawX
open PySem PySem.Spec L2 VM
section
variable {S : Sx} {d n m : Nat} {G : Gh} {c P A : Int} {k : Nat} {l de w al be lag : Int}
theorem mapO_frs {q : Nat} {g : Nat → Int} : ∀ js : List Nat, mapO (toD (q + 1) G) (js.map fun j => fr (g j) A) = some (js.map fun j => PyData.tuple [.int (na (g j) A), .int (da (g j) A)])
  | [] => rfl
  | j :: r => by
    have h : toD (q + 1) G (fr (g j) A) = some (.tuple [.int (na (g j) A), .int (da (g j) A)]) := by
      show (mapO (toD q G) [.int (na (g j) A), .int (da (g j) A)]).map PyData.tuple = _
      have := mapO_ints (G := G) (k := q) [na (g j) A, da (g j) A]
      rw [show [Va.int (na (g j) A), Va.int (da (g j) A)] = [na (g j) A, da (g j) A].map Va.int from rfl, this]; rfl
    have ih := mapO_frs (q := q) (g := g) r
    simp [mapO, h, ih]
theorem shp_frs {g : Nat → Int} (js : List Nat) : SeqAt.shaped (.tuple (js.map fun j => PyData.tuple [.int (na (g j) A), .int (da (g j) A)])) = true := by
  have h1 : ∀ js : List Nat, PyData.canLayAll0 (js.map fun j => PyData.tuple [.int (na (g j) A), .int (da (g j) A)]) = true := by
    intro js
    induction js with
    | nil => simp [PyData.canLayAll0]
    | cons i r ih => simp [PyData.canLayAll0, PyData.canLay0, ih]
  have h2 : ∀ js : List Nat, PyData.depthAll (js.map fun j => PyData.tuple [.int (na (g j) A), .int (da (g j) A)]) ≤ 2 := by
    intro js
    induction js with
    | nil => simp [PyData.depthAll]
    | cons i r ih =>
      simp only [List.map_cons, PyData.depthAll, PyData.depth]
      omega
  unfold SeqAt.shaped
  rw [Bool.and_eq_true]
  refine ⟨by simp only [PyData.canLay0]; exact h1 js, ?_⟩
  have := h2 js
  exact decide_eq_true (by rw [PyData.depth]; omega)
theorem eq_tup_nil : cmpF .Eq (.tup (tlc c P A k)) (.tup []) G = some (.bl false, G) := by
  have e1 : toD 30 G (.tup (tlc c P A k)) = some (.tuple ((List.range (k + 1)).map fun (j : Nat) => PyData.tuple [.int (na ((j : Int) * P + c * A) A), .int (da ((j : Int) * P + c * A) A)])) := by
    show (mapO (toD 29 G) (tlc c P A k)).map PyData.tuple = _
    unfold tlc
    rw [mapO_frs (q := 28) (g := fun (j : Nat) => (j : Int) * P + c * A)]; rfl
  have e2 : toD 30 G (.tup []) = some (.tuple []) := rfl
  show ((eqDD (toD 30 G (.tup (tlc c P A k))) (toD 30 G (.tup []))).map fun b => (Va.bl b, G)) = _
  rw [e1, e2]
  show ((if SeqAt.shaped _ = true ∧ SeqAt.shaped (.tuple []) = true then some (PyData.eqv _ (.tuple [])) else none).map fun b => (Va.bl b, G)) = _
  rw [if_pos ⟨shp_frs (g := fun (j : Nat) => (j : Int) * P + c * A) (List.range (k + 1)), by decide +kernel⟩, List.range_succ_eq_map, List.map_cons]
  simp [PyData.eqv, PyData.eqvAll]
structure ShOk (l de w al be c : Int) (k : Nat) (X1 Y1 X2 Y2 X3 Y3 : Int) : Prop where
  x1 : 0 ≤ X1
  y1 : 0 < Y1 ∧ Y1 ≤ 8000000000
  x2 : 0 ≤ X2
  y2 : 0 < Y2 ∧ Y2 ≤ 8000000000
  x3 : 0 ≤ X3
  y3 : 0 < Y3 ∧ Y3 ≤ 8000000000
  c0 : 0 ≤ c
  q1 : ¬ X1 * (be + al) < (c * (be + al)) * Y1
  q2 : ¬ X2 * Y1 < X1 * Y2
  q3 : ¬ X3 * Y2 < X2 * Y3
  q4 : ¬ (X1 + de * Y1) * Y2 < X2 * Y1
  q5 : X3 * (Y2 * (be - al)) < (X2 * (be - al) + (l * be) * Y2) * Y3
  q6 : ∀ j : Nat, j ≤ k → ¬ X3 * (be + al) < ((j : Int) * (w * be) + c * (be + al)) * Y3
  q7 : ∀ j : Nat, 1 ≤ j → j ≤ k → X1 * (be + al) < ((j : Int) * (w * be) + c * (be + al)) * Y1
  hk : k < 1000
theorem v_allf (xs : List Va) (hx : ∀ v ∈ xs, ∃ X Y, 0 ≤ X ∧ 0 < Y ∧ v = fr X Y) (hl : xs.length < 1000000) {L0 L1 L2 : Option Va} {a : CE (S.dp code (d + 1))} (ha : (a.ev [L0, L1, L2, none] G) = .ok (.tup xs) G) :
    ∃ t, lcE (cItV a : CI (S.dp code (d + 1))).ev (gNm 3 : CG (S.dp code (d + 1))).ev (t0 : CT (S.dp code (d + 1))).ev (cCall 5 (aCons (cVar 3) aNil) : CE (S.dp code (d + 1))).ev [3] [L0, L1, L2, none] G = .ok (.ref G.length) (G ++ .lst false ((List.replicate xs.length true).map Va.bl) :: t) := by
  obtain ⟨t, ht⟩ := lcE_all (G := G) (G0 := G) (L := [L0, L1, L2, none]) (vs := [3]) (it := (cItV a : CI (S.dp code (d + 1))).ev) (g := (gNm 3 : CG (S.dp code (d + 1))).ev) (tt := (t0 : CT (S.dp code (d + 1))).ev)
    (te := (cCall 5 (aCons (cVar 3) aNil) : CE (S.dp code (d + 1))).ev) (src := .fix xs) (xs := xs) (f := fun _ => [.bl true]) (by simp [ha]) (fun i o t => nxt_fix)
    (fun v acc t hv hacc => by
      obtain ⟨X, Y, h0, h1, rfl⟩ := hx v hv
      obtain ⟨t', e⟩ := v_isf (S := S) (d := d) (G := G ++ .lst false acc :: t) h0 h1
      have e' : callF S code (d + 1) 5 [fr X Y] (G ++ .lst false acc :: t) = .ok (.bl true) (G ++ .lst false acc :: (t ++ t')) := by rw [e]; simp
      exact ⟨t ++ t', lcT_yes (t1 := t) (t2 := t) (t3 := t ++ t') (L2 := [L0, L1, L2, some (fr X Y)]) (by simp [wipeL]) rfl (by simp [e']) hacc⟩)
    (fun _ _ => Nat.le_refl _) hl
  rw [flat_true] at ht
  exact ⟨t, ht⟩
theorem tlc_cons : tlc c P A k = fr (c * A) A :: (tlc c P A k).tail := by
  unfold tlc
  rw [List.range_succ_eq_map, List.map_cons, List.tail_cons]
  congr 2
  simp
theorem tlc_tail {v : Va} (h : v ∈ (tlc c P A k).tail) : ∃ j : Nat, 1 ≤ j ∧ j ≤ k ∧ v = fr ((j : Int) * P + c * A) A := by
  unfold tlc at h
  rw [List.range_succ_eq_map, List.map_cons, List.tail_cons, List.map_map] at h
  obtain ⟨j, h1, h2⟩ := List.mem_map.mp h
  have := List.mem_range.mp h1
  exact ⟨j + 1, by omega, by omega, h2.symm⟩
theorem attO_tm2 : attO S 2 G (some (tmO l de w al be)) = .ok (.int de) G := rfl
def fnew (X Y : Int) : Va → List Va
  | .tup [.int x, .int y] => if na X Y * y < x * da X Y then [] else [.tup [.int x, .int y]]
  | _ => []
theorem fnew_fr {X Y X' Y' : Int} (h : 0 < Y) (h' : 0 < Y') : fnew X Y (fr X' Y') = if X * Y' < X' * Y then [] else [fr X' Y'] := by
  show (if na X Y * da X' Y' < na X' Y' * da X Y then [] else [fr X' Y']) = _
  by_cases z : X * Y' < X' * Y
  · rw [if_pos z, if_pos ((cross h h').mpr z)]
  · rw [if_neg z, if_neg fun w => z ((cross h h').mp w)]
theorem v_shows (T : Tb S) (t : TC l de w al be) (hG : G[n]? = some (tmO l de w al be)) {X1 Y1 X2 Y2 X3 Y3 : Int} (q : ShOk l de w al be c k X1 Y1 X2 Y2 X3 Y3) (hM : G[m]? = some (shO (tlc c (w * be) (be + al) k) (fr X1 Y1) (fr X2 Y2) (fr X3 Y3))) (h1 : 1 ≤ lag) (h2 : lag ≤ 20) (hk : lag < k) :
    ∃ t, callF S code (d + 4) 25 [.ref m, .ref n, .int lag] G = .ok (.bl true) (G ++ t) := by
  have a := t.sum
  have b := t.dif
  have wb := t.wb
  have hln : n < G.length := (List.getElem?_eq_some_iff.mp hG).1
  have hlm : m < G.length := (List.getElem?_eq_some_iff.mp hM).1
  -- all are fractions
  have all0 : ∀ v ∈ tlc c (w * be) (be + al) k ++ [fr X1 Y1, fr X2 Y2, fr X3 Y3], ∃ X Y, 0 ≤ X ∧ 0 < Y ∧ v = fr X Y := fun v hv => by
    rcases List.mem_append.mp hv with hv | hv
    · obtain ⟨j, _, rfl⟩ := tlc_mem hv
      refine ⟨_, _, ?_, a.1, rfl⟩
      have h3 : 0 ≤ (j : Int) * (w * be) := Int.mul_nonneg (by omega) (by omega)
      have h4 : 0 ≤ c * (be + al) := Int.mul_nonneg q.c0 (by omega)
      omega
    · simp only [List.mem_cons, List.not_mem_nil, or_false] at hv
      rcases hv with rfl | rfl | rfl
      · exact ⟨_, _, q.x1, q.y1.1, rfl⟩
      · exact ⟨_, _, q.x2, q.y2.1, rfl⟩
      · exact ⟨_, _, q.x3, q.y3.1, rfl⟩
  have len0 : (tlc c (w * be) (be + al) k ++ [fr X1 Y1, fr X2 Y2, fr X3 Y3]).length = k + 4 := by simp [tlc_len]
  obtain ⟨t1, e1⟩ := v_allf (S := S) (d := d + 2) (G := G) _ all0 (by rw [len0]; have := q.hk; omega) (L0 := some (.ref m)) (L1 := some (.ref n)) (L2 := some (.int lag)) (a := cTup (aStar (cAtt (cVar 0) 4) (aCons (cAtt (cVar 0) 5) (aCons (cAtt (cVar 0) 6) (aCons (cAtt (cVar 0) 7) aNil))))) (by
    have := q.hk
    simp [hM, shO, List.lookup, seqO, seqR, tlc_len]
    rw [tupR_ok (by rw [len0]; omega)])
  have o1 := all_op (S := S.dp code (d + 3)) (at_d (G := G) (t := t1) (o := .lst false ((List.replicate (tlc c (w * be) (be + al) k ++ [fr X1 Y1, fr X2 Y2, fr X3 Y3]).length true).map Va.bl)))
  rw [rep_true] at o1
  generalize VO.lst false ((List.replicate (tlc c (w * be) (be + al) k ++ [fr X1 Y1, fr X2 Y2, fr X3 Y3]).length true).map Va.bl) = O at *
  have hG1 : (G ++ O :: t1)[n]? = some (tmO l de w al be) := by rw [at_old hln]; exact hG
  have hM1 : (G ++ O :: t1)[m]? = some (shO (tlc c (w * be) (be + al) k) (fr X1 Y1) (fr X2 Y2) (fr X3 Y3)) := by rw [at_old hlm]; exact hM
  obtain ⟨t2, e2⟩ := v_spaced (S := S) (d := d) (G := G ++ O :: t1) (W0' := 0) (A' := 0) (P := w * be) (A := be + al) (c := c) (k := k) a.1 (by omega) q.hk
  have hG2 : (G ++ O :: t1 ++ t2)[n]? = some (tmO l de w al be) := by rw [at_old (List.getElem?_eq_some_iff.mp hG1).1]; exact hG1
  have hM2 : (G ++ O :: t1 ++ t2)[m]? = some (shO (tlc c (w * be) (be + al) k) (fr X1 Y1) (fr X2 Y2) (fr X3 Y3)) := by rw [at_old (List.getElem?_eq_some_iff.mp hM1).1]; exact hM1
  have eqn := eq_tup_nil (c := c) (P := w * be) (A := be + al) (k := k) (G := G ++ O :: t1)
  have ew := v_wait (S := S) (d := d + 1) t hG1
  rw [wait_fr] at ew
  generalize hg : G ++ O :: t1 = G1 at *
  -- the four comparisons
  generalize hg2 : G1 ++ t2 = G2 at *
  have l0 := tlc_cons (c := c) (P := w * be) (A := be + al) (k := k)
  have i0 : opIdx (.tup (tlc c (w * be) (be + al) k)) (.int 0) G2 = some (fr (c * (be + al)) (be + al), G2) := by rw [l0]; exact idx_tup0
  have c1 := v_lt (S := S) (d := d + 2) (G := G2) (X := X1) (Y := Y1) (X' := c * (be + al)) (Y' := be + al) q.y1.1 (by have := q.y1; omega) a.1 (by omega)
  have c2 := v_lt (S := S) (d := d + 2) (G := G2) (X := X2) (Y := Y2) (X' := X1) (Y' := Y1) q.y2.1 (by have := q.y2; omega) q.y1.1 (by have := q.y1; omega)
  have c3 := v_lt (S := S) (d := d + 2) (G := G2) (X := X3) (Y := Y3) (X' := X2) (Y' := Y2) q.y3.1 (by have := q.y3; omega) q.y2.1 (by have := q.y2; omega)
  rw [decide_eq_false q.q1] at c1
  rw [decide_eq_false q.q2] at c2
  rw [decide_eq_false q.q3] at c3
  have s4 := v_sum (S := S) (d := d + 1) (G := G2) (X := X1) (Y := Y1) (X' := de) (Y' := 1) q.y1.1 (by decide) (by have := q.y1; omega)
  rw [Int.mul_one, Int.mul_one, fr_one] at s4
  have c4 := v_lt (S := S) (d := d + 2) (G := G2) (X := X1 + de * Y1) (Y := Y1) (X' := X2) (Y' := Y2) q.y1.1 (by have := q.y1; omega) q.y2.1 (by have := q.y2; omega)
  rw [decide_eq_false q.q4] at c4
  have el := v_long (S := S) (d := d + 1) t hG2
  have bb := mul_bd (Int.le_of_lt q.y2.1) q.y2.2 (Int.le_of_lt b.1) b.2
  have s5 := v_sum (S := S) (d := d + 1) (G := G2) (X := X2) (Y := Y2) (X' := l * be) (Y' := be - al) q.y2.1 b.1 (by omega)
  have c5 := v_lt (S := S) (d := d + 2) (G := G2) (X := X3) (Y := Y3) (X' := X2 * (be - al) + l * be * Y2) (Y' := Y2 * (be - al)) q.y3.1 (by have := q.y3; omega) (Int.mul_pos q.y2.1 b.1) (by omega)
  rw [decide_eq_true q.q5] at c5
  have el : _ = Res.ok (fr (l * be) (be - al)) G2 := el
  -- the newest ones
  obtain ⟨t3, e3⟩ := v_newest (S := S) (d := d + 1) (G := G2) (c := c) (P := w * be) (A := be + al) (k := k) (TX := X3) (TY := Y3) q.y3.1 (by have := q.y3; omega) a.1 (by omega) (fun v => [v]) (fun j hj => by rw [if_neg (q.q6 j hj)]) q.hk
  obtain ⟨t4, e4⟩ := v_newest (S := S) (d := d + 1) (G := G2 ++ t3) (c := c) (P := w * be) (A := be + al) (k := k) (TX := X1) (TY := Y1) q.y1.1 (by have := q.y1; omega) a.1 (by omega) (fnew X1 Y1) (fun j hj => fnew_fr q.y1.1 a.1) q.hk
  have n3 : (tlc c (w * be) (be + al) k).flatMap (fun v => [v]) = tlc c (w * be) (be + al) k := flat_id fun v _ => rfl
  have n4 : ((tlc c (w * be) (be + al) k).flatMap (fnew X1 Y1)).length = 1 := by
    rw [tlc_cons, List.flatMap_cons, fnew_fr q.y1.1 a.1, if_neg q.q1, flat_nil fun v hv => ?_]
    · rfl
    · obtain ⟨j, j1, j2, rfl⟩ := tlc_tail hv
      rw [fnew_fr q.y1.1 a.1, if_pos (q.q7 j j1 j2)]
  rw [n3, tlc_len] at e3
  rw [n4] at e4
  have hM3 : (G2 ++ t3)[m]? = some (shO (tlc c (w * be) (be + al) k) (fr X1 Y1) (fr X2 Y2) (fr X3 Y3)) := by rw [at_old (List.getElem?_eq_some_iff.mp hM2).1]; exact hM2
  refine ⟨O :: t1 ++ t2 ++ t3 ++ t4, ?_⟩
  have fin : G ++ (O :: t1 ++ t2 ++ t3 ++ t4) = G2 ++ t3 ++ t4 := by rw [← hg2, ← hg]; simp
  rw [fin]
  rw [callF_succ]
  have k1 : ((((k + 1 : Nat) : Int) - 1) - (((1 : Nat) : Int) - 1)) = k := by omega
  simp [code, f25, startL, v_lag T h1 h2, e1, o1, hM1, hM2, hG1, hG2, shO, List.lookup, eqn, e2, mthO_tm, T.cd, cdF, ew, i0, c1, c2, c3, s4, c4, el, s5, c5, e3, e4, hM3, attO_tm2]
  exact hk
end
end LawX
namespace LawX
open PySem PySem.Spec L2 VM
theorem lt_of_sub {a b : Int} (h : 0 < b - a) : a < b := by omega
theorem sh_num {A B P Q lag N E0 E1 de lb : Int} (hA : 0 < A) (hB : 0 < B) (hP : 0 < P) (hlb : 0 < lb) (hde : 0 ≤ de) (hlag : 0 ≤ lag) (hQ : Q = de * B + lb) (hN : N = lag * P * B - Q * A) (n0 : N < 0) (e0 : 0 < E0) (e1 : 0 < E1) (eA : E0 * A ≤ P * E1) (eD : E0 * (2 * (A * B)) ≤ -N * E1) :
    0 ≤ P * E1 - E0 * A ∧ (P * E1 - E0 * A) * A < P * (A * E1) ∧ (lag + 1) * P * ((A * E1) * B) < (((P * E1 - E0 * A) + de * (A * E1)) * B + lb * (A * E1)) * A := by
  have a2 : 0 < E0 * A * A := Int.mul_pos (Int.mul_pos e0 hA) hA
  refine ⟨by omega, ?_, ?_⟩
  · apply lt_of_sub
    have : P * (A * E1) - (P * E1 - E0 * A) * A = E0 * A * A := by grind
    omega
  · apply lt_of_sub
    have e : (((P * E1 - E0 * A) + de * (A * E1)) * B + lb * (A * E1)) * A - (lag + 1) * P * ((A * E1) * B) = A * (-N * E1 - E0 * (A * B)) := by
      subst hN hQ; grind
    rw [e]
    refine Int.mul_pos hA ?_
    have d : 0 < E0 * (A * B) := Int.mul_pos e0 (Int.mul_pos hA hB)
    have : E0 * (2 * (A * B)) = 2 * (E0 * (A * B)) := by grind
    omega
section
variable {l de w al be lag c : Int}
theorem shE_ok (t : TC l de w al be) (hN : NN l de w al be lag < 0) : 0 < (shE l de w al be lag).1 ∧ (shE l de w al be lag).1 * (be + al) ≤ (w * be) * (shE l de w al be lag).2 ∧ (shE l de w al be lag).1 * (2 * DD al be) ≤ -NN l de w al be lag * (shE l de w al be lag).2 := by
  unfold shE
  have := t.wb
  split
  · rename_i h
    refine ⟨?_, ?_, ?_⟩
    · show 0 < -NN l de w al be lag; omega
    · show -NN l de w al be lag * (be + al) ≤ (w * be) * (2 * DD al be); omega
    · exact Int.le_refl _
  · rename_i h
    refine ⟨?_, ?_, ?_⟩
    · show 0 < w * be; omega
    · exact Int.le_refl _
    · show w * be * (2 * DD al be) ≤ -NN l de w al be lag * (be + al); omega
theorem sh_ok (t : TC l de w al be) (hN : NN l de w al be lag < 0) (h1 : 1 ≤ lag) (h2 : lag ≤ 20) (hc : 0 ≤ c) (hc2 : c ≤ 5) :
    ShOk l de w al be c (kk lag) (mdX l de w al be lag + c * mdY l de w al be lag) (mdY l de w al be lag) (cmX l de w al be lag + c * mdY l de w al be lag) (mdY l de w al be lag) ((usX l de w al be lag).1 + c * (usX l de w al be lag).2) (usX l de w al be lag).2 := by
  have a := t.sum
  have b := t.dif
  have wb := t.wb
  have lb := t.lb
  have e := t.E (lag := lag)
  have y := t.mY (lag := lag)
  obtain ⟨k1, k2, k3⟩ := shE_ok t hN
  have nd : NN l de w al be lag = lag * (w * be) * (be - al) - QQ l de al be * (be + al) := rfl
  have qd : QQ l de al be = de * (be - al) + l * be := rfl
  have dd : DD al be = (be + al) * (be - al) := rfl
  have um : mdX l de w al be lag = (w * be) * (shE l de w al be lag).2 - (shE l de w al be lag).1 * (be + al) := rfl
  have uy : mdY l de w al be lag = (be + al) * (shE l de w al be lag).2 := rfl
  have uc : cmX l de w al be lag = mdX l de w al be lag + de * mdY l de w al be lag := rfl
  rw [dd] at k3
  obtain ⟨m1, m2, m3⟩ := sh_num a.1 b.1 wb.1 lb.1 t.d0 (by omega : 0 ≤ lag) qd nd hN k1 e.1 k2 k3
  rw [← um] at m1 m2 m3
  rw [← uy] at m2 m3
  rw [← uc] at m3
  have ek : ((kk lag : Nat) : Int) = lag + 1 := by unfold kk; omega
  have dm : 0 ≤ de * mdY l de w al be lag := Int.mul_nonneg t.d0 (by omega)
  have c0 : 0 ≤ cmX l de w al be lag := by omega
  have hP0 := wb.1
  have ud : usX l de w al be lag = if (lag + 1) * (w * be) * mdY l de w al be lag < cmX l de w al be lag * (be + al) then (cmX l de w al be lag, mdY l de w al be lag) else ((lag + 1) * (w * be), be + al) := rfl
  have d0 := t.d0
  generalize hPP : w * be = P at *
  generalize hLL : l * be = LB at *
  generalize mdX l de w al be lag = mX at *
  generalize mdY l de w al be lag = mY at *
  generalize cmX l de w al be lag = cX at *
  generalize hBB : be - al = B at *
  generalize hAA : be + al = A at *
  -- the last use
  have us : 0 ≤ (usX l de w al be lag).1 ∧ (0 < (usX l de w al be lag).2 ∧ (usX l de w al be lag).2 ≤ 8000000000) ∧ (lag + 1) * P * (usX l de w al be lag).2 ≤ (usX l de w al be lag).1 * A ∧ ¬ (usX l de w al be lag).1 * mY < cX * (usX l de w al be lag).2 ∧ (usX l de w al be lag).1 * (mY * B) < (cX * B + LB * mY) * (usX l de w al be lag).2 := by
    rw [ud]
    by_cases h : (lag + 1) * P * mY < cX * A
    · rw [if_pos h]
      refine ⟨c0, y, Int.le_of_lt h, Int.lt_irrefl _, ?_⟩
      apply lt_of_sub
      have e : (cX * B + LB * mY) * mY - cX * (mY * B) = LB * mY * mY := by grind
      show 0 < (cX * B + LB * mY) * mY - cX * (mY * B)
      rw [e]
      exact Int.mul_pos (Int.mul_pos lb.1 y.1) y.1
    · rw [if_neg h]
      exact ⟨Int.mul_nonneg (by omega) (by omega), ⟨a.1, by show A ≤ _; omega⟩, Int.le_refl _, h, m3⟩
  generalize (usX l de w al be lag).1 = uX at *
  generalize (usX l de w al be lag).2 = uY at *
  obtain ⟨u1, u2, u3, u4, u5⟩ := us
  have cy : 0 ≤ c * mY := Int.mul_nonneg hc (by omega)
  have cu : 0 ≤ c * uY := Int.mul_nonneg hc (by omega)
  refine ⟨by omega, y, by omega, y, by omega, u2, hc, ?_, ?_, ?_, ?_, ?_, fun j hj => ?_, fun j j1 j2 => ?_, by unfold kk; omega⟩ <;> try simp only [hAA, hPP, hBB, hLL]
  · have e : (mX + c * mY) * A = mX * A + c * A * mY := by grind
    have := Int.mul_nonneg m1 (Int.le_of_lt a.1)
    omega
  · have := Int.mul_le_mul_of_nonneg_right (by omega : mX + c * mY ≤ cX + c * mY) (Int.le_of_lt y.1)
    omega
  · have e1 : (uX + c * uY) * mY = uX * mY + c * uY * mY := by grind
    have e2 : (cX + c * mY) * uY = cX * uY + c * uY * mY := by grind
    omega
  · have e1 : mX + c * mY + de * mY = cX + c * mY := by omega
    rw [e1]
    exact Int.lt_irrefl _
  · have e1 : (uX + c * uY) * (mY * B) = uX * (mY * B) + c * uY * mY * B := by grind
    have e2 : ((cX + c * mY) * B + LB * mY) * uY = (cX * B + LB * mY) * uY + c * uY * mY * B := by grind
    omega
  · have e1 : (uX + c * uY) * A = uX * A + c * uY * A := by grind
    have e2 : ((j : Int) * P + c * A) * uY = (j : Int) * P * uY + c * uY * A := by grind
    have l1 : (j : Int) * P ≤ (lag + 1) * P := Int.mul_le_mul_of_nonneg_right (by omega) (by omega)
    have l2 := Int.mul_le_mul_of_nonneg_right l1 (Int.le_of_lt u2.1)
    omega
  · have e1 : (mX + c * mY) * A = mX * A + c * mY * A := by grind
    have e2 : ((j : Int) * P + c * A) * mY = (j : Int) * P * mY + c * mY * A := by grind
    have l1 : 1 * P ≤ (j : Int) * P := Int.mul_le_mul_of_nonneg_right (by omega) (by omega)
    have l2 := Int.mul_le_mul_of_nonneg_right l1 (Int.le_of_lt y.1)
    rw [Int.one_mul] at l2
    omega
end
end LawX
namespace LawX
open PySem PySem.Spec L2 VM
/-- what judge_terms tells -/
def judO (l de w al be lag : Int) : VO := if 0 ≤ NN l de w al be lag then enO (fr (NN l de w al be lag) (DD al be)) else shOf l de w al be lag
section
variable {S : Sx} {d n : Nat} {G : Gh} {l de w al be lag : Int} {ns : List Int}
theorem w_take (hl : ns.length ≤ 63) (s : St G ns) {many : Int} (hm : 0 < many) : ∃ v G', 0 ≤ v ∧ v < many ∧ callF S code 30 13 [.ref 1, .int many] G = .ok (.int v) G' ∧ St G' ns ∧ Ke G G' := v_take (d := 28) hl s hm
theorem w_low {X Y : Int} (hY : 0 < Y) (hY2 : Y < 2 ^ 64) (h0 : 0 ≤ X) : callF S code 30 14 [.int X, .int Y] G = .ok (fr X Y) G := v_llow (d := 29) hY hY2 h0
theorem w_new (T : Tb S) (t : TC l de w al be) : ∃ t', newV (S.dp code 30) 0 [.int l, .int de, .int w, .tup [.int al, .int be]] G = .ok (.ref G.length) (G ++ tmO l de w al be :: t') := v_new (d := 28) T t
theorem w_judge (T : Tb S) (t : TC l de w al be) (hG : G[n]? = some (tmO l de w al be)) (h1 : 1 ≤ lag) (h2 : lag ≤ 20) : ∃ r t', callF S code 30 9 [.ref n, .int lag] G = .ok (.ref r) (G ++ t') ∧ (G ++ t')[r]? = some (judO l de w al be lag) ∧ G.length ≤ r := by
  unfold judO
  by_cases h : 0 ≤ NN l de w al be lag
  · refine ⟨_, _, v_judge1 (d := 25) T t hG h1 h2 h, ?_, Nat.le_refl _⟩
    rw [if_pos h]
    exact at_d
  · refine ⟨_, _, v_judge2 (d := 25) T t hG h1 h2 (by omega), ?_, Nat.le_succ _⟩
    rw [if_neg h]
    simp
/-- the machine's judging of new terms -/
theorem w_nj (T : Tb S) (t : TC l de w al be) (h1 : 1 ≤ lag) (h2 : lag ≤ 20) : ∃ m r t1 t2, newV (S.dp code 30) 0 [.int l, .int de, .int w, .tup [.int al, .int be]] G = .ok (.ref m) (G ++ t1) ∧ callF S code 30 9 [.ref m, .int lag] (G ++ t1) = .ok (.ref r) (G ++ t1 ++ t2) ∧ (G ++ t1 ++ t2)[r]? = some (judO l de w al be lag) ∧ G.length ≤ r := by
  obtain ⟨t', h⟩ := w_new (S := S) (G := G) T t
  have hG : (G ++ tmO l de w al be :: t')[G.length]? = some (tmO l de w al be) := at_d
  obtain ⟨r, t2, k1, k2, k3⟩ := w_judge (S := S) T t hG h1 h2
  exact ⟨_, r, _, t2, h, k1, k2, by simp at k3; omega⟩
theorem tr_jud (T : Tb S) {r : Nat} (h : G[r]? = some (judO l de w al be lag)) : tr (S.dp code 30) (.ref r) G = .ok (decide (0 ≤ NN l de w al be lag)) G := by
  show trO (S.dp code 30) r G G[r]? = _
  rw [h]
  unfold judO
  by_cases z : 0 ≤ NN l de w al be lag
  · rw [if_pos z, decide_eq_true z]
    show trI (S.dp code 30) r G (S.cd 1).bool = _
    rw [T.cd]
    show (callF S code 30 21 [.ref r] G).bind asB = _
    rw [show callF S code 30 21 [.ref r] G = .ok (.bl true) G from rfl]; rfl
  · rw [if_neg z, decide_eq_false z]
    show trI (S.dp code 30) r G (S.cd 2).bool = _
    rw [T.cd]
    show (callF S code 30 24 [.ref r] G).bind asB = _
    rw [show callF S code 30 24 [.ref r] G = .ok (.bl false) G from rfl]; rfl
theorem w_lwait (T : Tb S) (t : TC l de 1 al be) (h1 : 1 ≤ lag) (h2 : lag ≤ 20) : ∃ t', callF S code 30 10 [.int l, .int de, .tup [.int al, .int be], .int lag] G = .ok (.int (imax 1 (ceil (R0 l de al be * (be + al)) (R1 l de al be * be * lag)))) (G ++ t') := v_lwait (d := 26) T t h1 h2
theorem w_llag (T : Tb S) (t : TC l de w al be) : ∃ m t', newV (S.dp code 30) 0 [.int l, .int de, .int w, .tup [.int al, .int be]] G = .ok (.ref m) (G ++ t') ∧ callF S code 30 11 [.ref m] (G ++ t') = .ok (if llag l de w al be ≤ 20 then .int (llag l de w al be) else .non) (G ++ t') := by
  obtain ⟨t', h⟩ := w_new (S := S) (G := G) T t
  have hG : (G ++ tmO l de w al be :: t')[G.length]? = some (tmO l de w al be) := at_d
  exact ⟨_, _, h, v_llag (d := 26) T t hG⟩
end
/-! ### sums -/
theorem ceil_le {x y k : Int} (hy : 0 < y) : ceil x y ≤ k ↔ x ≤ k * y := by
  unfold ceil
  have h : -(-x / y) ≤ k ↔ -k ≤ -x / y := by omega
  rw [h, Int.le_ediv_iff_mul_le hy, Int.neg_mul]
  omega
theorem imax_le {a b k : Int} : imax a b ≤ k ↔ a ≤ k ∧ b ≤ k := by
  unfold imax; split <;> omega
/-- the wish, in one size -/
theorem NN_fr {l de w e f lag g : Int} (hg : 0 < g) {al be : Int} (h1 : e = g * al) (h2 : f = g * be) : NN l de w e f lag = (g * g) * NN l de w al be lag := by
  unfold NN QQ
  subst h1 h2
  grind
theorem NN_sc {l de w al be lag k : Int} : NN (l * k) (de * k) (w * k) al be lag = k * NN l de w al be lag := by
  unfold NN QQ; grind
theorem NN_one {l de w al be lag : Int} : NN l de (w * lag) al be 1 = NN l de w al be lag := by
  unfold NN QQ; grind
theorem NN_up {l de w w' lag lag' al be : Int} (t : TC l de w al be) (h : w ≤ w') (h2 : lag ≤ lag') (hl : 0 ≤ lag) (h0 : 0 ≤ NN l de w al be lag) : 0 ≤ NN l de w' al be lag' := by
  have b := t.dif
  have s := t.sum
  have hb : 0 < be := by omega
  have k1 : lag * w ≤ lag' * w' := Int.mul_le_mul h2 h (Int.le_of_lt t.w0) (by omega)
  have k2 := Int.mul_le_mul_of_nonneg_right k1 (Int.le_of_lt (Int.mul_pos hb b.1))
  have e : NN l de w' al be lag' - NN l de w al be lag = lag' * w' * (be * (be - al)) - lag * w * (be * (be - al)) := by
    unfold NN QQ; grind
  omega
/-- shorter leases, delays, less drift -/
theorem NN_less {l de w e f lag l' de' e' : Int} (he : 0 ≤ e') (h : e' ≤ e) (hf : e < f) (hl : 0 ≤ l') (hl2 : l' ≤ l) (hd : 0 ≤ de') (hd2 : de' ≤ de) (h0 : 0 ≤ NN l de w e f lag) : 0 ≤ NN l' de' w e' f lag := by
  have B : 0 < f - e := by omega
  have B' : 0 < f - e' := by omega
  -- times f - e
  have k : 0 ≤ (f - e) * NN l' de' w e' f lag := by
    have c1 : (f - e) * NN l' de' w e' f lag = (f - e') * NN l de w e f lag + ((f - e') * ((f - e) * (de * (f + e) - de' * (f + e'))) + f * ((f - e') * (f + e) * l - (f - e) * (f + e') * l')) := by
      unfold NN QQ; grind
    have p1 : 0 ≤ (f - e') * NN l de w e f lag := Int.mul_nonneg (by omega) h0
    have p2 : de' * (f + e') ≤ de * (f + e) := Int.mul_le_mul hd2 (by omega) (by omega) (by omega)
    have p3 : 0 ≤ (f - e') * ((f - e) * (de * (f + e) - de' * (f + e'))) := Int.mul_nonneg (by omega) (Int.mul_nonneg (by omega) (by omega))
    have p4 : (f - e) * (f + e') ≤ (f - e') * (f + e) := Int.mul_le_mul (by omega) (by omega) (by omega) (by omega)
    have p5 : (f - e) * (f + e') * l' ≤ (f - e') * (f + e) * l := Int.mul_le_mul p4 hl2 hl (Int.mul_nonneg (by omega) (by omega))
    have p6 : 0 ≤ f * ((f - e') * (f + e) * l - (f - e) * (f + e') * l') := Int.mul_nonneg (by omega) (by omega)
    omega
  exact Int.nonneg_of_mul_nonneg_right k B
end LawX
namespace LawX
open PySem PySem.Spec L2 VM
section
variable {l de w al be lag : Int}
theorem llag_le (t : TC l de w al be) {k : Int} (hk : 1 ≤ k) : llag l de w al be ≤ k ↔ 0 ≤ NN l de w al be k := by
  rw [← mar_nn t]
  unfold llag M0
  rw [imax_le, ceil_le (Int.mul_pos t.R1.1 t.W0.1)]
  have e : k * (R1 l de al be * W0 w al be) = k * W0 w al be * R1 l de al be := by grind
  rw [e]
  omega
def lw (l de al be lag : Int) : Int := imax 1 (ceil (R0 l de al be * (be + al)) (R1 l de al be * be * lag))
theorem lw_le (t : TC l de w al be) (h1 : 1 ≤ lag) : lw l de al be lag ≤ w ↔ 0 ≤ NN l de w al be lag := by
  have r := rR t
  have r1 := t.R1.1
  have b := t.dif.1
  have hb : 0 < be := by have := t.a0; have := t.ab; omega
  unfold lw
  rw [imax_le, ceil_le (Int.mul_pos (Int.mul_pos r1 hb) (by omega))]
  have hw := t.w0
  have key : (R0 l de al be * (be + al) ≤ w * (R1 l de al be * be * lag)) ↔ 0 ≤ NN l de w al be lag := by
    have e1 : (w * (R1 l de al be * be * lag) - R0 l de al be * (be + al)) * (be - al) = NN l de w al be lag * R1 l de al be := by
      unfold NN
      generalize QQ l de al be = q at *
      generalize R0 l de al be = x at *
      generalize R1 l de al be = y at *
      grind
    constructor
    · intro z
      have := Int.mul_nonneg (by omega : 0 ≤ w * (R1 l de al be * be * lag) - R0 l de al be * (be + al)) (Int.le_of_lt b)
      rw [e1] at this
      exact Int.nonneg_of_mul_nonneg_left this r1
    · intro z
      have := Int.mul_nonneg z (Int.le_of_lt r1)
      rw [← e1] at this
      have := Int.nonneg_of_mul_nonneg_left this b
      omega
  rw [key]
  omega
theorem lw_mono (t : TC l de w al be) {lag' : Int} (h1 : 1 ≤ lag) (h2 : lag ≤ lag') : lw l de al be lag' ≤ lw l de al be lag := by
  have r1 := t.R1.1
  have hb : 0 < be := by have := t.a0; have := t.ab; omega
  have rb := Int.mul_pos r1 hb
  obtain ⟨q, hq⟩ : ∃ q, q = lw l de al be lag := ⟨_, rfl⟩
  have k1 : imax 1 (ceil (R0 l de al be * (be + al)) (R1 l de al be * be * lag)) ≤ q := by rw [hq]; exact Int.le_refl _
  rw [imax_le, ceil_le (Int.mul_pos rb (by omega))] at k1
  rw [← hq]
  show imax 1 (ceil (R0 l de al be * (be + al)) (R1 l de al be * be * lag')) ≤ q
  rw [imax_le, ceil_le (Int.mul_pos rb (by omega))]
  have m := Int.mul_le_mul_of_nonneg_left h2 (Int.le_of_lt rb)
  exact ⟨k1.1, Int.le_trans k1.2 (Int.mul_le_mul_of_nonneg_left m (by have := k1.1; omega))⟩
theorem NN_01 {k : Int} : NN l de w 0 1 k = k * w - (de + l) := by unfold NN QQ; grind
end
theorem ne_fr {G : Gh} {X Y : Int} : cmpF .NotEq (fr X Y) (fr X Y) G = some (.bl false, G) := by
  have e1 : toD 30 G (fr X Y) = some (.tuple [.int (na X Y), .int (da X Y)]) := by
    show (mapO (toD 29 G) [.int (na X Y), .int (da X Y)]).map PyData.tuple = _
    have := mapO_ints (G := G) (k := 29) [na X Y, da X Y]
    rw [show [Va.int (na X Y), Va.int (da X Y)] = [na X Y, da X Y].map Va.int from rfl, this]; rfl
  show ((eqDD (toD 30 G (fr X Y)) (toD 30 G (fr X Y))).map fun b => (Va.bl (!b), G)) = _
  rw [e1]
  have sh : SeqAt.shaped (.tuple [.int (na X Y), .int (da X Y)]) = true := by
    unfold SeqAt.shaped
    rw [Bool.and_eq_true]
    refine ⟨by simp [PyData.canLay0, PyData.canLayAll0], decide_eq_true ?_⟩
    simp [PyData.depth, PyData.depthAll]
  unfold eqDD
  simp only [sh, and_self, if_true]
  simp [PyData.eqv, PyData.eqvAll]
theorem ne_bl {G : Gh} {a b : Bool} : cmpF .NotEq (.bl a) (.bl b) G = some (.bl (!decide (a = b)), G) := rfl
theorem eq_bl {G : Gh} {a b : Bool} : cmpF .Eq (.bl a) (.bl b) G = some (.bl (decide (a = b)), G) := rfl
end LawX
namespace LawX
open PySem PySem.Spec L2 VM
section
variable {S : Sx} {G Ga Gb Gc Gd Ge Gf : Gh} {v v' v'' f e l de w lag : Int} {D D' : Va} {m m1 m2 r r1 r2 r3 : Nat}
theorem q0_ev {x1 x2 x3 x4 x5 x6 x7 x8 x9 x10 x11 x12 x13 x14 x15 x16 x17 x18 x19 : Option Va} (h : G.length = 1) : (q0 (S.dp code 30)).ev [some (.ref 0), x1, x2, x3, x4, x5, x6, x7, x8, x9, x10, x11, x12, x13, x14, x15, x16, x17, x18, x19] G = .nx [some (.ref 0), some (.ref 1), x2, x3, x4, x5, x6, x7, x8, x9, x10, x11, x12, x13, x14, x15, x16, x17, x18, x19] (G ++ [.lst false [.ref 0, .int 0]]) := by
  simp [q0, h]
theorem q1_ev {x2 x3 x4 x5 x6 x7 x8 x9 x10 x11 x12 x13 x14 x15 x16 x17 x18 x19 : Option Va} (e1 : callF S code 30 13 [.ref 1, .int 30] G = .ok (.int v) Ga) : (q1 (S.dp code 30)).ev [some (.ref 0), some (.ref 1), x2, x3, x4, x5, x6, x7, x8, x9, x10, x11, x12, x13, x14, x15, x16, x17, x18, x19] G = .nx [some (.ref 0), some (.ref 1), some (.int (2 + v)), x3, x4, x5, x6, x7, x8, x9, x10, x11, x12, x13, x14, x15, x16, x17, x18, x19] Ga := by
  simp [q1, e1]
theorem q2_ev {x3 x4 x5 x6 x7 x8 x9 x10 x11 x12 x13 x14 x15 x16 x17 x18 x19 : Option Va} (e1 : callF S code 30 13 [.ref 1, .int f] G = .ok (.int e) Ga) (e2 : callF S code 30 13 [.ref 1, .int 6] Ga = .ok (.int v) Gb) : (q2 (S.dp code 30)).ev [some (.ref 0), some (.ref 1), some (.int f), x3, x4, x5, x6, x7, x8, x9, x10, x11, x12, x13, x14, x15, x16, x17, x18, x19] G = .nx [some (.ref 0), some (.ref 1), some (.int f), x3, x4, x5, x6, x7, x8, x9, x10, some (.int e), some (.int (1 + v)), x13, x14, x15, x16, x17, x18, x19] Gb := by
  simp [q2, e1, e2]
theorem q3_ev {x3 x4 x5 x6 x7 x8 x9 x10 x13 x14 x15 x16 x17 x18 x19 : Option Va} (e1 : callF S code 30 14 [.int e, .int f] G = .ok D G) : (q3 (S.dp code 30)).ev [some (.ref 0), some (.ref 1), some (.int f), x3, x4, x5, x6, x7, x8, x9, x10, some (.int e), some (.int lag), x13, x14, x15, x16, x17, x18, x19] G = .nx [some (.ref 0), some (.ref 1), some (.int f), some (D), x4, x5, x6, x7, x8, x9, x10, some (.int e), some (.int lag), x13, x14, x15, x16, x17, x18, x19] G := by
  simp [q3, e1]
theorem q4_ev {x4 x5 x6 x7 x8 x9 x10 x13 x14 x15 x16 x17 x18 x19 : Option Va} (e1 : callF S code 30 13 [.ref 1, .int 50] G = .ok (.int v) Ga) (e2 : callF S code 30 13 [.ref 1, .int 30] Ga = .ok (.int v') Gb) (e3 : callF S code 30 13 [.ref 1, .int 90] Gb = .ok (.int v'') Gc) : (q4 (S.dp code 30)).ev [some (.ref 0), some (.ref 1), some (.int f), some (D), x4, x5, x6, x7, x8, x9, x10, some (.int e), some (.int lag), x13, x14, x15, x16, x17, x18, x19] G = .nx [some (.ref 0), some (.ref 1), some (.int f), some (D), x4, x5, x6, x7, x8, x9, x10, some (.int e), some (.int lag), some (.int (1 + v)), some (.int v'), some (.int (1 + v'')), x16, x17, x18, x19] Gc := by
  simp [q4, e1, e2, e3]
theorem q5_ev {x4 x5 x6 x7 x8 x9 x10 x16 x17 x18 x19 : Option Va} (e1 : newV (S.dp code 30) 0 [.int l, .int de, .int w, D] G = .ok (.ref m) Ga) (e2 : callF S code 30 9 [.ref m, .int lag] Ga = .ok (.ref r) Gb) : (q5 (S.dp code 30)).ev [some (.ref 0), some (.ref 1), some (.int f), some (D), x4, x5, x6, x7, x8, x9, x10, some (.int e), some (.int lag), some (.int l), some (.int de), some (.int w), x16, x17, x18, x19] G = .nx [some (.ref 0), some (.ref 1), some (.int f), some (D), some (.ref r), x5, x6, x7, x8, x9, x10, some (.int e), some (.int lag), some (.int l), some (.int de), some (.int w), x16, x17, x18, x19] Gb := by
  simp [q5, e1, e2]
theorem q6_ev {x5 x6 x7 x8 x9 x10 x16 x17 x18 x19 : Option Va} (e1 : callF S code 30 13 [.ref 1, .int 9] G = .ok (.int v) Ga) (e2 : newV (S.dp code 30) 0 [.int l, .int de, .int (w + 1 + v), D] Ga = .ok (.ref m1) Gb) (e3 : callF S code 30 9 [.ref m1, .int lag] Gb = .ok (.ref r1) Gc) (e4 : newV (S.dp code 30) 0 [.int l, .int de, .int w, D] Gc = .ok (.ref m2) Gd) (e5 : callF S code 30 9 [.ref m2, .int (lag + 1)] Gd = .ok (.ref r2) Ge) : (q6 (S.dp code 30)).ev [some (.ref 0), some (.ref 1), some (.int f), some (D), some (.ref r), x5, x6, x7, x8, x9, x10, some (.int e), some (.int lag), some (.int l), some (.int de), some (.int w), x16, x17, x18, x19] G = .nx [some (.ref 0), some (.ref 1), some (.int f), some (D), some (.ref r), some (.ref Ge.length), x6, x7, x8, x9, x10, some (.int e), some (.int lag), some (.int l), some (.int de), some (.int w), x16, x17, x18, x19] (Ge ++ [VO.lst false [.ref r1, .ref r2]]) := by
  simp [q6, e1, e2, e3, e4, e5]
variable {n : Nat}
theorem q7_ev {x6 x7 x8 x9 x10 x16 x17 x18 x19 : Option Va} (e1 : callF S code 30 13 [.ref 1, .int l] G = .ok (.int v) Ga) (e2 : callF S code 30 13 [.ref 1, .int (de + 1)] Ga = .ok (.int v') Gb) (e3 : callF S code 30 13 [.ref 1, .int (e + 1)] Gb = .ok (.int v'') Gc) (e4 : callF S code 30 14 [.int v'', .int f] Gc = .ok D' Gc) (e5 : newV (S.dp code 30) 0 [.int (1 + v), .int v', .int w, D'] Gc = .ok (.ref m) Gd) (e6 : callF S code 30 9 [.ref m, .int lag] Gd = .ok (.ref r3) Ge) (hn : Ge[n]? = some (.lst false [.ref r1, .ref r2])) : (q7 (S.dp code 30)).ev [some (.ref 0), some (.ref 1), some (.int f), some (D), some (.ref r), some (.ref n), x6, x7, x8, x9, x10, some (.int e), some (.int lag), some (.int l), some (.int de), some (.int w), x16, x17, x18, x19] G = .nx [some (.ref 0), some (.ref 1), some (.int f), some (D), some (.ref r), some (.ref n), x6, x7, x8, x9, x10, some (.int e), some (.int lag), some (.int l), some (.int de), some (.int w), x16, x17, x18, x19] ((Ge ++ [VO.lst false [.ref r3]]).set n (VO.lst false [.ref r1, .ref r2, .ref r3])) := by
  have hn' : (Ge ++ [VO.lst false [.ref r3]])[n]? = some (.lst false [.ref r1, .ref r2]) := by rw [at_old (List.getElem?_eq_some_iff.mp hn).1]; exact hn
  have hd : (Ge ++ [VO.lst false [.ref r3]])[Ge.length]? = some (.lst false [.ref r3]) := at_d
  have ip : ipAdd (.ref n) (.ref Ge.length) (Ge ++ [VO.lst false [.ref r3]]) = some (.ref n, (Ge ++ [VO.lst false [.ref r3]]).set n (VO.lst false [.ref r1, .ref r2, .ref r3])) := by
    show ipL n _ (mlsO _) (mlsO _) = _
    rw [hn', hd]
    show ipL n (Ge ++ [VO.lst false [.ref r3]]) (some [.ref r1, .ref r2]) (some [.ref r3]) = _
    unfold ipL
    simp [sizeLine_eq]
  simp [q7, e1, e2, e3, e4, e5, e6, ip]
end
end LawX
namespace LawX
open PySem PySem.Spec L2 VM
section
variable {S : Sx} {G Ga Gb Gc Gd Ge Gf : Gh} {v v' v'' f e l de w lag k : Int} {D D' : Va} {m m1 m2 r r1 r2 r3 rs n : Nat} {b bs b1 b2 b3 : Bool}
variable {x0 x1 x2 x3 x4 x5 x6 x7 x8 x9 x10 x11 x12 x13 x14 x15 x16 x17 x18 x19 : Option Va}
theorem q9_ev (e1 : callF S code 30 13 [.ref 1, .int 900] G = .ok (.int v) Ga) : (q9 (S.dp code 30)).ev [x0, some (.ref 1), x2, x3, x4, x5, x6, x7, x8, x9, x10, x11, x12, x13, x14, x15, x16, x17, x18, x19] G = .nx [x0, some (.ref 1), x2, x3, x4, x5, some (.int (2 + v)), x7, x8, x9, x10, x11, x12, x13, x14, x15, x16, x17, x18, x19] Ga := by
  simp [q9, e1]
theorem q10_ev (hk : sm k) (e1 : newV (S.dp code 30) 0 [.int (l * k), .int (de * k), .int (w * k), D] G = .ok (.ref m) Ga) (e2 : callF S code 30 9 [.ref m, .int lag] Ga = .ok (.ref rs) Gb) : (q10 (S.dp code 30)).ev [x0, x1, x2, some D, x4, x5, some (.int k), x7, x8, x9, x10, x11, some (.int lag), some (.int l), some (.int de), some (.int w), x16, x17, x18, x19] G = .nx [x0, x1, x2, some D, x4, x5, some (.int k), some (.ref rs), x8, x9, x10, x11, some (.int lag), some (.int l), some (.int de), some (.int w), x16, x17, x18, x19] Gb := by
  simp [q10, hk, e1, e2]
/-- the tests by one of the told: no way out -/
theorem q11_ev (hs : sm lag) (t1 : tr (S.dp code 30) (.ref rs) G = .ok b G) (t2 : tr (S.dp code 30) (.ref r) G = .ok b G) (e1 : newV (S.dp code 30) 0 [.int l, .int de, .int (w * lag), D] G = .ok (.ref m) Ga) (e2 : callF S code 30 9 [.ref m, .int 1] Ga = .ok (.ref r1) Gb) (t3 : tr (S.dp code 30) (.ref r1) Gb = .ok b Gb) (t4 : tr (S.dp code 30) (.ref r) Gb = .ok b Gb) :
    (q11 (S.dp code 30)).ev [x0, x1, x2, some D, some (.ref r), x5, x6, some (.ref rs), x8, x9, x10, x11, some (.int lag), some (.int l), some (.int de), some (.int w), x16, x17, x18, x19] G = .nx [x0, x1, x2, some D, some (.ref r), x5, x6, some (.ref rs), x8, x9, x10, x11, some (.int lag), some (.int l), some (.int de), some (.int w), x16, x17, x18, x19] Gb := by
  simp [q11, hs, t1, t2, e1, e2, t3, t4, ne_bl]
theorem q16_ev : (q16 (S.dp code 30)).ev [x0, x1, x2, x3, x4, x5, x6, x7, x8, x9, x10, x11, x12, x13, some (.int de), some (.int w), x16, x17, x18, x19] G = .nx [x0, x1, x2, x3, x4, x5, x6, x7, x8, some (.int (imin de w)), x10, x11, x12, x13, some (.int de), some (.int w), x16, x17, x18, x19] G := by
  simp [q16]
theorem is_not_ni {i : Int} : cmpF .IsNot (.int i) .non G = some (.bl true, G) := rfl
theorem is_not_nn : cmpF .IsNot .non .non G = some (.bl false, G) := rfl
theorem sm20 : sm 20 := by unfold sm; omega
theorem sm19 : sm 19 := by unfold sm; omega
theorem q17_ev (e1 : newV (S.dp code 30) 0 [.int (20 * w - k), .int k, .int w, .tup [.int 0, .int 1]] G = .ok (.ref m) Ga) (e2 : callF S code 30 11 [.ref m] Ga = .ok (.int 20) Gb) (e3 : newV (S.dp code 30) 0 [.int (20 * w - k + 1), .int k, .int w, .tup [.int 0, .int 1]] Gb = .ok (.ref m1) Gc) (e4 : callF S code 30 11 [.ref m1] Gc = .ok .non Gd) :
    (q17 (S.dp code 30)).ev [x0, x1, x2, x3, x4, x5, x6, x7, x8, some (.int k), x10, x11, x12, x13, x14, some (.int w), x16, x17, x18, x19] G = .nx [x0, x1, x2, x3, x4, x5, x6, x7, x8, some (.int k), x10, x11, x12, x13, x14, some (.int w), x16, x17, x18, x19] Gd := by
  simp [q17, e1, e2, e3, e4, sm20, ne_int, is_not_nn]
theorem q18_ev (e1 : newV (S.dp code 30) 0 [.int (19 * w - k + 1), .int k, .int w, .tup [.int 0, .int 1]] G = .ok (.ref m) Ga) (e2 : callF S code 30 11 [.ref m] Ga = .ok (.int 20) Gb) :
    (q18 (S.dp code 30)).ev [x0, x1, x2, x3, x4, x5, x6, x7, x8, some (.int k), x10, x11, x12, x13, x14, some (.int w), x16, x17, x18, x19] G = .nx [x0, x1, x2, x3, x4, x5, x6, x7, x8, some (.int k), x10, x11, x12, x13, x14, some (.int w), x16, x17, x18, x19] Gb := by
  simp [q18, e1, e2, sm19, ne_int]
theorem q19_ev (e1 : newV (S.dp code 30) 0 [.int l, .int de, .int w, D] G = .ok (.ref m) Ga) (e2 : callF S code 30 11 [.ref m] Ga = .ok D' Gb) : (q19 (S.dp code 30)).ev [x0, x1, x2, some D, x4, x5, x6, x7, x8, x9, x10, x11, x12, some (.int l), some (.int de), some (.int w), x16, x17, x18, x19] G = .nx [x0, x1, x2, some D, x4, x5, x6, x7, x8, x9, some D', x11, x12, some (.int l), some (.int de), some (.int w), x16, x17, x18, x19] Gb := by
  simp [q19, e1, e2]
theorem q20_ev {v : Int} (h : v ≤ 20 ↔ True ∧ v ≤ 20) (t : tr (S.dp code 30) (.ref r) G = .ok b G) (hb : b = decide (v ≤ lag)) (h20 : lag ≤ 20) :
    (q20 (S.dp code 30)).ev [x0, x1, x2, x3, some (.ref r), x5, x6, x7, x8, x9, some (if v ≤ 20 then .int v else .non), x11, some (.int lag), x13, x14, x15, x16, x17, x18, x19] G = .rt (.bl true) G := by
  by_cases z : v ≤ 20
  · rw [if_pos z]
    simp [q20, t, is_not_ni, hb, eq_bl]
  · rw [if_neg z]
    have : ¬ v ≤ lag := by omega
    rw [decide_eq_false this] at hb
    simp [q20, t, is_not_nn, hb, eq_bl]
end
end LawX
namespace LawX
open PySem PySem.Spec L2 VM
section
variable {S : Sx} {G Ga Gb Gc Gd Ge Gf : Gh} {v v' v'' f e l de w lag k : Int} {D D' : Va} {m m1 m2 r r1 r2 r3 rs n : Nat} {b bs b1 b2 b3 : Bool}
variable {x0 x1 x2 x3 x4 x5 x6 x7 x8 x9 x10 x11 x12 x13 x14 x15 x16 x17 x18 x19 : Option Va}
theorem q8_ev (t1 : tr (S.dp code 30) (.ref r) G = .ok b G) (hn : G[n]? = some (.lst false [.ref r1, .ref r2, .ref r3])) (hb : b = true → ∀ i, i = r1 ∨ i = r2 ∨ i = r3 → ∀ t, tr (S.dp code 30) (.ref i) (G ++ t) = .ok true (G ++ t)) :
    ∃ t, (q8 (S.dp code 30)).ev [x0, x1, x2, x3, some (.ref r), some (.ref n), x6, x7, x8, x9, x10, x11, x12, x13, x14, x15, x16, x17, x18, x19] G = .nx [x0, x1, x2, x3, some (.ref r), some (.ref n), x6, x7, x8, x9, x10, x11, x12, x13, x14, x15, x16, x17, x18, x19] (G ++ t) := by
  cases b with
  | false => exact ⟨[], by simp [q8, t1]⟩
  | true =>
    have hb := hb rfl
    obtain ⟨t, ht⟩ := lcE_all (G := G) (G0 := G) (L := [x0, x1, x2, x3, some (.ref r), some (.ref n), x6, x7, x8, x9, x10, x11, x12, x13, x14, x15, x16, x17, x18, x19]) (vs := [18]) (it := (cItV (cVar 5) : CI (S.dp code 30)).ev) (g := (gNm 18 : CG (S.dp code 30)).ev) (tt := (t0 : CT (S.dp code 30)).ev)
      (te := (cBool (cVar 18) : CE (S.dp code 30)).ev) (src := .ob n) (xs := [.ref r1, .ref r2, .ref r3]) (f := fun _ => [.bl true]) (by
        have : srcV (.ref n) G = some (.ob n) := by show srcO n G[n]? = _; rw [hn]; rfl
        simp [this]) (fun i o t => nxt_ob hn)
      (fun v acc t hv ha => by
        obtain ⟨i, hi, rfl⟩ : ∃ i, (i = r1 ∨ i = r2 ∨ i = r3) ∧ v = .ref i := by
          simp only [List.mem_cons, List.not_mem_nil, or_false] at hv
          rcases hv with rfl | rfl | rfl
          · exact ⟨_, .inl rfl, rfl⟩
          · exact ⟨_, .inr (.inl rfl), rfl⟩
          · exact ⟨_, .inr (.inr rfl), rfl⟩
        have tt := hb i hi (.lst false acc :: t)
        exact ⟨t, lcT_yes (t1 := t) (t2 := t) (t3 := t) (L2 := [x0, x1, x2, x3, some (.ref r), some (.ref n), x6, x7, x8, x9, x10, x11, x12, x13, x14, x15, x16, x17, some (.ref i), x19]) (by simp [wipeL]) rfl (by simp [tt]) ha⟩)
      (fun _ _ => Nat.le_refl _) (by simp)
    rw [flat_true] at ht
    have o1 := all_op (S := S.dp code 30) (at_d (G := G) (t := t) (o := .lst false ((List.replicate [Va.ref r1, .ref r2, .ref r3].length true).map Va.bl)))
    rw [rep_true] at o1
    generalize VO.lst false ((List.replicate [Va.ref r1, .ref r2, .ref r3].length true).map Va.bl) = O at *
    exact ⟨O :: t, by simp [q8, t1, ht, o1]⟩
theorem q12_ev {X Y X' Y' : Int} (hk : sm k) (t1 : tr (S.dp code 30) (.ref r) G = .ok b G) (h : b = true → G[r]? = some (enO (fr X Y)) ∧ G[rs]? = some (enO (fr X' Y')) ∧ callF S code 30 14 [.int (na X Y * k), .int (da X Y)] G = .ok (fr X' Y') G) :
    (q12 (S.dp code 30)).ev [x0, x1, x2, x3, some (.ref r), x5, some (.int k), some (.ref rs), x8, x9, x10, x11, x12, x13, x14, x15, x16, x17, x18, x19] G = .nx [x0, x1, x2, x3, some (.ref r), x5, some (.int k), some (.ref rs), x8, x9, x10, x11, x12, x13, x14, x15, x16, x17, x18, x19] G := by
  cases b with
  | false => simp [q12, t1]
  | true =>
    obtain ⟨h1, h2, h3⟩ := h rfl
    simp [q12, t1, h1, h2, enO, List.lookup, fr_0, fr_1, hk, h3, ne_fr]
theorem q14_ev {g : Int → Int} (hg : ∀ i, (i = 1 ∨ i = lag ∨ i = lag + 1) → ∀ G', ∃ t', callF S code 30 10 [.int l, .int de, D, .int i] G' = .ok (.int (g i)) (G' ++ t')) :
    ∃ t, (q14 (S.dp code 30)).ev [x0, x1, x2, some D, x4, x5, x6, x7, x8, x9, x10, x11, some (.int lag), some (.int l), some (.int de), x15, x16, x17, x18, x19] G = .nx [x0, x1, x2, some D, x4, x5, x6, x7, some (.ref G.length), x9, x10, x11, some (.int lag), some (.int l), some (.int de), x15, x16, x17, x18, x19] (G ++ .lst false [.int (g 1), .int (g lag), .int (g (lag + 1))] :: t) := by
  obtain ⟨t, ht⟩ := lcE_all (G := G) (G0 := G) (L := [x0, x1, x2, some D, x4, x5, x6, x7, x8, x9, x10, x11, some (.int lag), some (.int l), some (.int de), x15, x16, x17, x18, x19]) (vs := [18]) (it := (cItV (cTup (aCons (cI 1) (aCons (cVar 12) (aCons (cBin .Add (cVar 12) (cI 1)) aNil)))) : CI (S.dp code 30)).ev) (g := (gNm 18 : CG (S.dp code 30)).ev) (tt := (t0 : CT (S.dp code 30)).ev)
    (te := (cCall 10 (aCons (cVar 13) (aCons (cVar 14) (aCons (cVar 3) (aCons (cVar 18) aNil)))) : CE (S.dp code 30)).ev) (src := .fix [.int 1, .int lag, .int (lag + 1)]) (xs := [.int 1, .int lag, .int (lag + 1)]) (f := fun v => match v with | .int i => [.int (g i)] | _ => []) (by simp) (fun i o t => nxt_fix)
    (fun v acc t hv ha => by
      obtain ⟨i, hi, rfl⟩ : ∃ i, (i = 1 ∨ i = lag ∨ i = lag + 1) ∧ v = .int i := by
        simp only [List.mem_cons, List.not_mem_nil, or_false] at hv
        rcases hv with rfl | rfl | rfl
        · exact ⟨_, .inl rfl, rfl⟩
        · exact ⟨_, .inr (.inl rfl), rfl⟩
        · exact ⟨_, .inr (.inr rfl), rfl⟩
      obtain ⟨t', e⟩ := hg i hi (G ++ .lst false acc :: t)
      have e' : callF S code 30 10 [.int l, .int de, D, .int i] (G ++ .lst false acc :: t) = .ok (.int (g i)) (G ++ .lst false acc :: (t ++ t')) := by rw [e]; simp
      exact ⟨t ++ t', lcT_yes (t1 := t) (t2 := t) (t3 := t ++ t') (L2 := [x0, x1, x2, some D, x4, x5, x6, x7, x8, x9, x10, x11, some (.int lag), some (.int l), some (.int de), x15, x16, x17, some (.int i), x19]) (by simp [wipeL]) rfl (by simp [e']) ha⟩)
    (fun v hv => by cases v <;> simp) (by simp)
  exact ⟨t, by simp [q14, ht]⟩
theorem idx_l3 {x y z : Va} {fz : Bool} (h : G[n]? = some (.lst fz [x, y, z])) : opIdx (.ref n) (.int 0) G = some (x, G) ∧ opIdx (.ref n) (.int 1) G = some (y, G) ∧ opIdx (.ref n) (.int 2) G = some (z, G) := by
  refine ⟨?_, ?_, ?_⟩ <;>
  · show idxO G G[n]? _ = _
    rw [h]; rfl
theorem q15_ev {a0 a1 a2 : Int} (hn : G[n]? = some (.lst false [.int a0, .int a1, .int a2])) (h1 : a1 ≤ a0) (h2 : a2 ≤ a1) (t1 : tr (S.dp code 30) (.ref r) G = .ok b G) (hb : b = decide (a1 ≤ w)) :
    (q15 (S.dp code 30)).ev [x0, x1, x2, x3, some (.ref r), x5, x6, x7, some (.ref n), x9, x10, x11, x12, x13, x14, some (.int w), x16, x17, x18, x19] G = .nx [x0, x1, x2, x3, some (.ref r), x5, x6, x7, some (.ref n), x9, x10, x11, x12, x13, x14, some (.int w), x16, x17, x18, x19] G := by
  obtain ⟨i0, i1, i2⟩ := idx_l3 hn
  simp [q15, i0, i1, i2, h1, h2, t1, hb, ne_bl]
end
end LawX
namespace LawX
open PySem PySem.Spec L2 VM
section
variable {S : Sx} {G Ga Gb Gc Gd Ge Gf : Gh} {v v' v'' f e l de w lag k : Int} {D D' : Va} {m m1 m2 r r1 r2 r3 rs n : Nat} {b bs b1 b2 b3 : Bool}
variable {x0 x1 x2 x3 x4 x5 x6 x7 x8 x9 x10 x11 x12 x13 x14 x15 x16 x17 x18 x19 : Option Va}
def u2 (S : Sx) : CS S := sIf (cNot (cBi bAll (aCons (cLc (cRng2 (cI 1) (cBin .Add (cVar 12) (cI 1))) (gNm 18) t0 (cMth 3 (cVar 4) (aCons (cVar 16) (aCons (cVar 18) aNil))) [("one", 18)]) aNil))) (bCons (sRet (cB false)) bNil) bNil
def u3 (S : Sx) : CS S := sLcS 17 (cItV (cBin .Add (cBt bList (aCons (cAtt (cVar 4) 4) aNil)) (cLst (aCons (cAtt (cVar 4) 5) (aCons (cAtt (cVar 4) 6) (aCons (cAtt (cVar 4) 7) aNil)))))) (gNm 19) t0 (cCall 14 (aCons (cBin .Add (cIdx (cVar 19) (cI 0)) (cBin .Mult (cI 5) (cIdx (cVar 19) (cI 1)))) (aCons (cIdx (cVar 19) (cI 1)) aNil))) [("time", 19)]
def u4 (S : Sx) : CS S := sIf (cNot (cMth 3 (cNew 2 (aCons (cSl (cVar 17) none (some (cNeg (cI 3)))) (aCons (cIdx (cVar 17) (cNeg (cI 3))) (aCons (cIdx (cVar 17) (cNeg (cI 2))) (aCons (cIdx (cVar 17) (cNeg (cI 1))) aNil))))) (aCons (cVar 16) (aCons (cVar 12) aNil)))) (bCons (sRet (cB false)) bNil) bNil
theorem q13_eq : q13 S = sIf (cBi bIsi (aCons (cVar 4) (aCons (cCl 2) aNil))) (bCons (sAsg (gNm 16) (cNew 0 (aCons (cVar 13) (aCons (cVar 14) (aCons (cVar 15) (aCons (cVar 3) aNil)))))) (bCons (u2 S) (bCons (u3 S) (bCons (u4 S) bNil)))) bNil := rfl
theorem isi_cl (T : Tb S) {c : Nat} {fs : List (Nat × Va)} (hc : c = 1 ∨ c = 2) (h : G[r]? = some (.ins c fs)) : (bIsi : Bop (S.dp code 30) (.builtin "isinstance")).op [.ref r, .cl 2] G = some (.bl (decide (c = 2)), G) := by
  show (((tagO G[r]?).bind fun t => tagIs (S.dp code 30) t (.cl 2)).map fun b => (Va.bl b, G)) = _
  rw [h]
  show ((if 2 < S.nc ∧ (c, 2) ∈ S.isl then some (S.sub c 2) else none).map fun b => (Va.bl b, G)) = _
  rw [T.nc, T.isl, T.sub]
  rcases hc with rfl | rfl
  · rw [if_pos (by decide)]; rfl
  · rw [if_pos (by decide)]; rfl
theorem u2_ev (T : Tb S) {fs : List (Nat × Va)} (hlag : 1 ≤ lag) (hlag2 : lag ≤ 20) (hr : G[r]? = some (.ins 2 fs)) (hs : ∀ i, 1 ≤ i → i ≤ lag → ∀ t, ∃ t', callF S code 30 25 [.ref r, .ref m, .int i] (G ++ t) = .ok (.bl true) (G ++ t ++ t')) :
    ∃ t, (u2 (S.dp code 30)).ev [x0, x1, x2, x3, some (.ref r), x5, x6, x7, x8, x9, x10, x11, some (.int lag), x13, x14, x15, some (.ref m), x17, x18, x19] G = .nx [x0, x1, x2, x3, some (.ref r), x5, x6, x7, x8, x9, x10, x11, some (.int lag), x13, x14, x15, some (.ref m), x17, x18, x19] (G ++ t) := by
  have hb : (big 1 && big (lag + 1)) = true := by unfold big; simp only [Bool.and_eq_true, decide_eq_true_eq]; omega
  have hr2 : rng2 (.int 1) (.int (lag + 1)) G = .ok (.rng 1 (lag + 1 - 1).toNat) G := by
    show rngR _ (big 1 && big (lag + 1)) 1 _ = _
    unfold rngR; rw [if_pos hb]
  have lr := (List.getElem?_eq_some_iff.mp hr).1
  obtain ⟨t, ht⟩ := lcE_all (G := G) (G0 := G) (L := [x0, x1, x2, x3, some (.ref r), x5, x6, x7, x8, x9, x10, x11, some (.int lag), x13, x14, x15, some (.ref m), x17, x18, x19]) (vs := [18]) (it := (cRng2 (cI 1) (cBin .Add (cVar 12) (cI 1)) : CI (S.dp code 30)).ev) (g := (gNm 18 : CG (S.dp code 30)).ev) (tt := (t0 : CT (S.dp code 30)).ev)
    (te := (cMth 3 (cVar 4) (aCons (cVar 16) (aCons (cVar 18) aNil)) : CE (S.dp code 30)).ev) (src := .rng 1 (lag + 1 - 1).toNat) (xs := (List.range (lag + 1 - 1).toNat).map fun (j : Nat) => Va.int (1 + j)) (f := fun _ => [.bl true]) (by simp only [cRng2_ev, cI_ev, Res.bind_ok, cBin_ev, cVar_ev, List.getElem?_cons_succ, List.getElem?_cons_zero, getL_ok, add_int, lift_ok, hr2]) (fun i o t => nxt_rng)
    (fun v acc t hv ha => by
      obtain ⟨j, h1, rfl⟩ := List.mem_map.mp hv
      have hj := List.mem_range.mp h1
      obtain ⟨t', e⟩ := hs (1 + j) (by omega) (by omega) (.lst false acc :: t)
      have e' : callF S code 30 25 [.ref r, .ref m, .int (1 + (j : Int))] (G ++ .lst false acc :: t) = .ok (.bl true) (G ++ .lst false acc :: (t ++ t')) := by rw [e]; simp
      have hm : (G ++ VO.lst false acc :: t)[r]? = some (.ins 2 fs) := by rw [at_old lr]; exact hr
      exact ⟨t ++ t', lcT_yes (t1 := t) (t2 := t) (t3 := t ++ t') (L2 := [x0, x1, x2, x3, some (.ref r), x5, x6, x7, x8, x9, x10, x11, some (.int lag), x13, x14, x15, some (.ref m), x17, some (.int (1 + (j : Int))), x19]) (by simp [wipeL]) rfl (by simp [hm, T.cd, cdF, List.lookup, e']) ha⟩)
    (fun _ _ => Nat.le_refl _) (by simp; omega)
  rw [flat_true] at ht
  have o1 := all_op (S := S.dp code 30) (at_d (G := G) (t := t) (o := .lst false ((List.replicate ((List.range (lag + 1 - 1).toNat).map fun (j : Nat) => Va.int (1 + j)).length true).map Va.bl)))
  rw [rep_true] at o1
  generalize VO.lst false ((List.replicate ((List.range (lag + 1 - 1).toNat).map fun (j : Nat) => Va.int (1 + j)).length true).map Va.bl) = O at *
  exact ⟨O :: t, by simp [u2, ht, o1]⟩
def sh5 : Va → List Va
  | .tup [.int x, .int y] => [fr (x + 5 * y) y]
  | _ => []
theorem sh5_fr {X Y : Int} (h : 0 < Y) : sh5 (fr X Y) = [fr (X + 5 * Y) Y] := by
  show [fr (na X Y + 5 * da X Y) (da X Y)] = _
  have r := red X Y
  have d := da_pos (x := X) h
  congr 1
  refine fr_eq d h ?_
  rw [Int.add_mul, Int.add_mul, r]
  congr 1
  ac_rfl
theorem list_op {xs : List Va} : (bList : Bop S (.type "list")).op [.tup xs] G = some (.ref G.length, G ++ [.lst false xs]) := rfl
theorem u3_ev {ts : List Va} {a b c : Va} (hr : G[r]? = some (shO ts a b c)) (hl : ts.length ≤ 100) (hx : ∀ v ∈ ts ++ [a, b, c], ∃ X Y, 0 ≤ X ∧ 0 < Y ∧ Y ≤ 8000000000 ∧ v = fr X Y) :
    ∃ q t, (u3 (S.dp code 30)).ev [x0, x1, x2, x3, some (.ref r), x5, x6, x7, x8, x9, x10, x11, x12, x13, x14, x15, x16, x17, x18, x19] G = .nx [x0, x1, x2, x3, some (.ref r), x5, x6, x7, x8, x9, x10, x11, x12, x13, x14, x15, x16, some (.ref q), x18, x19] (G ++ t) ∧ (G ++ t)[q]? = some (.lst false ((ts ++ [a, b, c]).flatMap sh5)) := by
  have lr := (List.getElem?_eq_some_iff.mp hr).1
  have r1 : (G ++ [VO.lst false ts])[r]? = some (shO ts a b c) := by rw [at_old lr]; exact hr
  have m1 : (G ++ [VO.lst false ts, .lst false [a, b, c]])[G.length]? = some (.lst false ts) := by simp
  have m2 : (G ++ [VO.lst false ts, .lst false [a, b, c]])[G.length + 1]? = some (.lst false [a, b, c]) := by simp
  have ad : binF .Add (.ref G.length) (.ref (G.length + 1)) (G ++ [VO.lst false ts, .lst false [a, b, c]]) = some (.ref (G.length + 2), G ++ [VO.lst false ts, .lst false [a, b, c], .lst false (ts ++ [a, b, c])]) := by
    show addL (mlsO _) (mlsO _) _ = _
    rw [m1, m2]
    show addL (some ts) (some [a, b, c]) _ = _
    unfold addL
    simp [sizeLine_eq]
    omega
  have g3 : (G ++ [VO.lst false ts, .lst false [a, b, c], .lst false (ts ++ [a, b, c])])[G.length + 2]? = some (.lst false (ts ++ [a, b, c])) := by simp
  generalize hG3 : G ++ [VO.lst false ts, .lst false [a, b, c], .lst false (ts ++ [a, b, c])] = G3 at *
  have sv : srcV (.ref (G.length + 2)) G3 = some (.ob (G.length + 2)) := by show srcO _ G3[_]? = _; rw [g3]; rfl
  obtain ⟨t, ht⟩ := lcE_all (G := G3) (G0 := G) (L := [x0, x1, x2, x3, some (.ref r), x5, x6, x7, x8, x9, x10, x11, x12, x13, x14, x15, x16, x17, x18, x19]) (vs := [19]) (it := (cItV (cBin .Add (cBt bList (aCons (cAtt (cVar 4) 4) aNil)) (cLst (aCons (cAtt (cVar 4) 5) (aCons (cAtt (cVar 4) 6) (aCons (cAtt (cVar 4) 7) aNil))))) : CI (S.dp code 30)).ev) (g := (gNm 19 : CG (S.dp code 30)).ev) (tt := (t0 : CT (S.dp code 30)).ev)
    (te := (cCall 14 (aCons (cBin .Add (cIdx (cVar 19) (cI 0)) (cBin .Mult (cI 5) (cIdx (cVar 19) (cI 1)))) (aCons (cIdx (cVar 19) (cI 1)) aNil)) : CE (S.dp code 30)).ev) (src := .ob (G.length + 2)) (xs := ts ++ [a, b, c]) (f := sh5) (by
      have e : ∀ (o : List VO), (G ++ [VO.lst false ts]) ++ o = G ++ VO.lst false ts :: o := fun o => by simp
      simp [hr, shO, List.lookup, list_op, r1]
      rw [ad]
      simp [sv]) (fun i o t => nxt_ob g3)
    (fun v acc t hv ha => by
      obtain ⟨X, Y, h0, h1, h2, rfl⟩ := hx v hv
      have d := da_pos (x := X) h1
      have dl := da_le (x := X) h1
      have nn := na_nn h1 h0
      have e := w_low (S := S) (G := G3 ++ .lst false acc :: t) (X := na X Y + 5 * da X Y) (Y := da X Y) d (by omega) (by omega)
      have s5 : sm 5 := by unfold sm; omega
      exact ⟨t, lcT_yes (t1 := t) (t2 := t) (t3 := t) (L2 := [x0, x1, x2, x3, some (.ref r), x5, x6, x7, x8, x9, x10, x11, x12, x13, x14, x15, x16, x17, x18, some (fr X Y)]) (by simp [wipeL]) rfl (by simp [fr_0, fr_1, s5, e]) ha⟩)
    (fun v hv => by
      obtain ⟨X, Y, h0, h1, h2, rfl⟩ := hx v hv
      rw [sh5_fr h1]; exact Nat.le_refl _) (by simp; omega)
  refine ⟨G3.length, [VO.lst false ts, .lst false [a, b, c], .lst false (ts ++ [a, b, c])] ++ .lst false ((ts ++ [a, b, c]).flatMap sh5) :: t, ?_, ?_⟩
  · rw [← List.append_assoc, hG3]
    generalize VO.lst false ((ts ++ [a, b, c]).flatMap sh5) = O at *
    simp [u3, ht]
  · rw [← List.append_assoc, hG3]
    exact at_d
end
end LawX
namespace LawX
open PySem PySem.Spec L2 VM
section
variable {S : Sx} {G Ga Gb Gc Gd Ge Gf : Gh} {v v' v'' f e l de w al be c lag : Int} {D D' : Va} {m m1 m2 r r1 r2 r3 rs n q k : Nat} {b bs b1 b2 b3 : Bool}
variable {x0 x1 x2 x3 x4 x5 x6 x7 x8 x9 x10 x11 x12 x13 x14 x15 x16 x17 x18 x19 : Option Va}
theorem sl_m3 {ts : List Va} {x y z : Va} (h : G[q]? = some (.lst false (ts ++ [x, y, z]))) : opSl none (some (-3)) (.ref q) G = some (.ref G.length, G ++ [.lst false ts]) := by
  show slO G none (some (-3)) (lstO G[q]?) = _
  rw [h]
  show some (Va.ref G.length, G ++ [VO.lst false (cut (ts ++ [x, y, z]) none (some (-3)))]) = _
  have e : cut (ts ++ [x, y, z]) none (some (-3)) = ts := by
    unfold cut
    have e1 : HT.sIx (ts ++ [x, y, z]).length (ts ++ [x, y, z]).length (some (-3)) = ts.length := by
      show (if (-3 : Int) < 0 then ((-3 : Int) + (((ts ++ [x, y, z]).length : Nat) : Int)).toNat else min (Int.toNat (-3)) (ts ++ [x, y, z]).length) = _
      rw [if_pos (by decide)]
      simp only [List.length_append, List.length_cons, List.length_nil]
      omega
    rw [e1, HT.sIx_none, List.drop_zero, Nat.sub_zero]
    simp
  rw [e]
theorem idx_neg {fz : Bool} {xs : List Va} {i : Int} {j : Nat} {x : Va} (h : G[q]? = some (.lst fz xs)) (hi : i < 0) (hj : i + xs.length = j) (hx : xs[j]? = some x) : opIdx (.ref q) (.int i) G = some (x, G) := by
  show idxO G G[q]? (.int i) = _
  rw [h]
  show okV G (atI xs i) = _
  unfold atI ixN
  rw [if_neg (by omega), if_pos (by omega)]
  have e : (i + (xs.length : Int)).toNat = j := by omega
  rw [e]
  simp [okV, hx]
@[simp] theorem cSl_n3 {a : CE S} {L : Lo} : (cSl a none (some (cNeg (cI 3))) : CE S).ev L G = (a.ev L G).bind fun x G1 => lift (opSl none (some (-3)) x G1) := by
  show (a.ev L G).bind _ = _
  congr 1
theorem u4_ev (T : Tb S) (t : TC l de w al be) {X1 Y1 X2 Y2 X3 Y3 : Int} (sk : ShOk l de w al be c k X1 Y1 X2 Y2 X3 Y3) (hm : G[m]? = some (tmO l de w al be)) (hq : G[q]? = some (.lst false (tlc c (w * be) (be + al) k ++ [fr X1 Y1, fr X2 Y2, fr X3 Y3]))) (h1 : 1 ≤ lag) (h2 : lag ≤ 20) (hk : lag < k) :
    ∃ t, (u4 (S.dp code 30)).ev [x0, x1, x2, x3, x4, x5, x6, x7, x8, x9, x10, x11, some (.int lag), x13, x14, x15, some (.ref m), some (.ref q), x18, x19] G = .nx [x0, x1, x2, x3, x4, x5, x6, x7, x8, x9, x10, x11, some (.int lag), x13, x14, x15, some (.ref m), some (.ref q), x18, x19] (G ++ t) := by
  have s0 := sl_m3 hq
  have lq := (List.getElem?_eq_some_iff.mp hq).1
  have lm := (List.getElem?_eq_some_iff.mp hm).1
  generalize hts : tlc c (w * be) (be + al) k = ts at *
  have q1 : (G ++ [VO.lst false ts])[q]? = some (.lst false (ts ++ [fr X1 Y1, fr X2 Y2, fr X3 Y3])) := by rw [at_old lq]; exact hq
  have i3 := idx_neg (i := -3) (j := ts.length) (x := fr X1 Y1) q1 (by decide) (by simp only [List.length_append, List.length_cons, List.length_nil]; omega) (by simp)
  have i2 := idx_neg (i := -2) (j := ts.length + 1) (x := fr X2 Y2) q1 (by decide) (by simp only [List.length_append, List.length_cons, List.length_nil]; omega) (by simp)
  have i1 := idx_neg (i := -1) (j := ts.length + 2) (x := fr X3 Y3) q1 (by decide) (by simp only [List.length_append, List.length_cons, List.length_nil]; omega) (by simp)
  have g1 : (G ++ [VO.lst false ts])[G.length]? = some (.lst false ts) := at_d
  have m1 : (G ++ [VO.lst false ts])[m]? = some (tmO l de w al be) := by rw [at_old lm]; exact hm
  have lG : G ++ ([VO.lst false ts] : Gh) ++ [shO ts (fr X1 Y1) (fr X2 Y2) (fr X3 Y3)] = G ++ [VO.lst false ts, shO ts (fr X1 Y1) (fr X2 Y2) (fr X3 Y3)] := by simp
  generalize hG1 : G ++ ([VO.lst false ts] : Gh) = G1 at *
  have nw : newV (S.dp code 30) 2 [.ref G.length, fr X1 Y1, fr X2 Y2, fr X3 Y3] G1 = .ok (.ref G1.length) (G1 ++ [shO ts (fr X1 Y1) (fr X2 Y2) (fr X3 Y3)]) := v_short (S := S) (d := 29) (G := G1) (n := G.length) (m := fr X1 Y1) (c := fr X2 Y2) (u := fr X3 Y3) T g1
  have lm1 := (List.getElem?_eq_some_iff.mp m1).1
  have m2 : (G1 ++ [shO ts (fr X1 Y1) (fr X2 Y2) (fr X3 Y3)])[m]? = some (tmO l de w al be) := by rw [at_old lm1]; exact m1
  have r2 : (G1 ++ [shO ts (fr X1 Y1) (fr X2 Y2) (fr X3 Y3)])[G1.length]? = some (shO ts (fr X1 Y1) (fr X2 Y2) (fr X3 Y3)) := at_d
  have r2' := r2
  rw [← hts] at r2'
  obtain ⟨t', hs⟩ := v_shows (d := 26) T t m2 sk (by rw [← hts] at r2 ⊢; exact r2) h1 h2 hk
  generalize hG2 : G1 ++ [shO ts (fr X1 Y1) (fr X2 Y2) (fr X3 Y3)] = G2 at *
  refine ⟨[VO.lst false ts, shO ts (fr X1 Y1) (fr X2 Y2) (fr X3 Y3)] ++ t', ?_⟩
  rw [← List.append_assoc, ← lG]
  have ins : ∃ fs, G2[G1.length]? = some (.ins 2 fs) := ⟨_, r2⟩
  obtain ⟨fs, ins⟩ := ins
  have hs : callF S code 30 25 [.ref G1.length, .ref m, .int lag] G2 = .ok (.bl true) (G2 ++ t') := hs
  have e0 : (cSl (cVar 17) none (some (cNeg (cI 3))) : CE (S.dp code 30)).ev [x0, x1, x2, x3, x4, x5, x6, x7, x8, x9, x10, x11, some (.int lag), x13, x14, x15, some (.ref m), some (.ref q), x18, x19] G = .ok (.ref G.length) G1 := by
    rw [cSl_n3]
    simp [s0]
  simp [u4, e0, i3, i2, i1, nw, ins, T.cd, cdF, List.lookup, hs]
theorem sh5_tlc {P A : Int} (hA : 0 < A) {k : Nat} : (tlc 0 P A k).flatMap sh5 = tlc 5 P A k := by
  unfold tlc
  induction (List.range (k + 1)) with
  | nil => rfl
  | cons j js ih =>
    rw [List.map_cons, List.flatMap_cons, ih, sh5_fr hA, List.map_cons]
    simp
end
end LawX
namespace LawX
open PySem PySem.Spec L2 VM
section
variable {S : Sx} {G Ga Gb Gc Gd Ge Gf : Gh} {v v' v'' f e l de w al be c lag : Int} {D D' : Va} {m m1 m2 r r1 r2 r3 rs n q k : Nat} {b bs b1 b2 b3 : Bool}
variable {x0 x1 x2 x3 x4 x5 x6 x7 x8 x9 x10 x11 x12 x13 x14 x15 x16 x17 x18 x19 : Option Va}
theorem sh0 (t : TC l de w al be) (hN : NN l de w al be lag < 0) (h1 : 1 ≤ lag) (h2 : lag ≤ 20) : ShOk l de w al be 0 (kk lag) (mdX l de w al be lag) (mdY l de w al be lag) (cmX l de w al be lag) (mdY l de w al be lag) (usX l de w al be lag).1 (usX l de w al be lag).2 := by
  have h := sh_ok (c := 0) t hN h1 h2 (Int.le_refl _) (by decide)
  simpa only [Int.zero_mul, Int.add_zero] using h
theorem kk_lt (h1 : 1 ≤ lag) : lag < kk lag := by unfold kk; omega
theorem q13_ev (T : Tb S) (t : TC l de w al be) (hr : G[r]? = some (judO l de w al be lag)) (h1 : 1 ≤ lag) (h2 : lag ≤ 20) :
    ∃ y16 y17 t, (q13 (S.dp code 30)).ev [x0, x1, x2, some (.tup [.int al, .int be]), some (.ref r), x5, x6, x7, x8, x9, x10, x11, some (.int lag), some (.int l), some (.int de), some (.int w), x16, x17, x18, x19] G = .nx [x0, x1, x2, some (.tup [.int al, .int be]), some (.ref r), x5, x6, x7, x8, x9, x10, x11, some (.int lag), some (.int l), some (.int de), some (.int w), y16, y17, x18, x19] (G ++ t) := by
  unfold judO at hr
  by_cases hN : 0 ≤ NN l de w al be lag
  · rw [if_pos hN] at hr
    have i := isi_cl T (.inl rfl) hr
    exact ⟨x16, x17, [], by simp [q13_eq, i]⟩
  · rw [if_neg hN] at hr
    have lr := (List.getElem?_eq_some_iff.mp hr).1
    have i := isi_cl T (.inr rfl) hr
    have s0 := sh0 t (by omega) h1 h2
    have y := t.mY (lag := lag)
    obtain ⟨t1, e1⟩ := w_new (S := S) (G := G) T t
    have hm : (G ++ tmO l de w al be :: t1)[G.length]? = some (tmO l de w al be) := at_d
    have hr1 : (G ++ tmO l de w al be :: t1)[r]? = some (shOf l de w al be lag) := by rw [at_old lr]; exact hr
    generalize hG1 : G ++ tmO l de w al be :: t1 = G1 at *
    have lm1 := (List.getElem?_eq_some_iff.mp hm).1
    have lr1 := (List.getElem?_eq_some_iff.mp hr1).1
    obtain ⟨t2, e2⟩ := u2_ev (x0 := x0) (x1 := x1) (x2 := x2) (x3 := some (.tup [.int al, .int be])) (x5 := x5) (x6 := x6) (x7 := x7) (x8 := x8) (x9 := x9) (x10 := x10) (x11 := x11) (x13 := some (.int l)) (x14 := some (.int de)) (x15 := some (.int w)) (x17 := x17) (x18 := x18) (x19 := x19) T h1 h2 hr1 (m := G.length) (fun j j1 j2 tt => by
      have a1 : (G1 ++ tt)[G.length]? = some (tmO l de w al be) := by rw [at_old lm1]; exact hm
      have a2 : (G1 ++ tt)[r]? = some (shO (tlc 0 (w * be) (be + al) (kk lag)) (fr (mdX l de w al be lag) (mdY l de w al be lag)) (fr (cmX l de w al be lag) (mdY l de w al be lag)) (fr (usX l de w al be lag).1 (usX l de w al be lag).2)) := by
        rw [at_old lr1, hr1, ← tl_tlc]; rfl
      have kl := kk_lt h1
      exact v_shows (d := 26) T t a1 s0 a2 j1 (by omega) (by omega))
    have hm2 : (G1 ++ t2)[G.length]? = some (tmO l de w al be) := by rw [at_old lm1]; exact hm
    have hr2 : (G1 ++ t2)[r]? = some (shOf l de w al be lag) := by rw [at_old lr1]; exact hr1
    generalize hG2 : G1 ++ t2 = G2 at *
    have lm2 := (List.getElem?_eq_some_iff.mp hm2).1
    obtain ⟨q, t3, e3, hq⟩ := u3_ev (S := S) (x0 := x0) (x1 := x1) (x2 := x2) (x3 := some (.tup [.int al, .int be])) (x5 := x5) (x6 := x6) (x7 := x7) (x8 := x8) (x9 := x9) (x10 := x10) (x11 := x11) (x12 := some (.int lag)) (x13 := some (.int l)) (x14 := some (.int de)) (x15 := some (.int w)) (x16 := some (.ref G.length)) (x17 := x17) (x18 := x18) (x19 := x19) hr2 (by unfold tls; rw [tl_len]; unfold kk; omega) (fun v hv => by
      have a := t.sum
      have wb := t.wb
      rcases List.mem_append.mp hv with hv | hv
      · unfold tls at hv
        rw [tl_tlc] at hv
        obtain ⟨j, _, rfl⟩ := tlc_mem hv
        refine ⟨_, _, ?_, a.1, by omega, rfl⟩
        have := Int.mul_nonneg (by omega : (0 : Int) ≤ (j : Int)) (Int.le_of_lt wb.1)
        omega
      · simp only [List.mem_cons, List.not_mem_nil, or_false] at hv
        rcases hv with rfl | rfl | rfl
        · exact ⟨_, _, s0.x1, s0.y1.1, s0.y1.2, rfl⟩
        · exact ⟨_, _, s0.x2, s0.y2.1, s0.y2.2, rfl⟩
        · exact ⟨_, _, s0.x3, s0.y3.1, s0.y3.2, rfl⟩)
    have hq : (G2 ++ t3)[q]? = some (.lst false (tlc 5 (w * be) (be + al) (kk lag) ++ [fr (mdX l de w al be lag + 5 * mdY l de w al be lag) (mdY l de w al be lag), fr (cmX l de w al be lag + 5 * mdY l de w al be lag) (mdY l de w al be lag), fr ((usX l de w al be lag).1 + 5 * (usX l de w al be lag).2) (usX l de w al be lag).2])) := by
      rw [hq]
      unfold tls
      rw [tl_tlc, List.flatMap_append, sh5_tlc t.sum.1]
      simp only [List.flatMap_cons, List.flatMap_nil, sh5_fr s0.y1.1, sh5_fr s0.y2.1, sh5_fr s0.y3.1, List.singleton_append, List.cons_append, List.nil_append]
    have hm3 : (G2 ++ t3)[G.length]? = some (tmO l de w al be) := by rw [at_old lm2]; exact hm2
    generalize hG3 : G2 ++ t3 = G3 at *
    obtain ⟨t4, e4⟩ := u4_ev (x0 := x0) (x1 := x1) (x2 := x2) (x3 := some (.tup [.int al, .int be])) (x4 := some (.ref r)) (x5 := x5) (x6 := x6) (x7 := x7) (x8 := x8) (x9 := x9) (x10 := x10) (x11 := x11) (x13 := some (.int l)) (x14 := some (.int de)) (x15 := some (.int w)) (x18 := x18) (x19 := x19) T t (sh_ok (c := 5) t (by omega) h1 h2 (by decide) (by decide)) hm3 hq h1 h2 (kk_lt h1)
    refine ⟨some (.ref G.length), some (.ref q), tmO l de w al be :: t1 ++ (t2 ++ (t3 ++ t4)), ?_⟩
    rw [← List.append_assoc, hG1, ← List.append_assoc, hG2, ← List.append_assoc, hG3]
    simp [q13_eq, i, e1, e2, e3, e4]
end
end LawX
namespace LawX
open PySem PySem.Spec L2 VM
section
variable {S : Sx} {G G' Ga Gb Gc Gd Ge Gf : Gh} {v v' v'' f e l de w al be c lag : Int} {D D' : Va} {m m1 m2 r r1 r2 r3 rs n q k : Nat} {b bs b1 b2 b3 : Bool} {ns : List Int}
variable {x0 x1 x2 x3 x4 x5 x6 x7 x8 x9 x10 x11 x12 x13 x14 x15 x16 x17 x18 x19 : Option Va}
def tC (S : Sx) : CB S := bCons (q9 S) (bCons (q10 S) (bCons (q11 S) (bCons (q12 S) (bCons (q13 S) (bCons (q14 S) (bCons (q15 S) (bCons (q16 S) (bCons (q17 S) (bCons (q18 S) (bCons (q19 S) (bCons (q20 S) bNil)))))))))))
theorem ll_is (t : TC l de w al be) {k : Int} (hk : 2 ≤ k) (h1 : 0 ≤ NN l de w al be k) (h2 : ¬ 0 ≤ NN l de w al be (k - 1)) : llag l de w al be = k := by
  have a := (llag_le t (by omega : 1 ≤ k)).mpr h1
  have b : ¬ llag l de w al be ≤ k - 1 := fun z => h2 ((llag_le t (by omega)).mp z)
  omega
/-- the terms of q17, q18 -/
theorem tc_01 {x k w : Int} (hx : 0 < x) (hx1 : x ≤ 1000000) (hk : 0 ≤ k) (hk1 : k ≤ 1000000) (hw : 0 < w) (hw1 : w ≤ 1000000) : TC x k w 0 1 := ⟨hx, hx1, hk, hk1, hw, hw1, by omega, by omega, by omega, by decide⟩
theorem run_D (T : Tb S) (t : TC l de w al be) (hw : w ≤ 90) (hde : de ≤ 30) (hlag : 1 ≤ lag) (hlag2 : lag ≤ 6) (hr : G[r]? = some (judO l de w al be lag)) :
    ∃ Gz, (bCons (q16 (S.dp code 30)) (bCons (q17 (S.dp code 30)) (bCons (q18 (S.dp code 30)) (bCons (q19 (S.dp code 30)) (bCons (q20 (S.dp code 30)) bNil)))) : CB (S.dp code 30)).ev [x0, x1, x2, some (.tup [.int al, .int be]), some (.ref r), x5, x6, x7, x8, x9, x10, x11, some (.int lag), some (.int l), some (.int de), some (.int w), x16, x17, x18, x19] G = .rt (.bl true) Gz := by
  have w0 := t.w0
  have d0 := t.d0
  rw [bCons_ev, q16_ev, sq_nx]
  have hk : 0 ≤ imin de w ∧ imin de w ≤ w ∧ imin de w ≤ 30 := by unfold imin; split <;> omega
  generalize imin de w = k at *
  have lr := (List.getElem?_eq_some_iff.mp hr).1
  have c1 : TC (20 * w - k) k w 0 1 := tc_01 (by omega) (by omega) (by omega) (by omega) (by omega) (by omega)
  have c2 : TC (20 * w - k + 1) k w 0 1 := tc_01 (by omega) (by omega) (by omega) (by omega) (by omega) (by omega)
  have c3 : TC (19 * w - k + 1) k w 0 1 := tc_01 (by omega) (by omega) (by omega) (by omega) (by omega) (by omega)
  obtain ⟨i1, t1, a1, a2⟩ := w_llag (S := S) (G := G) T c1
  rw [ll_is c1 (k := 20) (by decide) (by rw [NN_01]; omega) (by rw [NN_01]; omega), if_pos (by decide)] at a2
  have hr1 : (G ++ t1)[r]? = some (judO l de w al be lag) := by rw [at_old lr]; exact hr
  generalize hG1 : G ++ t1 = G1 at *
  obtain ⟨i2, t2, b1, b2⟩ := w_llag (S := S) (G := G1) T c2
  rw [if_neg (fun z => by have := (llag_le c2 (by decide)).mp z; rw [NN_01] at this; omega)] at b2
  have lr1 := (List.getElem?_eq_some_iff.mp hr1).1
  have hr2 : (G1 ++ t2)[r]? = some (judO l de w al be lag) := by rw [at_old lr1]; exact hr1
  generalize hG2 : G1 ++ t2 = G2 at *
  rw [bCons_ev, q17_ev a1 a2 b1 b2, sq_nx]
  obtain ⟨i3, t3, d1, d2⟩ := w_llag (S := S) (G := G2) T c3
  rw [ll_is c3 (k := 20) (by decide) (by rw [NN_01]; omega) (by rw [NN_01]; omega), if_pos (by decide)] at d2
  have lr2 := (List.getElem?_eq_some_iff.mp hr2).1
  have hr3 : (G2 ++ t3)[r]? = some (judO l de w al be lag) := by rw [at_old lr2]; exact hr2
  generalize hG3 : G2 ++ t3 = G3 at *
  rw [bCons_ev, q18_ev d1 d2, sq_nx]
  obtain ⟨i4, t4, e1, e2⟩ := w_llag (S := S) (G := G3) T t
  have lr3 := (List.getElem?_eq_some_iff.mp hr3).1
  have hr4 : (G3 ++ t4)[r]? = some (judO l de w al be lag) := by rw [at_old lr3]; exact hr3
  generalize hG4 : G3 ++ t4 = G4 at *
  rw [bCons_ev, q19_ev e1 e2, sq_nx]
  refine ⟨G4, ?_⟩
  rw [bCons_ev, q20_ev ⟨fun h => ⟨trivial, h⟩, fun h => h.2⟩ (tr_jud T hr4) (by
    by_cases z : 0 ≤ NN l de w al be lag
    · rw [decide_eq_true z, decide_eq_true ((llag_le t hlag).mpr z)]
    · rw [decide_eq_false z, decide_eq_false fun y => z ((llag_le t hlag).mp y)]) (by omega)]
  rfl
theorem run_C (T : Tb S) (t : TC l de w al be) (hl5 : l ≤ 50) (hw : w ≤ 90) (hde : de ≤ 30) (hlag : 1 ≤ lag) (hlag2 : lag ≤ 6) (hl : ns.length ≤ 63) (s : St G ns) (h2r : 2 ≤ r) (hr : G[r]? = some (judO l de w al be lag)) :
    ∃ Gz, (tC (S.dp code 30)).ev [x0, some (.ref 1), x2, some (.tup [.int al, .int be]), some (.ref r), x5, x6, x7, x8, x9, x10, x11, some (.int lag), some (.int l), some (.int de), some (.int w), x16, x17, x18, x19] G = .rt (.bl true) Gz := by
  have w0 := t.w0
  have d0 := t.d0
  have l0 := t.l0
  unfold tC
  obtain ⟨v, G1, v0, v1, c1, s1, k1⟩ := w_take (S := S) hl s (many := 900) (by decide)
  rw [bCons_ev, q9_ev c1, sq_nx]
  have hr1 := k1.get h2r hr
  generalize hk : 2 + v = k
  have k2 : 2 ≤ k ∧ k ≤ 901 := by omega
  have mb : ∀ x : Int, 0 ≤ x → x ≤ 90 → 0 ≤ x * k ∧ x * k ≤ 90 * 901 := fun x h1 h2 => mul_bd h1 h2 (by omega) (by omega)
  have tk : TC (l * k) (de * k) (w * k) al be := ⟨Int.mul_pos l0 (by omega), by have := mb l (by omega) (by omega); omega, (mb de (by omega) (by omega)).1, by have := mb de (by omega) (by omega); omega, Int.mul_pos w0 (by omega), by have := mb w (by omega) (by omega); omega, t.a0, t.ab, t.b1, t.cp⟩
  have lr1 := (List.getElem?_eq_some_iff.mp hr1).1
  obtain ⟨i1, rs, t1, t2, a1, a2, a3, a4⟩ := w_nj (S := S) (G := G1) (lag := lag) T tk hlag (by omega)
  rw [bCons_ev, q10_ev (by unfold sm; omega) a1 a2, sq_nx]
  have hr2 : (G1 ++ t1 ++ t2)[r]? = some (judO l de w al be lag) := by rw [List.append_assoc, at_old lr1]; exact hr1
  generalize hG2 : G1 ++ t1 ++ t2 = G2 at *
  have tl : TC l de (w * lag) al be := ⟨l0, by omega, d0, by omega, Int.mul_pos w0 (by omega), by
    have := mul_bd (a := w) (b := lag) (A := 90) (B := 6) (by omega) hw (by omega) hlag2
    omega, t.a0, t.ab, t.b1, t.cp⟩
  obtain ⟨i2, r', t3, t4, b1, b2, b3, b4⟩ := w_nj (S := S) (G := G2) (lag := 1) T tl (by decide) (by decide)
  have lr2 := (List.getElem?_eq_some_iff.mp hr2).1
  have ls2 := (List.getElem?_eq_some_iff.mp a3).1
  have hr3 : (G2 ++ t3 ++ t4)[r]? = some (judO l de w al be lag) := by rw [List.append_assoc, at_old lr2]; exact hr2
  have hs3 : (G2 ++ t3 ++ t4)[rs]? = some (judO (l * k) (de * k) (w * k) al be lag) := by rw [List.append_assoc, at_old ls2]; exact a3
  generalize hG3 : G2 ++ t3 ++ t4 = G3 at *
  have z1 : (0 ≤ NN (l * k) (de * k) (w * k) al be lag) ↔ 0 ≤ NN l de w al be lag := by
    rw [NN_sc]
    constructor
    · intro h; exact Int.nonneg_of_mul_nonneg_right h (by omega)
    · intro h; exact Int.mul_nonneg (by omega) h
  have y1 := tr_jud T a3
  have y2 := tr_jud T hr2
  have y3 := tr_jud T b3
  have y4 := tr_jud T hr3
  rw [decide_eq_decide.mpr z1] at y1
  rw [NN_one] at y3
  rw [bCons_ev, q11_ev (by unfold sm; omega) y1 y2 b1 b2 y3 y4, sq_nx]
  have D := t.D
  rw [bCons_ev, q12_ev (X := NN l de w al be lag) (Y := DD al be) (X' := NN (l * k) (de * k) (w * k) al be lag) (Y' := DD al be) (by unfold sm; omega) y4 (fun h => by
    have z := of_decide_eq_true h
    unfold judO at hr3 hs3
    rw [if_pos z] at hr3
    rw [if_pos (z1.mpr z)] at hs3
    refine ⟨hr3, hs3, ?_⟩
    have dp := da_pos (x := NN l de w al be lag) D.1
    have dl := da_le (x := NN l de w al be lag) D.1
    rw [w_low dp (by omega) (Int.mul_nonneg (na_nn D.1 z) (by omega))]
    congr 1
    refine fr_eq dp D.1 ?_
    rw [NN_sc]
    have rd := red (NN l de w al be lag) (DD al be)
    grind), sq_nx]
  obtain ⟨y16, y17, t5, e5⟩ := q13_ev (x0 := x0) (x1 := some (.ref 1)) (x2 := x2) (x5 := x5) (x6 := some (.int k)) (x7 := some (.ref rs)) (x8 := x8) (x9 := x9) (x10 := x10) (x11 := x11) (x16 := x16) (x17 := x17) (x18 := x18) (x19 := x19) T t hr3 hlag (by omega)
  rw [bCons_ev, e5, sq_nx]
  have lr3 := (List.getElem?_eq_some_iff.mp hr3).1
  have hr4 : (G3 ++ t5)[r]? = some (judO l de w al be lag) := by rw [at_old lr3]; exact hr3
  generalize hG4 : G3 ++ t5 = G4 at *
  have t1w : TC l de 1 al be := ⟨l0, by omega, d0, by omega, by decide, by decide, t.a0, t.ab, t.b1, t.cp⟩
  obtain ⟨t6, e6⟩ := q14_ev (S := S) (G := G4) (l := l) (de := de) (D := .tup [.int al, .int be]) (lag := lag) (x0 := x0) (x1 := some (.ref 1)) (x2 := x2) (x4 := some (.ref r)) (x5 := x5) (x6 := some (.int k)) (x7 := some (.ref rs)) (x8 := x8) (x9 := x9) (x10 := x10) (x11 := x11) (x15 := some (.int w)) (x16 := y16) (x17 := y17) (x18 := x18) (x19 := x19) (g := lw l de al be) (fun i hi G' => w_lwait T t1w (by omega) (by omega))
  rw [bCons_ev, e6, sq_nx]
  have lr4 := (List.getElem?_eq_some_iff.mp hr4).1
  have hn : (G4 ++ VO.lst false [.int (lw l de al be 1), .int (lw l de al be lag), .int (lw l de al be (lag + 1))] :: t6)[G4.length]? = some (.lst false [.int (lw l de al be 1), .int (lw l de al be lag), .int (lw l de al be (lag + 1))]) := at_d
  have hr5 : (G4 ++ VO.lst false [.int (lw l de al be 1), .int (lw l de al be lag), .int (lw l de al be (lag + 1))] :: t6)[r]? = some (judO l de w al be lag) := by rw [at_old lr4]; exact hr4
  generalize hG5 : G4 ++ VO.lst false [.int (lw l de al be 1), .int (lw l de al be lag), .int (lw l de al be (lag + 1))] :: t6 = G5 at *
  rw [bCons_ev, q15_ev hn (lw_mono t (by decide) hlag) (lw_mono t hlag (by omega)) (tr_jud T hr5) (by rw [decide_eq_decide]; exact (lw_le t hlag).symm), sq_nx]
  exact run_D T t hw hde hlag hlag2 hr5
end
end LawX
namespace LawX
open PySem PySem.Spec L2 VM
section
variable {S : Sx} {G G' Ga Gb Gc Gd Ge Gf : Gh} {v v' v'' f e l de w al be c lag : Int} {D D' : Va} {m m1 m2 r r1 r2 r3 rs n q k : Nat} {b bs b1 b2 b3 : Bool} {ns : List Int}
variable {x0 x1 x2 x3 x4 x5 x6 x7 x8 x9 x10 x11 x12 x13 x14 x15 x16 x17 x18 x19 : Option Va}
theorem ef_tc {e f : Int} (h0 : 0 ≤ e) (h1 : e < f) (h2 : f ≤ 31) (l0 : 0 < l) (l1 : l ≤ 1000000) (d0 : 0 ≤ de) (d1 : de ≤ 1000000) (w0 : 0 < w) (w1 : w ≤ 1000000) : TC l de w (na e f) (da e f) := by
  have hf : 0 < f := by omega
  refine ⟨l0, l1, d0, d1, w0, w1, na_nn hf h0, ?_, by have := da_le (x := e) hf; omega, na_cop hf⟩
  have a := fr_n e f
  have b := fr_d e f
  have g := (fr_g (x := e) hf).1
  have z : igcd e f * na e f < igcd e f * da e f := by omega
  exact Int.lt_of_mul_lt_mul_left z (Int.le_of_lt g)
def tB (S : Sx) : CB S := bCons (q5 S) (bCons (q6 S) (bCons (q7 S) (bCons (q8 S) (tC S))))
theorem run_B (T : Tb S) (he0 : 0 ≤ e) (hef : e < f) (hf : f ≤ 31) (hl0 : 0 < l) (hl5 : l ≤ 50) (hw0 : 0 < w) (hw : w ≤ 90) (hde0 : 0 ≤ de) (hde : de ≤ 30) (hlag : 1 ≤ lag) (hlag2 : lag ≤ 6) (hl : ns.length ≤ 63) (s : St G ns) :
    ∃ Gz, (tB (S.dp code 30)).ev [some (.ref 0), some (.ref 1), some (.int f), some (fr e f), x4, x5, x6, x7, x8, x9, x10, some (.int e), some (.int lag), some (.int l), some (.int de), some (.int w), x16, x17, x18, x19] G = .rt (.bl true) Gz := by
  have t : TC l de w (na e f) (da e f) := ef_tc he0 hef hf hl0 (by omega) hde0 (by omega) hw0 (by omega)
  unfold tB
  have sl := s.len
  obtain ⟨i1, r, t1, t2, a1, a2, a3, a4⟩ := w_nj (S := S) (G := G) (lag := lag) T t hlag (by omega)
  rw [bCons_ev, q5_ev (D := fr e f) a1 a2, sq_nx]
  have s1 : St (G ++ t1 ++ t2) ns := by rw [List.append_assoc]; exact s.app
  have h2r : 2 ≤ r := by omega
  generalize hG1 : G ++ t1 ++ t2 = G1 at *
  obtain ⟨v, G2, v0, v1, c1, s2, k1⟩ := w_take (S := S) hl s1 (many := 9) (by decide)
  have hr2 := k1.get h2r a3
  have sl2 := s2.len
  have ta : TC l de (w + 1 + v) (na e f) (da e f) := ef_tc he0 hef hf hl0 (by omega) hde0 (by omega) (by omega) (by omega)
  obtain ⟨i2, r1, t3, t4, b1, b2, b3, b4⟩ := w_nj (S := S) (G := G2) (lag := lag) T ta hlag (by omega)
  have lr2 := (List.getElem?_eq_some_iff.mp hr2).1
  have hr3 : (G2 ++ t3 ++ t4)[r]? = some (judO l de w (na e f) (da e f) lag) := by rw [List.append_assoc, at_old lr2]; exact hr2
  have s3 : St (G2 ++ t3 ++ t4) ns := by rw [List.append_assoc]; exact s2.app
  have h2r1 : 2 ≤ r1 := by omega
  generalize hG3 : G2 ++ t3 ++ t4 = G3 at *
  obtain ⟨i3, r2, t5, t6, d1, d2, d3, d4⟩ := w_nj (S := S) (G := G3) (lag := lag + 1) T t (by omega) (by omega)
  have lr3 := (List.getElem?_eq_some_iff.mp hr3).1
  have lr31 := (List.getElem?_eq_some_iff.mp b3).1
  have hr4 : (G3 ++ t5 ++ t6)[r]? = some (judO l de w (na e f) (da e f) lag) := by rw [List.append_assoc, at_old lr3]; exact hr3
  have hr41 : (G3 ++ t5 ++ t6)[r1]? = some (judO l de (w + 1 + v) (na e f) (da e f) lag) := by rw [List.append_assoc, at_old lr31]; exact b3
  have s4 : St (G3 ++ t5 ++ t6) ns := by rw [List.append_assoc]; exact s3.app
  have sl3 := s3.len
  have h2r2 : 2 ≤ r2 := by omega
  generalize hG4 : G3 ++ t5 ++ t6 = G4 at *
  rw [bCons_ev, q6_ev (D := fr e f) c1 b1 b2 d1 d2, sq_nx]
  have s5 : St (G4 ++ [VO.lst false [.ref r1, .ref r2]]) ns := s4.app
  have lr4 := (List.getElem?_eq_some_iff.mp hr4).1
  have lr41 := (List.getElem?_eq_some_iff.mp hr41).1
  have lr42 := (List.getElem?_eq_some_iff.mp d3).1
  have hr5 : (G4 ++ [VO.lst false [.ref r1, .ref r2]])[r]? = some (judO l de w (na e f) (da e f) lag) := by rw [at_old lr4]; exact hr4
  have hr51 : (G4 ++ [VO.lst false [.ref r1, .ref r2]])[r1]? = some (judO l de (w + 1 + v) (na e f) (da e f) lag) := by rw [at_old lr41]; exact hr41
  have hr52 : (G4 ++ [VO.lst false [.ref r1, .ref r2]])[r2]? = some (judO l de w (na e f) (da e f) (lag + 1)) := by rw [at_old lr42]; exact d3
  have hn5 : (G4 ++ [VO.lst false [.ref r1, .ref r2]])[G4.length]? = some (.lst false [.ref r1, .ref r2]) := at_d
  have h2n : 2 ≤ G4.length := s4.len
  generalize hn : G4.length = n at *
  generalize hG5 : G4 ++ [VO.lst false [.ref r1, .ref r2]] = G5 at *
  obtain ⟨v2, G6, w0', w1', c2, s6, k6⟩ := w_take (S := S) hl s5 (many := l) hl0
  obtain ⟨v3, G7, y0, y1, c3, s7, k7⟩ := w_take (S := S) hl s6 (many := de + 1) (by omega)
  obtain ⟨v4, G8, z0, z1, c4, s8, k8⟩ := w_take (S := S) hl s7 (many := e + 1) (by omega)
  have kk := (k6.trans k7).trans k8
  have hr8 := kk.get h2r hr5
  have hr81 := kk.get h2r1 hr51
  have hr82 := kk.get h2r2 hr52
  have hn8 := kk.get h2n hn5
  have tb : TC (1 + v2) v3 w (na v4 f) (da v4 f) := ef_tc z0 (by omega) hf (by omega) (by omega) (by omega) (by omega) (by omega) (by omega)
  obtain ⟨i4, r3, t7, t8, e1, e2, e3, e4⟩ := w_nj (S := S) (G := G8) (lag := lag) T tb hlag (by omega)
  have lr8 := (List.getElem?_eq_some_iff.mp hr8).1
  have lr81 := (List.getElem?_eq_some_iff.mp hr81).1
  have lr82 := (List.getElem?_eq_some_iff.mp hr82).1
  have ln8 := (List.getElem?_eq_some_iff.mp hn8).1
  have hr9 : (G8 ++ t7 ++ t8)[r]? = some (judO l de w (na e f) (da e f) lag) := by rw [List.append_assoc, at_old lr8]; exact hr8
  have hr91 : (G8 ++ t7 ++ t8)[r1]? = some (judO l de (w + 1 + v) (na e f) (da e f) lag) := by rw [List.append_assoc, at_old lr81]; exact hr81
  have hr92 : (G8 ++ t7 ++ t8)[r2]? = some (judO l de w (na e f) (da e f) (lag + 1)) := by rw [List.append_assoc, at_old lr82]; exact hr82
  have hn9 : (G8 ++ t7 ++ t8)[n]? = some (.lst false [.ref r1, .ref r2]) := by rw [List.append_assoc, at_old ln8]; exact hn8
  have s9 : St (G8 ++ t7 ++ t8) ns := by rw [List.append_assoc]; exact s8.app
  generalize hG9 : G8 ++ t7 ++ t8 = G9 at *
  rw [bCons_ev, q7_ev (D := fr e f) (D' := fr v4 f) c2 c3 c4 (w_low (by omega) (by omega) z0) e1 e2 hn9, sq_nx]
  have ne1 : n ≠ r := fun z => by subst z; rw [hn9] at hr9; unfold judO at hr9; split at hr9 <;> cases hr9
  have ne2 : n ≠ r1 := fun z => by subst z; rw [hn9] at hr91; unfold judO at hr91; split at hr91 <;> cases hr91
  have ne3 : n ≠ r2 := fun z => by subst z; rw [hn9] at hr92; unfold judO at hr92; split at hr92 <;> cases hr92
  have ne4 : n ≠ r3 := fun z => by subst z; rw [hn9] at e3; unfold judO at e3; split at e3 <;> cases e3
  have hrA : ((G9 ++ [VO.lst false [.ref r3]]).set n (.lst false [.ref r1, .ref r2, .ref r3]))[r]? = some (judO l de w (na e f) (da e f) lag) := by rw [List.getElem?_set_ne ne1, at_old (List.getElem?_eq_some_iff.mp hr9).1]; exact hr9
  have hrA1 : ((G9 ++ [VO.lst false [.ref r3]]).set n (.lst false [.ref r1, .ref r2, .ref r3]))[r1]? = some (judO l de (w + 1 + v) (na e f) (da e f) lag) := by rw [List.getElem?_set_ne ne2, at_old (List.getElem?_eq_some_iff.mp hr91).1]; exact hr91
  have hrA2 : ((G9 ++ [VO.lst false [.ref r3]]).set n (.lst false [.ref r1, .ref r2, .ref r3]))[r2]? = some (judO l de w (na e f) (da e f) (lag + 1)) := by rw [List.getElem?_set_ne ne3, at_old (List.getElem?_eq_some_iff.mp hr92).1]; exact hr92
  have hrA3 : ((G9 ++ [VO.lst false [.ref r3]]).set n (.lst false [.ref r1, .ref r2, .ref r3]))[r3]? = some (judO (1 + v2) v3 w (na v4 f) (da v4 f) lag) := by rw [List.getElem?_set_ne ne4, at_old (List.getElem?_eq_some_iff.mp e3).1]; exact e3
  have hnA : ((G9 ++ [VO.lst false [.ref r3]]).set n (.lst false [.ref r1, .ref r2, .ref r3]))[n]? = some (.lst false [.ref r1, .ref r2, .ref r3]) := by
    rw [List.getElem?_set_self (by have := (List.getElem?_eq_some_iff.mp hn9).1; simp; omega)]
  have sA : St ((G9 ++ [VO.lst false [.ref r3]]).set n (.lst false [.ref r1, .ref r2, .ref r3])) ns := by
    obtain ⟨x, p0, p1, p2⟩ := (s9.app (t := [VO.lst false [.ref r3]]))
    exact ⟨x, p0, by rw [List.getElem?_set_ne (by omega)]; exact p1, by rw [List.getElem?_set_ne (by omega)]; exact p2⟩
  generalize hH : (G9 ++ [VO.lst false [.ref r3]]).set n (.lst false [.ref r1, .ref r2, .ref r3]) = H at *
  obtain ⟨t9, e9⟩ := q8_ev (x0 := some (.ref 0)) (x1 := some (.ref 1)) (x2 := some (.int f)) (x3 := some (fr e f)) (x6 := x6) (x7 := x7) (x8 := x8) (x9 := x9) (x10 := x10) (x11 := some (.int e)) (x12 := some (.int lag)) (x13 := some (.int l)) (x14 := some (.int de)) (x15 := some (.int w)) (x16 := x16) (x17 := x17) (x18 := x18) (x19 := x19) (tr_jud T hrA) hnA (fun hb i hi tt => by
    have hN := of_decide_eq_true hb
    have old : ∀ {j : Nat} {o : VO}, H[j]? = some o → (H ++ tt)[j]? = some o := fun h => by rw [at_old (List.getElem?_eq_some_iff.mp h).1]; exact h
    rcases hi with rfl | rfl | rfl
    · rw [tr_jud T (old hrA1), decide_eq_true (NN_up t (by omega) (Int.le_refl _) (by omega) hN)]
    · rw [tr_jud T (old hrA2), decide_eq_true (NN_up t (Int.le_refl _) (by omega) (by omega) hN)]
    · rw [tr_jud T (old hrA3), decide_eq_true ?_]
      have hf0 : 0 < f := by omega
      have g1 := (fr_g (x := e) hf0).1
      have g2 := (fr_g (x := v4) hf0).1
      have n1 := NN_fr (l := l) (de := de) (w := w) (lag := lag) g1 (fr_n e f) (fr_d e f)
      have n2 := NN_fr (l := 1 + v2) (de := v3) (w := w) (lag := lag) g2 (fr_n v4 f) (fr_d v4 f)
      have big : 0 ≤ NN l de w e f lag := by rw [n1]; exact Int.mul_nonneg (Int.mul_nonneg (by omega) (by omega)) hN
      have sml := NN_less z0 (by omega : v4 ≤ e) hef (by omega) (by omega : 1 + v2 ≤ l) y0 (by omega : v3 ≤ de) big
      rw [n2] at sml
      exact Int.nonneg_of_mul_nonneg_right sml (Int.mul_pos g2 g2))
  rw [bCons_ev, e9, sq_nx]
  exact run_C T t hl5 hw hde hlag hlag2 hl sA.app h2r (by rw [at_old (List.getElem?_eq_some_iff.mp hrA).1]; exact hrA)
theorem run_A (T : Tb S) (hl : ns.length ≤ 63) : ∃ Gz, (f15 (S.dp code 30)).body.ev [some (.ref 0), none, none, none, none, none, none, none, none, none, none, none, none, none, none, none, none, none, none, none] [.lst true (ns.map Va.int)] = .rt (.bl true) Gz := by
  rw [law_body]
  show ∃ Gz, (bCons (q0 (S.dp code 30)) (bCons (q1 (S.dp code 30)) (bCons (q2 (S.dp code 30)) (bCons (q3 (S.dp code 30)) (bCons (q4 (S.dp code 30)) (tB (S.dp code 30)))))) : CB (S.dp code 30)).ev _ _ = _
  rw [bCons_ev, q0_ev rfl, sq_nx]
  have s0 : St ([VO.lst true (ns.map Va.int)] ++ [.lst false [.ref 0, .int 0]]) ns := ⟨0, Int.le_refl _, rfl, rfl⟩
  generalize ([VO.lst true (ns.map Va.int)] ++ [.lst false [.ref 0, .int 0]] : Gh) = G0 at *
  obtain ⟨v1, G1, a1, b1, c1, s1, _⟩ := w_take (S := S) hl s0 (many := 30) (by decide)
  rw [bCons_ev, q1_ev c1, sq_nx]
  obtain ⟨e, G2, a2, b2, c2, s2, _⟩ := w_take (S := S) hl s1 (many := 2 + v1) (by omega)
  obtain ⟨v2, G3, a3, b3, c3, s3, _⟩ := w_take (S := S) hl s2 (many := 6) (by decide)
  rw [bCons_ev, q2_ev c2 c3, sq_nx]
  rw [bCons_ev, q3_ev (w_low (by omega) (by omega) a2), sq_nx]
  obtain ⟨v3, G4, a4, b4, c4, s4, _⟩ := w_take (S := S) hl s3 (many := 50) (by decide)
  obtain ⟨v4, G5, a5, b5, c5, s5, _⟩ := w_take (S := S) hl s4 (many := 30) (by decide)
  obtain ⟨v5, G6, a6, b6, c6, s6, _⟩ := w_take (S := S) hl s5 (many := 90) (by decide)
  rw [bCons_ev, q4_ev c4 c5 c6, sq_nx]
  exact run_B T a2 b2 (by omega) (by omega) (by omega) (by omega) (by omega) (by omega) (by omega) (by omega) (by omega) hl s6
end
theorem law_true : ∀ (P : Program) (w : World) (K : PySem.W.Frag) (mg : Str → Option Value) (base : Heap) (ca fa : Nat → Addr) (ns : List Int), ns.length ≤ 63 → ∃ G, callF (mkS P w K mg base ca fa) code 31 15 [.ref 0] [.lst true (ns.map Va.int)] = .ok (.bl true) G := by
  intro P w K mg base ca fa ns hl
  have T : Tb (mkS P w K mg base ca fa) := ⟨rfl, rfl, rfl, rfl, rfl⟩
  obtain ⟨Gz, h⟩ := run_A T hl
  refine ⟨Gz, ?_⟩
  rw [callF_succ]
  show toR ((f15 ((mkS P w K mg base ca fa).dp code 30)).body.ev [some (.ref 0), none, none, none, none, none, none, none, none, none, none, none, none, none, none, none, none, none, none, none] [.lst true (ns.map Va.int)]) = _
  rw [h]
  rfl
end LawX
open PySem PySem.W PyProof.Rows
set_option maxRecDepth 100000 in
set_option maxHeartbeats 0 in
theorem PySem.Challenge.cw_openchange_k68_whole_lease_relations_holds : PySem.Challenge.rw_openchange_k68_whole_lease_relations.Holds := by
  w_on; o_law; k_head; (case hw => w_witness2)
  k_fill
  refine LawX.walk (l := PySem.Challenge.rw_openchange_k68_whole_lease_relations) rfl rfl (fun w h Y => PySem.W.kIn_of Y) ?F
  case F =>
    intro w mg fa h KX G hmg
    refine' LawX.all_mk KX G hmg ?aC0 ?aC1 ?aC2 ?a0 ?l0 ?c0 ?k0 ?a1 ?l1 ?c1 ?k1 ?a2 ?l2 ?c2 ?k2 ?a3 ?l3 ?c3 ?k3 ?a4 ?l4 ?c4 ?k4 ?a5 ?l5 ?c5 ?k5 ?a6 ?l6 ?c6 ?k6 ?a7 ?l7 ?c7 ?k7 ?a8 ?l8 ?c8 ?k8 ?a9 ?l9 ?c9 ?k9 ?a10 ?l10 ?c10 ?k10 ?a11 ?l11 ?c11 ?k11 ?a12 ?l12 ?c12 ?k12 ?a13 ?l13 ?c13 ?k13 ?a14 ?l14 ?c14 ?k14 ?a15 ?l15 ?c15 ?k15 ?a16 ?i16 ?l16 ?c16 ?k16 ?a17 ?i17 ?l17 ?c17 ?k17 ?a18 ?i18 ?l18 ?c18 ?k18 ?a19 ?i19 ?l19 ?c19 ?k19 ?a20 ?i20 ?l20 ?c20 ?k20 ?a21 ?i21 ?l21 ?c21 ?k21 ?a22 ?i22 ?l22 ?c22 ?k22 ?a23 ?i23 ?l23 ?c23 ?k23 ?a24 ?i24 ?l24 ?c24 ?k24 ?a25 ?i25 ?l25 ?c25 ?k25 ?pg0 ?hd0 ?po0 ?sa0 ?mk0 ?kc0 ?ic0 ?im0 ?ty0 ?n0_2 ?n0_9 ?n0_11 ?n0_10 ?pg1 ?hd1 ?po1 ?sa1 ?mk1 ?kc1 ?ic1 ?im1 ?ty1 ?n1_8 ?pg2 ?hd2 ?po2 ?sa2 ?mk2 ?kc2 ?ic2 ?im2 ?ty2 ?n2_6 ?n2_5 ?n2_4 ?n2_7 ?mr0_1 ?ne0_1 ?mr0_2 ?ne0_2 ?mr1_0 ?ne1_0 ?mr1_2 ?ne1_2 ?mr2_0 ?ne2_0 ?mr2_1 ?ne2_1 ?z0 ?z1 ?z2 ?z3 ?z4 ?z5 ?z6 ?z7 ?z8 ?z9 ?z10 ?b0 ?gk0 ?gk1 ?cg1 ?cg2 LawX.law_true
    (case aC0 => k_is); (case aC1 => k_is); (case aC2 => k_is); (case a0 => k_is); (case l0 => k_is); (case c0 => k_is)
    (case k0 => k_is); (case a1 => k_is); (case l1 => k_is); (case c1 => k_is); (case k1 => k_is); (case a2 => k_is)
    (case l2 => k_is); (case c2 => k_is); (case k2 => k_is); (case a3 => k_is); (case l3 => k_is); (case c3 => k_is)
    (case k3 => k_is); (case a4 => k_is); (case l4 => k_is); (case c4 => k_is); (case k4 => k_is); (case a5 => k_is)
    (case l5 => k_is); (case c5 => k_is); (case k5 => k_is); (case a6 => k_is); (case l6 => k_is); (case c6 => k_is)
    (case k6 => k_is); (case a7 => k_is); (case l7 => k_is); (case c7 => k_is); (case k7 => k_is); (case a8 => k_is)
    (case l8 => k_is); (case c8 => k_is); (case k8 => k_is); (case a9 => k_is); (case l9 => k_is); (case c9 => k_is)
    (case k9 => k_is); (case a10 => k_is); (case l10 => k_is); (case c10 => k_is); (case k10 => k_is); (case a11 => k_is)
    (case l11 => k_is); (case c11 => k_is); (case k11 => k_is); (case a12 => k_is); (case l12 => k_is); (case c12 => k_is)
    (case k12 => k_is); (case a13 => k_is); (case l13 => k_is); (case c13 => k_is); (case k13 => k_is); (case a14 => k_is)
    (case l14 => k_is); (case c14 => k_is); (case k14 => k_is); (case a15 => k_is); (case l15 => k_is); (case c15 => k_is)
    (case k15 => k_is); (case a16 => k_is); (case i16 => k_is); (case l16 => k_is); (case c16 => k_is); (case k16 => k_is)
    (case a17 => k_is); (case i17 => k_is); (case l17 => k_is); (case c17 => k_is); (case k17 => k_is); (case a18 => k_is)
    (case i18 => k_is); (case l18 => k_is); (case c18 => k_is); (case k18 => k_is); (case a19 => k_is); (case i19 => k_is)
    (case l19 => k_is); (case c19 => k_is); (case k19 => k_is); (case a20 => k_is); (case i20 => k_is); (case l20 => k_is)
    (case c20 => k_is); (case k20 => k_is); (case a21 => k_is); (case i21 => k_is); (case l21 => k_is); (case c21 => k_is)
    (case k21 => k_is); (case a22 => k_is); (case i22 => k_is); (case l22 => k_is); (case c22 => k_is); (case k22 => k_is)
    (case a23 => k_is); (case i23 => k_is); (case l23 => k_is); (case c23 => k_is); (case k23 => k_is); (case a24 => k_is)
    (case i24 => k_is); (case l24 => k_is); (case c24 => k_is); (case k24 => k_is); (case a25 => k_is); (case i25 => k_is)
    (case l25 => k_is); (case c25 => k_is); (case k25 => k_is); (case pg0 => k_is); (case hd0 => k_is); (case po0 => k_is)
    (case sa0 => k_is); (case mk0 => k_is); (case kc0 => k_is); (case ic0 => k_is); (case im0 => k_is); (case ty0 => k_is)
    (case n0_2 => k_is); (case n0_9 => k_is); (case n0_11 => k_is); (case n0_10 => k_is); (case pg1 => k_is); (case hd1 => k_is)
    (case po1 => k_is); (case sa1 => k_is); (case mk1 => k_is); (case kc1 => k_is); (case ic1 => k_is); (case im1 => k_is)
    (case ty1 => k_is); (case n1_8 => k_is); (case pg2 => k_is); (case hd2 => k_is); (case po2 => k_is); (case sa2 => k_is)
    (case mk2 => k_is); (case kc2 => k_is); (case ic2 => k_is); (case im2 => k_is); (case ty2 => k_is); (case n2_6 => k_is)
    (case n2_5 => k_is); (case n2_4 => k_is); (case n2_7 => k_is); (case mr0_1 => k_is); (case ne0_1 => decide); (case mr0_2 => k_is)
    (case ne0_2 => decide); (case mr1_0 => k_is); (case ne1_0 => decide); (case mr1_2 => k_is); (case ne1_2 => decide); (case mr2_0 => k_is)
    (case ne2_0 => decide); (case mr2_1 => k_is); (case ne2_1 => decide); (case z0 => k_is); (case z1 => k_is); (case z2 => k_is)
    (case z3 => k_is); (case z4 => k_is); (case z5 => k_is); (case z6 => k_is); (case z7 => k_is); (case z8 => k_is)
    (case z9 => k_is); (case z10 => k_is); (case b0 => k_is); (case gk0 => k_is); (case gk1 => k_is); (case cg1 => k_is)
    (case cg2 => k_is)
