import PyProof.Rows.All
import Wide.All
import OpenK.AllK
import Wide.FinOn
import HandS.ForMost
import HandS.TupAny
import HandS.IsInst
import HandS.Flow
import HandS.More
import HandS.Conv
import HandS.Zip
import HandS.Walk
import HandS.Wide
import HandS.Style
import HandS.TupMul
import PySem.Challenge.RW_taxbands_k37_whole_two_rates
set_option Elab.async false
set_option linter.all false
set_option maxRecDepth 100000
set_option maxHeartbeats 4000000
/-! EngA: data without addresses, how it lies in the abstract heap, the small language and its weakest preconditions. -/
namespace TB
open PySem PySem.Spec PyProof.Rows L2

inductive D where
  | non | bl (b : Bool) | int (i : Int) | str (s : Str)
  | tup (ds : List D) | lst (a : Addr) | scr (a : Addr) (ns : List Int)

abbrev Mem := Addr → Option (List D)
def Mem.up (M : Mem) (a : Addr) (ds : List D) : Mem := fun b => if b = a then some ds else M b
theorem up_same {M : Mem} {a : Addr} {ds : List D} : M.up a ds a = some ds := if_pos rfl
theorem up_ne {M : Mem} {a b : Addr} {ds : List D} (h : b ≠ a) : M.up a ds b = M b := if_neg h

/-- the script: a list that nobody writes -/
def SqF (K : PySem.W.Frag) (H : Hp) (a : Addr) (xs : List V) : Prop :=
  (∃ o, H a = some (.frz o (.lst xs))) ∨
    ∃ (o : Obj) (its : Array Value) (n : Nat), K.lookup a = some o ∧ o.cls = .type "list" ∧ o.dict = none ∧ o.data = .seq its n ∧ its.size ≤ sizeLine ∧ Vals xs its.toList
theorem SqF.sq {K : PySem.W.Frag} {H : Hp} {a : Addr} {xs : List V} (h : SqF K H a xs) : SqL K H a xs := by
  rcases h with ⟨o, h⟩ | h
  · exact .inl (.inr ⟨o, h⟩)
  · exact .inr h

mutual
def Rep (K : PySem.W.Frag) (H : Hp) : D → V → Prop
  | .non, v => v = .non
  | .bl b, v => v = .bl b
  | .int i, v => v = .int i
  | .str s, v => v = .str s
  | .tup ds, v => ∃ a xs, v = .ref a ∧ SqT K H a xs ∧ RepL K H ds xs ∧ ds.length ≤ sizeLine
  | .lst a, v => v = .ref a
  | .scr a ns, v => v = .ref a ∧ SqF K H a (ns.map V.int)
def RepL (K : PySem.W.Frag) (H : Hp) : List D → List V → Prop
  | [], xs => xs = []
  | d :: ds, xs => ∃ x r, xs = x :: r ∧ Rep K H d x ∧ RepL K H ds r
end

def RepM (K : PySem.W.Frag) (H : Hp) (M : Mem) : Prop := ∀ a ds, M a = some ds → ∃ xs, H a = some (.lst xs) ∧ RepL K H ds xs ∧ ds.length ≤ sizeLine

structure Step (M : Mem) (H : Hp) (M' : Mem) (H' : Hp) : Prop where
  tup : ∀ a xs, H a = some (.tup xs) → H' a = some (.tup xs)
  frz : ∀ a o u, H a = some (.frz o u) → H' a = some (.frz o u)
  lst : ∀ a xs, M a = none → H a = some (.lst xs) → H' a = some (.lst xs)
  dom : ∀ a o, M a = none → H a = some o → M' a = none
  live : ∀ a o, H a = some o → ∃ o', H' a = some o'

theorem Step.refl {M : Mem} {H : Hp} : Step M H M H := ⟨fun _ _ h => h, fun _ _ _ h => h, fun _ _ _ h => h, fun _ _ h _ => h, fun _ o h => ⟨o, h⟩⟩
theorem Step.trans {M M1 M2 : Mem} {H H1 H2 : Hp} (s : Step M H M1 H1) (t : Step M1 H1 M2 H2) : Step M H M2 H2 :=
  ⟨fun a xs h => t.tup a xs (s.tup a xs h), fun a o u h => t.frz a o u (s.frz a o u h), fun a xs hm h => t.lst a xs (s.dom a _ hm h) (s.lst a xs hm h),
    fun a o hm h => let ⟨o', h'⟩ := s.live a o h; t.dom a o' (s.dom a o hm h) h', fun a o h => let ⟨o', h'⟩ := s.live a o h; t.live a o' h'⟩

section
variable {K : PySem.W.Frag} {M M' : Mem} {H H' : Hp}
/-- what data leans on -/
structure Keep (H H' : Hp) : Prop where
  tup : ∀ a xs, H a = some (.tup xs) → H' a = some (.tup xs)
  frz : ∀ a o u, H a = some (.frz o u) → H' a = some (.frz o u)
theorem Step.keep (s : Step M H M' H') : Keep H H' := ⟨s.tup, s.frz⟩
theorem Keep.sqT (s : Keep H H') {a : Addr} {xs : List V} (h : SqT K H a xs) : SqT K H' a xs := by
  rcases h with (h | ⟨o, h⟩) | h
  · exact .inl (.inl (s.tup _ _ h))
  · exact .inl (.inr ⟨o, s.frz _ _ _ h⟩)
  · exact .inr h
theorem Keep.sqF (s : Keep H H') {a : Addr} {xs : List V} (h : SqF K H a xs) : SqF K H' a xs := by
  rcases h with ⟨o, h⟩ | h
  · exact .inl ⟨o, s.frz _ _ _ h⟩
  · exact .inr h
mutual
theorem Rep.keep (s : Keep H H') : ∀ (d : D) (v : V), Rep K H d v → Rep K H' d v
  | .non, _, h => h
  | .bl _, _, h => h
  | .int _, _, h => h
  | .str _, _, h => h
  | .tup ds, v, h => by
    obtain ⟨a, xs, e, q, r, z⟩ := h
    exact ⟨a, xs, e, s.sqT q, RepL.keep s ds xs r, z⟩
  | .lst _, _, h => h
  | .scr _ _, _, h => ⟨h.1, s.sqF h.2⟩
theorem RepL.keep (s : Keep H H') : ∀ (ds : List D) (xs : List V), RepL K H ds xs → RepL K H' ds xs
  | [], _, h => h
  | d :: ds, xs, h => by
    obtain ⟨x, r, e, q, t⟩ := h
    exact ⟨x, r, e, Rep.keep s d x q, RepL.keep s ds r t⟩
end
theorem RepL.length : ∀ {ds : List D} {xs : List V}, RepL K H ds xs → ds.length = xs.length
  | [], _, h => by cases h; rfl
  | d :: ds, xs, h => by
    obtain ⟨x, r, rfl, _, t⟩ := h
    simp [RepL.length t]
theorem RepL.get : ∀ {ds : List D} {xs : List V} {i : Nat} {d : D}, RepL K H ds xs → ds[i]? = some d → ∃ x, xs[i]? = some x ∧ Rep K H d x
  | [], _, _, _, _, e => by simp at e
  | d :: ds, xs, 0, _, h, e => by
    obtain ⟨x, r, rfl, q, _⟩ := h
    simp at e; subst e
    exact ⟨x, rfl, q⟩
  | d :: ds, xs, i + 1, _, h, e => by
    obtain ⟨x, r, rfl, _, t⟩ := h
    simpa using RepL.get (i := i) t (by simpa using e)
theorem RepL.app : ∀ {ds es : List D} {xs ys : List V}, RepL K H ds xs → RepL K H es ys → RepL K H (ds ++ es) (xs ++ ys)
  | [], _, _, _, h, q => by cases h; simpa using q
  | d :: ds, es, xs, ys, h, q => by
    obtain ⟨x, r, rfl, a, t⟩ := h
    exact ⟨x, r ++ ys, rfl, a, RepL.app t q⟩
theorem RepL.take : ∀ {ds : List D} {xs : List V} (n : Nat), RepL K H ds xs → RepL K H (ds.take n) (xs.take n)
  | _, _, 0, _ => by simp [RepL]
  | [], _, _ + 1, h => by cases h; simp [RepL]
  | d :: ds, xs, n + 1, h => by
    obtain ⟨x, r, rfl, a, t⟩ := h
    exact ⟨x, r.take n, rfl, a, RepL.take n t⟩
theorem RepL.drop : ∀ {ds : List D} {xs : List V} (n : Nat), RepL K H ds xs → RepL K H (ds.drop n) (xs.drop n)
  | _, _, 0, h => h
  | [], _, _ + 1, h => by cases h; simp [RepL]
  | d :: ds, xs, n + 1, h => by
    obtain ⟨x, r, rfl, a, t⟩ := h
    exact RepL.drop n t
theorem RepL.set : ∀ {ds : List D} {xs : List V} (n : Nat) {d : D} {x : V}, RepL K H ds xs → Rep K H d x → RepL K H (ds.set n d) (xs.set n x)
  | [], _, _, _, _, h, _ => by cases h; simp [RepL]
  | d :: ds, xs, 0, _, y, h, q => by
    obtain ⟨x, r, rfl, a, t⟩ := h
    exact ⟨y, r, rfl, q, t⟩
  | d :: ds, xs, n + 1, _, _, h, q => by
    obtain ⟨x, r, rfl, a, t⟩ := h
    exact ⟨x, r.set n _, rfl, a, RepL.set n t q⟩
theorem RepL.erase : ∀ {ds : List D} {xs : List V} (n : Nat), RepL K H ds xs → RepL K H (ds.eraseIdx n) (xs.eraseIdx n)
  | [], _, _, h => by cases h; simp [RepL]
  | d :: ds, xs, 0, h => by
    obtain ⟨x, r, rfl, a, t⟩ := h
    exact t
  | d :: ds, xs, n + 1, h => by
    obtain ⟨x, r, rfl, a, t⟩ := h
    exact ⟨x, r.eraseIdx n, rfl, a, RepL.erase n t⟩
theorem RepL.dropLast : ∀ {ds : List D} {xs : List V}, RepL K H ds xs → RepL K H ds.dropLast xs.dropLast := by
  intro ds xs h
  rw [List.dropLast_eq_take, List.dropLast_eq_take, h.length]
  exact h.take _
theorem RepL.one {d : D} {xs : List V} (h : RepL K H [d] xs) : ∃ x, xs = [x] ∧ Rep K H d x := by
  obtain ⟨x, r, rfl, q, t⟩ := h
  cases t
  exact ⟨x, rfl, q⟩
theorem RepL.two {d e : D} {xs : List V} (h : RepL K H [d, e] xs) : ∃ x y, xs = [x, y] ∧ Rep K H d x ∧ Rep K H e y := by
  obtain ⟨x, r, rfl, q, t⟩ := h
  obtain ⟨y, rfl, q2⟩ := t.one
  exact ⟨x, y, rfl, q, q2⟩
theorem RepL.ints : ∀ {ns : List Int}, RepL K H (ns.map D.int) (ns.map V.int)
  | [] => rfl
  | n :: ns => ⟨_, _, rfl, rfl, RepL.ints⟩
theorem RepL.ints_eq : ∀ {ns : List Int} {xs : List V}, RepL K H (ns.map D.int) xs → xs = ns.map V.int
  | [], _, h => h
  | n :: ns, _, h => by
    obtain ⟨x, r, rfl, q, t⟩ := h
    cases q
    rw [RepL.ints_eq t]; rfl
theorem RepL.bls_eq : ∀ {bs : List Bool} {xs : List V}, RepL K H (bs.map D.bl) xs → xs = bs.map V.bl
  | [], _, h => h
  | n :: ns, _, h => by
    obtain ⟨x, r, rfl, q, t⟩ := h
    cases q
    rw [RepL.bls_eq t]; rfl

/-- a new object at p -/
theorem keep_new {p : Addr} {o : HO} (hp : H p = none) : Keep H (upd H p o) :=
  ⟨fun a xs h => by rw [upd_ne (ne_of_none h hp)]; exact h, fun a u w h => by rw [upd_ne (ne_of_none h hp)]; exact h⟩
theorem RepM.free (m : RepM K H M) {p : Addr} (hp : H p = none) : M p = none := by
  cases e : M p with
  | none => rfl
  | some ds => obtain ⟨xs, h, _⟩ := m p ds e; rw [hp] at h; cases h
theorem RepM.new (m : RepM K H M) {p : Addr} {o : HO} (hp : H p = none) : RepM K (upd H p o) M := fun a ds e => by
  obtain ⟨xs, h, r, z⟩ := m a ds e
  exact ⟨xs, by rw [upd_ne (ne_of_none h hp)]; exact h, r.keep (keep_new hp), z⟩
theorem step_new (m : RepM K H M) {p : Addr} {o : HO} (hp : H p = none) : Step M H M (upd H p o) :=
  ⟨(keep_new hp).tup, (keep_new hp).frz, fun a xs _ h => by rw [upd_ne (ne_of_none h hp)]; exact h, fun _ _ h _ => h,
    fun a o' h => ⟨o', by rw [upd_ne (ne_of_none h hp)]; exact h⟩⟩
theorem RepM.newL (m : RepM K H M) {p : Addr} {ds : List D} {xs : List V} (hp : H p = none) (r : RepL K H ds xs) (hz : ds.length ≤ sizeLine) : RepM K (upd H p (.lst xs)) (M.up p ds) := fun a es e => by
  by_cases ha : a = p
  · subst ha
    rw [up_same] at e; cases e
    exact ⟨xs, upd_same, r.keep (keep_new hp), hz⟩
  · rw [up_ne ha] at e
    obtain ⟨ys, h, q, z⟩ := m a es e
    exact ⟨ys, by rw [upd_ne ha]; exact h, q.keep (keep_new hp), z⟩
theorem step_newL (m : RepM K H M) {p : Addr} {ds : List D} {xs : List V} (hp : H p = none) : Step M H (M.up p ds) (upd H p (.lst xs)) :=
  ⟨(keep_new hp).tup, (keep_new hp).frz, fun a xs _ h => by rw [upd_ne (ne_of_none h hp)]; exact h, fun a o h ho => by rw [up_ne (ne_of_none ho hp)]; exact h,
    fun a o' h => ⟨o', by rw [upd_ne (ne_of_none h hp)]; exact h⟩⟩
/-- a list written -/
theorem keep_wr {p : Addr} {xs ys : List V} (hp : H p = some (.lst xs)) : Keep H (upd H p (.lst ys)) :=
  ⟨fun a zs h => by rw [upd_ne (fun e => by subst e; rw [hp] at h; cases h)]; exact h, fun a u w h => by rw [upd_ne (fun e => by subst e; rw [hp] at h; cases h)]; exact h⟩
theorem RepM.wr (m : RepM K H M) {p : Addr} {ds : List D} {xs ys : List V} (hp : H p = some (.lst xs)) (r : RepL K H ds ys) (hz : ds.length ≤ sizeLine) : RepM K (upd H p (.lst ys)) (M.up p ds) := fun a es e => by
  by_cases ha : a = p
  · subst ha
    rw [up_same] at e; cases e
    exact ⟨ys, upd_same, r.keep (keep_wr hp), hz⟩
  · rw [up_ne ha] at e
    obtain ⟨zs, h, q, z⟩ := m a es e
    exact ⟨zs, by rw [upd_ne ha]; exact h, q.keep (keep_wr hp), z⟩
theorem step_wr {p : Addr} {ds0 ds : List D} {xs ys : List V} (hm : M p = some ds0) (hp : H p = some (.lst xs)) : Step M H (M.up p ds) (upd H p (.lst ys)) :=
  ⟨(keep_wr hp).tup, (keep_wr hp).frz, fun a zs hn h => by rw [upd_ne (fun e => by subst e; rw [hm] at hn; cases hn)]; exact h,
    fun a o hn h => by rw [up_ne (fun e => by subst e; rw [hm] at hn; cases hn)]; exact hn,
    fun a o' h => by
      by_cases ha : a = p
      · subst ha; exact ⟨_, upd_same⟩
      · exact ⟨o', by rw [upd_ne ha]; exact h⟩⟩
end
end TB

namespace TB
open PySem PySem.Spec PyProof.Rows L2

abbrev En := List (Option D)
def get : En → Nat → Option D
  | [], _ => none
  | x :: _, 0 => x
  | _ :: r, n + 1 => get r n
def put : En → Nat → D → En
  | [], _, _ => []
  | _ :: r, 0, d => some d :: r
  | x :: r, n + 1, d => x :: put r n d
def clr : En → Nat → En
  | [], _ => []
  | _ :: r, 0 => none :: r
  | x :: r, n + 1 => x :: clr r n
def wipeE (ρ : En) : List Nat → En
  | [] => ρ
  | v :: vs => clr (wipeE ρ vs) v

inductive Bin | add | sub | mul | fdiv | mod | pow
inductive Cm | lt | le | gt | ge | eq | ne | isN | notN | inn | notIn
inductive Ty | int | bool | str | tuple | list
inductive Bf | len | abs | tuple | list | all | any | int | isT (t : Ty) | sum
inductive Mf | append | insert | popAt | pop | extend

mutual
inductive E
  | var (i : Nat) | cst (d : D)
  | bin (op : Bin) (a b : E) | cmp (op : Cm) (a b : E) | chn (o1 o2 : Cm) (a b c : E)
  | and (a b : E) | or (a b : E) | not (a : E) | neg (a : E) | ite (c a b : E)
  | tup (es : Es) | lst (es : Es)
  | call (g : Nat) (es : Es) | bfn (b : Bf) (es : Es) | mth (m : Mf) (o : E) (es : Es)
  | ix (a b : E) | sl (a : E) (lo hi : O)
  | comp (elt : E) (t : T) (it : I) (c : C) (own : List Nat)
inductive Es
  | nil | cons (e : E) (es : Es)
inductive O
  | no | yes (e : E)
inductive C
  | no | yes (e : E)
inductive T
  | nm (i : Nat) | tp (ts : Ts) | ix (o i : E)
inductive Ts
  | nil | cons (t : T) (ts : Ts)
inductive I
  | seq (e : E) | rng1 (a : E) | rng2 (a b : E) | enum (e : E) | zip (a b : E)
end
mutual
inductive S
  | asg (t : T) (e : E) | par (i j : Nat) (a b : E) | aug (i : Nat) (op : Bin) (e : E) | expr (e : E) | ret (e : E) | retN
  | ite (c : E) (a b : Ss) | whl (c : E) (b : Ss) | for_ (t : T) (it : I) (b : Ss)
  | brk | cont | pass | stuck
inductive Ss
  | nil | cons (s : S) (ss : Ss)
end

def Ts.len : Ts → Nat
  | .nil => 0
  | .cons _ r => r.len + 1
/-! ### what operators do -/
mutual
def D.depth : D → Nat
  | .tup ds => D.depthL ds + 1
  | _ => 0
def D.depthL : List D → Nat
  | [] => 0
  | d :: ds => max (D.depth d) (D.depthL ds)
end
mutual
/-- no list within -/
def D.pure : D → Bool
  | .lst _ => false
  | .scr _ _ => false
  | .tup ds => D.pureL ds
  | .str s => PyData.strOk s
  | _ => true
def D.pureL : List D → Bool
  | [] => true
  | d :: ds => D.pure d && D.pureL ds
end
mutual
/-- == as Python has it -/
def deq : D → D → Bool
  | .non, e => match e with | .non => true | _ => false
  | .bl a, e => match e with | .bl b => a == b | .int j => (if a then 1 else 0) == j | _ => false
  | .int i, e => match e with | .int j => i == j | .bl b => i == (if b then 1 else 0) | _ => false
  | .str x, e => match e with | .str y => x == y | _ => false
  | .tup xs, e => match e with | .tup ys => deqL xs ys | _ => false
  | .lst _, _ => false
  | .scr _ _, _ => false
def deqL : List D → List D → Bool
  | [], ys => match ys with | [] => true | _ => false
  | x :: xs, ys => match ys with | y :: ys => deq x y && deqL xs ys | _ => false
end
def D.isNon : D → Bool
  | .non => true
  | _ => false
def D.flat : D → Bool
  | .non | .bl _ | .int _ | .str _ => true
  | _ => false
def tru (M : Mem) : D → Option Bool
  | .non => some false
  | .bl b => some b
  | .int i => some (i != 0)
  | .str s => if s.length ≤ sizeLine then some ((s.length : Int) != 0) else none
  | .tup ds => some (!ds.isEmpty)
  | .lst a => (M a).map fun ds => !ds.isEmpty
  | .scr _ _ => none

/-- a divisor not too great -/
def DvOk (j : Int) : Prop := j.natAbs.log2 < 9000
abbrev K1 := D → Mem → Prop
def binW (op : Bin) (x y : D) (M : Mem) (q : K1) : Prop :=
  match op, x, y with
  | .add, .int i, .int j => q (.int (i + j)) M
  | .sub, .int i, .int j => q (.int (i - j)) M
  | .mul, .int i, .int j => IntMulOk i j ∧ q (.int (i * j)) M
  | .fdiv, .int i, .int j => (j ≠ 0 ∧ DvOk j) ∧ q (.int (i.fdiv j)) M
  | .mod, .int i, .int j => j ≠ 0 ∧ q (.int (i.fmod j)) M
  | .pow, .int i, .int j => (0 ≤ j ∧ j ≤ 1000000 ∧ i.natAbs < 2 ^ 64) ∧ q (.int (i ^ j.toNat)) M
  | .add, .str a, .str b => a.length + b.length ≤ sizeLine ∧ q (.str (a ++ b)) M
  | .add, .tup a, .tup b => a.length + b.length ≤ sizeLine ∧ q (.tup (a ++ b)) M
  | .add, .lst a, .lst b => ∃ xs ys, M a = some xs ∧ M b = some ys ∧ xs.length + ys.length ≤ sizeLine ∧ ∀ p, M p = none → q (.lst p) (M.up p (xs ++ ys))
  | .mul, .tup a, .int j => (a ≠ [] ∧ 2 ≤ j ∧ j ≤ 1000 ∧ a.length ≤ 1000) ∧ q (.tup (List.replicate j.toNat a).flatten) M
  | _, _, _ => False
def augW (op : Bin) (x y : D) (M : Mem) (q : K1) : Prop :=
  match op, x, y with
  | .add, .int i, .int j => q (.int (i + j)) M
  | .sub, .int i, .int j => q (.int (i - j)) M
  | .mul, .int i, .int j => IntMulOk i j ∧ q (.int (i * j)) M
  | .add, .str a, .str b => a.length + b.length ≤ sizeLine ∧ q (.str (a ++ b)) M
  | .add, .lst a, .lst b => ∃ xs ys, M a = some xs ∧ M b = some ys ∧ xs.length + ys.length ≤ sizeLine ∧ q (.lst a) (M.up a (xs ++ ys))
  | _, _, _ => False
def eqW (x y : D) (M : Mem) (q : Bool → Prop) : Prop :=
  match x, y with
  | .lst a, .lst b => ∃ xs ys, M a = some xs ∧ M b = some ys ∧ (D.pureL xs = true ∧ D.pureL ys = true ∧ D.depthL xs ≤ 60 ∧ D.depthL ys ≤ 60) ∧ q (deqL xs ys)
  | x, y => (x.pure = true ∧ y.pure = true ∧ x.depth ≤ 60 ∧ y.depth ≤ 60) ∧ q (deq x y)
def inW (x y : D) (M : Mem) (q : Bool → Prop) : Prop :=
  match y with
  | .tup ys => x.flat = true ∧ ys.all D.flat = true ∧ q (ys.any fun z => deq z x)
  | .lst a => ∃ ys, M a = some ys ∧ x.flat = true ∧ ys.all D.flat = true ∧ q (ys.any fun z => deq z x)
  | _ => False
def cmpW (op : Cm) (x y : D) (M : Mem) (q : Bool → Prop) : Prop :=
  match op with
  | .lt => match x, y with | .int i, .int j => q (decide (i < j)) | _, _ => False
  | .le => match x, y with | .int i, .int j => q (decide (i ≤ j)) | _, _ => False
  | .gt => match x, y with | .int i, .int j => q (decide (j < i)) | _, _ => False
  | .ge => match x, y with | .int i, .int j => q (decide (j ≤ i)) | _, _ => False
  | .eq => eqW x y M q
  | .ne => eqW x y M fun b => q (!b)
  | .isN => match y with | .non => q x.isNon | .bl b => (match x with | .bl a => q (decide (a = b)) | _ => False) | _ => False
  | .notN => match y with | .non => q (!x.isNon) | .bl b => (match x with | .bl a => q (!decide (a = b)) | _ => False) | _ => False
  | .inn => inW x y M q
  | .notIn => inW x y M fun b => q (!b)
def ixD (ds : List D) (i : Int) : Option D := atI ds i
def ixW (x y : D) (M : Mem) (q : K1) : Prop :=
  match x, y with
  | .tup ds, .int i => ∃ d, atI ds i = some d ∧ q d M
  | .lst a, .int i => ∃ ds d, M a = some ds ∧ atI ds i = some d ∧ q d M
  | .str s, .int i => ∃ c, s.length ≤ sizeLine ∧ atI s.cps.toList i = some c ∧ q (.str ⟨#[c]⟩) M
  | _, _ => False
def cutD {α : Type} (xs : List α) (lo hi : Option Int) : List α := (xs.drop (HT.sIx xs.length 0 lo)).take (HT.sIx xs.length xs.length hi - HT.sIx xs.length 0 lo)
def slW (x : D) (lo hi : Option Int) (M : Mem) (q : K1) : Prop :=
  match x with
  | .tup ds => q (.tup (cutD ds lo hi)) M
  | .lst a => ∃ ds, M a = some ds ∧ ∀ p, M p = none → q (.lst p) (M.up p (cutD ds lo hi))
  | .scr _ ns => ns.length ≤ sizeLine ∧ ∀ p, M p = none → q (.lst p) (M.up p ((cutD ns lo hi).map D.int))
  | _ => False
def isTy : Ty → D → Bool
  | .int, .int _ => true
  | .int, .bl _ => true
  | .bool, .bl _ => true
  | .str, .str _ => true
  | .tuple, .tup _ => true
  | .list, .lst _ => true
  | _, _ => false
def blsOf : List D → Option (List Bool)
  | [] => some []
  | .bl b :: r => (blsOf r).map (b :: ·)
  | _ => none
def intsOf : List D → Option (List Int)
  | [] => some []
  | .int b :: r => (intsOf r).map (b :: ·)
  | _ => none
def lenW (xs : List D) (M : Mem) (q : K1) : Prop :=
  match xs with
  | [.tup ds] => q (.int ds.length) M
  | [.lst a] => ∃ ds, M a = some ds ∧ q (.int ds.length) M
  | [.str s] => s.length ≤ sizeLine ∧ q (.int s.length) M
  | [.scr _ ns] => q (.int ns.length) M
  | _ => False
def absW (xs : List D) (M : Mem) (q : K1) : Prop :=
  match xs with
  | [.int i] => q (.int i.natAbs) M
  | _ => False
def tupleW (xs : List D) (M : Mem) (q : K1) : Prop :=
  match xs with
  | [.tup ds] => q (.tup ds) M
  | [.lst a] => ∃ ds, M a = some ds ∧ q (.tup ds) M
  | _ => False
def listW (xs : List D) (M : Mem) (q : K1) : Prop :=
  match xs with
  | [.tup ds] => ∀ p, M p = none → q (.lst p) (M.up p ds)
  | [.lst a] => ∃ ds, M a = some ds ∧ ∀ p, M p = none → q (.lst p) (M.up p ds)
  | _ => False
def allW (xs : List D) (M : Mem) (q : K1) : Prop :=
  match xs with
  | [.lst a] => ∃ ds bs, M a = some ds ∧ blsOf ds = some bs ∧ q (.bl (bs.all id)) M
  | _ => False
def anyW (xs : List D) (M : Mem) (q : K1) : Prop :=
  match xs with
  | [.lst a] => ∃ ds bs, M a = some ds ∧ blsOf ds = some bs ∧ q (.bl (bs.any id)) M
  | _ => False
def intW (xs : List D) (M : Mem) (q : K1) : Prop :=
  match xs with
  | [.int i] => q (.int i) M
  | [.bl k] => q (.int (if k then 1 else 0)) M
  | _ => False
def sumW (xs : List D) (M : Mem) (q : K1) : Prop :=
  match xs with
  | [.lst a] => ∃ ds ns, M a = some ds ∧ intsOf ds = some ns ∧ q (.int ns.sum) M
  | _ => False
def isTW (t : Ty) (xs : List D) (M : Mem) (q : K1) : Prop :=
  match xs with
  | [.scr _ _] => False
  | [.lst a] => ∃ ds, M a = some ds ∧ q (.bl (isTy t (.lst a))) M
  | [x] => q (.bl (isTy t x)) M
  | _ => False
def bfW (b : Bf) (xs : List D) (M : Mem) (q : K1) : Prop :=
  match b with
  | .len => lenW xs M q
  | .abs => absW xs M q
  | .tuple => tupleW xs M q
  | .list => listW xs M q
  | .all => allW xs M q
  | .any => anyW xs M q
  | .int => intW xs M q
  | .sum => sumW xs M q
  | .isT t => isTW t xs M q
def appendW (o : D) (xs : List D) (M : Mem) (q : K1) : Prop :=
  match o, xs with
  | .lst a, [d] => ∃ ds, M a = some ds ∧ ds.length < sizeLine ∧ q .non (M.up a (ds ++ [d]))
  | _, _ => False
def insertW (o : D) (xs : List D) (M : Mem) (q : K1) : Prop :=
  match o, xs with
  | .lst a, [.int i, d] => ∃ ds, M a = some ds ∧ ds.length < sizeLine ∧ 0 ≤ i ∧ i < 2 ^ 63 ∧ q .non (M.up a (ds.take i.toNat ++ [d] ++ ds.drop i.toNat))
  | _, _ => False
def popAtW (o : D) (xs : List D) (M : Mem) (q : K1) : Prop :=
  match o, xs with
  | .lst a, [.int i] => ∃ ds d j, M a = some ds ∧ -(2 ^ 63) ≤ i ∧ i < 2 ^ 63 ∧ seqIndex? i ds.length = some j ∧ ds[j]? = some d ∧ q d (M.up a (ds.eraseIdx j))
  | _, _ => False
def popW (o : D) (xs : List D) (M : Mem) (q : K1) : Prop :=
  match o, xs with
  | .lst a, [] => ∃ ds d, M a = some ds ∧ ds[ds.length - 1]? = some d ∧ q d (M.up a ds.dropLast)
  | _, _ => False
def extendW (o : D) (xs : List D) (M : Mem) (q : K1) : Prop :=
  match o, xs with
  | .lst a, [.lst b] => ∃ xs ys, M a = some xs ∧ M b = some ys ∧ xs.length + ys.length ≤ sizeLine ∧ q .non (M.up a (xs ++ ys))
  | _, _ => False
def mthW (m : Mf) (o : D) (xs : List D) (M : Mem) (q : K1) : Prop :=
  match m with
  | .append => appendW o xs M q
  | .insert => insertW o xs M q
  | .popAt => popAtW o xs M q
  | .pop => popW o xs M q
  | .extend => extendW o xs M q
def setW (o i v : D) (M : Mem) (q : Mem → Prop) : Prop :=
  match o, i with
  | .lst a, .int k => ∃ ds j, M a = some ds ∧ ixN ds.length k = some j ∧ q (M.up a (ds.set j v))
  | _, _ => False

structure Ed where
  nx : En → Mem → Prop
  rt : K1
  bk : En → Mem → Prop := fun _ _ => False
  ct : En → Mem → Prop := fun _ _ => False
abbrev Gam := Nat → List D → Mem → K1 → Prop
abbrev KI := List D → (Mem → Prop) → Mem → Prop
def seqW (d : D) (M : Mem) (R : KI) : Prop :=
  match d with
  | .tup ds => ds.length ≤ sizeLine → R ds (fun _ => True) M
  | .lst a => ∃ ds, M a = some ds ∧ (ds.length ≤ sizeLine → R ds (fun M => M a = some ds) M)
  | .str s => R (s.cps.toList.map fun c => .str ⟨#[c]⟩) (fun _ => True) M
  | _ => False
def enumD : Nat → List D → List D
  | _, [] => []
  | n, d :: ds => .tup [.int n, d] :: enumD (n + 1) ds
def enumW (d : D) (M : Mem) (R : KI) : Prop :=
  match d with
  | .lst a => ∃ ds, M a = some ds ∧ (ds.length ≤ sizeLine → R (enumD 0 ds) (fun M => M a = some ds) M)
  | _ => False
def zipD : List D → List D → List D
  | x :: xs, y :: ys => .tup [x, y] :: zipD xs ys
  | _, _ => []
def zipW (d e : D) (M : Mem) (R : KI) : Prop :=
  match d, e with
  | .tup xs, .tup ys => xs.length ≤ sizeLine → ys.length ≤ sizeLine → R (zipD xs ys) (fun _ => True) M
  | .lst a, .lst b => ∃ xs ys, M a = some xs ∧ M b = some ys ∧ (xs.length ≤ sizeLine → ys.length ≤ sizeLine → R (zipD xs ys) (fun M => M a = some xs ∧ M b = some ys) M)
  | _, _ => False
def rngD (lo : Int) (n : Nat) : List D := (List.range n).map fun k => .int (lo + (k : Nat))
def rng1W (d : D) (M : Mem) (R : KI) : Prop :=
  match d with
  | .int j => -(2 ^ 62) ≤ j ∧ j < 2 ^ 62 ∧ R (rngD 0 j.toNat) (fun _ => True) M
  | _ => False
def rng2W (d e : D) (M : Mem) (R : KI) : Prop :=
  match d, e with
  | .int i, .int j => (-(2 ^ 62) ≤ i ∧ i < 2 ^ 62 ∧ -(2 ^ 62) ≤ j ∧ j < 2 ^ 62) ∧ R (rngD i (j - i).toNat) (fun _ => True) M
  | _, _ => False

section
variable (Γ : Gam)
mutual
def wpE : E → En → Mem → K1 → Prop
  | .var i, ρ, M, q => ∃ d, get ρ i = some d ∧ q d M
  | .cst d, _, M, q => q d M
  | .bin op a b, ρ, M, q => wpE a ρ M fun x M1 => wpE b ρ M1 fun y M2 => binW op x y M2 q
  | .cmp op a b, ρ, M, q => wpE a ρ M fun x M1 => wpE b ρ M1 fun y M2 => cmpW op x y M2 fun k => q (.bl k) M2
  | .chn o1 o2 a b c, ρ, M, q => wpE a ρ M fun x M1 => wpE b ρ M1 fun y M2 => cmpW o1 x y M2 fun k =>
      if k = true then wpE c ρ M2 fun z M3 => cmpW o2 y z M3 fun k => q (.bl k) M3 else q (.bl false) M2
  | .and a b, ρ, M, q => wpE a ρ M fun x M1 => ∃ k, tru M1 x = some k ∧ if k = true then wpE b ρ M1 q else q x M1
  | .or a b, ρ, M, q => wpE a ρ M fun x M1 => ∃ k, tru M1 x = some k ∧ if k = true then q x M1 else wpE b ρ M1 q
  | .not a, ρ, M, q => wpE a ρ M fun x M1 => ∃ k, tru M1 x = some k ∧ q (.bl (!k)) M1
  | .neg a, ρ, M, q => wpE a ρ M fun x M1 => ∃ i, x = .int i ∧ q (.int (-i)) M1
  | .ite c a b, ρ, M, q => wpE c ρ M fun x M1 => ∃ k, tru M1 x = some k ∧ if k = true then wpE a ρ M1 q else wpE b ρ M1 q
  | .tup es, ρ, M, q => wpEs es ρ M fun ds M1 => q (.tup ds) M1
  | .lst es, ρ, M, q => wpEs es ρ M fun ds M1 => ∀ p, M1 p = none → q (.lst p) (M1.up p ds)
  | .call g es, ρ, M, q => wpEs es ρ M fun ds M1 => Γ g ds M1 q
  | .bfn b es, ρ, M, q => wpEs es ρ M fun ds M1 => bfW b ds M1 q
  | .mth m o es, ρ, M, q => wpE o ρ M fun x M1 => (∃ a ds, x = .lst a ∧ M1 a = some ds) ∧ wpEs es ρ M1 fun ds M2 => mthW m x ds M2 q
  | .ix a b, ρ, M, q => wpE a ρ M fun x M1 => wpE b ρ M1 fun y M2 => ixW x y M2 q
  | .sl a lo hi, ρ, M, q => wpE a ρ M fun x M1 => wpO lo ρ M1 fun l M2 => wpO hi ρ M2 fun h M3 => slW x l h M3 q
  | .comp elt t it c own, ρ, M, q => wpI it ρ M fun items stab M1 => items.length ≤ sizeLine ∧ ∃ W : Nat → List D → Mem → Prop, W 0 [] M1 ∧
      (∀ i acc M, i ≤ items.length → W i acc M → stab M) ∧
      (∀ i d acc M, items[i]? = some d → W i acc M → wpT t d (wipeE ρ own) M fun ρ' M' => wpC c ρ' M' fun b M2 =>
        if b = true then wpE elt ρ' M2 fun y M3 => W (i + 1) (acc ++ [y]) M3 else W (i + 1) acc M2) ∧
      (∀ acc M, acc.length ≤ items.length → W items.length acc M → ∀ p, M p = none → q (.lst p) (M.up p acc))
def wpEs : Es → En → Mem → (List D → Mem → Prop) → Prop
  | .nil, _, M, k => k [] M
  | .cons e es, ρ, M, k => wpE e ρ M fun d M1 => wpEs es ρ M1 fun ds M2 => k (d :: ds) M2
def wpO : O → En → Mem → (Option Int → Mem → Prop) → Prop
  | .no, _, M, k => k none M
  | .yes e, ρ, M, k => wpE e ρ M fun d M1 => ∃ i, d = .int i ∧ k (some i) M1
def wpC : C → En → Mem → (Bool → Mem → Prop) → Prop
  | .no, _, M, k => k true M
  | .yes e, ρ, M, k => wpE e ρ M fun d M1 => ∃ b, tru M1 d = some b ∧ k b M1
def wpT : T → D → En → Mem → (En → Mem → Prop) → Prop
  | .nm i, d, ρ, M, k => k (put ρ i d) M
  | .tp ts, d, ρ, M, k => ∃ ds, d = .tup ds ∧ ds.length = ts.len ∧ wpTs ts ds ρ M k
  | .ix o i, d, ρ, M, k => wpE o ρ M fun x M1 => wpE i ρ M1 fun y M2 => setW x y d M2 fun M3 => k ρ M3
def wpTs : Ts → List D → En → Mem → (En → Mem → Prop) → Prop
  | .nil, ds, ρ, M, k => ds = [] ∧ k ρ M
  | .cons t ts, ds, ρ, M, k => ∃ d r, ds = d :: r ∧ wpT t d ρ M fun ρ' M' => wpTs ts r ρ' M' k
def wpI : I → En → Mem → KI → Prop
  | .seq e, ρ, M, R => wpE e ρ M fun d M1 => seqW d M1 R
  | .rng1 a, ρ, M, R => wpE a ρ M fun d M1 => rng1W d M1 R
  | .rng2 a b, ρ, M, R => wpE a ρ M fun d M1 => wpE b ρ M1 fun e M2 => rng2W d e M2 R
  | .enum e, ρ, M, R => wpE e ρ M fun d M1 => enumW d M1 R
  | .zip a b, ρ, M, R => wpE a ρ M fun d M1 => wpE b ρ M1 fun e M2 => zipW d e M2 R
end
mutual
def wpS : S → En → Mem → Ed → Prop
  | .asg t e, ρ, M, F => wpE Γ e ρ M fun d M1 => wpT Γ t d ρ M1 F.nx
  | .par i j a b, ρ, M, F => wpE Γ a ρ M fun x M1 => wpE Γ b ρ M1 fun y M2 => F.nx (put (put ρ i x) j y) M2
  | .aug i op e, ρ, M, F => ∃ x, get ρ i = some x ∧ wpE Γ e ρ M fun y M1 => augW op x y M1 fun z M2 => F.nx (put ρ i z) M2
  | .expr e, ρ, M, F => wpE Γ e ρ M fun _ M1 => F.nx ρ M1
  | .ret e, ρ, M, F => wpE Γ e ρ M F.rt
  | .retN, _, M, F => F.rt .non M
  | .ite c a b, ρ, M, F => wpE Γ c ρ M fun x M1 => ∃ k, tru M1 x = some k ∧ if k = true then wpSs a ρ M1 F else wpSs b ρ M1 F
  | .whl c b, ρ, M, F => ∃ W : Nat → En → Mem → Prop, (∃ m, W m ρ M) ∧ ∀ m ρ M, W m ρ M → wpE Γ c ρ M fun d M1 => ∃ k, tru M1 d = some k ∧
      if k = true then ∃ N : En → Mem → Prop, (∀ ρ' M', N ρ' M' → ∃ m', m' < m ∧ W m' ρ' M') ∧ wpSs b ρ M1 ⟨N, F.rt, F.nx, N⟩ else F.nx ρ M1
  | .for_ t it b, ρ, M, F => wpI Γ it ρ M fun items stab M1 => ∃ W : Nat → En → Mem → Prop, W 0 ρ M1 ∧ (∀ i ρ M, i ≤ items.length → W i ρ M → stab M) ∧
      (∀ i d ρ M, items[i]? = some d → W i ρ M → wpT Γ t d ρ M fun ρ' M' => wpSs b ρ' M' ⟨W (i + 1), F.rt, F.nx, W (i + 1)⟩) ∧
      (∀ ρ M, W items.length ρ M → F.nx ρ M)
  | .brk, ρ, M, F => F.bk ρ M
  | .cont, ρ, M, F => F.ct ρ M
  | .pass, ρ, M, F => F.nx ρ M
  | .stuck, _, _, _ => False
def wpSs : Ss → En → Mem → Ed → Prop
  | .nil, ρ, M, F => F.nx ρ M
  | .cons s ss, ρ, M, F => wpS s ρ M ⟨fun ρ' M' => wpSs ss ρ' M' F, F.rt, F.bk, F.ct⟩
end
end
end TB

namespace TB
open PySem PySem.Spec PyProof.Rows L2
abbrev St := L2.St

/-! ### the slots -/
section
variable {K : PySem.W.Frag} {M M' : Mem} {H H' : Hp} {ρ : En} {σ : St}
def RepE (K : PySem.W.Frag) (H : Hp) (ρ : En) (σ : St) : Prop := ρ.length = σ.length ∧ ∀ i d, get ρ i = some d → ∃ v, σ[i]? = some (some v) ∧ Rep K H d v
theorem RepE.keep (s : Keep H H') (h : RepE K H ρ σ) : RepE K H' ρ σ := ⟨h.1, fun i d e => let ⟨v, q, r⟩ := h.2 i d e; ⟨v, q, r.keep s⟩⟩
theorem put_length : ∀ (ρ : En) (i : Nat) (d : D), (put ρ i d).length = ρ.length
  | [], _, _ => rfl
  | _ :: _, 0, _ => rfl
  | x :: r, n + 1, d => by simp [put, put_length r n d]
theorem clr_length : ∀ (ρ : En) (i : Nat), (clr ρ i).length = ρ.length
  | [], _ => rfl
  | _ :: _, 0 => rfl
  | x :: r, n + 1 => by simp [clr, clr_length r n]
theorem get_put : ∀ (ρ : En) (i j : Nat) (d e : D), get (put ρ i d) j = some e → (j = i ∧ e = d ∧ i < ρ.length) ∨ (j ≠ i ∧ get ρ j = some e)
  | [], _, _, _, _, h => by simp [put, get] at h
  | _ :: _, 0, 0, _, _, h => by simp [put, get] at h; exact .inl ⟨rfl, h.symm, by simp⟩
  | x :: r, 0, j + 1, d, e, h => .inr ⟨by omega, by simpa [put, get] using h⟩
  | x :: r, i + 1, 0, d, e, h => .inr ⟨by omega, by simpa [put, get] using h⟩
  | x :: r, i + 1, j + 1, d, e, h => by
    rcases get_put r i j d e (by simpa [put, get] using h) with ⟨a, b, c⟩ | ⟨a, b⟩
    · exact .inl ⟨by omega, b, by simp; omega⟩
    · exact .inr ⟨by omega, by simpa [get] using b⟩
theorem get_clr : ∀ (ρ : En) (i j : Nat) (e : D), get (clr ρ i) j = some e → j ≠ i ∧ get ρ j = some e
  | [], _, _, _, h => by simp [clr, get] at h
  | _ :: _, 0, 0, _, h => by simp [clr, get] at h
  | x :: r, 0, j + 1, e, h => ⟨by omega, by simpa [clr, get] using h⟩
  | x :: r, i + 1, 0, e, h => ⟨by omega, by simpa [clr, get] using h⟩
  | x :: r, i + 1, j + 1, e, h => by
    obtain ⟨a, b⟩ := get_clr r i j e (by simpa [clr, get] using h)
    exact ⟨by omega, by simpa [get] using b⟩
theorem RepE.put (h : RepE K H ρ σ) {i : Nat} {d : D} {v : V} (r : Rep K H d v) : RepE K H (put ρ i d) (σ.set i (some v)) := by
  refine ⟨by rw [put_length, List.length_set]; exact h.1, fun j e q => ?_⟩
  rcases get_put ρ i j d e q with ⟨rfl, rfl, hl⟩ | ⟨hne, q⟩
  · exact ⟨v, by rw [List.getElem?_set_self (by rw [← h.1]; exact hl)], r⟩
  · obtain ⟨w, a, b⟩ := h.2 j e q
    exact ⟨w, by rw [List.getElem?_set_ne (Ne.symm hne)]; exact a, b⟩
theorem RepE.clr (h : RepE K H ρ σ) (i : Nat) : RepE K H (clr ρ i) (σ.set i none) := by
  refine ⟨by rw [clr_length, List.length_set]; exact h.1, fun j e q => ?_⟩
  obtain ⟨hne, q⟩ := get_clr ρ i j e q
  obtain ⟨w, a, b⟩ := h.2 j e q
  exact ⟨w, by rw [List.getElem?_set_ne (Ne.symm hne)]; exact a, b⟩
theorem RepE.wipe (h : RepE K H ρ σ) : ∀ own : List Nat, RepE K H (wipeE ρ own) (wipe σ own)
  | [] => h
  | v :: vs => (RepE.wipe h vs).clr v
end

/-! ### lifts -/
def LE (K : PySem.W.Frag) (w : En → Mem → K1 → Prop) : TE := fun σ H Q => ∃ ρ M q, RepE K H ρ σ ∧ RepM K H M ∧ w ρ M q ∧
  ∀ d M' v H', Step M H M' H' → Rep K H' d v → RepM K H' M' → q d M' → Q v H'
def LT (K : PySem.W.Frag) (w : En → Mem → K1 → Prop) : TT := fun σ H Q => ∃ ρ M q, RepE K H ρ σ ∧ RepM K H M ∧ w ρ M q ∧
  ∀ d M' v H', Step M H M' H' → Rep K H' d v → RepM K H' M' → q d M' → ∃ b, tru M' d = some b ∧ Q b H'
def LA (K : PySem.W.Frag) (n : Nat) (w : En → Mem → (List D → Mem → Prop) → Prop) : TA := fun σ H Q => ∃ ρ M q, RepE K H ρ σ ∧ RepM K H M ∧ w ρ M q ∧
  ∀ ds M' vs H', ds.length = n → Step M H M' H' → RepL K H' ds vs → RepM K H' M' → q ds M' → Q vs H'
def LR2 (K : PySem.W.Frag) (f : D → D → Mem → K1 → Prop) : R2 := fun x y H Q => ∃ dx dy M q, Rep K H dx x ∧ Rep K H dy y ∧ RepM K H M ∧ f dx dy M q ∧
  ∀ d M' v H', Step M H M' H' → Rep K H' d v → RepM K H' M' → q d M' → Q v H'
def LC (K : PySem.W.Frag) (f : List D → Mem → K1 → Prop) : List V → Hp → VK → Prop := fun xs H Q => ∃ ds M q, RepL K H ds xs ∧ RepM K H M ∧ f ds M q ∧
  ∀ d M' v H', Step M H M' H' → Rep K H' d v → RepM K H' M' → q d M' → Q v H'
def LM (K : PySem.W.Frag) (f : D → List D → Mem → K1 → Prop) : V → List V → Hp → VK → Prop := fun x xs H Q => ∃ dx ds M q, Rep K H dx x ∧ RepL K H ds xs ∧ RepM K H M ∧ f dx ds M q ∧
  ∀ d M' v H', Step M H M' H' → Rep K H' d v → RepM K H' M' → q d M' → Q v H'

section
variable {X : Cx} {a b c e : Expr} {ta tb tc t t' : TE} {pos : Pos}
theorem pe_imp (h : PE X e t) (f : ∀ σ H Q, t' σ H Q → t σ H Q) : PE X e t' := ⟨fun pins s σ H Q I hw => h.run pins s σ H Q I (f σ H Q hw)⟩
theorem pt_imp {t t' : TT} (h : PT X e t) (f : ∀ σ H Q, t' σ H Q → t σ H Q) : PT X e t' := ⟨fun pins s σ H Q I hw => h.run pins s σ H Q I (f σ H Q hw)⟩
theorem pw_imp {t t' : TT} (h : PW X e t) (f : ∀ σ H Q, t' σ H Q → t σ H Q) : PW X e t' := ⟨fun wh pins s σ H Q I hw => h.run wh pins s σ H Q I (f σ H Q hw)⟩
theorem pa_imp {es : List Expr} {t t' : TA} (h : PA X es t) (f : ∀ σ H Q, t' σ H Q → t σ H Q) : PA X es t' := ⟨fun pos pins s σ H Q I hw => h.run pos pins s σ H Q I (f σ H Q hw)⟩

def Bin.op : Bin → Operator
  | .add => .Add | .sub => .Sub | .mul => .Mult | .fdiv => .FloorDiv | .mod => .Mod | .pow => .Pow
def Cm.op : Cm → CmpOp
  | .lt => .Lt | .le => .LtE | .gt => .Gt | .ge => .GtE | .eq => .Eq | .ne => .NotEq | .isN => .Is | .notN => .IsNot | .inn => .In | .notIn => .NotIn

theorem line2 : (2 : Nat) ≤ sizeLine := by rw [sizeLine_eq]; decide

theorem RepL.flat {K : PySem.W.Frag} {H : Hp} {ds : List D} {xs : List V} (h : RepL K H ds xs) : ∀ n : Nat, RepL K H (List.replicate n ds).flatten (List.replicate n xs).flatten
  | 0 => rfl
  | n + 1 => by
    rw [List.replicate_succ, List.replicate_succ, List.flatten_cons, List.flatten_cons]
    exact h.app (RepL.flat h n)
theorem op_bin (op : Bin) : OpR X (binaryOp op.op) (LR2 X.K (binW op)) := by
  rintro pins s σ H x y v u Q I rx ry ⟨dx, dy, M, q, r1, r2, m, w, k⟩
  have fin : ∀ {d : D} {v : V}, q d M → Rep X.K H d v → Q v H := fun z r => k _ M _ H .refl r m z
  unfold binW at w
  split at w
  · cases r1; cases r2
    exact op_add pins s σ H _ _ v u Q I rx ry ⟨_, _, rfl, rfl, fin w rfl⟩
  · cases r1; cases r2
    exact op_sub pins s σ H _ _ v u Q I rx ry ⟨_, _, rfl, rfl, fin w rfl⟩
  · cases r1; cases r2
    obtain ⟨z, w⟩ := w
    exact opI (C := IntMulOk) (g := fun i j => i * j) (fun _ _ _ _ _ _ _ hc q => mul_int q hc) pins s σ H _ _ v u Q I rx ry ⟨_, _, rfl, rfl, z, fin w rfl⟩
  · cases r1; cases r2
    rename_i i j
    obtain ⟨⟨z, z2⟩, w⟩ := w
    exact opI (C := fun _ j => j ≠ 0 ∧ DvOk j) (g := fun i j => i.fdiv j) (fun _ _ _ _ _ _ _ hc q => floordiv_int hc.1 q (.inl (PyProof.noPylong_of_log2 hc.2))) pins s σ H _ _ v u Q I rx ry ⟨_, _, rfl, rfl, ⟨z, z2⟩, fin w rfl⟩
  · cases r1; cases r2
    obtain ⟨z, w⟩ := w
    exact op_modN pins s σ H _ _ v u Q I rx ry ⟨_, _, rfl, rfl, z, fin w rfl⟩
  · cases r1; cases r2
    obtain ⟨z, w⟩ := w
    exact op_pow pins s σ H _ _ v u Q I rx ry ⟨_, _, rfl, rfl, z, fin w rfl⟩
  · cases r1; cases r2
    obtain ⟨z, w⟩ := w
    exact op_add_str pins s σ H _ _ v u Q I rx ry ⟨_, _, rfl, rfl, z, fin w rfl⟩
  · obtain ⟨z, w⟩ := w
    obtain ⟨p, xs, rfl, h1, l1, z1⟩ := r1
    obtain ⟨p2, ys, rfl, h2, l2, z2⟩ := r2
    have e1 := l1.length
    have e2 := l2.length
    refine op_catA pins s σ H _ _ v u Q I rx ry ⟨p, p2, xs, ys, rfl, rfl, h1, h2, by omega, fun e => ?_, fun _ e => ?_, fun _ _ p3 hp => ?_⟩
    · subst e
      cases (List.eq_nil_of_length_eq_zero e1)
      exact fin w ⟨_, _, rfl, h2, l2, z2⟩
    · subst e
      cases (List.eq_nil_of_length_eq_zero e2)
      rw [List.append_nil] at w
      exact fin w ⟨_, _, rfl, h1, l1, z1⟩
    · exact k (.tup _) M _ _ (step_new m hp) ⟨_, _, rfl, .inl (.inl upd_same), (l1.app l2).keep (keep_new hp), by rw [List.length_append]; exact z⟩ (m.new hp) w
  · cases r1; cases r2
    obtain ⟨xs, ys, e1, e2, z, w⟩ := w
    obtain ⟨vs, h1, l1, _⟩ := m _ _ e1
    obtain ⟨ws, h2, l2, _⟩ := m _ _ e2
    have e3 := l1.length
    have e4 := l2.length
    refine op_cat pins s σ H _ _ v u Q I rx ry ⟨_, _, vs, ws, rfl, rfl, h1, h2, by omega, fun p hp => ?_⟩
    exact k (.lst p) _ _ _ (step_newL m hp) rfl (m.newL hp (l1.app l2) (by rw [List.length_append]; exact z)) (w p (m.free hp))
  · cases r2
    rename_i ds j
    obtain ⟨⟨z1, z2, z3, z4⟩, w⟩ := w
    obtain ⟨p, xs, rfl, h1, l1, _⟩ := r1
    have e1 := l1.length
    refine op_repT pins s σ H _ _ v u Q I rx ry ⟨p, j, xs, rfl, rfl, h1, fun e => z1 (List.eq_nil_of_length_eq_zero (by rw [e1, e]; rfl)), z2, z3, by omega, fun p3 hp => ?_⟩
    refine k (.tup _) M _ _ (step_new m hp) ⟨_, _, rfl, .inl (.inl upd_same), (l1.flat j.toNat).keep (keep_new hp), ?_⟩ (m.new hp) w
    rw [List.length_flatten, List.map_replicate, List.sum_replicate_nat]
    have : j.toNat * ds.length ≤ 1000 * 1000 := Nat.mul_le_mul (by omega) z4
    exact Nat.le_trans this (by rw [sizeLine_eq]; decide)
  · exact w.elim
theorem op_aug (op : Bin) : OpR X (inplaceOp op.op) (LR2 X.K (augW op)) := by
  rintro pins s σ H x y v u Q I rx ry ⟨dx, dy, M, q, r1, r2, m, w, k⟩
  have fin : ∀ {d : D} {v : V}, q d M → Rep X.K H d v → Q v H := fun z r => k _ M _ H .refl r m z
  unfold augW at w
  split at w
  · cases r1; cases r2
    exact iop_add pins s σ H _ _ v u Q I rx ry ⟨_, _, rfl, rfl, fin w rfl⟩
  · cases r1; cases r2
    exact iop_sub pins s σ H _ _ v u Q I rx ry ⟨_, _, rfl, rfl, fin w rfl⟩
  · cases r1; cases r2
    obtain ⟨z, w⟩ := w
    exact opI (C := IntMulOk) (g := fun i j => i * j) (fun _ _ _ _ _ _ _ hc q => imul_int q hc) pins s σ H _ _ v u Q I rx ry ⟨_, _, rfl, rfl, z, fin w rfl⟩
  · cases r1; cases r2
    obtain ⟨z, w⟩ := w
    exact iop_add_str pins s σ H _ _ v u Q I rx ry ⟨_, _, rfl, rfl, z, fin w rfl⟩
  · cases r1; cases r2
    obtain ⟨xs, ys, e1, e2, z, w⟩ := w
    obtain ⟨vs, h1, l1, _⟩ := m _ _ e1
    obtain ⟨ws, h2, l2, _⟩ := m _ _ e2
    have e3 := l1.length
    have e4 := l2.length
    refine iop_ext pins s σ H _ _ v u Q I rx ry ⟨_, _, vs, ws, rfl, rfl, h1, h2, by omega, ?_⟩
    exact k (.lst _) _ _ _ (step_wr e1 h1) rfl (m.wr h1 (l1.app l2) (by rw [List.length_append]; exact z)) w
  · exact w.elim

/-! ### == -/
mutual
def toPy : D → PyData
  | .non => .none
  | .bl b => .bool b
  | .int i => .int i
  | .str s => .str s
  | .tup ds => .tuple (toPyL ds)
  | .lst _ => .none
  | .scr _ _ => .none
def toPyL : List D → List PyData
  | [] => []
  | d :: ds => toPy d :: toPyL ds
end
mutual
theorem dp_of {K : PySem.W.Frag} {H : Hp} : ∀ (d : D) (v : V), d.pure = true → Rep K H d v → Dp K H v (toPy d)
  | .non, _, _, h => by cases h; exact .non
  | .bl _, _, _, h => by cases h; exact .bl _
  | .int _, _, _, h => by cases h; exact .int _
  | .str _, _, _, h => by cases h; exact .str _
  | .tup ds, v, p, h => by
    obtain ⟨a, xs, rfl, q, r, z⟩ := h
    exact .tup q (dpl_of ds xs (by simpa [D.pure] using p) r)
  | .lst _, _, p, _ => by simp [D.pure] at p
  | .scr _ _, _, p, _ => by simp [D.pure] at p
theorem dpl_of {K : PySem.W.Frag} {H : Hp} : ∀ (ds : List D) (xs : List V), D.pureL ds = true → RepL K H ds xs → DpAll K H xs (toPyL ds)
  | [], _, _, h => by cases h; exact .nil
  | d :: ds, xs, p, h => by
    obtain ⟨x, r, rfl, q, t⟩ := h
    simp only [D.pureL, Bool.and_eq_true] at p
    exact .cons (dp_of d x p.1 q) (dpl_of ds r p.2 t)
end
mutual
theorem lay_of : ∀ d : D, d.pure = true → (toPy d).canLay0 = true
  | .non, _ => by simp [toPy, PyData.canLay0]
  | .bl _, _ => by simp [toPy, PyData.canLay0]
  | .int _, _ => by simp [toPy, PyData.canLay0]
  | .str _, h => by simpa [toPy, PyData.canLay0, D.pure] using h
  | .tup ds, h => by simp only [toPy, PyData.canLay0]; exact layl_of ds (by simpa [D.pure] using h)
  | .lst _, _ => by simp [toPy, PyData.canLay0]
  | .scr _ _, _ => by simp [toPy, PyData.canLay0]
theorem layl_of : ∀ ds : List D, D.pureL ds = true → PyData.canLayAll0 (toPyL ds) = true
  | [], _ => by simp [toPyL, PyData.canLayAll0]
  | d :: ds, h => by
    simp only [D.pureL, Bool.and_eq_true] at h
    simp only [toPyL, PyData.canLayAll0, lay_of d h.1, layl_of ds h.2, Bool.and_self]
end
mutual
theorem dep_of : ∀ d : D, (toPy d).depth ≤ d.depth + 1
  | .non => by simp [toPy, PyData.depth]
  | .bl _ => by simp [toPy, PyData.depth]
  | .int _ => by simp [toPy, PyData.depth]
  | .str _ => by simp [toPy, PyData.depth]
  | .tup ds => by
    have := depl_of ds
    simp only [toPy, PyData.depth, D.depth]; omega
  | .lst _ => by simp [toPy, PyData.depth]
  | .scr _ _ => by simp [toPy, PyData.depth]
theorem depl_of : ∀ ds : List D, PyData.depthAll (toPyL ds) ≤ D.depthL ds + 1
  | [] => by simp [toPyL, PyData.depthAll]
  | d :: ds => by
    have h1 := dep_of d
    have h2 := depl_of ds
    simp only [toPyL, PyData.depthAll, D.depthL]; omega
end
mutual
theorem eqv_deq : ∀ d e : D, d.pure = true → e.pure = true → PyData.eqv (toPy d) (toPy e) = deq d e
  | .non, e, _, pe => by cases e <;> simp [D.pure] at pe <;> simp [toPy, PyData.eqv, deq]
  | .bl _, e, _, pe => by cases e <;> simp [D.pure] at pe <;> simp [toPy, PyData.eqv, deq]
  | .int _, e, _, pe => by cases e <;> simp [D.pure] at pe <;> simp [toPy, PyData.eqv, deq]
  | .str _, e, _, pe => by cases e <;> simp [D.pure] at pe <;> simp [toPy, PyData.eqv, deq]
  | .tup ds, e, pd, pe => by
    cases e with
    | tup es =>
      simp only [toPy, PyData.eqv, deq]
      exact eqvl_deq ds es (by simpa [D.pure] using pd) (by simpa [D.pure] using pe)
    | _ => simp [D.pure] at pe <;> simp [toPy, PyData.eqv, deq]
  | .lst _, _, p, _ => by simp [D.pure] at p
  | .scr _ _, _, p, _ => by simp [D.pure] at p
theorem eqvl_deq : ∀ ds es : List D, D.pureL ds = true → D.pureL es = true → PyData.eqvAll (toPyL ds) (toPyL es) = deqL ds es
  | [], es, _, _ => by cases es <;> simp [toPyL, PyData.eqvAll, deqL]
  | d :: ds, [], _, _ => by simp [toPyL, PyData.eqvAll, deqL]
  | d :: ds, e :: es, pd, pe => by
    simp only [D.pureL, Bool.and_eq_true] at pd pe
    simp only [toPyL, PyData.eqvAll, deqL, eqv_deq d e pd.1 pe.1, eqvl_deq ds es pd.2 pe.2]
end
theorem shaped_of {d : D} (hp : d.pure = true) (h : d.depth ≤ 60) : SeqAt.shaped (toPy d) = true := by
  have h1 := lay_of d hp
  have h2 := dep_of d
  have h3 : (toPy d).depth ≤ 64 := by omega
  simp [SeqAt.shaped, h1, h3]
theorem shapedL_of {ds : List D} (hp : D.pureL ds = true) (h : D.depthL ds ≤ 60) : SeqAt.shaped (.list (toPyL ds)) = true := by
  have h1 := layl_of ds hp
  have h2 := depl_of ds
  have h3 : PyData.depth (.list (toPyL ds)) ≤ 64 := by simp only [PyData.depth]; omega
  have h4 : PyData.canLay0 (.list (toPyL ds)) = true := by simp only [PyData.canLay0]; exact h1
  simp [SeqAt.shaped, h4, h3]
theorem eqw_ok {K : PySem.W.Frag} {H : Hp} {M : Mem} {dx dy : D} {x y : V} {q : Bool → Prop} (r1 : Rep K H dx x) (r2 : Rep K H dy y) (m : RepM K H M) (w : eqW dx dy M q) :
    ∃ d e, Dp K H x d ∧ Dp K H y e ∧ SeqAt.shaped d = true ∧ SeqAt.shaped e = true ∧ q (PyData.eqv d e) := by
  unfold eqW at w
  split at w
  · cases r1; cases r2
    obtain ⟨xs, ys, e1, e2, ⟨p1, p2, p3, p4⟩, w⟩ := w
    obtain ⟨vs, h1, l1, _⟩ := m _ _ e1
    obtain ⟨ws, h2, l2, _⟩ := m _ _ e2
    refine ⟨.list (toPyL xs), .list (toPyL ys), .lst (SqL.of h1) (dpl_of _ _ p1 l1), .lst (SqL.of h2) (dpl_of _ _ p2 l2), shapedL_of p1 p3, shapedL_of p2 p4, ?_⟩
    simp only [PyData.eqv]
    rw [eqvl_deq _ _ p1 p2]; exact w
  · obtain ⟨⟨p1, p2, p3, p4⟩, w⟩ := w
    refine ⟨toPy dx, toPy dy, dp_of _ _ p1 r1, dp_of _ _ p2 r2, shaped_of p1 p3, shaped_of p2 p4, ?_⟩
    rw [eqv_deq _ _ p1 p2]; exact w

/-! ### in -/
theorem flat_rep {K : PySem.W.Frag} {H : Hp} {d : D} {v : V} (f : d.flat = true) (r : Rep K H d v) : flatV v = true := by
  cases d <;> simp [D.flat] at f <;> (cases r; rfl)
theorem eqV_deq {K : PySem.W.Frag} {H : Hp} {d e : D} {v w : V} (f : d.flat = true) (g : e.flat = true) (r : Rep K H d v) (r2 : Rep K H e w) : eqV v w = deq d e := by
  cases d <;> simp [D.flat] at f <;> cases e <;> simp [D.flat] at g <;> (cases r; cases r2; simp [eqV, deq])
theorem flatAll {K : PySem.W.Frag} {H : Hp} : ∀ {ds : List D} {xs : List V}, RepL K H ds xs → ds.all D.flat = true → xs.all flatV = true
  | [], _, h, _ => by cases h; rfl
  | d :: ds, _, h, f => by
    obtain ⟨x, r, rfl, q, t⟩ := h
    simp only [List.all_cons, Bool.and_eq_true] at f ⊢
    exact ⟨flat_rep f.1 q, flatAll t f.2⟩
theorem anyDeq {K : PySem.W.Frag} {H : Hp} {dx : D} {x : V} (fx : dx.flat = true) (rx : Rep K H dx x) : ∀ {ds : List D} {xs : List V}, RepL K H ds xs → ds.all D.flat = true → inV x xs = ds.any fun z => deq z dx
  | [], _, h, _ => by cases h; rfl
  | d :: ds, _, h, f => by
    obtain ⟨y, r, rfl, q, t⟩ := h
    simp only [List.all_cons, Bool.and_eq_true] at f
    have ih := anyDeq fx rx t f.2
    unfold inV at ih ⊢
    simp only [List.any_cons, ih, eqV_deq f.1 fx q rx]
theorem inw_ok {K : PySem.W.Frag} {H : Hp} {M : Mem} {dx dy : D} {x y : V} {q : Bool → Prop} (r1 : Rep K H dx x) (r2 : Rep K H dy y) (m : RepM K H M) (w : inW dx dy M q) :
    ∃ p xs, y = .ref p ∧ (SqL K H p xs ∨ SqT K H p xs) ∧ flatV x = true ∧ xs.all flatV = true ∧ q (inV x xs) := by
  unfold inW at w
  split at w
  · obtain ⟨p, xs, rfl, h, l, _⟩ := r2
    obtain ⟨f, g, w⟩ := w
    exact ⟨p, xs, rfl, .inr h, flat_rep f r1, flatAll l g, by rw [anyDeq f r1 l g]; exact w⟩
  · cases r2
    obtain ⟨ys, e, f, g, w⟩ := w
    obtain ⟨xs, h, l, _⟩ := m _ _ e
    exact ⟨_, xs, rfl, .inl (SqL.of h), flat_rep f r1, flatAll l g, by rw [anyDeq f r1 l g]; exact w⟩
  · exact w.elim

def cmpF (op : Cm) : D → D → Mem → K1 → Prop := fun x y M q => cmpW op x y M fun k => q (.bl k) M
theorem op_cmp (hu : X.A.units + 64 < cLine) (op : Cm) : OpR X (compareOp op.op) (LR2 X.K (cmpF op)) := by
  rintro pins s σ H x y v u Q I rx ry ⟨dx, dy, M, q, r1, r2, m, w, k⟩
  have fin : ∀ b, q (.bl b) M → Q (.bl b) H := fun b z => k (.bl b) M _ H .refl rfl m z
  cases op with
  | lt =>
    cases dx <;> cases dy <;> first | exact False.elim w | skip
    cases r1; cases r2
    exact op_lt pins s σ H _ _ v u Q I rx ry ⟨_, _, rfl, rfl, fin _ w⟩
  | le =>
    cases dx <;> cases dy <;> first | exact False.elim w | skip
    cases r1; cases r2
    exact op_le pins s σ H _ _ v u Q I rx ry ⟨_, _, rfl, rfl, fin _ w⟩
  | gt =>
    cases dx <;> cases dy <;> first | exact False.elim w | skip
    cases r1; cases r2
    exact op_gt pins s σ H _ _ v u Q I rx ry ⟨_, _, rfl, rfl, fin _ w⟩
  | ge =>
    cases dx <;> cases dy <;> first | exact False.elim w | skip
    cases r1; cases r2
    exact op_ge pins s σ H _ _ v u Q I rx ry ⟨_, _, rfl, rfl, fin _ w⟩
  | eq =>
    obtain ⟨d, e, a1, a2, a3, a4, a5⟩ := eqw_ok (q := fun b => q (.bl b) M) r1 r2 m w
    exact op_eqD hu pins s σ H _ _ v u Q I rx ry ⟨d, e, a1, a2, a3, a4, fin _ a5⟩
  | ne =>
    obtain ⟨d, e, a1, a2, a3, a4, a5⟩ := eqw_ok (q := fun b => q (.bl (!b)) M) r1 r2 m w
    exact op_neD hu pins s σ H _ _ v u Q I rx ry ⟨d, e, a1, a2, a3, a4, fin _ a5⟩
  | isN =>
    cases dy <;> first | exact False.elim w | skip
    rotate_left
    · cases dx <;> first | exact False.elim w | skip
      cases r1; cases r2
      exact op_isBl pins s σ H _ _ v u Q I rx ry ⟨_, _, rfl, rfl, fin _ w⟩
    cases r2
    refine op_isN pins s σ H _ _ v u Q I rx ry ⟨rfl, ?_⟩
    have e : decide (x = .non) = dx.isNon := by
      cases dx <;> first | (cases r1; rfl) | (obtain ⟨_, _, rfl, _⟩ := r1; rfl) | (obtain ⟨rfl, _⟩ := r1; rfl)
    rw [e]; exact fin _ w
  | notN =>
    cases dy <;> first | exact False.elim w | skip
    rotate_left
    · cases dx <;> first | exact False.elim w | skip
      cases r1; cases r2
      exact op_notBl pins s σ H _ _ v u Q I rx ry ⟨_, _, rfl, rfl, fin _ w⟩
    cases r2
    refine op_notN pins s σ H _ _ v u Q I rx ry ⟨rfl, ?_⟩
    have e : decide (x = .non) = dx.isNon := by
      cases dx <;> first | (cases r1; rfl) | (obtain ⟨_, _, rfl, _⟩ := r1; rfl) | (obtain ⟨rfl, _⟩ := r1; rfl)
    rw [e]; exact fin _ w
  | inn =>
    obtain ⟨p, xs, e, a1, a2, a3, a4⟩ := inw_ok (q := fun b => q (.bl b) M) r1 r2 m w
    exact op_in_seq pins s σ H _ _ v u Q I rx ry ⟨p, xs, e, a1, a2, a3, fin _ a4⟩
  | notIn =>
    obtain ⟨p, xs, e, a1, a2, a3, a4⟩ := inw_ok (q := fun b => q (.bl (!b)) M) r1 r2 m w
    exact op_notIn_seq pins s σ H _ _ v u Q I rx ry ⟨p, xs, e, a1, a2, a3, fin _ a4⟩
end
end TB

namespace TB
open PySem PySem.Spec PyProof.Rows L2

/-! ### truth -/
section
variable {K : PySem.W.Frag} {M M' : Mem} {H H' : Hp}
theorem tru_ok' {d : D} {v : V} {k : Bool} (r : Rep K H d v) (m : RepM K H M) (t : tru M d = some k) : TruV K v H k := by
  cases d with
  | non =>
    cases r
    have t : some false = some k := t
    cases t; exact rfl
  | bl b =>
    cases r
    have t : some b = some k := t
    cases t; exact rfl
  | int i =>
    cases r
    have t : some (i != 0) = some k := t
    cases t; exact rfl
  | str s =>
    cases r
    simp only [tru] at t
    split at t
    · rename_i h; cases t; exact ⟨h, rfl⟩
    · cases t
  | tup ds =>
    obtain ⟨a, xs, rfl, q, l, _⟩ := r
    have e := l.length
    have t : some (!ds.isEmpty) = some k := t
    cases t
    refine .inr (.inl ⟨xs, q, ?_⟩)
    cases ds <;> cases xs <;> simp_all
  | lst a =>
    cases r
    simp only [tru, Option.map_eq_some_iff] at t
    obtain ⟨ds, e, rfl⟩ := t
    obtain ⟨xs, h, l, _⟩ := m a ds e
    have e2 := l.length
    refine .inl ⟨xs, SqL.of h, ?_⟩
    cases ds <;> cases xs <;> simp_all
  | scr a ns => simp [tru] at t
end

/-! ### built-in functions -/
section
variable {X : Cx}
theorem blsOf_eq : ∀ {ds : List D} {bs : List Bool}, blsOf ds = some bs → ds = bs.map D.bl
  | [], bs, h => by simp [blsOf] at h; subst h; rfl
  | .bl b :: r, bs, h => by
    simp only [blsOf, Option.map_eq_some_iff] at h
    obtain ⟨cs, e, rfl⟩ := h
    rw [blsOf_eq e]; rfl
  | .non :: _, _, h => by simp [blsOf] at h
  | .int _ :: _, _, h => by simp [blsOf] at h
  | .str _ :: _, _, h => by simp [blsOf] at h
  | .tup _ :: _, _, h => by simp [blsOf] at h
  | .lst _ :: _, _, h => by simp [blsOf] at h
  | .scr _ _ :: _, _, h => by simp [blsOf] at h
theorem intsOf_eq : ∀ {ds : List D} {bs : List Int}, intsOf ds = some bs → ds = bs.map D.int
  | [], bs, h => by simp [intsOf] at h; subst h; rfl
  | .int b :: r, bs, h => by
    simp only [intsOf, Option.map_eq_some_iff] at h
    obtain ⟨cs, e, rfl⟩ := h
    rw [intsOf_eq e]; rfl
  | .non :: _, _, h => by simp [intsOf] at h
  | .bl _ :: _, _, h => by simp [intsOf] at h
  | .str _ :: _, _, h => by simp [intsOf] at h
  | .tup _ :: _, _, h => by simp [intsOf] at h
  | .lst _ :: _, _, h => by simp [intsOf] at h
  | .scr _ _ :: _, _, h => by simp [intsOf] at h

theorem bf_len : CallR X (.builtin "len") (LC X.K (bfW .len)) := by
  rintro pins s σ H xs us Q I r ⟨ds, M, q, rl, m, w, k⟩
  have fin : ∀ {d : D} {v : V}, q d M → Rep X.K H d v → Q v H := fun z r => k _ M _ H .refl r m z
  have w : lenW ds M q := w
  unfold lenW at w
  split at w <;> first | exact w.elim | skip
  all_goals (obtain ⟨x, rfl, rx⟩ := rl.one)
  · obtain ⟨a, ys, rfl, h, l, z⟩ := rx
    refine call_len pins s σ H _ us Q I r ⟨_, ys.length, rfl, .inr ⟨ys, h, rfl⟩, fin w ?_⟩
    rw [l.length]; rfl
  · cases rx
    obtain ⟨ds, e, w⟩ := w
    obtain ⟨ys, h, l, _⟩ := m _ _ e
    refine call_len pins s σ H _ us Q I r ⟨_, ys.length, rfl, .inl ⟨ys, SqL.of h, rfl⟩, fin w ?_⟩
    rw [l.length]; rfl
  · cases rx
    obtain ⟨z, w⟩ := w
    exact call_len pins s σ H _ us Q I r ⟨_, _, rfl, ⟨z, rfl⟩, fin w rfl⟩
  · obtain ⟨rfl, h⟩ := rx
    refine call_len pins s σ H _ us Q I r ⟨_, _, rfl, .inl ⟨_, h.sq, rfl⟩, fin w ?_⟩
    rw [List.length_map]; rfl
theorem bf_abs : CallR X (.builtin "abs") (LC X.K (bfW .abs)) := by
  rintro pins s σ H xs us Q I r ⟨ds, M, q, rl, m, w, k⟩
  have fin : ∀ {d : D} {v : V}, q d M → Rep X.K H d v → Q v H := fun z r => k _ M _ H .refl r m z
  have w : absW ds M q := w
  unfold absW at w
  split at w <;> first | exact w.elim | skip
  obtain ⟨x, rfl, rx⟩ := rl.one
  cases rx
  refine call_abs pins s σ H _ us Q I r ⟨_, rfl, fin w ?_⟩
  show V.int _ = V.int _
  congr 1
  split <;> omega
theorem bf_int : CallR X (.type "int") (LC X.K (bfW .int)) := by
  rintro pins s σ H xs us Q I r ⟨ds, M, q, rl, m, w, k⟩
  have fin : ∀ {d : D} {v : V}, q d M → Rep X.K H d v → Q v H := fun z r => k _ M _ H .refl r m z
  have w : intW ds M q := w
  unfold intW at w
  split at w <;> first | exact w.elim | skip
  all_goals (obtain ⟨x, rfl, rx⟩ := rl.one; cases rx)
  · exact call_int1 pins s σ H _ us Q I r (.inl ⟨_, rfl, fin w rfl⟩)
  · exact call_int1 pins s σ H _ us Q I r (.inr ⟨_, rfl, fin w rfl⟩)
theorem bf_tuple : CallR X (.type "tuple") (LC X.K (bfW .tuple)) := by
  rintro pins s σ H xs us Q I r ⟨ds, M, q, rl, m, w, k⟩
  have fin : ∀ {d : D} {v : V}, q d M → Rep X.K H d v → Q v H := fun z r => k _ M _ H .refl r m z
  have w : tupleW ds M q := w
  unfold tupleW at w
  split at w <;> first | exact w.elim | skip
  all_goals (obtain ⟨x, rfl, rx⟩ := rl.one)
  · obtain ⟨a, ys, rfl, h, l, z⟩ := rx
    exact call_tuple_of pins s σ H _ us Q I r ⟨_, ys, rfl, .inr ⟨h, fin w ⟨_, _, rfl, h, l, z⟩⟩⟩
  · cases rx
    obtain ⟨ds, e, w⟩ := w
    obtain ⟨ys, h, l, z⟩ := m _ _ e
    exact call_tuple_of pins s σ H _ us Q I r ⟨_, ys, rfl, .inl ⟨SqL.of h, fun p hp =>
      k (.tup _) M _ _ (step_new m hp) ⟨_, _, rfl, .inl (.inl upd_same), l.keep (keep_new hp), z⟩ (m.new hp) w⟩⟩
theorem bf_list : CallR X (.type "list") (LC X.K (bfW .list)) := by
  rintro pins s σ H xs us Q I r ⟨ds, M, q, rl, m, w, k⟩
  have w : listW ds M q := w
  unfold listW at w
  split at w <;> first | exact w.elim | skip
  all_goals (obtain ⟨x, rfl, rx⟩ := rl.one)
  · obtain ⟨a, ys, rfl, h, l, z⟩ := rx
    exact call_list_of pins s σ H _ us Q I r ⟨_, ys, rfl, .inr h, fun p hp => k (.lst p) _ _ _ (step_newL m hp) rfl (m.newL hp l z) (w p (m.free hp))⟩
  · cases rx
    obtain ⟨ds, e, w⟩ := w
    obtain ⟨ys, h, l, z⟩ := m _ _ e
    exact call_list_of pins s σ H _ us Q I r ⟨_, ys, rfl, .inl (SqL.of h), fun p hp => k (.lst p) _ _ _ (step_newL m hp) rfl (m.newL hp l z) (w p (m.free hp))⟩
theorem bf_all (hc : X.calm = true) : CallR X (.builtin "all") (LC X.K (bfW .all)) := by
  rintro pins s σ H xs us Q I r ⟨ds, M, q, rl, m, w, k⟩
  have fin : ∀ {d : D} {v : V}, q d M → Rep X.K H d v → Q v H := fun z r => k _ M _ H .refl r m z
  have w : allW ds M q := w
  unfold allW at w
  split at w <;> first | exact w.elim | skip
  obtain ⟨x, rfl, rx⟩ := rl.one
  cases rx
  obtain ⟨ds, bs, e, eb, w⟩ := w
  obtain ⟨ys, h, l, z⟩ := m _ _ e
  rw [blsOf_eq eb] at l
  rw [l.bls_eq] at h
  exact cr_all hc pins s σ H _ us Q I r ⟨_, bs, rfl, SqL.of h, fin w rfl⟩
theorem bf_any (hc : X.calm = true) : CallR X (.builtin "any") (LC X.K (bfW .any)) := by
  rintro pins s σ H xs us Q I r ⟨ds, M, q, rl, m, w, k⟩
  have fin : ∀ {d : D} {v : V}, q d M → Rep X.K H d v → Q v H := fun z r => k _ M _ H .refl r m z
  have w : anyW ds M q := w
  unfold anyW at w
  split at w <;> first | exact w.elim | skip
  obtain ⟨x, rfl, rx⟩ := rl.one
  cases rx
  obtain ⟨ds, bs, e, eb, w⟩ := w
  obtain ⟨ys, h, l, z⟩ := m _ _ e
  rw [blsOf_eq eb] at l
  rw [l.bls_eq] at h
  exact cr_any hc pins s σ H _ us Q I r ⟨_, bs, rfl, SqL.of h, fin w rfl⟩
theorem bf_sum (hc : X.calm = true) : CallR X (.builtin "sum") (LC X.K (bfW .sum)) := by
  rintro pins s σ H xs us Q I r ⟨ds, M, q, rl, m, w, k⟩
  have fin : ∀ {d : D} {v : V}, q d M → Rep X.K H d v → Q v H := fun z r => k _ M _ H .refl r m z
  have w : sumW ds M q := w
  unfold sumW at w
  split at w <;> first | exact w.elim | skip
  obtain ⟨x, rfl, rx⟩ := rl.one
  cases rx
  obtain ⟨ds, bs, e, eb, w⟩ := w
  obtain ⟨ys, h, l, z⟩ := m _ _ e
  rw [intsOf_eq eb] at l
  rw [l.ints_eq] at h
  exact cr_sum hc pins s σ H _ us Q I r ⟨_, bs, rfl, SqL.of h, fin w rfl⟩
def Ty.nm : Ty → String
  | .int => "int" | .bool => "bool" | .str => "str" | .tuple => "tuple" | .list => "list"
def D.tn : D → String
  | .non => "NoneType" | .bl _ => "bool" | .int _ => "int" | .str _ => "str" | .tup _ => "tuple" | .lst _ => "list" | .scr _ _ => "list"
inductive Kd | non | bl | int | str | tup | lst
def Kd.tn : Kd → String
  | .non => "NoneType" | .bl => "bool" | .int => "int" | .str => "str" | .tup => "tuple" | .lst => "list"
def isTyK : Ty → Kd → Bool
  | .int, .int => true
  | .int, .bl => true
  | .bool, .bl => true
  | .str, .str => true
  | .tuple, .tup => true
  | .list, .lst => true
  | _, _ => false
theorem kit_K : ∀ (t : Ty) (d : Kd), kitB d.tn t.nm = some (isTyK t d) := by
  intro t d
  cases t <;> cases d <;> decide +kernel
theorem kit_D : ∀ (t : Ty) (d : D), (∀ a ns, d ≠ .scr a ns) → kitB d.tn t.nm = some (isTy t d) := by
  intro t d h
  cases d with
  | non => rw [show isTy t .non = isTyK t .non by cases t <;> rfl]; exact kit_K t .non
  | bl b => rw [show isTy t (.bl b) = isTyK t .bl by cases t <;> rfl]; exact kit_K t .bl
  | int b => rw [show isTy t (.int b) = isTyK t .int by cases t <;> rfl]; exact kit_K t .int
  | str b => rw [show isTy t (.str b) = isTyK t .str by cases t <;> rfl]; exact kit_K t .str
  | tup b => rw [show isTy t (.tup b) = isTyK t .tup by cases t <;> rfl]; exact kit_K t .tup
  | lst b => rw [show isTy t (.lst b) = isTyK t .lst by cases t <;> rfl]; exact kit_K t .lst
  | scr a ns => exact absurd rfl (h a ns)
theorem tyx_of {K : PySem.W.Frag} {H : Hp} {M : Mem} {d : D} {v : V} (r : Rep K H d v) (m : RepM K H M) (hl : ∀ a, d = .lst a → ∃ ds, M a = some ds) (hs : ∀ a ns, d ≠ .scr a ns) : TyX K H v (.type d.tn) := by
  cases d with
  | non => cases r; exact .base .non
  | bl b => cases r; exact .base (.bl b)
  | int b => cases r; exact .base (.int b)
  | str b => cases r; exact .base (.str b)
  | tup ds =>
    obtain ⟨a, xs, rfl, q, _⟩ := r
    rcases q with (q | ⟨o, q⟩) | ⟨o, its, n, h1, h2, _⟩
    · exact .base (.tup q)
    · exact .fTuple q
    · exact .kTuple h1 h2
  | lst a =>
    cases r
    obtain ⟨ds, e⟩ := hl a rfl
    obtain ⟨xs, h, _⟩ := m a ds e
    exact .base (.lst h)
  | scr a ns => exact absurd rfl (hs a ns)
theorem bf_isT (t : Ty) : CallR X (.builtin "isinstance") (fun xs H Q => ∃ x, xs = [x, .ty t.nm] ∧ LC X.K (bfW (.isT t)) [x] H Q) := by
  rintro pins s σ H xs us Q I r ⟨x, rfl, ds, M, q, rl, m, w, k⟩
  have fin : ∀ {d : D} {v : V}, q d M → Rep X.K H d v → Q v H := fun z r => k _ M _ H .refl r m z
  match ds, rl, w with
  | [], rl, w => cases rl
  | [d], rl, w =>
    obtain ⟨y, e, rx⟩ := rl.one
    cases e
    have key : (∀ a, d = .lst a → ∃ ds, M a = some ds) ∧ (∀ a ns, d ≠ .scr a ns) ∧ q (.bl (isTy t d)) M := by
      cases d with
      | lst a => obtain ⟨ds, e, w⟩ := w; exact ⟨fun b e2 => by cases e2; exact ⟨ds, e⟩, (fun a ns => nofun), w⟩
      | scr a ns => exact False.elim w
      | _ => exact ⟨nofun, nofun, w⟩
    obtain ⟨h1, h2, w⟩ := key
    have kb := kit_D t d h2
    exact call_isi pins s σ H _ us Q I r ⟨x, .ty t.nm, .type d.tn, .type t.nm, _, rfl, .ty _, tyx_of rx m h1 h2, kit_ty kb, fin w rfl⟩
  | d :: e :: r', rl, w =>
    obtain ⟨x1, r1, e1, _, t1⟩ := rl
    obtain ⟨x2, r2, e2, _, t2⟩ := t1
    subst e2
    cases e1

/-! ### methods of lists -/
theorem RepL.single {K : PySem.W.Frag} {H : Hp} {d : D} {v : V} (r : Rep K H d v) : RepL K H [d] [v] := ⟨v, [], rfl, r, rfl⟩
theorem m_append : MtR X "list.append" (LM X.K (mthW .append)) := by
  rintro pins s σ H x xs v us Q I rx rv ⟨dx, ds, M, q, r1, rl, m, w, k⟩
  have w : appendW dx ds M q := w
  unfold appendW at w
  split at w <;> first | exact w.elim | skip
  cases r1
  obtain ⟨y, rfl, ry⟩ := rl.one
  obtain ⟨es, e, hz, w⟩ := w
  obtain ⟨ys, h, l, z⟩ := m _ _ e
  have el := l.length
  refine mt_append pins s σ H _ _ v us Q I rx rv ⟨_, ys, y, rfl, rfl, h, by omega, ?_⟩
  exact k .non _ _ _ (step_wr e h) rfl (m.wr h (l.app (RepL.single ry)) (by simp; omega)) w
theorem m_insert : MtR X "list.insert" (LM X.K (mthW .insert)) := by
  rintro pins s σ H x xs v us Q I rx rv ⟨dx, ds, M, q, r1, rl, m, w, k⟩
  have w : insertW dx ds M q := w
  unfold insertW at w
  split at w <;> first | exact w.elim | skip
  cases r1
  obtain ⟨y0, y, rfl, ry0, ry⟩ := rl.two
  cases ry0
  obtain ⟨es, e, hz, h0, h1, w⟩ := w
  obtain ⟨ys, h, l, z⟩ := m _ _ e
  have el := l.length
  refine mt_insert pins s σ H _ _ v us Q I rx rv ⟨_, ys, _, y, rfl, rfl, h, by omega, h0, h1, ?_⟩
  exact k .non _ _ _ (step_wr e h) rfl (m.wr h (((l.take _).app (RepL.single ry)).app (l.drop _)) (by simp; omega)) w
theorem m_popAt : MtR X "list.pop" (LM X.K (mthW .popAt)) := by
  rintro pins s σ H x xs v us Q I rx rv ⟨dx, ds, M, q, r1, rl, m, w, k⟩
  have w : popAtW dx ds M q := w
  unfold popAtW at w
  split at w <;> first | exact w.elim | skip
  cases r1
  obtain ⟨y0, rfl, ry0⟩ := rl.one
  cases ry0
  obtain ⟨es, d, j, e, h0, h1, hi, hd, w⟩ := w
  obtain ⟨ys, h, l, z⟩ := m _ _ e
  have el := l.length
  obtain ⟨y, hy, ry⟩ := l.get hd
  refine mt_popAt pins s σ H _ _ v us Q I rx rv ⟨_, ys, _, j, y, rfl, rfl, h, h0, h1, by rw [← el]; exact hi, hy, ?_⟩
  exact k d _ _ _ (step_wr e h) (ry.keep (keep_wr h)) (m.wr h (l.erase j) (by have := len_erase es j; omega)) w
theorem m_pop : MtR X "list.pop" (LM X.K (mthW .pop)) := by
  rintro pins s σ H x xs v us Q I rx rv ⟨dx, ds, M, q, r1, rl, m, w, k⟩
  have w : popW dx ds M q := w
  unfold popW at w
  split at w <;> first | exact w.elim | skip
  cases r1
  cases rl
  obtain ⟨es, d, e, hd, w⟩ := w
  obtain ⟨ys, h, l, z⟩ := m _ _ e
  have el := l.length
  obtain ⟨y, hy, ry⟩ := l.get hd
  refine mt_pop pins s σ H _ _ v us Q I rx rv ⟨_, ys, y, rfl, rfl, h, by rw [← el]; exact hy, ?_⟩
  exact k d _ _ _ (step_wr e h) (ry.keep (keep_wr h)) (m.wr h l.dropLast (by simp; omega)) w
theorem m_extend : MtR X "list.extend" (LM X.K (mthW .extend)) := by
  rintro pins s σ H x xs v us Q I rx rv ⟨dx, ds, M, q, r1, rl, m, w, k⟩
  have w : extendW dx ds M q := w
  unfold extendW at w
  split at w <;> first | exact w.elim | skip
  cases r1
  obtain ⟨y0, rfl, ry0⟩ := rl.one
  cases ry0
  obtain ⟨es, fs, e, e2, hz, w⟩ := w
  obtain ⟨ys, h, l, z⟩ := m _ _ e
  obtain ⟨ys2, h2, l2, z2⟩ := m _ _ e2
  have el := l.length
  have el2 := l2.length
  refine mt_extend pins s σ H _ _ v us Q I rx rv ⟨_, _, ys, ys2, rfl, rfl, h, h2, by omega, ?_⟩
  exact k .non _ _ _ (step_wr e h) rfl (m.wr h (l.app l2) (by simp; omega)) w

/-! ### subscripts -/
theorem atI_rep {K : PySem.W.Frag} {H : Hp} {ds : List D} {xs : List V} (l : RepL K H ds xs) {i : Int} {d : D} (h : atI ds i = some d) : ∃ v, atI xs i = some v ∧ Rep K H d v := by
  unfold atI at h ⊢
  rw [← l.length]
  cases e : ixN ds.length i with
  | none => rw [e] at h; cases h
  | some j =>
    rw [e] at h
    exact l.get (by simpa using h)
theorem ix_ok : IxR X (LR2 X.K ixW) := by
  intro value slice pins s σ H x y v u Q I rx ry h0 hs
  obtain ⟨dx, dy, M, q, r1, r2, m, w, k⟩ := h0
  have fin : ∀ {d : D} {v : V}, q d M → Rep X.K H d v → Q v H := fun z r => k _ M _ H .refl r m z
  unfold ixW at w
  split at w
  · cases r2
    obtain ⟨p, xs, rfl, h, l, z⟩ := r1
    obtain ⟨d, e, w⟩ := w
    obtain ⟨z, ez, rz⟩ := atI_rep l e
    exact ix_tup value slice pins s σ H _ _ v u Q I rx ry ⟨p, xs, _, z, rfl, rfl, h, ez, fin w rz⟩ hs
  · cases r1; cases r2
    obtain ⟨ds, d, e0, e, w⟩ := w
    obtain ⟨xs, h, l, _⟩ := m _ _ e0
    obtain ⟨z, ez, rz⟩ := atI_rep l e
    exact ix_list value slice pins s σ H _ _ v u Q I rx ry ⟨_, xs, _, z, rfl, rfl, SqL.of h, ez, fin w rz⟩ hs
  · cases r1; cases r2
    obtain ⟨c, z, e, w⟩ := w
    exact ix_str value slice pins s σ H _ _ v u Q I rx ry ⟨_, _, c, rfl, rfl, z, e, fin w rfl⟩ hs
  · exact w.elim
def LSl (K : PySem.W.Frag) : V → Option Int → Option Int → Hp → VK → Prop := fun x lo hi H Q => ∃ dx M q, Rep K H dx x ∧ RepM K H M ∧ slW dx lo hi M q ∧
  ∀ d M' v H', Step M H M' H' → Rep K H' d v → RepM K H' M' → q d M' → Q v H'
theorem cut_rep {K : PySem.W.Frag} {H : Hp} {ds : List D} {xs : List V} (l : RepL K H ds xs) (lo hi : Option Int) : RepL K H (cutD ds lo hi) (cutV xs lo hi) := by
  unfold cutD cutV
  rw [l.length]
  exact (l.drop _).take _
theorem cutD_length {α : Type} (xs : List α) (lo hi : Option Int) : (cutD xs lo hi).length ≤ xs.length := by
  unfold cutD
  rw [List.length_take, List.length_drop]; omega
theorem cut_map {α β : Type} (f : α → β) (xs : List α) (lo hi : Option Int) : cutD (xs.map f) lo hi = (cutD xs lo hi).map f := by
  unfold cutD
  rw [List.length_map, List.map_take, List.map_drop]
theorem sl_ok : SlR X (LSl X.K) := by
  rintro pins s σ H x v vl vu lo hi sl Q I rx hs pl pu ⟨dx, M, q, r1, m, w, k⟩
  have fin : ∀ {d : D} {v : V}, q d M → Rep X.K H d v → Q v H := fun z r => k _ M _ H .refl r m z
  unfold slW at w
  split at w
  · obtain ⟨p, xs, rfl, h, l, z⟩ := r1
    rename_i ds
    have lc := cut_rep l lo hi
    have zc : (cutD ds lo hi).length ≤ sizeLine := Nat.le_trans (cutD_length _ _ _) z
    refine sl_tupA pins s σ H _ v vl vu lo hi sl Q I rx hs pl pu ⟨p, xs, rfl, h, fun ⟨h1, h2⟩ => ?_, fun _ p2 hp => ?_⟩
    · have e : cutD ds lo hi = ds := by
        unfold cutD
        rw [l.length, h1, h2, List.drop_zero, Nat.sub_zero, ← l.length, List.take_length]
      rw [e] at w
      exact fin w ⟨_, _, rfl, h, l, z⟩
    · exact k (.tup _) M _ _ (step_new m hp) ⟨_, _, rfl, .inl (.inl upd_same), lc.keep (keep_new hp), zc⟩ (m.new hp) w
  · cases r1
    obtain ⟨ds, e, w⟩ := w
    obtain ⟨xs, h, l, z⟩ := m _ _ e
    have lc := cut_rep l lo hi
    have zc : (cutD ds lo hi).length ≤ sizeLine := Nat.le_trans (cutD_length _ _ _) z
    exact sl_list pins s σ H _ v vl vu lo hi sl Q I rx hs pl pu ⟨_, xs, rfl, SqL.of h, fun p hp => k (.lst p) _ _ _ (step_newL m hp) rfl (m.newL hp lc zc) (w p (m.free hp))⟩
  · rename_i ns
    obtain ⟨rfl, h⟩ := r1
    obtain ⟨z, w⟩ := w
    have l : RepL X.K H (ns.map D.int) (ns.map V.int) := RepL.ints
    have lc := cut_rep l lo hi
    rw [cut_map] at lc
    have zc : ((cutD ns lo hi).map D.int).length ≤ sizeLine := by rw [List.length_map]; exact Nat.le_trans (cutD_length _ _ _) z
    exact sl_list pins s σ H _ v vl vu lo hi sl Q I rx hs pl pu ⟨_, _, rfl, h.sq, fun p hp => k (.lst p) _ _ _ (step_newL m hp) rfl (m.newL hp lc zc) (w p (m.free hp))⟩
  · exact w.elim
/-- o[i] = v -/
def LSet (K : PySem.W.Frag) : V → V → V → Hp → (Hp → Prop) → Prop := fun o i v H Q => ∃ dO dI dV M q, Rep K H dO o ∧ Rep K H dI i ∧ Rep K H dV v ∧ RepM K H M ∧ setW dO dI dV M q ∧
  ∀ M' H', Step M H M' H' → RepM K H' M' → q M' → Q H'
theorem set_ok : PSet X (LSet X.K) := by
  rintro pins s σ H o i v ov iv u Q I ro ri rv ⟨dO, dI, dV, M, q, r1, r2, r3, m, w, k⟩
  unfold setW at w
  split at w
  · cases r1; cases r2
    obtain ⟨ds, j, e, ej, w⟩ := w
    obtain ⟨xs, h, l, z⟩ := m _ _ e
    refine set_list pins s σ H _ _ v ov iv u Q I ro ri rv ⟨_, xs, _, j, rfl, rfl, h, by rw [← l.length]; exact ej, ?_⟩
    exact k _ _ (step_wr e h) (m.wr h (l.set j r3) (by rw [List.length_set]; exact z)) w
  · exact w.elim
end
end TB

namespace TB
open PySem PySem.Spec PyProof.Rows L2 RZ

/-! ### what is walked -/
structure Wk (K : PySem.W.Frag) (H0 : Hp) (J : It) (items : List D) (stab : Mem → Prop) : Prop where
  goes : ∀ i H M, Keep H0 H → RepM K H M → stab M → i < items.length → J.go i H
  stops : ∀ H M, Keep H0 H → RepM K H M → stab M → J.stop items.length H
  yld : ∀ i d H M x H', Keep H0 H → RepM K H M → stab M → items[i]? = some d → J.yld i H x H' → Step M H M H' ∧ Rep K H' d x ∧ RepM K H' M

theorem Keep.refl {H : Hp} : Keep H H := ⟨fun _ _ h => h, fun _ _ _ h => h⟩
theorem Keep.trans {H H1 H2 : Hp} (a : Keep H H1) (b : Keep H1 H2) : Keep H H2 := ⟨fun x y h => b.tup x y (a.tup x y h), fun x y z h => b.frz x y z (a.frz x y z h)⟩
section
variable {K : PySem.W.Frag} {H0 : Hp}
theorem wk_tup {a : Addr} {xs : List V} {ds : List D} (h : SqT K H0 a xs) (l : RepL K H0 ds xs) : Wk K H0 (Itt K a) ds fun _ => True := by
  have e := l.length
  refine ⟨fun i H M k m _ hi => ?_, fun H M k m _ => ⟨xs, k.sqT h, by omega⟩, fun i d H M x H' k m _ hd y => ?_⟩
  · exact ⟨xs, xs[i]'(by omega), k.sqT h, by simp⟩
  · obtain ⟨rfl, y⟩ := y
    obtain ⟨v, hv, r⟩ := (l.keep k).get hd
    have := y xs (k.sqT h)
    rw [hv] at this; cases this
    exact ⟨.refl, r, m⟩
theorem Rd.lst_inj {H : Hp} {a : Addr} {xs ys : List V} (h : H a = some (.lst xs)) (q : SqL K H a ys) (hk : ∀ o, K.lookup a = some o → False) : ys = xs := by
  rcases q with (q | ⟨o, q⟩) | ⟨o, _, _, q, _⟩
  · rw [h] at q; cases q; rfl
  · rw [h] at q; cases q
  · exact (hk o q).elim
theorem wk_lst {a : Addr} {ds : List D} : Wk K H0 (Itl K a) ds fun M => M a = some ds := by
  refine ⟨fun i H M k m hs hi => ?_, fun H M k m hs => ?_, fun i d H M x H' k m hs hd y => ?_⟩
  · obtain ⟨xs, h, l, _⟩ := m a ds hs
    have e := l.length
    exact ⟨xs, xs[i]'(by omega), SqL.of h, by simp⟩
  · obtain ⟨xs, h, l, _⟩ := m a ds hs
    have e := l.length
    exact ⟨xs, SqL.of h, by omega⟩
  · obtain ⟨xs, h, l, _⟩ := m a ds hs
    obtain ⟨rfl, y⟩ := y
    obtain ⟨v, hv, r⟩ := l.get hd
    have := y xs (SqL.of h)
    rw [hv] at this; cases this
    exact ⟨.refl, r, m⟩
theorem rngD_length {lo : Int} {n : Nat} : (rngD lo n).length = n := by simp [rngD]
theorem rngD_get {lo : Int} {n i : Nat} {d : D} (h : (rngD lo n)[i]? = some d) : i < n ∧ d = .int (lo + i) := by
  unfold rngD at h
  rw [List.getElem?_map] at h
  by_cases hi : i < n
  · rw [List.getElem?_range hi] at h
    simp at h
    exact ⟨hi, h.symm⟩
  · rw [List.getElem?_eq_none (by simp; omega)] at h; cases h
theorem wk_rng {lo : Int} {n : Nat} : Wk K H0 (Itr lo n) (rngD lo n) fun _ => True := by
  refine ⟨fun i H M k m _ hi => by rw [rngD_length] at hi; exact hi, fun H M k m _ => by rw [rngD_length]; exact Nat.le_refl _, fun i d H M x H' k m _ hd y => ?_⟩
  obtain ⟨rfl, rfl⟩ := y
  obtain ⟨_, rfl⟩ := rngD_get hd
  exact ⟨.refl, rfl, m⟩
theorem wk_str {s : Str} : Wk K H0 (Its s) (s.cps.toList.map fun c => .str ⟨#[c]⟩) fun _ => True := by
  refine ⟨fun i H M k m _ hi => (show i < s.cps.size by simpa using hi), fun H M k m _ => (show s.cps.size ≤ _ by simp), fun i d H M x H' k m _ hd y => ?_⟩
  obtain ⟨rfl, c, hc, rfl⟩ := y
  simp [hc] at hd
  subst hd
  exact ⟨.refl, rfl, m⟩
theorem enumD_length : ∀ {n : Nat} {ds : List D}, (enumD n ds).length = ds.length
  | _, [] => rfl
  | n, d :: ds => by simp [enumD, enumD_length]
theorem enumD_get : ∀ {n : Nat} {ds : List D} {i : Nat} {d : D}, (enumD n ds)[i]? = some d → ∃ e, ds[i]? = some e ∧ d = .tup [.int (n + i : Nat), e]
  | _, [], _, _, h => by simp [enumD] at h
  | n, e :: ds, 0, d, h => by simp [enumD] at h; exact ⟨e, rfl, h.symm⟩
  | n, e :: ds, i + 1, d, h => by
    simp only [enumD, List.getElem?_cons_succ] at h
    obtain ⟨e, h1, h2⟩ := enumD_get h
    exact ⟨e, by simpa using h1, by rw [h2]; congr 4; omega⟩
theorem pair_ok {M : Mem} {H : Hp} {T : Addr} {d e : D} {x y : V} (hT : H T = none) (m : RepM K H M) (r1 : Rep K H d x) (r2 : Rep K H e y) :
    Step M H M (upd H T (.tup [x, y])) ∧ Rep K (upd H T (.tup [x, y])) (.tup [d, e]) (.ref T) ∧ RepM K (upd H T (.tup [x, y])) M :=
  ⟨step_new m hT, ⟨T, _, rfl, .inl (.inl upd_same), ⟨x, _, rfl, r1.keep (keep_new hT), y, _, rfl, r2.keep (keep_new hT), rfl⟩, line2⟩, m.new hT⟩
theorem wk_enum {a : Addr} {ds : List D} : Wk K H0 (Ite K a) (enumD 0 ds) fun M => M a = some ds := by
  refine ⟨fun i H M k m hs hi => ?_, fun H M k m hs => ?_, fun i d H M x H' k m hs hd y => ?_⟩
  · obtain ⟨xs, h, l, _⟩ := m a ds hs
    have e := l.length
    rw [enumD_length] at hi
    exact ⟨xs, xs[i]'(by omega), SqL.of h, by simp⟩
  · obtain ⟨xs, h, l, _⟩ := m a ds hs
    have e := l.length
    rw [enumD_length]
    exact ⟨xs, SqL.of h, by omega⟩
  · obtain ⟨xs, h, l, _⟩ := m a ds hs
    obtain ⟨T, z, rfl, hT, rfl, y⟩ := y
    obtain ⟨e, he, rfl⟩ := enumD_get hd
    obtain ⟨v, hv, r⟩ := l.get he
    have := y xs (SqL.of h)
    rw [hv] at this; cases this
    rw [Nat.zero_add]
    exact pair_ok hT m rfl r
theorem zipD_length : ∀ {xs ys : List D}, (zipD xs ys).length = min xs.length ys.length
  | [], _ => by simp [zipD]
  | _ :: _, [] => by simp [zipD]
  | x :: xs, y :: ys => by simp [zipD, zipD_length]
theorem zipD_get : ∀ {xs ys : List D} {i : Nat} {d : D}, (zipD xs ys)[i]? = some d → ∃ e f, xs[i]? = some e ∧ ys[i]? = some f ∧ d = .tup [e, f]
  | [], _, _, _, h => by simp [zipD] at h
  | _ :: _, [], _, _, h => by simp [zipD] at h
  | x :: xs, y :: ys, 0, d, h => by simp [zipD] at h; exact ⟨x, y, rfl, rfl, h.symm⟩
  | x :: xs, y :: ys, i + 1, d, h => by
    simp only [zipD, List.getElem?_cons_succ] at h
    obtain ⟨e, f, h1, h2, h3⟩ := zipD_get h
    exact ⟨e, f, by simpa using h1, by simpa using h2, h3⟩
theorem wk_zipL {a b : Addr} {ds es : List D} : Wk K H0 (Itz K a b) (zipD ds es) fun M => M a = some ds ∧ M b = some es := by
  refine ⟨fun i H M k m hs hi => ?_, fun H M k m hs => ?_, fun i d H M x H' k m hs hd y => ?_⟩
  · obtain ⟨xs, h, l, _⟩ := m a ds hs.1
    obtain ⟨ys, h2, l2, _⟩ := m b es hs.2
    have e := l.length
    have e2 := l2.length
    rw [zipD_length] at hi
    exact ⟨xs, ys, xs[i]'(by omega), ys[i]'(by omega), SqL.of h, SqL.of h2, by simp, by simp⟩
  · obtain ⟨xs, h, l, _⟩ := m a ds hs.1
    obtain ⟨ys, h2, l2, _⟩ := m b es hs.2
    have e := l.length
    have e2 := l2.length
    rw [zipD_length]
    exact ⟨xs, ys, SqL.of h, SqL.of h2, by omega⟩
  · obtain ⟨xs, h, l, _⟩ := m a ds hs.1
    obtain ⟨ys, h2, l2, _⟩ := m b es hs.2
    obtain ⟨T, z, z2, rfl, hT, rfl, y, y2⟩ := y
    obtain ⟨e, f, he, hf, rfl⟩ := zipD_get hd
    obtain ⟨v, hv, r⟩ := l.get he
    obtain ⟨v2, hv2, r2⟩ := l2.get hf
    have := y xs (SqL.of h)
    rw [hv] at this; cases this
    have := y2 ys (SqL.of h2)
    rw [hv2] at this; cases this
    exact pair_ok hT m r r2
theorem wk_zipT {a b : Addr} {xs ys : List V} {ds es : List D} (h : SqT K H0 a xs) (l : RepL K H0 ds xs) (h2 : SqT K H0 b ys) (l2 : RepL K H0 es ys) : Wk K H0 (ItzT K a b) (zipD ds es) fun _ => True := by
  have e := l.length
  have e2 := l2.length
  refine ⟨fun i H M k m hs hi => ?_, fun H M k m hs => ?_, fun i d H M x H' k m hs hd y => ?_⟩
  · rw [zipD_length] at hi
    exact ⟨xs, ys, xs[i]'(by omega), ys[i]'(by omega), k.sqT h, k.sqT h2, by simp, by simp⟩
  · rw [zipD_length]
    exact ⟨xs, ys, k.sqT h, k.sqT h2, by omega⟩
  · obtain ⟨T, z, z2, rfl, hT, rfl, y, y2⟩ := y
    obtain ⟨e, f, he, hf, rfl⟩ := zipD_get hd
    obtain ⟨v, hv, r⟩ := (l.keep k).get he
    obtain ⟨v2, hv2, r2⟩ := (l2.keep k).get hf
    have := y xs (k.sqT h)
    rw [hv] at this; cases this
    have := y2 ys (k.sqT h2)
    rw [hv2] at this; cases this
    exact pair_ok hT m r r2
end

def LI (K : PySem.W.Frag) (w : En → Mem → KI → Prop) : TI := fun σ H R => ∃ ρ M r, RepE K H ρ σ ∧ RepM K H M ∧ w ρ M r ∧
  ∀ items stab M' J H', Step M H M' H' → RepM K H' M' → Wk K H' J items stab → r items stab M' → R J H'
section
variable {X : Cx} {tg e e2 : Expr}
theorem pi_imp {t t' : TI} (h : PI X tg e t) (f : ∀ σ H R, t' σ H R → t σ H R) : PI X tg e t' := ⟨fun pins s σ H R I hw => h.run pins s σ H R I (f σ H R hw)⟩
def iSeq (K : PySem.W.Frag) (tl : TE) : TI := fun σ H R => tl σ H fun x H1 => (∃ a, x = .ref a ∧ (∃ xs, SqL K H1 a xs) ∧ R (Itl K a) H1) ∨ (∃ a, x = .ref a ∧ (∃ xs, SqT K H1 a xs) ∧ R (Itt K a) H1) ∨ ∃ s, x = .str s ∧ R (Its s) H1
theorem pi_seq {tl : TE} (hl : PE X e tl) : PI X tg e (iSeq X.K tl) := by
  refine ⟨fun pins s σ H R I h => ?_⟩
  refine thn (hl.run pins s σ H _ I h) fun v s1 ⟨x, H1, I1, r1, q1⟩ => ?_
  rcases q1 with ⟨a, rfl, ⟨xs, hq⟩, q⟩ | ⟨a, rfl, ⟨xs, hq⟩, q⟩ | ⟨z, rfl, q⟩
  · cases r1
    obtain ⟨its, rv, p, hz⟩ := I1.list hq
    refine wpAny_pyIter_list p.isList ?_
    refine ⟨s1.heap.objs.size, [s1.heap.objs.size], _, _, H1, rfl, I1.kept (t' := s1.toks) fun b o e => Heap.get?_push_of_some _ e, turn_list a _, ⟨_, Heap.get?_push_size _ rfl, rfl, rfl⟩, fun b hb => ?_, q⟩
    have e : b = s1.heap.objs.size := by simpa using hb
    subst e
    exact I1.fpOk (Nat.le_refl _) (I1.hok.fresh (Nat.le_refl _))
  · cases r1
    obtain ⟨its, rv, p, hz⟩ := I1.tuple hq
    refine wpAny_pyIter_tuple (show s1.heap.IsTuple a its.toArray from p) ?_
    refine ⟨s1.heap.objs.size, [s1.heap.objs.size], _, _, H1, rfl, I1.kept (t' := s1.toks) fun b o e => Heap.get?_push_of_some _ e, turn_tuple a _, ⟨_, Heap.get?_push_size _ rfl, rfl, rfl⟩, fun b hb => ?_, q⟩
    have e : b = s1.heap.objs.size := by simpa using hb
    subst e
    exact I1.fpOk (Nat.le_refl _) (I1.hok.fresh (Nat.le_refl _))
  · obtain ⟨t, rfl⟩ := r1
    cases ha : z.cps.all (· < 128)
    · exact wpAny_pyIter_wide ha (pi_one (tk := s1.toks) I1 _ (turn_str _ z t "str_iterator" (.inr rfl)) ⟨_, Heap.get?_push_size _ rfl, rfl, rfl⟩ q)
    · exact wpAny_pyIter_ascii ha (pi_one (tk := s1.toks) I1 _ (turn_str _ z t "str_ascii_iterator" (.inl rfl)) ⟨_, Heap.get?_push_size _ rfl, rfl, rfl⟩ q)
variable {K : PySem.W.Frag} {w w2 : En → Mem → K1 → Prop}
theorem seqW_ok {d : D} {M : Mem} {r : KI} {x : V} {H : Hp} {R : It → Hp → Prop} (hr : Rep K H d x) (m : RepM K H M) (h : seqW d M r) (f : ∀ items stab J, Wk K H J items stab → r items stab M → R J H) :
    (∃ a, x = .ref a ∧ (∃ xs, SqL K H a xs) ∧ R (Itl K a) H) ∨ (∃ a, x = .ref a ∧ (∃ xs, SqT K H a xs) ∧ R (Itt K a) H) ∨ ∃ s, x = .str s ∧ R (Its s) H := by
  unfold seqW at h
  split at h
  · obtain ⟨a, xs, rfl, q, l, z⟩ := hr
    exact .inr (.inl ⟨a, rfl, ⟨xs, q⟩, f _ _ _ (wk_tup q l) (h z)⟩)
  · cases hr
    obtain ⟨ds, e, h⟩ := h
    obtain ⟨xs, q, l, z⟩ := m _ _ e
    exact .inl ⟨_, rfl, ⟨xs, SqL.of q⟩, f _ _ _ wk_lst (h z)⟩
  · cases hr
    exact .inr (.inr ⟨_, rfl, f _ _ _ wk_str h⟩)
  · exact h.elim
theorem pi_seqE (he : PE X e (LE X.K w)) : PI X tg e (LI X.K fun ρ M R => w ρ M fun d M1 => seqW d M1 R) := by
  refine pi_imp (pi_seq he) ?_
  rintro σ H R ⟨ρ, M, r, hE, hM, h, k⟩
  refine ⟨ρ, M, _, hE, hM, h, fun d M1 v H1 s1 r1 m1 q1 => ?_⟩
  exact seqW_ok r1 m1 q1 fun items stab J wk q => k items stab M1 J H1 s1 m1 wk q
end

/-! ### targets -/
mutual
def T.slots : T → List Nat
  | .nm i => [i]
  | .tp ts => Ts.slots ts
  | .ix _ _ => []
def Ts.slots : Ts → List Nat
  | .nil => []
  | .cons t ts => T.slots t ++ Ts.slots ts
end
def LG (K : PySem.W.Frag) (sl : List Nat) (w : D → En → Mem → (En → Mem → Prop) → Prop) : TG := fun v σ H Q => ∃ d ρ M k, Rep K H d v ∧ RepE K H ρ σ ∧ RepM K H M ∧ w d ρ M k ∧
  ∀ ρ' M' σ' H', (∀ vs : List Nat, (∀ i ∈ sl, i ∈ vs) → wipe σ' vs = wipe σ vs) → Step M H M' H' → RepE K H' ρ' σ' → RepM K H' M' → k ρ' M' → Q σ' H'
def LGs (K : PySem.W.Frag) (sl : List Nat) (w : List D → En → Mem → (En → Mem → Prop) → Prop) : TGs := fun vs σ H Q => ∃ ds ρ M k, RepL K H ds vs ∧ RepE K H ρ σ ∧ RepM K H M ∧ w ds ρ M k ∧
  ∀ ρ' M' σ' H', (∀ vs : List Nat, (∀ i ∈ sl, i ∈ vs) → wipe σ' vs = wipe σ vs) → Step M H M' H' → RepE K H' ρ' σ' → RepM K H' M' → k ρ' M' → Q σ' H'
theorem wipe_get : ∀ (vs : List Nat) (σ : St) (i : Nat), (wipe σ vs)[i]? = if i ∈ vs then (if i < σ.length then some none else none) else σ[i]?
  | [], σ, i => by simp [wipe]
  | v :: vs, σ, i => by
    unfold wipe
    by_cases h : v = i
    · subst h
      by_cases hl : v < σ.length
      · rw [List.getElem?_set_self (by rw [wipe_length]; exact hl)]; simp [hl]
      · rw [List.getElem?_eq_none (by rw [List.length_set, wipe_length]; omega)]; simp [hl]
    · rw [List.getElem?_set_ne h, wipe_get vs σ i]
      have : (i ∈ v :: vs) ↔ i ∈ vs := by simp [List.mem_cons]; omega
      simp only [this]
theorem wipe_set {σ : St} {i : Nat} {o : Option V} {vs : List Nat} (h : i ∈ vs) : wipe (σ.set i o) vs = wipe σ vs := by
  apply List.ext_getElem?
  intro j
  rw [wipe_get, wipe_get, List.length_set]
  by_cases hj : j ∈ vs
  · simp [hj]
  · simp only [hj, if_false]
    rw [List.getElem?_set_ne (fun e => hj (by rw [← e]; exact h))]
theorem wipe_wipe {σ : St} {vs : List Nat} : wipe (wipe σ vs) vs = wipe σ vs := by
  apply List.ext_getElem?
  intro j
  rw [wipe_get, wipe_get, wipe_length]
  by_cases hj : j ∈ vs
  · simp [hj]
  · simp [hj]

structure Post (K : PySem.W.Frag) (M : Mem) (H : Hp) (F : Ed) (E : Ends) : Prop where
  nx : ∀ ρ' M' σ' H', Step M H M' H' → RepE K H' ρ' σ' → RepM K H' M' → F.nx ρ' M' → E.nx σ' H'
  rt : ∀ d M' v H', Step M H M' H' → Rep K H' d v → RepM K H' M' → F.rt d M' → E.rt v H'
  bk : ∀ ρ' M' σ' H', Step M H M' H' → RepE K H' ρ' σ' → RepM K H' M' → F.bk ρ' M' → E.bk σ' H'
  ct : ∀ ρ' M' σ' H', Step M H M' H' → RepE K H' ρ' σ' → RepM K H' M' → F.ct ρ' M' → E.ct σ' H'
theorem Post.step {K : PySem.W.Frag} {M M1 : Mem} {H H1 : Hp} {F : Ed} {E : Ends} (p : Post K M H F E) (s : Step M H M1 H1) : Post K M1 H1 F E :=
  ⟨fun a b c d t => p.nx a b c d (s.trans t), fun a b c d t => p.rt a b c d (s.trans t), fun a b c d t => p.bk a b c d (s.trans t), fun a b c d t => p.ct a b c d (s.trans t)⟩
def LS (K : PySem.W.Frag) (w : En → Mem → Ed → Prop) : TS := fun E σ H => ∃ ρ M F, RepE K H ρ σ ∧ RepM K H M ∧ w ρ M F ∧ Post K M H F E

section
variable {X : Cx} {tg e e2 : Expr} {pos : Pos} {w w2 : En → Mem → K1 → Prop}
theorem pg_imp {t t' : TG} (h : PG X tg t) (f : ∀ v σ H Q, t' v σ H Q → t v σ H Q) : PG X tg t' := ⟨fun pins s σ H v u Q I r hw => h.run pins s σ H v u Q I r (f v σ H Q hw)⟩
theorem pgs_imp {ts : List Expr} {t t' : TGs} (h : PGs X ts t) (f : ∀ v σ H Q, t' v σ H Q → t v σ H Q) : PGs X ts t' := ⟨fun pins s σ H v u Q I r hw => h.run pins s σ H v u Q I r (f v σ H Q hw)⟩
theorem ps_imp {st : Stmt} {t t' : TS} (h : PS X st t) (f : ∀ E σ H, t' E σ H → t E σ H) : PS X st t' := ⟨fun pins s σ H D I hw => h.run pins s σ H D I (f D σ H hw)⟩
theorem pss_imp {st : List Stmt} {t t' : TS} (h : PSs X st t) (f : ∀ E σ H, t' E σ H → t E σ H) : PSs X st t' := ⟨fun pins s σ H D I hw => h.run pins s σ H D I (f D σ H hw)⟩

def forW (wi : En → Mem → KI → Prop) (wt : D → En → Mem → (En → Mem → Prop) → Prop) (wb : En → Mem → Ed → Prop) : En → Mem → Ed → Prop := fun ρ M F =>
  wi ρ M fun items stab M1 => ∃ W : Nat → En → Mem → Prop, W 0 ρ M1 ∧ (∀ i ρ M, i ≤ items.length → W i ρ M → stab M) ∧
      (∀ i d ρ M, items[i]? = some d → W i ρ M → wt d ρ M fun ρ' M' => wb ρ' M' ⟨W (i + 1), F.rt, F.nx, W (i + 1)⟩) ∧
      (∀ ρ M, W items.length ρ M → F.nx ρ M)
theorem ps_forE {it : Expr} {body : List Stmt} {wi : En → Mem → KI → Prop} {wt : D → En → Mem → (En → Mem → Prop) → Prop} {wb : En → Mem → Ed → Prop} {sl : List Nat}
    (hp : PassesOwn (model X.prog X.w) X.A X.env X.xe) (hc : X.calm = true) (hi : PI X tg it (LI X.K wi)) (hg : PG X tg (LG X.K sl wt)) (hb : PSs X body (LS X.K wb)) (hs : ∀ x, foldedSetIterable it X.env x = pure x) :
    PS X (.For tg it body [] pos) (LS X.K (forW wi wt wb)) := by
  refine ps_imp (ps_for hp hc hi hg hb hs) ?_
  rintro E σ H ⟨ρ, M, F, hE, hM, h, P⟩
  refine ⟨ρ, M, _, hE, hM, h, fun items stab M1 J H1 s1 m1 wk q => ?_⟩
  obtain ⟨W, w0, ws, wt', wd⟩ := q
  refine ⟨fun i m σ' H' => m = items.length - i ∧ i ≤ items.length ∧ ∃ ρ' M', RepE X.K H' ρ' σ' ∧ RepM X.K H' M' ∧ Step M H M' H' ∧ Keep H1 H' ∧ W i ρ' M', ⟨_, rfl, Nat.zero_le _, ρ, M1, hE.keep s1.keep, m1, s1, .refl, w0⟩, ?_⟩
  rintro i m σ' H' ⟨rfl, hi, ρ', M', e', m', s', k', w'⟩
  have st := ws i ρ' M' hi w'
  by_cases hlt : i < items.length
  · refine .inr ⟨wk.goes i H' M' k' m' st hlt, fun σ2 H2 => ∃ ρ2 M2, RepE X.K H2 ρ2 σ2 ∧ RepM X.K H2 M2 ∧ Step M H M2 H2 ∧ Keep H1 H2 ∧ W (i + 1) ρ2 M2,
      fun σ2 H2 hh => ⟨items.length - (i + 1), by omega, rfl, hlt, hh⟩, fun x H2 y => ?_⟩
    have hd : items[i]? = some items[i] := by simp [hlt]
    obtain ⟨s2, r2, m2⟩ := wk.yld i _ H' M' x H2 k' m' st hd y
    refine ⟨items[i], ρ', M', _, r2, e'.keep s2.keep, m2, wt' i _ ρ' M' hd w', fun ρ3 M3 σ3 H3 _ s3 e3 m3 q3 => ?_⟩
    have s03 : Step M H M3 H3 := (s'.trans s2).trans s3
    have k3 : Keep H1 H3 := (k'.trans s2.keep).trans s3.keep
    refine ⟨ρ3, M3, _, e3, m3, q3, ⟨fun ρ4 M4 σ4 H4 s4 e4 m4 q4 => ⟨ρ4, M4, e4, m4, s03.trans s4, k3.trans s4.keep, q4⟩, fun d4 M4 v4 H4 s4 => P.rt d4 M4 v4 H4 (s03.trans s4),
      fun ρ4 M4 σ4 H4 s4 => P.nx ρ4 M4 σ4 H4 (s03.trans s4), fun ρ4 M4 σ4 H4 s4 e4 m4 q4 => ⟨ρ4, M4, e4, m4, s03.trans s4, k3.trans s4.keep, q4⟩⟩⟩
  · have e : i = items.length := by omega
    subst e
    exact .inl ⟨wk.stops H' M' k' m' st, P.nx ρ' M' σ' H' s' e' m' (wd ρ' M' w')⟩

def compW (wi : En → Mem → KI → Prop) (wt : D → En → Mem → (En → Mem → Prop) → Prop) (wc : En → Mem → (Bool → Mem → Prop) → Prop) (we : En → Mem → K1 → Prop) (own : List Nat) : En → Mem → K1 → Prop := fun ρ M q =>
  wi ρ M fun items stab M1 => items.length ≤ sizeLine ∧ ∃ W : Nat → List D → Mem → Prop, W 0 [] M1 ∧
      (∀ i acc M, i ≤ items.length → W i acc M → stab M) ∧
      (∀ i d acc M, items[i]? = some d → W i acc M → wt d (wipeE ρ own) M fun ρ' M' => wc ρ' M' fun b M2 =>
        if b = true then we ρ' M2 fun y M3 => W (i + 1) (acc ++ [y]) M3 else W (i + 1) acc M2) ∧
      (∀ acc M, acc.length ≤ items.length → W items.length acc M → ∀ p, M p = none → q (.lst p) (M.up p acc))
def LCd (K : PySem.W.Frag) (w : En → Mem → (Bool → Mem → Prop) → Prop) : TT := fun σ H Q => ∃ ρ M q, RepE K H ρ σ ∧ RepM K H M ∧ w ρ M q ∧
  ∀ b M' H', Step M H M' H' → RepM K H' M' → q b M' → Q b H'
/-- the reading of a comprehension from the law's words -/
theorem tLc_of {wi : En → Mem → KI → Prop} {wt : D → En → Mem → (En → Mem → Prop) → Prop} {wc : En → Mem → (Bool → Mem → Prop) → Prop} {we : En → Mem → K1 → Prop} {own sl : List Nat} {K : PySem.W.Frag} (hsl : ∀ i ∈ sl, i ∈ own)
    {σ : St} {H : Hp} {Q : VK} (h : LE K (compW wi wt wc we own) σ H Q) : tLc (LI K wi) (LG K sl wt) (LCd K wc) (LE K we) own σ H Q := by
  obtain ⟨ρ, M, q, hE, hM, h, P⟩ := h
  refine ⟨ρ, M, _, hE, hM, h, fun items stab M1 J H1 s1 m1 wk hq => ?_⟩
  obtain ⟨hz, W, w0, ws, wt', wd⟩ := hq
  intro Dd hD
  refine ⟨fun i m H' => m = items.length - i ∧ i ≤ items.length ∧ ∃ acc xs M', H' Dd = some (.lst xs) ∧ RepL K H' acc xs ∧ acc.length ≤ i ∧ M' Dd = none ∧ RepM K H' M' ∧ Step M H M' H' ∧ Keep H1 H' ∧ W i acc M',
    ⟨_, rfl, Nat.zero_le _, [], [], M1, upd_same, rfl, Nat.le_refl _, m1.free hD, m1.new hD, s1.trans (step_new m1 hD), keep_new hD, w0⟩, ?_⟩
  rintro i m H' ⟨rfl, hi, acc, xs, M', hDx, l, hl, hMD, m', s', k', w'⟩
  have st := ws i acc M' hi w'
  by_cases hlt : i < items.length
  · refine .inr ⟨wk.goes i H' M' k' m' st hlt, fun H2 => ∃ acc xs M', H2 Dd = some (.lst xs) ∧ RepL K H2 acc xs ∧ acc.length ≤ i + 1 ∧ M' Dd = none ∧ RepM K H2 M' ∧ Step M H M' H2 ∧ Keep H1 H2 ∧ W (i + 1) acc M',
      fun H2 hh => ⟨items.length - (i + 1), by omega, rfl, hlt, hh⟩, fun x H2 y => ?_⟩
    have hd : items[i]? = some items[i] := by simp [hlt]
    obtain ⟨s2, r2, m2⟩ := wk.yld i _ H' M' x H2 k' m' st hd y
    have E0 : RepE K H' ρ σ := hE.keep s'.keep
    refine ⟨items[i], wipeE ρ own, M', _, r2, (E0.keep s2.keep).wipe own, m2, wt' i _ acc M' hd w', fun ρ3 M3 σ3 H3 hw3 s3 e3 m3 q3 => ⟨?_, ?_⟩⟩
    · rw [hw3 own hsl, wipe_wipe]
    refine ⟨ρ3, M3, _, e3, m3, q3, fun b M4 H4 s4 m4 q4 => ?_⟩
    have s24 : Step M' H' M4 H4 := (s2.trans s3).trans s4
    cases b with
    | false =>
      simp only [Bool.false_eq_true, if_false] at q4 ⊢
      exact ⟨acc, xs, M4, s24.lst _ _ hMD hDx, l.keep s24.keep, by omega, s24.dom _ _ hMD hDx, m4, s'.trans s24, k'.trans s24.keep, q4⟩
    | true =>
      simp only [if_true] at q4 ⊢
      refine ⟨ρ3, M4, _, e3.keep s4.keep, m4, q4, fun yv M5 v H5 s5 r5 m5 q5 => ?_⟩
      have s25 : Step M' H' M5 H5 := s24.trans s5
      have h5 : H5 Dd = some (.lst xs) := s25.lst _ _ hMD hDx
      have n5 : M5 Dd = none := s25.dom _ _ hMD hDx
      have l5 := l.keep s25.keep
      refine ⟨xs, h5, by rw [← l.length]; omega, acc ++ [yv], xs ++ [v], M5, upd_same, (l5.app (RepL.single r5)).keep (keep_wr h5), by simp; omega, n5, ?_, ?_, ?_, q5⟩
      · intro a ds e
        obtain ⟨ys, a1, a2, a3⟩ := m5 a ds e
        have ne : a ≠ Dd := fun z => by rw [z, n5] at e; cases e
        exact ⟨ys, by rw [upd_ne ne]; exact a1, a2.keep (keep_wr h5), a3⟩
      · have hDn : H Dd = none := by
          cases hh : H Dd with
          | none => rfl
          | some o => obtain ⟨o', ho'⟩ := s1.live _ _ hh; rw [hD] at ho'; cases ho'
        have t : Step M H M5 H5 := s'.trans s25
        exact ⟨fun a zs hh => by rw [upd_ne (ne_of_none hh hDn)]; exact t.tup a zs hh, fun a o u hh => by rw [upd_ne (ne_of_none hh hDn)]; exact t.frz a o u hh,
          fun a zs hn hh => by rw [upd_ne (ne_of_none hh hDn)]; exact t.lst a zs hn hh, t.dom, fun a o hh => by rw [upd_ne (ne_of_none hh hDn)]; exact t.live a o hh⟩
      · have k5 : Keep H1 H5 := k'.trans s25.keep
        exact k5.trans (keep_wr h5)
  · have e : i = items.length := by omega
    subst e
    refine .inl ⟨wk.stops H' M' k' m' st, ?_⟩
    have q1 := wd acc M' hl w' Dd hMD
    refine P (.lst Dd) (M'.up Dd acc) (.ref Dd) H' ?_ rfl ?_ q1
    · have hDn : H Dd = none := by
        cases hh : H Dd with
        | none => rfl
        | some o => obtain ⟨o', ho'⟩ := s1.live _ _ hh; rw [hD] at ho'; cases ho'
      exact ⟨s'.tup, s'.frz, s'.lst, fun a o hn ho => by rw [up_ne (ne_of_none ho hDn)]; exact s'.dom a o hn ho, s'.live⟩
    · intro a ds e
      by_cases ha : a = Dd
      · subst ha
        rw [up_same] at e; cases e
        exact ⟨xs, hDx, l, by omega⟩
      · rw [up_ne ha] at e
        exact m' a ds e
end
end TB

namespace TB
open PySem PySem.Spec PyProof.Rows L2

/-! ### from the program's form to the small language -/
structure Ct where
  N : List Str
  sc : Scope
  fn : Str → Bool
  fns : List (Str × Nat × Nat)
  cs : List (Str × D)

def findIx : List Str → Str → Option Nat
  | [], _ => none
  | y :: r, x => if y = x then some 0 else (findIx r x).map (· + 1)
theorem findIx_get : ∀ {N : List Str} {x : Str} {i : Nat}, findIx N x = some i → N[i]? = some x
  | [], _, _, h => by simp [findIx] at h
  | y :: r, x, i, h => by
    unfold findIx at h
    split at h
    · rename_i e; cases h; simp [e]
    · simp only [Option.map_eq_some_iff] at h
      obtain ⟨j, e, rfl⟩ := h
      simpa using findIx_get e

def bnames : List Str := ["len", "abs", "tuple", "list", "all", "any", "int", "isinstance", "bool", "str", "range", "enumerate", "zip", "sum"]
def Ct.isGl (C : Ct) (x : Str) : Bool := C.sc.names.lookup x == some .globalImplicit
/-- a name that is a built-in's -/
def Ct.isB (C : Ct) (x : Str) : Bool := C.isGl x && (C.fns.lookup x).isNone && (C.cs.lookup x).isNone && bnames.contains x
def bopOf : Operator → Option Bin
  | .Add => some .add | .Sub => some .sub | .Mult => some .mul | .FloorDiv => some .fdiv | .Mod => some .mod | .Pow => some .pow | _ => none
def copOf : CmpOp → Option Cm
  | .Lt => some .lt | .LtE => some .le | .Gt => some .gt | .GtE => some .ge | .Eq => some .eq | .NotEq => some .ne | .Is => some .isN | .IsNot => some .notN | .In => some .inn | .NotIn => some .notIn
def tyOf (x : Str) : Option Ty :=
  if x = "int" then some .int else if x = "bool" then some .bool else if x = "str" then some .str else if x = "tuple" then some .tuple else if x = "list" then some .list else none
def bfOf (x : Str) : Option Bf :=
  if x = "len" then some .len else if x = "abs" then some .abs else if x = "tuple" then some .tuple else if x = "list" then some .list else if x = "all" then some .all
  else if x = "any" then some .any else if x = "int" then some .int else if x = "sum" then some .sum else none
def mfOf (m : Str) (n : Nat) : Option Mf :=
  if m = "append" then some .append else if m = "insert" then some .insert else if m = "pop" then (if n = 0 then some .pop else some .popAt) else if m = "extend" then some .extend else none
def ownOf (N : List Str) : List (Str × NameKind) → List (Str × Nat)
  | [] => []
  | (x, k) :: r => match k with
    | .local | .cell => match findIx N x with
      | some i => (x, i) :: ownOf N r
      | none => ownOf N r
    | _ => ownOf N r
def Es.len : Es → Nat
  | .nil => 0
  | .cons _ r => r.len + 1
def isStar : Expr → Bool
  | .Starred .. => true
  | _ => false
def isSlice : Expr → Bool
  | .Slice .. => true
  | _ => false
def isSet : Expr → Bool
  | .Set .. => true
  | _ => false
def isTupE : Expr → Bool
  | .Tuple .. => true
  | _ => false
def isCall0 : Expr → Bool
  | .Call (.Name _ _) [] [] _ => true
  | _ => false
mutual
def cE : Nat → Ct → Expr → Option E
  | 0, _, _ => none
  | n + 1, C, .Constant c _ _ => match c with
    | .int i => some (.cst (.int i))
    | .bool b => some (.cst (.bl b))
    | .none => some (.cst .non)
    | .str s => some (.cst (.str s))
    | _ => none
  | n + 1, C, .Name x _ =>
    if x == "__debug__" || x == "__classdict__" then none else
    match C.sc.names.lookup x with
    | some .local => (findIx C.N x).map .var
    | some .cell => (findIx C.N x).map .var
    | some .free => (findIx C.N x).map .var
    | some .globalImplicit => (C.cs.lookup x).map .cst
    | _ => none
  | n + 1, C, .BinOp a op b _ => do
    let a ← cE n C a
    let b ← cE n C b
    let o ← bopOf op
    some (.bin o a b)
  | n + 1, C, .UnaryOp op a _ => match op with
    | .USub => (cE n C a).map .neg
    | .Not => (cE n C a).map .not
    | _ => none
  | n + 1, C, .BoolOp op es _ => cB n C op es
  | n + 1, C, .Compare a ops bs _ => match ops, bs with
    | [op], [b] => if isSet b then none else do
      let a ← cE n C a
      let b ← cE n C b
      let o ← copOf op
      some (.cmp o a b)
    | [op, op2], [b, c] => if isSet c then none else do
      let a ← cE n C a
      let b ← cE n C b
      let c ← cE n C c
      let o ← copOf op
      let o2 ← copOf op2
      some (.chn o o2 a b c)
    | _, _ => none
  | n + 1, C, .IfExp c a b _ => do
    let c ← cE n C c
    let a ← cE n C a
    let b ← cE n C b
    some (.ite c a b)
  | n + 1, C, .Tuple es _ _ => if es.length ≤ 1000 then (cEs n C es).map .tup else none
  | n + 1, C, .List es _ => if es.length ≤ 1000 then (cEs n C es).map .lst else none
  | n + 1, C, .Subscript a i _ => match i with
    | .Slice lo hi st _ => match st with
      | none => do
        let a ← cE n C a
        let lo ← cO n C lo
        let hi ← cO n C hi
        some (.sl a lo hi)
      | some _ => none
    | i => do
      let a ← cE n C a
      let i ← cE n C i
      some (.ix a i)
  | n + 1, C, .Call f es kws cp => match kws with
    | _ :: _ => none
    | [] => match f with
      | .Name x _ =>
        if x == "__debug__" || x == "__name__" then none else
        if C.isGl x then
          match C.fns.lookup x with
          | some (g, ar) => if es.length == ar then (cEs n C es).map (.call g) else none
          | none => if C.isB x then
              (if x = "isinstance" then
                match es with
                | [a, .Name t _] => if C.isB t then do
                    let a ← cE n C a
                    let t ← tyOf t
                    some (.bfn (.isT t) (.cons a .nil))
                  else none
                | _ => none
              else match es with
                | [a] => do
                  let a ← cE n C a
                  let b ← bfOf x
                  some (.bfn b (.cons a .nil))
                | _ => none)
            else none
        else none
      | .Attribute o m ap => if isCall0 o || !(ap.endLine == cp.line) || !decide (es.length < 29) then none else do
        let o ← cE n C o
        let m ← mfOf m es.length
        let es ← cEs n C es
        some (.mth m o es)
      | _ => none
  | n + 1, C, .ListComp elt gs scope _ => match gs with
    | [⟨tg, it, ifs, asy⟩] =>
      let own := ownOf C.N scope.names
      let C' : Ct := { C with sc := relS scope C.sc, fn := fun x => scope.names.lookup x == some .cell }
      if asy = 0 ∧ blkC C.N C.sc scope own = true then do
        let i ← cI n C tg it
        let t ← cT n C' tg
        let c ← cC n C' ifs
        let e ← cE n C' elt
        if t.slots.all (fun i => (own.map (·.2)).contains i) then some (.comp e t i c (own.map (·.2))) else none
      else none
    | _ => none
  | _, _, _ => none
def cEs : Nat → Ct → List Expr → Option Es
  | 0, _, _ => none
  | n + 1, C, [] => some .nil
  | n + 1, C, e :: es => do
    let e ← cE n C e
    let es ← cEs n C es
    some (.cons e es)
def cB : Nat → Ct → BoolOp → List Expr → Option E
  | 0, _, _, _ => none
  | n + 1, C, op, [] => none
  | n + 1, C, op, [e] => cE n C e
  | n + 1, C, op, e :: es => do
    let e ← cE n C e
    let es ← cB n C op es
    match op with
    | .And => some (.and e es)
    | .Or => some (.or e es)
def cO : Nat → Ct → Option Expr → Option O
  | 0, _, _ => none
  | n + 1, C, none => some .no
  | n + 1, C, some e => (cE n C e).map .yes
def cC : Nat → Ct → List Expr → Option C
  | 0, _, _ => none
  | n + 1, C, [] => some .no
  | n + 1, C, [e] => (cE n C e).map .yes
  | _, _, _ => none
def cT : Nat → Ct → Expr → Option T
  | 0, _, _ => none
  | n + 1, C, .Name x _ => match C.sc.names.lookup x with
    | some .local => (findIx C.N x).map .nm
    | some .cell => if C.fn x then (findIx C.N x).map .nm else none
    | _ => none
  | n + 1, C, .Tuple ts _ _ => (cTs n C ts).map .tp
  | n + 1, C, .Subscript o i _ => if isSlice i then none else do
    let o ← cE n C o
    let i ← cE n C i
    some (.ix o i)
  | _, _, _ => none
def cTs : Nat → Ct → List Expr → Option Ts
  | 0, _, _ => none
  | n + 1, C, [] => some .nil
  | n + 1, C, t :: ts => do
    let t ← cT n C t
    let ts ← cTs n C ts
    some (.cons t ts)
def cI : Nat → Ct → Expr → Expr → Option I
  | 0, _, _, _ => none
  | n + 1, C, tg, it => match it with
    | .Call (.Name x p) es [] q =>
      if C.isB x then
        (if x = "range" then match es with
          | [a] => (cE n C a).map .rng1
          | [a, b] => do
            let a ← cE n C a
            let b ← cE n C b
            some (.rng2 a b)
          | _ => none
        else if x = "enumerate" then (if isTupE tg then match es with
          | [a] => (cE n C a).map .enum
          | _ => none else none)
        else if x = "zip" then (if isTupE tg then match es with
          | [a, b] => do
            let a ← cE n C a
            let b ← cE n C b
            some (.zip a b)
          | _ => none else none)
        else (cE n C (.Call (.Name x p) es [] q)).map .seq)
      else (cE n C (.Call (.Name x p) es [] q)).map .seq
    | it => if isSet it then none else (cE n C it).map .seq
end
/-- the tuple on the right is made, its parts are stored from the left -/
def noSwap (C : Ct) (ts vs : List Expr) : Bool :=
  let line := (ts.head?.map (·.pos.line)).getD 0
  let names := ts.filterMap fun
    | .Name id pos => if C.sc.names.lookup id == some .local && pos.line == line then some id else none
    | _ => none
  !(ts.length == 2 || ts.length == 3) || vs.length != ts.length || names.length != ts.length || vs.all (foldedForSure 8)
def swaps (C : Ct) (x : Str) (l : Nat) : Expr → Bool
  | .ListComp _ _ scope pos => C.sc.names.lookup x == some .local && l == pos.line && !(scope.names.any fun (n, k) => n == x && (k == .local || k == .cell))
  | _ => false
def isComp : Expr → Bool
  | .ListComp .. | .SetComp .. | .DictComp .. => true
  | _ => false
mutual
def cS : Nat → Ct → Stmt → Option S
  | 0, _, _ => none
  | n + 1, C, .Assign ts e pos => match ts with
    | [.Name x px] => if isComp e then
        (match e with
        | .ListComp _ _ _ _ => do
          let t ← cT n C (.Name x px)
          let e ← cE n C e
          some (.asg t e)
        | _ => none)
      else do
        let t ← cT n C (.Name x px)
        let e ← cE n C e
        some (.asg t e)
    | [.Tuple tts k tp] => match tts, e with
      | [.Name x px, .Name y py], .Tuple [a, b] k2 p2 =>
        if noSwap C [.Name x px, .Name y py] [a, b] = true then do
          let t ← cT n C (.Tuple [.Name x px, .Name y py] k tp)
          let e ← cE n C (.Tuple [a, b] k2 p2)
          some (.asg t e)
        else if x ≠ y ∧ px.line = py.line ∧ C.sc.names.lookup x = some .local ∧ C.sc.names.lookup y = some .local ∧ isStar a = false ∧ isStar b = false ∧ ([a, b].all (foldedForSure 8)) = false ∧ ([a, b].all (constantsAlone 8)) = false then do
          let i ← findIx C.N x
          let j ← findIx C.N y
          let a ← cE n C a
          let b ← cE n C b
          some (.par i j a b)
        else none
      | [.Name x px, .Name y py, .Name z pz], .Tuple [a, b, c] k2 p2 =>
        if noSwap C [.Name x px, .Name y py, .Name z pz] [a, b, c] = true then do
          let t ← cT n C (.Tuple [.Name x px, .Name y py, .Name z pz] k tp)
          let e ← cE n C (.Tuple [a, b, c] k2 p2)
          some (.asg t e)
        else if (x ≠ y ∧ x ≠ z ∧ y ≠ z) ∧ (px.line = py.line ∧ px.line = pz.line) ∧ C.sc.names.lookup x = some .local ∧ C.sc.names.lookup y = some .local ∧ C.sc.names.lookup z = some .local ∧ (isStar a = false ∧ isStar b = false ∧ isStar c = false) ∧ ([a, b, c].all (foldedForSure 8)) = false ∧ ([a, b, c].all (constantsAlone 8)) = false then do
          let i ← findIx C.N x
          let j ← findIx C.N y
          let l ← findIx C.N z
          let a ← cE n C a
          let b ← cE n C b
          let c ← cE n C c
          some (.asg (.tp (.cons (.nm i) (.cons (.nm j) (.cons (.nm l) .nil)))) (.tup (.cons a (.cons b (.cons c .nil)))))
        else none
      | tts, .Tuple vs k2 p2 => if noSwap C tts vs = true then do
          let t ← cT n C (.Tuple tts k tp)
          let e ← cE n C (.Tuple vs k2 p2)
          some (.asg t e)
        else none
      | tts, e => if isTupE e || isComp e then none else do
        let t ← cT n C (.Tuple tts k tp)
        let e ← cE n C e
        some (.asg t e)
    | [.Subscript o i p] => if isComp e then none else do
      let t ← cT n C (.Subscript o i p)
      let e ← cE n C e
      some (.asg t e)
    | _ => none
  | n + 1, C, .AugAssign (.Name x _) op e _ => match C.sc.names.lookup x with
    | some .local => do
      let i ← findIx C.N x
      let o ← bopOf op
      let e ← cE n C e
      some (.aug i o e)
    | _ => none
  | n + 1, C, .Expr e _ => if isComp e then none else (cE n C e).map .expr
  | n + 1, C, .Return e _ => match e with
    | none => some .retN
    | some e => (cE n C e).map .ret
  | n + 1, C, .If c a b _ => do
    let c ← cE n C c
    let a ← cSs n C a
    let b ← cSs n C b
    some (.ite c a b)
  | n + 1, C, .While c b o _ => match o with
    | [] => do
      let c ← cE n C c
      let b ← cSs n C b
      some (.whl c b)
    | _ => none
  | n + 1, C, .For t it b o _ => match o with
    | [] => do
      let i ← cI n C t it
      let t ← cT n C t
      let b ← cSs n C b
      some (.for_ t i b)
    | _ => none
  | n + 1, C, .Break _ => some .brk
  | n + 1, C, .Continue _ => some .cont
  | n + 1, C, .Pass _ => some .pass
  | n + 1, C, .Raise _ _ _ => some .stuck
  | _, _, _ => none
def cSs : Nat → Ct → List Stmt → Option Ss
  | 0, _, _ => none
  | n + 1, C, [] => some .nil
  | n + 1, C, s :: ss => do
    let s ← cS n C s
    let ss ← cSs n C ss
    some (.cons s ss)
end
end TB

namespace TB
open PySem PySem.Spec PyProof.Rows L2

def LSp (K : PySem.W.Frag) (n : Nat) (p : List D → Mem → K1 → Prop) : Sp := fun vs H Q _ => vs.length = n ∧ ∃ ds M q, RepL K H ds vs ∧ RepM K H M ∧ p ds M q ∧
  ∀ d M' v H', Step M H M' H' → Rep K H' d v → RepM K H' M' → q d M' → Q v H'

structure Ok (Γ : Gam) (C : Ct) (X : Cx) : Prop where
  hN : X.N = C.N
  nd : C.N.Nodup
  sc : X.env.scope = C.sc
  calm : X.calm = true
  fn : ∀ x, C.fn x = true → X.fn x = true
  un : X.A.units + 64 < cLine
  xe : X.xe = fun _ _ => False
  fns : ∀ x g n, C.fns.lookup x = some (g, n) → ∃ f fd ps k, X.mg x = some (.ref f) ∧ PySem.W.keepIn X.K (.ref f) = true ∧ FnOk X.prog X.w X.K X.mg X.base CX0 k f fd ps (LSp X.K n (Γ g)) ∧ Binds X.K fd ps [] ∧ Room k X.A ∧ ps.length = n
  cs : ∀ x d, C.cs.lookup x = some d → ∃ u v, X.mg x = some u ∧ RelV v u ∧ ∀ H, Rep X.K H d v
  bl : ∀ x, x ∈ bnames → C.fns.lookup x = none → C.cs.lookup x = none → X.mg x = none
theorem Ok.blk {Γ : Gam} {C : Ct} {X : Cx} (o : Ok Γ C X) (scope : Scope) (s : Shared) (H : Hp) (cl : List (Str × Addr)) (A : Addr) (fp : List Addr) :
    Ok Γ { C with sc := relS scope C.sc, fn := fun x => scope.names.lookup x == some .cell } (X.blk s H scope (compEnvC scope cl A X.env) fp) :=
  ⟨o.hN, o.nd, by show relS scope X.env.scope = _; rw [o.sc], o.calm, fun x h => h, o.un, rfl, o.fns, o.cs, o.bl⟩
theorem Ok.pas {Γ : Gam} {C : Ct} {X : Cx} (o : Ok Γ C X) : PassesOwn (model X.prog X.w) X.A X.env X.xe := by rw [o.xe]; exact PassesOwn.never

section
variable {Γ : Gam} {X : Cx} {a b c e : Expr} {pos : Pos} {w wa wb wc : En → Mem → K1 → Prop}
/-! ### the constructs, one by one -/
theorem s_bin (op : Bin) (ha : PE X a (LE X.K wa)) (hb : PE X b (LE X.K wb)) : PE X (.BinOp a op.op b pos) (LE X.K fun ρ M q => wa ρ M fun x M1 => wb ρ M1 fun y M2 => binW op x y M2 q) := by
  refine pe_imp (pe_op (op_bin op) ha hb) ?_
  rintro σ H Q ⟨ρ, M, q, hE, hM, h, k⟩
  refine ⟨ρ, M, _, hE, hM, h, fun d1 M1 v1 H1 s1 r1 m1 q1 => ⟨ρ, M1, _, hE.keep s1.keep, m1, q1, fun d2 M2 v2 H2 s2 r2 m2 q2 => ?_⟩⟩
  exact ⟨d1, d2, M2, q, r1.keep s2.keep, r2, m2, q2, fun d M' v H' s => k d M' v H' ((s1.trans s2).trans s)⟩
theorem s_cmp (hu : X.A.units + 64 < cLine) (op : Cm) (hm : behindInMarks op.op b = false) (ha : PE X a (LE X.K wa)) (hb : PE X b (LE X.K wb)) :
    PE X (.Compare a [op.op] [b] pos) (LE X.K fun ρ M q => wa ρ M fun x M1 => wb ρ M1 fun y M2 => cmpW op x y M2 fun k => q (.bl k) M2) := by
  refine pe_imp (pe_cmpR (op_cmp hu op) ha hb hm) ?_
  rintro σ H Q ⟨ρ, M, q, hE, hM, h, k⟩
  refine ⟨ρ, M, _, hE, hM, h, fun d1 M1 v1 H1 s1 r1 m1 q1 => ⟨ρ, M1, _, hE.keep s1.keep, m1, q1, fun d2 M2 v2 H2 s2 r2 m2 q2 => ?_⟩⟩
  exact ⟨d1, d2, M2, q, r1.keep s2.keep, r2, m2, q2, fun d M' v H' s => k d M' v H' ((s1.trans s2).trans s)⟩
theorem cmpW_bl {op : Cm} {x y : D} {M : Mem} {q q' : Bool → Prop} (h : cmpW op x y M q) (f : ∀ b, q b → q' b) : cmpW op x y M q' := by
  have g : ∀ {x y : D} {q q' : Bool → Prop}, eqW x y M q → (∀ b, q b → q' b) → eqW x y M q' := fun {x y q q'} h f => by
    unfold eqW at h ⊢
    split at h
    · obtain ⟨a, b, c, d, e, h⟩ := h; exact ⟨a, b, c, d, e, f _ h⟩
    · exact ⟨h.1, f _ h.2⟩
  have g2 : ∀ {x y : D} {q q' : Bool → Prop}, inW x y M q → (∀ b, q b → q' b) → inW x y M q' := fun {x y q q'} h f => by
    unfold inW at h ⊢
    split at h
    · exact ⟨h.1, h.2.1, f _ h.2.2⟩
    · obtain ⟨a, b, c, d, h⟩ := h; exact ⟨a, b, c, d, f _ h⟩
    · exact h.elim
  cases op with
  | lt => cases x <;> cases y <;> first | exact h.elim | exact f _ h
  | le => cases x <;> cases y <;> first | exact h.elim | exact f _ h
  | gt => cases x <;> cases y <;> first | exact h.elim | exact f _ h
  | ge => cases x <;> cases y <;> first | exact h.elim | exact f _ h
  | eq => exact g h f
  | ne => exact g (q := fun b => q (!b)) (q' := fun b => q' (!b)) h fun b => f _
  | isN => cases y <;> first | exact h.elim | exact f _ h | (cases x <;> first | exact h.elim | exact f _ h)
  | notN => cases y <;> first | exact h.elim | exact f _ h | (cases x <;> first | exact h.elim | exact f _ h)
  | inn => exact g2 h f
  | notIn => exact g2 (q := fun b => q (!b)) (q' := fun b => q' (!b)) h fun b => f _
theorem t_cmp (hu : X.A.units + 64 < cLine) (op : Cm) (hm : behindInMarks op.op b = false) (ha : PE X a (LE X.K wa)) (hb : PE X b (LE X.K wb)) :
    PT X (.Compare a [op.op] [b] pos) (LT X.K fun ρ M q => wa ρ M fun x M1 => wb ρ M1 fun y M2 => cmpW op x y M2 fun k => q (.bl k) M2) := by
  refine pt_imp (pt_cmpR (op_cmp hu op) ha hb hm) ?_
  rintro σ H Q ⟨ρ, M, q, hE, hM, h, k⟩
  refine ⟨ρ, M, _, hE, hM, h, fun d1 M1 v1 H1 s1 r1 m1 q1 => ⟨ρ, M1, _, hE.keep s1.keep, m1, q1, fun d2 M2 v2 H2 s2 r2 m2 q2 => ?_⟩⟩
  refine ⟨d1, d2, M2, fun d M' => ∃ b, d = .bl b ∧ q d M', r1.keep s2.keep, r2, m2, cmpW_bl q2 fun b z => ⟨b, rfl, z⟩, ?_⟩
  rintro d M' v H' s r m ⟨b, rfl, z⟩
  cases r
  obtain ⟨b', e, z⟩ := k (.bl b) M' (.bl b) H' ((s1.trans s2).trans s) rfl m z
  have e : some b = some b' := e
  cases e
  exact ⟨b, rfl, z⟩
theorem LR2.bl {K : PySem.W.Frag} {op : Cm} {x y : V} {H : Hp} {M : Mem} {dx dy : D} {f : Bool → Prop} {Q : VK} (r1 : Rep K H dx x) (r2 : Rep K H dy y) (m : RepM K H M) (h : cmpW op dx dy M f)
    (k : ∀ b H', f b → Step M H M H' → RepM K H' M → Q (.bl b) H') : LR2 K (cmpF op) x y H Q := by
  refine ⟨dx, dy, M, fun d M' => M' = M ∧ ∃ b, d = .bl b ∧ f b, r1, r2, m, cmpW_bl h fun b z => ⟨rfl, b, rfl, z⟩, ?_⟩
  rintro d M' v H' s r m' ⟨rfl, b, rfl, z⟩
  cases r
  exact k b H' z s m'
theorem s_chn (hu : X.A.units + 64 < cLine) (o1 o2 : Cm) (hm : lastMarks [o1.op, o2.op] [b, c] = false) (ha : PE X a (LE X.K wa)) (hb : PE X b (LE X.K wb)) (hc : PE X c (LE X.K wc)) :
    PE X (.Compare a [o1.op, o2.op] [b, c] pos) (LE X.K fun ρ M q => wa ρ M fun x M1 => wb ρ M1 fun y M2 => cmpW o1 x y M2 fun k =>
      if k = true then wc ρ M2 fun z M3 => cmpW o2 y z M3 fun k => q (.bl k) M3 else q (.bl false) M2) := by
  refine pe_imp (pe_chain (op_cmp hu o1) (op_cmp hu o2) ha hb hc hm) ?_
  rintro σ H Q ⟨ρ, M, q, hE, hM, h, k⟩
  refine ⟨ρ, M, _, hE, hM, h, fun d1 M1 v1 H1 s1 r1 m1 q1 => ⟨ρ, M1, _, hE.keep s1.keep, m1, q1, fun d2 M2 v2 H2 s2 r2 m2 q2 => ?_⟩⟩
  refine LR2.bl (r1.keep s2.keep) r2 m2 q2 fun kb H3 z s3 m3 => ⟨kb, rfl, ?_⟩
  cases kb with
  | false => simp only [Bool.false_eq_true, if_false] at z ⊢; exact k (.bl false) M2 _ H3 ((s1.trans s2).trans s3) rfl m3 z
  | true =>
    simp only [if_true] at z ⊢
    refine ⟨ρ, M2, _, ((hE.keep s1.keep).keep s2.keep).keep s3.keep, m3, z, fun d4 M4 v4 H4 s4 r4 m4 q4 => ?_⟩
    exact LR2.bl ((r2.keep s3.keep).keep s4.keep) r4 m4 q4 fun kb H5 z s5 m5 => k (.bl kb) M4 _ H5 ((((s1.trans s2).trans s3).trans s4).trans s5) rfl m5 z
theorem t_chn (hu : X.A.units + 64 < cLine) (o1 o2 : Cm) (hm : lastMarks [o1.op, o2.op] [b, c] = false) (ha : PE X a (LE X.K wa)) (hb : PE X b (LE X.K wb)) (hc : PE X c (LE X.K wc)) :
    PT X (.Compare a [o1.op, o2.op] [b, c] pos) (LT X.K fun ρ M q => wa ρ M fun x M1 => wb ρ M1 fun y M2 => cmpW o1 x y M2 fun k =>
      if k = true then wc ρ M2 fun z M3 => cmpW o2 y z M3 fun k => q (.bl k) M3 else q (.bl false) M2) := by
  refine pt_imp (pt_chain (op_cmp hu o1) (op_cmp hu o2) ha hb hc hm) ?_
  rintro σ H Q ⟨ρ, M, q, hE, hM, h, k⟩
  have fin : ∀ (b : Bool) (M' : Mem) (H' : Hp), Step M H M' H' → RepM X.K H' M' → q (.bl b) M' → ∃ k, V.bl b = .bl k ∧ Q k H' := fun b M' H' s m z => by
    obtain ⟨b', e, z⟩ := k (.bl b) M' (.bl b) H' s rfl m z
    have e : some b = some b' := e
    cases e
    exact ⟨b, rfl, z⟩
  refine ⟨ρ, M, _, hE, hM, h, fun d1 M1 v1 H1 s1 r1 m1 q1 => ⟨ρ, M1, _, hE.keep s1.keep, m1, q1, fun d2 M2 v2 H2 s2 r2 m2 q2 => ?_⟩⟩
  refine LR2.bl (r1.keep s2.keep) r2 m2 q2 fun kb H3 z s3 m3 => ⟨kb, rfl, ?_⟩
  cases kb with
  | false => simp only [Bool.false_eq_true, if_false] at z ⊢; exact fin false M2 H3 ((s1.trans s2).trans s3) m3 z
  | true =>
    simp only [if_true] at z ⊢
    refine ⟨ρ, M2, _, ((hE.keep s1.keep).keep s2.keep).keep s3.keep, m3, z, fun d4 M4 v4 H4 s4 r4 m4 q4 => ?_⟩
    exact LR2.bl ((r2.keep s3.keep).keep s4.keep) r4 m4 q4 fun kb H5 z s5 m5 => fin kb M4 H5 ((((s1.trans s2).trans s3).trans s4).trans s5) m5 z
theorem t_any (h : PE X e (LE X.K w)) (he : ∀ whole, isTrue e X.env whole = (do let v ← whole; standAt e.pos; holding [v] (truthy v))) : PT X e (LT X.K w) := by
  refine pt_imp (pt_truth h he) ?_
  rintro σ H Q ⟨ρ, M, q, hE, hM, h, k⟩
  refine ⟨ρ, M, q, hE, hM, h, fun d M' v H' s r m z => ?_⟩
  obtain ⟨b, e, z⟩ := k d M' v H' s r m z
  exact ⟨b, tru_ok' r m e, z⟩
theorem s_not (ha : PE X a (LE X.K wa)) : PE X (.UnaryOp .Not a pos) (LE X.K fun ρ M q => wa ρ M fun x M1 => ∃ k, tru M1 x = some k ∧ q (.bl (!k)) M1) := by
  refine pe_imp (pe_notT ha) ?_
  rintro σ H Q ⟨ρ, M, q, hE, hM, h, k⟩
  refine ⟨ρ, M, _, hE, hM, h, fun d1 M1 v1 H1 s1 r1 m1 ⟨b, e, z⟩ => ⟨b, tru_ok' r1 m1 e, k (.bl _) M1 _ H1 s1 rfl m1 z⟩⟩
theorem t_not (ha : PT X a (LT X.K wa)) : PT X (.UnaryOp .Not a pos) (LT X.K fun ρ M q => wa ρ M fun x M1 => ∃ k, tru M1 x = some k ∧ q (.bl (!k)) M1) := by
  refine pt_imp (pt_not ha) ?_
  rintro σ H Q ⟨ρ, M, q, hE, hM, h, k⟩
  refine ⟨ρ, M, _, hE, hM, h, fun d1 M1 v1 H1 s1 r1 m1 ⟨b, e, z⟩ => ⟨b, e, ?_⟩⟩
  obtain ⟨b', e', z⟩ := k (.bl (!b)) M1 (.bl (!b)) H1 s1 rfl m1 z
  have e' : some (!b) = some b' := e'
  cases e'
  exact z
theorem s_neg (ha : PE X a (LE X.K wa)) : PE X (.UnaryOp .USub a pos) (LE X.K fun ρ M q => wa ρ M fun x M1 => ∃ i, x = .int i ∧ q (.int (-i)) M1) := by
  refine pe_imp (pe_un un_neg ha) ?_
  rintro σ H Q ⟨ρ, M, q, hE, hM, h, k⟩
  refine ⟨ρ, M, _, hE, hM, h, fun d1 M1 v1 H1 s1 r1 m1 ⟨i, e, z⟩ => ?_⟩
  subst e
  cases r1
  exact ⟨i, rfl, k (.int _) M1 _ H1 s1 rfl m1 z⟩
theorem s_ite (hc : PT X c (LT X.K wc)) (ha : PE X a (LE X.K wa)) (hb : PE X b (LE X.K wb)) :
    PE X (.IfExp c a b pos) (LE X.K fun ρ M q => wc ρ M fun x M1 => ∃ k, tru M1 x = some k ∧ if k = true then wa ρ M1 q else wb ρ M1 q) := by
  refine pe_imp (pe_ifExp hc ha hb) ?_
  rintro σ H Q ⟨ρ, M, q, hE, hM, h, k⟩
  refine ⟨ρ, M, _, hE, hM, h, fun d1 M1 v1 H1 s1 r1 m1 ⟨b, e, z⟩ => ⟨b, e, ?_⟩⟩
  cases b with
  | true =>
    simp only [if_true] at z ⊢
    exact ⟨ρ, M1, q, hE.keep s1.keep, m1, z, fun d M' v H' s => k d M' v H' (s1.trans s)⟩
  | false =>
    simp only [Bool.false_eq_true, if_false] at z ⊢
    exact ⟨ρ, M1, q, hE.keep s1.keep, m1, z, fun d M' v H' s => k d M' v H' (s1.trans s)⟩
theorem pt_ifExp {tC tA tB : TT} (hc : PT X c tC) (ha : PT X a tA) (hb : PT X b tB) : PT X (.IfExp c a b pos) (fun σ H Q => tC σ H fun k H1 => if k = true then tA σ H1 Q else tB σ H1 Q) := by
  refine ⟨fun pins s σ H Q I h => ?_⟩
  show wpAny _ _ (isTrue c X.env (eval c X.env) >>= fun k => if k = true then isTrue a X.env (eval a X.env) else isTrue b X.env (eval b X.env)) _ _ s
  refine wpAny_bind (thn (hc.run pins s σ H _ I h) fun k s1 ⟨H1, I1, q1⟩ => ?_)
  cases k with
  | true => exact ha.run pins s1 σ H1 Q I1 q1
  | false => exact hb.run pins s1 σ H1 Q I1 q1
theorem t_ite (hc : PT X c (LT X.K wc)) (ha : PT X a (LT X.K wa)) (hb : PT X b (LT X.K wb)) :
    PT X (.IfExp c a b pos) (LT X.K fun ρ M q => wc ρ M fun x M1 => ∃ k, tru M1 x = some k ∧ if k = true then wa ρ M1 q else wb ρ M1 q) := by
  refine pt_imp (pt_ifExp hc ha hb) ?_
  rintro σ H Q ⟨ρ, M, q, hE, hM, h, k⟩
  refine ⟨ρ, M, _, hE, hM, h, fun d1 M1 v1 H1 s1 r1 m1 ⟨b, e, z⟩ => ⟨b, e, ?_⟩⟩
  cases b with
  | true =>
    simp only [if_true] at z ⊢
    exact ⟨ρ, M1, q, hE.keep s1.keep, m1, z, fun d M' v H' s => k d M' v H' (s1.trans s)⟩
  | false =>
    simp only [Bool.false_eq_true, if_false] at z ⊢
    exact ⟨ρ, M1, q, hE.keep s1.keep, m1, z, fun d M' v H' s => k d M' v H' (s1.trans s)⟩
variable {rest : List Expr}
theorem s_and (ha : PE X a (LE X.K wa)) (hb : PE X (.BoolOp .And (b :: rest) pos) (LE X.K wb)) :
    PE X (.BoolOp .And (a :: b :: rest) pos) (LE X.K fun ρ M q => wa ρ M fun x M1 => ∃ k, tru M1 x = some k ∧ if k = true then wb ρ M1 q else q x M1) := by
  refine pe_imp (pe_andT ha hb) ?_
  rintro σ H Q ⟨ρ, M, q, hE, hM, h, k⟩
  refine ⟨ρ, M, _, hE, hM, h, fun d1 M1 v1 H1 s1 r1 m1 ⟨b, e, z⟩ => ⟨b, tru_ok' r1 m1 e, ?_⟩⟩
  cases b with
  | true =>
    simp only [if_true] at z ⊢
    exact ⟨ρ, M1, q, hE.keep s1.keep, m1, z, fun d M' v H' s => k d M' v H' (s1.trans s)⟩
  | false =>
    simp only [Bool.false_eq_true, if_false] at z ⊢
    exact k d1 M1 v1 H1 s1 r1 m1 z
theorem s_or (ha : PE X a (LE X.K wa)) (hb : PE X (.BoolOp .Or (b :: rest) pos) (LE X.K wb)) :
    PE X (.BoolOp .Or (a :: b :: rest) pos) (LE X.K fun ρ M q => wa ρ M fun x M1 => ∃ k, tru M1 x = some k ∧ if k = true then q x M1 else wb ρ M1 q) := by
  refine pe_imp (pe_orT ha hb) ?_
  rintro σ H Q ⟨ρ, M, q, hE, hM, h, k⟩
  refine ⟨ρ, M, _, hE, hM, h, fun d1 M1 v1 H1 s1 r1 m1 ⟨b, e, z⟩ => ⟨b, tru_ok' r1 m1 e, ?_⟩⟩
  cases b with
  | true =>
    simp only [if_true] at z ⊢
    exact k d1 M1 v1 H1 s1 r1 m1 z
  | false =>
    simp only [Bool.false_eq_true, if_false] at z ⊢
    exact ⟨ρ, M1, q, hE.keep s1.keep, m1, z, fun d M' v H' s => k d M' v H' (s1.trans s)⟩
theorem t_and (ha : PT X a (LT X.K wa)) (hb : PW X (.BoolOp .And (b :: rest) pos) (LT X.K wb)) :
    PW X (.BoolOp .And (a :: b :: rest) pos) (LT X.K fun ρ M q => wa ρ M fun x M1 => ∃ k, tru M1 x = some k ∧ if k = true then wb ρ M1 q else q x M1) := by
  refine pw_imp (pw_and ha hb) ?_
  rintro σ H Q ⟨ρ, M, q, hE, hM, h, k⟩
  refine ⟨ρ, M, _, hE, hM, h, fun d1 M1 v1 H1 s1 r1 m1 ⟨b, e, z⟩ => ⟨b, e, ?_⟩⟩
  cases b with
  | true =>
    simp only [if_true] at z ⊢
    exact ⟨ρ, M1, q, hE.keep s1.keep, m1, z, fun d M' v H' s => k d M' v H' (s1.trans s)⟩
  | false =>
    simp only [Bool.false_eq_true, if_false] at z ⊢
    obtain ⟨b', e', z⟩ := k d1 M1 v1 H1 s1 r1 m1 z
    rw [e] at e'; cases e'
    exact z
theorem t_or (ha : PT X a (LT X.K wa)) (hb : PW X (.BoolOp .Or (b :: rest) pos) (LT X.K wb)) :
    PW X (.BoolOp .Or (a :: b :: rest) pos) (LT X.K fun ρ M q => wa ρ M fun x M1 => ∃ k, tru M1 x = some k ∧ if k = true then q x M1 else wb ρ M1 q) := by
  refine pw_imp (pw_or ha hb) ?_
  rintro σ H Q ⟨ρ, M, q, hE, hM, h, k⟩
  refine ⟨ρ, M, _, hE, hM, h, fun d1 M1 v1 H1 s1 r1 m1 ⟨b, e, z⟩ => ⟨b, e, ?_⟩⟩
  cases b with
  | true =>
    simp only [if_true] at z ⊢
    obtain ⟨b', e', z⟩ := k d1 M1 v1 H1 s1 r1 m1 z
    rw [e] at e'; cases e'
    exact z
  | false =>
    simp only [Bool.false_eq_true, if_false] at z ⊢
    exact ⟨ρ, M1, q, hE.keep s1.keep, m1, z, fun d M' v H' s => k d M' v H' (s1.trans s)⟩
/-! ### argument lists, displays, calls -/
theorem a_nil : PA X [] (LA X.K 0 fun ρ M k => k [] M) := by
  refine pa_imp pa_nil ?_
  rintro σ H Q ⟨ρ, M, q, hE, hM, h, k⟩
  exact k [] M [] H rfl .refl rfl hM h
theorem a_cons {es : List Expr} {n : Nat} {ws : En → Mem → (List D → Mem → Prop) → Prop} (ha : PE X e (LE X.K w)) (hs : PA X es (LA X.K n ws)) (hst : starEach (e :: es) X.env = (false, eval e X.env) :: starEach es X.env) :
    PA X (e :: es) (LA X.K (n + 1) fun ρ M k => w ρ M fun d M1 => ws ρ M1 fun ds M2 => k (d :: ds) M2) := by
  refine pa_imp (pa_cons ha hs hst) ?_
  rintro σ H Q ⟨ρ, M, q, hE, hM, h, k⟩
  refine ⟨ρ, M, _, hE, hM, h, fun d1 M1 v1 H1 s1 r1 m1 q1 => ⟨ρ, M1, _, hE.keep s1.keep, m1, q1, fun ds M2 vs H2 hl s2 r2 m2 q2 => ?_⟩⟩
  exact k (d1 :: ds) M2 (v1 :: vs) H2 (by simp [hl]) (s1.trans s2) ⟨v1, vs, rfl, r1.keep s2.keep, r2⟩ m2 q2
variable {es : List Expr} {n : Nat} {ws : En → Mem → (List D → Mem → Prop) → Prop}
theorem le1000 {n : Nat} (h : n ≤ 1000) : n ≤ sizeLine := Nat.le_of_lt (small1000 h)
theorem s_tup {k0 : Nat} (hs : PA X es (LA X.K n ws)) (hn : n ≤ 1000) : PE X (.Tuple es k0 pos) (LE X.K fun ρ M q => ws ρ M fun ds M1 => q (.tup ds) M1) := by
  refine pe_imp (pe_tup hs) ?_
  rintro σ H Q ⟨ρ, M, q, hE, hM, h, k⟩
  refine ⟨ρ, M, _, hE, hM, h, fun ds M1 vs H1 hl s1 r1 m1 q1 => ⟨by rw [← r1.length, hl]; exact le1000 hn, fun p hp => ?_⟩⟩
  exact k (.tup ds) M1 _ _ (s1.trans (step_new m1 hp)) ⟨_, _, rfl, .inl (.inl upd_same), r1.keep (keep_new hp), by rw [hl]; exact le1000 hn⟩ (m1.new hp) q1
theorem s_lst (hs : PA X es (LA X.K n ws)) (hn : n ≤ 1000) : PE X (.List es pos) (LE X.K fun ρ M q => ws ρ M fun ds M1 => ∀ p, M1 p = none → q (.lst p) (M1.up p ds)) := by
  refine pe_imp (pe_lst hs) ?_
  rintro σ H Q ⟨ρ, M, q, hE, hM, h, k⟩
  refine ⟨ρ, M, _, hE, hM, h, fun ds M1 vs H1 hl s1 r1 m1 q1 => ⟨by rw [← r1.length, hl]; exact le1000 hn, fun p hp => ?_⟩⟩
  exact k (.lst p) _ _ _ (s1.trans (step_newL m1 hp)) rfl (m1.newL hp r1 (by rw [hl]; exact le1000 hn)) (q1 p (m1.free hp))
theorem star_tail {e : Expr} {es : List Expr} {env : Env} (h : starEach (e :: es) env = (e :: es).map fun e => (false, eval e env)) : starEach es env = es.map fun e => (false, eval e env) := by
  have := congrArg List.tail h
  cases e <;> simpa [starEach] using this
theorem star_head {e : Expr} {es : List Expr} {env : Env} (h : starEach (e :: es) env = (e :: es).map fun e => (false, eval e env)) : starEach (e :: es) env = (false, eval e env) :: starEach es env := by
  rw [star_tail h, h]; rfl
theorem star_any {es : List Expr} {env : Env} {pos : Pos} (h : starEach es env = es.map fun e => (false, eval e env)) : (backTo pos (starEach es env)).any (·.1) = false := by
  rw [h]; simp [backTo]
variable {x : Str} {p : Pos} {f : Addr} {fd : FuncData} {ps : List Str} {k : Nat} {pG : List D → Mem → K1 → Prop}
theorem s_call (F : FnOk X.prog X.w X.K X.mg X.base CX0 k f fd ps (LSp X.K n pG)) (hr : Room k X.A) (hg : Gl X x) (hm : X.mg x = some (.ref f))
    (hk : PySem.W.keepIn X.K (.ref f) = true) (hb : Binds X.K fd ps []) (hs : PA X (e :: es) (LA X.K n ws)) (hdb : (x == ("__debug__" : Str)) = false) (hst : starEach (e :: es) X.env = (e :: es).map fun e => (false, eval e X.env)) :
    PE X (.Call (.Name x p) (e :: es) [] pos) (LE X.K fun ρ M q => ws ρ M fun ds M1 => pG ds M1 q) := by
  refine pe_imp (pe_call F hr hg hm hk hb .nil pass0 hs hdb (star_head hst) (star_any (star_tail hst))) ?_
  rintro σ H Q ⟨ρ, M, q, hE, hM, h, k⟩
  refine ⟨ρ, M, _, hE, hM, h, fun ds M1 vs H1 hl s1 r1 m1 q1 => ?_⟩
  show LSp X.K n pG (vs ++ []) H1 Q E0
  rw [List.append_nil]
  exact ⟨by rw [← r1.length, hl], ds, M1, q, r1, m1, q1, fun d M' v H' s => k d M' v H' (s1.trans s)⟩
theorem s_call0 (F : FnOk X.prog X.w X.K X.mg X.base CX0 k f fd ps (LSp X.K 0 pG)) (hr : Room k X.A) (hg : Gl X x) (hm : X.mg x = some (.ref f))
    (hk : PySem.W.keepIn X.K (.ref f) = true) (hb : Binds X.K fd ps []) (hdb : (x == ("__debug__" : Str)) = false) :
    PE X (.Call (.Name x p) [] [] pos) (LE X.K fun ρ M q => pG [] M q) := by
  refine pe_imp (pe_call0 F hr hg hm hk hb .nil pass0 hdb) ?_
  rintro σ H Q ⟨ρ, M, q, hE, hM, h, k⟩
  exact ⟨rfl, [], M, q, rfl, hM, h, k⟩
/-- what a built-in's name gives -/
theorem s_bfn {id : String} {b : Bf} (hc : CallR X (.builtin id) (LC X.K (bfW b))) (hg : Gl X x) (hm : X.mg x = none) (hv : bootBuiltins x = some (.builtin id)) (hn : x ≠ "__name__") (hdb : (x == ("__debug__" : Str)) = false)
    (ha : PE X a (LE X.K wa)) (hst : starEach [a] X.env = [(false, eval a X.env)]) :
    PE X (.Call (.Name x p) [a] [] pos) (LE X.K fun ρ M q => wa ρ M fun d M1 => bfW b [d] M1 q) := by
  refine pe_imp (pe_callB hc hg hm hv (pa_cons ha pa_nil hst) hn hdb hst rfl) ?_
  rintro σ H Q ⟨ρ, M, q, hE, hM, h, k⟩
  refine ⟨ρ, M, _, hE, hM, h, fun d1 M1 v1 H1 s1 r1 m1 q1 => ?_⟩
  exact ⟨[d1], M1, q, RepL.single r1, m1, q1, fun d M' v H' s => k d M' v H' (s1.trans s)⟩
theorem s_bfnT {T : String} {b : Bf} (hc : CallR X (.type T) (LC X.K (bfW b))) (hg : Gl X x) (hm : X.mg x = none) (hv : bootBuiltins x = some (.type T)) (hn : x ≠ "__name__") (hdb : (x == ("__debug__" : Str)) = false)
    (ha : PE X a (LE X.K wa)) (hst : starEach [a] X.env = [(false, eval a X.env)]) :
    PE X (.Call (.Name x p) [a] [] pos) (LE X.K fun ρ M q => wa ρ M fun d M1 => bfW b [d] M1 q) := by
  refine pe_imp (pe_callTy hc hg hm hv (pa_cons ha pa_nil hst) hn hdb hst rfl) ?_
  rintro σ H Q ⟨ρ, M, q, hE, hM, h, k⟩
  refine ⟨ρ, M, _, hE, hM, h, fun d1 M1 v1 H1 s1 r1 m1 q1 => ?_⟩
  exact ⟨[d1], M1, q, RepL.single r1, m1, q1, fun d M' v H' s => k d M' v H' (s1.trans s)⟩
theorem s_isT {y : Str} {py : Pos} {t : Ty} (hg : Gl X x) (hm : X.mg x = none) (hv : bootBuiltins x = some (.builtin "isinstance")) (hn : x ≠ "__name__") (hdb : (x == ("__debug__" : Str)) = false)
    (hg2 : Gl X y) (hm2 : X.mg y = none) (hv2 : bootBuiltins y = some (.type t.nm)) (hn2 : y ≠ "__name__") (hdb2 : (y == ("__debug__" : Str)) = false)
    (ha : PE X a (LE X.K wa)) (hst : starEach [a, .Name y py] X.env = [(false, eval a X.env), (false, eval (.Name y py) X.env)]) :
    PE X (.Call (.Name x p) [a, .Name y py] [] pos) (LE X.K fun ρ M q => wa ρ M fun d M1 => bfW (.isT t) [d] M1 q) := by
  refine pe_imp (pe_callB (bf_isT t) hg hm hv (pa_cons ha (pa_cons (pe_bltn hg2 hm2 hv2 (v := .ty t.nm) rfl hn2 hdb2) pa_nil rfl) (by rw [hst]; rfl)) hn hdb (by rw [hst]; rfl) rfl) ?_
  rintro σ H Q ⟨ρ, M, q, hE, hM, h, k⟩
  refine ⟨ρ, M, _, hE, hM, h, fun d1 M1 v1 H1 s1 r1 m1 q1 => ?_⟩
  exact ⟨v1, rfl, [d1], M1, q, RepL.single r1, m1, q1, fun d M' v H' s => k d M' v H' (s1.trans s)⟩
/-! ### subscripts -/
theorem s_ix (hs : PlainIx b) (ha : PE X a (LE X.K wa)) (hb : PE X b (LE X.K wb)) : PE X (.Subscript a b pos) (LE X.K fun ρ M q => wa ρ M fun x M1 => wb ρ M1 fun y M2 => ixW x y M2 q) := by
  refine pe_imp (pe_ix ix_ok ha hb hs) ?_
  rintro σ H Q ⟨ρ, M, q, hE, hM, h, k⟩
  refine ⟨ρ, M, _, hE, hM, h, fun d1 M1 v1 H1 s1 r1 m1 q1 => ⟨ρ, M1, _, hE.keep s1.keep, m1, q1, fun d2 M2 v2 H2 s2 r2 m2 q2 => ?_⟩⟩
  exact ⟨d1, d2, M2, q, r1.keep s2.keep, r2, m2, q2, fun d M' v H' s => k d M' v H' ((s1.trans s2).trans s)⟩
def LO (K : PySem.W.Frag) (w : En → Mem → (Option Int → Mem → Prop) → Prop) : TO := fun σ H Q => ∃ ρ M q, RepE K H ρ σ ∧ RepM K H M ∧ w ρ M q ∧ ∀ o M' H', Step M H M' H' → RepM K H' M' → q o M' → Q o H'
theorem po_imp {o : Option Expr} {t t' : TO} (h : PO X o t) (f : ∀ σ H Q, t' σ H Q → t σ H Q) : PO X o t' := ⟨fun pins s σ H Q I hw => h.run pins s σ H Q I (f σ H Q hw)⟩
theorem o_no : PO X none (LO X.K fun ρ M k => k none M) := by
  refine po_imp po_none ?_
  rintro σ H Q ⟨ρ, M, q, hE, hM, h, k⟩
  exact k none M H .refl hM h
theorem o_yes (ha : PE X a (LE X.K wa)) : PO X (some a) (LO X.K fun ρ M k => wa ρ M fun d M1 => ∃ i, d = .int i ∧ k (some i) M1) := by
  refine po_imp (po_some ha) ?_
  rintro σ H Q ⟨ρ, M, q, hE, hM, h, k⟩
  refine ⟨ρ, M, _, hE, hM, h, fun d1 M1 v1 H1 s1 r1 m1 ⟨i, e, q1⟩ => ?_⟩
  subst e
  cases r1
  exact ⟨i, rfl, k _ M1 H1 s1 m1 q1⟩
theorem s_sl {lo hi : Option Expr} {wl wh : En → Mem → (Option Int → Mem → Prop) → Prop} {p2 : Pos} (ha : PE X a (LE X.K wa)) (hl : PO X lo (LO X.K wl)) (hh : PO X hi (LO X.K wh)) :
    PE X (.Subscript a (.Slice lo hi none p2) pos) (LE X.K fun ρ M q => wa ρ M fun x M1 => wl ρ M1 fun l M2 => wh ρ M2 fun h M3 => slW x l h M3 q) := by
  refine pe_imp (pe_slice sl_ok ha hl hh) ?_
  rintro σ H Q ⟨ρ, M, q, hE, hM, h, k⟩
  refine ⟨ρ, M, _, hE, hM, h, fun d1 M1 v1 H1 s1 r1 m1 q1 => ⟨ρ, M1, _, hE.keep s1.keep, m1, q1, fun l M2 H2 s2 m2 q2 => ⟨ρ, M2, _, (hE.keep s1.keep).keep s2.keep, m2, q2, fun u M3 H3 s3 m3 q3 => ?_⟩⟩⟩
  exact ⟨d1, M3, q, (r1.keep s2.keep).keep s3.keep, m3, q3, fun d M' v H' s => k d M' v H' (((s1.trans s2).trans s3).trans s)⟩
/-! ### methods of lists -/
/-- the receiver is a list that is known -/
theorem s_mth {m : Mf} {name : Str} {id : String} {o : Expr} {wo : En → Mem → K1 → Prop} {apos : Pos} (pa : PlainAttrs "list") (slot : Slot "list" name id) (hty : typeOf (.builtin id) = pure (.type "method_descriptor")) (hm : MtR X id (LM X.K (mthW m)))
    (ho : PE X o (LE X.K wo)) (hs : PA X (e :: es) (LA X.K n ws)) (hst : starEach (e :: es) X.env = (e :: es).map fun e => (false, eval e X.env)) (hbase : attributeBase o name X.env (eval o X.env) = eval o X.env)
    (hline : (apos.endLine == pos.line) = true) (hlen : (e :: es).length < 29) :
    PE X (.Call (.Attribute o name apos) (e :: es) [] pos) (LE X.K fun ρ M q => wo ρ M fun x M1 => (∃ a ds, x = .lst a ∧ M1 a = some ds) ∧ ws ρ M1 fun ds M2 => mthW m x ds M2 q) := by
  refine pe_imp (pe_bm pa slot hty hm ho hs hbase ?_ hline (star_head hst) (star_any (star_tail hst))) ?_
  · rw [hst]
    simp only [Bool.and_eq_true, decide_eq_true_eq, List.all_eq_true]
    refine ⟨⟨fun z hz => ?_, fun z hz => ?_⟩, ?_⟩
    · simp only [backTo, List.map_map, List.mem_map] at hz
      obtain ⟨y, _, rfl⟩ := hz
      rfl
    · simp [backToKw, keywordEach] at hz
    · simp only [List.length_nil, List.isEmpty_nil, if_true]
      omega
  · rintro σ H Q ⟨ρ, M, q, hE, hM, h, k⟩
    refine ⟨ρ, M, _, hE, hM, h, fun d1 M1 v1 H1 s1 r1 m1 ⟨⟨a, ds, e1, e2⟩, q1⟩ => ⟨?_, ?_⟩⟩
    · subst e1
      cases r1
      obtain ⟨xs, hx, _⟩ := m1 a ds e2
      exact Or.inl ⟨rfl, xs, SqL.of hx⟩
    · refine ⟨ρ, M1, _, hE.keep s1.keep, m1, q1, fun ds2 M2 vs H2 hl s2 r2 m2 q2 => ?_⟩
      exact ⟨d1, ds2, M2, q, r1.keep s2.keep, r2, m2, q2, fun d M' v H' s => k d M' v H' ((s1.trans s2).trans s)⟩
theorem s_mth0 {m : Mf} {name : Str} {id : String} {o : Expr} {wo : En → Mem → K1 → Prop} {apos : Pos} (pa : PlainAttrs "list") (slot : Slot "list" name id) (hty : typeOf (.builtin id) = pure (.type "method_descriptor")) (hm : MtR X id (LM X.K (mthW m)))
    (ho : PE X o (LE X.K wo)) (hbase : attributeBase o name X.env (eval o X.env) = eval o X.env) (hline : (apos.endLine == pos.line) = true) :
    PE X (.Call (.Attribute o name apos) [] [] pos) (LE X.K fun ρ M q => wo ρ M fun x M1 => (∃ a ds, x = .lst a ∧ M1 a = some ds) ∧ mthW m x [] M1 q) := by
  refine pe_imp (pe_bm0 pa slot hty hm ho hbase hline) ?_
  rintro σ H Q ⟨ρ, M, q, hE, hM, h, k⟩
  refine ⟨ρ, M, _, hE, hM, h, fun d1 M1 v1 H1 s1 r1 m1 ⟨⟨a, ds, e1, e2⟩, q1⟩ => ⟨?_, ?_⟩⟩
  · subst e1
    cases r1
    obtain ⟨xs, hx, _⟩ := m1 a ds e2
    exact Or.inl ⟨rfl, xs, SqL.of hx⟩
  · exact ⟨d1, [], M1, q, r1, rfl, m1, q1, fun d M' v H' s => k d M' v H' (s1.trans s)⟩
/-! ### what is walked -/
variable {tg e2 : Expr} {w2 : En → Mem → K1 → Prop}
theorem i_rng1 (hg : Gl X "range") (hm : X.mg "range" = none) (ha : PE X a (LE X.K wa)) (hst : starEach [a] X.env = [(false, eval a X.env)]) :
    PI X tg (.Call (.Name "range" p) [a] [] pos) (LI X.K fun ρ M R => wa ρ M fun d M1 => rng1W d M1 R) := by
  refine pi_imp (pi_range1 hg hm (pa_cons ha pa_nil hst) hst) ?_
  rintro σ H R ⟨ρ, M, r, hE, hM, h, k⟩
  refine ⟨ρ, M, _, hE, hM, h, fun d1 M1 v1 H1 s1 r1 m1 q1 => ?_⟩
  cases d1 with
  | int j => cases r1; exact ⟨j, rfl, q1.1, q1.2.1, k _ _ M1 _ H1 s1 m1 wk_rng q1.2.2⟩
  | _ => exact q1.elim
theorem i_rng2 (hg : Gl X "range") (hm : X.mg "range" = none) (ha : PE X a (LE X.K wa)) (hb : PE X b (LE X.K wb)) (hst : starEach [a, b] X.env = [(false, eval a X.env), (false, eval b X.env)]) (hst2 : starEach [b] X.env = [(false, eval b X.env)]) :
    PI X tg (.Call (.Name "range" p) [a, b] [] pos) (LI X.K fun ρ M R => wa ρ M fun d M1 => wb ρ M1 fun e M2 => rng2W d e M2 R) := by
  refine pi_imp (pi_range2 hg hm (pa_cons ha (pa_cons hb pa_nil hst2) (by rw [hst, hst2])) hst hst2) ?_
  rintro σ H R ⟨ρ, M, r, hE, hM, h, k⟩
  refine ⟨ρ, M, _, hE, hM, h, fun d1 M1 v1 H1 s1 r1 m1 q1 => ⟨ρ, M1, _, hE.keep s1.keep, m1, q1, fun d2 M2 v2 H2 s2 r2 m2 q2 => ?_⟩⟩
  cases d1 with
  | int i =>
    cases d2 with
    | int j => cases r1; cases r2; exact ⟨i, j, rfl, q2.1, k _ _ M2 _ H2 (s1.trans s2) m2 wk_rng q2.2⟩
    | _ => exact q2.elim
  | _ => exact q2.elim
variable {elts : List Expr} {kk : Nat} {tpos : Pos}
theorem i_enum (hg : Gl X "enumerate") (hm : X.mg "enumerate" = none) (ha : PE X a (LE X.K wa)) (hst : starEach [a] X.env = [(false, eval a X.env)]) :
    PI X (.Tuple elts kk tpos) (.Call (.Name "enumerate" p) [a] [] pos) (LI X.K fun ρ M R => wa ρ M fun d M1 => enumW d M1 R) := by
  refine pi_imp (pi_enum hg hm (pa_cons ha pa_nil hst) hst) ?_
  rintro σ H R ⟨ρ, M, r, hE, hM, h, k⟩
  refine ⟨ρ, M, _, hE, hM, h, fun d1 M1 v1 H1 s1 r1 m1 q1 => ?_⟩
  cases d1 with
  | lst a =>
    cases r1
    obtain ⟨ds, e, q1⟩ := q1
    obtain ⟨xs, hx, l, z⟩ := m1 _ _ e
    exact ⟨a, xs, rfl, SqL.of hx, k _ _ M1 _ H1 s1 m1 wk_enum (q1 z)⟩
  | _ => exact q1.elim
theorem i_zip (hg : Gl X "zip") (hm : X.mg "zip" = none) (ha : PE X a (LE X.K wa)) (hb : PE X b (LE X.K wb)) (hst : starEach [a, b] X.env = [(false, eval a X.env), (false, eval b X.env)]) (hst2 : starEach [b] X.env = [(false, eval b X.env)]) :
    PI X (.Tuple elts kk tpos) (.Call (.Name "zip" p) [a, b] [] pos) (LI X.K fun ρ M R => wa ρ M fun d M1 => wb ρ M1 fun e M2 => zipW d e M2 R) := by
  refine pi_imp (RZ.pi_zipA hg hm (pa_cons ha (pa_cons hb pa_nil hst2) (by rw [hst, hst2])) (by rw [hst, hst2]) (by rw [hst2]; rfl)) ?_
  rintro σ H R ⟨ρ, M, r, hE, hM, h, k⟩
  refine ⟨ρ, M, _, hE, hM, h, fun d1 M1 v1 H1 s1 r1 m1 q1 => ⟨ρ, M1, _, hE.keep s1.keep, m1, q1, fun d2 M2 v2 H2 s2 r2 m2 q2 => ?_⟩⟩
  unfold zipW at q2
  split at q2
  · obtain ⟨a, xs, rfl, h1, l1, z1⟩ := r1
    obtain ⟨b, ys, rfl, h2, l2, z2⟩ := r2
    have h1 := s2.keep.sqT h1
    have l1 := l1.keep s2.keep
    exact ⟨a, b, xs, ys, rfl, .inr ⟨h1, h2, k _ _ M2 _ H2 (s1.trans s2) m2 (wk_zipT h1 l1 h2 l2) (q2 z1 z2)⟩⟩
  · cases r1; cases r2
    obtain ⟨xs, ys, e1, e2, q2⟩ := q2
    obtain ⟨vs, h1, l1, z1⟩ := m2 _ _ e1
    obtain ⟨ws, h2, l2, z2⟩ := m2 _ _ e2
    exact ⟨_, _, vs, ws, rfl, .inl ⟨SqL.of h1, SqL.of h2, k _ _ M2 _ H2 (s1.trans s2) m2 wk_zipL (q2 z1 z2)⟩⟩
  · exact q2.elim
/-! ### targets -/
theorem g_nm {i : Nat} (hN : X.N.Nodup) (hi : X.N[i]? = some x) (hx : Loc X.env.scope x) (hf : X.fn x = true ∨ X.env.scope.names.lookup x = some .local) : PG X (.Name x pos) (LG X.K [i] fun d ρ M k => k (put ρ i d) M) := by
  refine pg_imp (pg_name hN hi hx hf) ?_
  rintro v σ H Q ⟨d, ρ, M, k, r, hE, hM, h, P⟩
  exact P (put ρ i d) M _ H (fun vs hv => wipe_set (hv i (by simp))) .refl (hE.put r) hM h
theorem gs_nil : PGs X [] (LGs X.K [] fun ds ρ M k => ds = [] ∧ k ρ M) := by
  refine pgs_imp pgs_nil ?_
  rintro vs σ H Q ⟨ds, ρ, M, k, r, hE, hM, ⟨rfl, h⟩, P⟩
  cases r
  exact ⟨rfl, P ρ M σ H (fun _ _ => rfl) .refl hE hM h⟩
theorem gs_cons {s1 s2 : List Nat} {wt : D → En → Mem → (En → Mem → Prop) → Prop} {wr : List D → En → Mem → (En → Mem → Prop) → Prop} (h1 : PG X e (LG X.K s1 wt)) (h2 : PGs X es (LGs X.K s2 wr))
    (hs : (assignEach (e :: es) X.env).map (·.2) = assign e X.env :: (assignEach es X.env).map (·.2)) :
    PGs X (e :: es) (LGs X.K (s1 ++ s2) fun ds ρ M k => ∃ d r, ds = d :: r ∧ wt d ρ M fun ρ' M' => wr r ρ' M' k) := by
  refine pgs_imp (pgs_cons h1 h2 hs) ?_
  rintro vs σ H Q ⟨ds, ρ, M, k, r, hE, hM, ⟨d, rr, rfl, h⟩, P⟩
  obtain ⟨v, vr, rfl, rd, rs⟩ := r
  refine ⟨v, vr, rfl, d, ρ, M, _, rd, hE, hM, h, fun ρ1 M1 σ1 H1 hw1 st1 e1 m1 q1 => ?_⟩
  refine ⟨rr, ρ1, M1, _, rs.keep st1.keep, e1, m1, q1, fun ρ2 M2 σ2 H2 hw2 st2 e2 m2 q2 => ?_⟩
  exact P ρ2 M2 σ2 H2 (fun vs hv => (hw2 vs fun i hi => hv i (List.mem_append_right _ hi)).trans (hw1 vs fun i hi => hv i (List.mem_append_left _ hi))) (st1.trans st2) e2 m2 q2
theorem g_tup {sl : List Nat} {wr : List D → En → Mem → (En → Mem → Prop) → Prop} {k0 : Nat} {nn : Nat} (hc : X.calm = true) (h : PGs X es (LGs X.K sl wr)) (hn : (assignEach es X.env).length = nn) (hst : (assignEach es X.env).findIdx? (·.1) = none) :
    PG X (.Tuple es k0 pos) (LG X.K sl fun d ρ M k => ∃ ds, d = .tup ds ∧ ds.length = nn ∧ wr ds ρ M k) := by
  refine pg_imp (pg_tup hc h hn hst) ?_
  rintro v σ H Q ⟨d, ρ, M, k, r, hE, hM, ⟨ds, rfl, hw, h⟩, P⟩
  obtain ⟨a, xs, rfl, hq, l, z⟩ := r
  exact ⟨a, xs, rfl, hq, by rw [← l.length]; exact hw, ds, ρ, M, k, l, hE, hM, h, P⟩
theorem g_ix {o i : Expr} {wo wi : En → Mem → K1 → Prop} (ho : PE X o (LE X.K wo)) (hi : PE X i (LE X.K wi)) (ha : ∀ v, assign (.Subscript o i pos) X.env v = (do
      let ov ← holding [v] (eval o X.env)
      let iv ← holding [v, ov] (eval i X.env)
      standAt pos
      holding [v, ov, iv] (setItem ov iv v)
      release [v, ov, iv] [])) : PG X (.Subscript o i pos) (LG X.K [] fun d ρ M k => wo ρ M fun x M1 => wi ρ M1 fun y M2 => setW x y d M2 fun M3 => k ρ M3) := by
  refine pg_imp (pg_sub ho hi set_ok ha) ?_
  rintro v σ H Q ⟨d, ρ, M, k, r, hE, hM, h, P⟩
  refine ⟨ρ, M, _, hE, hM, h, fun d1 M1 v1 H1 s1 r1 m1 q1 => ⟨ρ, M1, _, hE.keep s1.keep, m1, q1, fun d2 M2 v2 H2 s2 r2 m2 q2 => ?_⟩⟩
  refine ⟨d1, d2, d, M2, _, r1.keep s2.keep, r2, (r.keep s1.keep).keep s2.keep, m2, q2, fun M3 H3 s3 m3 q3 => ?_⟩
  exact P ρ M3 σ H3 (fun _ _ => rfl) ((s1.trans s2).trans s3) (((hE.keep s1.keep).keep s2.keep).keep s3.keep) m3 q3
end
end TB

namespace TB
open PySem PySem.Spec PyProof.Rows L2

/-! ### what a compiled expression's form is not -/
theorem cE_star {n : Nat} {C : Ct} {e : Expr} {ir : E} (h : cE n C e = some ir) : ∀ (es : List Expr) (env : Env), starEach (e :: es) env = (false, eval e env) :: starEach es env := by
  intro es env
  cases e <;> first | rfl | skip
  cases n <;> simp [cE] at h
theorem cE_plain {n : Nat} {C : Ct} {e : Expr} {ir : E} (h : cE n C e = some ir) : PlainIx e := by
  intro o i
  cases e <;> first | rfl | skip
  cases n <;> simp [cE] at h
theorem fold_of {e : Expr} (h : isSet e = false) (env : Env) : ∀ x, foldedSetIterable e env x = pure x := by
  intro x
  cases e <;> first | rfl | (simp [isSet] at h)
theorem behind_of {e : Expr} (op : CmpOp) (h : isSet e = false) : behindInMarks op e = false := by
  cases e <;> first | rfl | (simp [isSet] at h)
theorem last_of {b e : Expr} (o1 o2 : CmpOp) (h : isSet e = false) : lastMarks [o1, o2] [b, e] = false := by
  show behindInMarks o2 e = false
  exact behind_of o2 h
theorem cE_asg {n : Nat} {C : Ct} {t : Expr} {ir : T} (h : cT n C t = some ir) : ∀ (ts : List Expr) (env : Env), assignEach (t :: ts) env = (false, assign t env) :: assignEach ts env := by
  intro ts env
  cases t <;> first | rfl | skip
  cases n <;> simp [cT] at h
theorem base_of {o : Expr} {m : Str} {env : Env} (h : isCall0 o = false) : attributeBase o m env (eval o env) = eval o env := by
  cases o <;> first | rfl | skip
  rename_i f es kws pos
  cases f <;> first | rfl | skip
  cases es <;> first | rfl | skip
  cases kws <;> first | rfl | skip
  simp [isCall0] at h
theorem bop_eq {op : Operator} {o : Bin} (h : bopOf op = some o) : op = o.op := by cases op <;> simp [bopOf] at h <;> subst h <;> rfl
theorem cop_eq {op : CmpOp} {o : Cm} (h : copOf op = some o) : op = o.op := by cases op <;> simp [copOf] at h <;> subst h <;> rfl
theorem isB_of {C : Ct} {x : Str} (h : C.isB x = true) : C.sc.names.lookup x = some .globalImplicit ∧ C.fns.lookup x = none ∧ C.cs.lookup x = none ∧ x ∈ bnames := by
  unfold Ct.isB Ct.isGl at h
  simp only [Bool.and_eq_true, Option.isNone_iff_eq_none, List.contains_iff_mem] at h
  exact ⟨by simpa using h.1.1.1, h.1.1.2, h.1.2, h.2⟩

section
variable {Γ : Gam} {C : Ct} {X : Cx}
theorem Ok.gl (o : Ok Γ C X) {x : Str} (h : C.sc.names.lookup x = some .globalImplicit) : Gl X x := by
  show X.env.scope.names.lookup x = _
  rw [o.sc]; exact h
theorem Ok.mgB (o : Ok Γ C X) {x : Str} (h : C.isB x = true) : Gl X x ∧ X.mg x = none := by
  obtain ⟨h1, h2, h3, h4⟩ := isB_of h
  exact ⟨o.gl h1, o.bl x h4 h2 h3⟩
end

theorem boot_names : bootBuiltins "len" = some (.builtin "len") ∧ bootBuiltins "abs" = some (.builtin "abs") ∧ bootBuiltins "tuple" = some (.type "tuple") ∧ bootBuiltins "list" = some (.type "list") ∧ bootBuiltins "all" = some (.builtin "all") ∧
    bootBuiltins "any" = some (.builtin "any") ∧ bootBuiltins "int" = some (.type "int") ∧ bootBuiltins "sum" = some (.builtin "sum") ∧ bootBuiltins "isinstance" = some (.builtin "isinstance") ∧ bootBuiltins "bool" = some (.type "bool") ∧ bootBuiltins "str" = some (.type "str") := by
  refine ⟨?_, ?_, ?_, ?_, ?_, ?_, ?_, ?_, ?_, ?_, ?_⟩ <;> decide +kernel

/-! ### the soundness of the translation -/
structure CompOk (X : Cx) (elt : Expr) (tg it : Expr) (ifs : List Expr) (scope : Scope) (wi : En → Mem → KI → Prop) (wt : D → En → Mem → (En → Mem → Prop) → Prop) (wc : En → Mem → (Bool → Mem → Prop) → Prop) (we : En → Mem → K1 → Prop) (own : List (Str × Nat)) (sl : List Nat) : Prop where
  pi : PI X tg it (LI X.K wi)
  blk : BlkOk X.N X.env.scope scope own
  pg : ∀ (s : Shared) (H : Hp) (C : Addr) (cl : List (Str × Addr)) (fp : List Addr), PG (X.blk s H scope (compEnvC scope cl C X.env) fp) tg (LG X.K sl wt)
  pt : ∀ (s : Shared) (H : Hp) (C : Addr) (cl : List (Str × Addr)) (fp : List Addr), PTs (X.blk s H scope (compEnvC scope cl C X.env) fp) ifs (LCd X.K wc)
  pe : ∀ (s : Shared) (H : Hp) (C : Addr) (cl : List (Str × Addr)) (fp : List Addr), PE (X.blk s H scope (compEnvC scope cl C X.env) fp) elt (LE X.K we)
  fold : ∀ x, foldedSetIterable it X.env x = pure x
  sl : ∀ i ∈ sl, i ∈ own.map (·.2)
theorem CompOk.val {X : Cx} {elt tg it : Expr} {ifs : List Expr} {scope : Scope} {wi : En → Mem → KI → Prop} {wt : D → En → Mem → (En → Mem → Prop) → Prop} {wc : En → Mem → (Bool → Mem → Prop) → Prop} {we : En → Mem → K1 → Prop} {own : List (Str × Nat)} {sl : List Nat} {pos : Pos}
    (h : CompOk X elt tg it ifs scope wi wt wc we own sl) (hc : X.calm = true) (hN : X.N.Nodup) : PE X (.ListComp elt [⟨tg, it, ifs, 0⟩] scope pos) (LE X.K (compW wi wt wc we (own.map (·.2)))) :=
  pe_imp (pe_lc hc hN h.pi h.blk h.pg h.pt h.pe h.fold) fun σ H Q hh => tLc_of h.sl hh

structure Sd (Γ : Gam) (n : Nat) : Prop where
  e : ∀ C e ir, cE n C e = some ir → ∀ X, Ok Γ C X → PE X e (LE X.K (wpE Γ ir)) ∧ PT X e (LT X.K (wpE Γ ir))
  es : ∀ C es ir, cEs n C es = some ir → ∀ X, Ok Γ C X → PA X es (LA X.K ir.len (wpEs Γ ir)) ∧ starEach es X.env = es.map (fun e => (false, eval e X.env)) ∧ ir.len = es.length
  b : ∀ C op es ir, cB n C op es = some ir → ∀ X, Ok Γ C X → ∀ pos, PE X (.BoolOp op es pos) (LE X.K (wpE Γ ir)) ∧ PW X (.BoolOp op es pos) (LT X.K (wpE Γ ir))
  o : ∀ C o ir, cO n C o = some ir → ∀ X, Ok Γ C X → PO X o (LO X.K (wpO Γ ir))
  c : ∀ C ifs ir, cC n C ifs = some ir → ∀ X, Ok Γ C X → PTs X ifs (LCd X.K (wpC Γ ir))
  t : ∀ C t ir, cT n C t = some ir → ∀ X, Ok Γ C X → PG X t (LG X.K ir.slots (wpT Γ ir))
  ts : ∀ C ts ir, cTs n C ts = some ir → ∀ X, Ok Γ C X → PGs X ts (LGs X.K ir.slots (wpTs Γ ir)) ∧ (assignEach ts X.env).findIdx? (·.1) = none ∧ (assignEach ts X.env).length = ts.length ∧ ir.len = ts.length
  i : ∀ C tg it ir, cI n C tg it = some ir → ∀ X, Ok Γ C X → PI X tg it (LI X.K (wpI Γ ir)) ∧ (∀ x, foldedSetIterable it X.env x = pure x)
  cm : ∀ C elt gs scope pos ir, cE n C (.ListComp elt gs scope pos) = some ir → ∀ X, Ok Γ C X → ∃ tg it ifs wi wt wc we own sl, gs = [⟨tg, it, ifs, 0⟩] ∧ CompOk X elt tg it ifs scope wi wt wc we own sl ∧ (wpE Γ ir = compW wi wt wc we (own.map (·.2)))

theorem sd_zero {Γ : Gam} : Sd Γ 0 where
  e := fun C e ir h => by simp [cE] at h
  es := fun C e ir h => by simp [cEs] at h
  b := fun C op e ir h => by simp [cB] at h
  o := fun C e ir h => by simp [cO] at h
  c := fun C e ir h => by simp [cC] at h
  t := fun C e ir h => by simp [cT] at h
  ts := fun C e ir h => by simp [cTs] at h
  i := fun C t e ir h => by simp [cI] at h
  cm := fun C a b c d ir h => by simp [cE] at h

section
variable {Γ : Gam} {n : Nat}
theorem sd_es (ih : Sd Γ n) : ∀ C es ir, cEs (n + 1) C es = some ir → ∀ X, Ok Γ C X → PA X es (LA X.K ir.len (wpEs Γ ir)) ∧ starEach es X.env = es.map (fun e => (false, eval e X.env)) ∧ ir.len = es.length := by
  intro C es ir h X o
  cases es with
  | nil =>
    simp only [cEs, Option.some.injEq] at h
    subst h
    exact ⟨a_nil, rfl, rfl⟩
  | cons e es =>
    simp only [cEs, Option.bind_eq_bind, Option.bind_eq_some_iff, Option.some.injEq] at h
    obtain ⟨a, ha, r, hr, rfl⟩ := h
    obtain ⟨p1, _⟩ := ih.e C e a ha X o
    obtain ⟨p2, p3, p4⟩ := ih.es C es r hr X o
    have st := cE_star ha es X.env
    exact ⟨a_cons p1 p2 st, by rw [st, p3]; rfl, by simp [Es.len, p4]⟩
theorem sd_b (ih : Sd Γ n) : ∀ C op es ir, cB (n + 1) C op es = some ir → ∀ X, Ok Γ C X → ∀ pos, PE X (.BoolOp op es pos) (LE X.K (wpE Γ ir)) ∧ PW X (.BoolOp op es pos) (LT X.K (wpE Γ ir)) := by
  intro C op es ir h X o pos
  match es with
  | [] => simp [cB] at h
  | [e] =>
    simp only [cB] at h
    obtain ⟨p1, p2⟩ := ih.e C e ir h X o
    refine ⟨pe_one p1, ?_⟩
    cases op with
    | And => exact pw_and1 p2
    | Or => exact pw_or1 p2
  | e :: e2 :: es =>
    simp only [cB, Option.bind_eq_bind, Option.bind_eq_some_iff] at h
    obtain ⟨a, ha, r, hr, h⟩ := h
    obtain ⟨p1, p2⟩ := ih.e C e a ha X o
    obtain ⟨p3, p4⟩ := ih.b C op (e2 :: es) r hr X o pos
    cases op with
    | And =>
      simp only [Option.some.injEq] at h
      subst h
      exact ⟨s_and p1 p3, t_and p2 p4⟩
    | Or =>
      simp only [Option.some.injEq] at h
      subst h
      exact ⟨s_or p1 p3, t_or p2 p4⟩
theorem sd_o (ih : Sd Γ n) : ∀ C o ir, cO (n + 1) C o = some ir → ∀ X, Ok Γ C X → PO X o (LO X.K (wpO Γ ir)) := by
  intro C e ir h X o
  cases e with
  | none =>
    simp only [cO, Option.some.injEq] at h
    subst h
    exact o_no
  | some e =>
    simp only [cO, Option.map_eq_some_iff] at h
    obtain ⟨a, ha, rfl⟩ := h
    exact o_yes (ih.e C e a ha X o).1
theorem pts_imp {X : Cx} {ifs : List Expr} {t t' : TT} (h : PTs X ifs t) (f : ∀ σ H Q, t' σ H Q → t σ H Q) : PTs X ifs t' := ⟨fun pins s σ H Q I hw => h.run pins s σ H Q I (f σ H Q hw)⟩
theorem sd_c (ih : Sd Γ n) : ∀ C ifs ir, cC (n + 1) C ifs = some ir → ∀ X, Ok Γ C X → PTs X ifs (LCd X.K (wpC Γ ir)) := by
  intro C ifs ir h X o
  match ifs with
  | [] =>
    simp only [cC, Option.some.injEq] at h
    subst h
    refine pts_imp pts_nil ?_
    rintro σ H Q ⟨ρ, M, q, hE, hM, h, k⟩
    exact k true M H .refl hM h
  | [e] =>
    simp only [cC, Option.map_eq_some_iff] at h
    obtain ⟨a, ha, rfl⟩ := h
    refine pts_imp (pts_one (ih.e C e a ha X o).2) ?_
    rintro σ H Q ⟨ρ, M, q, hE, hM, h, k⟩
    exact ⟨ρ, M, _, hE, hM, h, fun d M' v H' s r m ⟨b, e, z⟩ => ⟨b, e, k b M' H' s m z⟩⟩
  | _ :: _ :: _ => simp [cC] at h
theorem sd_t (ih : Sd Γ n) : ∀ C t ir, cT (n + 1) C t = some ir → ∀ X, Ok Γ C X → PG X t (LG X.K ir.slots (wpT Γ ir)) := by
  intro C t ir h X o
  have nd : X.N.Nodup := by rw [o.hN]; exact o.nd
  cases t with
  | Name x pos =>
    simp only [cT] at h
    split at h
    · rename_i hl
      simp only [Option.map_eq_some_iff] at h
      obtain ⟨i, hi, rfl⟩ := h
      have hl' : X.env.scope.names.lookup x = some .local := by rw [o.sc]; exact hl
      exact g_nm nd (by rw [o.hN]; exact findIx_get hi) (.inl hl') (.inr hl')
    · rename_i hl
      split at h
      · rename_i hf
        simp only [Option.map_eq_some_iff] at h
        obtain ⟨i, hi, rfl⟩ := h
        have hl' : X.env.scope.names.lookup x = some .cell := by rw [o.sc]; exact hl
        exact g_nm nd (by rw [o.hN]; exact findIx_get hi) (.inr hl') (.inl (o.fn x hf))
      · cases h
    · cases h
  | Tuple ts k pos =>
    simp only [cT, Option.map_eq_some_iff] at h
    obtain ⟨a, ha, rfl⟩ := h
    obtain ⟨p1, p2, p3, p4⟩ := ih.ts C ts a ha X o
    exact g_tup o.calm p1 (p3.trans p4.symm) p2
  | Subscript a i pos =>
    simp only [cT] at h
    split at h
    · cases h
    · rename_i hs
      simp only [Option.bind_eq_bind, Option.bind_eq_some_iff, Option.some.injEq] at h
      obtain ⟨a', ha, i', hi, rfl⟩ := h
      exact g_ix (ih.e C a a' ha X o).1 (ih.e C i i' hi X o).1 (by intro _; cases i <;> first | rfl | (simp [isSlice] at hs))
  | _ => simp [cT] at h
theorem sd_ts (ih : Sd Γ n) : ∀ C ts ir, cTs (n + 1) C ts = some ir → ∀ X, Ok Γ C X → PGs X ts (LGs X.K ir.slots (wpTs Γ ir)) ∧ (assignEach ts X.env).findIdx? (·.1) = none ∧ (assignEach ts X.env).length = ts.length ∧ ir.len = ts.length := by
  intro C ts ir h X o
  cases ts with
  | nil =>
    simp only [cTs, Option.some.injEq] at h
    subst h
    exact ⟨gs_nil, rfl, rfl, rfl⟩
  | cons t ts =>
    simp only [cTs, Option.bind_eq_bind, Option.bind_eq_some_iff, Option.some.injEq] at h
    obtain ⟨a, ha, r, hr, rfl⟩ := h
    have p1 := ih.t C t a ha X o
    obtain ⟨p2, p3, p4, p5⟩ := ih.ts C ts r hr X o
    have st := cE_asg ha ts X.env
    exact ⟨gs_cons p1 p2 (by rw [st]; rfl), by rw [st, List.findIdx?_cons, p3]; rfl, by rw [st]; simp [p4], by simp [Ts.len, p5]⟩
theorem sd_i (ih : Sd Γ n) : ∀ C tg it ir, cI (n + 1) C tg it = some ir → ∀ X, Ok Γ C X → PI X tg it (LI X.K (wpI Γ ir)) ∧ (∀ x, foldedSetIterable it X.env x = pure x) := by
  intro C tg it ir h X o
  have plain : ∀ {e : Expr} {ir : I}, isSet e = false → (cE n C e).map I.seq = some ir → PI X tg e (LI X.K (wpI Γ ir)) ∧ (∀ x, foldedSetIterable e X.env x = pure x) := fun {e ir} hs h => by
    simp only [Option.map_eq_some_iff] at h
    obtain ⟨a, ha, rfl⟩ := h
    exact ⟨pi_seqE (ih.e C e a ha X o).1, fold_of hs X.env⟩
  unfold cI at h
  split at h
  · rename_i x p es q
    split at h
    · rename_i hB
      obtain ⟨hg, hm⟩ := o.mgB hB
      refine ⟨?_, fold_of rfl X.env⟩
      split at h
      · rename_i ex
        subst ex
        split at h
        · simp only [Option.map_eq_some_iff] at h
          obtain ⟨a, ha, rfl⟩ := h
          exact i_rng1 hg hm (ih.e C _ a ha X o).1 (cE_star ha [] X.env)
        · simp only [Option.bind_eq_bind, Option.bind_eq_some_iff, Option.some.injEq] at h
          obtain ⟨a, ha, b, hb, rfl⟩ := h
          exact i_rng2 hg hm (ih.e C _ a ha X o).1 (ih.e C _ b hb X o).1 (by rw [cE_star ha, cE_star hb]; rfl) (cE_star hb [] X.env)
        · cases h
      · split at h
        · rename_i _ ex
          subst ex
          split at h
          · rename_i ht
            cases tg <;> first | (simp [isTupE] at ht; done) | skip
            split at h
            · simp only [Option.map_eq_some_iff] at h
              obtain ⟨a, ha, rfl⟩ := h
              exact i_enum hg hm (ih.e C _ a ha X o).1 (cE_star ha [] X.env)
            · cases h
          · cases h
        · split at h
          · rename_i _ _ ex
            subst ex
            split at h
            · rename_i ht
              cases tg <;> first | (simp [isTupE] at ht; done) | skip
              split at h
              · simp only [Option.bind_eq_bind, Option.bind_eq_some_iff, Option.some.injEq] at h
                obtain ⟨a, ha, b, hb, rfl⟩ := h
                exact i_zip hg hm (ih.e C _ a ha X o).1 (ih.e C _ b hb X o).1 (by rw [cE_star ha, cE_star hb]; rfl) (cE_star hb [] X.env)
              · cases h
            · cases h
          · exact (plain rfl h).1
    · exact plain rfl h
  · split at h
    · cases h
    · rename_i hs
      exact plain (by simpa using hs) h
theorem sd_cm (ih : Sd Γ n) : ∀ C elt gs scope pos ir, cE (n + 1) C (.ListComp elt gs scope pos) = some ir → ∀ X, Ok Γ C X → ∃ tg it ifs wi wt wc we own sl, gs = [⟨tg, it, ifs, 0⟩] ∧ CompOk X elt tg it ifs scope wi wt wc we own sl ∧ (wpE Γ ir = compW wi wt wc we (own.map (·.2))) := by
  intro C elt gs scope pos ir h X o
  simp only [cE] at h
  split at h
  · rename_i tg it ifs asy
    split at h
    · rename_i hc
      obtain ⟨rfl, hb⟩ := hc
      simp only [Option.bind_eq_bind, Option.bind_eq_some_iff] at h
      obtain ⟨i, hi, t, ht, c, hcc, e, he, h⟩ := h
      split at h
      · rename_i hsl
        simp only [Option.some.injEq] at h
        subst h
        obtain ⟨p1, p2⟩ := ih.i C tg it i hi X o
        refine ⟨tg, it, ifs, wpI Γ i, wpT Γ t, wpC Γ c, wpE Γ e, ownOf C.N scope.names, t.slots, rfl, ⟨p1, ?_, ?_, ?_, ?_, p2, ?_⟩, rfl⟩
        · rw [o.hN, o.sc]; exact blkOk_by hb
        · intro s H A cl fp
          exact ih.t _ tg t ht _ (o.blk scope s H cl A fp)
        · intro s H A cl fp
          exact ih.c _ ifs c hcc _ (o.blk scope s H cl A fp)
        · intro s H A cl fp
          exact (ih.e _ elt e he _ (o.blk scope s H cl A fp)).1
        · intro j hj
          have := List.all_eq_true.mp hsl j hj
          simpa [List.contains_iff_mem] using this
      · cases h
    · cases h
  · cases h
end
end TB

namespace TB
open PySem PySem.Spec PyProof.Rows L2

section
variable {Γ : Gam} {n : Nat}
theorem both {X : Cx} {e : Expr} {w : En → Mem → K1 → Prop} (h : PE X e (LE X.K w)) (he : ∀ whole, isTrue e X.env whole = (do let v ← whole; standAt e.pos; holding [v] (truthy v))) : PE X e (LE X.K w) ∧ PT X e (LT X.K w) := ⟨h, t_any h he⟩
theorem s_cst {X : Cx} {e : Expr} {d : D} {v : V} (h : PE X e (tC v)) (r : ∀ H, Rep X.K H d v) : PE X e (LE X.K fun ρ M q => q d M) := by
  refine pe_imp h ?_
  rintro σ H Q ⟨ρ, M, q, hE, hM, h, k⟩
  exact k d M v H .refl (r H) hM h
theorem s_var {X : Cx} {e : Expr} {i : Nat} (h : PE X e (tVar i)) : PE X e (LE X.K fun ρ M q => ∃ d, get ρ i = some d ∧ q d M) := by
  refine pe_imp h ?_
  rintro σ H Q ⟨ρ, M, q, hE, hM, ⟨d, e, h⟩, k⟩
  obtain ⟨v, h1, r⟩ := hE.2 i d e
  exact ⟨v, h1, k d M v H .refl r hM h⟩
theorem e_name (ih : Sd Γ n) : ∀ C x pos ir, cE (n + 1) C (.Name x pos) = some ir → ∀ X, Ok Γ C X → PE X (.Name x pos) (LE X.K (wpE Γ ir)) := by
  intro C x pos ir h X o
  simp only [cE] at h
  split at h
  · cases h
  · rename_i hd
    simp only [Bool.or_eq_true, not_or, Bool.not_eq_true] at hd
    have var : ∀ {k : NameKind}, C.sc.names.lookup x = some k → (k = .local ∨ k = .cell ∨ k = .free) → Option.map E.var (findIx C.N x) = some ir → PE X (.Name x pos) (LE X.K (wpE Γ ir)) := fun {k} hl hk h => by
      simp only [Option.map_eq_some_iff] at h
      obtain ⟨i, hi, rfl⟩ := h
      have hl' : X.env.scope.names.lookup x = some k := by rw [o.sc]; exact hl
      refine s_var (pe_var (by rw [o.hN]; exact findIx_get hi) ?_ hd.1 hd.2)
      rcases hk with rfl | rfl | rfl
      · exact .inl hl'
      · exact .inr (.inl hl')
      · exact .inr (.inr hl')
    split at h
    · rename_i hl; exact var hl (.inl rfl) h
    · rename_i hl; exact var hl (.inr (.inl rfl)) h
    · rename_i hl; exact var hl (.inr (.inr rfl)) h
    · rename_i hl
      simp only [Option.map_eq_some_iff] at h
      obtain ⟨d, hdd, rfl⟩ := h
      obtain ⟨u, v, h1, h2, h3⟩ := o.cs x d hdd
      exact s_cst (pe_glob (o.gl hl) h1 h2 hd.1) h3
    · cases h
theorem mf_spec {X : Cx} {m : Str} {k : Nat} {m' : Mf} (h : mfOf m k = some m') : ∃ id, Slot "list" m id ∧ typeOf (.builtin id) = pure (.type "method_descriptor") ∧ MtR X id (LM X.K (mthW m')) := by
  unfold mfOf at h
  split at h
  · rename_i e; subst e; cases h; exact ⟨_, PySem.F.slot_list_append, PySem.F.type_list_append, m_append⟩
  · split at h
    · rename_i e; subst e; cases h; exact ⟨_, PySem.F.slot_list_insert, PySem.F.type_list_insert, m_insert⟩
    · split at h
      · rename_i e
        subst e
        split at h
        · cases h; exact ⟨_, PySem.F.slot_list_pop, PySem.F.type_list_pop, m_pop⟩
        · cases h; exact ⟨_, PySem.F.slot_list_pop, PySem.F.type_list_pop, m_popAt⟩
      · split at h
        · rename_i e; subst e; cases h; exact ⟨_, PySem.F.slot_list_extend, PySem.F.type_list_extend, m_extend⟩
        · cases h
theorem e_call (ih : Sd Γ n) : ∀ C f es kws pos ir, cE (n + 1) C (.Call f es kws pos) = some ir → ∀ X, Ok Γ C X → PE X (.Call f es kws pos) (LE X.K (wpE Γ ir)) := by
  intro C f es kws pos ir h X o
  simp only [cE] at h
  split at h
  · cases h
  · split at h
    · rename_i x p
      split at h
      · cases h
      · rename_i hd
        simp only [Bool.or_eq_true, not_or, Bool.not_eq_true] at hd
        split at h
        · rename_i hgl
          have hgl' : C.sc.names.lookup x = some .globalImplicit := by simpa [Ct.isGl] using hgl
          split at h
          · rename_i g ar hf
            split at h
            · rename_i hlen
              have hlen : es.length = ar := by simpa using hlen
              simp only [Option.map_eq_some_iff] at h
              obtain ⟨irs, hr, rfl⟩ := h
              obtain ⟨f, fd, ps, k, a1, a2, a3, a4, a5, a6⟩ := o.fns x g ar hf
              obtain ⟨p1, p2, p3⟩ := ih.es C es irs hr X o
              cases es with
              | nil =>
                have e0 : irs = .nil := by cases irs with | nil => rfl | cons _ _ => simp [Es.len] at p3
                subst e0
                have e1 : ar = 0 := hlen.symm
                subst e1
                exact s_call0 a3 a5 (o.gl hgl') a1 a2 a4 hd.1
              | cons e0 es0 =>
                rw [p3, hlen] at p1
                exact s_call a3 a5 (o.gl hgl') a1 a2 a4 p1 hd.1 p2
            · cases h
          · split at h
            · rename_i hB
              obtain ⟨hg, hm⟩ := o.mgB hB
              have hn : x ≠ "__name__" := by
                have := hd.2
                intro e; subst e; simp at this
              have bn := boot_names
              split at h
              · rename_i ex
                subst ex
                split at h
                · rename_i a t pt
                  split at h
                  · rename_i hBt
                    simp only [Option.bind_eq_bind, Option.bind_eq_some_iff, Option.some.injEq] at h
                    obtain ⟨a', ha, t', ht, rfl⟩ := h
                    obtain ⟨hg2, hm2⟩ := o.mgB hBt
                    have key : bootBuiltins t = some (.type t'.nm) ∧ t ≠ "__name__" ∧ (t == ("__debug__" : Str)) = false := by
                      unfold tyOf at ht
                      repeat' split at ht
                      all_goals first | (cases ht; done) | skip
                      all_goals (rename_i et; subst et; cases ht)
                      · exact ⟨bn.2.2.2.2.2.2.1, by decide, by decide⟩
                      · exact ⟨bn.2.2.2.2.2.2.2.2.2.1, by decide, by decide⟩
                      · exact ⟨bn.2.2.2.2.2.2.2.2.2.2, by decide, by decide⟩
                      · exact ⟨bn.2.2.1, by decide, by decide⟩
                      · exact ⟨bn.2.2.2.1, by decide, by decide⟩
                    exact s_isT hg hm bn.2.2.2.2.2.2.2.2.1 hn hd.1 hg2 hm2 key.1 key.2.1 key.2.2 (ih.e C a a' ha X o).1 (by rw [cE_star ha]; rfl)
                  · cases h
                · cases h
              · split at h
                · rename_i a
                  simp only [Option.bind_eq_bind, Option.bind_eq_some_iff, Option.some.injEq] at h
                  obtain ⟨a', ha, b, hb, rfl⟩ := h
                  have pa := (ih.e C a a' ha X o).1
                  have st := cE_star ha [] X.env
                  unfold bfOf at hb
                  repeat' split at hb
                  all_goals first | (cases hb; done) | skip
                  all_goals (rename_i ex; subst ex; cases hb)
                  · exact s_bfn bf_len hg hm bn.1 hn hd.1 pa st
                  · exact s_bfn bf_abs hg hm bn.2.1 hn hd.1 pa st
                  · exact s_bfnT bf_tuple hg hm bn.2.2.1 hn hd.1 pa st
                  · exact s_bfnT bf_list hg hm bn.2.2.2.1 hn hd.1 pa st
                  · exact s_bfn (bf_all o.calm) hg hm bn.2.2.2.2.1 hn hd.1 pa st
                  · exact s_bfn (bf_any o.calm) hg hm bn.2.2.2.2.2.1 hn hd.1 pa st
                  · exact s_bfnT bf_int hg hm bn.2.2.2.2.2.2.1 hn hd.1 pa st
                  · exact s_bfn (bf_sum o.calm) hg hm bn.2.2.2.2.2.2.2.1 hn hd.1 pa st
                · cases h
            · cases h
        · cases h
    · rename_i ob m ap
      split at h
      · cases h
      · rename_i hc
        simp only [Bool.or_eq_true, not_or, Bool.not_eq_true, Bool.not_eq_true', Bool.not_eq_false, Bool.not_eq_eq_eq_not, Bool.not_true, decide_eq_false_iff_not, Decidable.not_not] at hc
        obtain ⟨⟨hc0, hline⟩, hlen⟩ := hc
        simp only [Option.bind_eq_bind, Option.bind_eq_some_iff, Option.some.injEq] at h
        obtain ⟨o', ho, m', hm, irs, hr, rfl⟩ := h
        obtain ⟨p1, p2, p3⟩ := ih.es C es irs hr X o
        have po := (ih.e C ob o' ho X o).1
        have hb := base_of (m := m) (env := X.env) hc0
        have hline' : (ap.endLine == pos.line) = true := by simpa using hline
        obtain ⟨id, sl, ty, mr⟩ := mf_spec (X := X) hm
        cases es with
        | nil =>
          have e0 : irs = .nil := by cases irs with | nil => rfl | cons _ _ => simp [Es.len] at p3
          subst e0
          exact s_mth0 PySem.F.plainAttrs_list sl ty mr po hb hline'
        | cons e1 es1 =>
          exact s_mth PySem.F.plainAttrs_list sl ty mr po p1 p2 hb hline' hlen
    · cases h
theorem sd_e (ih : Sd Γ n) : ∀ C e ir, cE (n + 1) C e = some ir → ∀ X, Ok Γ C X → PE X e (LE X.K (wpE Γ ir)) ∧ PT X e (LT X.K (wpE Γ ir)) := by
  intro C e ir h X o
  cases e with
  | Constant c k pos =>
    cases c with
    | int i => simp only [cE, Option.some.injEq] at h; subst h; exact both (s_cst (d := .int i) pe_int fun _ => rfl) fun _ => rfl
    | bool b => simp only [cE, Option.some.injEq] at h; subst h; exact both (s_cst (d := .bl b) pe_bl fun _ => rfl) fun _ => rfl
    | none => simp only [cE, Option.some.injEq] at h; subst h; exact both (s_cst (d := .non) pe_non fun _ => rfl) fun _ => rfl
    | str x => simp only [cE, Option.some.injEq] at h; subst h; exact both (s_cst (d := .str x) pe_str fun _ => rfl) fun _ => rfl
    | _ => simp [cE] at h
  | Name x pos => exact both (e_name ih C x pos ir h X o) fun _ => rfl
  | BinOp a op b pos =>
    simp only [cE, Option.bind_eq_bind, Option.bind_eq_some_iff, Option.some.injEq] at h
    obtain ⟨a', ha, b', hb, o', ho, rfl⟩ := h
    rw [bop_eq ho]
    exact both (s_bin o' (ih.e C a a' ha X o).1 (ih.e C b b' hb X o).1) fun _ => rfl
  | UnaryOp op a pos =>
    cases op with
    | USub =>
      simp only [cE, Option.map_eq_some_iff] at h
      obtain ⟨a', ha, rfl⟩ := h
      exact both (s_neg (ih.e C a a' ha X o).1) fun _ => rfl
    | Not =>
      simp only [cE, Option.map_eq_some_iff] at h
      obtain ⟨a', ha, rfl⟩ := h
      exact ⟨s_not (ih.e C a a' ha X o).1, t_not (ih.e C a a' ha X o).2⟩
    | _ => simp [cE] at h
  | BoolOp op es pos =>
    simp only [cE] at h
    obtain ⟨p1, p2⟩ := ih.b C op es ir h X o pos
    exact ⟨p1, p2.pt⟩
  | Compare a ops bs pos =>
    simp only [cE] at h
    split at h
    · split at h
      · cases h
      · rename_i hs
        simp only [Option.bind_eq_bind, Option.bind_eq_some_iff, Option.some.injEq] at h
        obtain ⟨a', ha, b', hb, o', ho, rfl⟩ := h
        rw [cop_eq ho]
        have hm := behind_of o'.op (by simpa using hs)
        exact ⟨s_cmp o.un o' hm (ih.e C _ a' ha X o).1 (ih.e C _ b' hb X o).1, t_cmp o.un o' hm (ih.e C _ a' ha X o).1 (ih.e C _ b' hb X o).1⟩
    · split at h
      · cases h
      · rename_i hs
        simp only [Option.bind_eq_bind, Option.bind_eq_some_iff, Option.some.injEq] at h
        obtain ⟨a', ha, b', hb, c', hc, o', ho, o2, ho2, rfl⟩ := h
        rw [cop_eq ho, cop_eq ho2]
        rw [Bool.not_eq_true] at hs
        exact ⟨s_chn o.un o' o2 (last_of _ _ hs) (ih.e C _ a' ha X o).1 (ih.e C _ b' hb X o).1 (ih.e C _ c' hc X o).1, t_chn o.un o' o2 (last_of _ _ hs) (ih.e C _ a' ha X o).1 (ih.e C _ b' hb X o).1 (ih.e C _ c' hc X o).1⟩
    · cases h
  | IfExp c a b pos =>
    simp only [cE, Option.bind_eq_bind, Option.bind_eq_some_iff, Option.some.injEq] at h
    obtain ⟨c', hc, a', ha, b', hb, rfl⟩ := h
    exact ⟨s_ite (ih.e C c c' hc X o).2 (ih.e C a a' ha X o).1 (ih.e C b b' hb X o).1, t_ite (ih.e C c c' hc X o).2 (ih.e C a a' ha X o).2 (ih.e C b b' hb X o).2⟩
  | Tuple es k pos =>
    simp only [cE] at h
    split at h
    · rename_i hl
      simp only [Option.map_eq_some_iff] at h
      obtain ⟨a', ha, rfl⟩ := h
      obtain ⟨p1, p2, p3⟩ := ih.es C es a' ha X o
      exact both (s_tup p1 (by rw [p3]; exact hl)) fun _ => rfl
    · cases h
  | List es pos =>
    simp only [cE] at h
    split at h
    · rename_i hl
      simp only [Option.map_eq_some_iff] at h
      obtain ⟨a', ha, rfl⟩ := h
      obtain ⟨p1, p2, p3⟩ := ih.es C es a' ha X o
      exact both (s_lst p1 (by rw [p3]; exact hl)) fun _ => rfl
    · cases h
  | Subscript a i pos =>
    simp only [cE] at h
    split at h
    · split at h
      · simp only [Option.bind_eq_bind, Option.bind_eq_some_iff, Option.some.injEq] at h
        obtain ⟨a', ha, l', hl, h', hh, rfl⟩ := h
        exact both (s_sl (ih.e C a a' ha X o).1 (ih.o C _ l' hl X o) (ih.o C _ h' hh X o)) fun _ => rfl
      · cases h
    · simp only [Option.bind_eq_bind, Option.bind_eq_some_iff, Option.some.injEq] at h
      obtain ⟨a', ha, i', hi, rfl⟩ := h
      exact both (s_ix (cE_plain hi) (ih.e C a a' ha X o).1 (ih.e C i i' hi X o).1) fun _ => rfl
  | Call f es kws pos => exact both (e_call ih C f es kws pos ir h X o) fun _ => rfl
  | ListComp elt gs scope pos =>
    obtain ⟨tg, it, ifs, wi, wt, wc, we, own, sl, rfl, hc, e⟩ := sd_cm ih C elt gs scope pos ir h X o
    rw [e]
    exact both (hc.val o.calm (by rw [o.hN]; exact o.nd)) fun _ => rfl
  | _ => simp [cE] at h
theorem sd : ∀ n, Sd Γ n
  | 0 => sd_zero
  | n + 1 => ⟨sd_e (sd n), sd_es (sd n), sd_b (sd n), sd_o (sd n), sd_c (sd n), sd_t (sd n), sd_ts (sd n), sd_i (sd n), sd_cm (sd n)⟩
end
end TB

namespace TB
open PySem PySem.Spec PyProof.Rows L2

/-! ### statements -/
section
variable {Γ : Gam} {X : Cx} {e : Expr} {pos : Pos} {w : En → Mem → K1 → Prop}
theorem swaps_no {e : Expr} (h : isComp e = false) (t : Option Expr) (l : Nat) (env : Env) : swapsWith e t l env = pure false := by
  cases e <;> first | rfl | (simp [isComp] at h)
theorem stores_no {tg e : Expr} {env : Env} (h : isTupE tg = false ∨ isTupE e = false) (h2 : ∀ ts p, tg ≠ .List ts p) : swappedStores [tg] e env = pure none := by
  rcases h with h | h
  · cases tg <;> first | rfl | (simp [isTupE] at h; done) | exact absurd rfl (h2 _ _)
  · cases tg <;> first | rfl | exact absurd rfl (h2 _ _) | skip
    cases e <;> first | rfl | (simp [isTupE] at h)
theorem st_asg {tg : Expr} {sl : List Nat} {wt : D → En → Mem → (En → Mem → Prop) → Prop} (he : PE X e (LE X.K w)) (hg : PG X tg (LG X.K sl wt)) (hs : swapsWithSole [tg] e pos.line X.env = pure false) (hw : swappedStores [tg] e X.env = pure none)
    (h1 : (assignEach [tg] X.env).map (·.2) = [assign tg X.env]) : PS X (.Assign [tg] e pos) (LS X.K fun ρ M F => w ρ M fun d M1 => wt d ρ M1 F.nx) := by
  refine ps_imp (ps_asg he hg hs hw h1) ?_
  rintro E σ H ⟨ρ, M, F, hE, hM, h, P⟩
  refine ⟨ρ, M, _, hE, hM, h, fun d1 M1 v1 H1 s1 r1 m1 q1 => ?_⟩
  exact ⟨d1, ρ, M1, _, r1, hE.keep s1.keep, m1, q1, fun ρ2 M2 σ2 H2 _ s2 e2 m2 q2 => P.nx ρ2 M2 σ2 H2 (s1.trans s2) e2 m2 q2⟩
theorem swaps_comp (elt : Expr) (gs : List Comprehension) (scope : Scope) (p py : Pos) (y : Str) (l : Nat) (env : Env) :
    swapsWith (.ListComp elt gs scope p) (some (.Name y py)) l env = pure (env.blockKind == .function && env.kindOf y == some .local && py.line == p.line && !(scope.names.any fun (n, k) => n == y && (k == .local || k == .cell))) := by
  rfl
theorem st_asgC {x : Str} {px : Pos} {i : Nat} {elt tg it : Expr} {ifs : List Expr} {scope : Scope} {wi : En → Mem → KI → Prop} {wt : D → En → Mem → (En → Mem → Prop) → Prop} {wc : En → Mem → (Bool → Mem → Prop) → Prop} {we : En → Mem → K1 → Prop} {own : List (Str × Nat)} {sl : List Nat} {p : Pos}
    (h : CompOk X elt tg it ifs scope wi wt wc we own sl) (hc : X.calm = true) (hN : X.N.Nodup) (hi : X.N[i]? = some x) (hg : PG X (.Name x px) (LG X.K [i] fun d ρ M k => k (put ρ i d) M)) :
    PS X (.Assign [.Name x px] (.ListComp elt [⟨tg, it, ifs, 0⟩] scope p) pos) (LS X.K fun ρ M F => compW wi wt wc we (own.map (·.2)) ρ M fun d M1 => F.nx (put ρ i d) M1) := by
  cases hb : (X.env.blockKind == .function && X.env.kindOf x == some .local && px.line == p.line && !(scope.names.any fun (n, k) => n == x && (k == .local || k == .cell))) with
  | false => exact st_asg (h.val hc hN) hg (by rw [← hb]; exact swaps_comp elt _ scope p px x pos.line X.env) rfl rfl
  | true =>
    have hyl : X.env.scope.names.lookup x = some .local := by
      simp only [Bool.and_eq_true] at hb
      exact beq_iff_eq.mp hb.1.1.2
    refine ps_imp (ps_setLc hc hN hi hyl (by rw [← hb]; exact swaps_comp elt _ scope p px x pos.line X.env) h.pi h.blk h.pg h.pt h.pe h.fold) ?_
    rintro E σ H ⟨ρ, M, F, hE, hM, hh, P⟩
    refine tLc_of h.sl ⟨ρ, M, _, hE, hM, hh, fun d1 M1 v1 H1 s1 r1 m1 q1 => ?_⟩
    exact P.nx _ M1 _ H1 s1 ((hE.keep s1.keep).put r1) m1 q1
theorem stores_two {x y : Str} {a b : Expr} {px py pt pt2 : Pos} {kt k2 : Nat} {env : Env} (hij : x ≠ y) (hx : env.scope.names.lookup x = some .local) (hy : env.scope.names.lookup y = some .local) (hk : env.scope.kind = .function)
    (hl : px.line = py.line) (sa : isStar a = false) (sb : isStar b = false) (hf : ([a, b].all (foldedForSure 8)) = false) (hcn : ([a, b].all (constantsAlone 8)) = false) :
    swappedStores [.Tuple [.Name x px, .Name y py] kt pt] (.Tuple [a, b] k2 pt2) env = pure (some [x, y]) := by
  have kx : env.kindOf x = some .local := hx
  have ky : env.kindOf y = some .local := hy
  have bk : env.blockKind = .function := by unfold Env.blockKind; rw [hk]; rfl
  have hyx : y ≠ x := fun e => hij e.symm
  have ed : [x, y].eraseDups.length = 2 := by
    simp [List.eraseDups_cons, hyx]
  unfold swappedStores
  refine (if_neg ?_).trans ?_
  · simp [bk]
  refine (if_neg ?_).trans ?_
  · rw [Bool.not_eq_true, List.any_eq_false]
    intro z hz
    have hs : isStar z = false := by
      rcases List.mem_cons.mp hz with rfl | hz
      · exact sa
      · rcases List.mem_cons.mp hz with rfl | hz
        · exact sb
        · cases hz
    cases z <;> first | (simp [isStar] at hs; done) | exact Bool.false_ne_true
  have e1 : (Option.map (fun x => x.pos.line) [Expr.Name x px, Expr.Name y py].head?).getD 0 = py.line := hl
  have e2 : ([x, y].length != [Expr.Name x px, Expr.Name y py].length || [x, y].eraseDups.length != [x, y].length) = false := by rw [ed]; rfl
  simp only [e1, List.filterMap_cons, List.filterMap_nil, kx, ky, hl, beq_self_eq_true, Bool.and_self, if_true]
  refine (if_neg ?_).trans ?_
  · rw [e2]; exact Bool.false_ne_true
  refine (if_neg ?_).trans ?_
  · rw [hf]; exact Bool.false_ne_true
  exact if_neg (by rw [hcn]; exact Bool.false_ne_true)
theorem st_par {i j : Nat} {x y : Str} {a b : Expr} {px py pt pt2 : Pos} {kt k2 : Nat} {wa wb : En → Mem → K1 → Prop} (hc : X.calm = true) (hN : X.N.Nodup) (hi : X.N[i]? = some x) (hj : X.N[j]? = some y) (hij : x ≠ y)
    (hx : X.env.scope.names.lookup x = some .local) (hy : X.env.scope.names.lookup y = some .local) (hk : X.env.scope.kind = .function) (hl : px.line = py.line) (sa : isStar a = false) (sb : isStar b = false)
    (hf : ([a, b].all (foldedForSure 8)) = false) (hcn : ([a, b].all (constantsAlone 8)) = false) (ha : PE X a (LE X.K wa)) (hb : PE X b (LE X.K wb)) (hst : starEach [a, b] X.env = [(false, eval a X.env), (false, eval b X.env)]) (hst2 : starEach [b] X.env = [(false, eval b X.env)]) :
    PS X (.Assign [.Tuple [.Name x px, .Name y py] kt pt] (.Tuple [a, b] k2 pt2) pos) (LS X.K fun ρ M F => wa ρ M fun d M1 => wb ρ M1 fun e M2 => F.nx (put (put ρ i d) j e) M2) := by
  have hw := stores_two (kt := kt) (k2 := k2) (pt := pt) (pt2 := pt2) (px := px) (py := py) (env := X.env) hij hx hy hk hl sa sb hf hcn
  have hne : i ≠ j := fun e => by
    subst e
    rw [hi] at hj
    exact hij (Option.some.inj hj)
  refine ps_imp (ps_par hc hN hi hj hne hx hy (pa_cons ha (pa_cons hb pa_nil hst2) (by rw [hst, hst2])) hw) ?_
  rintro E σ H ⟨ρ, M, F, hE, hM, h, P⟩
  refine ⟨ρ, M, _, hE, hM, h, fun d1 M1 v1 H1 s1 r1 m1 q1 => ⟨ρ, M1, _, hE.keep s1.keep, m1, q1, fun d2 M2 v2 H2 s2 r2 m2 q2 => ⟨v1, v2, rfl, ?_⟩⟩⟩
  exact P.nx _ M2 _ H2 (s1.trans s2) ((((hE.keep s1.keep).keep s2.keep).put (r1.keep s2.keep)).put r2) m2 q2
theorem stores_ns {C : Ct} {ts vs : List Expr} {kt k2 : Nat} {pt pt2 : Pos} {env : Env} (hsc : env.scope = C.sc) (h : noSwap C ts vs = true) : swappedStores [.Tuple ts kt pt] (.Tuple vs k2 pt2) env = pure none := by
  have kx : ∀ x, env.kindOf x = C.sc.names.lookup x := fun x => by rw [← hsc]; rfl
  unfold swappedStores
  show (if (!(ts.length == 2 || ts.length == 3) || vs.length != ts.length || env.blockKind != .function) = true then (pure none : Sem (Option (List Str))) else _) = pure none
  by_cases h1 : (!(ts.length == 2 || ts.length == 3) || vs.length != ts.length || env.blockKind != .function) = true
  · exact if_pos h1
  refine (if_neg h1).trans ?_
  by_cases h2 : (vs.any fun | .Starred .. => true | _ => false) = true
  · exact if_pos h2
  refine (if_neg h2).trans ?_
  simp only [kx]
  unfold noSwap at h
  simp only [Bool.or_eq_true] at h
  rcases h with (h | h) | h
  · exact absurd (by simp only [Bool.or_eq_true]; exact .inl h) h1
  · exact if_pos (by rw [Bool.or_eq_true]; exact .inl h)
  · split
    · rfl
    · first | rfl | exact if_pos h | (split <;> first | rfl | exact absurd h ‹_›)
theorem stores_three {x y z : Str} {a b c : Expr} {px py pz pt pt2 : Pos} {kt k2 : Nat} {env : Env} (hxy : x ≠ y) (hxz : x ≠ z) (hyz : y ≠ z) (hx : env.scope.names.lookup x = some .local) (hy : env.scope.names.lookup y = some .local) (hz : env.scope.names.lookup z = some .local) (hk : env.scope.kind = .function)
    (hl : px.line = py.line) (hl2 : px.line = pz.line) (sa : isStar a = false) (sb : isStar b = false) (sc : isStar c = false) (hf : ([a, b, c].all (foldedForSure 8)) = false) (hcn : ([a, b, c].all (constantsAlone 8)) = false) :
    swappedStores [.Tuple [.Name x px, .Name y py, .Name z pz] kt pt] (.Tuple [a, b, c] k2 pt2) env = pure (some [x, y, z]) := by
  have kx : env.kindOf x = some .local := hx
  have ky : env.kindOf y = some .local := hy
  have kz : env.kindOf z = some .local := hz
  have bk : env.blockKind = .function := by unfold Env.blockKind; rw [hk]; rfl
  have ed : [x, y, z].eraseDups.length = 3 := by
    simp [List.eraseDups_cons, Ne.symm hxy, Ne.symm hxz, Ne.symm hyz]
  unfold swappedStores
  refine (if_neg ?_).trans ?_
  · simp [bk]
  refine (if_neg ?_).trans ?_
  · rw [Bool.not_eq_true, List.any_eq_false]
    intro z hz
    have hs : isStar z = false := by
      simp only [List.mem_cons, List.not_mem_nil, or_false] at hz
      rcases hz with rfl | rfl | rfl <;> assumption
    cases z <;> first | (simp [isStar] at hs; done) | exact Bool.false_ne_true
  have e1 : (Option.map (fun x => x.pos.line) [Expr.Name x px, Expr.Name y py, Expr.Name z pz].head?).getD 0 = px.line := rfl
  have e2 : ([x, y, z].length != [Expr.Name x px, Expr.Name y py, Expr.Name z pz].length || [x, y, z].eraseDups.length != [x, y, z].length) = false := by rw [ed]; rfl
  simp only [e1, List.filterMap_cons, List.filterMap_nil, kx, ky, kz, ← hl, ← hl2, beq_self_eq_true, Bool.and_self, if_true]
  refine (if_neg ?_).trans ?_
  · rw [e2]; exact Bool.false_ne_true
  refine (if_neg ?_).trans ?_
  · rw [hf]; exact Bool.false_ne_true
  exact if_neg (by rw [hcn]; exact Bool.false_ne_true)
theorem st_par3 {i j l : Nat} {x y z : Str} {a b c : Expr} {px py pz pt pt2 : Pos} {kt k2 : Nat} {a' b' c' : E} (hc : X.calm = true) (hN : X.N.Nodup) (hi : X.N[i]? = some x) (hj : X.N[j]? = some y) (hl : X.N[l]? = some z) (hxy : x ≠ y) (hxz : x ≠ z) (hyz : y ≠ z)
    (hx : X.env.scope.names.lookup x = some .local) (hy : X.env.scope.names.lookup y = some .local) (hz : X.env.scope.names.lookup z = some .local)
    (hw : swappedStores [.Tuple [.Name x px, .Name y py, .Name z pz] kt pt] (.Tuple [a, b, c] k2 pt2) X.env = pure (some [x, y, z])) (ha : PE X a (LE X.K (wpE Γ a'))) (hb : PE X b (LE X.K (wpE Γ b'))) (hcc : PE X c (LE X.K (wpE Γ c'))) (sta : isStar a = false) (stb : isStar b = false) (stc : isStar c = false)
    (hst : starEach [a, b, c] X.env = [(false, eval a X.env), (false, eval b X.env), (false, eval c X.env)]) (hst2 : starEach [b, c] X.env = [(false, eval b X.env), (false, eval c X.env)]) (hst3 : starEach [c] X.env = [(false, eval c X.env)]) :
    PS X (.Assign [.Tuple [.Name x px, .Name y py, .Name z pz] kt pt] (.Tuple [a, b, c] k2 pt2) pos) (LS X.K (wpS Γ (.asg (.tp (.cons (.nm i) (.cons (.nm j) (.cons (.nm l) .nil)))) (.tup (.cons a' (.cons b' (.cons c' .nil))))))) := by
  have ne : ∀ {i j : Nat} {x y : Str}, X.N[i]? = some x → X.N[j]? = some y → x ≠ y → i ≠ j := fun hi hj hne e => by
    subst e
    rw [hi] at hj
    exact hne (Option.some.inj hj)
  refine ps_imp (ps_par3 hc hN hi hj hl (ne hi hj hxy) (ne hi hl hxz) (ne hj hl hyz) hx hy hz (pa_cons ha (pa_cons hb (pa_cons hcc pa_nil hst3) (by rw [hst2, hst3])) (by rw [hst, hst2])) hw) ?_
  rintro E σ H ⟨ρ, M, F, hE, hM, h, P⟩
  refine ⟨ρ, M, _, hE, hM, h, fun d1 M1 v1 H1 s1 r1 m1 q1 => ⟨ρ, M1, _, hE.keep s1.keep, m1, q1, fun d2 M2 v2 H2 s2 r2 m2 q2 => ⟨ρ, M2, _, (hE.keep s1.keep).keep s2.keep, m2, q2, fun d3 M3 v3 H3 s3 r3 m3 q3 => ⟨v1, v2, v3, rfl, ?_⟩⟩⟩⟩
  have q4 : F.nx (put (put (put ρ i d1) j d2) l d3) M3 := by
    have q3 : ∃ ds, D.tup [d1, d2, d3] = .tup ds ∧ ds.length = (Ts.cons (.nm i) (.cons (.nm j) (.cons (.nm l) .nil))).len ∧ wpTs Γ (Ts.cons (.nm i) (.cons (.nm j) (.cons (.nm l) .nil))) ds ρ M3 F.nx := q3
    obtain ⟨ds, e, _, q3⟩ := q3
    cases e
    obtain ⟨d, r, e, q3⟩ := q3
    cases e
    obtain ⟨d, r, e, q3⟩ := q3
    cases e
    obtain ⟨d, r, e, q3⟩ := q3
    cases e
    exact q3.2
  refine P.nx _ M3 _ H3 ((s1.trans s2).trans s3) ?_ m3 q4
  exact (((((hE.keep s1.keep).keep s2.keep).keep s3.keep).put ((r1.keep s2.keep).keep s3.keep)).put (r2.keep s3.keep)).put r3
theorem st_aug {i : Nat} {x : Str} {px : Pos} (op : Bin) (hN : X.N.Nodup) (hi : X.N[i]? = some x) (hx : X.env.scope.names.lookup x = some .local) (he : PE X e (LE X.K w)) :
    PS X (.AugAssign (.Name x px) op.op e pos) (LS X.K fun ρ M F => ∃ d, get ρ i = some d ∧ w ρ M fun y M1 => augW op d y M1 fun z M2 => F.nx (put ρ i z) M2) := by
  refine ps_imp (ps_aug hN hi (.inl hx) he (op_aug op) (.inr hx)) ?_
  rintro E σ H ⟨ρ, M, F, hE, hM, ⟨d, hd, h⟩, P⟩
  obtain ⟨v, hv, r⟩ := hE.2 i d hd
  refine ⟨v, hv, ρ, M, _, hE, hM, h, fun d1 M1 v1 H1 s1 r1 m1 q1 => ?_⟩
  refine ⟨d, d1, M1, _, r.keep s1.keep, r1, m1, q1, fun d2 M2 v2 H2 s2 r2 m2 q2 => ?_⟩
  exact P.nx _ M2 _ H2 (s1.trans s2) (((hE.keep s1.keep).keep s2.keep).put r2) m2 q2
theorem st_expr (he : PE X e (LE X.K w)) (hs : swapsWith e none pos.line X.env = pure false) : PS X (.Expr e pos) (LS X.K fun ρ M F => w ρ M fun _ M1 => F.nx ρ M1) := by
  refine ps_imp (ps_expr he hs) ?_
  rintro E σ H ⟨ρ, M, F, hE, hM, h, P⟩
  exact ⟨ρ, M, _, hE, hM, h, fun d1 M1 v1 H1 s1 r1 m1 q1 => P.nx ρ M1 σ H1 s1 (hE.keep s1.keep) m1 q1⟩
theorem st_ret (he : PE X e (LE X.K w)) : PS X (.Return (some e) pos) (LS X.K fun ρ M F => w ρ M F.rt) := by
  refine ps_imp (ps_ret he) ?_
  rintro E σ H ⟨ρ, M, F, hE, hM, h, P⟩
  exact ⟨ρ, M, _, hE, hM, h, fun d1 M1 v1 H1 s1 r1 m1 q1 => P.rt d1 M1 v1 H1 s1 r1 m1 q1⟩
theorem st_retN : PS X (.Return none pos) (LS X.K fun _ M F => F.rt .non M) := by
  refine ps_imp ps_retN ?_
  rintro E σ H ⟨ρ, M, F, hE, hM, h, P⟩
  exact P.rt .non M .non H .refl rfl hM h
variable {c : Expr} {as bs : List Stmt} {wc : En → Mem → K1 → Prop} {wa wb : En → Mem → Ed → Prop}
theorem st_if (hc : PT X c (LT X.K wc)) (ha : PSs X as (LS X.K wa)) (hb : PSs X bs (LS X.K wb)) :
    PS X (.If c as bs pos) (LS X.K fun ρ M F => wc ρ M fun x M1 => ∃ k, tru M1 x = some k ∧ if k = true then wa ρ M1 F else wb ρ M1 F) := by
  refine ps_imp (ps_if hc ha hb) ?_
  rintro E σ H ⟨ρ, M, F, hE, hM, h, P⟩
  refine ⟨ρ, M, _, hE, hM, h, fun d1 M1 v1 H1 s1 r1 m1 ⟨b, e, z⟩ => ⟨b, e, ?_⟩⟩
  cases b with
  | true =>
    simp only [if_true] at z ⊢
    exact ⟨ρ, M1, F, hE.keep s1.keep, m1, z, P.step s1⟩
  | false =>
    simp only [Bool.false_eq_true, if_false] at z ⊢
    exact ⟨ρ, M1, F, hE.keep s1.keep, m1, z, P.step s1⟩
theorem st_while (hp : PassesOwn (model X.prog X.w) X.A X.env X.xe) (hc : PT X c (LT X.K wc)) (hb : PSs X bs (LS X.K wb)) :
    PS X (.While c bs [] pos) (LS X.K fun ρ M F => ∃ W : Nat → En → Mem → Prop, (∃ m, W m ρ M) ∧ ∀ m ρ M, W m ρ M → wc ρ M fun d M1 => ∃ k, tru M1 d = some k ∧
      if k = true then ∃ N : En → Mem → Prop, (∀ ρ' M', N ρ' M' → ∃ m', m' < m ∧ W m' ρ' M') ∧ wb ρ M1 ⟨N, F.rt, F.nx, N⟩ else F.nx ρ M1) := by
  refine ps_imp (ps_while hp hc hb) ?_
  rintro E σ H ⟨ρ, M, F, hE, hM, ⟨W, ⟨m0, w0⟩, h⟩, P⟩
  refine ⟨fun m σ' H' => ∃ ρ' M', RepE X.K H' ρ' σ' ∧ RepM X.K H' M' ∧ Step M H M' H' ∧ W m ρ' M', ⟨m0, ρ, M, hE, hM, .refl, w0⟩, ?_⟩
  rintro m σ' H' ⟨ρ', M', e', m', s', w'⟩
  refine ⟨ρ', M', _, e', m', h m ρ' M' w', fun d1 M1 v1 H1 s1 r1 m1 ⟨b, e, z⟩ => ⟨b, e, ?_⟩⟩
  cases b with
  | true =>
    simp only [if_true] at z ⊢
    obtain ⟨N, hN, z⟩ := z
    refine ⟨fun σ2 H2 => ∃ ρ2 M2, RepE X.K H2 ρ2 σ2 ∧ RepM X.K H2 M2 ∧ Step M H M2 H2 ∧ N ρ2 M2, fun σ2 H2 ⟨ρ2, M2, a1, a2, a3, a4⟩ => let ⟨m2, h1, h2⟩ := hN ρ2 M2 a4; ⟨m2, h1, ρ2, M2, a1, a2, a3, h2⟩, ?_⟩
    have s01 := s'.trans s1
    exact ⟨ρ', M1, _, e'.keep s1.keep, m1, z, ⟨fun ρ4 M4 σ4 H4 s4 e4 m4 q4 => ⟨ρ4, M4, e4, m4, s01.trans s4, q4⟩, fun d4 M4 v4 H4 s4 => P.rt d4 M4 v4 H4 (s01.trans s4),
      fun ρ4 M4 σ4 H4 s4 => P.nx ρ4 M4 σ4 H4 (s01.trans s4), fun ρ4 M4 σ4 H4 s4 e4 m4 q4 => ⟨ρ4, M4, e4, m4, s01.trans s4, q4⟩⟩⟩
  | false =>
    simp only [Bool.false_eq_true, if_false] at z ⊢
    exact P.nx ρ' M1 σ' H1 (s'.trans s1) (e'.keep s1.keep) m1 z
theorem sts_nil : PSs X [] (LS X.K fun ρ M F => F.nx ρ M) := by
  refine pss_imp pss_nil ?_
  rintro E σ H ⟨ρ, M, F, hE, hM, h, P⟩
  exact P.nx ρ M σ H .refl hE hM h
theorem sts_cons {st : Stmt} {rest : List Stmt} (h1 : PS X st (LS X.K wa)) (h2 : PSs X rest (LS X.K wb)) : PSs X (st :: rest) (LS X.K fun ρ M F => wa ρ M ⟨fun ρ' M' => wb ρ' M' F, F.rt, F.bk, F.ct⟩) := by
  refine pss_imp (pss_cons h1 h2) ?_
  rintro E σ H ⟨ρ, M, F, hE, hM, h, P⟩
  exact ⟨ρ, M, _, hE, hM, h, ⟨fun ρ' M' σ' H' s e m q => ⟨ρ', M', F, e, m, q, P.step s⟩, P.rt, P.bk, P.ct⟩⟩
end

structure Ss' (Γ : Gam) (n : Nat) : Prop where
  s : ∀ C st ir, cS n C st = some ir → ∀ X, Ok Γ C X → X.env.scope.kind = .function → PS X st (LS X.K (wpS Γ ir))
  ss : ∀ C st ir, cSs n C st = some ir → ∀ X, Ok Γ C X → X.env.scope.kind = .function → PSs X st (LS X.K (wpSs Γ ir))
theorem st_asgN {Γ : Gam} {n : Nat} {C : Ct} {x : Str} {px : Pos} {e : Expr} {pos : Pos} {ir : S} (X : Cx) (o : Ok Γ C X)
    (h : ((cT n C (.Name x px)).bind fun t => (cE n C e).bind fun e => some (S.asg t e)) = some ir) (hcmp : isComp e = false ∨ ∃ elt gs sc p, e = .ListComp elt gs sc p) : PS X (.Assign [.Name x px] e pos) (LS X.K (wpS Γ ir)) := by
  simp only [Option.bind_eq_some_iff, Option.some.injEq] at h
  obtain ⟨t, ht, e', he, rfl⟩ := h
  have nd : X.N.Nodup := by rw [o.hN]; exact o.nd
  have g := (sd (Γ := Γ) n).t C _ t ht X o
  have pe := ((sd (Γ := Γ) n).e C e e' he X o).1
  have st := cE_asg ht [] X.env
  rcases hcmp with hc | ⟨elt, gs, sc, p, rfl⟩
  · exact st_asg pe g (show swapsWith e (some (.Name x px)) pos.line X.env = _ from swaps_no hc _ _ _) (stores_no (.inl rfl) nofun) (by rw [st]; rfl)
  · obtain ⟨tg, it, ifs, wi, wt, wc, we, own, sl, rfl, hc, ee⟩ := (sd (Γ := Γ) n).cm C elt gs sc p e' he X o
    have key : ∃ i, t = .nm i ∧ X.N[i]? = some x := by
      cases n with
      | zero => simp [cT] at ht
      | succ n =>
        simp only [cT] at ht
        split at ht
        · simp only [Option.map_eq_some_iff] at ht
          obtain ⟨i, hi, rfl⟩ := ht
          exact ⟨i, rfl, by rw [o.hN]; exact findIx_get hi⟩
        · split at ht
          · simp only [Option.map_eq_some_iff] at ht
            obtain ⟨i, hi, rfl⟩ := ht
            exact ⟨i, rfl, by rw [o.hN]; exact findIx_get hi⟩
          · cases ht
        · cases ht
    obtain ⟨i, rfl, hi⟩ := key
    refine ps_imp (st_asgC (pos := pos) (p := p) hc o.calm nd hi g) ?_
    rintro E σ H ⟨ρ, M, F, hE, hM, h, P⟩
    refine ⟨ρ, M, F, hE, hM, ?_, P⟩
    have h : wpE Γ e' ρ M fun d M1 => F.nx (put ρ i d) M1 := h
    rw [ee] at h
    exact h
end TB

namespace TB
open PySem PySem.Spec PyProof.Rows L2

section
variable {Γ : Gam} {n : Nat}
theorem asg_any {C : Ct} {tg e : Expr} {pos : Pos} {ir : S} (X : Cx) (o : Ok Γ C X)
    (h : ((cT n C tg).bind fun t => (cE n C e).bind fun e => some (S.asg t e)) = some ir) (hc : isComp e = false) (hw : swappedStores [tg] e X.env = pure none) : PS X (.Assign [tg] e pos) (LS X.K (wpS Γ ir)) := by
  simp only [Option.bind_eq_some_iff, Option.some.injEq] at h
  obtain ⟨t, ht, e', he, rfl⟩ := h
  have g := (sd (Γ := Γ) n).t C _ t ht X o
  have pe := ((sd (Γ := Γ) n).e C e e' he X o).1
  exact st_asg pe g (show swapsWith e (some tg) pos.line X.env = _ from swaps_no hc _ _ _) hw (by rw [cE_asg ht [] X.env]; rfl)
theorem ss_s (ih : Ss' Γ n) : ∀ C st ir, cS (n + 1) C st = some ir → ∀ X, Ok Γ C X → X.env.scope.kind = .function → PS X st (LS X.K (wpS Γ ir)) := by
  intro C st ir h X o hk
  have nd : X.N.Nodup := by rw [o.hN]; exact o.nd
  have S0 := sd (Γ := Γ) n
  cases st with
  | Assign ts e pos =>
    simp only [cS] at h
    split at h
    · split at h
      · split at h
        · exact st_asgN X o h (.inr ⟨_, _, _, _, rfl⟩)
        · cases h
      · rename_i hc
        exact st_asgN X o h (.inl (by simpa using hc))
    · split at h
      · split at h
        · rename_i hns
          exact asg_any X o h rfl (stores_ns o.sc hns)
        split at h
        · rename_i hcond
          obtain ⟨c1, c2, c3, c4, c5, c6, c7, c8⟩ := hcond
          simp only [Option.bind_eq_bind, Option.bind_eq_some_iff, Option.some.injEq] at h
          obtain ⟨i, hi, j, hj, a', ha, b', hb, rfl⟩ := h
          exact st_par o.calm nd (by rw [o.hN]; exact findIx_get hi) (by rw [o.hN]; exact findIx_get hj) c1 (by rw [o.sc]; exact c3) (by rw [o.sc]; exact c4) hk c2 c5 c6 c7 c8
            (S0.e C _ a' ha X o).1 (S0.e C _ b' hb X o).1 (by rw [cE_star ha, cE_star hb]; rfl) (cE_star hb [] X.env)
        · cases h
      · split at h
        · rename_i hns
          exact asg_any X o h rfl (stores_ns o.sc hns)
        split at h
        · rename_i hcond
          obtain ⟨⟨c1, c2, c3⟩, ⟨c4, c5⟩, c6, c7, c8, ⟨c9, c10, c11⟩, c12, c13⟩ := hcond
          simp only [Option.bind_eq_bind, Option.bind_eq_some_iff, Option.some.injEq] at h
          obtain ⟨i, hi, j, hj, l, hl, a', ha, b', hb, c', hc', rfl⟩ := h
          refine st_par3 o.calm nd (by rw [o.hN]; exact findIx_get hi) (by rw [o.hN]; exact findIx_get hj) (by rw [o.hN]; exact findIx_get hl) c1 c2 c3 (by rw [o.sc]; exact c6) (by rw [o.sc]; exact c7) (by rw [o.sc]; exact c8) ?_
            (S0.e C _ a' ha X o).1 (S0.e C _ b' hb X o).1 (S0.e C _ c' hc' X o).1 c9 c10 c11 (by rw [cE_star ha, cE_star hb, cE_star hc']; rfl) (by rw [cE_star hb, cE_star hc']; rfl) (cE_star hc' [] X.env)
          exact stores_three c1 c2 c3 (by rw [o.sc]; exact c6) (by rw [o.sc]; exact c7) (by rw [o.sc]; exact c8) hk c4 c5 c9 c10 c11 c12 c13
        · cases h
      · split at h
        · rename_i hns
          exact asg_any X o h rfl (stores_ns o.sc hns)
        · cases h
      · split at h
        · cases h
        · rename_i hc
          simp only [Bool.or_eq_true, not_or, Bool.not_eq_true] at hc
          exact asg_any X o h hc.2 (stores_no (.inr hc.1) nofun)
    · split at h
      · cases h
      · rename_i hc
        exact asg_any X o h (by simpa using hc) (stores_no (.inl rfl) nofun)
    · cases h
  | AugAssign t op e pos =>
    cases t with
    | Name x px =>
      simp only [cS] at h
      split at h
      · rename_i hl
        simp only [Option.bind_eq_bind, Option.bind_eq_some_iff, Option.some.injEq] at h
        obtain ⟨i, hi, o', ho, e', he, rfl⟩ := h
        rw [bop_eq ho]
        exact st_aug o' nd (by rw [o.hN]; exact findIx_get hi) (by rw [o.sc]; exact hl) (S0.e C e e' he X o).1
      · cases h
    | _ => simp [cS] at h
  | Expr e pos =>
    simp only [cS] at h
    split at h
    · cases h
    · rename_i hc
      simp only [Option.map_eq_some_iff] at h
      obtain ⟨a, ha, rfl⟩ := h
      exact st_expr (S0.e C e a ha X o).1 (swaps_no (by simpa using hc) _ _ _)
  | Return e pos =>
    cases e with
    | none => simp only [cS, Option.some.injEq] at h; subst h; exact st_retN
    | some e =>
      simp only [cS, Option.map_eq_some_iff] at h
      obtain ⟨a, ha, rfl⟩ := h
      exact st_ret (S0.e C e a ha X o).1
  | If c a b pos =>
    simp only [cS, Option.bind_eq_bind, Option.bind_eq_some_iff, Option.some.injEq] at h
    obtain ⟨c', hc, a', ha, b', hb, rfl⟩ := h
    exact st_if (S0.e C c c' hc X o).2 (ih.ss C a a' ha X o hk) (ih.ss C b b' hb X o hk)
  | While c b orr pos =>
    cases orr with
    | nil =>
      simp only [cS, Option.bind_eq_bind, Option.bind_eq_some_iff, Option.some.injEq] at h
      obtain ⟨c', hc, b', hb, rfl⟩ := h
      exact st_while o.pas (S0.e C c c' hc X o).2 (ih.ss C b b' hb X o hk)
    | cons _ _ => simp [cS] at h
  | For t it b orr pos =>
    cases orr with
    | nil =>
      simp only [cS, Option.bind_eq_bind, Option.bind_eq_some_iff, Option.some.injEq] at h
      obtain ⟨i', hi, t', ht, b', hb, rfl⟩ := h
      obtain ⟨p1, p2⟩ := S0.i C t it i' hi X o
      exact ps_forE o.pas o.calm p1 (S0.t C t t' ht X o) (ih.ss C b b' hb X o hk) p2
    | cons _ _ => simp [cS] at h
  | Break pos =>
    simp only [cS, Option.some.injEq] at h
    subst h
    refine ps_imp ps_break ?_
    rintro E σ H ⟨ρ, M, F, hE, hM, h, P⟩
    exact P.bk ρ M σ H .refl hE hM h
  | Continue pos =>
    simp only [cS, Option.some.injEq] at h
    subst h
    refine ps_imp ps_continue ?_
    rintro E σ H ⟨ρ, M, F, hE, hM, h, P⟩
    exact P.ct ρ M σ H .refl hE hM h
  | Pass pos =>
    simp only [cS, Option.some.injEq] at h
    subst h
    refine ps_imp ps_pass ?_
    rintro E σ H ⟨ρ, M, F, hE, hM, h, P⟩
    exact P.nx ρ M σ H .refl hE hM h
  | Raise a b pos =>
    simp only [cS, Option.some.injEq] at h
    subst h
    refine ps_imp ps_never ?_
    rintro E σ H ⟨ρ, M, F, hE, hM, h, P⟩
    exact h
  | _ => simp [cS] at h
theorem ss_ss (ih : Ss' Γ n) : ∀ C st ir, cSs (n + 1) C st = some ir → ∀ X, Ok Γ C X → X.env.scope.kind = .function → PSs X st (LS X.K (wpSs Γ ir)) := by
  intro C st ir h X o hk
  cases st with
  | nil => simp only [cSs, Option.some.injEq] at h; subst h; exact sts_nil
  | cons s ss =>
    simp only [cSs, Option.bind_eq_bind, Option.bind_eq_some_iff, Option.some.injEq] at h
    obtain ⟨a, ha, r, hr, rfl⟩ := h
    exact sts_cons (wa := wpS Γ a) (wb := wpSs Γ r) (ih.s C s a ha X o hk) (ih.ss C ss r hr X o hk)
theorem ss : ∀ n, Ss' Γ n
  | 0 => ⟨fun C e ir h => by simp [cS] at h, fun C e ir h => by simp [cSs] at h⟩
  | n + 1 => ⟨ss_s (ss n), ss_ss (ss n)⟩
end

/-! ### a def keeps its promise -/
/-- the function g of the table stands at the name x, with ar parameters -/
def Good (P : Program) (w : World) (K : PySem.W.Frag) (mg : Str → Option Value) (base : Heap) (Γ : Gam) (lev : Nat) (x : Str) (g ar : Nat) : Prop :=
  ∃ f fd ps, mg x = some (.ref f) ∧ PySem.W.keepIn K (.ref f) = true ∧ FnOk P w K mg base CX0 lev f fd ps (LSp K ar (Γ g)) ∧ Binds K fd ps [] ∧ ps.length = ar
theorem Good.mono {P : Program} {w : World} {K : PySem.W.Frag} {mg : Str → Option Value} {base : Heap} {Γ : Gam} {l l' : Nat} {x : Str} {g ar : Nat} (h : Good P w K mg base Γ l x g ar) (hl : l ≤ l') : Good P w K mg base Γ l' x g ar :=
  let ⟨f, fd, ps, a, b, c, d, e⟩ := h
  ⟨f, fd, ps, a, b, c.mono hl, d, e⟩
def Sub (M M' : Mem) : Prop := ∀ a ds, M a = some ds → M' a = some ds
theorem Sub.refl {M : Mem} : Sub M M := fun _ _ h => h
theorem Sub.trans {M M1 M2 : Mem} (a : Sub M M1) (b : Sub M1 M2) : Sub M M2 := fun x y h => b x y (a x y h)
theorem Sub.up {M : Mem} {p : Addr} {ds : List D} (h : M p = none) : Sub M (M.up p ds) := fun a es e => by
  rw [up_ne (fun z => by subst z; rw [h] at e; cases e)]; exact e
theorem Sub.none {M M' : Mem} (s : Sub M M') {p : Addr} (h : M' p = Option.none) : M p = Option.none := by
  cases e : M p with
  | none => rfl
  | some ds => rw [s p ds e] at h; cases h

def entry (n : Nat) (ds : List D) : En := ds.map some ++ List.replicate (n - ds.length) Option.none
theorem get_entry : ∀ (ds : List D) (k i : Nat) (d : D), get (ds.map some ++ List.replicate k Option.none) i = some d → ds[i]? = some d
  | [], k, i, d, h => by
    exfalso
    induction k generalizing i with
    | zero => simp [get] at h
    | succ k ih =>
      cases i with
      | zero => simp [get, List.replicate_succ] at h
      | succ i => exact ih i (by simpa [get, List.replicate_succ] using h)
  | e :: ds, k, 0, d, h => by simpa [get] using h
  | e :: ds, k, i + 1, d, h => by simpa using get_entry ds k i d (by simpa [get] using h)
theorem repE_start {K : PySem.W.Frag} {H : Hp} {ds : List D} {vs : List V} {N : List Str} (r : RepL K H ds vs) : RepE K H (entry N.length ds) (L2.start N vs) := by
  refine ⟨?_, fun i d h => ?_⟩
  · unfold entry L2.start
    simp [r.length]
  · have hd := get_entry ds _ i d h
    obtain ⟨v, hv, rv⟩ := r.get hd
    refine ⟨v, ?_, rv⟩
    unfold L2.start
    rw [List.getElem?_append_left (by rw [List.length_map]; exact (List.getElem?_eq_some_iff.mp hv).1), List.getElem?_map, hv]
    rfl
/-- what comes out: memory may be forgotten -/
def Out (q : K1) : K1 := fun d M' => ∃ M'', Sub M'' M' ∧ q d M''
theorem Out.mk {q : K1} {d : D} {M : Mem} (h : q d M) : Out q d M := ⟨M, Sub.refl, h⟩
theorem Out.sub {q : K1} {d : D} {M M' : Mem} (s : Sub M M') (h : q d M) : Out q d M' := ⟨M, s, h⟩
/-- what a body must show -/
def Body (Γ : Gam) (ir : Ss) (N ar : Nat) (p : List D → Mem → K1 → Prop) : Prop := ∀ ds M q, ds.length = ar → p ds M q →
  wpSs Γ ir (entry N ds) M ⟨fun _ M' => Out q .non M', Out q, fun _ _ => False, fun _ _ => False⟩
theorem def_ok {P : Program} {w : World} {K : PySem.W.Frag} {mg : Str → Option Value} {base : Heap} {Γ : Gam} {lev n g : Nat} {x : Str} {st : Stmt} {f : Addr} {fd : FuncData} {ps : List Str} {C : Ct} {ir : Ss}
    (hm : mg x = some (.ref f)) (F : Fun K x x st f fd) (S : FnScope C.N ps (defScope st)) (b : Binds K fd ps []) (hsc : C.sc = defScope st) (hfn : C.fn = fun _ => true)
    (hc : cSs n C (defBody st) = some ir) (hw : Body Γ ir C.N.length ps.length (Γ g))
    (hfns : ∀ y h ar, C.fns.lookup y = some (h, ar) → Good P w K mg base Γ lev y h ar)
    (hcs : ∀ y d, C.cs.lookup y = some d → ∃ u v, mg y = some u ∧ RelV v u ∧ ∀ H, Rep K H d v)
    (hbl : ∀ y, y ∈ bnames → C.fns.lookup y = none → C.cs.lookup y = none → mg y = none) : Good P w K mg base Γ (lev + 1) x g ps.length := by
  refine ⟨f, fd, ps, hm, F.kp, F.ok S (fun vs H Q E h => h.1) (fun cdv A outer s H vs Q E hr h => ?_), b, rfl⟩
  obtain ⟨hl, ds, M, q, r, m, hp, k⟩ := h
  have hdl : ds.length = ps.length := by rw [r.length]; exact hl
  have o : Ok Γ C (cxOf CX0 P w K mg base C.N x (defScope st) f cdv A outer s H E).nox :=
    ⟨rfl, S.nd, hsc.symm, rfl, fun _ _ => rfl, hr.units, rfl, fun y h ar e => by
      obtain ⟨f', fd', ps', a1, a2, a3, a4, a5⟩ := hfns y h ar e
      exact ⟨f', fd', ps', lev, a1, a2, a3, a4, hr, a5⟩, hcs, hbl⟩
  refine ⟨_, (ss (Γ := Γ) n).ss C _ ir hc _ o S.kind, ?_⟩
  refine ⟨entry C.N.length ds, M, _, repE_start r, m, hw ds M q hdl hp, ?_⟩
  have fin : ∀ d M' v H', Step M H M' H' → Rep K H' d v → RepM K H' M' → (∃ M'', Sub M'' M' ∧ q d M'') → Q v H' := fun d M' v H' s rd m' ⟨M'', sb, z⟩ => by
    refine k d M'' v H' ⟨s.tup, s.frz, s.lst, fun a o hn ho => sb.none (s.dom a o hn ho), s.live⟩ rd (fun a es e => m' a es (sb a es e)) z
  exact ⟨fun ρ' M' σ' H' s _ m' z => fin .non M' .non H' s rfl m' z, fin, fun _ _ _ _ _ _ _ z => z.elim, fun _ _ _ _ _ _ _ z => z.elim⟩
end TB

namespace TB
open PySem PySem.Spec PyProof.Rows L2

/-! ### what the top has left -/
def DefAt (K : PySem.W.Frag) (x : Str) (st : Stmt) : Prop := ∃ (f : Addr) (oc : Value) (od an : Option Addr) (sl : Array (Option Value)) (kV dc pm cd ct : Value),
  PySem.W.nsIn K mainGlobals x = some (some (.ref f)) ∧ K.lookup f = some ⟨oc, od, .func (PySem.W.fnOf x x (defArgs st) (defBody st) (defScope st) .none kV dc pm an cd ct), sl⟩ ∧ PySem.W.codeIn K cd x = true ∧ PySem.W.keepIn K (.ref f) = true
theorem DefAt.mk {K : PySem.W.Frag} {x : Str} {st : Stmt} {f : Addr} {oc : Value} {od an : Option Addr} {sl : Array (Option Value)} {kV dc pm cd ct : Value}
    (a : PySem.W.nsIn K mainGlobals x = some (some (.ref f))) (l : K.lookup f = some ⟨oc, od, .func (PySem.W.fnOf x x (defArgs st) (defBody st) (defScope st) .none kV dc pm an cd ct), sl⟩) (c : PySem.W.codeIn K cd x = true) (k : PySem.W.keepIn K (.ref f) = true) : DefAt K x st :=
  ⟨f, oc, od, an, sl, kV, dc, pm, cd, ct, a, l, c, k⟩
/-- a constant of the module: a pair of ints -/
def ConAt (K : PySem.W.Frag) (x : Str) (d : D) : Prop := ∃ u v, PySem.W.nsIn K mainGlobals x = some (some u) ∧ RelV v u ∧ ∀ H, Rep K H d v
theorem ConAt.int {K : PySem.W.Frag} {x : Str} {i : Int} {t : Tok} (a : PySem.W.nsIn K mainGlobals x = some (some (.int i t))) : ConAt K x (.int i) := ⟨_, .int i, a, ⟨t, rfl⟩, fun _ => rfl⟩
theorem ConAt.str {K : PySem.W.Frag} {x : Str} {i : Str} {t : Tok} (a : PySem.W.nsIn K mainGlobals x = some (some (.str i t))) : ConAt K x (.str i) := ⟨_, .str i, a, ⟨t, rfl⟩, fun _ => rfl⟩
theorem ConAt.pair {K : PySem.W.Frag} {x : Str} {i j : Int} {t u : Tok} {f : Addr} {dd : Option Addr} {n : Nat} {sl : Array (Option Value)} (a : PySem.W.nsIn K mainGlobals x = some (some (.ref f)))
    (l : K.lookup f = some ⟨.type "tuple", dd, .seq #[.int i t, .int j u] n, sl⟩) : ConAt K x (.tup [.int i, .int j]) :=
  ⟨_, .ref f, a, rfl, fun H => ⟨f, [.int i, .int j], rfl, .inr ⟨_, _, n, l, rfl, rfl, line2, .cons ⟨t, rfl⟩ (.cons ⟨u, rfl⟩ .nil)⟩, ⟨_, _, rfl, rfl, _, _, rfl, rfl, rfl⟩, line2⟩⟩

theorem fns_nil {Q : Str → Nat → Nat → Prop} : ∀ y h ar, ([] : List (Str × Nat × Nat)).lookup y = some (h, ar) → Q y h ar := by
  intro y h ar e; simp at e
theorem fns_cons {Q : Str → Nat → Nat → Prop} {x : Str} {h0 a0 : Nat} {l : List (Str × Nat × Nat)} (g : Q x h0 a0) (r : ∀ y h ar, l.lookup y = some (h, ar) → Q y h ar) : ∀ y h ar, ((x, h0, a0) :: l).lookup y = some (h, ar) → Q y h ar := by
  intro y h ar e
  rw [List.lookup_cons] at e
  split at e
  · rename_i hb
    cases e
    have : y = x := by simpa using hb
    subst this
    exact g
  · exact r y h ar e
theorem cs_nil {Q : Str → D → Prop} : ∀ y d, ([] : List (Str × D)).lookup y = some d → Q y d := by
  intro y d e; simp at e
theorem cs_cons {Q : Str → D → Prop} {x : Str} {d0 : D} {l : List (Str × D)} (g : Q x d0) (r : ∀ y d, l.lookup y = some d → Q y d) : ∀ y d, ((x, d0) :: l).lookup y = some d → Q y d := by
  intro y d e
  rw [List.lookup_cons] at e
  split at e
  · rename_i hb
    cases e
    have : y = x := by simpa using hb
    subst this
    exact g
  · exact r y d e
theorem noB_mk {K : PySem.W.Frag} (h1 : PySem.W.nsIn K mainGlobals "len" = some none) (h2 : PySem.W.nsIn K mainGlobals "abs" = some none) (h3 : PySem.W.nsIn K mainGlobals "tuple" = some none) (h4 : PySem.W.nsIn K mainGlobals "list" = some none)
    (h5 : PySem.W.nsIn K mainGlobals "all" = some none) (h6 : PySem.W.nsIn K mainGlobals "any" = some none) (h7 : PySem.W.nsIn K mainGlobals "int" = some none) (h8 : PySem.W.nsIn K mainGlobals "isinstance" = some none) (h9 : PySem.W.nsIn K mainGlobals "bool" = some none)
    (h10 : PySem.W.nsIn K mainGlobals "str" = some none) (h11 : PySem.W.nsIn K mainGlobals "range" = some none) (h12 : PySem.W.nsIn K mainGlobals "enumerate" = some none) (h13 : PySem.W.nsIn K mainGlobals "zip" = some none) (h14 : PySem.W.nsIn K mainGlobals "sum" = some none) :
    ∀ y, y ∈ bnames → PySem.W.nsIn K mainGlobals y = some none := by
  intro y hy
  simp only [bnames, List.mem_cons, List.not_mem_nil, or_false] at hy
  rcases hy with rfl | rfl | rfl | rfl | rfl | rfl | rfl | rfl | rfl | rfl | rfl | rfl | rfl | rfl <;> assumption
def NoB (K : PySem.W.Frag) : Prop := ∀ y, y ∈ bnames → PySem.W.nsIn K mainGlobals y = some none

section
variable {P : Program} {w : World} {K : PySem.W.Frag} {mg : Str → Option Value} {base h : Heap} {Γ : Gam} {lev n g : Nat} {x : Str} {st : Stmt} {ps : List Str} {C : Ct} {ir : Ss}
def BindsOk (x : Str) (st : Stmt) (ps : List Str) : Prop := ∀ (kV doc pm : Value) (an : Option Addr) (cdv ct : Value) (us : List Value), us.length = ps.length → bindArgs (PySem.W.fnOf x x (defArgs st) (defBody st) (defScope st) .none kV doc pm an cdv ct) ⟨us, []⟩ = pure (ps.zip us)
theorem good_of (X : K.In h) (G : h.Ns mainGlobals mg) (nb : NoB K) (d : DefAt K x st) (bb : BindsOk x st ps)
    (S : FnScope C.N ps (defScope st)) (hc : cSs n C (defBody st) = some ir) (hw : Body Γ ir C.N.length ps.length (Γ g)) (hsc : C.sc = defScope st) (hfn : C.fn = fun _ => true)
    (hfns : ∀ y h ar, C.fns.lookup y = some (h, ar) → Good P w K mg base Γ lev y h ar)
    (hcs : ∀ y d, C.cs.lookup y = some d → ConAt K y d) : Good P w K mg base Γ (lev + 1) x g ps.length := by
  obtain ⟨f, oc, od, an, sl, kV, dc, pm, cd, ct, a, l, c, k⟩ := d
  have F := fun_mk (st := st) l c k
  refine def_ok (PySem.W.mg_of X G a) F S (F.binds bb) hsc hfn hc hw hfns (fun y d e => ?_) fun y hy _ _ => PySem.W.mg_none_of X G (nb y hy)
  obtain ⟨u, v, h1, h2, h3⟩ := hcs y d e
  exact ⟨u, v, PySem.W.mg_of X G h1, h2, h3⟩
/-- a promise that is never asked -/
theorem good_zero (X : K.In h) (G : h.Ns mainGlobals mg) (d : DefAt K x st) (bb : BindsOk x st ps) (hz : ∀ ds M q, ¬ Γ g ds M q) : Good P w K mg base Γ lev x g ps.length := by
  obtain ⟨f, oc, od, an, sl, kV, dc, pm, cd, ct, a, l, c, k⟩ := d
  have F := fun_mk (st := st) l c k
  exact ⟨f, _, ps, PySem.W.mg_of X G a, k, ⟨fun vs H Q E hh => hh.1, fun A outer s H args us vs Q E hr e0 hb r hs => by
    obtain ⟨_, ds, M, q, _, _, hp, _⟩ := hs
    exact (hz ds M q hp).elim⟩, F.binds bb, rfl⟩
/-- the law's own def -/
theorem law_of {l : PySem.W.OpenLaw} {fa : Addr} (X : K.In h) (G : h.Ns mainGlobals mg) (hfa : mg x = some (.ref fa)) (nb : NoB K) (d : DefAt K x st) (bb : BindsOk x st ps)
    (S : FnScope C.N ps (defScope st)) (hc : cSs n C (defBody st) = some ir) (hw : Body Γ ir C.N.length ps.length (Γ g)) (hsc : C.sc = defScope st) (hfn : C.fn = fun _ => true)
    (hfns : ∀ base, K.In base → base.Ns mainGlobals mg → ∀ y h ar, C.fns.lookup y = some (h, ar) → Good l.prog w K mg base Γ lev y h ar)
    (hcs : ∀ y d, C.cs.lookup y = some d → ConAt K y d) (hps : ps = (["script"] : List Str)) :
    ∃ fd : FuncData, (∀ (s : Shared) (v : Value), BindsTo s fd ⟨[v], []⟩ [("script", v)]) ∧ ∀ base : Heap, K.In base → base.Ns mainGlobals mg → FnOk l.prog w K mg base CX0 (lev + 1) fa fd ["script"] (LSp K 1 (Γ g)) := by
  obtain ⟨f, oc, od, an, sl, kV, dc, pm, cd, ct, a, lk, c, k⟩ := d
  have F := fun_mk (st := st) lk c k
  have e := hfa.symm.trans (PySem.W.mg_of X G a)
  cases e
  subst hps
  refine ⟨_, fun s v => .of_eq (bb kV dc pm an cd ct [v] rfl), fun base hk hg => ?_⟩
  refine F.ok S (fun vs H Q E h => h.1) (fun cdv A outer s H vs Q E hr h => ?_)
  obtain ⟨hl, ds, M, q, r, m, hp, k⟩ := h
  have hdl : ds.length = 1 := by rw [r.length]; exact hl
  have o : Ok Γ C (cxOf CX0 l.prog w K mg base C.N x (defScope st) fa cdv A outer s H E).nox :=
    ⟨rfl, S.nd, hsc.symm, rfl, fun _ _ => rfl, hr.units, rfl, fun y h ar e => by
      obtain ⟨f', fd', ps', a1, a2, a3, a4, a5⟩ := hfns base hk hg y h ar e
      exact ⟨f', fd', ps', lev, a1, a2, a3, a4, hr, a5⟩, fun y d e => by
      obtain ⟨u, v, h1, h2, h3⟩ := hcs y d e
      exact ⟨u, v, PySem.W.mg_of X G h1, h2, h3⟩, fun y hy _ _ => PySem.W.mg_none_of X G (nb y hy)⟩
  refine ⟨_, (ss (Γ := Γ) n).ss C _ ir hc _ o S.kind, ?_⟩
  refine ⟨entry C.N.length ds, M, _, repE_start r, m, hw ds M q hdl hp, ?_⟩
  have fin : ∀ d M' v H', Step M H M' H' → Rep K H' d v → RepM K H' M' → (∃ M'', Sub M'' M' ∧ q d M'') → Q v H' := fun d M' v H' s rd m' ⟨M'', sb, z⟩ => by
    refine k d M'' v H' ⟨s.tup, s.frz, s.lst, fun a o hn ho => sb.none (s.dom a o hn ho), s.live⟩ rd (fun a es e => m' a es (sb a es e)) z
  exact ⟨fun ρ' M' σ' H' s _ m' z => fin .non M' .non H' s rfl m' z, fin, fun _ _ _ _ _ _ _ z => z.elim, fun _ _ _ _ _ _ _ z => z.elim⟩
end
/-- the promise of a law: the script comes in, True goes out -/
def spLaw : List D → Mem → K1 → Prop := fun ds M q => ∃ a ns, ds = [.scr a ns] ∧ ns.length ≤ 63 ∧ ∀ M', q (.bl true) M'
theorem law_start {K : PySem.W.Frag} {H : Hp} {a : Addr} {ns : List Int} (hl : ns.length ≤ 63) (hO : Only H) (hS : SqL K H a (ns.map V.int)) : LSp K 1 spLaw [.ref a] H (fun v _ => v = .bl true) fun _ _ _ => False := by
  have hF : SqF K H a (ns.map V.int) := by
    rcases hS with (h | ⟨o, h⟩) | h
    · rcases hO a with z | ⟨o, xs, z⟩
      · rw [h] at z; cases z
      · rw [h] at z; cases z
    · exact .inl ⟨o, h⟩
    · exact .inr h
  have hM : RepM K H (fun _ => none) := by
    intro b ds e
    cases e
  have hR : RepL K H [.scr a ns] [.ref a] := RepL.single ⟨rfl, hF⟩
  have hP : spLaw [.scr a ns] (fun _ => none) (fun d _ => d = .bl true) := ⟨a, ns, rfl, hl, fun _ => rfl⟩
  refine ⟨rfl, [.scr a ns], fun _ => none, fun d _ => d = .bl true, hR, hM, hP, ?_⟩
  intro d M' v H' s r m e
  have e : d = .bl true := e
  subst e
  exact r
end TB

namespace TB
open PySem PySem.Spec PyProof.Rows L2

/-! ### sizes -/
def Sz (n : Nat) (i : Int) : Prop := i.natAbs < 2 ^ n
theorem Sz.mono {m n : Nat} {i : Int} (h : Sz m i) (e : m ≤ n) : Sz n i := Nat.lt_of_lt_of_le h (Nat.pow_le_pow_right (by decide) e)
theorem Sz.of_le {n : Nat} {i j : Int} (h : Sz n j) (e : i.natAbs ≤ j.natAbs) : Sz n i := Nat.lt_of_le_of_lt e h
theorem Sz.neg {n : Nat} {i : Int} (h : Sz n i) : Sz n (-i) := by unfold Sz at *; rwa [Int.natAbs_neg]
theorem Sz.add {m k : Nat} {i j : Int} (a : Sz m i) (b : Sz m j) (e : m + 1 ≤ k) : Sz k (i + j) := by
  refine Sz.mono ?_ e
  unfold Sz at *
  have := Int.natAbs_add_le i j
  rw [Nat.pow_succ]; omega
theorem Sz.sub {m k : Nat} {i j : Int} (a : Sz m i) (b : Sz m j) (e : m + 1 ≤ k) : Sz k (i - j) := by
  rw [Int.sub_eq_add_neg]; exact a.add b.neg e
theorem Sz.mul {m n k : Nat} {i j : Int} (a : Sz m i) (b : Sz n j) (e : m + n ≤ k) : Sz k (i * j) := by
  refine Sz.mono ?_ e
  unfold Sz at *
  rw [Int.natAbs_mul, Nat.pow_add]
  exact Nat.mul_lt_mul'' a b
theorem Sz.ok {m n : Nat} {i j : Int} (a : Sz m i) (b : Sz n j) (e : m + n ≤ 999998) : IntMulOk i j :=
  (wide_mul (a := m + 1) (b := n + 1) (a.mono (by omega)) (b.mono (by omega)) (by omega) (by omega) (by omega)).ok
theorem mul_small_left {i j : Int} (h : i.natAbs < 2 ^ 64) : IntMulOk i j := .of_left (intBits_le_64 (by omega) (by omega))
theorem mul_small_right {i j : Int} (h : j.natAbs < 2 ^ 64) : IntMulOk i j := .of_right (intBits_le_64 (by omega) (by omega))
theorem Sz.dv {n : Nat} {j : Int} (h : Sz n j) (e : n ≤ 9000) : DvOk j := by
  unfold DvOk
  by_cases z : j.natAbs = 0
  · rw [z]; decide
  · exact Nat.lt_of_lt_of_le ((Nat.log2_lt z).mpr h) e
theorem Sz.fdiv {n : Nat} {i j : Int} (h : Sz n i) (hj : 0 < j) : Sz n (i.fdiv j) := by
  refine h.of_le ?_
  rw [Int.fdiv_eq_ediv_of_nonneg _ (Int.le_of_lt hj)]
  have := Int.natAbs_ediv_le_natAbs i j
  exact this
theorem Sz.small {n : Nat} {i : Int} (k : Nat) (h : i.natAbs < k) (e : k ≤ 2 ^ n) : Sz n i := Nat.lt_of_lt_of_le h e
theorem Sz.lit {n : Nat} {i : Int} (m : Nat) (h : i.natAbs < 2 ^ m) (e : m ≤ n) : Sz n i := Sz.mono h e

/-! ### ratios -/
def rat (r : Rat) : D := .tup [.int r.num, .int r.den]
structure SzR (n : Nat) (r : Rat) : Prop where
  num : Sz n r.num
  den : Sz n r.den
theorem SzR.mono {m n : Nat} {r : Rat} (h : SzR m r) (e : m ≤ n) : SzR n r := ⟨h.num.mono e, h.den.mono e⟩
theorem SzR.neg {n : Nat} {r : Rat} (h : SzR n r) : SzR n (-r) := ⟨by rw [Rat.neg_num]; exact h.num.neg, by rw [Rat.neg_den]; exact h.den⟩
theorem SzR.divInt {n : Nat} {a b : Int} (ha : Sz n a) (hb : Sz n b) (z : b ≠ 0) : SzR n (Rat.divInt a b) := by
  refine ⟨ha.of_le ?_, hb.of_le ?_⟩
  · rw [Rat.num_divInt]
    refine Nat.le_trans (Int.natAbs_ediv_le_natAbs _ _) ?_
    rw [Int.natAbs_mul]
    rcases Int.lt_or_gt_of_ne z with h | h
    · rw [Int.sign_eq_neg_one_of_neg h]; simp
    · rw [Int.sign_eq_one_of_pos h]; simp
  · rw [Rat.den_divInt, if_neg z]
    simp only [Int.natAbs_natCast]
    exact Nat.div_le_self _ _
theorem rat_add (x y : Rat) : Rat.divInt (x.num * y.den + y.num * x.den) ((x.den : Int) * y.den) = x + y := by
  rw [Rat.add_def', show ((x.den : Int) * y.den) = ((x.den * y.den : Nat) : Int) from by simp, Rat.divInt_ofNat]
theorem rat_sub (x y : Rat) : Rat.divInt (x.num * y.den - y.num * x.den) ((x.den : Int) * y.den) = x - y := by
  rw [Rat.sub_def', show ((x.den : Int) * y.den) = ((x.den * y.den : Nat) : Int) from by simp, Rat.divInt_ofNat]
theorem rat_mul (x y : Rat) : Rat.divInt (x.num * y.num) ((x.den : Int) * y.den) = x * y := by
  rw [Rat.mul_def', show ((x.den : Int) * y.den) = ((x.den * y.den : Nat) : Int) from by simp, Rat.divInt_ofNat]
theorem den_ne (x : Rat) : (x.den : Int) ≠ 0 := by have := x.den_nz; omega
theorem den_pos (x : Rat) : (0 : Int) < x.den := by have := x.den_nz; omega
theorem rat_div (x y : Rat) : Rat.divInt (x.num * y.den) ((x.den : Int) * y.num) = x / y := by
  rw [Rat.div_def, Rat.inv_def]
  conv => rhs; rw [← Rat.num_divInt_den x]
  rw [Rat.divInt_mul_divInt]
theorem SzR.add {m k : Nat} {x y : Rat} (a : SzR m x) (b : SzR m y) (e : 2 * m + 1 ≤ k) : SzR k (x + y) := by
  rw [← rat_add]
  exact .divInt ((a.num.mul b.den (Nat.le_refl _)).add (b.num.mul a.den (by omega)) (by omega)) (a.den.mul b.den (by omega)) (Int.mul_ne_zero (den_ne x) (den_ne y))
theorem SzR.sub {m k : Nat} {x y : Rat} (a : SzR m x) (b : SzR m y) (e : 2 * m + 1 ≤ k) : SzR k (x - y) := by
  rw [← rat_sub]
  exact .divInt ((a.num.mul b.den (Nat.le_refl _)).sub (b.num.mul a.den (by omega)) (by omega)) (a.den.mul b.den (by omega)) (Int.mul_ne_zero (den_ne x) (den_ne y))
theorem SzR.mul {m n k : Nat} {x y : Rat} (a : SzR m x) (b : SzR n y) (e : m + n ≤ k) : SzR k (x * y) := by
  rw [← rat_mul]
  exact .divInt (a.num.mul b.num e) (a.den.mul b.den e) (Int.mul_ne_zero (den_ne x) (den_ne y))
theorem SzR.div {m n k : Nat} {x y : Rat} (a : SzR m x) (b : SzR n y) (z : y ≠ 0) (e : m + n ≤ k) : SzR k (x / y) := by
  rw [← rat_div]
  exact .divInt (a.num.mul b.den e) (a.den.mul b.num e) (Int.mul_ne_zero (den_ne x) (fun h => z (Rat.num_eq_zero.mp h)))

/-- what the code makes of p and q -/
theorem ratio_pos {p q : Int} (h : 0 < q) : D.tup [.int (p.fdiv (Int.gcd p q)), .int (q.fdiv (Int.gcd p q))] = rat (Rat.divInt p q) := by
  have hg : (0 : Int) ≤ Int.gcd p q := Int.natCast_nonneg _
  unfold rat
  rw [Rat.num_divInt, Rat.den_divInt, if_neg (by omega), Int.sign_eq_one_of_pos h, Int.fdiv_eq_ediv_of_nonneg _ hg, Int.fdiv_eq_ediv_of_nonneg _ hg, Int.gcd_comm q p, Int.one_mul]
  congr 3
  rw [Int.natCast_ediv, Int.natAbs_of_nonneg (Int.le_of_lt h)]
theorem gcd_pos {p q : Int} (h : q ≠ 0) : (0 : Int) < Int.gcd p q := by
  have := Int.gcd_pos_of_ne_zero_right p h
  omega
/-- Euclid -/
theorem gcd_step (a b : Int) : Int.gcd b (a.fmod b) = Int.gcd a b := by
  rw [Int.gcd_comm a b]
  have e : a.fmod b = a + b * (-(a.fdiv b)) := by
    have := Int.fmod_def a b
    rw [this, Int.mul_neg]; omega
  rw [e, Int.gcd_add_mul_left_right]
theorem gcd_abs (a b : Int) : Int.gcd a.natAbs b.natAbs = Int.gcd a b := by simp [Int.gcd]
def isRat : D → Bool
  | .tup [.int a, .int b] => decide (0 < b) && decide (Int.gcd a b = 1)
  | _ => false
theorem isRat_len {ds : List D} (h : ds.length ≠ 2) : isRat (.tup ds) = false := by
  unfold isRat
  split
  · rename_i e; cases e; simp at h
  · rfl
theorem isRat_a {a b : D} (h : ∀ i, a ≠ .int i) : isRat (.tup [a, b]) = false := by
  unfold isRat
  split
  · rename_i e; cases e; exact (h _ rfl).elim
  · rfl
theorem isRat_b {a b : D} (h : ∀ i, b ≠ .int i) : isRat (.tup [a, b]) = false := by
  unfold isRat
  split
  · rename_i e; cases e; exact (h _ rfl).elim
  · rfl
theorem isRat_int {a b : Int} : isRat (.tup [.int a, .int b]) = (decide (0 < b) && decide (Int.gcd a b = 1)) := rfl
def isWh : D → Bool
  | .int _ => true
  | _ => false

theorem isWh_int {i : Int} : isWh (.int i) = true := rfl
/-! ### words at known places -/
theorem at0 {α : Type} (a : α) (l : List α) : atI (a :: l) 0 = some a := by simp [atI, ixN]
theorem at1 {α : Type} (a b : α) (l : List α) : atI (a :: b :: l) 1 = some b := by simp [atI, ixN, show (1 : Int) < l.length + 1 + 1 from by omega]
theorem at2 {α : Type} (a b c : α) (l : List α) : atI (a :: b :: c :: l) 2 = some c := by simp [atI, ixN, show (2 : Int) < l.length + 1 + 1 + 1 from by omega]
theorem at3 {α : Type} (a b c d : α) (l : List α) : atI (a :: b :: c :: d :: l) 3 = some d := by simp [atI, ixN, show (3 : Int) < l.length + 1 + 1 + 1 + 1 from by omega]
theorem atNat {α : Type} (l : List α) (i : Nat) : atI l (i : Int) = l[i]? := by
  simp only [atI, ixN, Int.natCast_nonneg, if_true]
  split
  · simp
  · rename_i h
    have : l.length ≤ i := by omega
    simp [this]
theorem atLast {α : Type} (l : List α) (a : α) : atI (l ++ [a]) (-1) = some a := by
  simp only [atI, ixN]
  rw [if_neg (by omega), if_pos (by simp; omega)]
  have : (-1 + ((l ++ [a]).length : Int)).toNat = l.length := by simp; omega
  rw [this]
  simp
end TB

namespace TB
open PySem PySem.Spec PyProof.Rows L2

def sp_is_whole : List D → Mem → K1 → Prop := fun ds M q => ∃ d, ds = [d] ∧ d.pure = true ∧ q (.bl (isWh d)) M
def sp_common_divisor : List D → Mem → K1 → Prop := fun ds M q => ∃ a b, ds = [.int a, .int b] ∧ q (.int (Int.gcd a b)) M
def sp_is_ratio : List D → Mem → K1 → Prop := fun ds M q => ∃ d, ds = [d] ∧ d.pure = true ∧ q (.bl (isRat d)) M
def sp_ratio : List D → Mem → K1 → Prop := fun ds M q => ∃ a b, ds = [.int a, .int b] ∧ b ≠ 0 ∧ Sz 8100 a ∧ Sz 8100 b ∧ q (rat (Rat.divInt a b)) M
def sp_rr (n : Nat) (f : Rat → Rat → D) : List D → Mem → K1 → Prop := fun ds M q => ∃ x y, ds = [rat x, rat y] ∧ SzR n x ∧ SzR n y ∧ q (f x y) M
def sp_plus := sp_rr 4000 fun x y => rat (x + y)
def sp_minus := sp_rr 4000 fun x y => rat (x - y)
def sp_times := sp_rr 4000 fun x y => rat (x * y)
def sp_less := sp_rr 4000 fun x y => .bl (decide (x < y))
def sp_over : List D → Mem → K1 → Prop := fun ds M q => ∃ x y, ds = [rat x, rat y] ∧ SzR 4000 x ∧ SzR 4000 y ∧ y ≠ 0 ∧ q (rat (x / y)) M
def sumR (l : List Rat) : Rat := l.foldl (· + ·) 0
def sp_law_divisor : List D → Mem → K1 → Prop := fun ds M q => ∃ a b, ds = [.int a, .int b] ∧ Sz 8200 a ∧ Sz 8200 b ∧ q (.int (Int.gcd a b)) M
def sp_law_ratio := sp_ratio
def sp_law_plus := sp_plus
def sp_law_times := sp_times

theorem rat_inj {x y : Rat} (h : rat x = rat y) : x = y := by
  unfold rat at h
  injection h with h
  injection h with a h
  injection h with b h
  injection a with a
  injection b with b
  exact Rat.ext a (by omega)
theorem sp_is_whole_eq {d : D} {M : Mem} {q : K1} : sp_is_whole [d] M q = (d.pure = true ∧ q (.bl (isWh d)) M) := by simp [sp_is_whole]
theorem sp_common_divisor_eq {a b : Int} {M : Mem} {q : K1} : sp_common_divisor [.int a, .int b] M q = q (.int (Int.gcd a b)) M := propext ⟨fun ⟨_, _, e, h⟩ => by cases e; exact h, fun h => ⟨_, _, rfl, h⟩⟩
theorem sp_is_ratio_eq {d : D} {M : Mem} {q : K1} : sp_is_ratio [d] M q = (d.pure = true ∧ q (.bl (isRat d)) M) := by simp [sp_is_ratio]
theorem sp_ratio_eq {a b : Int} {M : Mem} {q : K1} : sp_ratio [.int a, .int b] M q = (b ≠ 0 ∧ Sz 8100 a ∧ Sz 8100 b ∧ q (rat (Rat.divInt a b)) M) := propext ⟨fun ⟨_, _, e, h⟩ => by cases e; exact h, fun h => ⟨_, _, rfl, h⟩⟩
theorem sp_law_divisor_eq {a b : Int} {M : Mem} {q : K1} : sp_law_divisor [.int a, .int b] M q = (Sz 8200 a ∧ Sz 8200 b ∧ q (.int (Int.gcd a b)) M) := propext ⟨fun ⟨_, _, e, h⟩ => by cases e; exact h, fun h => ⟨_, _, rfl, h⟩⟩
theorem sp_rr_eq {n : Nat} {f : Rat → Rat → D} {x y : Rat} {M : Mem} {q : K1} : sp_rr n f [rat x, rat y] M q = (SzR n x ∧ SzR n y ∧ q (f x y) M) := by
  unfold sp_rr
  apply propext
  constructor
  · rintro ⟨a, b, h, r⟩
    injection h with h1 h
    injection h with h2 h
    rw [rat_inj h1, rat_inj h2]
    exact r
  · exact fun h => ⟨x, y, rfl, h⟩
theorem sp_over_eq {x y : Rat} {M : Mem} {q : K1} : sp_over [rat x, rat y] M q = (SzR 4000 x ∧ SzR 4000 y ∧ y ≠ 0 ∧ q (rat (x / y)) M) := by
  unfold sp_over
  apply propext
  constructor
  · rintro ⟨a, b, h, r⟩
    injection h with h1 h
    injection h with h2 h
    rw [rat_inj h1, rat_inj h2]
    exact r
  · exact fun h => ⟨x, y, rfl, h⟩
theorem ix_rat0 {x : Rat} {M : Mem} {q : K1} : ixW (rat x) (.int 0) M q = q (.int x.num) M := by simp [ixW, rat, at0]
theorem ix_rat1 {x : Rat} {M : Mem} {q : K1} : ixW (rat x) (.int 1) M q = q (.int x.den) M := by simp [ixW, rat, at1]
theorem ixW_tup {ds : List D} {i : Int} {M : Mem} {q : K1} : ixW (.tup ds) (.int i) M q = ∃ d, atI ds i = some d ∧ q d M := rfl
theorem eqW_int {i j : Int} {M : Mem} {q : Bool → Prop} : eqW (.int i) (.int j) M q = q (decide (i = j)) := by
  simp only [eqW, D.pure, D.depth, deq, Nat.zero_le, true_and]
  rfl
theorem eqW_bl {i j : Bool} {M : Mem} {q : Bool → Prop} : eqW (.bl i) (.bl j) M q = q (i == j) := by
  simp [eqW, D.pure, D.depth, deq]
theorem isT_tup {t : Ty} {xs : List D} {M : Mem} {q : K1} : isTW t [.tup xs] M q = q (.bl (isTy t (.tup xs))) M := rfl
theorem isT_pure {t : Ty} {d : D} (h : d.pure = true) {M : Mem} {q : K1} : isTW t [d] M q = q (.bl (isTy t d)) M := by
  cases d <;> first | rfl | simp [D.pure] at h


/-! ### plain data, bounded -/
def fitN : Nat → D → Bool
  | _, .non => true
  | _, .bl _ => true
  | _, .int _ => true
  | _, .str s => PyData.strOk s
  | k + 1, .tup ds => decide (ds.length ≤ 1000000) && ds.all (fitN k)
  | _, _ => false
theorem fit_pure : ∀ {k : Nat} {d : D}, fitN k d = true → d.pure = true
  | 0, d, h => by cases d <;> simp_all [fitN, D.pure]
  | k + 1, .tup ds, h => by
    simp only [fitN, Bool.and_eq_true, decide_eq_true_eq, List.all_eq_true] at h
    have : ∀ es : List D, (∀ x ∈ es, fitN k x = true) → D.pureL es = true := by
      intro es he
      induction es with
      | nil => rfl
      | cons e es ih => simp only [D.pureL, Bool.and_eq_true]; exact ⟨fit_pure (he e (by simp)), ih fun x hx => he x (by simp [hx])⟩
    exact this ds h.2
  | k + 1, .non, h => rfl
  | k + 1, .bl _, h => rfl
  | k + 1, .int _, h => rfl
  | k + 1, .str _, h => h
  | k + 1, .lst _, h => by simp [fitN] at h
  | k + 1, .scr _ _, h => by simp [fitN] at h
theorem fit_mono : ∀ {k l : Nat} {d : D}, fitN k d = true → k ≤ l → fitN l d = true
  | 0, l, d, h, e => by cases d <;> cases l <;> simp_all [fitN]
  | k + 1, l + 1, .tup ds, h, e => by
    simp only [fitN, Bool.and_eq_true, decide_eq_true_eq, List.all_eq_true] at h ⊢
    exact ⟨h.1, fun x hx => fit_mono (h.2 x hx) (by omega)⟩
  | k + 1, l + 1, .non, h, e => rfl
  | k + 1, l + 1, .bl _, h, e => rfl
  | k + 1, l + 1, .int _, h, e => rfl
  | k + 1, l + 1, .str _, h, e => h
  | k + 1, l + 1, .lst _, h, e => by simp [fitN] at h
  | k + 1, l + 1, .scr _ _, h, e => by simp [fitN] at h
/-- two alike -/
def sp_law_same (k : Nat) : List D → Mem → K1 → Prop := fun ds M q => k ≠ 0 ∧ ∃ a, ds = [a, a] ∧ fitN (k - 1) a = true ∧ q (.bl true) M
theorem sp_law_same_eq {k : Nat} {a b : D} {M : Mem} {q : K1} : sp_law_same (k + 1) [a, b] M q = (a = b ∧ fitN k a = true ∧ q (.bl true) M) := by
  apply propext
  constructor
  · rintro ⟨_, c, h, r⟩
    injection h with h1 h
    injection h with h2 h
    subst h1; subst h2
    exact ⟨rfl, r⟩
  · rintro ⟨rfl, r⟩
    exact ⟨by omega, a, rfl, r⟩
theorem fit_len {k : Nat} {ds : List D} (h : fitN (k + 1) (.tup ds) = true) : ds.length ≤ 1000000 ∧ ∀ d ∈ ds, fitN k d = true := by
  simpa only [fitN, Bool.and_eq_true, decide_eq_true_eq, List.all_eq_true] using h
theorem fit_rat {k : Nat} {x : Rat} : fitN (k + 1) (rat x) = true := by
  cases k <;> simp [rat, fitN]

/-! ### the box of draws -/
def BoxAt (M : Mem) (b c : Addr) : Prop := b ≠ c ∧ ∃ (cells : List Int) (cur seed : Int), M b = some [.lst c, .int cur, .int seed] ∧ M c = some (cells.map D.int) ∧ 0 ≤ cur ∧ 0 ≤ seed ∧ seed < 4294967296 ∧ cells.length ≤ 63
/-- all else stays -/
def Fr (b c : Addr) (M M' : Mem) : Prop := ∀ a ds, a ≠ b → a ≠ c → M a = some ds → M' a = some ds
theorem Fr.refl {b c : Addr} {M : Mem} : Fr b c M M := fun _ _ _ _ h => h
theorem Fr.trans {b c : Addr} {M M1 M2 : Mem} (x : Fr b c M M1) (y : Fr b c M1 M2) : Fr b c M M2 := fun a ds h1 h2 h => y a ds h1 h2 (x a ds h1 h2 h)
theorem Fr.up {b c p : Addr} {M : Mem} {l : List D} (h : M p = Option.none) : Fr b c M (M.up p l) := fun a ds _ _ e => by
  rw [up_ne (fun z => by subst z; rw [h] at e; cases e)]; exact e
theorem Fr.atB {b c : Addr} {M : Mem} {l : List D} : Fr b c M (M.up b l) := fun a ds h _ e => by rw [up_ne h]; exact e
theorem Fr.atC {b c : Addr} {M : Mem} {l : List D} : Fr b c M (M.up c l) := fun a ds _ h e => by rw [up_ne h]; exact e
theorem ne_some {M : Mem} {a p : Addr} {l : List D} (h : M a = some l) (hp : M p = Option.none) : a ≠ p := fun e => by subst e; rw [h] at hp; cases hp
theorem BoxAt.up {M : Mem} {b c p : Addr} {l : List D} (h : BoxAt M b c) (hp : M p = Option.none) : BoxAt (M.up p l) b c := by
  obtain ⟨n, cells, cur, seed, h1, h2, r⟩ := h
  exact ⟨n, cells, cur, seed, by rw [up_ne (ne_some h1 hp)]; exact h1, by rw [up_ne (ne_some h2 hp)]; exact h2, r⟩
theorem BoxAt.nb {M : Mem} {b c p : Addr} (h : BoxAt M b c) (hp : M p = Option.none) : p ≠ b ∧ p ≠ c := by
  obtain ⟨n, cells, cur, seed, h1, h2, r⟩ := h
  exact ⟨(ne_some h1 hp).symm, (ne_some h2 hp).symm⟩
def sp_law_box : List D → Mem → K1 → Prop := fun ds M q => ∃ a ns, ds = [.scr a ns] ∧ ns.length ≤ 63 ∧ ∀ b c M', M b = Option.none → M c = Option.none → BoxAt M' b c → Fr b c M M' → q (.lst b) M'
theorem sp_law_box_eq {a : Addr} {ns : List Int} {M : Mem} {q : K1} : sp_law_box [.scr a ns] M q = (ns.length ≤ 63 ∧ ∀ b c M', M b = Option.none → M c = Option.none → BoxAt M' b c → Fr b c M M' → q (.lst b) M') :=
  propext ⟨fun ⟨_, _, e, h⟩ => by cases e; exact h, fun h => ⟨a, ns, rfl, h⟩⟩
theorem BoxAt.upL {M : Mem} {b c p : Addr} {l : List D} (h : BoxAt M b c) (hb : p ≠ b) (hc : p ≠ c) : BoxAt (M.up p l) b c := by
  obtain ⟨n, cells, cur, seed, h1, h2, r⟩ := h
  exact ⟨n, cells, cur, seed, by rw [up_ne hb.symm]; exact h1, by rw [up_ne hc.symm]; exact h2, r⟩
/-- a draw: something that keeps the box -/
def spDr (P : D → Prop) : List D → Mem → K1 → Prop := fun ds M q => ∃ b c, ds = [.lst b] ∧ BoxAt M b c ∧ ∀ d M', P d → BoxAt M' b c → Fr b c M M' → q d M'
theorem spDr_eq {P : D → Prop} {b : Addr} {M : Mem} {q : K1} : spDr P [.lst b] M q = ∃ c, BoxAt M b c ∧ ∀ d M', P d → BoxAt M' b c → Fr b c M M' → q d M' := propext ⟨fun ⟨_, c, e, h⟩ => by cases e; exact ⟨c, h⟩, fun ⟨c, h⟩ => ⟨b, c, rfl, h⟩⟩
def sp_law_load := spDr fun d => ∃ v, d = .int v ∧ 0 ≤ v
def sp_law_draw : List D → Mem → K1 → Prop := fun ds M q => ∃ b c many, ds = [.lst b, .int many] ∧ BoxAt M b c ∧ 0 < many ∧ Sz 8000 many ∧ ∀ v M', 0 ≤ v → v < many → BoxAt M' b c → Fr b c M M' → q (.int v) M'
theorem sp_law_draw_eq {b : Addr} {many : Int} {M : Mem} {q : K1} : sp_law_draw [.lst b, .int many] M q = ∃ c, BoxAt M b c ∧ 0 < many ∧ Sz 8000 many ∧ ∀ v M', 0 ≤ v → v < many → BoxAt M' b c → Fr b c M M' → q (.int v) M' :=
  propext ⟨fun ⟨_, c, _, e, h⟩ => by cases e; exact ⟨c, h⟩, fun ⟨c, h⟩ => ⟨b, c, many, rfl, h⟩⟩
theorem body1 {Γ : Gam} {ir : Ss} {N : Nat} {p : List D → Mem → K1 → Prop} (h : ∀ d M q, p [d] M q → wpSs Γ ir (entry N [d]) M ⟨fun _ M' => Out q .non M', Out q, fun _ _ => False, fun _ _ => False⟩) : Body Γ ir N 1 p := fun ds M q hl hp => by
  match ds, hl with
  | [d], _ => exact h d M q hp
theorem body2 {Γ : Gam} {ir : Ss} {N : Nat} {p : List D → Mem → K1 → Prop} (h : ∀ d e M q, p [d, e] M q → wpSs Γ ir (entry N [d, e]) M ⟨fun _ M' => Out q .non M', Out q, fun _ _ => False, fun _ _ => False⟩) : Body Γ ir N 2 p := fun ds M q hl hp => by
  match ds, hl with
  | [d, e], _ => exact h d e M q hp
theorem isT_rat {t : Ty} {x : Rat} {M : Mem} {q : K1} : isTW t [rat x] M q = q (.bl (isTy t (rat x))) M := rfl
end TB

namespace TB
open PySem PySem.Spec PyProof.Rows L2
def reps : Nat → En
  | 0 => []
  | n + 1 => Option.none :: reps n
theorem entry_eq {n : Nat} {ds : List D} : entry n ds = ds.map some ++ reps (n - ds.length) := by
  have : ∀ k, List.replicate k (Option.none : Option D) = reps k := fun k => by
    induction k with
    | zero => rfl
    | succ k ih => rw [List.replicate_succ, ih]; rfl
  unfold entry
  rw [this]
/-! ### words on values that are seen -/
section
variable {M : Mem} {q : K1} {r : Bool → Prop} {i j : Int} {a b : Addr} {xs ys : List D} {s t : Str} {k l : Bool} {R : KI} {m : Mem → Prop} {v : D}
theorem add_int : binW .add (.int i) (.int j) M q = q (.int (i + j)) M := rfl
theorem sub_int : binW .sub (.int i) (.int j) M q = q (.int (i - j)) M := rfl
theorem imul_int : binW .mul (.int i) (.int j) M q = (IntMulOk i j ∧ q (.int (i * j)) M) := rfl
theorem fdiv_int : binW .fdiv (.int i) (.int j) M q = ((j ≠ 0 ∧ DvOk j) ∧ q (.int (i.fdiv j)) M) := rfl
theorem mod_int : binW .mod (.int i) (.int j) M q = (j ≠ 0 ∧ q (.int (i.fmod j)) M) := rfl
theorem pow_int : binW .pow (.int i) (.int j) M q = ((0 ≤ j ∧ j ≤ 1000000 ∧ i.natAbs < 2 ^ 64) ∧ q (.int (i ^ j.toNat)) M) := rfl
theorem add_str : binW .add (.str s) (.str t) M q = (s.length + t.length ≤ sizeLine ∧ q (.str (s ++ t)) M) := rfl
theorem add_tup : binW .add (.tup xs) (.tup ys) M q = (xs.length + ys.length ≤ sizeLine ∧ q (.tup (xs ++ ys)) M) := rfl
theorem add_lst : binW .add (.lst a) (.lst b) M q = ∃ xs, M a = some xs ∧ ∃ ys, M b = some ys ∧ xs.length + ys.length ≤ sizeLine ∧ ∀ p, M p = Option.none → q (.lst p) (M.up p (xs ++ ys)) :=
  propext ⟨fun ⟨x, y, h1, h2, h⟩ => ⟨x, h1, y, h2, h⟩, fun ⟨x, h1, y, h2, h⟩ => ⟨x, y, h1, h2, h⟩⟩
theorem mul_tup : binW .mul (.tup xs) (.int j) M q = ((xs ≠ [] ∧ 2 ≤ j ∧ j ≤ 1000 ∧ xs.length ≤ 1000) ∧ q (.tup (List.replicate j.toNat xs).flatten) M) := rfl
theorem cmp_isb : cmpW .isN (.bl k) (.bl l) M r = r (decide (k = l)) := rfl
theorem cmp_isntb : cmpW .notN (.bl k) (.bl l) M r = r (!decide (k = l)) := rfl
theorem aug_lst : augW .add (.lst a) (.lst b) M q = ∃ xs, M a = some xs ∧ ∃ ys, M b = some ys ∧ xs.length + ys.length ≤ sizeLine ∧ q (.lst a) (M.up a (xs ++ ys)) :=
  propext ⟨fun ⟨x, y, h1, h2, h⟩ => ⟨x, h1, y, h2, h⟩, fun ⟨x, h1, y, h2, h⟩ => ⟨x, y, h1, h2, h⟩⟩
theorem aug_add : augW .add (.int i) (.int j) M q = q (.int (i + j)) M := rfl
theorem aug_sub : augW .sub (.int i) (.int j) M q = q (.int (i - j)) M := rfl
theorem aug_mul : augW .mul (.int i) (.int j) M q = (IntMulOk i j ∧ q (.int (i * j)) M) := rfl
theorem lt_int : cmpW .lt (.int i) (.int j) M r = r (decide (i < j)) := rfl
theorem le_int : cmpW .le (.int i) (.int j) M r = r (decide (i ≤ j)) := rfl
theorem gt_int : cmpW .gt (.int i) (.int j) M r = r (decide (j < i)) := rfl
theorem ge_int : cmpW .ge (.int i) (.int j) M r = r (decide (j ≤ i)) := rfl
theorem cmp_eq {x y : D} : cmpW .eq x y M r = eqW x y M r := rfl
theorem cmp_ne {x y : D} : cmpW .ne x y M r = eqW x y M fun b => r (!b) := rfl
theorem cmp_in {x y : D} : cmpW .inn x y M r = inW x y M r := rfl
theorem cmp_notin {x y : D} : cmpW .notIn x y M r = inW x y M fun b => r (!b) := rfl
theorem cmp_is {x : D} : cmpW .isN x .non M r = r x.isNon := rfl
theorem cmp_isnt {x : D} : cmpW .notN x .non M r = r (!x.isNon) := rfl
theorem isNon_int : D.isNon (.int i) = false := rfl
theorem isNon_non : D.isNon .non = true := rfl
theorem isNon_tup : D.isNon (.tup xs) = false := rfl
theorem isNon_rat {x : Rat} : D.isNon (rat x) = false := rfl
theorem ix_tup : ixW (.tup xs) (.int i) M q = ∃ d, atI xs i = some d ∧ q d M := rfl
theorem ix_lst : ixW (.lst a) (.int i) M q = ∃ xs, M a = some xs ∧ ∃ d, atI xs i = some d ∧ q d M :=
  propext ⟨fun ⟨x, y, h1, h⟩ => ⟨x, h1, y, h⟩, fun ⟨x, h1, y, h⟩ => ⟨x, y, h1, h⟩⟩
theorem len_tup : lenW [.tup xs] M q = q (.int xs.length) M := rfl
theorem len_lst : lenW [.lst a] M q = ∃ xs, M a = some xs ∧ q (.int xs.length) M := rfl
theorem len_scr {ns : List Int} : lenW [.scr a ns] M q = q (.int ns.length) M := rfl
theorem abs_int : absW [.int i] M q = q (.int i.natAbs) M := rfl
theorem tuple_lst : tupleW [.lst a] M q = ∃ xs, M a = some xs ∧ q (.tup xs) M := rfl
theorem tuple_tup : tupleW [.tup xs] M q = q (.tup xs) M := rfl
theorem list_tup : listW [.tup xs] M q = ∀ p, M p = Option.none → q (.lst p) (M.up p xs) := rfl
theorem list_lst : listW [.lst a] M q = ∃ ds, M a = some ds ∧ ∀ p, M p = Option.none → q (.lst p) (M.up p ds) := rfl
theorem all_lst : allW [.lst a] M q = ∃ ds, M a = some ds ∧ ∃ bs, blsOf ds = some bs ∧ q (.bl (bs.all id)) M :=
  propext ⟨fun ⟨x, y, h1, h⟩ => ⟨x, h1, y, h⟩, fun ⟨x, h1, y, h⟩ => ⟨x, y, h1, h⟩⟩
theorem any_lst : anyW [.lst a] M q = ∃ ds, M a = some ds ∧ ∃ bs, blsOf ds = some bs ∧ q (.bl (bs.any id)) M :=
  propext ⟨fun ⟨x, y, h1, h⟩ => ⟨x, h1, y, h⟩, fun ⟨x, h1, y, h⟩ => ⟨x, y, h1, h⟩⟩
theorem int_int : intW [.int i] M q = q (.int i) M := rfl
theorem int_bl : intW [.bl k] M q = q (.int (if k then 1 else 0)) M := rfl
theorem isT_bl {t : Ty} : isTW t [.bl k] M q = q (.bl (isTy t (.bl k))) M := rfl
theorem isT_int {t : Ty} : isTW t [.int i] M q = q (.bl (isTy t (.int i))) M := rfl
theorem isT_non {t : Ty} : isTW t [.non] M q = q (.bl (isTy t .non)) M := rfl
theorem isT_str {t : Ty} : isTW t [.str s] M q = q (.bl (isTy t (.str s))) M := rfl
theorem isT_lst {t : Ty} : isTW t [.lst a] M q = ∃ ds, M a = some ds ∧ q (.bl (isTy t (.lst a))) M := rfl
theorem tru_int : tru M (.int i) = some (i != 0) := rfl
theorem tru_bl : tru M (.bl k) = some k := rfl
theorem tru_non : tru M .non = some false := rfl
theorem tru_tup : tru M (.tup xs) = some (!xs.isEmpty) := rfl
theorem tru_lst : tru M (.lst a) = (M a).map fun ds => !ds.isEmpty := rfl
theorem set_lst : setW (.lst a) (.int i) v M m = ∃ ds, M a = some ds ∧ ∃ j, ixN ds.length i = some j ∧ m (M.up a (ds.set j v)) :=
  propext ⟨fun ⟨x, y, h1, h⟩ => ⟨x, h1, y, h⟩, fun ⟨x, h1, y, h⟩ => ⟨x, y, h1, h⟩⟩
theorem app_lst : appendW (.lst a) [v] M q = ∃ ds, M a = some ds ∧ ds.length < sizeLine ∧ q .non (M.up a (ds ++ [v])) := rfl
theorem popAt_lst : popAtW (.lst a) [.int i] M q = ∃ ds, M a = some ds ∧ ∃ d j, -(2 ^ 63) ≤ i ∧ i < 2 ^ 63 ∧ seqIndex? i ds.length = some j ∧ ds[j]? = some d ∧ q d (M.up a (ds.eraseIdx j)) :=
  propext ⟨fun ⟨x, d, j, h1, h⟩ => ⟨x, h1, d, j, h⟩, fun ⟨x, h1, d, j, h⟩ => ⟨x, d, j, h1, h⟩⟩
theorem popAt0 : popAtW (.lst a) [.int 0] M q = ∃ ds, M a = some ds ∧ ∃ d, ds.head? = some d ∧ q d (M.up a ds.tail) := by
  rw [popAt_lst]
  apply propext
  constructor
  · rintro ⟨ds, hm, d, j, _, _, h1, h2, h⟩
    refine ⟨ds, hm, d, ?_⟩
    cases ds with
    | nil => simp at h2
    | cons x r =>
      have : j = 0 := by simp [seqIndex?] at h1; omega
      subst this
      simp at h2
      subst h2
      exact ⟨rfl, by simpa using h⟩
  · rintro ⟨ds, hm, d, h1, h⟩
    cases ds with
    | nil => simp at h1
    | cons x r =>
      simp at h1
      subst h1
      refine ⟨_, hm, x, 0, by decide, by decide, ?_, rfl, by simpa using h⟩
      simp [seqIndex?]
theorem mth_c {c : Addr} : (∃ a' ds, c = a' ∧ M a' = some ds) = ∃ ds, M c = some ds := propext ⟨fun ⟨_, ds, e, h⟩ => by cases e; exact ⟨ds, h⟩, fun ⟨ds, h⟩ => ⟨c, ds, rfl, h⟩⟩
theorem pop_lst : popW (.lst a) [] M q = ∃ ds, M a = some ds ∧ ∃ d, ds[ds.length - 1]? = some d ∧ q d (M.up a ds.dropLast) :=
  propext ⟨fun ⟨x, d, h1, h⟩ => ⟨x, h1, d, h⟩, fun ⟨x, h1, d, h⟩ => ⟨x, d, h1, h⟩⟩
theorem ext_lst : extendW (.lst a) [.lst b] M q = ∃ xs, M a = some xs ∧ ∃ ys, M b = some ys ∧ xs.length + ys.length ≤ sizeLine ∧ q .non (M.up a (xs ++ ys)) :=
  propext ⟨fun ⟨x, y, h1, h2, h⟩ => ⟨x, h1, y, h2, h⟩, fun ⟨x, h1, y, h2, h⟩ => ⟨x, y, h1, h2, h⟩⟩
theorem mth_o : (∃ a' ds, D.lst a = .lst a' ∧ M a' = some ds) = ∃ ds, M a = some ds := propext ⟨fun ⟨_, ds, e, h⟩ => by cases e; exact ⟨ds, h⟩, fun ⟨ds, h⟩ => ⟨a, ds, rfl, h⟩⟩
theorem seq_tup : seqW (.tup xs) M R = (xs.length ≤ sizeLine → R xs (fun _ => True) M) := rfl
theorem seq_lst : seqW (.lst a) M R = ∃ ds, M a = some ds ∧ (ds.length ≤ sizeLine → R ds (fun M => M a = some ds) M) := rfl
theorem rng1_int : rng1W (.int j) M R = (-(2 ^ 62) ≤ j ∧ j < 2 ^ 62 ∧ R (rngD 0 j.toNat) (fun _ => True) M) := rfl
theorem rng2_int : rng2W (.int i) (.int j) M R = ((-(2 ^ 62) ≤ i ∧ i < 2 ^ 62 ∧ -(2 ^ 62) ≤ j ∧ j < 2 ^ 62) ∧ R (rngD i (j - i).toNat) (fun _ => True) M) := rfl
theorem sl_tup {lo hi : Option Int} : slW (.tup xs) lo hi M q = q (.tup (cutD xs lo hi)) M := rfl
theorem sl_lst {lo hi : Option Int} : slW (.lst a) lo hi M q = ∃ ds, M a = some ds ∧ ∀ p, M p = Option.none → q (.lst p) (M.up p (cutD ds lo hi)) := rfl
theorem sl_scr {ns : List Int} {lo hi : Option Int} : slW (.scr a ns) lo hi M q = (ns.length ≤ sizeLine ∧ ∀ p, M p = Option.none → q (.lst p) (M.up p ((cutD ns lo hi).map D.int))) := rfl
theorem ex_some {α : Type} {x : α} {P : α → Prop} : (∃ y, some x = some y ∧ P y) = P x := propext ⟨fun ⟨_, e, h⟩ => by cases e; exact h, fun h => ⟨x, rfl, h⟩⟩
theorem ex_some1 {α : Type} {x : α} : (∃ y, some x = some y) = True := propext ⟨fun _ => trivial, fun _ => ⟨x, rfl⟩⟩
theorem ex_cons {α : Type} {x : α} {l : List α} {P : α → List α → Prop} : (∃ d r, x :: l = d :: r ∧ P d r) = P x l := propext ⟨fun ⟨_, _, e, h⟩ => by cases e; exact h, fun h => ⟨x, l, rfl, h⟩⟩
theorem ite_t {A B : Prop} : (if true = true then A else B) = A := if_pos rfl
theorem ite_f {A B : Prop} : (if false = true then A else B) = B := if_neg nofun
theorem ix0 {n : Nat} : ixN (n + 1) 0 = some 0 := by simp [ixN, show (0 : Int) < n + 1 from by omega]
theorem ix1 {n : Nat} : ixN (n + 2) 1 = some 1 := by simp [ixN, show (1 : Int) < n + 2 from by omega]
theorem ix2 {n : Nat} : ixN (n + 3) 2 = some 2 := by simp [ixN, show (2 : Int) < n + 3 from by omega]
theorem ix3 {n : Nat} : ixN (n + 4) 3 = some 3 := by simp [ixN, show (3 : Int) < n + 4 from by omega]
theorem up_up {xs' : List D} : (M.up a xs).up a xs' = M.up a xs' := by
  funext c; unfold Mem.up; split <;> rfl
theorem rngD_len {lo : Int} {n : Nat} : (rngD lo n).length = n := by simp [rngD]
theorem blsOf_rep : ∀ {n : Nat} {b : Bool}, blsOf (List.replicate n (.bl b)) = some (List.replicate n b)
  | 0, _ => rfl
  | n + 1, b => by simp [List.replicate_succ, blsOf, blsOf_rep]
theorem blsOf_map : ∀ {bs : List Bool}, blsOf (bs.map D.bl) = some bs
  | [] => rfl
  | b :: bs => by simp [blsOf, blsOf_map]
theorem sumR_take {rs : List Rat} {i : Nat} {r : Rat} (h : rs[i]? = some r) : sumR (rs.take (i + 1)) = sumR (rs.take i) + r := by
  unfold sumR
  rw [List.take_add_one, h]
  simp
theorem rat_neg {x : Rat} : D.tup [.int (-x.num), .int (x.den : Int)] = rat (-x) := rfl
theorem rat01 : D.tup [.int 0, .int 1] = rat 0 := rfl
theorem rat11 : D.tup [.int 1, .int 1] = rat 1 := rfl
end
end TB

namespace TB
open PySem PySem.Spec PyProof.Rows L2
/-! ### the tape of draws -/
def TapeAt (M : Mem) (b c : Addr) : Prop := b ≠ c ∧ ∃ (cells : List Int) (at' : Nat) (cur seed : Int), M b = some [.lst c, .int at', .int cur, .int seed] ∧ M c = some (cells.map D.int) ∧ 0 ≤ cur ∧ cells.length ≤ 80
theorem TapeAt.up {M : Mem} {b c p : Addr} {l : List D} (h : TapeAt M b c) (hp : M p = Option.none) : TapeAt (M.up p l) b c := by
  obtain ⟨n, cells, k, cur, seed, h1, h2, r⟩ := h
  exact ⟨n, cells, k, cur, seed, by rw [up_ne (ne_some h1 hp)]; exact h1, by rw [up_ne (ne_some h2 hp)]; exact h2, r⟩
theorem TapeAt.nb {M : Mem} {b c p : Addr} (h : TapeAt M b c) (hp : M p = Option.none) : p ≠ b ∧ p ≠ c := by
  obtain ⟨n, cells, k, cur, seed, h1, h2, r⟩ := h
  exact ⟨(ne_some h1 hp).symm, (ne_some h2 hp).symm⟩
theorem TapeAt.upL {M : Mem} {b c p : Addr} {l : List D} (h : TapeAt M b c) (hb : p ≠ b) (hc : p ≠ c) : TapeAt (M.up p l) b c := by
  obtain ⟨n, cells, k, cur, seed, h1, h2, r⟩ := h
  exact ⟨n, cells, k, cur, seed, by rw [up_ne hb.symm]; exact h1, by rw [up_ne hc.symm]; exact h2, r⟩
def sp_law_mix : List D → Mem → K1 → Prop := fun ds M q => ∃ n, ds = [.int n] ∧ ∀ v, 0 ≤ v → q (.int v) M
theorem sp_law_mix_eq {n : Int} {M : Mem} {q : K1} : sp_law_mix [.int n] M q = ∀ v, 0 ≤ v → q (.int v) M := propext ⟨fun ⟨_, e, h⟩ => by cases e; exact h, fun h => ⟨n, rfl, h⟩⟩
def sp_law_tape : List D → Mem → K1 → Prop := fun ds M q => ∃ a ns, ds = [.scr a ns] ∧ ns.length ≤ 63 ∧ ∀ b c M', M b = Option.none → M c = Option.none → TapeAt M' b c → Fr b c M M' → q (.lst b) M'
theorem sp_law_tape_eq {a : Addr} {ns : List Int} {M : Mem} {q : K1} : sp_law_tape [.scr a ns] M q = (ns.length ≤ 63 ∧ ∀ b c M', M b = Option.none → M c = Option.none → TapeAt M' b c → Fr b c M M' → q (.lst b) M') :=
  propext ⟨fun ⟨_, _, e, h⟩ => by cases e; exact h, fun h => ⟨a, ns, rfl, h⟩⟩
def sp_law_take : List D → Mem → K1 → Prop := fun ds M q => ∃ b c many, ds = [.lst b, .int many] ∧ TapeAt M b c ∧ 0 < many ∧ Sz 8000 many ∧ ∀ v M', 0 ≤ v → v < many → TapeAt M' b c → Fr b c M M' → q (.int v) M'
theorem sp_law_take_eq {b : Addr} {many : Int} {M : Mem} {q : K1} : sp_law_take [.lst b, .int many] M q = ∃ c, TapeAt M b c ∧ 0 < many ∧ Sz 8000 many ∧ ∀ v M', 0 ≤ v → v < many → TapeAt M' b c → Fr b c M M' → q (.int v) M' :=
  propext ⟨fun ⟨_, c, _, e, h⟩ => by cases e; exact ⟨c, h⟩, fun ⟨c, h⟩ => ⟨b, c, many, rfl, h⟩⟩
/-- draws from the tape -/
def spTp (P : D → Prop) (b : Addr) (M : Mem) (q : K1) : Prop := ∃ c, TapeAt M b c ∧ ∀ d M', P d → TapeAt M' b c → Fr b c M M' → q d M'
theorem eqW_rat {x y : Rat} {M : Mem} {r : Bool → Prop} : eqW (rat x) (rat y) M r = r (decide (x = y)) := by
  have e : ((x.num == y.num) && (((x.den : Int) == (y.den : Int)) && true)) = decide (x = y) := by
    rw [Bool.eq_iff_iff]
    simp only [Bool.and_eq_true, beq_iff_eq, decide_eq_true_eq, and_true]
    constructor
    · rintro ⟨a, b⟩; exact Rat.ext a (by omega)
    · rintro rfl; exact ⟨rfl, rfl⟩
  rw [← e]
  simp only [rat, eqW, D.pure, D.pureL, D.depth, D.depthL, deq, deqL, Bool.and_true, true_and]
  exact propext ⟨fun h => h.2, fun h => ⟨by decide, h⟩⟩
theorem eqW_str {x y : Str} {M : Mem} {r : Bool → Prop} : eqW (.str x) (.str y) M r = ((PyData.strOk x = true ∧ PyData.strOk y = true) ∧ r (x == y)) := by
  simp only [eqW, D.pure, D.depth, deq, Nat.zero_le, and_true]
theorem eqW_rats {x y z w : Rat} {M : Mem} {r : Bool → Prop} : eqW (.tup [rat x, rat y]) (.tup [rat z, rat w]) M r = r (decide (x = z ∧ y = w)) := by
  have e : ∀ x y : Rat, ((x.num == y.num) && (((x.den : Int) == (y.den : Int)) && true)) = decide (x = y) := fun x y => by
    rw [Bool.eq_iff_iff]
    simp only [Bool.and_eq_true, beq_iff_eq, decide_eq_true_eq, and_true]
    constructor
    · rintro ⟨a, b⟩; exact Rat.ext a (by omega)
    · rintro rfl; exact ⟨rfl, rfl⟩
  have e2 : decide (x = z ∧ y = w) = (decide (x = z) && (decide (y = w) && true)) := by rw [Bool.and_true, Bool.decide_and]
  rw [e2, ← e, ← e]
  simp only [rat, eqW, D.pure, D.pureL, D.depth, D.depthL, deq, deqL, Bool.and_true, true_and]
  exact propext ⟨fun h => h.2, fun h => ⟨by decide, h⟩⟩
theorem sl_from1 {α : Type} {a : α} {l : List α} : cutD (a :: l) (some 1) none = l := by
  simp [cutD, HT.sIx]
/-! ### lists that are made -/
theorem SzR.addw {m n k : Nat} {x y : Rat} (a : SzR m x) (b : SzR n y) (e : m + n + 1 ≤ k) : SzR k (x + y) := by
  rw [← rat_add]
  refine .divInt (Sz.add (m := m + n) (a.num.mul b.den (Nat.le_refl _)) (b.num.mul a.den (by omega)) (by omega)) (a.den.mul b.den (by omega)) (Int.mul_ne_zero (den_ne x) (den_ne y))
theorem SzR.subw {m n k : Nat} {x y : Rat} (a : SzR m x) (b : SzR n y) (e : m + n + 1 ≤ k) : SzR k (x - y) := by
  rw [Rat.sub_eq_add_neg]; exact a.addw b.neg e
theorem SzR.zero : SzR 1 0 := ⟨.lit 1 (by decide) (by omega), .lit 1 (by decide) (by omega)⟩
theorem sumR_snoc {l : List Rat} {x : Rat} : sumR (l ++ [x]) = sumR l + x := by simp [sumR]
theorem szR_sum {m : Nat} : ∀ (n : Nat) (l : List Rat), l.length = n → (∀ x ∈ l, SzR m x) → SzR ((m + 1) * n + 1) (sumR l)
  | 0, l, h, _ => by
    have : l = [] := List.length_eq_zero_iff.mp h
    subst this
    exact SzR.zero.mono (by omega)
  | n + 1, l, h, hs => by
    have hne : l ≠ [] := fun e => by subst e; simp at h
    rw [← List.dropLast_concat_getLast hne, sumR_snoc]
    have i1 := szR_sum n l.dropLast (by simp [h]) (fun x hx => hs x ((List.dropLast_sublist l).subset hx))
    exact i1.addw (hs _ (List.getLast_mem hne)) (by rw [Nat.mul_add]; omega)
theorem szR_sums {m k n : Nat} {l : List Rat} (hs : ∀ x ∈ l, SzR m x) (hl : l.length ≤ n) (e : (m + 1) * n + 1 ≤ k) : SzR k (sumR l) :=
  (szR_sum _ l rfl hs).mono (Nat.le_trans (Nat.add_le_add_right (Nat.mul_le_mul_left _ hl) 1) e)
theorem szR_part {m k n : Nat} {l : List Rat} (hs : ∀ x ∈ l, SzR m x) (hl : l.length ≤ n) (e : (m + 1) * n + 1 ≤ k) : ∀ i, SzR k (sumR (l.take i)) := fun i =>
  szR_sums (fun x hx => hs x (List.mem_of_mem_take hx)) (Nat.le_trans (by rw [List.length_take]; omega) hl) e
theorem fm_step {α β : Type} {xs : List α} {i : Nat} {x : α} (h : xs[i]? = some x) (p : α → Bool) (f : α → β) :
    ((xs.take (i + 1)).filter p).map f = ((xs.take i).filter p).map f ++ (if p x then [f x] else []) := by
  rw [List.take_add_one, h]
  simp only [Option.toList, List.filter_append, List.map_append]
  congr 1
  by_cases e : p x <;> simp [e]
theorem map_step {α β : Type} {xs : List α} {i : Nat} {x : α} (h : xs[i]? = some x) (f : α → β) : (xs.take (i + 1)).map f = (xs.take i).map f ++ [f x] := by
  rw [List.take_add_one, h]; simp
theorem rats_get {xs : List Rat} {i : Nat} {d : D} (h : (xs.map rat)[i]? = some d) : ∃ x, d = rat x ∧ xs[i]? = some x := by
  rw [List.getElem?_map, Option.map_eq_some_iff] at h
  obtain ⟨x, h1, rfl⟩ := h
  exact ⟨x, rfl, h1⟩
def sp_sum_of : List D → Mem → K1 → Prop := fun ds M q => ∃ rs : List Rat, (ds = [.tup (rs.map rat)] ∨ ∃ a, ds = [.lst a] ∧ M a = some (rs.map rat)) ∧ (∀ r ∈ rs, SzR 4000 r) ∧ (∀ i, i ≤ rs.length → SzR 4000 (sumR (rs.take i))) ∧ q (rat (sumR rs)) M
end TB

namespace TB
open PySem PySem.Spec PyProof.Rows L2
/-- the i-th statement of the text's top -/
def topL (i : Nat) : Stmt := PySem.Challenge.pw_taxbands_k37_whole_two_rates.main.body.getD i (.Pass ⟨0, 0, 0, 0⟩)
/-! common_divisor: slots 0 a, 1 b -/
def ir_common_divisor : Ss :=
  (.cons (.par 0 1 (.bfn .abs (.cons (.var 0) .nil)) (.bfn .abs (.cons (.var 1) .nil)))
  (.cons (.whl (.var 1) (.cons (.par 0 1 (.var 1) (.bin .mod (.var 0) (.var 1)))
  .nil))
  (.cons (.ret (.var 0))
  .nil)))
def c_common_divisor : Ct := ⟨["a", "b"], defScope (topL 5), fun _ => true, [], []⟩
theorem hc_common_divisor : cSs 60 (c_common_divisor) (defBody (topL 5)) = some (ir_common_divisor) := by kernel_rfl
theorem hs_common_divisor : FnScope ["a", "b"] ["a", "b"] (defScope (topL 5)) := ⟨rfl, rfl, rfl, by decide +kernel, rfl, by decide +kernel, by decide +kernel⟩
/-! ratio: slots 0 p, 1 q, 2 d -/
def ir_ratio : Ss :=
  (.cons (.ite (.cmp .eq (.var 1) (.cst (.int 0))) (.cons .stuck
  .nil) .nil)
  (.cons (.ite (.cmp .lt (.var 1) (.cst (.int 0))) (.cons (.par 0 1 (.neg (.var 0)) (.neg (.var 1)))
  .nil) .nil)
  (.cons (.asg (.nm 2) (.call 0 (.cons (.var 0) (.cons (.var 1) .nil))))
  (.cons (.ret (.tup (.cons (.bin .fdiv (.var 0) (.var 2)) (.cons (.bin .fdiv (.var 1) (.var 2)) .nil))))
  .nil))))
def c_ratio : Ct := ⟨["p", "q", "d"], defScope (topL 6), fun _ => true, [("common_divisor", 0, 2)], []⟩
theorem hc_ratio : cSs 60 (c_ratio) (defBody (topL 6)) = some (ir_ratio) := by kernel_rfl
theorem hs_ratio : FnScope ["p", "q", "d"] ["p", "q"] (defScope (topL 6)) := ⟨rfl, rfl, rfl, by decide +kernel, rfl, by decide +kernel, by decide +kernel⟩
/-! plus: slots 0 one, 1 other -/
def ir_plus : Ss :=
  (.cons (.ret (.call 1 (.cons (.bin .add (.bin .mul (.ix (.var 0) (.cst (.int 0))) (.ix (.var 1) (.cst (.int 1)))) (.bin .mul (.ix (.var 1) (.cst (.int 0))) (.ix (.var 0) (.cst (.int 1))))) (.cons (.bin .mul (.ix (.var 0) (.cst (.int 1))) (.ix (.var 1) (.cst (.int 1)))) .nil))))
  .nil)
def c_plus : Ct := ⟨["one", "other"], defScope (topL 7), fun _ => true, [("ratio", 1, 2)], []⟩
theorem hc_plus : cSs 60 (c_plus) (defBody (topL 7)) = some (ir_plus) := by kernel_rfl
theorem hs_plus : FnScope ["one", "other"] ["one", "other"] (defScope (topL 7)) := ⟨rfl, rfl, rfl, by decide +kernel, rfl, by decide +kernel, by decide +kernel⟩
/-! minus: slots 0 one, 1 other -/
def ir_minus : Ss :=
  (.cons (.ret (.call 1 (.cons (.bin .sub (.bin .mul (.ix (.var 0) (.cst (.int 0))) (.ix (.var 1) (.cst (.int 1)))) (.bin .mul (.ix (.var 1) (.cst (.int 0))) (.ix (.var 0) (.cst (.int 1))))) (.cons (.bin .mul (.ix (.var 0) (.cst (.int 1))) (.ix (.var 1) (.cst (.int 1)))) .nil))))
  .nil)
def c_minus : Ct := ⟨["one", "other"], defScope (topL 8), fun _ => true, [("ratio", 1, 2)], []⟩
theorem hc_minus : cSs 60 (c_minus) (defBody (topL 8)) = some (ir_minus) := by kernel_rfl
theorem hs_minus : FnScope ["one", "other"] ["one", "other"] (defScope (topL 8)) := ⟨rfl, rfl, rfl, by decide +kernel, rfl, by decide +kernel, by decide +kernel⟩
/-! times: slots 0 one, 1 other -/
def ir_times : Ss :=
  (.cons (.ret (.call 1 (.cons (.bin .mul (.ix (.var 0) (.cst (.int 0))) (.ix (.var 1) (.cst (.int 0)))) (.cons (.bin .mul (.ix (.var 0) (.cst (.int 1))) (.ix (.var 1) (.cst (.int 1)))) .nil))))
  .nil)
def c_times : Ct := ⟨["one", "other"], defScope (topL 9), fun _ => true, [("ratio", 1, 2)], []⟩
theorem hc_times : cSs 60 (c_times) (defBody (topL 9)) = some (ir_times) := by kernel_rfl
theorem hs_times : FnScope ["one", "other"] ["one", "other"] (defScope (topL 9)) := ⟨rfl, rfl, rfl, by decide +kernel, rfl, by decide +kernel, by decide +kernel⟩
/-! over: slots 0 one, 1 other -/
def ir_over : Ss :=
  (.cons (.ret (.call 1 (.cons (.bin .mul (.ix (.var 0) (.cst (.int 0))) (.ix (.var 1) (.cst (.int 1)))) (.cons (.bin .mul (.ix (.var 0) (.cst (.int 1))) (.ix (.var 1) (.cst (.int 0)))) .nil))))
  .nil)
def c_over : Ct := ⟨["one", "other"], defScope (topL 10), fun _ => true, [("ratio", 1, 2)], []⟩
theorem hc_over : cSs 60 (c_over) (defBody (topL 10)) = some (ir_over) := by kernel_rfl
theorem hs_over : FnScope ["one", "other"] ["one", "other"] (defScope (topL 10)) := ⟨rfl, rfl, rfl, by decide +kernel, rfl, by decide +kernel, by decide +kernel⟩
/-! less: slots 0 one, 1 other -/
def ir_less : Ss :=
  (.cons (.ret (.cmp .lt (.bin .mul (.ix (.var 0) (.cst (.int 0))) (.ix (.var 1) (.cst (.int 1)))) (.bin .mul (.ix (.var 1) (.cst (.int 0))) (.ix (.var 0) (.cst (.int 1))))))
  .nil)
def c_less : Ct := ⟨["one", "other"], defScope (topL 11), fun _ => true, [], []⟩
theorem hc_less : cSs 60 (c_less) (defBody (topL 11)) = some (ir_less) := by kernel_rfl
theorem hs_less : FnScope ["one", "other"] ["one", "other"] (defScope (topL 11)) := ⟨rfl, rfl, rfl, by decide +kernel, rfl, by decide +kernel, by decide +kernel⟩
/-! sum_of: slots 0 ratios, 1 found, 2 one -/
def ir_sum_of : Ss :=
  (.cons (.asg (.nm 1) (.cst (.tup [(.int 0), (.int 1)])))
  (.cons (.for_ (.nm 2) (.seq (.var 0)) (.cons (.asg (.nm 1) (.call 2 (.cons (.var 1) (.cons (.var 2) .nil))))
  .nil))
  (.cons (.ret (.var 1))
  .nil)))
def c_sum_of : Ct := ⟨["ratios", "found", "one"], defScope (topL 12), fun _ => true, [("plus", 2, 2)], [("ZERO", (.tup [(.int 0), (.int 1)]))]⟩
theorem hc_sum_of : cSs 60 (c_sum_of) (defBody (topL 12)) = some (ir_sum_of) := by kernel_rfl
theorem hs_sum_of : FnScope ["ratios", "found", "one"] ["ratios"] (defScope (topL 12)) := ⟨rfl, rfl, rfl, by decide +kernel, rfl, by decide +kernel, by decide +kernel⟩
/-! above: slots 0 incomes, 1 e, 2 x -/
def ir_above : Ss :=
  (.cons (.ret (.call 7 (.cons (.comp (.call 3 (.cons (.var 2) (.cons (.var 1) .nil))) (.nm 2) (.seq (.var 0)) (.yes (.call 6 (.cons (.var 1) (.cons (.var 2) .nil)))) [2]) .nil)))
  .nil)
def c_above : Ct := ⟨["incomes", "e", "x"], defScope (topL 14), fun _ => true, [("less", 6, 2), ("minus", 3, 2), ("sum_of", 7, 1)], []⟩
theorem hc_above : cSs 60 (c_above) (defBody (topL 14)) = some (ir_above) := by kernel_rfl
theorem hs_above : FnScope ["incomes", "e", "x"] ["incomes", "e"] (defScope (topL 14)) := ⟨rfl, rfl, rfl, by decide +kernel, rfl, by decide +kernel, by decide +kernel⟩
/-! between: slots 0 incomes, 1 e, 2 b -/
def ir_between : Ss :=
  (.cons (.ret (.call 3 (.cons (.call 8 (.cons (.var 0) (.cons (.var 1) .nil))) (.cons (.call 8 (.cons (.var 0) (.cons (.var 2) .nil))) .nil))))
  .nil)
def c_between : Ct := ⟨["incomes", "e", "b"], defScope (topL 16), fun _ => true, [("above", 8, 2), ("minus", 3, 2)], []⟩
theorem hc_between : cSs 60 (c_between) (defBody (topL 16)) = some (ir_between) := by kernel_rfl
theorem hs_between : FnScope ["incomes", "e", "b"] ["incomes", "e", "b"] (defScope (topL 16)) := ⟨rfl, rfl, rfl, by decide +kernel, rfl, by decide +kernel, by decide +kernel⟩
/-! crossed: slots 0 a, 1 b, 2 c, 3 d -/
def ir_crossed : Ss :=
  (.cons (.ret (.call 3 (.cons (.call 4 (.cons (.var 0) (.cons (.var 3) .nil))) (.cons (.call 4 (.cons (.var 1) (.cons (.var 2) .nil))) .nil))))
  .nil)
def c_crossed : Ct := ⟨["a", "b", "c", "d"], defScope (topL 17), fun _ => true, [("minus", 3, 2), ("times", 4, 2)], []⟩
theorem hc_crossed : cSs 60 (c_crossed) (defBody (topL 17)) = some (ir_crossed) := by kernel_rfl
theorem hs_crossed : FnScope ["a", "b", "c", "d"] ["a", "b", "c", "d"] (defScope (topL 17)) := ⟨rfl, rfl, rfl, by decide +kernel, rfl, by decide +kernel, by decide +kernel⟩
/-! two_rates: slots 0 e, 1 b, 2 one, 3 first, 4 other, 5 second, 6 m, 7 t, 8 n, 9 u, 10 whole -/
def ir_two_rates : Ss :=
  (.cons (.par 6 7 (.call 9 (.cons (.var 2) (.cons (.var 0) (.cons (.var 1) .nil)))) (.call 8 (.cons (.var 2) (.cons (.var 1) .nil))))
  (.cons (.par 8 9 (.call 9 (.cons (.var 4) (.cons (.var 0) (.cons (.var 1) .nil)))) (.call 8 (.cons (.var 4) (.cons (.var 1) .nil))))
  (.cons (.asg (.nm 10) (.call 10 (.cons (.var 6) (.cons (.var 7) (.cons (.var 8) (.cons (.var 9) .nil))))))
  (.cons (.ite (.cmp .ne (.var 10) (.cst (.tup [(.int 0), (.int 1)]))) (.cons (.ret (.tup (.cons (.cst (.str "rates")) (.cons (.call 5 (.cons (.call 10 (.cons (.var 3) (.cons (.var 7) (.cons (.var 5) (.cons (.var 9) .nil))))) (.cons (.var 10) .nil))) (.cons (.call 5 (.cons (.call 10 (.cons (.var 6) (.cons (.var 3) (.cons (.var 8) (.cons (.var 5) .nil))))) (.cons (.var 10) .nil))) .nil)))))
  .nil) .nil)
  (.cons (.ite (.or (.cmp .ne (.call 10 (.cons (.var 3) (.cons (.var 7) (.cons (.var 5) (.cons (.var 9) .nil))))) (.cst (.tup [(.int 0), (.int 1)]))) (.cmp .ne (.call 10 (.cons (.var 6) (.cons (.var 3) (.cons (.var 8) (.cons (.var 5) .nil))))) (.cst (.tup [(.int 0), (.int 1)])))) (.cons (.ret (.tup (.cons (.cst (.str "none")) .nil)))
  .nil) .nil)
  (.cons (.ite (.or (.and (.cmp .eq (.var 6) (.cst (.tup [(.int 0), (.int 1)]))) (.and (.cmp .eq (.var 7) (.cst (.tup [(.int 0), (.int 1)]))) (.cmp .ne (.var 3) (.cst (.tup [(.int 0), (.int 1)]))))) (.and (.cmp .eq (.var 8) (.cst (.tup [(.int 0), (.int 1)]))) (.and (.cmp .eq (.var 9) (.cst (.tup [(.int 0), (.int 1)]))) (.cmp .ne (.var 5) (.cst (.tup [(.int 0), (.int 1)])))))) (.cons (.ret (.tup (.cons (.cst (.str "none")) .nil)))
  .nil) .nil)
  (.cons (.ret (.tup (.cons (.cst (.str "many")) .nil)))
  .nil)))))))
def c_two_rates : Ct := ⟨["e", "b", "one", "first", "other", "second", "m", "t", "n", "u", "whole"], defScope (topL 18), fun _ => true, [("above", 8, 2), ("between", 9, 3), ("crossed", 10, 4), ("over", 5, 2)], [("ZERO", (.tup [(.int 0), (.int 1)]))]⟩
theorem hc_two_rates : cSs 60 (c_two_rates) (defBody (topL 18)) = some (ir_two_rates) := by kernel_rfl
theorem hs_two_rates : FnScope ["e", "b", "one", "first", "other", "second", "m", "t", "n", "u", "whole"] ["e", "b", "one", "first", "other", "second"] (defScope (topL 18)) := ⟨rfl, rfl, rfl, by decide +kernel, rfl, by decide +kernel, by decide +kernel⟩
/-! _law_mix: slots 0 number -/
def ir_law_mix : Ss :=
  (.cons (.asg (.nm 0) (.bin .mod (.bfn .int (.cons (.bin .add (.bin .mul (.var 0) (.cst (.int 6364136223846793005))) (.cst (.int 1442695040888963407))) .nil)) (.cst (.int 18446744073709551616))))
  (.cons (.ret (.bin .mod (.bfn .int (.cons (.bin .add (.bin .fdiv (.bin .mul (.var 0) (.var 0)) (.cst (.int 4294967296))) (.bin .mul (.var 0) (.cst (.int 69621)))) .nil)) (.cst (.int 18446744073709551557))))
  .nil))
def c_law_mix : Ct := ⟨["number"], defScope (topL 20), fun _ => true, [], []⟩
theorem hc_law_mix : cSs 60 (c_law_mix) (defBody (topL 20)) = some (ir_law_mix) := by kernel_rfl
theorem hs_law_mix : FnScope ["number"] ["number"] (defScope (topL 20)) := ⟨rfl, rfl, rfl, by decide +kernel, rfl, by decide +kernel, by decide +kernel⟩
/-! _law_tape: slots 0 script -/
def ir_law_tape : Ss :=
  (.cons (.ret (.lst (.cons (.bfn .list (.cons (.sl (.var 0) .no (.yes (.cst (.int 80)))) .nil)) (.cons (.cst (.int 0)) (.cons (.cst (.int 0)) (.cons (.bin .add (.cst (.int 1)) (.bfn .len (.cons (.var 0) .nil))) .nil))))))
  .nil)
def c_law_tape : Ct := ⟨["script"], defScope (topL 21), fun _ => true, [], []⟩
theorem hc_law_tape : cSs 60 (c_law_tape) (defBody (topL 21)) = some (ir_law_tape) := by kernel_rfl
theorem hs_law_tape : FnScope ["script"] ["script"] (defScope (topL 21)) := ⟨rfl, rfl, rfl, by decide +kernel, rfl, by decide +kernel, by decide +kernel⟩
/-! _law_take: slots 0 tape, 1 many, 2 cell, 3 digit -/
def ir_law_take : Ss :=
  (.cons (.ite (.cmp .lt (.ix (.var 0) (.cst (.int 2))) (.var 1)) (.cons (.ite (.cmp .lt (.ix (.var 0) (.cst (.int 1))) (.bfn .len (.cons (.ix (.var 0) (.cst (.int 0))) .nil))) (.cons (.asg (.nm 2) (.ix (.ix (.var 0) (.cst (.int 0))) (.ix (.var 0) (.cst (.int 1)))))
  (.cons (.asg (.nm 2) (.ite (.cmp .ge (.var 2) (.cst (.int 0))) (.bin .mul (.cst (.int 2)) (.var 2)) (.bin .sub (.bin .mul (.neg (.cst (.int 2))) (.var 2)) (.cst (.int 1)))))
  (.cons (.asg (.ix (.var 0) (.cst (.int 1))) (.bin .add (.ix (.var 0) (.cst (.int 1))) (.cst (.int 1))))
  (.cons (.asg (.ix (.var 0) (.cst (.int 3))) (.call 12 (.cons (.bin .add (.ix (.var 0) (.cst (.int 3))) (.var 2)) .nil)))
  (.cons (.asg (.ix (.var 0) (.cst (.int 2))) (.ite (.cmp .ge (.var 2) (.bin .pow (.cst (.int 10)) (.cst (.int 18)))) (.var 2) (.call 12 (.cons (.bin .add (.call 12 (.cons (.var 2) .nil)) (.ix (.var 0) (.cst (.int 1)))) .nil))))
  .nil))))) (.cons (.asg (.ix (.var 0) (.cst (.int 3))) (.call 12 (.cons (.bin .add (.ix (.var 0) (.cst (.int 3))) (.cst (.int 1))) .nil)))
  (.cons (.asg (.ix (.var 0) (.cst (.int 2))) (.ix (.var 0) (.cst (.int 3))))
  .nil)))
  .nil) .nil)
  (.cons (.asg (.nm 3) (.bin .mod (.bfn .int (.cons (.ix (.var 0) (.cst (.int 2))) .nil)) (.var 1)))
  (.cons (.asg (.ix (.var 0) (.cst (.int 2))) (.bin .fdiv (.ix (.var 0) (.cst (.int 2))) (.var 1)))
  (.cons (.ret (.var 3))
  .nil))))
def c_law_take : Ct := ⟨["tape", "many", "cell", "digit"], defScope (topL 22), fun _ => true, [("_law_mix", 12, 1)], []⟩
theorem hc_law_take : cSs 60 (c_law_take) (defBody (topL 22)) = some (ir_law_take) := by kernel_rfl
theorem hs_law_take : FnScope ["tape", "many", "cell", "digit"] ["tape", "many"] (defScope (topL 22)) := ⟨rfl, rfl, rfl, by decide +kernel, rfl, by decide +kernel, by decide +kernel⟩
/-! _law_same: slots 0 a, 1 b, 2 k -/
def ir_law_same (g : Nat) : Ss :=
  (.cons (.ite (.or (.and (.bfn (.isT .tuple) (.cons (.var 0) .nil)) (.bfn (.isT .tuple) (.cons (.var 1) .nil))) (.and (.bfn (.isT .list) (.cons (.var 0) .nil)) (.bfn (.isT .list) (.cons (.var 1) .nil)))) (.cons (.ret (.and (.cmp .eq (.bfn .len (.cons (.var 0) .nil)) (.bfn .len (.cons (.var 1) .nil))) (.bfn .all (.cons (.comp (.call g (.cons (.ix (.var 0) (.var 2)) (.cons (.ix (.var 1) (.var 2)) .nil))) (.nm 2) (.rng1 (.bfn .len (.cons (.var 0) .nil))) .no [2]) .nil))))
  .nil) .nil)
  (.cons (.ite (.or (.bfn (.isT .bool) (.cons (.var 0) .nil)) (.bfn (.isT .bool) (.cons (.var 1) .nil))) (.cons (.ret (.and (.bfn (.isT .bool) (.cons (.var 0) .nil)) (.and (.bfn (.isT .bool) (.cons (.var 1) .nil)) (.cmp .eq (.var 0) (.var 1)))))
  .nil) .nil)
  (.cons (.ite (.or (.and (.bfn (.isT .int) (.cons (.var 0) .nil)) (.bfn (.isT .int) (.cons (.var 1) .nil))) (.and (.bfn (.isT .str) (.cons (.var 0) .nil)) (.bfn (.isT .str) (.cons (.var 1) .nil)))) (.cons (.ret (.cmp .eq (.var 0) (.var 1)))
  .nil) .nil)
  (.cons (.ret (.and (.cmp .isN (.var 0) (.cst .non)) (.cmp .isN (.var 1) (.cst .non))))
  .nil))))
def c_law_same (g : Nat) : Ct := ⟨["a", "b", "k"], defScope (topL 23), fun _ => true, [("_law_same", g, 2)], []⟩
theorem hc_law_same (g : Nat) : cSs 60 (c_law_same g) (defBody (topL 23)) = some (ir_law_same g) := by kernel_rfl
theorem hs_law_same : FnScope ["a", "b", "k"] ["a", "b"] (defScope (topL 23)) := ⟨rfl, rfl, rfl, by decide +kernel, rfl, by decide +kernel, by decide +kernel⟩
/-! _law_ratio: slots 0 p, 1 q, 2 a, 3 b -/
def ir_law_ratio_2 : Ss :=
  (.cons (.par 2 3 (.var 3) (.bin .sub (.var 2) (.bin .mul (.bin .fdiv (.var 2) (.var 3)) (.var 3))))
  .nil)
def ir_law_ratio_3 : Ss :=
  (.cons (.ret (.tup (.cons (.bin .fdiv (.var 0) (.var 2)) (.cons (.bin .fdiv (.var 1) (.var 2)) .nil))))
  .nil)
def ir_law_ratio_1 : Ss :=
  (.cons (.par 2 3 (.bfn .abs (.cons (.var 0) .nil)) (.var 1))
  (.cons (.whl (.cmp .gt (.var 3) (.cst (.int 0))) ir_law_ratio_2)
  ir_law_ratio_3))
def ir_law_ratio : Ss :=
  (.cons (.ite (.cmp .lt (.var 1) (.cst (.int 0))) (.cons (.par 0 1 (.bin .sub (.cst (.int 0)) (.var 0)) (.bin .sub (.cst (.int 0)) (.var 1)))
  .nil) .nil)
  ir_law_ratio_1)
def c_law_ratio : Ct := ⟨["p", "q", "a", "b"], defScope (topL 24), fun _ => true, [], []⟩
theorem hc_law_ratio : cSs 60 (c_law_ratio) (defBody (topL 24)) = some (ir_law_ratio) := by kernel_rfl
theorem hs_law_ratio : FnScope ["p", "q", "a", "b"] ["p", "q"] (defScope (topL 24)) := ⟨rfl, rfl, rfl, by decide +kernel, rfl, by decide +kernel, by decide +kernel⟩
/-! _law_plus: slots 0 one, 1 other -/
def ir_law_plus : Ss :=
  (.cons (.ret (.call 19 (.cons (.bin .add (.bin .mul (.ix (.var 0) (.cst (.int 0))) (.ix (.var 1) (.cst (.int 1)))) (.bin .mul (.ix (.var 1) (.cst (.int 0))) (.ix (.var 0) (.cst (.int 1))))) (.cons (.bin .mul (.ix (.var 0) (.cst (.int 1))) (.ix (.var 1) (.cst (.int 1)))) .nil))))
  .nil)
def c_law_plus : Ct := ⟨["one", "other"], defScope (topL 25), fun _ => true, [("_law_ratio", 19, 2)], []⟩
theorem hc_law_plus : cSs 60 (c_law_plus) (defBody (topL 25)) = some (ir_law_plus) := by kernel_rfl
theorem hs_law_plus : FnScope ["one", "other"] ["one", "other"] (defScope (topL 25)) := ⟨rfl, rfl, rfl, by decide +kernel, rfl, by decide +kernel, by decide +kernel⟩
/-! _law_minus: slots 0 one, 1 other -/
def ir_law_minus : Ss :=
  (.cons (.ret (.call 19 (.cons (.bin .sub (.bin .mul (.ix (.var 0) (.cst (.int 0))) (.ix (.var 1) (.cst (.int 1)))) (.bin .mul (.ix (.var 1) (.cst (.int 0))) (.ix (.var 0) (.cst (.int 1))))) (.cons (.bin .mul (.ix (.var 0) (.cst (.int 1))) (.ix (.var 1) (.cst (.int 1)))) .nil))))
  .nil)
def c_law_minus : Ct := ⟨["one", "other"], defScope (topL 26), fun _ => true, [("_law_ratio", 19, 2)], []⟩
theorem hc_law_minus : cSs 60 (c_law_minus) (defBody (topL 26)) = some (ir_law_minus) := by kernel_rfl
theorem hs_law_minus : FnScope ["one", "other"] ["one", "other"] (defScope (topL 26)) := ⟨rfl, rfl, rfl, by decide +kernel, rfl, by decide +kernel, by decide +kernel⟩
/-! _law_times: slots 0 one, 1 other -/
def ir_law_times : Ss :=
  (.cons (.ret (.call 19 (.cons (.bin .mul (.ix (.var 0) (.cst (.int 0))) (.ix (.var 1) (.cst (.int 0)))) (.cons (.bin .mul (.ix (.var 0) (.cst (.int 1))) (.ix (.var 1) (.cst (.int 1)))) .nil))))
  .nil)
def c_law_times : Ct := ⟨["one", "other"], defScope (topL 27), fun _ => true, [("_law_ratio", 19, 2)], []⟩
theorem hc_law_times : cSs 60 (c_law_times) (defBody (topL 27)) = some (ir_law_times) := by kernel_rfl
theorem hs_law_times : FnScope ["one", "other"] ["one", "other"] (defScope (topL 27)) := ⟨rfl, rfl, rfl, by decide +kernel, rfl, by decide +kernel, by decide +kernel⟩
/-! _law_less: slots 0 one, 1 other -/
def ir_law_less : Ss :=
  (.cons (.ret (.cmp .lt (.bin .mul (.ix (.var 0) (.cst (.int 0))) (.ix (.var 1) (.cst (.int 1)))) (.bin .mul (.ix (.var 1) (.cst (.int 0))) (.ix (.var 0) (.cst (.int 1))))))
  .nil)
def c_law_less : Ct := ⟨["one", "other"], defScope (topL 28), fun _ => true, [], []⟩
theorem hc_law_less : cSs 60 (c_law_less) (defBody (topL 28)) = some (ir_law_less) := by kernel_rfl
theorem hs_law_less : FnScope ["one", "other"] ["one", "other"] (defScope (topL 28)) := ⟨rfl, rfl, rfl, by decide +kernel, rfl, by decide +kernel, by decide +kernel⟩
/-! _law_sum: slots 0 ratios, 1 found, 2 one -/
def ir_law_sum : Ss :=
  (.cons (.asg (.nm 1) (.tup (.cons (.cst (.int 0)) (.cons (.cst (.int 1)) .nil))))
  (.cons (.for_ (.nm 2) (.seq (.var 0)) (.cons (.asg (.nm 1) (.call 20 (.cons (.var 1) (.cons (.var 2) .nil))))
  .nil))
  (.cons (.ret (.var 1))
  .nil)))
def c_law_sum : Ct := ⟨["ratios", "found", "one"], defScope (topL 29), fun _ => true, [("_law_plus", 20, 2)], []⟩
theorem hc_law_sum : cSs 60 (c_law_sum) (defBody (topL 29)) = some (ir_law_sum) := by kernel_rfl
theorem hs_law_sum : FnScope ["ratios", "found", "one"] ["ratios"] (defScope (topL 29)) := ⟨rfl, rfl, rfl, by decide +kernel, rfl, by decide +kernel, by decide +kernel⟩
/-! _law_min: slots 0 ratios, 1 found, 2 one -/
def ir_law_min : Ss :=
  (.cons (.asg (.nm 1) (.ix (.var 0) (.cst (.int 0))))
  (.cons (.for_ (.nm 2) (.seq (.var 0)) (.cons (.asg (.nm 1) (.ite (.call 23 (.cons (.var 2) (.cons (.var 1) .nil))) (.var 2) (.var 1)))
  .nil))
  (.cons (.ret (.var 1))
  .nil)))
def c_law_min : Ct := ⟨["ratios", "found", "one"], defScope (topL 30), fun _ => true, [("_law_less", 23, 2)], []⟩
theorem hc_law_min : cSs 60 (c_law_min) (defBody (topL 30)) = some (ir_law_min) := by kernel_rfl
theorem hs_law_min : FnScope ["ratios", "found", "one"] ["ratios"] (defScope (topL 30)) := ⟨rfl, rfl, rfl, by decide +kernel, rfl, by decide +kernel, by decide +kernel⟩
/-! _law_is_ratio: slots 0 value, 1 part -/
def ir_law_is_ratio : Ss :=
  (.cons (.ite (.or (.not (.bfn (.isT .tuple) (.cons (.var 0) .nil))) (.or (.cmp .ne (.bfn .len (.cons (.var 0) .nil)) (.cst (.int 2))) (.not (.bfn .all (.cons (.comp (.and (.bfn (.isT .int) (.cons (.var 1) .nil)) (.not (.bfn (.isT .bool) (.cons (.var 1) .nil)))) (.nm 1) (.seq (.var 0)) .no [1]) .nil))))) (.cons (.ret (.cst (.bl false)))
  .nil) .nil)
  (.cons (.ret (.and (.cmp .gt (.ix (.var 0) (.cst (.int 1))) (.cst (.int 0))) (.cmp .eq (.call 19 (.cons (.ix (.var 0) (.cst (.int 0))) (.cons (.ix (.var 0) (.cst (.int 1))) .nil))) (.var 0))))
  .nil))
def c_law_is_ratio : Ct := ⟨["value", "part"], defScope (topL 31), fun _ => true, [("_law_ratio", 19, 2)], []⟩
theorem hc_law_is_ratio : cSs 60 (c_law_is_ratio) (defBody (topL 31)) = some (ir_law_is_ratio) := by kernel_rfl
theorem hs_law_is_ratio : FnScope ["value", "part"] ["value"] (defScope (topL 31)) := ⟨rfl, rfl, rfl, by decide +kernel, rfl, by decide +kernel, by decide +kernel⟩
/-! _law_small: slots 0 tape, 1 top -/
def ir_law_small : Ss :=
  (.cons (.ret (.call 19 (.cons (.call 14 (.cons (.var 0) (.cons (.var 1) .nil))) (.cons (.bin .add (.cst (.int 1)) (.call 14 (.cons (.var 0) (.cons (.cst (.int 4)) .nil)))) .nil))))
  .nil)
def c_law_small : Ct := ⟨["tape", "top"], defScope (topL 32), fun _ => true, [("_law_ratio", 19, 2), ("_law_take", 14, 2)], []⟩
theorem hc_law_small : cSs 60 (c_law_small) (defBody (topL 32)) = some (ir_law_small) := by kernel_rfl
theorem hs_law_small : FnScope ["tape", "top"] ["tape", "top"] (defScope (topL 32)) := ⟨rfl, rfl, rfl, by decide +kernel, rfl, by decide +kernel, by decide +kernel⟩
/-! _law_incomes: slots 0 tape, 1 many, 2 top, 3 k -/
def ir_law_incomes : Ss :=
  (.cons (.asg (.nm 2) (.ix (.lst (.cons (.cst (.int 4)) (.cons (.cst (.int 60)) (.cons (.cst (.int 3000)) .nil)))) (.call 14 (.cons (.var 0) (.cons (.cst (.int 3)) .nil)))))
  (.cons (.ret (.bfn .tuple (.cons (.comp (.call 27 (.cons (.var 0) (.cons (.var 2) .nil))) (.nm 3) (.rng1 (.bin .add (.cst (.int 1)) (.call 14 (.cons (.var 0) (.cons (.var 1) .nil))))) .no [3]) .nil)))
  .nil))
def c_law_incomes : Ct := ⟨["tape", "many", "top", "k"], defScope (topL 33), fun _ => true, [("_law_small", 27, 2), ("_law_take", 14, 2)], []⟩
theorem hc_law_incomes : cSs 60 (c_law_incomes) (defBody (topL 33)) = some (ir_law_incomes) := by kernel_rfl
theorem hs_law_incomes : FnScope ["tape", "many", "top", "k"] ["tape", "many"] (defScope (topL 33)) := ⟨rfl, rfl, rfl, by decide +kernel, rfl, by decide +kernel, by decide +kernel⟩
/-! _law_above: slots 0 incomes, 1 e, 2 x -/
def ir_law_above : Ss :=
  (.cons (.ret (.call 24 (.cons (.comp (.call 21 (.cons (.var 2) (.cons (.var 1) .nil))) (.nm 2) (.seq (.var 0)) (.yes (.call 23 (.cons (.var 1) (.cons (.var 2) .nil)))) [2]) .nil)))
  .nil)
def c_law_above : Ct := ⟨["incomes", "e", "x"], defScope (topL 34), fun _ => true, [("_law_less", 23, 2), ("_law_minus", 21, 2), ("_law_sum", 24, 1)], []⟩
theorem hc_law_above : cSs 60 (c_law_above) (defBody (topL 34)) = some (ir_law_above) := by kernel_rfl
theorem hs_law_above : FnScope ["incomes", "e", "x"] ["incomes", "e"] (defScope (topL 34)) := ⟨rfl, rfl, rfl, by decide +kernel, rfl, by decide +kernel, by decide +kernel⟩
/-! law: slots 0 script, 1 tape, 2 turn, 3 e, 4 b, 5 groups, 6 step, 7 incomes, 8 x, 9 parts, 10 inner, 11 outer, 12 p, 13 q, 14 goals, 15 whole, 16 first, 17 second, 18 told_here, 19 k, 20 goal, 21 fits, 22 side -/
def ir_law_3 : Ss :=
  (.cons (.expr (.mth .append (.var 5) (.cons (.var 7) .nil)))
  .nil)
def ir_law_2 : Ss :=
  (.cons (.asg (.nm 7) (.call 28 (.cons (.var 1) (.cons (.cst (.int 5)) .nil))))
  (.cons (.ite (.cmp .eq (.call 14 (.cons (.var 1) (.cons (.cst (.int 4)) .nil))) (.cst (.int 0))) (.cons (.asg (.nm 7) (.bfn .tuple (.cons (.comp (.call 25 (.cons (.lst (.cons (.var 8) (.cons (.ix (.lst (.cons (.var 3) (.cons (.var 4) .nil))) (.call 14 (.cons (.var 1) (.cons (.cst (.int 2)) .nil)))) .nil))) .nil)) (.nm 8) (.seq (.var 7)) .no [8]) .nil)))
  .nil) .nil)
  ir_law_3))
def ir_law_7 : Ss :=
  (.cons (.expr (.mth .append (.var 9) (.cons (.tup (.cons (.var 10) (.cons (.var 11) .nil))) .nil)))
  .nil)
def ir_law_6 : Ss :=
  (.cons (.par 10 11 (.call 21 (.cons (.call 29 (.cons (.var 7) (.cons (.var 3) .nil))) (.cons (.call 29 (.cons (.var 7) (.cons (.var 4) .nil))) .nil))) (.call 29 (.cons (.var 7) (.cons (.var 4) .nil))))
  (.cons (.ite (.not (.call 18 (.cons (.call 9 (.cons (.var 7) (.cons (.var 3) (.cons (.var 4) .nil)))) (.cons (.var 10) .nil)))) (.cons (.ret (.cst (.bl false)))
  .nil) .nil)
  ir_law_7))
def ir_law_11 : Ss :=
  (.cons (.ite (.cmp .ne (.call 20 (.cons (.call 22 (.cons (.ix (.var 18) (.cst (.int 1))) (.cons (.ix (.ix (.var 9) (.var 19)) (.cst (.int 0))) .nil))) (.cons (.call 22 (.cons (.ix (.var 18) (.cst (.int 2))) (.cons (.ix (.ix (.var 9) (.var 19)) (.cst (.int 1))) .nil))) .nil))) (.var 20)) (.cons (.ret (.cst (.bl false)))
  .nil) .nil)
  .nil)
def ir_law_12 : Ss :=
  (.cons (.ite (.and (.cmp .eq (.tup (.cons (.var 16) (.cons (.var 17) .nil))) (.tup (.cons (.ix (.var 14) (.cst (.int 0))) (.cons (.ix (.var 14) (.cst (.int 1))) .nil)))) (.cmp .ne (.sl (.var 18) (.yes (.cst (.int 1))) .no) (.tup (.cons (.var 12) (.cons (.var 13) .nil))))) (.cons (.ret (.cst (.bl false)))
  .nil) .nil)
  .nil)
def ir_law_10 : Ss :=
  (.cons (.for_ (.tp (.cons (.nm 19) (.cons (.nm 20) .nil))) (.seq (.tup (.cons (.tup (.cons (.cst (.int 0)) (.cons (.var 16) .nil))) (.cons (.tup (.cons (.cst (.int 1)) (.cons (.var 17) .nil))) .nil)))) ir_law_11)
  ir_law_12)
def ir_law_13 : Ss :=
  (.cons (.ite (.and (.cmp .eq (.ix (.var 9) (.var 19)) (.tup (.cons (.tup (.cons (.cst (.int 0)) (.cons (.cst (.int 1)) .nil))) (.cons (.tup (.cons (.cst (.int 0)) (.cons (.cst (.int 1)) .nil))) .nil)))) (.cmp .ne (.var 20) (.tup (.cons (.cst (.int 0)) (.cons (.cst (.int 1)) .nil))))) (.cons (.asg (.nm 21) (.cst (.bl false)))
  .nil) .nil)
  .nil)
def ir_law_15 : Ss :=
  (.cons (.ite (.not (.call 18 (.cons (.var 18) (.cons (.ite (.var 21) (.tup (.cons (.cst (.str "many")) .nil)) (.tup (.cons (.cst (.str "none")) .nil))) .nil)))) (.cons (.ret (.cst (.bl false)))
  .nil) .nil)
  .nil)
def ir_law_14 : Ss :=
  (.cons (.ite (.and (.cmp .ne (.ix (.var 9) (.cst (.int 0))) (.tup (.cons (.tup (.cons (.cst (.int 0)) (.cons (.cst (.int 1)) .nil))) (.cons (.tup (.cons (.cst (.int 0)) (.cons (.cst (.int 1)) .nil))) .nil)))) (.cmp .ne (.ix (.var 9) (.cst (.int 1))) (.tup (.cons (.tup (.cons (.cst (.int 0)) (.cons (.cst (.int 1)) .nil))) (.cons (.tup (.cons (.cst (.int 0)) (.cons (.cst (.int 1)) .nil))) .nil))))) (.cons (.asg (.nm 22) (.ite (.cmp .ne (.ix (.ix (.var 9) (.cst (.int 0))) (.cst (.int 0))) (.tup (.cons (.cst (.int 0)) (.cons (.cst (.int 1)) .nil)))) (.cst (.int 0)) (.cst (.int 1))))
  (.cons (.asg (.nm 21) (.cmp .eq (.call 22 (.cons (.var 16) (.cons (.ix (.ix (.var 9) (.cst (.int 1))) (.var 22)) .nil))) (.call 22 (.cons (.var 17) (.cons (.ix (.ix (.var 9) (.cst (.int 0))) (.var 22)) .nil)))))
  .nil)) .nil)
  ir_law_15)
def ir_law_9 : Ss :=
  (.cons (.asg (.nm 18) (.call 11 (.cons (.var 3) (.cons (.var 4) (.cons (.ix (.var 5) (.cst (.int 0))) (.cons (.var 16) (.cons (.ix (.var 5) (.cst (.int 1))) (.cons (.var 17) .nil))))))))
  (.cons (.ite (.cmp .ne (.var 15) (.tup (.cons (.cst (.int 0)) (.cons (.cst (.int 1)) .nil)))) (.cons (.ite (.or (.cmp .ne (.ix (.var 18) (.cst (.int 0))) (.cst (.str "rates"))) (.or (.cmp .ne (.bfn .len (.cons (.var 18) .nil)) (.cst (.int 3))) (.or (.not (.call 26 (.cons (.ix (.var 18) (.cst (.int 1))) .nil))) (.not (.call 26 (.cons (.ix (.var 18) (.cst (.int 2))) .nil)))))) (.cons (.ret (.cst (.bl false)))
  .nil) .nil)
  ir_law_10) (.cons (.asg (.nm 21) (.cst (.bl true)))
  (.cons (.for_ (.tp (.cons (.nm 19) (.cons (.nm 20) .nil))) (.seq (.tup (.cons (.tup (.cons (.cst (.int 0)) (.cons (.var 16) .nil))) (.cons (.tup (.cons (.cst (.int 1)) (.cons (.var 17) .nil))) .nil)))) ir_law_13)
  ir_law_14)))
  .nil))
def ir_law_8 : Ss :=
  (.cons (.asg (.tp (.cons (.nm 12) (.cons (.nm 13) .nil))) (.tup (.cons (.call 19 (.cons (.bin .sub (.call 14 (.cons (.var 1) (.cons (.cst (.int 21)) .nil))) (.cst (.int 5))) (.cons (.cst (.int 10)) .nil))) (.cons (.call 19 (.cons (.bin .sub (.call 14 (.cons (.var 1) (.cons (.cst (.int 21)) .nil))) (.cst (.int 5))) (.cons (.cst (.int 10)) .nil))) .nil))))
  (.cons (.asg (.nm 14) (.comp (.call 20 (.cons (.call 22 (.cons (.var 12) (.cons (.var 10) .nil))) (.cons (.call 22 (.cons (.var 13) (.cons (.var 11) .nil))) .nil))) (.tp (.cons (.nm 10) (.cons (.nm 11) .nil))) (.seq (.var 9)) .no [10, 11]))
  (.cons (.asg (.nm 15) (.call 21 (.cons (.call 22 (.cons (.ix (.ix (.var 9) (.cst (.int 0))) (.cst (.int 0))) (.cons (.ix (.ix (.var 9) (.cst (.int 1))) (.cst (.int 1))) .nil))) (.cons (.call 22 (.cons (.ix (.ix (.var 9) (.cst (.int 0))) (.cst (.int 1))) (.cons (.ix (.ix (.var 9) (.cst (.int 1))) (.cst (.int 0))) .nil))) .nil))))
  (.cons (.for_ (.tp (.cons (.nm 16) (.cons (.nm 17) .nil))) (.seq (.tup (.cons (.tup (.cons (.ix (.var 14) (.cst (.int 0))) (.cons (.ix (.var 14) (.cst (.int 1))) .nil))) (.cons (.tup (.cons (.ix (.var 14) (.cst (.int 0))) (.cons (.call 20 (.cons (.ix (.var 14) (.cst (.int 1))) (.cons (.tup (.cons (.cst (.int 1)) (.cons (.cst (.int 3)) .nil))) .nil))) .nil))) (.cons (.tup (.cons (.call 27 (.cons (.var 1) (.cons (.cst (.int 30)) .nil))) (.cons (.call 27 (.cons (.var 1) (.cons (.cst (.int 30)) .nil))) .nil))) (.cons (.tup (.cons (.tup (.cons (.cst (.int 0)) (.cons (.cst (.int 1)) .nil))) (.cons (.tup (.cons (.cst (.int 0)) (.cons (.cst (.int 1)) .nil))) .nil))) .nil)))))) ir_law_9)
  .nil))))
def ir_law_5 : Ss :=
  (.cons (.asg (.nm 9) (.lst .nil))
  (.cons (.for_ (.nm 7) (.seq (.var 5)) ir_law_6)
  ir_law_8))
def ir_law_4 : Ss :=
  (.cons (.ite (.cmp .eq (.call 14 (.cons (.var 1) (.cons (.cst (.int 5)) .nil))) (.cst (.int 0))) (.cons (.asg (.ix (.var 5) (.cst (.int 1))) (.bin .mul (.ix (.var 5) (.cst (.int 0))) (.cst (.int 2))))
  .nil) .nil)
  ir_law_5)
def ir_law_1 : Ss :=
  (.cons (.asg (.nm 3) (.call 27 (.cons (.var 1) (.cons (.cst (.int 20)) .nil))))
  (.cons (.asg (.nm 4) (.call 20 (.cons (.var 3) (.cons (.call 20 (.cons (.call 27 (.cons (.var 1) (.cons (.cst (.int 20)) .nil))) (.cons (.tup (.cons (.cst (.int 1)) (.cons (.cst (.int 2)) .nil))) .nil))) .nil))))
  (.cons (.asg (.nm 5) (.lst .nil))
  (.cons (.for_ (.nm 6) (.rng1 (.cst (.int 2))) ir_law_2)
  ir_law_4))))
def ir_law_16 : Ss :=
  (.cons (.ret (.cst (.bl true)))
  .nil)
def ir_law : Ss :=
  (.cons (.asg (.nm 1) (.call 13 (.cons (.var 0) .nil)))
  (.cons (.for_ (.nm 2) (.rng1 (.cst (.int 5))) ir_law_1)
  ir_law_16))
def c_law : Ct := ⟨["script", "tape", "turn", "e", "b", "groups", "step", "incomes", "x", "parts", "inner", "outer", "p", "q", "goals", "whole", "first", "second", "told_here", "k", "goal", "fits", "side"], defScope (topL 35), fun _ => true, [("_law_above", 29, 2), ("_law_incomes", 28, 2), ("_law_is_ratio", 26, 1), ("_law_min", 25, 1), ("_law_minus", 21, 2), ("_law_plus", 20, 2), ("_law_ratio", 19, 2), ("_law_same", 18, 2), ("_law_small", 27, 2), ("_law_take", 14, 2), ("_law_tape", 13, 1), ("_law_times", 22, 2), ("between", 9, 3), ("two_rates", 11, 6)], []⟩
theorem hc_law : cSs 60 (c_law) (defBody (topL 35)) = some (ir_law) := by kernel_rfl
theorem hs_law : FnScope ["script", "tape", "turn", "e", "b", "groups", "step", "incomes", "x", "parts", "inner", "outer", "p", "q", "goals", "whole", "first", "second", "told_here", "k", "goal", "fits", "side"] ["script"] (defScope (topL 35)) := ⟨rfl, rfl, rfl, by decide +kernel, rfl, by decide +kernel, by decide +kernel⟩
def aboveR (xs : List Rat) (e : Rat) : Rat := sumR ((xs.filter fun x => decide (e < x)).map fun x => x - e)
def sp_above : List D → Mem → K1 → Prop := fun ds M q => ∃ xs e, ds = [.tup (List.map rat xs), rat e] ∧ xs.length ≤ 10 ∧ (∀ x ∈ xs, SzR 14 x) ∧ SzR 14 e ∧ q (rat (aboveR xs e)) M
def sp_law_above := sp_above
def sp_between : List D → Mem → K1 → Prop := fun ds M q => ∃ xs e b, ds = [.tup (List.map rat xs), rat e, rat b] ∧ xs.length ≤ 10 ∧ (∀ x ∈ xs, SzR 14 x) ∧ SzR 14 e ∧ SzR 14 b ∧ q (rat (aboveR xs e - aboveR xs b)) M
def sp_crossed : List D → Mem → K1 → Prop := fun ds M q => ∃ a b c d, ds = [rat a, rat b, rat c, rat d] ∧ SzR 1900 a ∧ SzR 1900 b ∧ SzR 1900 c ∧ SzR 1900 d ∧ q (rat (a * d - b * c)) M
def twoD (m t n u f s : Rat) : D :=
  if m * u - t * n = 0 then
    (if f * u - t * s = 0 ∧ m * s - f * n = 0 then (if (m = 0 ∧ t = 0 ∧ f ≠ 0) ∨ (n = 0 ∧ u = 0 ∧ s ≠ 0) then .tup [.str "none"] else .tup [.str "many"]) else .tup [.str "none"])
  else .tup [.str "rates", rat ((f * u - t * s) / (m * u - t * n)), rat ((m * s - f * n) / (m * u - t * n))]
def sp_two_rates : List D → Mem → K1 → Prop := fun ds M q => ∃ e b xs f ys s, ds = [rat e, rat b, .tup (List.map rat xs), rat f, .tup (List.map rat ys), rat s] ∧ xs.length ≤ 5 ∧ (∀ x ∈ xs, SzR 14 x) ∧ ys.length ≤ 10 ∧ (∀ x ∈ ys, SzR 14 x) ∧ SzR 14 e ∧ SzR 14 b ∧ SzR 465 f ∧ SzR 918 s ∧
  q (twoD (aboveR xs e - aboveR xs b) (aboveR xs b) (aboveR ys e - aboveR ys b) (aboveR ys b) f s) M
def sp_law_minus := sp_minus
def sp_law_less := sp_less
def sp_law_sum := sp_sum_of
def sp_law_min : List D → Mem → K1 → Prop := fun ds M q => ∃ a x xs, ds = [.lst a] ∧ M a = some (List.map rat (x :: xs)) ∧ (∀ y ∈ x :: xs, SzR 4000 y) ∧ ∀ y ∈ x :: xs, q (rat y) M
def sp_law_is_ratio : List D → Mem → K1 → Prop := fun ds M q => ∃ x, ds = [rat x] ∧ SzR 8000 x ∧ q (.bl true) M
def sp_law_small : List D → Mem → K1 → Prop := fun ds M q => ∃ b top, ds = [.lst b, .int top] ∧ 0 < top ∧ ∃ k, 3 ≤ k ∧ k ≤ 4000 ∧ top ≤ 2 ^ k ∧ spTp (fun d => ∃ x, d = rat x ∧ SzR k x) b M q
def sp_law_incomes : List D → Mem → K1 → Prop := fun ds M q => ∃ b, ds = [.lst b, .int 5] ∧ spTp (fun d => ∃ x xs, d = .tup (List.map rat (x :: xs)) ∧ xs.length ≤ 4 ∧ ∀ y ∈ x :: xs, SzR 12 y) b M q
theorem inj1 {x y : Rat} {l r : List D} (h : rat x :: l = rat y :: r) : x = y ∧ l = r := by
  injection h with h1 h2
  exact ⟨rat_inj h1, h2⟩
theorem sp_crossed_eq {a b c d : Rat} {M : Mem} {q : K1} : sp_crossed [rat a, rat b, rat c, rat d] M q = (SzR 1900 a ∧ SzR 1900 b ∧ SzR 1900 c ∧ SzR 1900 d ∧ q (rat (a * d - b * c)) M) := propext ⟨fun ⟨a', b', c', d', e, h⟩ => by
  obtain ⟨e1, f1⟩ := inj1 e
  obtain ⟨e2, f2⟩ := inj1 f1
  obtain ⟨e3, f3⟩ := inj1 f2
  obtain ⟨e4, f4⟩ := inj1 f3
  rw [e1, e2, e3, e4]
  exact h, fun h => ⟨a, b, c, d, rfl, h⟩⟩
theorem sp_law_is_ratio_eq {x : Rat} {M : Mem} {q : K1} : sp_law_is_ratio [rat x] M q = (SzR 8000 x ∧ q (.bl true) M) := propext ⟨fun ⟨x', e, h⟩ => by
  rw [(inj1 e).1]
  exact h, fun h => ⟨x, rfl, h⟩⟩
def Gm : Gam := fun g => match g with
  | 0 => sp_common_divisor
  | 1 => sp_ratio
  | 2 => sp_plus
  | 3 => sp_minus
  | 4 => sp_times
  | 5 => sp_over
  | 6 => sp_less
  | 7 => sp_sum_of
  | 8 => sp_above
  | 9 => sp_between
  | 10 => sp_crossed
  | 11 => sp_two_rates
  | 12 => sp_law_mix
  | 13 => sp_law_tape
  | 14 => sp_law_take
  | 15 => sp_law_same 0
  | 16 => sp_law_same 1
  | 17 => sp_law_same 2
  | 18 => sp_law_same 3
  | 19 => sp_law_ratio
  | 20 => sp_law_plus
  | 21 => sp_law_minus
  | 22 => sp_law_times
  | 23 => sp_law_less
  | 24 => sp_law_sum
  | 25 => sp_law_min
  | 26 => sp_law_is_ratio
  | 27 => sp_law_small
  | 28 => sp_law_incomes
  | 29 => sp_law_above
  | 30 => spLaw
  | _ => fun _ _ _ => False
theorem Gm_0 : Gm 0 = sp_common_divisor := rfl
theorem Gm_1 : Gm 1 = sp_ratio := rfl
theorem Gm_2 : Gm 2 = sp_plus := rfl
theorem Gm_3 : Gm 3 = sp_minus := rfl
theorem Gm_4 : Gm 4 = sp_times := rfl
theorem Gm_5 : Gm 5 = sp_over := rfl
theorem Gm_6 : Gm 6 = sp_less := rfl
theorem Gm_7 : Gm 7 = sp_sum_of := rfl
theorem Gm_8 : Gm 8 = sp_above := rfl
theorem Gm_9 : Gm 9 = sp_between := rfl
theorem Gm_10 : Gm 10 = sp_crossed := rfl
theorem Gm_11 : Gm 11 = sp_two_rates := rfl
theorem Gm_12 : Gm 12 = sp_law_mix := rfl
theorem Gm_13 : Gm 13 = sp_law_tape := rfl
theorem Gm_14 : Gm 14 = sp_law_take := rfl
theorem Gm_15 : Gm 15 = sp_law_same 0 := rfl
theorem Gm_16 : Gm 16 = sp_law_same 1 := rfl
theorem Gm_17 : Gm 17 = sp_law_same 2 := rfl
theorem Gm_18 : Gm 18 = sp_law_same 3 := rfl
theorem Gm_19 : Gm 19 = sp_law_ratio := rfl
theorem Gm_20 : Gm 20 = sp_law_plus := rfl
theorem Gm_21 : Gm 21 = sp_law_minus := rfl
theorem Gm_22 : Gm 22 = sp_law_times := rfl
theorem Gm_23 : Gm 23 = sp_law_less := rfl
theorem Gm_24 : Gm 24 = sp_law_sum := rfl
theorem Gm_25 : Gm 25 = sp_law_min := rfl
theorem Gm_26 : Gm 26 = sp_law_is_ratio := rfl
theorem Gm_27 : Gm 27 = sp_law_small := rfl
theorem Gm_28 : Gm 28 = sp_law_incomes := rfl
theorem Gm_29 : Gm 29 = sp_law_above := rfl
theorem Gm_30 : Gm 30 = spLaw := rfl
local macro_rules | `(tactic| walk_at "wp") => `(tactic| simp only [wpSs, wpS, wpE, wpEs, wpO, wpC, wpT, wpTs, wpI, get, put, wipeE, clr, reps, bfW, mthW, isT_tup, isT_rat, isTy, eqW_int, eqW_bl, eqW_rat, eqW_rats, eqW_str, sl_from1, ix_rat0, ix_rat1, at0, at1, at2, at3, isWh_int, entry_eq, add_int, sub_int, imul_int, fdiv_int, mod_int, pow_int, add_str, add_tup, add_lst, mul_tup, cmp_isb, cmp_isntb, aug_lst, aug_add, aug_sub, aug_mul, lt_int, le_int, gt_int, ge_int, cmp_eq, cmp_ne, cmp_in, cmp_notin, cmp_is, cmp_isnt, isNon_int, isNon_non, isNon_tup, isNon_rat, ix_tup, ix_lst, len_tup, len_lst, len_scr, abs_int, tuple_lst, tuple_tup, list_tup, list_lst, all_lst, any_lst, int_int, int_bl, isT_bl, isT_int, isT_non, isT_str, isT_lst, tru_int, tru_bl, tru_non, tru_tup, tru_lst, set_lst, app_lst, popAt0, mth_c, pop_lst, ext_lst, mth_o, seq_tup, seq_lst, rng1_int, rng2_int, sl_tup, sl_lst, sl_scr, ex_some, ex_some1, ex_cons, ite_t, ite_f, ix0, ix1, ix2, ix3, up_up, rat_neg, rat01, rat11,
  sp_is_whole_eq, sp_common_divisor_eq, sp_is_ratio_eq, sp_ratio_eq, sp_law_divisor_eq, sp_rr_eq, sp_over_eq, sp_law_same_eq, sp_law_box_eq, spDr_eq, sp_law_draw_eq, sp_law_mix_eq, sp_law_tape_eq, sp_law_take_eq, sp_crossed_eq, sp_law_is_ratio_eq, sp_plus, sp_minus, sp_times, sp_less, sp_law_ratio, sp_law_plus, sp_law_times, sp_law_load, sp_law_above, sp_law_minus, sp_law_less, sp_law_sum,
  Gm_0, Gm_1, Gm_2, Gm_3, Gm_4, Gm_5, Gm_6, Gm_7, Gm_8, Gm_9, Gm_10, Gm_11, Gm_12, Gm_13, Gm_14, Gm_15, Gm_16, Gm_17, Gm_18, Gm_19, Gm_20, Gm_21, Gm_22, Gm_23, Gm_24, Gm_25, Gm_26, Gm_27, Gm_28, Gm_29, Gm_30,
  List.map, List.length, List.append, Nat.reduceSub, Nat.reduceAdd, Nat.sub_self, Option.some.injEq, D.int.injEq, D.bl.injEq, D.tup.injEq, D.lst.injEq, exists_eq_left', exists_eq_left, exists_eq_right, List.cons_append, List.nil_append, List.set_cons_zero, List.set_cons_succ, List.head?_cons, List.tail_cons, Ts.len,
  Bool.not_true, Bool.not_false, Bool.true_and, Bool.and_true, Bool.false_and, Bool.and_false, reduceIte, decide_true, decide_false, bne_self_eq_false, true_and, and_true, List.isEmpty_cons, List.isEmpty_nil])
theorem bd_common_divisor : Body Gm ir_common_divisor 2 2 (Gm 0) := by
  rintro ds M q hl ⟨a, b, rfl, h⟩
  simp only [ir_common_divisor] <;> walk_at "wp"
  refine ⟨fun m ρ M' => ∃ a' b' : Int, ρ = [some (.int a'), some (.int b')] ∧ M' = M ∧ 0 ≤ a' ∧ 0 ≤ b' ∧ m = b'.natAbs ∧ Int.gcd a' b' = Int.gcd a b, ⟨_, _, _, rfl, rfl, by omega, by omega, rfl, gcd_abs a b⟩, ?_⟩
  rintro m ρ M' ⟨a', b', rfl, rfl, ha, hb, rfl, hg⟩
  walk_at "wp"
  by_cases z : b' = 0
  · subst z
    simp only [bne_self_eq_false, Bool.false_eq_true, if_false]
    have : a' = (Int.gcd a b : Nat) := by rw [← hg, Int.gcd_zero_right]; omega
    rw [this]
    exact .mk h
  · rw [if_pos (by simpa using z)]
    refine ⟨_, fun ρ' M' h => h, z, ?_⟩
    refine ⟨_, ?_, _, _, rfl, rfl, hb, ?_, rfl, ?_⟩
    · rw [Int.fmod_eq_emod_of_nonneg _ hb]
      have := Int.emod_lt_of_pos a' (show 0 < b' by omega)
      have := Int.emod_nonneg a' z
      omega
    · rw [Int.fmod_eq_emod_of_nonneg _ hb]; exact Int.emod_nonneg a' z
    · rw [gcd_step]; exact hg
theorem bd_ratio : Body Gm ir_ratio 3 2 (Gm 1) := by
  rintro ds M q hl ⟨a, b, rfl, hb, ha, hs, h⟩
  simp only [ir_ratio] <;> walk_at "wp"
  rw [if_neg (by simpa using hb)]
  have g1 : ∀ x y : Int, x ≠ 0 → Sz 8100 x → DvOk (Int.gcd y x) := fun x y z s => by
    refine Sz.dv (n := 8100) (s.of_le ?_) (by omega)
    exact Nat.le_of_dvd (by omega) (Int.natAbs_dvd_natAbs.mpr (Int.gcd_dvd_right ..))
  by_cases z : b < 0
  · rw [if_pos (by simpa using z)]
    have := gcd_pos (p := -a) (q := -b) (by omega)
    refine ⟨⟨by omega, g1 _ _ (by omega) hs.neg⟩, ⟨by omega, g1 _ _ (by omega) hs.neg⟩, ?_⟩
    rw [ratio_pos (by omega), Rat.neg_divInt_neg]
    exact .mk h
  · rw [if_neg (by simpa using z)]
    have := gcd_pos (p := a) (q := b) (by omega)
    refine ⟨⟨by omega, g1 _ _ (by omega) hs⟩, ⟨by omega, g1 _ _ (by omega) hs⟩, ?_⟩
    rw [ratio_pos (by omega)]
    exact .mk h
theorem bd_plus : Body Gm ir_plus 2 2 (Gm 2) := by
  rintro ds M q hl ⟨x, y, rfl, hx, hy, h⟩
  simp only [ir_plus] <;> walk_at "wp"
  refine ⟨hx.num.ok hy.den (by omega), hy.num.ok hx.den (by omega), hx.den.ok hy.den (by omega), Int.mul_ne_zero (den_ne x) (den_ne y), (hx.num.mul hy.den (Nat.le_refl _)).add (hy.num.mul hx.den (by omega)) (by omega), hx.den.mul hy.den (by omega), ?_⟩
  rw [rat_add]; exact .mk h
theorem bd_minus : Body Gm ir_minus 2 2 (Gm 3) := by
  rintro ds M q hl ⟨x, y, rfl, hx, hy, h⟩
  simp only [ir_minus] <;> walk_at "wp"
  refine ⟨hx.num.ok hy.den (by omega), hy.num.ok hx.den (by omega), hx.den.ok hy.den (by omega), Int.mul_ne_zero (den_ne x) (den_ne y), (hx.num.mul hy.den (Nat.le_refl _)).sub (hy.num.mul hx.den (by omega)) (by omega), hx.den.mul hy.den (by omega), ?_⟩
  rw [rat_sub]; exact .mk h
theorem bd_times : Body Gm ir_times 2 2 (Gm 4) := by
  rintro ds M q hl ⟨x, y, rfl, hx, hy, h⟩
  simp only [ir_times] <;> walk_at "wp"
  refine ⟨hx.num.ok hy.num (by omega), hx.den.ok hy.den (by omega), Int.mul_ne_zero (den_ne x) (den_ne y), hx.num.mul hy.num (by omega), hx.den.mul hy.den (by omega), ?_⟩
  rw [rat_mul]; exact .mk h
theorem bd_over : Body Gm ir_over 2 2 (Gm 5) := by
  rintro ds M q hl ⟨x, y, rfl, hx, hy, z, h⟩
  simp only [ir_over] <;> walk_at "wp"
  refine ⟨hx.num.ok hy.den (by omega), hx.den.ok hy.num (by omega), Int.mul_ne_zero (den_ne x) (fun e => z (Rat.num_eq_zero.mp e)), hx.num.mul hy.den (by omega), hx.den.mul hy.num (by omega), ?_⟩
  rw [rat_div]; exact .mk h
theorem bd_less : Body Gm ir_less 2 2 (Gm 6) := by
  rintro ds M q hl ⟨x, y, rfl, hx, hy, h⟩
  simp only [ir_less] <;> walk_at "wp"
  refine ⟨hx.num.ok hy.den (by omega), hy.num.ok hx.den (by omega), ?_⟩
  have : decide (x.num * ↑y.den < y.num * ↑x.den) = decide (x < y) := by rw [Bool.eq_iff_iff]; simp [Rat.lt_iff]
  rw [this]; exact .mk h
theorem bd_sum_of : Body Gm ir_sum_of 3 1 (Gm 7) := by
  rintro ds M q hl ⟨rs, hd, hr, hs, h⟩
  simp only [ir_sum_of]
  have step : ∀ i r, rs[i]? = some r → SzR 4000 (sumR (rs.take i)) ∧ SzR 4000 r ∧ sumR (rs.take i) + r = sumR (rs.take (i + 1)) := fun i r e =>
    ⟨hs i (Nat.le_of_lt (List.getElem?_eq_some_iff.mp e).1), hr r (List.mem_of_getElem? e), (sumR_take e).symm⟩
  have body : ∀ (w : D) (i : Nat) (d : D) (x y : Option D), (rs.map rat)[i]? = some d → x = some w → ∃ r, d = rat r ∧ rs[i]? = some r := by
    intro w i d x y hd _
    simp only [List.getElem?_map, Option.map_eq_some_iff] at hd
    obtain ⟨r, hr2, rfl⟩ := hd
    exact ⟨r, rfl, hr2⟩
  rcases hd with rfl | ⟨a, rfl, hM⟩
  · walk_at "wp"
    intro hz
    refine ⟨fun i ρ M' => M' = M ∧ ∃ x y, ρ = [x, some (rat (sumR (rs.take i))), y], ⟨rfl, _, _, rfl⟩, fun _ _ _ _ _ => trivial, ?_, ?_⟩
    · rintro i d ρ M' hd ⟨rfl, x, y, rfl⟩
      obtain ⟨r, rfl, hi⟩ := body .non i d _ x hd rfl
      obtain ⟨s1, s2, s3⟩ := step i r hi
      walk_at "wp"
      exact ⟨s1, s2, x, some (rat r), by rw [s3]⟩
    · rintro ρ M' ⟨rfl, x, y, rfl⟩
      rw [List.length_map, List.take_length]
      walk_at "wp"
      exact .mk h
  · walk_at "wp"
    simp only [hM, ex_some]
    intro hz
    refine ⟨fun i ρ M' => M' = M ∧ ∃ x y, ρ = [x, some (rat (sumR (rs.take i))), y], ⟨rfl, _, _, rfl⟩, ?_, ?_, ?_⟩
    · rintro i ρ M' _ ⟨rfl, _⟩; exact hM
    · rintro i d ρ M' hd ⟨rfl, x, y, rfl⟩
      obtain ⟨r, rfl, hi⟩ := body .non i d _ x hd rfl
      obtain ⟨s1, s2, s3⟩ := step i r hi
      walk_at "wp"
      exact ⟨s1, s2, x, some (rat r), by rw [s3]⟩
    · rintro ρ M' ⟨rfl, x, y, rfl⟩
      rw [List.length_map, List.take_length]
      walk_at "wp"
      exact .mk h
theorem bd_law_mix : Body Gm ir_law_mix 1 1 (Gm 12) := by
  rintro ds M q hl ⟨n, rfl, h⟩
  simp only [ir_law_mix]
  walk_at "wp"
  have p1 := Int.fmod_nonneg_of_pos (n * 6364136223846793005 + 1442695040888963407) (b := 18446744073709551616) (by omega)
  have p2 := Int.fmod_lt_of_pos (n * 6364136223846793005 + 1442695040888963407) (b := 18446744073709551616) (by omega)
  refine ⟨mul_small_right (by decide), by decide, mul_small_left (by omega), ⟨by decide, Sz.dv (n := 64) (.lit 64 (by decide) (by omega)) (by omega)⟩, mul_small_right (by decide), by decide, ?_⟩
  exact .mk (h _ (Int.fmod_nonneg_of_pos _ (by omega)))
theorem bd_law_tape : Body Gm ir_law_tape 1 1 (Gm 13) := by
  rintro ds M q hl ⟨a, ns, rfl, hn, h⟩
  simp only [ir_law_tape]
  walk_at "wp"
  refine ⟨Nat.le_trans hn (by decide), ?_⟩
  intro p hp
  simp only [up_same, ex_some]
  intro c hc b hb
  have hcp : c ≠ p := fun e => by subst e; rw [up_same] at hc; cases hc
  have hbc : b ≠ c := fun e => by subst e; rw [up_same] at hb; cases hb
  have hbp : b ≠ p := fun e => by subst e; rw [up_ne hbc, up_same] at hb; cases hb
  rw [up_ne hcp] at hc
  rw [up_ne hbc, up_ne hbp] at hb
  refine .mk (h b c _ hb hc ⟨hbc, cutD ns none (some 80), 0, 0, 1 + ns.length, up_same, by rw [up_ne hbc.symm, up_same], by omega, ?_⟩ (((Fr.up hp).trans .atC).trans .atB))
  unfold cutD
  rw [List.length_take, List.length_drop]
  omega
theorem bd_law_take : Body Gm ir_law_take 4 2 (Gm 14) := by
  rintro ds M q hl ⟨b, c, many, rfl, ⟨hne, cells, k, cur, seed, hb, hc, h0, h3⟩, hm, hs, h⟩
  have hcb : c ≠ b := hne.symm
  have hd := hs.dv (by omega)
  have hk : ∀ (M1 : Mem) (k : Nat) (cur seed : Int), M1 b = some [.lst c, .int k, .int cur, .int seed] → M1 c = some (cells.map D.int) → 0 ≤ cur → Fr b c M M1 → Out q (.int (cur.fmod many)) (M1.up b [.lst c, .int k, .int (cur.fdiv many), .int seed]) := by
    intro M1 k cur seed hb hc h0 hf
    refine .mk (h _ _ (Int.fmod_nonneg_of_pos _ hm) (Int.fmod_lt_of_pos _ hm) ⟨hne, cells, k, cur.fdiv many, seed, up_same, by rw [up_ne hcb]; exact hc, ?_, h3⟩ (hf.trans .atB))
    rw [Int.fdiv_eq_ediv_of_nonneg _ (by omega)]
    exact Int.ediv_nonneg h0 (by omega)
  simp only [ir_law_take]
  by_cases z : cur < many
  · by_cases z2 : (k : Int) < (cells.map D.int).length
    · have hlt : k < cells.length := by rw [List.length_map] at z2; omega
      have hget : atI (cells.map D.int) (k : Int) = some (.int cells[k]) := by rw [atNat]; simp [hlt]
      repeat (first | walk_at "wp" | simp only [hb, hc, up_same, up_ne hne, up_ne hcb, z, z2, hget, decide_true, ite_t])
      have fin : ∀ (seed1 cur1 : Int), 0 ≤ cur1 → many ≠ 0 ∧ (many ≠ 0 ∧ DvOk many) ∧ Out q (.int (cur1.fmod many)) (M.up b [.lst c, .int ((k : Int) + 1), .int (cur1.fdiv many), .int seed1]) := fun seed1 cur1 h1 => by
        have := hk (M.up b [.lst c, .int ((k + 1 : Nat) : Int), .int cur1, .int seed1]) (k + 1) cur1 seed1 up_same (by rw [up_ne hcb]; exact hc) h1 .atB
        rw [up_up] at this
        exact ⟨by omega, ⟨by omega, hd⟩, this⟩
      by_cases zc : 0 ≤ cells[k]
      · simp only [zc, decide_true, ite_t]
        refine ⟨mul_small_left (by decide), ?_⟩
        intro v hv
        repeat (first | walk_at "wp" | simp only [hb, hc, up_same, up_ne hne, up_ne hcb, z, z2, hget, decide_true, ite_t])
        refine ⟨by decide, ?_⟩
        by_cases zb : (10 : Int) ^ Int.toNat 18 ≤ 2 * cells[k]
        · simp only [zb, decide_true, ite_t]
          repeat (first | walk_at "wp" | simp only [hb, hc, up_same, up_ne hne, up_ne hcb, z, z2, hget, decide_true, ite_t])
          exact fin _ _ (by omega)
        · simp only [zb, decide_false, ite_f]
          intro v2 hv2
          repeat (first | walk_at "wp" | simp only [hb, hc, up_same, up_ne hne, up_ne hcb, z, z2, hget, decide_true, ite_t])
          intro v3 hv3
          repeat (first | walk_at "wp" | simp only [hb, hc, up_same, up_ne hne, up_ne hcb, z, z2, hget, decide_true, ite_t])
          exact fin _ _ hv3
      · simp only [zc, decide_false, ite_f]
        refine ⟨mul_small_left (by decide), ?_⟩
        intro v hv
        repeat (first | walk_at "wp" | simp only [hb, hc, up_same, up_ne hne, up_ne hcb, z, z2, hget, decide_true, ite_t])
        refine ⟨by decide, ?_⟩
        by_cases zb : (10 : Int) ^ Int.toNat 18 ≤ -2 * cells[k] - 1
        · simp only [zb, decide_true, ite_t]
          repeat (first | walk_at "wp" | simp only [hb, hc, up_same, up_ne hne, up_ne hcb, z, z2, hget, decide_true, ite_t])
          exact fin _ _ (by omega)
        · simp only [zb, decide_false, ite_f]
          intro v2 hv2
          repeat (first | walk_at "wp" | simp only [hb, hc, up_same, up_ne hne, up_ne hcb, z, z2, hget, decide_true, ite_t])
          intro v3 hv3
          repeat (first | walk_at "wp" | simp only [hb, hc, up_same, up_ne hne, up_ne hcb, z, z2, hget, decide_true, ite_t])
          exact fin _ _ hv3
    · repeat (first | walk_at "wp" | simp only [hb, hc, up_same, up_ne hne, up_ne hcb, z, z2, decide_true, decide_false, ite_t, ite_f])
      intro v hv
      repeat (first | walk_at "wp" | simp only [hb, hc, up_same, up_ne hne, up_ne hcb, z, z2, decide_true, decide_false, ite_t, ite_f])
      refine ⟨by omega, ⟨by omega, hd⟩, ?_⟩
      have := hk (M.up b [.lst c, .int k, .int v, .int v]) k v v up_same (by rw [up_ne hcb]; exact hc) hv .atB
      rw [up_up] at this
      exact this
  · repeat (first | walk_at "wp" | simp only [hb, hc, up_same, up_ne hne, up_ne hcb, z, decide_false, ite_f])
    exact ⟨by omega, ⟨by omega, hd⟩, hk _ _ _ _ hb hc h0 .refl⟩
theorem bd_law_same {g k : Nat} (hΓ : Gm g = sp_law_same k) : Body Gm (ir_law_same g) 3 2 (sp_law_same (k + 1)) := by
  rintro ds M q hl ⟨_, a, rfl, hf, h⟩
  simp only [ir_law_same]
  have hf : fitN k a = true := hf
  cases a with
  | lst a => cases k <;> simp [fitN] at hf
  | scr a ns => cases k <;> simp [fitN] at hf
  | non => walk_at "wp"; exact .mk h
  | bl b => walk_at "wp"; simp only [beq_self_eq_true]; exact .mk h
  | int i => walk_at "wp"; exact .mk h
  | str s =>
    walk_at "wp"
    have : PyData.strOk s = true := fit_pure hf
    simp only [eqW, D.pure, D.depth, deq, this, true_and, Nat.zero_le, beq_self_eq_true]
    exact .mk h
  | tup ds =>
    cases k with
    | zero => simp [fitN] at hf
    | succ k =>
      obtain ⟨hln, hall⟩ := fit_len hf
      walk_at "wp"
      refine ⟨by omega, by omega, by rw [rngD_len]; exact Nat.le_trans (by omega) (show 1000000 ≤ sizeLine by decide), fun i acc M' => M' = M ∧ acc = List.replicate i (.bl true), ⟨rfl, rfl⟩, fun _ _ _ _ _ => trivial, ?_, ?_⟩
      · rintro i d acc M' hd ⟨rfl, rfl⟩
        obtain ⟨hi, rfl⟩ := rngD_get hd
        have hi : i < ds.length := by omega
        have e : atI ds (0 + (i : Int)) = some ds[i] := by rw [Int.zero_add, atNat]; simp [hi]
        walk_at "wp"
        simp only [e, ex_some, hΓ, sp_law_same_eq, List.replicate_succ', true_and, and_true]
        exact hall _ (List.getElem_mem hi)
      · rintro acc M' hac ⟨rfl, rfl⟩ p hp
        simp only [all_lst, up_same, ex_some, blsOf_rep]
        have : (List.replicate (rngD 0 ((ds.length : Int)).toNat).length true).all id = true := by simp
        rw [this]
        exact .sub (Sub.up hp) h
theorem bd_law_ratio : Body Gm ir_law_ratio 4 2 (Gm 19) := by
  rintro ds M q hl ⟨p, q', rfl, hb, ha, hs, h⟩
  have loop : ∀ p q' : Int, 0 < q' → Sz 8100 p → Sz 8100 q' → Out q (rat (Rat.divInt p q')) M →
      wpSs Gm ir_law_ratio_1 [some (.int p), some (.int q'), none, none] M ⟨fun _ M' => Out q .non M', Out q, fun _ _ => False, fun _ _ => False⟩ := by
    intro p q' hq sp sq h
    simp only [ir_law_ratio_1]
    walk_at "wp"
    refine ⟨fun m ρ M' => ∃ a' b' : Int, ρ = [some (.int p), some (.int q'), some (.int a'), some (.int b')] ∧ M' = M ∧ 0 ≤ a' ∧ 0 ≤ b' ∧ m = b'.natAbs ∧ Int.gcd a' b' = Int.gcd p q' ∧ Sz 8200 a' ∧ Sz 8200 b', ⟨_, _, _, rfl, rfl, by omega, by omega, rfl, by simp [Int.gcd], sp.mono (by omega) |>.of_le (by omega), sq.mono (by omega)⟩, ?_⟩
    rintro m ρ M' ⟨a', b', rfl, rfl, ha, hb, rfl, hg, sa', sb'⟩
    walk_at "wp"
    by_cases z : 0 < b'
    · rw [if_pos (by simpa using z)]
      have e1 : a' - a'.fdiv b' * b' = a'.fmod b' := by rw [Int.fmod_def, Int.mul_comm]
      simp only [ir_law_ratio_2]
      walk_at "wp"
      refine ⟨_, fun ρ' M' h => h, ⟨by omega, sb'.dv (by omega)⟩, (sa'.fdiv z).ok sb' (by omega), ?_⟩
      rw [e1]
      have m1 := Int.emod_lt_of_pos a' z
      have m2 := Int.emod_nonneg a' (show b' ≠ 0 by omega)
      rw [Int.fmod_eq_emod_of_nonneg _ hb]
      refine ⟨_, by omega, _, _, rfl, rfl, hb, m2, rfl, ?_, sb', sb'.of_le (by omega)⟩
      rw [← Int.fmod_eq_emod_of_nonneg _ hb, gcd_step]; exact hg
    · have z0 : b' = 0 := by omega
      subst z0
      rw [if_neg (by simp)]
      have hga : a' = (Int.gcd p q' : Nat) := by rw [← hg, Int.gcd_zero_right]; omega
      have gp := gcd_pos (p := p) (q := q') (by omega)
      subst hga
      simp only [ir_law_ratio_3]
      walk_at "wp"
      refine ⟨⟨by omega, sa'.dv (by omega)⟩, ⟨by omega, sa'.dv (by omega)⟩, ?_⟩
      rw [ratio_pos hq]
      exact h
  simp only [ir_law_ratio]
  walk_at "wp"
  by_cases z : q' < 0
  · rw [if_pos (by simpa using z)]
    refine loop (0 - p) (0 - q') (by omega) (ha.of_le (by omega)) (hs.of_le (by omega)) ?_
    rw [Int.zero_sub, Int.zero_sub, Rat.neg_divInt_neg]
    exact .mk h
  · rw [if_neg (by simpa using z)]
    exact loop p q' (by omega) ha hs (.mk h)
theorem bd_law_plus : Body Gm ir_law_plus 2 2 (Gm 20) := by
  rintro ds M q hl ⟨x, y, rfl, hx, hy, h⟩
  simp only [ir_law_plus] <;> walk_at "wp"
  refine ⟨hx.num.ok hy.den (by omega), hy.num.ok hx.den (by omega), hx.den.ok hy.den (by omega), Int.mul_ne_zero (den_ne x) (den_ne y), (hx.num.mul hy.den (Nat.le_refl _)).add (hy.num.mul hx.den (by omega)) (by omega), hx.den.mul hy.den (by omega), ?_⟩
  rw [rat_add]; exact .mk h
theorem bd_law_minus : Body Gm ir_law_minus 2 2 (Gm 21) := by
  rintro ds M q hl ⟨x, y, rfl, hx, hy, h⟩
  simp only [ir_law_minus] <;> walk_at "wp"
  refine ⟨hx.num.ok hy.den (by omega), hy.num.ok hx.den (by omega), hx.den.ok hy.den (by omega), Int.mul_ne_zero (den_ne x) (den_ne y), (hx.num.mul hy.den (Nat.le_refl _)).sub (hy.num.mul hx.den (by omega)) (by omega), hx.den.mul hy.den (by omega), ?_⟩
  rw [rat_sub]; exact .mk h
theorem bd_law_times : Body Gm ir_law_times 2 2 (Gm 22) := by
  rintro ds M q hl ⟨x, y, rfl, hx, hy, h⟩
  simp only [ir_law_times] <;> walk_at "wp"
  refine ⟨hx.num.ok hy.num (by omega), hx.den.ok hy.den (by omega), Int.mul_ne_zero (den_ne x) (den_ne y), hx.num.mul hy.num (by omega), hx.den.mul hy.den (by omega), ?_⟩
  rw [rat_mul]; exact .mk h
theorem bd_law_less : Body Gm ir_law_less 2 2 (Gm 23) := by
  rintro ds M q hl ⟨x, y, rfl, hx, hy, h⟩
  simp only [ir_law_less] <;> walk_at "wp"
  refine ⟨hx.num.ok hy.den (by omega), hy.num.ok hx.den (by omega), ?_⟩
  have : decide (x.num * ↑y.den < y.num * ↑x.den) = decide (x < y) := by rw [Bool.eq_iff_iff]; simp [Rat.lt_iff]
  rw [this]; exact .mk h
theorem bd_law_sum : Body Gm ir_law_sum 3 1 (Gm 24) := by
  rintro ds M q hl ⟨rs, hd, hr, hs, h⟩
  simp only [ir_law_sum]
  have step : ∀ i r, rs[i]? = some r → SzR 4000 (sumR (rs.take i)) ∧ SzR 4000 r ∧ sumR (rs.take i) + r = sumR (rs.take (i + 1)) := fun i r e =>
    ⟨hs i (Nat.le_of_lt (List.getElem?_eq_some_iff.mp e).1), hr r (List.mem_of_getElem? e), (sumR_take e).symm⟩
  have body : ∀ (w : D) (i : Nat) (d : D) (x y : Option D), (rs.map rat)[i]? = some d → x = some w → ∃ r, d = rat r ∧ rs[i]? = some r := by
    intro w i d x y hd _
    simp only [List.getElem?_map, Option.map_eq_some_iff] at hd
    obtain ⟨r, hr2, rfl⟩ := hd
    exact ⟨r, rfl, hr2⟩
  rcases hd with rfl | ⟨a, rfl, hM⟩
  · walk_at "wp"
    intro hz
    refine ⟨fun i ρ M' => M' = M ∧ ∃ x y, ρ = [x, some (rat (sumR (rs.take i))), y], ⟨rfl, _, _, rfl⟩, fun _ _ _ _ _ => trivial, ?_, ?_⟩
    · rintro i d ρ M' hd ⟨rfl, x, y, rfl⟩
      obtain ⟨r, rfl, hi⟩ := body .non i d _ x hd rfl
      obtain ⟨s1, s2, s3⟩ := step i r hi
      walk_at "wp"
      exact ⟨s1, s2, x, some (rat r), by rw [s3]⟩
    · rintro ρ M' ⟨rfl, x, y, rfl⟩
      rw [List.length_map, List.take_length]
      walk_at "wp"
      exact .mk h
  · walk_at "wp"
    simp only [hM, ex_some]
    intro hz
    refine ⟨fun i ρ M' => M' = M ∧ ∃ x y, ρ = [x, some (rat (sumR (rs.take i))), y], ⟨rfl, _, _, rfl⟩, ?_, ?_, ?_⟩
    · rintro i ρ M' _ ⟨rfl, _⟩; exact hM
    · rintro i d ρ M' hd ⟨rfl, x, y, rfl⟩
      obtain ⟨r, rfl, hi⟩ := body .non i d _ x hd rfl
      obtain ⟨s1, s2, s3⟩ := step i r hi
      walk_at "wp"
      exact ⟨s1, s2, x, some (rat r), by rw [s3]⟩
    · rintro ρ M' ⟨rfl, x, y, rfl⟩
      rw [List.length_map, List.take_length]
      walk_at "wp"
      exact .mk h
theorem bd_law_min : Body Gm ir_law_min 3 1 (Gm 25) := by
  rintro ds M q hl ⟨a, x, xs, rfl, hM, hs, h⟩
  simp only [ir_law_min]
  walk_at "wp"
  simp only [hM, ex_some, List.map_cons, at0]
  intro hz
  refine ⟨fun i ρ M' => M' = M ∧ ∃ y e2, y ∈ x :: xs ∧ ρ = [some (.lst a), some (rat y), e2], ⟨rfl, x, none, by simp, rfl⟩, ?_, ?_, ?_⟩
  · rintro i ρ M' _ ⟨rfl, _⟩; exact hM
  · rintro i d ρ M' hd ⟨rfl, y, e2, hy, rfl⟩
    obtain ⟨z, rfl, hz⟩ := rats_get (xs := x :: xs) hd
    have hzm := List.mem_of_getElem? hz
    walk_at "wp"
    refine ⟨hs z hzm, hs y hy, ?_⟩
    split
    · exact ⟨z, some (rat z), hzm, rfl⟩
    · exact ⟨y, some (rat z), hy, rfl⟩
  · rintro ρ M' ⟨rfl, y, e2, hy, rfl⟩
    walk_at "wp"
    exact .mk (h y hy)
theorem bd_law_is_ratio : Body Gm ir_law_is_ratio 2 1 (Gm 26) := by
  rintro ds M q hl ⟨x, rfl, hs, h⟩
  simp only [ir_law_is_ratio]
  walk_at "wp"
  simp only [rat, seq_tup, len_tup, ix_tup]
  walk_at "wp"
  intro hz
  refine ⟨hz, fun i acc M' => M' = M ∧ acc = List.replicate i (.bl true), ⟨rfl, rfl⟩, fun _ _ _ _ _ => trivial, ?_, ?_⟩
  · rintro i d acc M' hd ⟨rfl, rfl⟩
    have := List.mem_of_getElem? hd
    simp at this
    rcases this with rfl | rfl <;> (walk_at "wp"; rw [List.replicate_succ'])
  · rintro acc M' hac ⟨rfl, rfl⟩ p hp
    simp only [up_same, ex_some, blsOf_rep]
    have e1 : (List.replicate 2 true).all id = true := rfl
    have e2 := den_pos x
    simp only [e1, Bool.not_true, ite_f, e2, decide_true, ite_t]
    refine ⟨den_ne x, hs.num.mono (by omega), hs.den.mono (by omega), ?_⟩
    rw [Rat.num_divInt_den]
    first | (rw [decide_eq_true rfl]; exact .sub (Sub.up hp) h) | (show eqW (rat x) (rat x) _ _; rw [eqW_rat, decide_eq_true rfl]; exact .sub (Sub.up hp) h)
theorem bd_law_small : Body Gm ir_law_small 2 2 (Gm 27) := by
  rintro ds M q hl ⟨b, top, rfl, h0, k, h3, h4, h5, c, tp, h⟩
  simp only [ir_law_small]
  walk_at "wp"
  have st : top.natAbs ≤ 2 ^ k := by
    have : ((2 : Int) ^ k) = ((2 ^ k : Nat) : Int) := by simp
    omega
  refine ⟨c, tp, h0, ⟨?_, ?_⟩⟩
  · refine Nat.lt_of_le_of_lt st (Nat.pow_lt_pow_right (by omega) (by omega))
  intro v M1 v0 v1 tp1 f1
  refine ⟨c, tp1, by decide, .lit 8 (by decide) (by omega), ?_⟩
  intro w M2 w0 w1 tp2 f2
  have sv : Sz k v := by unfold Sz; omega
  have sw : Sz k (1 + w) := .lit 3 (by omega) (by omega)
  exact ⟨by omega, sv.mono (by omega), sw.mono (by omega), .mk (h _ _ ⟨_, rfl, .divInt sv sw (by omega)⟩ tp2 (f1.trans f2))⟩
theorem above_body {g1 g2 g3 : Nat} (h1 : Gm g1 = sp_minus) (h2 : Gm g2 = sp_less) (h3 : Gm g3 = sp_sum_of) :
    Body Gm (.cons (.ret (.call g3 (.cons (.comp (.call g1 (.cons (.var 2) (.cons (.var 1) .nil))) (.nm 2) (.seq (.var 0)) (.yes (.call g2 (.cons (.var 1) (.cons (.var 2) .nil)))) [2]) .nil))) .nil) 3 2 sp_above := by
  rintro ds M q hl ⟨xs, e, rfl, hlen, hs, he, h⟩
  walk_at "wp"
  intro hz
  refine ⟨hz, fun i acc M' => M' = M ∧ acc = List.map rat (((xs.take i).filter fun x => decide (e < x)).map fun x => x - e), ⟨rfl, rfl⟩, fun _ _ _ _ _ => trivial, ?_, ?_⟩
  · rintro i d acc M' hd ⟨rfl, rfl⟩
    obtain ⟨x, rfl, hx⟩ := rats_get hd
    have sx := hs x (List.mem_of_getElem? hx)
    have st := fm_step hx (fun x => decide (e < x)) (fun x => x - e)
    walk_at "wp"
    simp only [h1, h2, sp_less, sp_minus, sp_rr_eq, tru_bl, ex_some]
    refine ⟨he.mono (by omega), sx.mono (by omega), ?_⟩
    by_cases z : e < x
    · simp only [z, decide_true, ite_t] at st ⊢
      refine ⟨sx.mono (by omega), he.mono (by omega), trivial, ?_⟩
      rw [st]; simp
    · simp only [z, decide_false, ite_f] at st ⊢
      refine ⟨trivial, ?_⟩
      rw [st]; simp
  · rintro acc M' hac ⟨rfl, rfl⟩ p hp
    rw [List.length_map, List.take_length, h3]
    have sz : ∀ r ∈ (xs.filter fun x => decide (e < x)).map (fun x => x - e), SzR 29 r := by
      intro r hr
      obtain ⟨x, hx, rfl⟩ := List.mem_map.mp hr
      exact (hs x (List.mem_filter.mp hx).1).subw he (by omega)
    have ln : ((xs.filter fun x => decide (e < x)).map (fun x => x - e)).length ≤ 10 := by
      rw [List.length_map]; exact Nat.le_trans (List.length_filter_le ..) hlen
    refine ⟨_, .inr ⟨p, rfl, up_same⟩, fun r hr => (sz r hr).mono (by omega), fun i _ => szR_part sz ln (by omega) i, ?_⟩
    exact .sub (Sub.up hp) h
theorem bd_above : Body Gm ir_above 3 2 (Gm 8) := above_body rfl rfl rfl
theorem bd_law_above : Body Gm ir_law_above 3 2 (Gm 29) := above_body rfl rfl rfl
theorem sz_above {n : Nat} {xs : List Rat} {e : Rat} (hlen : xs.length ≤ n) (hs : ∀ x ∈ xs, SzR 14 x) (he : SzR 14 e) : SzR (30 * n + 1) (aboveR xs e) := by
  refine szR_sums (m := 29) (n := n) ?_ ?_ (by omega)
  · intro r hr
    obtain ⟨x, hx, rfl⟩ := List.mem_map.mp hr
    exact (hs x (List.mem_filter.mp hx).1).subw he (by omega)
  · rw [List.length_map]; exact Nat.le_trans (List.length_filter_le ..) hlen
theorem bd_between : Body Gm ir_between 3 3 (Gm 9) := by
  rintro ds M q hl ⟨xs, e, b, rfl, hlen, hs, he, hb, h⟩
  simp only [ir_between]
  walk_at "wp"
  refine ⟨xs, e, rfl, hlen, hs, he, ?_⟩
  refine ⟨xs, b, rfl, hlen, hs, hb, ?_⟩
  walk_at "wp"
  exact ⟨(sz_above hlen hs he).mono (by omega), (sz_above hlen hs hb).mono (by omega), .mk h⟩
theorem bd_crossed : Body Gm ir_crossed 4 4 (Gm 10) := by
  rintro ds M q hl ⟨a, b, c, d, rfl, ha, hb, hc, hd, h⟩
  simp only [ir_crossed]
  walk_at "wp"
  exact ⟨ha.mono (by omega), hd.mono (by omega), hb.mono (by omega), hc.mono (by omega), ha.mul hd (by omega), hb.mul hc (by omega), .mk h⟩
theorem sz_between {n : Nat} {xs : List Rat} {e b : Rat} (hlen : xs.length ≤ n) (hs : ∀ x ∈ xs, SzR 14 x) (he : SzR 14 e) (hb : SzR 14 b) : SzR (60 * n + 3) (aboveR xs e - aboveR xs b) :=
  (sz_above hlen hs he).subw (sz_above hlen hs hb) (by omega)
theorem bd_two_rates : Body Gm ir_two_rates 11 6 (Gm 11) := by
  rintro ds M q hl ⟨e, b, xs, f, ys, s, rfl, lx, hx, ly, hy, he, hb, hf, hs, h⟩
  simp only [ir_two_rates]
  walk_at "wp"
  refine ⟨xs, e, b, rfl, by omega, hx, he, hb, ?_⟩
  refine ⟨xs, b, rfl, by omega, hx, hb, ?_⟩
  walk_at "wp"
  refine ⟨ys, e, b, rfl, ly, hy, he, hb, ?_⟩
  refine ⟨ys, b, rfl, ly, hy, hb, ?_⟩
  walk_at "wp"
  have sm := sz_between lx hx he hb
  have st := sz_above lx hx hb
  have sn := sz_between ly hy he hb
  have su := sz_above ly hy hb
  have sw := (sm.mul su (Nat.le_refl _)).subw (st.mul sn (Nat.le_refl _)) (Nat.le_refl _)
  have s1 := (hf.mul su (Nat.le_refl _)).subw (st.mul hs (Nat.le_refl _)) (Nat.le_refl _)
  have s2 := (sm.mul hs (Nat.le_refl _)).subw (hf.mul sn (Nat.le_refl _)) (Nat.le_refl _)
  generalize aboveR xs e - aboveR xs b = m at *
  generalize aboveR xs b = t at *
  generalize aboveR ys e - aboveR ys b = n at *
  generalize aboveR ys b = u at *
  refine ⟨sm.mono (by omega), st.mono (by omega), sn.mono (by omega), su.mono (by omega), ?_⟩
  have f4 := hf.mono (n := 1900) (by omega)
  have g4 := hs.mono (n := 1900) (by omega)
  unfold twoD at h
  by_cases zw : m * u - t * n = 0
  · simp only [zw, decide_true, Bool.not_true, ite_f, if_true] at h ⊢
    refine ⟨f4, st.mono (by omega), g4, su.mono (by omega), ?_⟩
    by_cases z1 : f * u - t * s = 0
    · simp only [z1, decide_true, Bool.not_true, ite_f, true_and] at h ⊢
      refine ⟨sm.mono (by omega), f4, sn.mono (by omega), g4, ?_⟩
      by_cases z2 : m * s - f * n = 0
      · simp only [z2, decide_true, Bool.not_true, ite_f, if_true] at h ⊢
        by_cases zm : m = 0 <;> by_cases zt : t = 0 <;> by_cases zn : n = 0 <;> by_cases zu : u = 0 <;> by_cases zf : f = 0 <;> by_cases zs : s = 0 <;>
          simp [zm, zt, zn, zu, zf, zs] at h ⊢ <;> exact .mk h
      · simp only [z2, decide_false, Bool.not_false, ite_t, if_false] at h ⊢
        exact .mk h
    · simp only [z1, decide_false, Bool.not_false, ite_t, false_and, if_false] at h ⊢
      exact .mk h
  · simp only [zw, decide_false, Bool.not_false, ite_t, if_false] at h ⊢
    exact ⟨f4, st.mono (by omega), g4, su.mono (by omega), s1.mono (by omega), sw.mono (by omega), zw, sm.mono (by omega), f4, sn.mono (by omega), g4, s2.mono (by omega), sw.mono (by omega), zw, .mk h⟩
theorem bd_law_incomes : Body Gm ir_law_incomes 4 2 (Gm 28) := by
  rintro ds M q hl ⟨b, rfl, c, tp, h⟩
  simp only [ir_law_incomes]
  walk_at "wp"
  intro p hp
  refine ⟨c, tp.up hp, by decide, .lit 8 (by decide) (by omega), ?_⟩
  intro v M1 v0 v3 tp1 f1
  have f1' := (Fr.up hp).trans f1
  have np := tp.nb hp
  have hp1 : M1 p = some [.int 4, .int 60, .int 3000] := f1 p _ np.1 np.2 up_same
  simp only [hp1, ex_some]
  have h5 : v = 0 ∨ v = 1 ∨ v = 2 := by omega
  rcases h5 with rfl | rfl | rfl
  all_goals
    refine ⟨_, rfl, c, tp1, by decide, .lit 8 (by decide) (by omega), ?_⟩
    intro w M2 w0 w5 tp2 f2
    refine ⟨by omega, by omega, by rw [rngD_len]; exact Nat.le_trans (show (1 + w).toNat ≤ 10 by omega) (by decide), ?_⟩
    refine ⟨fun i acc M' => TapeAt M' b c ∧ Fr b c M2 M' ∧ ∃ xs : List Rat, acc = xs.map rat ∧ xs.length = i ∧ ∀ y ∈ xs, SzR 12 y, ⟨tp2, .refl, [], rfl, rfl, by simp⟩, fun _ _ _ _ _ => trivial, ?_, ?_⟩
    · rintro i d acc M' hd ⟨tp3, f3, xs, rfl, hl, hx⟩
      refine ⟨b, _, rfl, by decide, 12, by decide, by decide, by decide, c, tp3, ?_⟩
      rintro d M3 ⟨x, rfl, sx⟩ tp4 f4
      refine ⟨tp4, f3.trans f4, xs ++ [x], by simp, by simp [hl], ?_⟩
      intro y hy
      rcases List.mem_append.mp hy with hy | hy
      · exact hx y hy
      · simp at hy; subst hy; exact sx
    · rintro acc M' hac ⟨tp3, f3, xs, rfl, hl, hx⟩ p2 hp2
      rw [rngD_len] at hl
      simp only [up_same, ex_some]
      cases xs with
      | nil => simp at hl; omega
      | cons x xs =>
        refine .mk (h _ _ ⟨x, xs, rfl, ?_, hx⟩ (tp3.up hp2) ((f1'.trans (f2.trans f3)).trans (.up hp2)))
        simp at hl; omega
/-! law k37 -/
def tupR (xs : List Rat) : D := .tup (xs.map rat)
def k37W (a t c : Addr) (ns : List Int) (_ : Nat) (ρ : En) (M' : Mem) : Prop :=
  ∃ (e2 e3 e4 e5 e6 e7 e8 e9 e10 e11 e12 e13 e14 e15 e16 e17 e18 e19 e20 e21 e22 : Option D), ρ = [some (.scr a ns), some (.lst t), e2, e3, e4, e5, e6, e7, e8, e9, e10, e11, e12, e13, e14, e15, e16, e17, e18, e19, e20, e21, e22] ∧ TapeAt M' t c
def k37G (a t c g : Addr) (ns : List Int) (d : D) (e b : Rat) (e9 e10 e11 e12 e13 e14 e15 e16 e17 e18 e19 e20 e21 e22 : Option D) (i : Nat) (ρ : En) (M' : Mem) : Prop :=
  ∃ (e6 e7 e8 : Option D) (gs : List (List Rat)), ρ = [some (.scr a ns), some (.lst t), some d, some (rat e), some (rat b), some (.lst g), e6, e7, e8, e9, e10, e11, e12, e13, e14, e15, e16, e17, e18, e19, e20, e21, e22] ∧ TapeAt M' t c ∧ M' g = some (gs.map tupR) ∧ gs.length = i ∧ ∀ xs ∈ gs, xs ≠ [] ∧ xs.length ≤ 5 ∧ ∀ y ∈ xs, SzR 14 y
theorem take_k37 {t c : Addr} {many : Int} {M : Mem} {q : K1} (tp : TapeAt M t c) (h0 : 0 < many) (h1 : many ≤ 100) (h : ∀ v M', 0 ≤ v → v < many → TapeAt M' t c → Fr t c M M' → q (.int v) M') : sp_law_take [.lst t, .int many] M q := by
  rw [sp_law_take_eq]
  exact ⟨c, tp, h0, .lit 8 (by omega) (by omega), h⟩
theorem small_k37 {t c : Addr} {top : Int} {M : Mem} {q : K1} (tp : TapeAt M t c) (h0 : 0 < top) (h1 : top ≤ 32) (h : ∀ x M', SzR 5 x → TapeAt M' t c → Fr t c M M' → q (rat x) M') : sp_law_small [.lst t, .int top] M q :=
  ⟨t, top, rfl, h0, 5, by decide, by decide, by omega, c, tp, fun d M' ⟨x, e, sx⟩ tp f => e ▸ h x M' sx tp f⟩
theorem incomes_k37 {t c : Addr} {M : Mem} {q : K1} (tp : TapeAt M t c) (h : ∀ xs M', 1 ≤ xs.length → xs.length ≤ 5 → (∀ y ∈ xs, SzR 12 y) → TapeAt M' t c → Fr t c M M' → q (tupR xs) M') : sp_law_incomes [.lst t, .int 5] M q :=
  ⟨t, rfl, c, tp, fun d M' ⟨x, xs, e, hl, hs⟩ tp f => e ▸ h (x :: xs) M' (by simp) (by simp; omega) hs tp f⟩
theorem cramer {m t n u f s : Rat} (w : m * u - t * n ≠ 0) : (f * u - t * s) / (m * u - t * n) * m + (m * s - f * n) / (m * u - t * n) * t = f ∧ (f * u - t * s) / (m * u - t * n) * n + (m * s - f * n) / (m * u - t * n) * u = s := by
  have h := Rat.mul_inv_cancel _ w
  rw [Rat.div_def, Rat.div_def]
  generalize (m * u - t * n)⁻¹ = k at *
  constructor <;> grind
theorem cramer2 {m t n u p q : Rat} (w : m * u - t * n ≠ 0) : ((p * m + q * t) * u - t * (p * n + q * u)) / (m * u - t * n) = p ∧ (m * (p * n + q * u) - (p * m + q * t) * n) / (m * u - t * n) = q := by
  have h := Rat.mul_inv_cancel _ w
  rw [Rat.div_def, Rat.div_def]
  generalize (m * u - t * n)⁻¹ = k at *
  constructor <;> grind
def fitsP (m t n u f s : Rat) : Bool :=
  if (m = 0 ∧ t = 0) ∨ (n = 0 ∧ u = 0) then (!(decide (m = 0 ∧ t = 0) && !decide (f = 0)) && !(decide (n = 0 ∧ u = 0) && !decide (s = 0)))
  else if m = 0 then decide (f * u = s * t) else decide (f * n = s * m)
theorem fits_law {m t n u f s : Rat} (w : m * u - t * n = 0) : twoD m t n u f s = .tup [.str (if fitsP m t n u f s then "many" else "none")] := by
  have key : fitsP m t n u f s = true ↔ ((f * u - t * s = 0 ∧ m * s - f * n = 0) ∧ ¬ ((m = 0 ∧ t = 0 ∧ f ≠ 0) ∨ (n = 0 ∧ u = 0 ∧ s ≠ 0))) := by
    unfold fitsP
    by_cases zm : m = 0 <;> by_cases zt : t = 0 <;> by_cases zn : n = 0 <;> by_cases zu : u = 0 <;> by_cases zf : f = 0 <;> by_cases zs : s = 0 <;> simp [zm, zt, zn, zu, zf, zs] at w ⊢ <;> grind
  unfold twoD
  rw [if_pos w]
  by_cases k : fitsP m t n u f s = true
  · obtain ⟨k1, k2⟩ := key.mp k
    rw [if_pos k1, if_neg k2, k]; rfl
  · have k' := mt key.mpr k
    have kf : fitsP m t n u f s = false := by simpa using k
    rw [kf]
    by_cases k1 : f * u - t * s = 0 ∧ m * s - f * n = 0
    · rw [if_pos k1, if_pos (Classical.byContradiction fun z => k' ⟨k1, z⟩)]; rfl
    · rw [if_neg k1]; rfl
def partD (m t : Rat) : D := .tup [rat m, rat t]
theorem rat12 : D.tup [.int 1, .int 2] = rat (1 / 2) := by
  unfold rat
  rw [show (1 / 2 : Rat).num = 1 from by decide +kernel, show (1 / 2 : Rat).den = 2 from by decide +kernel]; rfl
theorem sz12 : SzR 2 (1 / 2) := ⟨.lit 2 (by decide +kernel) (by omega), .lit 2 (by decide +kernel) (by omega)⟩
theorem rat13 : D.tup [.int 1, .int 3] = rat (1 / 3) := by
  unfold rat
  rw [show (1 / 3 : Rat).num = 1 from by decide +kernel, show (1 / 3 : Rat).den = 3 from by decide +kernel]; rfl
theorem sz13 : SzR 2 (1 / 3) := ⟨.lit 2 (by decide +kernel) (by omega), .lit 2 (by decide +kernel) (by omega)⟩
theorem bd_law : Body Gm ir_law 23 1 (Gm 30) := by
  rintro ds M q hl ⟨a, ns, rfl, hn, h⟩
  simp only [ir_law]
  walk_at "wp"
  refine ⟨hn, ?_⟩
  intro t c M1 _ _ tp f1
  refine ⟨by decide, by decide, k37W a t c ns, ⟨_, _, _, _, _, _, _, _, _, _, _, _, _, _, _, _, _, _, _, _, _, rfl, tp⟩, fun _ _ _ _ _ => trivial, ?_, ?_⟩
  · rintro i d ρ M' hd ⟨e2, e3, e4, e5, e6, e7, e8, e9, e10, e11, e12, e13, e14, e15, e16, e17, e18, e19, e20, e21, e22, rfl, tp⟩
    simp only [ir_law_1]
    walk_at "wp"
    refine small_k37 tp (by decide) (by decide) ?_
    intro e M2 se tp f2
    try walk_at "wp"
    refine small_k37 tp (by decide) (by decide) ?_
    intro x M3 sx tp f3
    rw [rat12]
    walk_at "wp"
    have sx1 : SzR 8 (x + 1 / 2) := sx.addw sz12 (by omega)
    have sb : SzR 14 (e + (x + 1 / 2)) := se.addw sx1 (by omega)
    refine ⟨sx.mono (by omega), sz12.mono (by omega), se.mono (by omega), sx1.mono (by omega), ?_⟩
    have se : SzR 14 e := se.mono (by omega)
    generalize e + (x + 1 / 2) = b at *
    intro g hg
    obtain ⟨gt, gc⟩ := tp.nb hg
    refine ⟨by decide, by decide, ?_⟩
    have tp1 := tp.up (l := []) hg
    have tail : ∀ (F : Ed) (M4 : Mem) (xs ys : List Rat) (e6 e7 e8 : Option D), (∀ ρ M, k37W a t c ns (i + 1) ρ M → F.nx ρ M) → M4 g = some [tupR xs, tupR ys] → xs.length ≤ 5 → ys.length ≤ 10 → (∀ y ∈ xs, SzR 14 y) → (∀ y ∈ ys, SzR 14 y) → xs ≠ [] → ys ≠ [] → TapeAt M4 t c →
        wpSs Gm ir_law_5 [some (.scr a ns), some (.lst t), some d, some (rat e), some (rat b), some (.lst g), e6, e7, e8, e9, e10, e11, e12, e13, e14, e15, e16, e17, e18, e19, e20, e21, e22] M4 F := by
      intro F M4 xs ys e6 e7 e8 hF hgm lx ly sx sy nx ny tp
      simp only [ir_law_5]
      walk_at "wp"
      intro pp hpp
      obtain ⟨pt, pc⟩ := tp.nb hpp
      have gp : g ≠ pp := ne_some hgm hpp
      have hgm' : (M4.up pp []) g = some [tupR xs, tupR ys] := by rw [up_ne gp]; exact hgm
      simp only [hgm', ex_some]
      intro hz
      refine ⟨fun i ρ M => ∃ e7 e10 e11, ρ = [some (.scr a ns), some (.lst t), some d, some (rat e), some (rat b), some (.lst g), e6, e7, e8, some (.lst pp), e10, e11, e12, e13, e14, e15, e16, e17, e18, e19, e20, e21, e22] ∧ TapeAt M t c ∧ M g = some [tupR xs, tupR ys] ∧
        M pp = some (([xs, ys].take i).map fun zs => partD (aboveR zs e - aboveR zs b) (aboveR zs b)), ⟨_, _, _, rfl, tp.up hpp, hgm', up_same⟩, fun _ _ _ _ ⟨_, _, _, _, _, h, _⟩ => h, ?_, ?_⟩
      · rintro j dj ρ M' hdj ⟨e7, e10, e11, rfl, tp, hgm, hpm⟩
        obtain ⟨zs, hzs, rfl⟩ : ∃ zs, [xs, ys][j]? = some zs ∧ dj = tupR zs := by
          have hdj : ([xs, ys].map tupR)[j]? = some dj := hdj
          rw [List.getElem?_map, Option.map_eq_some_iff] at hdj
          obtain ⟨zs, h1, h2⟩ := hdj
          exact ⟨zs, h1, h2.symm⟩
        have hj : j < 2 := (List.getElem?_eq_some_iff.mp hzs).1
        have hzm := List.mem_of_getElem? hzs
        have lz : zs.length ≤ 10 := by
          simp at hzm; rcases hzm with rfl | rfl <;> omega
        have sz : ∀ y ∈ zs, SzR 14 y := by
          simp at hzm; rcases hzm with rfl | rfl <;> assumption
        have z1 := sz_above lz sz se
        have z2 := sz_above lz sz sb
        simp only [ir_law_6]
        walk_at "wp"
        refine ⟨zs, e, rfl, lz, sz, se, ?_⟩
        refine ⟨zs, b, rfl, lz, sz, sb, ?_⟩
        walk_at "wp"
        refine ⟨z1.mono (by omega), z2.mono (by omega), ?_⟩
        refine ⟨zs, b, rfl, lz, sz, sb, ?_⟩
        walk_at "wp"
        refine ⟨zs, e, b, rfl, lz, sz, se, sb, ?_⟩
        walk_at "wp"
        refine ⟨fit_rat, ?_⟩
        simp only [ir_law_7]
        walk_at "wp"
        simp only [hpm, ex_some, ex_some1, true_and]
        refine ⟨?_, _, _, _, rfl, tp.upL pt pc, by rw [up_ne gp]; exact hgm, ?_⟩
        · rw [List.length_map, List.length_take]
          exact Nat.lt_of_le_of_lt (m := 2) (by simp; omega) (by decide)
        · rw [up_same, map_step hzs]; rfl
      · rintro ρ M' ⟨e7, e10, e11, rfl, tp, hgm, hpm⟩
        have hpm : M' pp = some [partD (aboveR xs e - aboveR xs b) (aboveR xs b), partD (aboveR ys e - aboveR ys b) (aboveR ys b)] := hpm
        have sm := sz_between lx sx se sb
        have st := sz_above lx sx sb
        have sn := sz_between ly sy se sb
        have su := sz_above ly sy sb
        obtain ⟨m, hm⟩ : ∃ m, m = aboveR xs e - aboveR xs b := ⟨_, rfl⟩
        obtain ⟨tt, htt⟩ : ∃ m, m = aboveR xs b := ⟨_, rfl⟩
        obtain ⟨n, hnn⟩ : ∃ m, m = aboveR ys e - aboveR ys b := ⟨_, rfl⟩
        obtain ⟨u, hu⟩ : ∃ m, m = aboveR ys b := ⟨_, rfl⟩
        have two : ∀ (M : Mem) (f s : Rat) (q : K1), SzR 465 f → SzR 918 s → q (twoD m tt n u f s) M → sp_two_rates [rat e, rat b, tupR xs, rat f, tupR ys, rat s] M q := by
          intro M f s q sf ss h
          refine ⟨e, b, xs, f, ys, s, rfl, lx, sx, ly, sy, se, sb, sf, ss, ?_⟩
          rw [← hm, ← htt, ← hnn, ← hu]; exact h
        rw [← hm] at hpm sm
        rw [← htt] at hpm st
        rw [← hnn] at hpm sn
        rw [← hu] at hpm su
        clear hm htt hnn hu
        have sw : SzR 1360 (m * u - tt * n) := (sm.mul su (Nat.le_refl _)).subw (st.mul sn (Nat.le_refl _)) (by omega)
        simp only [ir_law_8]
        walk_at "wp"
        refine ⟨c, tp, by decide, .lit 8 (by decide) (by omega), ?_⟩
        intro v M5 v0 v1 tp5 f5
        have hp5 := f5 _ _ pt pc hpm
        have hg5 := f5 _ _ gt gc hgm
        refine ⟨by decide, .lit 8 (by omega) (by omega), .lit 8 (by decide) (by omega), ?_⟩
        refine ⟨c, tp5, by decide, .lit 8 (by decide) (by omega), ?_⟩
        intro v' M6 v0' v1' tp6 f6
        have hp6 := f6 _ _ pt pc hp5
        have hg6 := f6 _ _ gt gc hg5
        refine ⟨by decide, .lit 8 (by omega) (by omega), .lit 8 (by decide) (by omega), ?_⟩
        have sp : SzR 5 (Rat.divInt (v - 5) 10) := .divInt (.lit 5 (by omega) (by omega)) (.lit 5 (by decide) (by omega)) (by decide)
        have sq : SzR 5 (Rat.divInt (v' - 5) 10) := .divInt (.lit 5 (by omega) (by omega)) (.lit 5 (by decide) (by omega)) (by decide)
        generalize Rat.divInt (v - 5) 10 = p at *
        generalize Rat.divInt (v' - 5) 10 = q' at *
        have sf : SzR 465 (p * m + q' * tt) := (sp.mul sm (Nat.le_refl _)).addw (sq.mul st (Nat.le_refl _)) (by omega)
        have ss : SzR 915 (p * n + q' * u) := (sp.mul sn (Nat.le_refl _)).addw (sq.mul su (Nat.le_refl _)) (by omega)
        simp only [hp6, ex_some]
        intro hz2
        refine ⟨hz2, fun i acc M => M = M6 ∧ acc = ([(m, tt), (n, u)].take i).map fun z => rat (p * z.1 + q' * z.2), ⟨rfl, rfl⟩, ?_, ?_, ?_⟩
        · rintro i acc M _ ⟨rfl, _⟩; exact hp6
        · rintro i dd acc M hdd ⟨rfl, rfl⟩
          obtain ⟨z, hz, rfl⟩ : ∃ z, [(m, tt), (n, u)][i]? = some z ∧ dd = partD z.1 z.2 := by
            have hdd : ([(m, tt), (n, u)].map fun z => partD z.1 z.2)[i]? = some dd := hdd
            rw [List.getElem?_map, Option.map_eq_some_iff] at hdd
            obtain ⟨z, h1, h2⟩ := hdd
            exact ⟨z, h1, h2.symm⟩
          have hzm := List.mem_of_getElem? hz
          have zz : SzR 4000 z.1 ∧ SzR 4000 z.2 ∧ SzR 4000 (p * z.1) ∧ SzR 4000 (q' * z.2) := by
            simp at hzm
            rcases hzm with rfl | rfl
            · exact ⟨sm.mono (by omega), st.mono (by omega), sp.mul sm (by omega), sq.mul st (by omega)⟩
            · exact ⟨sn.mono (by omega), su.mono (by omega), sp.mul sn (by omega), sq.mul su (by omega)⟩
          simp only [partD]
          walk_at "wp"
          refine ⟨sp.mono (by omega), zz.1, sq.mono (by omega), zz.2.1, zz.2.2.1, zz.2.2.2, ?_⟩
          rw [map_step hz]
        · rintro acc M hac ⟨rfl, rfl⟩ gl hgl
          have glp : pp ≠ gl := ne_some hp6 hgl
          have glg : g ≠ gl := ne_some hg6 hgl
          have hgl2 : (M.up gl (([(m, tt), (n, u)].take 2).map fun z => rat (p * z.1 + q' * z.2))) gl = some [rat (p * m + q' * tt), rat (p * n + q' * u)] := up_same
          have hp7 : (M.up gl (([(m, tt), (n, u)].take 2).map fun z => rat (p * z.1 + q' * z.2))) pp = some [partD m tt, partD n u] := by rw [up_ne glp]; exact hp6
          have hg7 : (M.up gl (([(m, tt), (n, u)].take 2).map fun z => rat (p * z.1 + q' * z.2))) g = some [tupR xs, tupR ys] := by rw [up_ne glg]; exact hg6
          have tp7 := tp6.up (l := (([(m, tt), (n, u)].take 2).map fun z => rat (p * z.1 + q' * z.2))) hgl
          obtain ⟨glt, glc⟩ := tp6.nb hgl
          generalize (M.up gl (([(m, tt), (n, u)].take 2).map fun z => rat (p * z.1 + q' * z.2))) = M7 at *
          have fin : ∀ (F9 : Ed) (M8 : Mem) (f s : Rat) (e18 e19 e20 e21 e22 : Option D), M8 g = some [tupR xs, tupR ys] → M8 pp = some [partD m tt, partD n u] → M8 gl = some [rat (p * m + q' * tt), rat (p * n + q' * u)] → SzR 465 f → SzR 918 s →
              (∀ e18 e19 e20 e21 e22, F9.nx [some (.scr a ns), some (.lst t), some d, some (rat e), some (rat b), some (.lst g), e6, e7, e8, some (.lst pp), e10, e11, some (rat p), some (rat q'), some (.lst gl), some (rat (m * u - tt * n)), some (rat f), some (rat s), e18, e19, e20, e21, e22] M8) →
              wpSs Gm ir_law_9 [some (.scr a ns), some (.lst t), some d, some (rat e), some (rat b), some (.lst g), e6, e7, e8, some (.lst pp), e10, e11, some (rat p), some (rat q'), some (.lst gl), some (rat (m * u - tt * n)), some (rat f), some (rat s), e18, e19, e20, e21, e22] M8 F9 := by
            intro F9 M8 f s e18 e19 e20 e21 e22 hg8 hp8 hgl8 sf9 ss9 hF9
            simp only [ir_law_9]
            repeat (first | walk_at "wp" | simp only [hg8, ex_some])
            refine two M8 f s _ sf9 ss9 ?_
            try walk_at "wp"
            by_cases w : m * u - tt * n = 0
            · simp only [w, decide_true, Bool.not_true, ite_f]
              intro hz9
              have htwo := fits_law (f := f) (s := s) w
              have fin15 : ∀ e19 e20 e22, wpSs Gm ir_law_15 [some (.scr a ns), some (.lst t), some d, some (rat e), some (rat b), some (.lst g), e6, e7, e8, some (.lst pp), e10, e11, some (rat p), some (rat q'), some (.lst gl), some (rat 0), some (rat f), some (rat s), some (twoD m tt n u f s), e19, e20, some (.bl (fitsP m tt n u f s)), e22] M8 F9 := by
                intro e19 e20 e22
                have := hF9 (some (twoD m tt n u f s)) e19 e20 (some (.bl (fitsP m tt n u f s))) e22
                rw [htwo] at this ⊢
                rw [w] at this
                simp only [ir_law_15]
                walk_at "wp"
                generalize fitsP m tt n u f s = fb at *
                cases fb with
                | true => exact ⟨rfl, by decide +kernel, this⟩
                | false => exact ⟨rfl, by decide +kernel, this⟩
              refine ⟨fun i ρ M => M = M8 ∧ ∃ e19 e20, ρ = [some (.scr a ns), some (.lst t), some d, some (rat e), some (rat b), some (.lst g), e6, e7, e8, some (.lst pp), e10, e11, some (rat p), some (rat q'), some (.lst gl), some (rat 0), some (rat f), some (rat s), some (twoD m tt n u f s), e19, e20, some (.bl ((decide (i = 0) || !(decide (m = 0 ∧ tt = 0) && !decide (f = 0))) && (decide (i ≤ 1) || !(decide (n = 0 ∧ u = 0) && !decide (s = 0))))), e22], ⟨rfl, _, _, rfl⟩, fun _ _ _ _ _ => trivial, ?_, ?_⟩
              · rintro i dd ρ M hdd ⟨rfl, e19, e20, rfl⟩
                have hi : i = 0 ∨ i = 1 := by
                  have := (List.getElem?_eq_some_iff.mp hdd).1
                  simp at this; omega
                rcases hi with rfl | rfl
                · cases (Option.some.inj hdd)
                  repeat (first | walk_at "wp" | simp only [ir_law_13, hp8, ex_some, partD])
                  by_cases z1 : m = 0 ∧ tt = 0 <;> by_cases z2 : f = 0 <;> simp [z1, z2]
                · cases (Option.some.inj hdd)
                  repeat (first | walk_at "wp" | simp only [ir_law_13, hp8, ex_some, partD])
                  by_cases z1 : n = 0 ∧ u = 0 <;> by_cases z2 : s = 0 <;> by_cases z3 : m = 0 ∧ tt = 0 <;> by_cases z4 : f = 0 <;> simp [z1, z2, z3, z4]
              · rintro ρ M ⟨rfl, e19, e20, rfl⟩
                repeat (first | walk_at "wp" | simp only [ir_law_14, hp8, ex_some, partD])
                have f4 := sf9.mono (n := 4000) (by omega)
                have s4 := ss9.mono (n := 4000) (by omega)
                by_cases z1 : m = 0 ∧ tt = 0
                · simp only [z1, and_self, decide_true, Bool.not_true, ite_f]
                  have := fin15 e19 e20 e22
                  unfold fitsP at this
                  simpa [z1] using this
                · by_cases z2 : n = 0 ∧ u = 0
                  · simp only [z1, z2, and_self, decide_true, decide_false, Bool.not_true, Bool.not_false, ite_f, ite_t]
                    have := fin15 e19 e20 e22
                    unfold fitsP at this
                    simpa [z1, z2] using this
                  · simp only [z1, z2, decide_false, Bool.not_false, ite_t]
                    by_cases z3 : m = 0
                    · simp only [z3, decide_true, Bool.not_true, ite_f]
                      refine ⟨f4, su.mono (by omega), s4, st.mono (by omega), ?_⟩
                      have := fin15 e19 e20 (some (.int 1))
                      unfold fitsP at this
                      rw [if_neg (by simp [z1, z2]), if_pos z3] at this
                      rw [z3] at this
                      exact this
                    · simp only [z3, decide_false, Bool.not_false, ite_t]
                      refine ⟨f4, sn.mono (by omega), s4, sm.mono (by omega), ?_⟩
                      have := fin15 e19 e20 (some (.int 0))
                      unfold fitsP at this
                      rw [if_neg (by simp [z1, z2]), if_neg z3] at this
                      exact this
            · have htwo : twoD m tt n u f s = .tup [.str "rates", rat ((f * u - tt * s) / (m * u - tt * n)), rat ((m * s - f * n) / (m * u - tt * n))] := by unfold twoD; rw [if_neg w]
              rw [htwo]
              have sX : SzR 3197 ((f * u - tt * s) / (m * u - tt * n)) := ((sf9.mul su (Nat.le_refl _)).subw (st.mul ss9 (Nat.le_refl _)) (Nat.le_refl _)).div sw w (by omega)
              have sY : SzR 3651 ((m * s - f * n) / (m * u - tt * n)) := ((sm.mul ss9 (Nat.le_refl _)).subw (sf9.mul sn (Nat.le_refl _)) (Nat.le_refl _)).div sw w (by omega)
              obtain ⟨c1, c2⟩ := cramer (f := f) (s := s) w
              have c3 : f = p * m + q' * tt → s = p * n + q' * u → (f * u - tt * s) / (m * u - tt * n) = p ∧ (m * s - f * n) / (m * u - tt * n) = q' := fun h1 h2 => by rw [h1, h2]; exact cramer2 w
              generalize (f * u - tt * s) / (m * u - tt * n) = X at *
              generalize (m * s - f * n) / (m * u - tt * n) = Y at *
              simp only [w, decide_false, Bool.not_false, ite_t]
              walk_at "wp"
              have h3 : ((3 : Nat) : Int) = 3 := rfl
              simp only [beq_self_eq_true, Bool.not_true, ite_f, h3, decide_true]
              refine ⟨by decide +kernel, sX.mono (by omega), sY.mono (by omega), ?_⟩
              simp only [ir_law_10]
              walk_at "wp"
              intro hz9
              refine ⟨fun i ρ M => M = M8 ∧ ∃ e19 e20, ρ = [some (.scr a ns), some (.lst t), some d, some (rat e), some (rat b), some (.lst g), e6, e7, e8, some (.lst pp), e10, e11, some (rat p), some (rat q'), some (.lst gl), some (rat (m * u - tt * n)), some (rat f), some (rat s), some (.tup [.str "rates", rat X, rat Y]), e19, e20, e21, e22], ⟨rfl, _, _, rfl⟩, fun _ _ _ _ _ => trivial, ?_, ?_⟩
              · rintro i dd ρ M hdd ⟨rfl, e19, e20, rfl⟩
                have hdm := List.mem_of_getElem? hdd
                simp only [List.mem_cons, List.not_mem_nil, or_false] at hdm
                rcases hdm with rfl | rfl
                all_goals
                  repeat (first | walk_at "wp" | simp only [ir_law_11, hp8, ex_some, partD])
                · refine ⟨sX.mono (by omega), sm.mono (by omega), sY.mono (by omega), st.mono (by omega), sX.mul sm (by omega), sY.mul st (by omega), ?_⟩
                  rw [c1]
                  simp only [decide_true, Bool.not_true, ite_f]
                  exact ⟨_, _, rfl⟩
                · refine ⟨sX.mono (by omega), sn.mono (by omega), sY.mono (by omega), su.mono (by omega), sX.mul sn (by omega), sY.mul su (by omega), ?_⟩
                  rw [c2]
                  simp only [decide_true, Bool.not_true, ite_f]
                  exact ⟨_, _, rfl⟩
              · rintro ρ M ⟨rfl, e19, e20, rfl⟩
                repeat (first | walk_at "wp" | simp only [ir_law_12, hgl8, ex_some])
                by_cases zz : f = p * m + q' * tt ∧ s = p * n + q' * u
                · obtain ⟨r1, r2⟩ := c3 zz.1 zz.2
                  simp only [zz, r1, r2, and_self, decide_true, ite_t, Bool.not_true, ite_f]
                  have this := hF9 (some (.tup [.str "rates", rat X, rat Y])) e19 e20 e21 e22
                  rw [zz.1, zz.2, r1, r2] at this
                  simp only [if_true]
                  exact this
                · simp only [zz, decide_false, ite_f]
                  exact hF9 _ _ _ _ _
          repeat (first | walk_at "wp" | simp only [hp7, ex_some, partD])
          refine ⟨sm.mono (by omega), su.mono (by omega), st.mono (by omega), sn.mono (by omega), sm.mul su (by omega), st.mul sn (by omega), ?_⟩
          repeat (first | walk_at "wp" | simp only [hgl2, ex_some, rat13])
          refine ⟨ss.mono (by omega), sz13.mono (by omega), ?_⟩
          refine small_k37 tp7 (by decide) (by decide) ?_
          intro f3' M8 sf3 tp8 f8
          refine small_k37 tp8 (by decide) (by decide) ?_
          intro s3' M9 ss3 tp9 f9
          have hp9 := f9 _ _ pt pc (f8 _ _ pt pc hp7)
          have hg9 := f9 _ _ gt gc (f8 _ _ gt gc hg7)
          have hgl9 := f9 _ _ glt glc (f8 _ _ glt glc hgl2)
          intro hz4
          refine ⟨fun i ρ M => M = M9 ∧ ∃ e16 e17 e18 e19 e20 e21 e22, ρ = [some (.scr a ns), some (.lst t), some d, some (rat e), some (rat b), some (.lst g), e6, e7, e8, some (.lst pp), e10, e11, some (rat p), some (rat q'), some (.lst gl), some (rat (m * u - tt * n)), e16, e17, e18, e19, e20, e21, e22], ⟨rfl, _, _, _, _, _, _, _, rfl⟩, fun _ _ _ _ _ => trivial, ?_, ?_⟩
          · rintro i dd ρ M hdd ⟨rfl, e16, e17, e18, e19, e20, e21, e22, rfl⟩
            have hdm := List.mem_of_getElem? hdd
            obtain ⟨f, s, rfl, sf', ss'⟩ : ∃ f s, dd = .tup [rat f, rat s] ∧ SzR 465 f ∧ SzR 918 s := by
              simp only [List.mem_cons, List.not_mem_nil, or_false] at hdm
              rcases hdm with rfl | rfl | rfl | rfl
              · exact ⟨_, _, rfl, sf, ss.mono (by omega)⟩
              · exact ⟨_, _, rfl, sf, ss.addw sz13 (by omega)⟩
              · exact ⟨_, _, rfl, sf3.mono (by omega), ss3.mono (by omega)⟩
              · exact ⟨_, _, rfl, SzR.zero.mono (by omega), SzR.zero.mono (by omega)⟩
            walk_at "wp"
            exact fin _ M f s _ _ _ _ _ hg9 hp9 hgl9 sf' ss' fun e18 e19 e20 e21 e22 => ⟨rfl, _, _, _, _, _, _, _, rfl⟩
          · rintro ρ M ⟨rfl, e16, e17, e18, e19, e20, e21, e22, rfl⟩
            exact hF _ _ ⟨_, _, _, _, _, _, _, _, _, _, _, _, _, _, _, _, _, _, _, _, _, rfl, tp9⟩
    refine ⟨k37G a t c g ns d e b e9 e10 e11 e12 e13 e14 e15 e16 e17 e18 e19 e20 e21 e22, ⟨_, _, _, [], rfl, tp1, up_same, rfl, by simp⟩, fun _ _ _ _ _ => trivial, ?_, ?_⟩
    · rintro j dj ρ M' hdj ⟨e6, e7, e8, gs, rfl, tp, hgm, hgl, hgs⟩
      have hj : j < 2 := (rngD_get hdj).1
      have last : ∀ (F : Ed) (M4 : Mem) (xs : List Rat) (e8 : Option D), (∀ ρ M, k37G a t c g ns d e b e9 e10 e11 e12 e13 e14 e15 e16 e17 e18 e19 e20 e21 e22 (j + 1) ρ M → F.nx ρ M) → xs ≠ [] → xs.length ≤ 5 → (∀ y ∈ xs, SzR 14 y) → TapeAt M4 t c → M4 g = some (gs.map tupR) →
          wpSs Gm ir_law_3 [some (.scr a ns), some (.lst t), some d, some (rat e), some (rat b), some (.lst g), some dj, some (tupR xs), e8, e9, e10, e11, e12, e13, e14, e15, e16, e17, e18, e19, e20, e21, e22] M4 F := by
        intro F M4 xs e8 hF hne hl5 hsx tp4 hg4
        simp only [ir_law_3]
        walk_at "wp"
        simp only [hg4, ex_some, ex_some1, true_and]
        refine ⟨by rw [List.length_map, hgl]; exact Nat.lt_of_lt_of_le hj (by decide), hF _ _ ⟨_, _, _, gs ++ [xs], rfl, tp4.upL gt gc, by rw [up_same]; simp, by simp [hgl], ?_⟩⟩
        intro zs hz
        rcases List.mem_append.mp hz with hz | hz
        · exact hgs zs hz
        · simp at hz; subst hz; exact ⟨hne, hl5, hsx⟩
      simp only [ir_law_2]
      walk_at "wp"
      refine incomes_k37 tp ?_
      intro xs M4 h1 h5 hsx tp4 f4
      have hne : xs ≠ [] := fun e => by subst e; simp at h1
      have hg4 := f4 _ _ gt gc hgm
      try walk_at "wp"
      refine ⟨c, tp4, by decide, .lit 8 (by decide) (by omega), ?_⟩
      intro v M5 _ _ tp5 f5
      have hg5 := f5 _ _ gt gc hg4
      try walk_at "wp"
      by_cases z : v = 0
      · simp only [z, decide_true, ite_t, tupR]
        walk_at "wp"
        intro hz
        refine ⟨hz, fun k acc M' => TapeAt M' t c ∧ Fr t c M5 M' ∧ ∃ zs : List Rat, acc = zs.map rat ∧ zs.length = k ∧ ∀ y ∈ zs, SzR 14 y, ⟨tp5, .refl, [], rfl, rfl, by simp⟩, fun _ _ _ _ _ => trivial, ?_, ?_⟩
        · rintro k dk acc M' hdk ⟨tp6, f6, zs, rfl, hzl, hzs⟩
          obtain ⟨x, rfl, hx⟩ := rats_get hdk
          have sx : SzR 14 x := (hsx x (List.mem_of_getElem? hx)).mono (by omega)
          walk_at "wp"
          intro p hp
          refine ⟨c, tp6.up hp, by decide, .lit 8 (by decide) (by omega), ?_⟩
          intro v2 M7 v20 v22 tp7 f7
          have np := tp6.nb hp
          have hp7 : M7 p = some [rat e, rat b] := f7 p _ np.1 np.2 up_same
          simp only [hp7, ex_some]
          have f67 : Fr t c M5 M7 := f6.trans ((Fr.up hp).trans f7)
          have fin : ∀ y, SzR 14 y → ∀ p2, M7 p2 = none → sp_law_min [.lst p2] (M7.up p2 [rat x, rat y]) fun y M3 => TapeAt M3 t c ∧ Fr t c M5 M3 ∧ ∃ zs' : List Rat, zs.map rat ++ [y] = zs'.map rat ∧ zs'.length = k + 1 ∧ ∀ y ∈ zs', SzR 14 y := by
            intro y sy p2 hp2
            refine ⟨p2, x, [y], rfl, up_same, ?_, ?_⟩
            · intro z hz
              simp at hz
              rcases hz with rfl | rfl
              · exact sx.mono (by omega)
              · exact sy.mono (by omega)
            · intro z hz
              refine ⟨tp7.up hp2, f67.trans (Fr.up hp2), zs ++ [z], by simp, by simp [hzl], ?_⟩
              intro y2 hy2
              rcases List.mem_append.mp hy2 with hy2 | hy2
              · exact hzs y2 hy2
              · simp at hy2
                subst hy2
                simp at hz
                rcases hz with rfl | rfl
                · exact sx
                · exact sy
          have h01 : v2 = 0 ∨ v2 = 1 := by omega
          rcases h01 with rfl | rfl
          · exact ⟨_, rfl, fin e se⟩
          · exact ⟨_, rfl, fin b sb⟩
        · rintro acc M' hac ⟨tp6, f6, zs, rfl, hzl, hzs⟩ p hp
          try walk_at "wp"
          rw [List.length_map] at hzl
          simp only [up_same, ex_some]
          refine last _ _ zs _ (fun _ _ h => h) (fun e => hne (List.length_eq_zero_iff.mp (by rw [← hzl, e]; rfl))) (by omega) hzs (tp6.up hp) ?_
          rw [up_ne (ne_some (f6 _ _ gt gc hg5) hp)]
          exact f6 _ _ gt gc hg5
      · simp only [z, decide_false, ite_f]
        exact last _ _ xs _ (fun _ _ h => h) hne h5 (fun y hy => (hsx y hy).mono (by omega)) tp5 hg5
    · rintro ρ M' ⟨e6, e7, e8, gs, rfl, tp, hgm, hgl, hgs⟩
      match gs, hgl, hgm, hgs with
      | [xs, ys], _, hgm, hgs =>
      have hx := hgs xs (by simp)
      have hy := hgs ys (by simp)
      simp only [ir_law_4]
      walk_at "wp"
      refine ⟨c, tp, by decide, .lit 8 (by decide) (by omega), ?_⟩
      intro v M5 _ _ tp5 f5
      have hg5 := f5 _ _ gt gc hgm
      try walk_at "wp"
      by_cases z : v = 0
      · simp only [z, decide_true, ite_t, hg5, List.map, tupR]
        walk_at "wp"
        refine ⟨⟨by simpa using hx.1, by decide, by decide, by rw [List.length_map]; omega⟩, ?_⟩
        simp only [hg5, ex_some, List.map, tupR]
        walk_at "wp"
        refine tail _ _ xs (xs ++ xs) _ _ _ (fun _ _ h => h) ?_ hx.2.1 (by simp; omega) hx.2.2 (fun y hy => by simp at hy; exact hx.2.2 y hy) hx.1 (by simpa using hx.1) (tp5.upL gt gc)
        rw [up_same]
        simp [tupR, List.replicate]
      · simp only [z, decide_false, ite_f]
        exact tail _ _ xs ys _ _ _ (fun _ _ h => h) hg5 hx.2.1 (by omega) hx.2.2 hy.2.2 hx.1 hy.1 tp5
  · rintro ρ M' ⟨e2, e3, e4, e5, e6, e7, e8, e9, e10, e11, e12, e13, e14, e15, e16, e17, e18, e19, e20, e21, e22, rfl, tp⟩
    simp only [ir_law_16]
    walk_at "wp"
    exact .mk (h _)
section
variable {w : World} {K : PySem.W.Frag} {mg : Str → Option Value} {h : Heap}
theorem asm {fa : Addr} (X : K.In h) (G : h.Ns mainGlobals mg) (hfa : mg "law" = some (.ref fa)) (nb : NoB K)
    (d_common_divisor : DefAt K "common_divisor" (topL 5))
    (d_ratio : DefAt K "ratio" (topL 6))
    (d_plus : DefAt K "plus" (topL 7))
    (d_minus : DefAt K "minus" (topL 8))
    (d_times : DefAt K "times" (topL 9))
    (d_over : DefAt K "over" (topL 10))
    (d_less : DefAt K "less" (topL 11))
    (d_sum_of : DefAt K "sum_of" (topL 12))
    (d_above : DefAt K "above" (topL 14))
    (d_between : DefAt K "between" (topL 16))
    (d_crossed : DefAt K "crossed" (topL 17))
    (d_two_rates : DefAt K "two_rates" (topL 18))
    (d_law_mix : DefAt K "_law_mix" (topL 20))
    (d_law_tape : DefAt K "_law_tape" (topL 21))
    (d_law_take : DefAt K "_law_take" (topL 22))
    (d_law_same : DefAt K "_law_same" (topL 23))
    (d_law_ratio : DefAt K "_law_ratio" (topL 24))
    (d_law_plus : DefAt K "_law_plus" (topL 25))
    (d_law_minus : DefAt K "_law_minus" (topL 26))
    (d_law_times : DefAt K "_law_times" (topL 27))
    (d_law_less : DefAt K "_law_less" (topL 28))
    (d_law_sum : DefAt K "_law_sum" (topL 29))
    (d_law_min : DefAt K "_law_min" (topL 30))
    (d_law_is_ratio : DefAt K "_law_is_ratio" (topL 31))
    (d_law_small : DefAt K "_law_small" (topL 32))
    (d_law_incomes : DefAt K "_law_incomes" (topL 33))
    (d_law_above : DefAt K "_law_above" (topL 34))
    (d_law : DefAt K "law" (topL 35))
    (k_ZERO : ConAt K "ZERO" (.tup [(.int 0), (.int 1)])) :
    ∃ fd : FuncData, (∀ (s : Shared) (v : Value), BindsTo s fd ⟨[v], []⟩ [("script", v)]) ∧ ∀ base : Heap, K.In base → base.Ns mainGlobals mg → FnOk (PySem.Challenge.rw_taxbands_k37_whole_two_rates).prog w K mg base CX0 31 fa fd ["script"] (LSp K 1 (Gm 30)) := by
  refine law_of (l := PySem.Challenge.rw_taxbands_k37_whole_two_rates) (lev := 30) (ps := ["script"]) X G hfa nb d_law (fun _ _ _ _ _ _ us hl => match us, hl with | [_], _ => rfl) hs_law hc_law bd_law rfl rfl (fun base hb hg => ?_) ?_ rfl
  have g_common_divisor : Good _ w K mg base Gm 1 "common_divisor" 0 2 := good_of (P := (PySem.Challenge.rw_taxbands_k37_whole_two_rates).prog) X G nb d_common_divisor (fun _ _ _ _ _ _ us hl => match us, hl with | [_, _], _ => rfl) hs_common_divisor hc_common_divisor bd_common_divisor rfl rfl fns_nil cs_nil
  have g_ratio : Good _ w K mg base Gm 2 "ratio" 1 2 := good_of (P := (PySem.Challenge.rw_taxbands_k37_whole_two_rates).prog) X G nb d_ratio (fun _ _ _ _ _ _ us hl => match us, hl with | [_, _], _ => rfl) hs_ratio hc_ratio bd_ratio rfl rfl (fns_cons (g_common_divisor.mono (by omega)) fns_nil) cs_nil
  have g_plus : Good _ w K mg base Gm 3 "plus" 2 2 := good_of (P := (PySem.Challenge.rw_taxbands_k37_whole_two_rates).prog) X G nb d_plus (fun _ _ _ _ _ _ us hl => match us, hl with | [_, _], _ => rfl) hs_plus hc_plus bd_plus rfl rfl (fns_cons (g_ratio.mono (by omega)) fns_nil) cs_nil
  have g_minus : Good _ w K mg base Gm 4 "minus" 3 2 := good_of (P := (PySem.Challenge.rw_taxbands_k37_whole_two_rates).prog) X G nb d_minus (fun _ _ _ _ _ _ us hl => match us, hl with | [_, _], _ => rfl) hs_minus hc_minus bd_minus rfl rfl (fns_cons (g_ratio.mono (by omega)) fns_nil) cs_nil
  have g_times : Good _ w K mg base Gm 5 "times" 4 2 := good_of (P := (PySem.Challenge.rw_taxbands_k37_whole_two_rates).prog) X G nb d_times (fun _ _ _ _ _ _ us hl => match us, hl with | [_, _], _ => rfl) hs_times hc_times bd_times rfl rfl (fns_cons (g_ratio.mono (by omega)) fns_nil) cs_nil
  have g_over : Good _ w K mg base Gm 6 "over" 5 2 := good_of (P := (PySem.Challenge.rw_taxbands_k37_whole_two_rates).prog) X G nb d_over (fun _ _ _ _ _ _ us hl => match us, hl with | [_, _], _ => rfl) hs_over hc_over bd_over rfl rfl (fns_cons (g_ratio.mono (by omega)) fns_nil) cs_nil
  have g_less : Good _ w K mg base Gm 7 "less" 6 2 := good_of (P := (PySem.Challenge.rw_taxbands_k37_whole_two_rates).prog) X G nb d_less (fun _ _ _ _ _ _ us hl => match us, hl with | [_, _], _ => rfl) hs_less hc_less bd_less rfl rfl fns_nil cs_nil
  have g_sum_of : Good _ w K mg base Gm 8 "sum_of" 7 1 := good_of (P := (PySem.Challenge.rw_taxbands_k37_whole_two_rates).prog) X G nb d_sum_of (fun _ _ _ _ _ _ us hl => match us, hl with | [_], _ => rfl) hs_sum_of hc_sum_of bd_sum_of rfl rfl (fns_cons (g_plus.mono (by omega)) fns_nil) (cs_cons k_ZERO cs_nil)
  have g_above : Good _ w K mg base Gm 9 "above" 8 2 := good_of (P := (PySem.Challenge.rw_taxbands_k37_whole_two_rates).prog) X G nb d_above (fun _ _ _ _ _ _ us hl => match us, hl with | [_, _], _ => rfl) hs_above hc_above bd_above rfl rfl (fns_cons (g_less.mono (by omega)) (fns_cons (g_minus.mono (by omega)) (fns_cons (g_sum_of.mono (by omega)) fns_nil))) cs_nil
  have g_between : Good _ w K mg base Gm 10 "between" 9 3 := good_of (P := (PySem.Challenge.rw_taxbands_k37_whole_two_rates).prog) X G nb d_between (fun _ _ _ _ _ _ us hl => match us, hl with | [_, _, _], _ => rfl) hs_between hc_between bd_between rfl rfl (fns_cons (g_above.mono (by omega)) (fns_cons (g_minus.mono (by omega)) fns_nil)) cs_nil
  have g_crossed : Good _ w K mg base Gm 11 "crossed" 10 4 := good_of (P := (PySem.Challenge.rw_taxbands_k37_whole_two_rates).prog) X G nb d_crossed (fun _ _ _ _ _ _ us hl => match us, hl with | [_, _, _, _], _ => rfl) hs_crossed hc_crossed bd_crossed rfl rfl (fns_cons (g_minus.mono (by omega)) (fns_cons (g_times.mono (by omega)) fns_nil)) cs_nil
  have g_two_rates : Good _ w K mg base Gm 12 "two_rates" 11 6 := good_of (P := (PySem.Challenge.rw_taxbands_k37_whole_two_rates).prog) X G nb d_two_rates (fun _ _ _ _ _ _ us hl => match us, hl with | [_, _, _, _, _, _], _ => rfl) hs_two_rates hc_two_rates bd_two_rates rfl rfl (fns_cons (g_above.mono (by omega)) (fns_cons (g_between.mono (by omega)) (fns_cons (g_crossed.mono (by omega)) (fns_cons (g_over.mono (by omega)) fns_nil)))) (cs_cons k_ZERO cs_nil)
  have g_law_mix : Good _ w K mg base Gm 13 "_law_mix" 12 1 := good_of (P := (PySem.Challenge.rw_taxbands_k37_whole_two_rates).prog) X G nb d_law_mix (fun _ _ _ _ _ _ us hl => match us, hl with | [_], _ => rfl) hs_law_mix hc_law_mix bd_law_mix rfl rfl fns_nil cs_nil
  have g_law_tape : Good _ w K mg base Gm 14 "_law_tape" 13 1 := good_of (P := (PySem.Challenge.rw_taxbands_k37_whole_two_rates).prog) X G nb d_law_tape (fun _ _ _ _ _ _ us hl => match us, hl with | [_], _ => rfl) hs_law_tape hc_law_tape bd_law_tape rfl rfl fns_nil cs_nil
  have g_law_take : Good _ w K mg base Gm 15 "_law_take" 14 2 := good_of (P := (PySem.Challenge.rw_taxbands_k37_whole_two_rates).prog) X G nb d_law_take (fun _ _ _ _ _ _ us hl => match us, hl with | [_, _], _ => rfl) hs_law_take hc_law_take bd_law_take rfl rfl (fns_cons (g_law_mix.mono (by omega)) fns_nil) cs_nil
  have g_law_same_0 : Good _ w K mg base Gm 16 "_law_same" 15 2 := good_zero (P := (PySem.Challenge.rw_taxbands_k37_whole_two_rates).prog) (w := w) (base := base) (ps := ["a", "b"]) X G d_law_same (fun _ _ _ _ _ _ us hl => match us, hl with | [_, _], _ => rfl) fun _ _ _ h => h.1 rfl
  have g_law_same_1 : Good _ w K mg base Gm 17 "_law_same" 16 2 := good_of (P := (PySem.Challenge.rw_taxbands_k37_whole_two_rates).prog) X G nb d_law_same (fun _ _ _ _ _ _ us hl => match us, hl with | [_, _], _ => rfl) hs_law_same (hc_law_same 15) (bd_law_same (g := 15) (k := 0) rfl) rfl rfl (fns_cons (g_law_same_0.mono (by omega)) fns_nil) cs_nil
  have g_law_same_2 : Good _ w K mg base Gm 18 "_law_same" 17 2 := good_of (P := (PySem.Challenge.rw_taxbands_k37_whole_two_rates).prog) X G nb d_law_same (fun _ _ _ _ _ _ us hl => match us, hl with | [_, _], _ => rfl) hs_law_same (hc_law_same 16) (bd_law_same (g := 16) (k := 1) rfl) rfl rfl (fns_cons (g_law_same_1.mono (by omega)) fns_nil) cs_nil
  have g_law_same_3 : Good _ w K mg base Gm 19 "_law_same" 18 2 := good_of (P := (PySem.Challenge.rw_taxbands_k37_whole_two_rates).prog) X G nb d_law_same (fun _ _ _ _ _ _ us hl => match us, hl with | [_, _], _ => rfl) hs_law_same (hc_law_same 17) (bd_law_same (g := 17) (k := 2) rfl) rfl rfl (fns_cons (g_law_same_2.mono (by omega)) fns_nil) cs_nil
  have g_law_ratio : Good _ w K mg base Gm 20 "_law_ratio" 19 2 := good_of (P := (PySem.Challenge.rw_taxbands_k37_whole_two_rates).prog) X G nb d_law_ratio (fun _ _ _ _ _ _ us hl => match us, hl with | [_, _], _ => rfl) hs_law_ratio hc_law_ratio bd_law_ratio rfl rfl fns_nil cs_nil
  have g_law_plus : Good _ w K mg base Gm 21 "_law_plus" 20 2 := good_of (P := (PySem.Challenge.rw_taxbands_k37_whole_two_rates).prog) X G nb d_law_plus (fun _ _ _ _ _ _ us hl => match us, hl with | [_, _], _ => rfl) hs_law_plus hc_law_plus bd_law_plus rfl rfl (fns_cons (g_law_ratio.mono (by omega)) fns_nil) cs_nil
  have g_law_minus : Good _ w K mg base Gm 22 "_law_minus" 21 2 := good_of (P := (PySem.Challenge.rw_taxbands_k37_whole_two_rates).prog) X G nb d_law_minus (fun _ _ _ _ _ _ us hl => match us, hl with | [_, _], _ => rfl) hs_law_minus hc_law_minus bd_law_minus rfl rfl (fns_cons (g_law_ratio.mono (by omega)) fns_nil) cs_nil
  have g_law_times : Good _ w K mg base Gm 23 "_law_times" 22 2 := good_of (P := (PySem.Challenge.rw_taxbands_k37_whole_two_rates).prog) X G nb d_law_times (fun _ _ _ _ _ _ us hl => match us, hl with | [_, _], _ => rfl) hs_law_times hc_law_times bd_law_times rfl rfl (fns_cons (g_law_ratio.mono (by omega)) fns_nil) cs_nil
  have g_law_less : Good _ w K mg base Gm 24 "_law_less" 23 2 := good_of (P := (PySem.Challenge.rw_taxbands_k37_whole_two_rates).prog) X G nb d_law_less (fun _ _ _ _ _ _ us hl => match us, hl with | [_, _], _ => rfl) hs_law_less hc_law_less bd_law_less rfl rfl fns_nil cs_nil
  have g_law_sum : Good _ w K mg base Gm 25 "_law_sum" 24 1 := good_of (P := (PySem.Challenge.rw_taxbands_k37_whole_two_rates).prog) X G nb d_law_sum (fun _ _ _ _ _ _ us hl => match us, hl with | [_], _ => rfl) hs_law_sum hc_law_sum bd_law_sum rfl rfl (fns_cons (g_law_plus.mono (by omega)) fns_nil) cs_nil
  have g_law_min : Good _ w K mg base Gm 26 "_law_min" 25 1 := good_of (P := (PySem.Challenge.rw_taxbands_k37_whole_two_rates).prog) X G nb d_law_min (fun _ _ _ _ _ _ us hl => match us, hl with | [_], _ => rfl) hs_law_min hc_law_min bd_law_min rfl rfl (fns_cons (g_law_less.mono (by omega)) fns_nil) cs_nil
  have g_law_is_ratio : Good _ w K mg base Gm 27 "_law_is_ratio" 26 1 := good_of (P := (PySem.Challenge.rw_taxbands_k37_whole_two_rates).prog) X G nb d_law_is_ratio (fun _ _ _ _ _ _ us hl => match us, hl with | [_], _ => rfl) hs_law_is_ratio hc_law_is_ratio bd_law_is_ratio rfl rfl (fns_cons (g_law_ratio.mono (by omega)) fns_nil) cs_nil
  have g_law_small : Good _ w K mg base Gm 28 "_law_small" 27 2 := good_of (P := (PySem.Challenge.rw_taxbands_k37_whole_two_rates).prog) X G nb d_law_small (fun _ _ _ _ _ _ us hl => match us, hl with | [_, _], _ => rfl) hs_law_small hc_law_small bd_law_small rfl rfl (fns_cons (g_law_ratio.mono (by omega)) (fns_cons (g_law_take.mono (by omega)) fns_nil)) cs_nil
  have g_law_incomes : Good _ w K mg base Gm 29 "_law_incomes" 28 2 := good_of (P := (PySem.Challenge.rw_taxbands_k37_whole_two_rates).prog) X G nb d_law_incomes (fun _ _ _ _ _ _ us hl => match us, hl with | [_, _], _ => rfl) hs_law_incomes hc_law_incomes bd_law_incomes rfl rfl (fns_cons (g_law_small.mono (by omega)) (fns_cons (g_law_take.mono (by omega)) fns_nil)) cs_nil
  have g_law_above : Good _ w K mg base Gm 30 "_law_above" 29 2 := good_of (P := (PySem.Challenge.rw_taxbands_k37_whole_two_rates).prog) X G nb d_law_above (fun _ _ _ _ _ _ us hl => match us, hl with | [_, _], _ => rfl) hs_law_above hc_law_above bd_law_above rfl rfl (fns_cons (g_law_less.mono (by omega)) (fns_cons (g_law_minus.mono (by omega)) (fns_cons (g_law_sum.mono (by omega)) fns_nil))) cs_nil
  · exact (fns_cons (g_law_above.mono (by omega)) (fns_cons (g_law_incomes.mono (by omega)) (fns_cons (g_law_is_ratio.mono (by omega)) (fns_cons (g_law_min.mono (by omega)) (fns_cons (g_law_minus.mono (by omega)) (fns_cons (g_law_plus.mono (by omega)) (fns_cons (g_law_ratio.mono (by omega)) (fns_cons (g_law_same_3.mono (by omega)) (fns_cons (g_law_small.mono (by omega)) (fns_cons (g_law_take.mono (by omega)) (fns_cons (g_law_tape.mono (by omega)) (fns_cons (g_law_times.mono (by omega)) (fns_cons (g_between.mono (by omega)) (fns_cons (g_two_rates.mono (by omega)) fns_nil))))))))))))))
  · exact cs_nil
end
end TB
open PySem PySem.W PyProof.Rows
set_option maxRecDepth 100000 in
set_option maxHeartbeats 0 in
theorem PySem.Challenge.cw_taxbands_k37_whole_two_rates_holds : PySem.Challenge.rw_taxbands_k37_whole_two_rates.Holds := by
  w_on; o_law; k_head; (case hw => w_witness2)
  k_fill
  refine L2.walk_of (l := PySem.Challenge.rw_taxbands_k37_whole_two_rates) (n := 63) (k := 31) (x := "script") (CX := fun _ => L2.CX0) (sp := fun w => TB.LSp _ 1 TB.spLaw) rfl (by decide) rfl ⟨rfl, by decide, by decide⟩ (fun w h Y => PySem.W.kIn_of Y) ?F (fun w H a ns hl hO hS => TB.law_start hl hO hS) (fun _ _ _ _ _ h => h)
  case F =>
    intro w mg fa h KX G hmg
    refine' TB.asm KX G hmg ?nb ?d_common_divisor ?d_ratio ?d_plus ?d_minus ?d_times ?d_over ?d_less ?d_sum_of ?d_above ?d_between ?d_crossed ?d_two_rates ?d_law_mix ?d_law_tape ?d_law_take ?d_law_same ?d_law_ratio ?d_law_plus ?d_law_minus ?d_law_times ?d_law_less ?d_law_sum ?d_law_min ?d_law_is_ratio ?d_law_small ?d_law_incomes ?d_law_above ?d_law ?k_ZERO
    (case nb => (refine' TB.noB_mk ?_ ?_ ?_ ?_ ?_ ?_ ?_ ?_ ?_ ?_ ?_ ?_ ?_ ?_ <;> k_is))
    (case d_common_divisor => (refine' TB.DefAt.mk ?a ?l ?c ?k; (case a => k_is); (case l => k_is); (case c => k_is); (case k => k_is)))
    (case d_ratio => (refine' TB.DefAt.mk ?a ?l ?c ?k; (case a => k_is); (case l => k_is); (case c => k_is); (case k => k_is)))
    (case d_plus => (refine' TB.DefAt.mk ?a ?l ?c ?k; (case a => k_is); (case l => k_is); (case c => k_is); (case k => k_is)))
    (case d_minus => (refine' TB.DefAt.mk ?a ?l ?c ?k; (case a => k_is); (case l => k_is); (case c => k_is); (case k => k_is)))
    (case d_times => (refine' TB.DefAt.mk ?a ?l ?c ?k; (case a => k_is); (case l => k_is); (case c => k_is); (case k => k_is)))
    (case d_over => (refine' TB.DefAt.mk ?a ?l ?c ?k; (case a => k_is); (case l => k_is); (case c => k_is); (case k => k_is)))
    (case d_less => (refine' TB.DefAt.mk ?a ?l ?c ?k; (case a => k_is); (case l => k_is); (case c => k_is); (case k => k_is)))
    (case d_sum_of => (refine' TB.DefAt.mk ?a ?l ?c ?k; (case a => k_is); (case l => k_is); (case c => k_is); (case k => k_is)))
    (case d_above => (refine' TB.DefAt.mk ?a ?l ?c ?k; (case a => k_is); (case l => k_is); (case c => k_is); (case k => k_is)))
    (case d_between => (refine' TB.DefAt.mk ?a ?l ?c ?k; (case a => k_is); (case l => k_is); (case c => k_is); (case k => k_is)))
    (case d_crossed => (refine' TB.DefAt.mk ?a ?l ?c ?k; (case a => k_is); (case l => k_is); (case c => k_is); (case k => k_is)))
    (case d_two_rates => (refine' TB.DefAt.mk ?a ?l ?c ?k; (case a => k_is); (case l => k_is); (case c => k_is); (case k => k_is)))
    (case d_law_mix => (refine' TB.DefAt.mk ?a ?l ?c ?k; (case a => k_is); (case l => k_is); (case c => k_is); (case k => k_is)))
    (case d_law_tape => (refine' TB.DefAt.mk ?a ?l ?c ?k; (case a => k_is); (case l => k_is); (case c => k_is); (case k => k_is)))
    (case d_law_take => (refine' TB.DefAt.mk ?a ?l ?c ?k; (case a => k_is); (case l => k_is); (case c => k_is); (case k => k_is)))
    (case d_law_same => (refine' TB.DefAt.mk ?a ?l ?c ?k; (case a => k_is); (case l => k_is); (case c => k_is); (case k => k_is)))
    (case d_law_ratio => (refine' TB.DefAt.mk ?a ?l ?c ?k; (case a => k_is); (case l => k_is); (case c => k_is); (case k => k_is)))
    (case d_law_plus => (refine' TB.DefAt.mk ?a ?l ?c ?k; (case a => k_is); (case l => k_is); (case c => k_is); (case k => k_is)))
    (case d_law_minus => (refine' TB.DefAt.mk ?a ?l ?c ?k; (case a => k_is); (case l => k_is); (case c => k_is); (case k => k_is)))
    (case d_law_times => (refine' TB.DefAt.mk ?a ?l ?c ?k; (case a => k_is); (case l => k_is); (case c => k_is); (case k => k_is)))
    (case d_law_less => (refine' TB.DefAt.mk ?a ?l ?c ?k; (case a => k_is); (case l => k_is); (case c => k_is); (case k => k_is)))
    (case d_law_sum => (refine' TB.DefAt.mk ?a ?l ?c ?k; (case a => k_is); (case l => k_is); (case c => k_is); (case k => k_is)))
    (case d_law_min => (refine' TB.DefAt.mk ?a ?l ?c ?k; (case a => k_is); (case l => k_is); (case c => k_is); (case k => k_is)))
    (case d_law_is_ratio => (refine' TB.DefAt.mk ?a ?l ?c ?k; (case a => k_is); (case l => k_is); (case c => k_is); (case k => k_is)))
    (case d_law_small => (refine' TB.DefAt.mk ?a ?l ?c ?k; (case a => k_is); (case l => k_is); (case c => k_is); (case k => k_is)))
    (case d_law_incomes => (refine' TB.DefAt.mk ?a ?l ?c ?k; (case a => k_is); (case l => k_is); (case c => k_is); (case k => k_is)))
    (case d_law_above => (refine' TB.DefAt.mk ?a ?l ?c ?k; (case a => k_is); (case l => k_is); (case c => k_is); (case k => k_is)))
    (case d_law => (refine' TB.DefAt.mk ?a ?l ?c ?k; (case a => k_is); (case l => k_is); (case c => k_is); (case k => k_is)))
    (case k_ZERO => (refine' TB.ConAt.pair ?a ?l; (case a => k_is); (case l => k_is)))

